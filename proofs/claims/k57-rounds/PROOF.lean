import PyProof.Rows.All
import Wide.All
import OpenK.AllK
import Wide.FinOn
import HandS.ForMost
import HandS.Walk
import HandS.Exc
import HandS.ExcOwn
import HandS.ExcInit
import HandS.ExcField
import HandS.CallSlots
import HandS.IsInst
import HandS.Style
import HandS.Flow
import HandS.Zip
import HandS.Rev
import HandS.Defaults
import HandS.Small
import HandS.SetKeys
import HandS.TupAny
import HandS.TupMul
import HandS.TryMany
import HandS.HeadHook2
import HandS.TupLe
import HandS.SortInts
import KE.GoesEnum
import KE.GoesMore
import KE.GoesZip
import HandS.Head0
import HandS.Head1
import HandS.Head2
import HandS.HeadEnd
import HandS.HeadHook1
import PySem.Challenge.RW_barterback_k57_rounds_judged
set_option autoImplicit false
/-! MPa: a small language: values, expressions, statements, and what they do. -/
namespace MP

/-- a value as a tree -/
inductive D where
  | non
  | bl (b : Bool)
  | int (i : Int)
  | str (s : List Nat)
  | tup (xs : List D)
  | lst (xs : List D)
  | scr (ns : List Int)
  | rcd (c : Nat) (fs : List D)
  | ref (i : Nat)
  | exc (c : Nat) (fs : List D)
  deriving Inhabited

mutual
def D.beq : D → D → Bool
  | .non, .non => true
  | .bl a, .bl b => a == b
  | .int a, .int b => a == b
  | .str a, .str b => a == b
  | .tup a, .tup b => D.beqs a b
  | .lst a, .lst b => D.beqs a b
  | .scr a, .scr b => a == b
  | .rcd c a, .rcd d b => c == d && D.beqs a b
  | .ref a, .ref b => a == b
  | .exc c a, .exc d b => c == d && D.beqs a b
  | _, _ => false
def D.beqs : List D → List D → Bool
  | [], [] => true
  | a :: as, b :: bs => D.beq a b && D.beqs as bs
  | _, _ => false
end
mutual
theorem D.beq_eq : ∀ a b : D, D.beq a b = true → a = b
  | .non, b, h => by cases b <;> simp_all [D.beq]
  | .bl _, b, h => by cases b <;> simp_all [D.beq]
  | .int _, b, h => by cases b <;> simp_all [D.beq]
  | .str _, b, h => by cases b <;> simp_all [D.beq]
  | .tup x, b, h => by
    cases b <;> simp_all [D.beq]
    exact D.beqs_eq _ _ h
  | .lst x, b, h => by
    cases b <;> simp_all [D.beq]
    exact D.beqs_eq _ _ h
  | .scr _, b, h => by cases b <;> simp_all [D.beq]
  | .rcd _ x, b, h => by
    cases b <;> simp_all [D.beq]
    exact D.beqs_eq _ _ h.2
  | .ref _, b, h => by cases b <;> simp_all [D.beq]
  | .exc _ x, b, h => by
    cases b <;> simp_all [D.beq]
    exact D.beqs_eq _ _ h.2
theorem D.beqs_eq : ∀ a b : List D, D.beqs a b = true → a = b
  | [], b, h => by cases b <;> simp_all [D.beqs]
  | a :: as, b, h => by
    cases b with
    | nil => simp_all [D.beqs]
    | cons b bs =>
      simp only [D.beqs, Bool.and_eq_true] at h
      rw [D.beq_eq a b h.1, D.beqs_eq as bs h.2]
end
mutual
theorem D.beq_rfl : ∀ a : D, D.beq a a = true
  | .non => by simp [D.beq]
  | .bl _ => by simp [D.beq]
  | .int _ => by simp [D.beq]
  | .str _ => by simp [D.beq]
  | .tup x => by simp only [D.beq]; exact D.beqs_rfl x
  | .lst x => by simp only [D.beq]; exact D.beqs_rfl x
  | .scr _ => by simp [D.beq]
  | .rcd _ x => by simp only [D.beq, beq_self_eq_true, Bool.true_and]; exact D.beqs_rfl x
  | .ref _ => by simp [D.beq]
  | .exc _ x => by simp only [D.beq, beq_self_eq_true, Bool.true_and]; exact D.beqs_rfl x
theorem D.beqs_rfl : ∀ a : List D, D.beqs a a = true
  | [] => by simp [D.beqs]
  | a :: as => by simp only [D.beqs, Bool.and_eq_true]; exact ⟨D.beq_rfl a, D.beqs_rfl as⟩
end
instance : DecidableEq D := fun a b =>
  if h : D.beq a b = true then isTrue (D.beq_eq a b h) else isFalse fun e => h (e ▸ D.beq_rfl a)

/-- a thing that may change -/
inductive Cell where
  | lst (xs : List D)
  | dct (kvs : List (D × D))
  | ins (c : Nat) (fs : List (Nat × D))
  | dead
  deriving Inhabited, DecidableEq
abbrev Sto := List Cell
abbrev Env := List (Option D)

inductive R (α : Type) where
  | ok (a : α) (s : Sto)
  | ex (c : Nat) (fs : List D) (s : Sto)
  | no
def R.bind {α β : Type} (r : R α) (f : α → Sto → R β) : R β := match r with
  | .ok a s => f a s
  | .ex c fs s => .ex c fs s
  | .no => .no
@[simp] theorem R.bind_ok {α β : Type} (a : α) (s : Sto) (f : α → Sto → R β) : (R.ok a s).bind f = f a s := rfl
@[simp] theorem R.bind_ex {α β : Type} (c : Nat) (fs : List D) (s : Sto) (f : α → Sto → R β) : (R.ex c fs s : R α).bind f = .ex c fs s := rfl
@[simp] theorem R.bind_no {α β : Type} (f : α → Sto → R β) : (R.no : R α).bind f = .no := rfl
/-- a value, or nothing is known -/
def R.opt {α : Type} (o : Option α) (s : Sto) : R α := match o with
  | some a => .ok a s
  | none => .no
@[simp] theorem R.opt_some {α : Type} (a : α) (s : Sto) : R.opt (some a) s = .ok a s := rfl
@[simp] theorem R.opt_none {α : Type} (s : Sto) : R.opt (none : Option α) s = .no := rfl

def opt1 {α β : Type} (o : Option α) (f : α → R β) : R β := match o with
  | some a => f a
  | none => .no
@[simp] theorem opt1_some {α β : Type} (a : α) (f : α → R β) : opt1 (some a) f = f a := rfl
@[simp] theorem opt1_none {α β : Type} (f : α → R β) : opt1 (none : Option α) f = .no := rfl

inductive BOp where | add | sub | mul | fdiv | mod | pow
  deriving Inhabited, DecidableEq
inductive COp where | eq | ne | lt | le | gt | ge | is | isnot | isin | notin
  deriving Inhabited, DecidableEq
inductive Ty where | int | bool | str | tuple | list | dict | cls (c : Nat) | val
  deriving Inhabited, DecidableEq
/-- built-in functions that make nothing that may change -/
inductive Bi where | len | abs | max2 | min2 | toInt | toTup | sum | any | all | maxL | minL
  deriving Inhabited, DecidableEq
/-- built-in functions and forms that make a list -/
inductive Li where | toList | sorted
  deriving Inhabited, DecidableEq
inductive Bm where | append | pop | popAt | clear | reverse | extend
  deriving Inhabited, DecidableEq
inductive T where | name (i : Nat) | tup (ts : List T)
  deriving Inhabited

mutual
inductive E where
  | bad
  | var (i : Nat)
  | lit (d : D)
  | glob (g : Nat)
  | bin (o : BOp) (a b : E)
  | neg (a : E)
  | cmp (o : COp) (a b : E)
  | chain (o o' : COp) (a b c : E)
  | and (es : List E)
  | or (es : List E)
  | not (a : E)
  | ite (c a b : E)
  | tup (es : List E)
  | lst (m : Bool) (es : List E)
  | dct (ks : List D) (vs : List E)
  | setdef (a k v : E)
  | idx (a b : E)
  | slc (m : Bool) (a : E) (lo hi : Option E)
  | fld (a : E) (f : Nat)
  | call (f : Nat) (es : List E)
  | callK (f : Nat) (es : List E) (ks : List Nat) (kes : List E)
  | meth (m : Nat) (a : E) (es : List E)
  | make (c : Nat) (es : List E)
  | bi (b : Bi) (es : List E)
  | li (b : Li) (m : Bool) (a : E)
  | bm (b : Bm) (a : E) (es : List E)
  | isi (a : E) (ts : List Ty)
  | xfld (i f : Nat)
  | xisi (i : Nat) (t : Ty)
  | dget (a k : E)
  | din (neg : Bool) (k a : E)
  | comp (m : Bool) (own : List Nat) (elt : E) (t : T) (it : I) (ifs : List E)
  | comp2 (m : Bool) (own own2 : List Nat) (elt : E) (t : T) (it : I) (t2 : T) (it2 : I)
inductive I where
  | seq (e : E)
  | range (es : List E)
  | enum (e : E)
  | zip (es : List E)
  | rev (e : E)
end
instance : Inhabited E := ⟨.var 0⟩
instance : Inhabited I := ⟨.seq (.var 0)⟩

mutual
inductive S where
  | bad
  | expr (e : E)
  | asg (t : T) (e : E)
  | seti (a i e : E)
  | setf (o : E) (f : Nat) (e : E)
  | dput (a k e : E)
  | daug (a k : E) (o : BOp) (e : E)
  | aug (i : Nat) (o : BOp) (e : E)
  | augi (a i : E) (o : BOp) (e : E)
  | augf (a : E) (f : Nat) (o : BOp) (e : E)
  | par (is : List Nat) (es : List E)
  | ret (e : E)
  | retN
  | ife (c : E) (a b : List S)
  | forS (t : T) (it : I) (body : List S)
  | whileS (c : E) (body : List S)
  | brk
  | cnt
  | pass
  | raise (c : Nat) (es : List E)
  | tryS (body : List S) (hs : List Hd)
  | fgt (is : List Nat)
  | frz (i : Nat)
inductive Hd where
  | mk (c : Nat) (slot : Option Nat) (body : List S)
end
instance : Inhabited S := ⟨.pass⟩

structure Fn where
  np : Nat
  ns : Nat
  dfl : List D
  mode : Nat
  body : List S
structure Cls where
  exn : Bool
  flds : List Nat
  init : Option Nat
  frozen : Bool
  meths : List (Nat × Nat)
  deriving Inhabited
structure Prog where
  fn : Nat → Option Fn
  cls : Nat → Option Cls
  sub : Nat → Nat → Bool
  glob : Nat → Option D

/-- what the functions and classes do -/
structure G where
  call : Nat → List D → Sto → R D
  dfl : Nat → List D
  np : Nat → Nat
  cls : Nat → Option Cls
  sub : Nat → Nat → Bool
  glob : Nat → Option D

abbrev LINE : Nat := 16777216
abbrev WFUEL : Nat := 1000000000000

/-! ### values -/
def seqOf (s : Sto) : D → Option (List D)
  | .tup xs => some xs
  | .lst xs => some xs
  | .scr ns => some (ns.map D.int)
  | .ref i => match s[i]? with
    | some (.lst xs) => some xs
    | _ => none
  | _ => none
/-- a list, made by the program -/
def lstOf (s : Sto) : D → Option (List D)
  | .lst xs => some xs
  | .ref i => match s[i]? with
    | some (.lst xs) => some xs
    | _ => none
  | _ => none
def truthy (s : Sto) : D → Option Bool
  | .non => some false
  | .bl b => some b
  | .int i => some (i != 0)
  | .str x => if x.length ≤ LINE then some (!x.isEmpty) else none
  | .tup xs => some (!xs.isEmpty)
  | .lst xs => some (!xs.isEmpty)
  | .ref i => match s[i]? with
    | some (.lst xs) => some (!xs.isEmpty)
    | _ => none
  | _ => none
def mulOk (i j : Int) : Bool := (decide (-(2 ^ 64) < i) && decide (i < 2 ^ 64)) || (decide (-(2 ^ 64) < j) && decide (j < 2 ^ 64))
def powOk (i j : Int) : Bool := decide (0 ≤ j) && (decide (j ≤ 1000000) && decide (i.natAbs < 2 ^ 64))
/-- a op= b at a name -/
def augOk : D → D → Bool
  | .int _, .int _ => true
  | _, _ => false
def repD (xs : List D) (k : Int) : List D := (List.replicate k.toNat xs).flatten
def binop (s : Sto) (o : BOp) (a b : D) : Option D :=
  match o, a, b with
  | .add, .int i, .int j => some (.int (i + j))
  | .sub, .int i, .int j => some (.int (i - j))
  | .mul, .int i, .int j => if mulOk i j then some (.int (i * j)) else none
  | .fdiv, .int i, .int j => if decide (0 < j) && decide (j < 1073741824) then some (.int (i / j)) else none
  | .mod, .int i, .int j => if decide (0 < j) then some (.int (i % j)) else none
  | .pow, .int i, .int j => if powOk i j then some (.int (i ^ j.toNat)) else none
  | .add, .str x, .str y => if x.length + y.length ≤ LINE then some (.str (x ++ y)) else none
  | .add, .tup x, .tup y => if x.length + y.length ≤ LINE then some (.tup (x ++ y)) else none
  | .mul, .tup x, .int k => if decide (1 ≤ k) && decide (k ≤ 1000) && decide (x.length ≤ 1000) then some (.tup (repD x k)) else none
  | .mul, .str x, .int k => if decide (1 ≤ k) && decide (k ≤ 1000) && decide (x.length ≤ 1000) then some (.str (List.replicate k.toNat x).flatten) else none
  | .add, a, b => match lstOf s a, lstOf s b with
    | some x, some y => if x.length + y.length ≤ LINE then some (.lst (x ++ y)) else none
    | _, _ => none
  | .mul, a, .int k => match lstOf s a with
    | some x => if decide (0 ≤ k) && decide (k ≤ 1000000) && decide (x.length * k.toNat ≤ LINE) then some (.lst (repD x k)) else none
    | none => none
  | _, _, _ => none
/-- data without anything that may change, to a depth -/
def dataOf (s : Sto) : Nat → D → Option D
  | _, .non => some .non
  | _, .bl b => some (.bl b)
  | _, .int i => some (.int i)
  | _, .str x => if x.all (fun c => decide (c < 1114112)) then some (.str x) else none
  | 0, _ => none
  | n + 1, .tup xs => (xs.mapM (dataOf s n)).map D.tup
  | n + 1, .lst xs => (xs.mapM (dataOf s n)).map D.lst
  | n + 1, .ref i => match s[i]? with
    | some (.lst xs) => (xs.mapM (dataOf s n)).map D.lst
    | _ => none
  | _, _ => none
mutual
/-- == of data -/
def eqv : D → D → Bool
  | .non, .non => true
  | .bl a, .bl b => a == b
  | .bl a, .int j => (if a then 1 else 0) == j
  | .int i, .bl b => i == (if b then 1 else 0)
  | .int i, .int j => i == j
  | .str x, .str y => x == y
  | .lst xs, .lst ys => eqvs xs ys
  | .tup xs, .tup ys => eqvs xs ys
  | _, _ => false
def eqvs : List D → List D → Bool
  | [], [] => true
  | x :: xs, y :: ys => eqv x y && eqvs xs ys
  | _, _ => false
end
mutual
/-- < of data: ints, texts, tuples; none: not told -/
def ltv : D → D → Option Bool
  | .int i, .int j => some (decide (i < j))
  | .tup xs, .tup ys => ltvs xs ys
  | _, _ => none
def ltvs : List D → List D → Option Bool
  | [], [] => some false
  | [], _ :: _ => some true
  | _ :: _, [] => some false
  | x :: xs, y :: ys => match ltv x y, ltvs xs ys with
    | some a, some b => some (if eqv x y then b else a)
    | _, _ => none
end
def eqD (s : Sto) (a b : D) : Option Bool := match dataOf s 60 a, dataOf s 60 b with
  | some x, some y => some (eqv x y)
  | _, _ => none
def ltD (s : Sto) (a b : D) : Option Bool := match dataOf s 60 a, dataOf s 60 b with
  | some x, some y => ltv x y
  | _, _ => none
def flat : D → Bool
  | .non => true
  | .bl _ => true
  | .int _ => true
  | .str _ => true
  | _ => false
/-- in a list or a tuple -/
def inS (s : Sto) (x y : D) : Option Bool := match seqOf s y with
  | some ys => if flat x && ys.all flat then some (ys.any fun y => eqv y x) else none
  | none => none
def isD (a b : D) : Option Bool := match b with
  | .non => some (decide (a = .non))
  | .bl b => match a with
    | .bl a => some (a == b)
    | _ => none
  | _ => none
def cmpop (s : Sto) (o : COp) (a b : D) : Option Bool := match o with
  | .eq => eqD s a b
  | .ne => (eqD s a b).map (!·)
  | .lt => ltD s a b
  | .gt => match a, b with
    | .int i, .int j => some (decide (j < i))
    | _, _ => none
  | .le => match a, b with
    | .int i, .int j => some (decide (i ≤ j))
    | _, _ => none
  | .ge => match a, b with
    | .int i, .int j => some (decide (j ≤ i))
    | _, _ => none
  | .is => isD a b
  | .isnot => (isD a b).map (!·)
  | .isin => inS s a b
  | .notin => (inS s a b).map (!·)
def tyIs (g : G) (s : Sto) (d : D) (t : Ty) : Option Bool := match d, t with
  | .non, .cls _ => some false
  | .bl _, .cls _ => some false
  | .int _, .cls _ => some false
  | .str _, .cls _ => some false
  | .tup _, .cls _ => some false
  | .lst _, .cls _ => some false
  | .rcd c _, .cls c' => some (g.sub c c')
  | _, .val => none
  | .non, _ => some false
  | .bl _, t => some (t == .bool || t == .int)
  | .int _, t => some (t == .int)
  | .str _, t => some (t == .str)
  | .tup _, t => some (t == .tuple)
  | .lst _, t => some (t == .list)
  | .rcd _ _, _ => some false
  | .ref i, t => match s[i]?, t with
    | some (.lst _), .cls _ => some false
    | some (.lst _), t => some (t == .list)
    | some (.dct _), .cls _ => some false
    | some (.dct _), t => some (t == .dict)
    | some (.ins c _), .cls c' => some (g.sub c c')
    | some (.ins _ _), _ => some false
    | _, _ => none
  | _, _ => none
def tyAny (g : G) (s : Sto) (d : D) : List Ty → Option Bool
  | [] => some false
  | t :: ts => match tyIs g s d t with
    | some true => some true
    | some false => tyAny g s d ts
    | none => none
/-! ### places -/
def ixN (n : Nat) (i : Int) : Option Nat := if 0 ≤ i then (if i < n then some i.toNat else none) else if -(n : Int) ≤ i then some (i + n).toNat else none
def atI {α : Type} (xs : List α) (i : Int) : Option α := (ixN xs.length i).bind fun j => xs[j]?
def sIx (n d : Nat) : Option Int → Nat
  | none => d
  | some v => if v < 0 then (v + (n : Int)).toNat else min v.toNat n
def cut {α : Type} (xs : List α) (lo hi : Option Int) : List α := (xs.drop (sIx xs.length 0 lo)).take (sIx xs.length xs.length hi - sIx xs.length 0 lo)
def lookD (k : D) : List (D × D) → Option D
  | [] => none
  | (a, v) :: r => if a = k then some v else lookD k r
def putD (k v : D) (kvs : List (D × D)) : List (D × D) := if kvs.any (fun p => decide (p.1 = k)) then kvs.map (fun p => if p.1 = k then (p.1, v) else p) else kvs ++ [(k, v)]
def lookF (f : Nat) : List (Nat × D) → Option D
  | [] => none
  | (a, v) :: r => if a = f then some v else lookF f r
def putF (f : Nat) (v : D) : List (Nat × D) → List (Nat × D)
  | [] => [(f, v)]
  | (a, w) :: r => if a = f then (a, v) :: r else (a, w) :: putF f v r
def keyOk : D → Bool
  | .int _ => true
  | .str _ => true
  | _ => false
/-- a[b] of a list, a tuple, a text -/
def indexS (s : Sto) (a i : D) : Option D := match seqOf s a, i with
  | some xs, .int j => atI xs j
  | none, .int j => (match a with
    | .str x => if x.length ≤ LINE then (atI x j).map fun c => D.str [c] else none
    | _ => none)
  | _, _ => none
def dctOf (s : Sto) : D → Option (List (D × D))
  | .ref p => match s[p]? with
    | some (.dct kvs) => some kvs
    | _ => none
  | _ => none
def dgetD (s : Sto) (a k : D) : Option D := match dctOf s a with
  | some kvs => if keyOk k then lookD k kvs else none
  | none => none
def dinD (s : Sto) (a k : D) : Option Bool := match dctOf s a with
  | some kvs => if keyOk k then some (lookD k kvs).isSome else none
  | none => none
def dputD (s : Sto) (a k v : D) : Option Sto := match a with
  | .ref p => match s[p]? with
    | some (.dct kvs) => if keyOk k && decide (kvs.length < LINE) then some (s.set p (.dct (putD k v kvs))) else none
    | _ => none
  | _ => none
def setdefD (s : Sto) (a k v : D) : R D := match a with
  | .ref p => match s[p]? with
    | some (.dct kvs) => if keyOk k && decide (kvs.length < LINE) then (match lookD k kvs with
        | some w => .ok w s
        | none => .ok v (s.set p (.dct (putD k v kvs)))) else .no
    | _ => .no
  | _ => .no
/-- what is left of slices -/
def slF (m : Bool) (x : D) (l h : Option Int) (s : Sto) : R D := match x with
    | .tup xs => .ok (.tup (cut xs l h)) s
    | .str xs => if xs.length ≤ LINE then .ok (.str (cut xs l h)) s else .no
    | x => opt1 (seqOf s x) fun xs => if m then .ok (.ref s.length) (s ++ [.lst (cut xs l h)]) else .ok (.lst (cut xs l h)) s
def field (g : G) (s : Sto) (o : D) (f : Nat) : Option D := match o with
  | .rcd c fs => match g.cls c with
    | some k => lookF f (k.flds.zip fs)
    | none => none
  | .ref i => match s[i]? with
    | some (.ins c fs) => match g.cls c with
      | some k => if f ∈ k.flds then lookF f fs else none
      | none => none
    | _ => none
  | _ => none
/-- a field of the exception that an except suite holds -/
def xfield (g : G) (d : D) (f : Nat) : Option D := match d with
  | .exc c [x] => match g.cls c with
    | some k => if k.flds = [f] then some x else none
    | none => none
  | _ => none
def xis (g : G) (d : D) (t : Ty) : Option Bool := match d, t with
  | .exc c _, .cls c' => some (g.sub c c')
  | .exc _ _, .val => some true
  | _, _ => none
def classOf (s : Sto) : D → Option Nat
  | .rcd c _ => some c
  | .ref i => match s[i]? with
    | some (.ins c _) => some c
    | _ => none
  | _ => none
def lenD (s : Sto) (d : D) : Option Nat := match seqOf s d with
  | some xs => some xs.length
  | none => match d with
    | .str x => if x.length ≤ LINE then some x.length else none
    | _ => none
def intsOf : List D → Option (List Int)
  | [] => some []
  | .int i :: r => (intsOf r).map (i :: ·)
  | _ => none
def blsOf : List D → Option (List Bool)
  | [] => some []
  | .bl i :: r => (blsOf r).map (i :: ·)
  | _ => none
def maxI : Int → List Int → Int
  | m, [] => m
  | m, x :: r => maxI (if m < x then x else m) r
def minI : Int → List Int → Int
  | m, [] => m
  | m, x :: r => minI (if x < m then x else m) r
def bfn (s : Sto) (b : Bi) (vs : List D) : Option D := match b, vs with
  | .len, [d] => (lenD s d).map fun n => .int n
  | .abs, [.int i] => some (.int (if i < 0 then -i else i))
  | .max2, [.int i, .int j] => some (.int (if j > i then j else i))
  | .min2, [.int i, .int j] => some (.int (if j < i then j else i))
  | .toInt, [.int i] => some (.int i)
  | .toInt, [.bl b] => some (.int (if b then 1 else 0))
  | .toTup, [d] => (seqOf s d).map D.tup
  | .sum, [d] => ((seqOf s d).bind intsOf).map fun ns => .int ns.sum
  | .any, [d] => ((lstOf s d).bind blsOf).map fun bs => .bl (bs.any id)
  | .all, [d] => ((lstOf s d).bind blsOf).map fun bs => .bl (bs.all id)
  | .maxL, [d] => match (lstOf s d).bind intsOf with
    | some (n :: ns) => some (.int (maxI n ns))
    | _ => none
  | .minL, [d] => match (lstOf s d).bind intsOf with
    | some (n :: ns) => some (.int (minI n ns))
    | _ => none
  | _, _ => none
def insD (x : D) : List D → List D
  | [] => [x]
  | y :: ys => match ltv x y with
    | some true => x :: y :: ys
    | _ => y :: insD x ys
def sortD : List D → List D
  | [] => []
  | x :: xs => insD x (sortD xs)
def lfn (s : Sto) (b : Li) (d : D) : Option (List D) := match b with
  | .toList => seqOf s d
  | .sorted => match seqOf s d with
    | some xs => (intsOf xs).bind fun ns => if ns.length < 64 then some (sortD xs) else none
    | none => none
/-- a new list, as a value or as a cell -/
def newL (m : Bool) (xs : List D) (s : Sto) : R D := if m then .ok (.ref s.length) (s ++ [.lst xs]) else .ok (.lst xs) s
def bmf (s : Sto) (b : Bm) (o : D) (vs : List D) : R D := match o with
  | .ref i => match s[i]?, b, vs with
    | some (.lst xs), .append, [v] => if xs.length < LINE then .ok .non (s.set i (.lst (xs ++ [v]))) else .no
    | some (.lst xs), .pop, [] => match xs[xs.length - 1]? with
      | some v => .ok v (s.set i (.lst xs.dropLast))
      | none => .no
    | some (.lst xs), .popAt, [.int j] => match ixN xs.length j with
      | some k => match xs[k]? with
        | some v => if decide (-(2 ^ 63) ≤ j) && decide (j < 2 ^ 63) then .ok v (s.set i (.lst (xs.eraseIdx k))) else .no
        | none => .no
      | none => .no
    | some (.lst xs), .reverse, [] => .ok .non (s.set i (.lst xs.reverse))
    | some (.lst _), .clear, [] => .ok .non (s.set i (.lst []))
    | some (.lst xs), .extend, [d] => match lstOf s d with
      | some ys => if xs.length + ys.length ≤ LINE then .ok .non (s.set i (.lst (xs ++ ys))) else .no
      | none => .no
    | _, _, _ => .no
  | _ => .no
def setI (s : Sto) (o i v : D) : Option Sto := match o with
  | .ref p => match s[p]?, i with
    | some (.lst xs), .int k => (ixN xs.length k).map fun j => s.set p (.lst (xs.set j v))
    | _, _ => none
  | _ => none
def setFl (g : G) (s : Sto) (o : D) (f : Nat) (v : D) : Option Sto := match o with
  | .ref p => match s[p]? with
    | some (.ins c fs) => match g.cls c with
      | some k => if f ∈ k.flds ∧ fs.length < 900 then some (s.set p (.ins c (putF f v fs))) else none
      | none => none
    | _ => none
  | _ => none
/-! ### targets -/
def getE : Env → Nat → Option D
  | [], _ => none
  | x :: _, 0 => x
  | _ :: r, n + 1 => getE r n
def setE : Env → Nat → Option D → Env
  | [], _, _ => []
  | _ :: r, 0, d => d :: r
  | x :: r, n + 1, d => x :: setE r n d
def wipeE (env : Env) : List Nat → Env
  | [] => env
  | v :: vs => setE (wipeE env vs) v none
mutual
def asgT : T → D → Env → Option Env
  | .name i, d, env => some (setE env i (some d))
  | .tup ts, .tup ds, env => asgTs ts ds env
  | .tup _, _, _ => none
def asgTs : List T → List D → Env → Option Env
  | [], [], env => some env
  | t :: ts, d :: ds, env => (asgT t d env).bind (asgTs ts ds)
  | _, _, _ => none
end
/-- what a loop walks must stand -/
abbrev Gd := List (Nat × List D)
def stands (g : Gd) (s : Sto) : Bool := g.all fun p => decide (s[p.1]? = some (.lst p.2))
def guardOf : D → List D → Gd
  | .ref i, xs => [(i, xs)]
  | _, _ => []
def rangeD (lo : Int) (n : Nat) : List D := (List.range n).map fun i => D.int (lo + (i : Nat))
def smallI (i : Int) : Bool := decide (-(2 ^ 62) ≤ i) && decide (i < 2 ^ 62)
def zipD : List (List D) → List D
  | [xs, ys] => (xs.zip ys).map fun p => D.tup [p.1, p.2]
  | [xs, ys, zs] => (xs.zip (ys.zip zs)).map fun p => D.tup [p.1, p.2.1, p.2.2]
  | _ => []
def enumD (n : Nat) : List D → List D
  | [] => []
  | x :: r => D.tup [.int n, x] :: enumD (n + 1) r
def consO (o : Option D) (r : List D) : List D := match o with
  | some y => y :: r
  | none => r
def compLoop (step : D → Sto → R (Option D)) (g : Gd) : List D → Sto → R (List D)
  | [], s => if stands g s then .ok [] s else .no
  | d :: ds, s => if stands g s then (match step d s with
    | .ok o s1 => (match compLoop step g ds s1 with
      | .ok r s2 => .ok (consO o r) s2
      | _ => .no)
    | _ => .no) else .no
def compLoop2 (step : D → Sto → R (List D)) (g : Gd) : List D → Sto → R (List D)
  | [], s => if stands g s then .ok [] s else .no
  | d :: ds, s => if stands g s then (match step d s with
    | .ok o s1 => (match compLoop2 step g ds s1 with
      | .ok r s2 => .ok (o ++ r) s2
      | _ => .no)
    | _ => .no) else .no
def fill (np : Nat) (vs dfl : List D) : List D := vs ++ dfl.drop (dfl.length - (np - vs.length))
/-- keywords: the parameters' places ks take the values ws -/
def fillK (np : Nat) (vs dfl : List D) (ks : List Nat) (ws : List D) : Option (List D) :=
  some ((ks.zip ws).foldl (fun a p => a.set p.1 p.2) (fill np vs dfl))
/-- the fields of a finished instance, in the class's order -/
def recOf (k : Cls) (fs : List (Nat × D)) : Option (List D) := if fs.map (·.1) = k.flds then some (fs.map (·.2)) else none
mutual
def D.free : D → Bool
  | .ref _ => false
  | .exc _ _ => false
  | .tup xs => D.frees xs
  | .lst xs => D.frees xs
  | .rcd _ xs => D.frees xs
  | _ => true
def D.frees : List D → Bool
  | [] => true
  | x :: xs => D.free x && D.frees xs
end
def Cell.free : Cell → Bool
  | .lst xs => D.frees xs
  | .dct kvs => kvs.all fun p => p.1.free && p.2.free
  | .ins _ fs => D.frees (fs.map (·.2))
  | .dead => true
def makeD (g : G) (c : Nat) (vs : List D) (s : Sto) : R D := match g.cls c with
  | some k => if k.exn then .no else match k.init with
    | some f => match g.call f (.ref s.length :: vs) (s ++ [.ins c []]) with
      | .ok .non s' => if k.frozen then (match s'[s.length]? with
          | some (.ins c' fs) => if c' = c ∧ s' = s ++ [.ins c fs] then (match recOf k fs with
              | some ds => if D.frees ds then .ok (.rcd c ds) s else .no
              | none => .no) else .no
          | _ => .no) else .ok (.ref s.length) s'
      | .ok _ _ => .no
      | .ex e fs s' => if s'.take s.length = s ∧ D.frees fs then .ex e fs s else .no
      | .no => .no
    | none => .no
  | none => .no
def methD (g : G) (m : Nat) (o : D) (vs : List D) (s : Sto) : R D := match classOf s o with
  | some c => match g.cls c with
    | some k => match k.meths.lookup m with
      | some f => g.call f (fill (g.np f) (o :: vs) (g.dfl f)) s
      | none => .no
    | none => .no
  | none => .no
/-! ### expressions -/
mutual
def evE (g : G) : E → Env → Sto → R D
  | .bad, _, _ => .no
  | .var i, env, s => .opt (getE env i) s
  | .lit d, _, s => .ok d s
  | .glob i, _, s => .opt (g.glob i) s
  | .bin o a b, env, s => (evE g a env s).bind fun x s => (evE g b env s).bind fun y s => .opt (binop s o x y) s
  | .neg a, env, s => (evE g a env s).bind fun x s => match x with
    | .int i => .ok (.int (-i)) s
    | _ => .no
  | .cmp o a b, env, s => (evE g a env s).bind fun x s => (evE g b env s).bind fun y s => .opt ((cmpop s o x y).map D.bl) s
  | .chain o o' a b c, env, s => (evE g a env s).bind fun x s => (evE g b env s).bind fun y s => opt1 (cmpop s o x y) fun r =>
    if r then (evE g c env s).bind fun z s => .opt ((cmpop s o' y z).map D.bl) s else .ok (.bl false) s
  | .and es, env, s => evAnd g es env s
  | .or es, env, s => evOr g es env s
  | .not a, env, s => (evE g a env s).bind fun x s => .opt ((truthy s x).map fun b => D.bl (!b)) s
  | .ite c a b, env, s => (evE g c env s).bind fun x s => opt1 (truthy s x) fun r => if r then evE g a env s else evE g b env s
  | .tup es, env, s => (evEs g es env s).bind fun xs s => .ok (.tup xs) s
  | .lst m es, env, s => (evEs g es env s).bind fun xs s => newL m xs s
  | .dct ks vs, env, s => (evEs g vs env s).bind fun ys s => if ks.all keyOk && decide (ks.length = ys.length) then .ok (.ref s.length) (s ++ [.dct ((ks.zip ys).foldl (fun acc p => putD p.1 p.2 acc) [])]) else .no
  | .setdef a k v, env, s => (evE g a env s).bind fun x s => if (dctOf s x).isSome then (evE g k env s).bind fun y s => (evE g v env s).bind fun z s => setdefD s x y z else .no
  | .idx a b, env, s => (evE g a env s).bind fun x s => (evE g b env s).bind fun y s => .opt (indexS s x y) s
  | .slc m a lo hi, env, s => (evE g a env s).bind fun x s => (evO g lo env s).bind fun l s => (evO g hi env s).bind fun h s => slF m x l h s
  | .fld a f, env, s => (evE g a env s).bind fun x s => .opt (field g s x f) s
  | .call f es, env, s => (evEs g es env s).bind fun xs s => g.call f (fill (g.np f) xs (g.dfl f)) s
  | .callK f es ks kes, env, s => (evEs g es env s).bind fun xs s => (evEs g kes env s).bind fun ys s => opt1 (fillK (g.np f) xs (g.dfl f) ks ys) fun zs => g.call f zs s
  | .meth m a es, env, s => (evE g a env s).bind fun x s => (evEs g es env s).bind fun xs s => methD g m x xs s
  | .make c es, env, s => (evEs g es env s).bind fun xs s => makeD g c xs s
  | .bi b es, env, s => (evEs g es env s).bind fun xs s => .opt (bfn s b xs) s
  | .li b m a, env, s => (evE g a env s).bind fun x s => opt1 (lfn s b x) fun xs => newL m xs s
  | .bm b a es, env, s => (evE g a env s).bind fun x s => if (lstOf s x).isSome then (evEs g es env s).bind fun xs s => bmf s b x xs else .no
  | .isi a ts, env, s => (evE g a env s).bind fun x s => .opt ((tyAny g s x ts).map D.bl) s
  | .xfld i f, env, s => opt1 (getE env i) fun x => .opt (xfield g x f) s
  | .xisi i t, env, s => opt1 (getE env i) fun x => .opt ((xis g x t).map D.bl) s
  | .dget a k, env, s => (evE g a env s).bind fun x s => (evE g k env s).bind fun y s => .opt (dgetD s x y) s
  | .din n k a, env, s => (evE g k env s).bind fun y s => (evE g a env s).bind fun x s => .opt ((dinD s x y).map fun b => D.bl (if n then !b else b)) s
  | .comp m own elt t it ifs, env, s => (evI g it env s).bind fun p s =>
    (match compLoop (fun d s => opt1 (asgT t d (wipeE env own)) fun env' => (evAnd g ifs env' s).bind fun c s => opt1 (truthy s c) fun b =>
      if b then (evE g elt env' s).bind fun y s => .ok (some y) s else .ok none s) p.2 p.1 s with
    | .ok ys s => if ys.length ≤ LINE then newL m ys s else .no
    | _ => .no)
  | .comp2 m own own2 elt t it t2 it2, env, s => (evI g it env s).bind fun p s =>
    (match compLoop2 (fun d s => opt1 (asgT t d (wipeE env own)) fun env' => (evI g it2 env' s).bind fun p2 s =>
      compLoop (fun d s => opt1 (asgT t2 d (wipeE env' own2)) fun env'' => (evE g elt env'' s).bind fun y s => .ok (some y) s) p2.2 p2.1 s) p.2 p.1 s with
    | .ok ys s => if ys.length ≤ LINE then newL m ys s else .no
    | _ => .no)
def evEs (g : G) : List E → Env → Sto → R (List D)
  | [], _, s => .ok [] s
  | e :: es, env, s => (evE g e env s).bind fun x s => (evEs g es env s).bind fun xs s => .ok (x :: xs) s
def evO (g : G) : Option E → Env → Sto → R (Option Int)
  | none, _, s => .ok none s
  | some e, env, s => (evE g e env s).bind fun x s => match x with
    | .int i => .ok (some i) s
    | _ => .no
/-- the tests of a clause, a chain of and: the empty one is True -/
def evAnd (g : G) : List E → Env → Sto → R D
  | [], _, s => .ok (.bl true) s
  | [e], env, s => evE g e env s
  | e :: es, env, s => (evE g e env s).bind fun x s => opt1 (truthy s x) fun b => if b then evAnd g es env s else .ok x s
def evOr (g : G) : List E → Env → Sto → R D
  | [], _, s => .ok (.bl false) s
  | [e], env, s => evE g e env s
  | e :: es, env, s => (evE g e env s).bind fun x s => opt1 (truthy s x) fun b => if b then .ok x s else evOr g es env s
/-- what is walked: the items, and what must stand meanwhile -/
def evI (g : G) : I → Env → Sto → R (List D × Gd)
  | .seq e, env, s => (evE g e env s).bind fun x s => match x with
    | .str xs => .ok (xs.map fun c => D.str [c], []) s
    | x => opt1 (seqOf s x) fun xs => .ok (xs, guardOf x xs) s
  | .range es, env, s => (evEs g es env s).bind fun xs s => match xs with
    | [.int n] => if smallI n then .ok (rangeD 0 n.toNat, []) s else .no
    | [.int a, .int b] => if smallI a && smallI b then .ok (rangeD a (b - a).toNat, []) s else .no
    | _ => .no
  | .enum e, env, s => (evE g e env s).bind fun x s => opt1 (seqOf s x) fun xs => .ok (enumD 0 xs, guardOf x xs) s
  | .zip es, env, s => (evEs g es env s).bind fun vs s => opt1 (vs.mapM (seqOf s)) fun xss =>
    if xss.length = 2 ∨ xss.length = 3 then .ok (zipD xss, (vs.zip xss).flatMap fun p => guardOf p.1 p.2) s else .no
  | .rev e, env, s => (evE g e env s).bind fun x s => opt1 (seqOf s x) fun xs => .ok (xs.reverse, guardOf x xs) s
end
/-! ### statements -/
inductive SR where
  | nx (env : Env) (s : Sto)
  | ret (d : D) (s : Sto)
  | brk (env : Env) (s : Sto)
  | cnt (env : Env) (s : Sto)
  | ex (c : Nat) (fs : List D) (env : Env) (s : Sto)
  | no
/-- an expression within a statement -/
def R.sr {α : Type} (r : R α) (env : Env) (f : α → Sto → SR) : SR := match r with
  | .ok a s => f a s
  | .ex c fs s => .ex c fs env s
  | .no => .no
@[simp] theorem R.sr_ok {α : Type} (a : α) (s : Sto) (env : Env) (f : α → Sto → SR) : (R.ok a s).sr env f = f a s := rfl
@[simp] theorem R.sr_ex {α : Type} (c : Nat) (fs : List D) (s : Sto) (env : Env) (f : α → Sto → SR) : (R.ex c fs s : R α).sr env f = .ex c fs env s := rfl
@[simp] theorem R.sr_no {α : Type} (env : Env) (f : α → Sto → SR) : (R.no : R α).sr env f = .no := rfl
def opt2 {α : Type} (o : Option α) (f : α → SR) : SR := match o with
  | some a => f a
  | none => .no
@[simp] theorem opt2_some {α : Type} (a : α) (f : α → SR) : opt2 (some a) f = f a := rfl
@[simp] theorem opt2_none {α : Type} (f : α → SR) : opt2 (none : Option α) f = .no := rfl
def SR.seq (r : SR) (k : Env → Sto → SR) : SR := match r with
  | .nx env s => k env s
  | r => r
@[simp] theorem SR.seq_nx (env : Env) (s : Sto) (k : Env → Sto → SR) : (SR.nx env s).seq k = k env s := rfl
@[simp] theorem SR.seq_ret (d : D) (s : Sto) (k : Env → Sto → SR) : (SR.ret d s).seq k = .ret d s := rfl
@[simp] theorem SR.seq_brk (env : Env) (s : Sto) (k : Env → Sto → SR) : (SR.brk env s).seq k = .brk env s := rfl
@[simp] theorem SR.seq_cnt (env : Env) (s : Sto) (k : Env → Sto → SR) : (SR.cnt env s).seq k = .cnt env s := rfl
@[simp] theorem SR.seq_ex (c : Nat) (fs : List D) (env : Env) (s : Sto) (k : Env → Sto → SR) : (SR.ex c fs env s).seq k = .ex c fs env s := rfl
@[simp] theorem SR.seq_no (k : Env → Sto → SR) : SR.no.seq k = .no := rfl
def forLoop (step : D → Env → Sto → SR) (g : Gd) : List D → Env → Sto → SR
  | [], env, s => if stands g s then .nx env s else .no
  | d :: ds, env, s => if stands g s then (match step d env s with
    | .nx env s => forLoop step g ds env s
    | .cnt env s => forLoop step g ds env s
    | .brk env s => .nx env s
    | r => r) else .no
def whileLoop (c : Env → Sto → R Bool) (b : Env → Sto → SR) : Nat → Env → Sto → SR
  | 0, _, _ => .no
  | n + 1, env, s => (c env s).sr env fun r s => if r then (match b env s with
    | .nx env s => whileLoop c b n env s
    | .cnt env s => whileLoop c b n env s
    | .brk env s => .nx env s
    | r => r) else .nx env s
def forgetE (env : Env) : List Nat → Env
  | [] => env
  | i :: is => forgetE (setE env i none) is
def setEs : Env → List Nat → List D → Env
  | env, i :: is, d :: ds => setEs (setE env i (some d)) is ds
  | env, _, _ => env
/-- behind an except suite: its name is gone -/
def SR.gone (r : SR) (slot : Option Nat) : SR := match r, slot with
  | .nx env s, some i => .nx (setE env i none) s
  | .brk env s, some i => .brk (setE env i none) s
  | .cnt env s, some i => .cnt (setE env i none) s
  | .ex .., _ => .no
  | r, _ => r
mutual
def exS (g : G) : S → Env → Sto → SR
  | .bad, _, _ => .no
  | .expr e, env, s => (evE g e env s).sr env fun _ s => .nx env s
  | .asg t e, env, s => (evE g e env s).sr env fun d s => opt2 (asgT t d env) fun env => .nx env s
  | .seti a i e, env, s => (evE g e env s).sr env fun v s => (evE g a env s).sr env fun o s => (evE g i env s).sr env fun k s => opt2 (setI s o k v) fun s => .nx env s
  | .setf o f e, env, s => (evE g e env s).sr env fun v s => (evE g o env s).sr env fun x s => opt2 (setFl g s x f v) fun s => .nx env s
  | .dput a k e, env, s => (evE g e env s).sr env fun v s => (evE g a env s).sr env fun o s => (evE g k env s).sr env fun y s => opt2 (dputD s o y v) fun s => .nx env s
  | .daug a k o e, env, s => (evE g a env s).sr env fun x s => (evE g k env s).sr env fun y s => opt2 (dgetD s x y) fun v => (evE g e env s).sr env fun u s => opt2 (binop s o v u) fun z => opt2 (dputD s x y z) fun s => .nx env s
  | .aug i o e, env, s => opt2 (getE env i) fun x => (evE g e env s).sr env fun y s => if augOk x y then opt2 (binop s o x y) fun z => .nx (setE env i (some z)) s else .no
  | .augi a i o e, env, s => (evE g a env s).sr env fun x s => (evE g i env s).sr env fun k s => opt2 (indexS s x k) fun v => (evE g e env s).sr env fun y s => opt2 (binop s o v y) fun z => opt2 (setI s x k z) fun s => .nx env s
  | .augf a f o e, env, s => (evE g a env s).sr env fun x s => opt2 (field g s x f) fun v => (evE g e env s).sr env fun y s => opt2 (binop s o v y) fun z => opt2 (setFl g s x f z) fun s => .nx env s
  | .par is es, env, s => (evEs g es env s).sr env fun vs s => .nx (setEs env is vs) s
  | .ret e, env, s => (evE g e env s).sr env fun d s => .ret d s
  | .retN, _, s => .ret .non s
  | .ife c a b, env, s => (evE g c env s).sr env fun x s => opt2 (truthy s x) fun r => if r then exB g a env s else exB g b env s
  | .forS t it body, env, s => (evI g it env s).sr env fun p s => forLoop (fun d env s => opt2 (asgT t d env) fun env => exB g body env s) p.2 p.1 env s
  | .whileS c body, env, s => whileLoop (fun env s => (evE g c env s).bind fun x s => .opt (truthy s x) s) (exB g body) WFUEL env s
  | .brk, env, s => .brk env s
  | .cnt, env, s => .cnt env s
  | .pass, env, s => .nx env s
  | .raise c es, env, s => (evEs g es env s).sr env fun vs s => .ex c vs env s
  | .tryS body hs, env, s => match exB g body env s with
    | .ex c fs env s => exH g hs c fs env s
    | r => r
  | .fgt is, env, s => .nx (forgetE env is) s
  | .frz i, env, s => match getE env i with
    | some (.ref p) => match s[p]? with
      | some (.lst xs) => .nx (setE env i (some (.lst xs))) (s.set p .dead)
      | _ => .no
    | _ => .no
def exB (g : G) : List S → Env → Sto → SR
  | [], env, s => .nx env s
  | st :: r, env, s => (exS g st env s).seq fun env s => exB g r env s
def exH (g : G) : List Hd → Nat → List D → Env → Sto → SR
  | [], c, fs, env, s => .ex c fs env s
  | .mk k slot body :: hs, c, fs, env, s => if g.sub c k then (exB g body (match slot with
      | some i => setE env i (some (.exc c fs))
      | none => env) s).gone slot else exH g hs c fs env s
end
/-! ### functions -/
/-- what a callee made is let go: what stood before stands, or is changed to something that holds nothing new -/
def gcOk (s s' : Sto) : Bool := decide (s.length ≤ s'.length) && (List.range s.length).all fun i => decide (s'[i]? = s[i]?) || (match s'[i]? with
  | some c => c.free
  | none => false)
/-- what is handed back, its own lists frozen -/
def deep (s : Sto) (n : Nat) : Nat → D → Option D
  | _, .non => some .non
  | _, .bl b => some (.bl b)
  | _, .int i => some (.int i)
  | _, .str x => some (.str x)
  | 0, _ => none
  | k + 1, .tup xs => (xs.mapM (deep s n k)).map D.tup
  | k + 1, .lst xs => (xs.mapM (deep s n k)).map D.lst
  | k + 1, .rcd c xs => (xs.mapM (deep s n k)).map (D.rcd c)
  | k + 1, .ref i => if i < n then some (.ref i) else match s[i]? with
    | some (.lst xs) => (xs.mapM (deep s n k)).map D.lst
    | _ => none
  | _, _ => none
/-- a new list that may change is handed back -/
def finM (s : Sto) (d : D) (s' : Sto) : R D := match d with
  | .ref k => match s'[k]? with
    | some c => if decide (s.length ≤ k) && c.free then .ok (.ref s.length) (s'.take s.length ++ [c]) else .no
    | none => .no
  | _ => .no
def finF (s : Sto) (d : D) (s' : Sto) : R D := match deep s' s.length 20 d with
  | some d => .ok d (s'.take s.length)
  | none => .no
def fin (mode : Nat) (s : Sto) (d : D) (s' : Sto) : R D :=
  if mode = 2 then .ok d s' else if gcOk s s' then (if d.free then .ok d (s'.take s.length) else if mode = 1 then finM s d s' else finF s d s') else .no
def finX (s : Sto) (c : Nat) (fs : List D) (s' : Sto) : R D :=
  if gcOk s s' && D.frees fs then .ex c fs (s'.take s.length) else .no
def runFn (g : G) (f : Fn) (args : List D) (s : Sto) : R D :=
  if args.length = f.np then (match exB g f.body (args.map some ++ List.replicate (f.ns - f.np) none) s with
    | .nx _ s' => fin f.mode s .non s'
    | .ret d s' => fin f.mode s d s'
    | .ex c fs _ s' => finX s c fs s'
    | _ => .no) else .no
def genv (P : Prog) (call : Nat → List D → Sto → R D) : G where
  call := call
  dfl := fun f => match P.fn f with
    | some x => x.dfl
    | none => []
  np := fun f => match P.fn f with
    | some x => x.np
    | none => 0
  cls := P.cls
  sub := P.sub
  glob := P.glob
def call (P : Prog) : Nat → Nat → List D → Sto → R D
  | 0, _, _, _ => .no
  | k + 1, f, args, s => match P.fn f with
    | some x => runFn (genv P (call P k)) x args s
    | none => .no
end MP
set_option autoImplicit false
set_option linter.all false
/-! MPb: how the small language's values lie in the hand layer's heaps. -/
namespace MP
open PySem PySem.Spec PyProof.Rows L2

/-- the text's names: classes, attributes -/
structure Tab where
  cnm : Nat → Str
  anm : Nat → Str
  fnm : Nat → Str
  gnm : Nat → Str
  pn : List (Addr × Obj)

/-- where things stand: the cells' addresses, what never changes again, a suite's exception -/
structure Wd where
  mu : List Addr
  fz : Addr → Prop
  pn : List (Addr × Obj)

section
variable (K : PySem.W.Frag) (T : Tab) (P : Prog)
def ca (c : Nat) : Addr := He.ga K (T.cnm c)
/-- the script's list, as it lies in the text's part -/
def KScr (a : Addr) (ns : List Int) : Prop := ∃ (o : Obj) (its : Array Value) (n : Nat), K.lookup a = some o ∧ o.cls = .type "list" ∧ o.dict = none ∧ o.data = .seq its n ∧ its.size ≤ sizeLine ∧ Vals (ns.map V.int) its.toList
def fldsV (c : Nat) (vs : List V) : List (Str × V) := match P.cls c with
  | some k => (k.flds.map T.anm).zip vs
  | none => []
mutual
inductive Rep (w : Wd) (H : Hp) : D → V → Prop
  | non : Rep w H .non .non
  | bl (b : Bool) : Rep w H (.bl b) (.bl b)
  | int (i : Int) : Rep w H (.int i) (.int i)
  | str (x : List Nat) : Rep w H (.str x) (.str ⟨x.toArray⟩)
  | tup {a : Addr} {ds : List D} {vs : List V} (f : w.fz a) (h : H a = some (.tup vs)) (r : Reps w H ds vs) : Rep w H (.tup ds) (.ref a)
  | lst {a : Addr} {ds : List D} {vs : List V} (f : w.fz a) (h : H a = some (.lst vs)) (r : Reps w H ds vs) : Rep w H (.lst ds) (.ref a)
  | scr {a : Addr} {ns : List Int} (q : (w.fz a ∧ ∃ o, H a = some (.frz o (.lst (ns.map V.int)))) ∨ KScr K a ns) : Rep w H (.scr ns) (.ref a)
  | rcd {a dx : Addr} {c : Nat} {k : Cls} {ds : List D} {vs : List V} (f : w.fz a) (hc : P.cls c = some k) (hx : k.exn = false) (hl : k.flds.length = ds.length) (h : H a = some (.ins (ca K T c) dx ((k.flds.map T.anm).zip vs))) (r : Reps w H ds vs) : Rep w H (.rcd c ds) (.ref a)
  | ref {a : Addr} {i : Nat} (h : w.mu[i]? = some a) : Rep w H (.ref i) (.ref a)
  | exc0 {a : Addr} {c : Nat} {oe : Obj} (h : (a, oe) ∈ T.pn) (hc : oe.cls = .ref (ca K T c)) (hd : oe.dict = none) : Rep w H (.exc c []) (.ref a)
  | exc1 {a d : Addr} {c : Nat} {k : Cls} {f : Nat} {x : D} {v : V} {oe : Obj} (h : (a, oe) ∈ T.pn) (hc : oe.cls = .ref (ca K T c)) (hd : oe.dict = some d) (fd : w.fz d) (hk : P.cls c = some k) (hf : k.flds = [f]) (hx : H d = some (.xd [(T.anm f, v)])) (r : Rep w H x v) : Rep w H (.exc c [x]) (.ref a)
inductive Reps (w : Wd) (H : Hp) : List D → List V → Prop
  | nil : Reps w H [] []
  | cons {d : D} {v : V} {ds : List D} {vs : List V} (h : Rep w H d v) (t : Reps w H ds vs) : Reps w H (d :: ds) (v :: vs)
end
end

/-- what never changes again stands (all that values ask) -/
structure Lr (w w' : Wd) (H H' : Hp) : Prop where
  mu : ∃ t, w'.mu = w.mu ++ t
  fz : ∀ a, w.fz a → w'.fz a
  pn : w'.pn = w.pn
  st : ∀ a, w.fz a → H' a = H a
/-- .. and what is none of ours stands, too; more may stand -/
structure Le (w w' : Wd) (H H' : Hp) : Prop where
  mu : ∃ t, w'.mu = w.mu ++ t ∧ ∀ a ∈ t, H a = none
  fz : ∀ a, w.fz a → w'.fz a
  nf : ∀ a, w'.fz a → w.fz a ∨ H a = none ∨ a ∈ w.mu
  pn : w'.pn = w.pn
  st : ∀ a, w.fz a → H' a = H a
  un : ∀ a, H a ≠ none → a ∉ w.mu → H' a = H a
  up : ∀ a, H a ≠ none → H' a ≠ none
theorem Le.r {w w' : Wd} {H H' : Hp} (l : Le w w' H H') : Lr w w' H H' := ⟨let ⟨t, e, _⟩ := l.mu; ⟨t, e⟩, l.fz, l.pn, l.st⟩
theorem Le.refl (w : Wd) (H : Hp) : Le w w H H := ⟨⟨[], by simp, fun _ h => by cases h⟩, fun _ h => h, fun _ h => .inl h, rfl, fun _ _ => rfl, fun _ _ _ => rfl, fun _ h => h⟩
theorem Le.gone {w w' : Wd} {H H' : Hp} (l : Le w w' H H') {a : Addr} (h : H' a = Option.none) : H a = Option.none := by
  cases e : H a with
  | none => rfl
  | some o => exact absurd h (l.up a (by rw [e]; exact fun z => nomatch z))
theorem Le.trans {w w1 w2 : Wd} {H H1 H2 : Hp} (a : Le w w1 H H1) (b : Le w1 w2 H1 H2) : Le w w2 H H2 := by
  have a0 := a
  obtain ⟨⟨t, e, g⟩, f, n, p, s, u, q⟩ := a
  obtain ⟨⟨t', e', g'⟩, f', n', p', s', u', q'⟩ := b
  refine ⟨⟨t ++ t', by rw [e', e, List.append_assoc], fun x h => ?_⟩, fun a h => f' a (f a h), fun x h => ?_, p'.trans p, fun a h => (s' a (f a h)).trans (s a h), fun x h1 h2 => ?_, fun x h => q' x (q x h)⟩
  · rcases List.mem_append.mp h with h | h
    · exact g x h
    · exact a0.gone (g' x h)
  · rcases n' x h with h | h | h
    · exact n x h
    · exact .inr (.inl (a0.gone h))
    · rw [e] at h
      rcases List.mem_append.mp h with h | h
      · exact .inr (.inr h)
      · exact .inr (.inl (g x h))
  · have z := u x h1 h2
    refine (u' x (q x h1) fun h => ?_).trans z
    rw [e] at h
    rcases List.mem_append.mp h with h | h
    · exact h2 h
    · exact h1 (g x h)
theorem Lr.trans {w w1 w2 : Wd} {H H1 H2 : Hp} (a : Lr w w1 H H1) (b : Lr w1 w2 H1 H2) : Lr w w2 H H2 := by
  obtain ⟨⟨t, e⟩, f, p, s⟩ := a
  obtain ⟨⟨t', e'⟩, f', p', s'⟩ := b
  exact ⟨⟨t ++ t', by rw [e', e, List.append_assoc]⟩, fun a h => f' a (f a h), p'.trans p, fun a h => (s' a (f a h)).trans (s a h)⟩
theorem Lr.get {w w' : Wd} {H H' : Hp} (l : Lr w w' H H') {i : Nat} {a : Addr} (h : w.mu[i]? = some a) : w'.mu[i]? = some a := by
  obtain ⟨⟨t, e⟩, _, _, _⟩ := l
  rw [e, List.getElem?_append_left (List.getElem?_eq_some_iff.mp h).1]
  exact h
theorem Le.get {w w' : Wd} {H H' : Hp} (l : Le w w' H H') {i : Nat} {a : Addr} (h : w.mu[i]? = some a) : w'.mu[i]? = some a := l.r.get h
section
variable {K : PySem.W.Frag} {T : Tab} {P : Prog} {w w' : Wd} {H H' : Hp}
mutual
theorem Rep.mon (l : Lr w w' H H') : ∀ {d : D} {v : V}, Rep K T P w H d v → Rep K T P w' H' d v
  | _, _, .non => .non
  | _, _, .bl b => .bl b
  | _, _, .int i => .int i
  | _, _, .str x => .str x
  | _, _, .tup f h r => .tup (l.fz _ f) ((l.st _ f).trans h) (Reps.mon l r)
  | _, _, .lst f h r => .lst (l.fz _ f) ((l.st _ f).trans h) (Reps.mon l r)
  | _, _, .scr q => .scr (q.elim (fun z => .inl ⟨l.fz _ z.1, let ⟨o, h⟩ := z.2; ⟨o, (l.st _ z.1).trans h⟩⟩) .inr)
  | _, _, .rcd f hc hx hl h r => .rcd (l.fz _ f) hc hx hl ((l.st _ f).trans h) (Reps.mon l r)
  | _, _, .ref h => .ref (l.get h)
  | _, _, .exc0 h hc hd => .exc0 h hc hd
  | _, _, .exc1 h hc hd fd hk hf hx r => .exc1 h hc hd (l.fz _ fd) hk hf ((l.st _ fd).trans hx) (Rep.mon l r)
theorem Reps.mon (l : Lr w w' H H') : ∀ {ds : List D} {vs : List V}, Reps K T P w H ds vs → Reps K T P w' H' ds vs
  | _, _, .nil => .nil
  | _, _, .cons h t => .cons (Rep.mon l h) (Reps.mon l t)
end
theorem Rep.mono (l : Le w w' H H') {d : D} {v : V} (h : Rep K T P w H d v) : Rep K T P w' H' d v := h.mon l.r
theorem Reps.mono (l : Le w w' H H') {ds : List D} {vs : List V} (h : Reps K T P w H ds vs) : Reps K T P w' H' ds vs := h.mon l.r
theorem scr_sq {a : Addr} {ns : List Int} (q : (w.fz a ∧ ∃ o, H a = some (.frz o (.lst (ns.map V.int)))) ∨ KScr K a ns) : SqL K H a (ns.map V.int) := q.elim (fun z => let ⟨o, h⟩ := z.2; .inl (.inr ⟨o, h⟩)) .inr
theorem Reps.length : ∀ {ds : List D} {vs : List V}, Reps K T P w H ds vs → ds.length = vs.length
  | _, _, .nil => rfl
  | _, _, .cons _ t => by simp [Reps.length t]
theorem Reps.append : ∀ {ds es : List D} {vs us : List V}, Reps K T P w H ds vs → Reps K T P w H es us → Reps K T P w H (ds ++ es) (vs ++ us)
  | _, _, _, _, .nil, s => s
  | _, _, _, _, .cons h t, s => .cons h (Reps.append t s)
theorem Reps.get : ∀ {ds : List D} {vs : List V} {i : Nat} {d : D}, Reps K T P w H ds vs → ds[i]? = some d → ∃ v, vs[i]? = some v ∧ Rep K T P w H d v
  | _, _, _, _, .nil, e => by simp at e
  | _, _, 0, _, .cons h t, e => by simp at e; subst e; exact ⟨_, rfl, h⟩
  | _, _, i + 1, d, .cons _ t, e => by
    obtain ⟨v, h1, h2⟩ := Reps.get (i := i) (d := d) t (by simpa using e)
    exact ⟨v, by simpa using h1, h2⟩
theorem Reps.set {x : D} {y : V} (hx : Rep K T P w H x y) : ∀ {ds : List D} {vs : List V} (i : Nat), Reps K T P w H ds vs → Reps K T P w H (ds.set i x) (vs.set i y)
  | _, _, _, .nil => .nil
  | _, _, 0, .cons _ t => .cons hx t
  | _, _, i + 1, .cons h t => .cons h (Reps.set hx i t)
theorem Reps.take : ∀ {ds : List D} {vs : List V} (n : Nat), Reps K T P w H ds vs → Reps K T P w H (ds.take n) (vs.take n)
  | _, _, 0, _ => .nil
  | _, _, _ + 1, .nil => .nil
  | _, _, n + 1, .cons h t => .cons h (Reps.take n t)
theorem Reps.drop : ∀ {ds : List D} {vs : List V} (n : Nat), Reps K T P w H ds vs → Reps K T P w H (ds.drop n) (vs.drop n)
  | _, _, 0, r => r
  | _, _, _ + 1, .nil => .nil
  | _, _, n + 1, .cons _ t => Reps.drop n t
theorem Reps.rev : ∀ {ds : List D} {vs : List V}, Reps K T P w H ds vs → Reps K T P w H ds.reverse vs.reverse
  | _, _, .nil => .nil
  | _, _, .cons h t => by
    rw [List.reverse_cons, List.reverse_cons]
    exact (Reps.rev t).append (.cons h .nil)
theorem Reps.dropLast {ds : List D} {vs : List V} (h : Reps K T P w H ds vs) : Reps K T P w H ds.dropLast vs.dropLast := by
  rw [List.dropLast_eq_take, List.dropLast_eq_take, h.length]
  exact h.take _
theorem Reps.erase : ∀ {ds : List D} {vs : List V} (n : Nat), Reps K T P w H ds vs → Reps K T P w H (ds.eraseIdx n) (vs.eraseIdx n)
  | _, _, 0, .nil => .nil
  | _, _, 0, .cons _ t => t
  | _, _, _ + 1, .nil => .nil
  | _, _, n + 1, .cons h t => .cons h (Reps.erase n t)
theorem Reps.ints : ∀ {ns : List Int} {vs : List V}, Reps K T P w H (ns.map D.int) vs → vs = ns.map V.int
  | [], _, .nil => rfl
  | n :: ns, _, .cons h t => by
    cases h
    rw [Reps.ints t]
    rfl
theorem Reps.of_ints : ∀ (ns : List Int), Reps K T P w H (ns.map D.int) (ns.map V.int)
  | [] => .nil
  | n :: ns => .cons (.int n) (Reps.of_ints ns)
theorem Reps.rep {ds : List D} {vs : List V} (h : Reps K T P w H ds vs) : ∀ k : Nat, Reps K T P w H (List.replicate k ds).flatten (List.replicate k vs).flatten
  | 0 => .nil
  | k + 1 => by
    rw [List.replicate_succ, List.replicate_succ, List.flatten_cons, List.flatten_cons]
    exact h.append (Reps.rep h k)
theorem Reps.cut {ds : List D} {vs : List V} (h : Reps K T P w H ds vs) (lo hi : Option Int) : Reps K T P w H (MP.cut ds lo hi) (L2.cutV vs lo hi) := by
  have e : ∀ (n d : Nat) (o : Option Int), MP.sIx n d o = HT.sIx n d o := fun n d o => by cases o <;> rfl
  unfold MP.cut L2.cutV
  rw [e, e, h.length]
  exact (h.drop _).take _
theorem Reps.singleton {d : D} {vs : List V} (h : Reps K T P w H [d] vs) : ∃ v, vs = [v] ∧ Rep K T P w H d v := by
  cases h with
  | cons h t => cases t; exact ⟨_, rfl, h⟩
theorem Reps.two {d e : D} {vs : List V} (h : Reps K T P w H [d, e] vs) : ∃ v u, vs = [v, u] ∧ Rep K T P w H d v ∧ Rep K T P w H e u := by
  cases h with
  | cons h t =>
    obtain ⟨u, rfl, h'⟩ := t.singleton
    exact ⟨_, _, rfl, h, h'⟩
end

/-! ### the store -/
section
variable (K : PySem.W.Frag) (T : Tab) (P : Prog)
def keyD : D → Option Key
  | .int i => some (.inl i)
  | .str x => some (.inr ⟨x.toArray⟩)
  | _ => none
inductive KvR (w : Wd) (H : Hp) : List (D × D) → List (Key × V) → Prop
  | nil : KvR w H [] []
  | cons {d e : D} {k : Key} {v : V} {r : List (D × D)} {s : List (Key × V)} (hk : keyD d = some k) (h : Rep K T P w H e v) (t : KvR w H r s) : KvR w H ((d, e) :: r) ((k, v) :: s)
inductive FsR (w : Wd) (H : Hp) : List (Nat × D) → List (Str × V) → Prop
  | nil : FsR w H [] []
  | cons {f : Nat} {e : D} {v : V} {r : List (Nat × D)} {s : List (Str × V)} (h : Rep K T P w H e v) (t : FsR w H r s) : FsR w H ((f, e) :: r) ((T.anm f, v) :: s)
def CellR (w : Wd) (H : Hp) (a : Addr) : Cell → Prop
  | .lst xs => ∃ vs, H a = some (.lst vs) ∧ Reps K T P w H xs vs
  | .dct kvs => ∃ ks, H a = some (.dK ks) ∧ KvR K T P w H kvs ks
  | .ins c fs => ∃ dx gs k, H a = some (.ins (ca K T c) dx gs) ∧ FsR K T P w H fs gs ∧ P.cls c = some k ∧ k.exn = false ∧ ∀ p ∈ fs, p.1 ∈ k.flds
  | .dead => True
structure SRel (w : Wd) (H : Hp) (s : Sto) : Prop where
  len : w.mu.length = s.length
  cell : ∀ (i : Nat) (c : Cell) (a : Addr), s[i]? = some c → w.mu[i]? = some a → c ≠ .dead → ¬ w.fz a ∧ CellR K T P w H a c
  inj : ∀ (i j : Nat) (c c' : Cell) (a : Addr), s[i]? = some c → s[j]? = some c' → c ≠ .dead → c' ≠ .dead → w.mu[i]? = some a → w.mu[j]? = some a → i = j
  fz : ∀ a, w.fz a → H a ≠ none
  all : ∀ a ∈ w.mu, H a ≠ none
def ERel (w : Wd) (H : Hp) (env : Env) (σ : L2.St) : Prop := env.length = σ.length ∧ ∀ (i : Nat) (d : D), getE env i = some d → ∃ v, σ[i]? = some (some v) ∧ Rep K T P w H d v
end
section
variable {K : PySem.W.Frag} {T : Tab} {P : Prog} {w w' : Wd} {H H' : Hp} {s : Sto}
theorem KvR.mon (l : Lr w w' H H') : ∀ {ds : List (D × D)} {vs : List (Key × V)}, KvR K T P w H ds vs → KvR K T P w' H' ds vs
  | _, _, .nil => .nil
  | _, _, .cons hk h t => .cons hk (h.mon l) (KvR.mon l t)
theorem FsR.mon (l : Lr w w' H H') : ∀ {ds : List (Nat × D)} {vs : List (Str × V)}, FsR K T P w H ds vs → FsR K T P w' H' ds vs
  | _, _, .nil => .nil
  | _, _, .cons h t => .cons (h.mon l) (FsR.mon l t)
theorem CellR.mon (l : Lr w w' H H') {a : Addr} {c : Cell} (e : H' a = H a) (h : CellR K T P w H a c) : CellR K T P w' H' a c := by
  cases c with
  | lst xs => obtain ⟨vs, h1, h2⟩ := h; exact ⟨vs, e.trans h1, h2.mon l⟩
  | dct kvs => obtain ⟨vs, h1, h2⟩ := h; exact ⟨vs, e.trans h1, h2.mon l⟩
  | ins c fs => obtain ⟨dx, vs, k, h1, h2, h3⟩ := h; exact ⟨dx, vs, k, e.trans h1, h2.mon l, h3⟩
  | dead => trivial
theorem CellR.mono (l : Le w w' H H') {a : Addr} {c : Cell} (e : H' a = H a) (h : CellR K T P w H a c) : CellR K T P w' H' a c := h.mon l.r e
theorem FsR.mono (l : Le w w' H H') {ds : List (Nat × D)} {vs : List (Str × V)} (h : FsR K T P w H ds vs) : FsR K T P w' H' ds vs := h.mon l.r
theorem KvR.mono (l : Le w w' H H') {ds : List (D × D)} {vs : List (Key × V)} (h : KvR K T P w H ds vs) : KvR K T P w' H' ds vs := h.mon l.r
theorem ERel.mon (l : Lr w w' H H') {env : Env} {σ : L2.St} (h : ERel K T P w H env σ) : ERel K T P w' H' env σ :=
  ⟨h.1, fun i d e => let ⟨v, h1, h2⟩ := h.2 i d e; ⟨v, h1, h2.mon l⟩⟩
theorem ERel.mono (l : Le w w' H H') {env : Env} {σ : L2.St} (h : ERel K T P w H env σ) : ERel K T P w' H' env σ :=
  ⟨h.1, fun i d e => let ⟨v, h1, h2⟩ := h.2 i d e; ⟨v, h1, h2.mono l⟩⟩
theorem SRel.tracked (S : SRel K T P w H s) {i : Nat} {c : Cell} {a : Addr} (h : s[i]? = some c) (m : w.mu[i]? = some a) (nd : c ≠ .dead) : ∃ o, H a = some o := by
  have q := (S.cell i c a h m nd).2
  cases c with
  | lst xs => obtain ⟨vs, h1, h2⟩ := q; exact ⟨_, h1⟩
  | dct kvs => obtain ⟨vs, h1, h2⟩ := q; exact ⟨_, h1⟩
  | ins c fs => obtain ⟨dx, vs, k, h1, h2⟩ := q; exact ⟨_, h1⟩
  | dead => exact absurd rfl nd
theorem SRel.addr (S : SRel K T P w H s) {i : Nat} {c : Cell} (h : s[i]? = some c) : ∃ a, w.mu[i]? = some a := by
  have h1 := (List.getElem?_eq_some_iff.mp h).1
  rw [← S.len] at h1
  exact ⟨_, List.getElem?_eq_getElem h1⟩
/-- a new thing that never changes -/
def Wd.ice (w : Wd) (p : Addr) : Wd := { w with fz := fun a => w.fz a ∨ a = p }
/-- a new cell -/
def Wd.new (w : Wd) (p : Addr) : Wd := { w with mu := w.mu ++ [p] }
theorem SRel.fresh (S : SRel K T P w H s) {p : Addr} (h : H p = none) : ¬ w.fz p := fun q => S.fz p q h
theorem upd_some {p a : Addr} {o : HO} (q : H a ≠ none) : upd H p o a ≠ none := by
  by_cases e : a = p
  · rw [e, upd_same]; exact fun z => nomatch z
  · rw [upd_ne e]; exact q
theorem le_ice {p : Addr} {o : HO} (S : SRel K T P w H s) (h : H p = none) : Le w (w.ice p) H (upd H p o) :=
  ⟨⟨[], by simp [Wd.ice], fun _ h => by cases h⟩, fun _ q => .inl q, fun a q => q.elim .inl fun e => .inr (.inl (by rw [e]; exact h)), rfl, fun a q => upd_ne fun (e : a = p) => S.fresh h (by rw [← e]; exact q),
    fun a q _ => upd_ne fun (e : a = p) => q (by rw [e]; exact h), fun a q => upd_some q⟩
theorem le_new {p : Addr} {o : HO} (S : SRel K T P w H s) (h : H p = none) : Le w (w.new p) H (upd H p o) :=
  ⟨⟨[p], rfl, fun a q => by rw [List.mem_singleton.mp q]; exact h⟩, fun _ q => q, fun a q => .inl q, rfl, fun a q => upd_ne fun (e : a = p) => S.fresh h (by rw [← e]; exact q),
    fun a q _ => upd_ne fun (e : a = p) => q (by rw [e]; exact h), fun a q => upd_some q⟩
theorem SRel.ice {p : Addr} {o : HO} (S : SRel K T P w H s) (h : H p = none) : SRel K T P (w.ice p) (upd H p o) s := by
  have l := le_ice (o := o) S h
  refine ⟨S.len, fun i c a h1 h2 nd => ?_, S.inj, fun a q => ?_, fun a q => upd_some (S.all a q)⟩
  · obtain ⟨n, q⟩ := S.cell i c a h1 h2 nd
    obtain ⟨u, hu⟩ := S.tracked h1 h2 nd
    have ne : a ≠ p := fun e => by rw [e, h] at hu; cases hu
    exact ⟨fun z => z.elim n ne, q.mono l (upd_ne ne)⟩
  · rcases q with q | q
    · rw [upd_ne (fun (e : a = p) => S.fresh h (by rw [← e]; exact q))]; exact S.fz a q
    · rw [q, upd_same]; exact fun z => nomatch z
/-- a cell is laid -/
theorem SRel.new {p : Addr} {o : HO} {c : Cell} (S : SRel K T P w H s) (h : H p = none) (hc : c ≠ .dead) (hcell : CellR K T P (w.new p) (upd H p o) p c) : SRel K T P (w.new p) (upd H p o) (s ++ [c]) := by
  have l := le_new (o := o) S h
  have old : ∀ (i : Nat) (a : Addr), i < s.length → (w.mu ++ [p])[i]? = some a → w.mu[i]? = some a := fun i a hi e => by
    rwa [List.getElem?_append_left (by rw [S.len]; exact hi)] at e
  have last : ∀ (i : Nat) (c' : Cell), (s ++ [c])[i]? = some c' → i < s.length ∧ s[i]? = some c' ∨ i = s.length ∧ c' = c := fun i c' e => by
    by_cases hi : i < s.length
    · rw [List.getElem?_append_left hi] at e; exact .inl ⟨hi, e⟩
    · have z := (List.getElem?_eq_some_iff.mp e).1
      simp at z
      have z' : i = s.length := by omega
      subst z'
      simp at e
      exact .inr ⟨rfl, e.symm⟩
  have lastA : ∀ a : Addr, (w.mu ++ [p])[s.length]? = some a → a = p := fun a e => by
    rw [← S.len] at e; simp at e; exact e.symm
  refine ⟨by simp [Wd.new, S.len], fun i c' a h1 h2 nd => ?_, fun i j c1 c2 a h1 h2 n1 n2 m1 m2 => ?_, fun a q => ?_, fun a q => ?_⟩
  · rcases last i c' h1 with ⟨hi, e⟩ | ⟨rfl, rfl⟩
    · have e2 := old i a hi h2
      obtain ⟨n, q⟩ := S.cell i c' a e e2 nd
      obtain ⟨u, hu⟩ := S.tracked e e2 nd
      have ne : a ≠ p := fun e => by rw [e, h] at hu; cases hu
      exact ⟨n, q.mono l (upd_ne ne)⟩
    · have e2 := lastA a h2
      subst e2
      exact ⟨S.fresh h, hcell⟩
  · rcases last i c1 h1 with ⟨hi, e⟩ | ⟨rfl, rfl⟩ <;> rcases last j c2 h2 with ⟨hj, e'⟩ | ⟨rfl, rfl⟩
    · exact S.inj i j c1 c2 a e e' n1 n2 (old i a hi m1) (old j a hj m2)
    · obtain ⟨u, hu⟩ := S.tracked e (old i a hi m1) n1
      rw [lastA a m2, h] at hu; cases hu
    · obtain ⟨u, hu⟩ := S.tracked e' (old j a hj m2) n2
      rw [lastA a m1, h] at hu; cases hu
    · rfl
  · rw [upd_ne (fun (e : a = p) => S.fresh h (by rw [← e]; exact q))]; exact S.fz a q
  · rcases List.mem_append.mp q with q | q
    · exact upd_some (S.all a q)
    · rw [List.mem_singleton.mp q, upd_same]; exact fun z => nomatch z
/-- a cell is written -/
theorem le_put {i : Nat} {a : Addr} {c : Cell} {o : HO} (S : SRel K T P w H s) (hi : s[i]? = some c) (ha : w.mu[i]? = some a) (nd : c ≠ .dead) : Le w w H (upd H a o) :=
  ⟨⟨[], by simp, fun _ h => by cases h⟩, fun _ q => q, fun a q => .inl q, rfl, fun b q => upd_ne fun (e : b = a) => (S.cell i c a hi ha nd).1 (by rw [← e]; exact q),
    fun b q n => upd_ne fun (e : b = a) => n (by rw [e]; exact List.mem_of_getElem? ha), fun b q => upd_some q⟩
theorem SRel.put {i : Nat} {a : Addr} {c c' : Cell} {o : HO} (S : SRel K T P w H s) (hi : s[i]? = some c) (ha : w.mu[i]? = some a) (nd : c ≠ .dead) (nd' : c' ≠ .dead) (hc : CellR K T P w (upd H a o) a c') : SRel K T P w (upd H a o) (s.set i c') := by
  have l := le_put (o := o) S hi ha nd
  have hlt := (List.getElem?_eq_some_iff.mp hi).1
  have at_ : ∀ (j : Nat) (c1 : Cell), (s.set i c')[j]? = some c1 → (j = i ∧ c1 = c') ∨ (j ≠ i ∧ s[j]? = some c1) := fun j c1 e => by
    by_cases hj : j = i
    · subst hj
      rw [List.getElem?_set_self hlt] at e
      exact .inl ⟨rfl, (Option.some.inj e).symm⟩
    · rw [List.getElem?_set_ne (Ne.symm hj)] at e
      exact .inr ⟨hj, e⟩
  refine ⟨by simp [S.len], fun j c1 b h1 h2 n1 => ?_, fun j k c1 c2 b h1 h2 n1 n2 m1 m2 => ?_, fun b q => ?_, fun b q => upd_some (S.all b q)⟩
  · rcases at_ j c1 h1 with ⟨rfl, rfl⟩ | ⟨hj, e⟩
    · rw [ha] at h2; cases h2
      exact ⟨(S.cell j c a hi ha nd).1, hc⟩
    · obtain ⟨n, q⟩ := S.cell j c1 b e h2 n1
      have ne : b ≠ a := fun z => hj (S.inj j i c1 c b e hi n1 nd h2 (z ▸ ha))
      exact ⟨n, q.mono l (upd_ne ne)⟩
  · rcases at_ j c1 h1 with ⟨rfl, rfl⟩ | ⟨hj, e⟩ <;> rcases at_ k c2 h2 with ⟨rfl, rfl⟩ | ⟨hk, e'⟩
    · rfl
    · exact S.inj j k c c2 b hi e' nd n2 m1 m2
    · exact S.inj j k c1 c b e hi n1 nd m1 m2
    · exact S.inj j k c1 c2 b e e' n1 n2 m1 m2
  · rw [upd_ne fun (e : b = a) => (S.cell i c a hi ha nd).1 (by rw [← e]; exact q)]; exact S.fz b q
/-- a cell stands for good -/
theorem SRel.kill {i : Nat} {a : Addr} {xs : List D} (S : SRel K T P w H s) (hi : s[i]? = some (.lst xs)) (ha : w.mu[i]? = some a) :
    Le w (w.ice a) H H ∧ SRel K T P (w.ice a) H (s.set i .dead) ∧ Rep K T P (w.ice a) H (.lst xs) (.ref a) := by
  have l : Le w (w.ice a) H H := ⟨⟨[], by simp [Wd.ice], fun _ h => by cases h⟩, fun _ q => .inl q, fun b q => q.elim .inl fun e => .inr (.inr (by rw [e]; exact List.mem_of_getElem? ha)), rfl, fun _ _ => rfl, fun _ _ _ => rfl, fun _ q => q⟩
  obtain ⟨n0, vs, hv, hr⟩ := S.cell i _ a hi ha (fun z => nomatch z)
  have hlt := (List.getElem?_eq_some_iff.mp hi).1
  have at_ : ∀ (j : Nat) (c1 : Cell), (s.set i .dead)[j]? = some c1 → c1 ≠ .dead → j ≠ i ∧ s[j]? = some c1 := fun j c1 e nd => by
    by_cases hj : j = i
    · subst hj
      rw [List.getElem?_set_self hlt] at e
      exact absurd (Option.some.inj e).symm nd
    · rw [List.getElem?_set_ne (Ne.symm hj)] at e
      exact ⟨hj, e⟩
  refine ⟨l, ⟨by simpa [Wd.ice] using S.len, fun j c1 b h1 h2 n1 => ?_, fun j k c1 c2 b h1 h2 n1 n2 m1 m2 => S.inj j k c1 c2 b (at_ j c1 h1 n1).2 (at_ k c2 h2 n2).2 n1 n2 m1 m2, fun b q => ?_, S.all⟩, .lst (.inr rfl) hv (hr.mono l)⟩
  · obtain ⟨hj, e⟩ := at_ j c1 h1 n1
    obtain ⟨n, q⟩ := S.cell j c1 b e h2 n1
    exact ⟨fun z => z.elim n fun z => hj (S.inj j i c1 _ b e hi n1 (fun z => nomatch z) h2 (z ▸ ha)), q.mono l rfl⟩
  · rcases q with q | q
    · exact S.fz b q
    · rw [q, hv]; exact fun z => nomatch z
/-- what is none of ours is laid or written -/
theorem SRel.aside {p : Addr} {o : HO} (S : SRel K T P w H s) (h1 : p ∉ w.mu) (h2 : ¬ w.fz p) : Lr w w H (upd H p o) ∧ SRel K T P w (upd H p o) s := by
  have l : Lr w w H (upd H p o) := ⟨⟨[], by simp⟩, fun _ q => q, rfl, fun a q => upd_ne fun e => h2 (e ▸ q)⟩
  refine ⟨l, S.len, fun i c a hi ha nd => ?_, S.inj, fun a q => upd_some (S.fz a q), fun a q => upd_some (S.all a q)⟩
  obtain ⟨n, q⟩ := S.cell i c a hi ha nd
  exact ⟨n, q.mon l (upd_ne fun e => h1 (e ▸ List.mem_of_getElem? ha))⟩
theorem Le.aside {p : Addr} {o : HO} (l : Le w w' H H') (h : H p = none) (h2 : ¬ w.fz p) : Le w w' H (upd H' p o) :=
  ⟨l.mu, l.fz, l.nf, l.pn, fun a q => (upd_ne fun (e : a = p) => h2 (by rw [← e]; exact q)).trans (l.st a q), fun a q n => (upd_ne fun (e : a = p) => q (by rw [e]; exact h)).trans (l.un a q n), fun a q => upd_some (l.up a q)⟩
theorem Le.apart {p : Addr} (l : Le w w' H H') (h : H p ≠ none) (h1 : p ∉ w.mu) (h2 : ¬ w.fz p) : p ∉ w'.mu ∧ ¬ w'.fz p ∧ H' p = H p := by
  obtain ⟨t, e, g⟩ := l.mu
  refine ⟨fun q => ?_, fun q => ?_, l.un p h h1⟩
  · rw [e] at q
    exact (List.mem_append.mp q).elim h1 fun q => h (g p q)
  · rcases l.nf p q with q | q | q
    · exact h2 q
    · exact h q
    · exact h1 q
theorem SRel.out {p : Addr} (S : SRel K T P w H s) (h : H p = none) : p ∉ w.mu := fun q => S.all p q h
end
end MP
set_option autoImplicit false
set_option linter.all false
set_option maxRecDepth 10000
/-! MPc: expressions: what is wanted of a value, and the rules. -/
namespace MP
open PySem PySem.Spec PyProof.Rows L2

section
variable (K : PySem.W.Frag) (T : Tab) (P : Prog)
/-- an exception as it lies -/
def XR (w : Wd) (H : Hp) (c : Nat) (fs : List D) (cls : Value) (dd : Option Addr) : Prop :=
  cls = .ref (ca K T c) ∧ ((fs = [] ∧ dd = none) ∨ ∃ (x : D) (v : V) (d : Addr) (k : Cls) (f : Nat), fs = [x] ∧ dd = some d ∧ w.fz d ∧ P.cls c = some k ∧ k.flds = [f] ∧ H d = some (.xd [(T.anm f, v)]) ∧ Rep K T P w H x v)
def Out {α β : Type} (rel : Wd → Hp → α → β → Prop) (w : Wd) (H : Hp) (σ : L2.St) (W : WX) (Q : β → Hp → Prop) (r : R α) : Prop := match r with
  | .ok d s' => ∀ v w' H', Le w w' H H' → SRel K T P w' H' s' → rel w' H' d v → Q v H'
  | .ex c fs s' => ∀ cls dd w' H', Le w w' H H' → SRel K T P w' H' s' → XR K T P w' H' c fs cls dd → W cls dd σ H'
  | .no => False
def tG {α β : Type} (rel : Wd → Hp → α → β → Prop) (f : Env → Sto → R α) (W : WX) : L2.St → Hp → (β → Hp → Prop) → Prop := fun σ H Q =>
  ∃ env s w, ERel K T P w H env σ ∧ SRel K T P w H s ∧ Out K T P rel w H σ W Q (f env s)
abbrev rOpt (_ : Wd) (_ : Hp) (a b : Option Int) : Prop := a = b
abbrev rBool (_ : Wd) (_ : Hp) (a b : Bool) : Prop := a = b
/-- an expression that does as f says -/
abbrev ME (X : Cx) (W : WX) (e : Expr) (f : Env → Sto → R D) : Prop := PE X e (tG K T P (Rep K T P) f W)
abbrev MA (X : Cx) (W : WX) (es : List Expr) (f : Env → Sto → R (List D)) : Prop := PA X es (tG K T P (Reps K T P) f W)
abbrev MT (X : Cx) (W : WX) (e : Expr) (f : Env → Sto → R Bool) : Prop := PT X e (tG K T P rBool f W)
abbrev MO (X : Cx) (W : WX) (e : Option Expr) (f : Env → Sto → R (Option Int)) : Prop := PO X e (tG K T P rOpt f W)
end
section
variable {K : PySem.W.Frag} {T : Tab} {P : Prog} {w w' : Wd} {H H' : Hp} {s : Sto} {σ : L2.St} {W : WX}
theorem XR.mono (l : Le w w' H H') {c : Nat} {fs : List D} {cls : Value} {dd : Option Addr} (h : XR K T P w H c fs cls dd) : XR K T P w' H' c fs cls dd := by
  obtain ⟨h1, h | ⟨x, v, d, k, f, e1, e2, e3, e4, e5, e6, e7⟩⟩ := h
  · exact ⟨h1, .inl h⟩
  · exact ⟨h1, .inr ⟨x, v, d, k, f, e1, e2, l.fz _ e3, e4, e5, (l.st _ e3).trans e6, e7.mono l⟩⟩
theorem Out.later {α β : Type} {rel : Wd → Hp → α → β → Prop} {Q : β → Hp → Prop} {r : R α} (l : Le w w' H H') (h : Out K T P rel w H σ W Q r) : Out K T P rel w' H' σ W Q r := by
  cases r with
  | ok d s' => exact fun v w2 H2 l2 => h v w2 H2 (l.trans l2)
  | ex c fs s' => exact fun cls dd w2 H2 l2 => h cls dd w2 H2 (l.trans l2)
  | no => exact h
theorem Out.bind {α β γ δ : Type} {rel : Wd → Hp → α → β → Prop} {rel2 : Wd → Hp → γ → δ → Prop} {Q : δ → Hp → Prop} {r : R α} {k : α → Sto → R γ} (h : Out K T P rel2 w H σ W Q (r.bind k)) :
    Out K T P rel w H σ W (fun v H' => ∃ w' d s', Le w w' H H' ∧ SRel K T P w' H' s' ∧ rel w' H' d v ∧ Out K T P rel2 w' H' σ W Q (k d s')) r := by
  cases r with
  | ok d s' => exact fun v w2 H2 l2 S2 r2 => ⟨w2, d, s', l2, S2, r2, h.later l2⟩
  | ex c fs s' => exact h
  | no => exact h
theorem Out.mono {α β : Type} {rel : Wd → Hp → α → β → Prop} {Q Q' : β → Hp → Prop} {r : R α} (h : Out K T P rel w H σ W Q r) (k : ∀ v w' H', Le w w' H H' → Q v H' → Q' v H') : Out K T P rel w H σ W Q' r := by
  cases r with
  | ok d s' => exact fun v w2 H2 l2 S2 r2 => k v w2 H2 l2 (h v w2 H2 l2 S2 r2)
  | ex c fs s' => exact h
  | no => exact h
/-- a value that is there -/
theorem Out.here {α β : Type} {rel : Wd → Hp → α → β → Prop} {Q : β → Hp → Prop} {d : α} {v : β} (h : Out K T P rel w H σ W Q (.ok d s)) (S : SRel K T P w H s) (r : rel w H d v) : Q v H := h v w H (Le.refl w H) S r
end
theorem R.bind_assoc {α β γ : Type} (r : R α) (f : α → Sto → R β) (g : β → Sto → R γ) : (r.bind f).bind g = r.bind fun a s => (f a s).bind g := by cases r <;> rfl
theorem _root_.L2.PE.imp {X : Cx} {e : Expr} {t t' : TE} (h : PE X e t) (k : ∀ σ H Q, t' σ H Q → t σ H Q) : PE X e t' := ⟨fun pins s σ H Q I q => h.run pins s σ H Q I (k σ H Q q)⟩
theorem _root_.L2.PT.imp {X : Cx} {e : Expr} {t t' : TT} (h : PT X e t) (k : ∀ σ H Q, t' σ H Q → t σ H Q) : PT X e t' := ⟨fun pins s σ H Q I q => h.run pins s σ H Q I (k σ H Q q)⟩
theorem _root_.L2.PA.imp {X : Cx} {e : List Expr} {t t' : TA} (h : PA X e t) (k : ∀ σ H Q, t' σ H Q → t σ H Q) : PA X e t' := ⟨fun pos pins s σ H Q I q => h.run pos pins s σ H Q I (k σ H Q q)⟩
theorem _root_.L2.PO.imp {X : Cx} {e : Option Expr} {t t' : TO} (h : PO X e t) (k : ∀ σ H Q, t' σ H Q → t σ H Q) : PO X e t' := ⟨fun pins s σ H Q I q => h.run pins s σ H Q I (k σ H Q q)⟩
theorem _root_.L2.PS.imp {X : Cx} {e : Stmt} {t t' : TS} (h : PS X e t) (k : ∀ D σ H, t' D σ H → t D σ H) : PS X e t' := ⟨fun pins s σ H D I q => h.run pins s σ H D I (k D σ H q)⟩
theorem _root_.L2.PSs.imp {X : Cx} {e : List Stmt} {t t' : TS} (h : PSs X e t) (k : ∀ D σ H, t' D σ H → t D σ H) : PSs X e t' := ⟨fun pins s σ H D I q => h.run pins s σ H D I (k D σ H q)⟩

theorem line_eq : LINE = sizeLine := sizeLine_eq.symm

/-! ### names, constants -/
section
variable {T : Tab} {P : Prog} {X : Cx} {W : WX} {pos : Pos}
theorem me_var {i : Nat} {x : Str} (hN : X.N[i]? = some x) (hv : Vis X.env.scope x) (hd : (x == ("__debug__" : Str)) = false) (hcd : (x == ("__classdict__" : Str)) = false) : ME X.K T P X W (.Name x pos) (fun env s => .opt (getE env i) s) := by
  refine (pe_var hN hv hd hcd).imp fun σ H Q h => ?_
  obtain ⟨env, s, w, E, S, o⟩ := h
  dsimp only at o
  cases e : getE env i with
  | none => rw [e] at o; exact o.elim
  | some d =>
    rw [e] at o
    obtain ⟨v, h1, h2⟩ := E.2 i d e
    exact ⟨v, h1, o.here S h2⟩
theorem me_c {e : Expr} {d : D} {v : V} (h : PE X e (tC v)) (r : ∀ w H, Rep X.K T P w H d v) : ME X.K T P X W e (fun _ s => .ok d s) := by
  refine h.imp fun σ H Q h => ?_
  obtain ⟨env, s, w, E, S, o⟩ := h
  exact o.here S (r w H)
theorem me_int {i : Int} {j : Nat} : ME X.K T P X W (.Constant (.int i) j pos) (fun _ s => .ok (.int i) s) := me_c pe_int fun _ _ => .int i
theorem me_bl {b : Bool} {j : Nat} : ME X.K T P X W (.Constant (.bool b) j pos) (fun _ s => .ok (.bl b) s) := me_c pe_bl fun _ _ => .bl b
theorem me_non {j : Nat} : ME X.K T P X W (.Constant .none j pos) (fun _ s => .ok .non s) := me_c pe_non fun _ _ => .non
theorem me_str {x : List Nat} {j : Nat} : ME X.K T P X W (.Constant (.str ⟨x.toArray⟩) j pos) (fun _ s => .ok (.str x) s) := me_c pe_str fun _ _ => .str x
theorem me_glob {x : Str} {i : Int} {t : Tok} (hg : Gl X x) (hm : X.mg x = some (.int i t)) (hd : (x == ("__debug__" : Str)) = false) : ME X.K T P X W (.Name x pos) (fun _ s => .ok (.int i) s) := me_c (v := .int i) (pe_glob hg hm ⟨_, rfl⟩ hd) fun _ _ => .int i

/-! ### two and one -/
variable {a b c : Expr} {fa fb fc : Env → Sto → R D}
/-- how an operation on two values does as f says -/
def OpM (T : Tab) (P : Prog) (X : Cx) (f : Value → Value → Sem Value) (g : Sto → D → D → Option D) : Prop :=
  OpR X f fun x y H Q => ∃ w s d e z, SRel X.K T P w H s ∧ Rep X.K T P w H d x ∧ Rep X.K T P w H e y ∧ g s d e = some z ∧ ∀ v w' H', Le w w' H H' → SRel X.K T P w' H' s → Rep X.K T P w' H' z v → Q v H'
theorem me_op2 {op : Operator} {g : Sto → D → D → Option D} (h : OpM T P X (binaryOp op) g) (ha : ME X.K T P X W a fa) (hb : ME X.K T P X W b fb) :
    ME X.K T P X W (.BinOp a op b pos) (fun env s => (fa env s).bind fun x s => (fb env s).bind fun y s => .opt (g s x y) s) := by
  refine (pe_op h ha hb).imp fun σ H Q q => ?_
  obtain ⟨env, s, w, E, S, o⟩ := q
  refine ⟨env, s, w, E, S, o.bind.mono fun x _ H1 _ q => ?_⟩
  obtain ⟨w1, d, s1, l1, S1, r1, o1⟩ := q
  refine ⟨env, s1, w1, E.mono l1, S1, o1.bind.mono fun y _ H2 _ q => ?_⟩
  obtain ⟨w2, e, s2, l2, S2, r2, o2⟩ := q
  cases z : g s2 d e with
  | none => rw [z] at o2; exact o2.elim
  | some z' =>
    rw [z] at o2
    exact ⟨w2, s2, d, e, z', S2, r1.mono l2, r2, z, o2⟩
theorem me_cmp2 {op : CmpOp} {g : Sto → D → D → Option Bool} (h : OpM T P X (compareOp op) fun s x y => (g s x y).map D.bl) (hm : behindInMarks op b = false) (ha : ME X.K T P X W a fa) (hb : ME X.K T P X W b fb) :
    ME X.K T P X W (.Compare a [op] [b] pos) (fun env s => (fa env s).bind fun x s => (fb env s).bind fun y s => .opt ((g s x y).map D.bl) s) := by
  refine (pe_cmpR h ha hb hm).imp fun σ H Q q => ?_
  obtain ⟨env, s, w, E, S, o⟩ := q
  refine ⟨env, s, w, E, S, o.bind.mono fun x _ H1 _ q => ?_⟩
  obtain ⟨w1, d, s1, l1, S1, r1, o1⟩ := q
  refine ⟨env, s1, w1, E.mono l1, S1, o1.bind.mono fun y _ H2 _ q => ?_⟩
  obtain ⟨w2, e, s2, l2, S2, r2, o2⟩ := q
  cases z : g s2 d e with
  | none => rw [z] at o2; exact o2.elim
  | some z' =>
    rw [z] at o2
    exact ⟨w2, s2, d, e, .bl z', S2, r1.mono l2, r2, by show (g s2 d e).map D.bl = _; rw [z]; rfl, o2⟩
/-- the truth of a value, as a test -/
def tru (f : Env → Sto → R D) : Env → Sto → R Bool := fun env s => (f env s).bind fun x s => .opt (truthy s x) s
theorem mt_cmp2 {op : CmpOp} {g : Sto → D → D → Option Bool} (h : OpM T P X (compareOp op) fun s x y => (g s x y).map D.bl) (hm : behindInMarks op b = false) (ha : ME X.K T P X W a fa) (hb : ME X.K T P X W b fb) :
    MT X.K T P X W (.Compare a [op] [b] pos) (tru fun env s => (fa env s).bind fun x s => (fb env s).bind fun y s => .opt ((g s x y).map D.bl) s) := by
  refine (pt_cmpR h ha hb hm).imp fun σ H Q q => ?_
  obtain ⟨env, s, w, E, S, o⟩ := q
  simp only [tru, R.bind_assoc] at o
  refine ⟨env, s, w, E, S, o.bind.mono fun x _ H1 _ q => ?_⟩
  obtain ⟨w1, d, s1, l1, S1, r1, o1⟩ := q
  refine ⟨env, s1, w1, E.mono l1, S1, o1.bind.mono fun y _ H2 _ q => ?_⟩
  obtain ⟨w2, e, s2, l2, S2, r2, o2⟩ := q
  cases z : g s2 d e with
  | none => rw [z] at o2; exact o2.elim
  | some z' =>
    rw [z] at o2
    refine ⟨w2, s2, d, e, .bl z', S2, r1.mono l2, r2, by show (g s2 d e).map D.bl = _; rw [z]; rfl, fun v w3 H3 l3 S3 r3 => ?_⟩
    cases r3
    exact ⟨z', rfl, o2 z' w3 H3 l3 S3 rfl⟩
theorem truV_of {w : Wd} {H : Hp} {s : Sto} {d : D} {x : V} {k : Bool} (S : SRel X.K T P w H s) (r : Rep X.K T P w H d x) (h : truthy s d = some k) : TruV X.K x H k := by
  have em : ∀ {ds : List D} {vs : List V}, Reps X.K T P w H ds vs → ds.isEmpty = vs.isEmpty := fun r => by cases r <;> rfl
  cases r with
  | non => exact (Option.some.inj h).symm
  | bl b => exact (Option.some.inj h).symm
  | int i => exact (Option.some.inj h).symm
  | str z =>
    simp only [truthy] at h
    split at h
    · rename_i hz
      refine ⟨by rw [← line_eq]; simpa [PySem.Str.length] using hz, ?_⟩
      rw [← Option.some.inj h]
      cases z <;> rfl
    · cases h
  | tup f hh rr =>
    have e := Option.some.inj h
    rw [em rr] at e
    exact .inr (.inl ⟨_, SqT.of hh, e.symm⟩)
  | lst f hh rr =>
    have e := Option.some.inj h
    rw [em rr] at e
    exact .inl ⟨_, SqL.of hh, e.symm⟩
  | scr q => cases h
  | rcd f hc hx hl hh rr => cases h
  | ref hh =>
    rename_i i
    simp only [truthy] at h
    split at h
    · rename_i xs e
      have e2 := Option.some.inj h
      obtain ⟨_, vs, hv, rr⟩ := S.cell _ _ _ e hh (fun z => nomatch z)
      rw [em rr] at e2
      exact .inl ⟨_, SqL.of hv, e2.symm⟩
    · cases h
  | exc0 => cases h
  | exc1 => cases h

/-! ### truth -/
theorem mt_of (ha : ME X.K T P X W a fa) (he : ∀ whole, isTrue a X.env whole = (do let v ← whole; standAt a.pos; holding [v] (PySem.truthy v))) : MT X.K T P X W a (tru fa) := by
  refine (pt_truth ha he).imp fun σ H Q q => ?_
  obtain ⟨env, s, w, E, S, o⟩ := q
  refine ⟨env, s, w, E, S, o.bind.mono fun x _ H1 _ q => ?_⟩
  obtain ⟨w1, d, s1, l1, S1, r1, o1⟩ := q
  cases z : MP.truthy s1 d with
  | none => rw [z] at o1; exact o1.elim
  | some k => rw [z] at o1; exact ⟨k, truV_of S1 r1 z, o1.here S1 rfl⟩
/-- not -/
def nt (f : Env → Sto → R D) : Env → Sto → R D := fun env s => (f env s).bind fun x s => .opt ((MP.truthy s x).map fun b => D.bl (!b)) s
theorem me_not (ha : ME X.K T P X W a fa) : ME X.K T P X W (.UnaryOp .Not a pos) (nt fa) := by
  refine (pe_notT ha).imp fun σ H Q q => ?_
  obtain ⟨env, s, w, E, S, o⟩ := q
  refine ⟨env, s, w, E, S, o.bind.mono fun x _ H1 _ q => ?_⟩
  obtain ⟨w1, d, s1, l1, S1, r1, o1⟩ := q
  cases z : MP.truthy s1 d with
  | none => rw [z] at o1; exact o1.elim
  | some k => rw [z] at o1; exact ⟨k, truV_of S1 r1 z, o1.here S1 (.bl _)⟩
theorem mt_not (ha : MT X.K T P X W a (tru fa)) : MT X.K T P X W (.UnaryOp .Not a pos) (tru (nt fa)) := by
  refine (pt_not ha).imp fun σ H Q q => ?_
  obtain ⟨env, s, w, E, S, o⟩ := q
  refine ⟨env, s, w, E, S, ?_⟩
  simp only [tru, nt, R.bind_assoc] at o ⊢
  cases r : fa env s with
  | no => rw [r] at o; exact o
  | ex c fs s1 => rw [r] at o; exact o
  | ok d s1 =>
    rw [r] at o
    simp only [R.bind_ok] at o ⊢
    cases z : MP.truthy s1 d with
    | none => rw [z] at o; exact o.elim
    | some k =>
      rw [z] at o
      intro v w1 H1 l1 S1 r1
      cases r1
      exact o (!k) w1 H1 l1 S1 rfl
/-- chains -/
def andF : List (Env → Sto → R D) → Env → Sto → R D
  | [], _, s => .ok (.bl true) s
  | [f], env, s => f env s
  | f :: fs, env, s => (f env s).bind fun x s => opt1 (MP.truthy s x) fun b => if b then andF fs env s else .ok x s
def orF : List (Env → Sto → R D) → Env → Sto → R D
  | [], _, s => .ok (.bl false) s
  | [f], env, s => f env s
  | f :: fs, env, s => (f env s).bind fun x s => opt1 (MP.truthy s x) fun b => if b then .ok x s else orF fs env s
abbrev MW (K : PySem.W.Frag) (T : Tab) (P : Prog) (X : Cx) (W : WX) (e : Expr) (f : Env → Sto → R Bool) : Prop := PW X e (tG K T P rBool f W)
variable {rest : List Expr} {f g : Env → Sto → R D} {fs : List (Env → Sto → R D)}
theorem me_and (ha : ME X.K T P X W a f) (hb : ME X.K T P X W (.BoolOp .And (b :: rest) pos) (andF (g :: fs))) : ME X.K T P X W (.BoolOp .And (a :: b :: rest) pos) (andF (f :: g :: fs)) := by
  refine (pe_andT ha hb).imp fun σ H Q q => ?_
  obtain ⟨env, s, w, E, S, o⟩ := q
  refine ⟨env, s, w, E, S, o.bind.mono fun x _ H1 _ q => ?_⟩
  obtain ⟨w1, d, s1, l1, S1, r1, o1⟩ := q
  cases z : MP.truthy s1 d with
  | none => rw [z] at o1; exact o1.elim
  | some k =>
    rw [z] at o1
    refine ⟨k, truV_of S1 r1 z, ?_⟩
    cases k with
    | true => rw [if_pos rfl]; exact ⟨env, s1, w1, E.mono l1, S1, o1⟩
    | false => rw [if_neg Bool.false_ne_true]; exact o1.here S1 r1
theorem me_or (ha : ME X.K T P X W a f) (hb : ME X.K T P X W (.BoolOp .Or (b :: rest) pos) (orF (g :: fs))) : ME X.K T P X W (.BoolOp .Or (a :: b :: rest) pos) (orF (f :: g :: fs)) := by
  refine (pe_orT ha hb).imp fun σ H Q q => ?_
  obtain ⟨env, s, w, E, S, o⟩ := q
  refine ⟨env, s, w, E, S, o.bind.mono fun x _ H1 _ q => ?_⟩
  obtain ⟨w1, d, s1, l1, S1, r1, o1⟩ := q
  cases z : MP.truthy s1 d with
  | none => rw [z] at o1; exact o1.elim
  | some k =>
    rw [z] at o1
    refine ⟨k, truV_of S1 r1 z, ?_⟩
    cases k with
    | true => rw [if_pos rfl]; exact o1.here S1 r1
    | false => rw [if_neg Bool.false_ne_true]; exact ⟨env, s1, w1, E.mono l1, S1, o1⟩
theorem mw_and (ha : MT X.K T P X W a (tru f)) (hb : MW X.K T P X W (.BoolOp .And (b :: rest) pos) (tru (andF (g :: fs)))) : MW X.K T P X W (.BoolOp .And (a :: b :: rest) pos) (tru (andF (f :: g :: fs))) := by
  refine ⟨fun whole pins s0 σ H Q I q => (pw_and ha hb).run whole pins s0 σ H Q I ?_⟩
  obtain ⟨env, s, w, E, S, o⟩ := q
  refine ⟨env, s, w, E, S, ?_⟩
  simp only [tru, andF, R.bind_assoc] at o ⊢
  cases r : f env s with
  | no => rw [r] at o; exact o
  | ex c fs s1 => rw [r] at o; exact o
  | ok d s1 =>
    rw [r] at o
    simp only [R.bind_ok] at o ⊢
    cases z : MP.truthy s1 d with
    | none => rw [z] at o; exact o.elim
    | some k =>
      rw [z] at o
      intro v w1 H1 l1 S1 r1
      cases r1
      cases k with
      | true => rw [if_pos rfl]; exact ⟨env, s1, w1, E.mono l1, S1, o.later l1⟩
      | false =>
        rw [if_neg Bool.false_ne_true]
        simp only [opt1_some, Bool.false_eq_true, if_false, R.bind_ok, z, R.opt_some] at o
        exact o false w1 H1 l1 S1 rfl
theorem mw_or (ha : MT X.K T P X W a (tru f)) (hb : MW X.K T P X W (.BoolOp .Or (b :: rest) pos) (tru (orF (g :: fs)))) : MW X.K T P X W (.BoolOp .Or (a :: b :: rest) pos) (tru (orF (f :: g :: fs))) := by
  refine ⟨fun whole pins s0 σ H Q I q => (pw_or ha hb).run whole pins s0 σ H Q I ?_⟩
  obtain ⟨env, s, w, E, S, o⟩ := q
  refine ⟨env, s, w, E, S, ?_⟩
  simp only [tru, orF, R.bind_assoc] at o ⊢
  cases r : f env s with
  | no => rw [r] at o; exact o
  | ex c fs s1 => rw [r] at o; exact o
  | ok d s1 =>
    rw [r] at o
    simp only [R.bind_ok] at o ⊢
    cases z : MP.truthy s1 d with
    | none => rw [z] at o; exact o.elim
    | some k =>
      rw [z] at o
      intro v w1 H1 l1 S1 r1
      cases r1
      cases k with
      | false => rw [if_neg Bool.false_ne_true]; exact ⟨env, s1, w1, E.mono l1, S1, o.later l1⟩
      | true =>
        rw [if_pos rfl]
        simp only [opt1_some, if_true, R.bind_ok, z, R.opt_some] at o
        exact o true w1 H1 l1 S1 rfl
theorem mw_and1 (ha : MT X.K T P X W a (tru f)) : MW X.K T P X W (.BoolOp .And [a] pos) (tru (andF [f])) := pw_and1 ha
theorem mw_or1 (ha : MT X.K T P X W a (tru f)) : MW X.K T P X W (.BoolOp .Or [a] pos) (tru (orF [f])) := pw_or1 ha
theorem me_and1 (ha : ME X.K T P X W a f) : ME X.K T P X W (.BoolOp .And [a] pos) (andF [f]) := pe_one ha
theorem me_or1 (ha : ME X.K T P X W a f) : ME X.K T P X W (.BoolOp .Or [a] pos) (orF [f]) := pe_one ha
/-- a if c else b -/
theorem me_ite (hc : MT X.K T P X W c (tru fc)) (ha : ME X.K T P X W a fa) (hb : ME X.K T P X W b fb) :
    ME X.K T P X W (.IfExp c a b pos) (fun env s => (fc env s).bind fun x s => opt1 (MP.truthy s x) fun r => if r then fa env s else fb env s) := by
  refine (pe_ifExp hc ha hb).imp fun σ H Q q => ?_
  obtain ⟨env, s, w, E, S, o⟩ := q
  refine ⟨env, s, w, E, S, ?_⟩
  simp only [tru] at o ⊢
  cases r : fc env s with
  | no => rw [r] at o; exact o
  | ex c fs s1 => rw [r] at o; exact o
  | ok d s1 =>
    rw [r] at o
    simp only [R.bind_ok] at o ⊢
    cases z : MP.truthy s1 d with
    | none => rw [z] at o; exact o.elim
    | some k =>
      rw [z] at o
      intro v w1 H1 l1 S1 r1
      cases r1
      cases k with
      | true => rw [if_pos rfl]; exact ⟨env, s1, w1, E.mono l1, S1, o.later l1⟩
      | false => rw [if_neg Bool.false_ne_true]; exact ⟨env, s1, w1, E.mono l1, S1, o.later l1⟩
/-- one more thing done with a value -/
theorem me_one {e : Expr} {t : TE} {k : D → Sto → R D} (ha : ME X.K T P X W a fa) (he : PE X e t)
    (h : ∀ σ H Q, tG X.K T P (Rep X.K T P) fa W σ H (fun v H1 => ∃ w d s, SRel X.K T P w H1 s ∧ Rep X.K T P w H1 d v ∧ (∃ env, ERel X.K T P w H1 env σ) ∧ Out X.K T P (Rep X.K T P) w H1 σ W Q (k d s)) → t σ H Q) :
    ME X.K T P X W e (fun env s => (fa env s).bind k) := by
  refine he.imp fun σ H Q q => h σ H Q ?_
  obtain ⟨env, s, w, E, S, o⟩ := q
  refine ⟨env, s, w, E, S, o.bind.mono fun x _ H1 _ q => ?_⟩
  obtain ⟨w1, d, s1, l1, S1, r1, o1⟩ := q
  exact ⟨w1, d, s1, S1, r1, ⟨env, E.mono l1⟩, o1⟩

/-! ### argument lists, displays -/
variable {es : List Expr} {e : Expr} {fl : Env → Sto → R (List D)}
theorem ma_nil : MA X.K T P X W [] (fun _ s => .ok [] s) := by
  refine pa_nil.imp fun σ H Q q => ?_
  obtain ⟨env, s, w, E, S, o⟩ := q
  exact o.here S .nil
theorem ma_cons (ha : ME X.K T P X W e f) (hr : MA X.K T P X W es fl) (hs : starEach (e :: es) X.env = (false, eval e X.env) :: starEach es X.env) :
    MA X.K T P X W (e :: es) (fun env s => (f env s).bind fun x s => (fl env s).bind fun xs s => .ok (x :: xs) s) := by
  refine (pa_cons ha hr hs).imp fun σ H Q q => ?_
  obtain ⟨env, s, w, E, S, o⟩ := q
  refine ⟨env, s, w, E, S, o.bind.mono fun x _ H1 _ q => ?_⟩
  obtain ⟨w1, d, s1, l1, S1, r1, o1⟩ := q
  refine ⟨env, s1, w1, E.mono l1, S1, o1.bind.mono fun xs _ H2 l2' q => ?_⟩
  obtain ⟨w2, ds, s2, l2, S2, r2, o2⟩ := q
  exact o2.here S2 (.cons (r1.mono l2) r2)
theorem out_ice {w : Wd} {H : Hp} {σ : L2.St} {Q : VK} {s : Sto} {d : D} {p : Addr} {o : HO} (h : Out X.K T P (Rep X.K T P) w H σ W Q (.ok d s)) (S : SRel X.K T P w H s) (hp : H p = none)
    (r : Rep X.K T P (w.ice p) (upd H p o) d (.ref p)) : Q (.ref p) (upd H p o) := h _ _ _ (le_ice S hp) (S.ice hp) r
theorem me_tup {k : Nat} (h : MA X.K T P X W es fl) (hl : ∀ env s xs s', fl env s = .ok xs s' → xs.length ≤ 1000) : ME X.K T P X W (.Tuple es k pos) (fun env s => (fl env s).bind fun xs s => .ok (.tup xs) s) := by
  refine (pe_tup h).imp fun σ H Q q => ?_
  obtain ⟨env, s, w, E, S, o⟩ := q
  refine ⟨env, s, w, E, S, ?_⟩
  dsimp only at o
  cases r : fl env s with
  | no => rw [r] at o; exact o
  | ex c fs s1 => rw [r] at o; exact o
  | ok ds s1 =>
    rw [r] at o
    intro xs w1 H1 l1 S1 r1
    have hlen := hl env s ds s1 r
    rw [r1.length] at hlen
    exact ⟨by rw [sizeLine_eq]; omega, fun p hp => out_ice (o.later l1) S1 hp (.tup (.inr rfl) upd_same (r1.mono (le_ice S1 hp)))⟩
/-- a new list: handed on as it is, or as a cell -/
theorem out_newL {w : Wd} {H : Hp} {σ : L2.St} {Q : VK} {s : Sto} {m : Bool} {ds : List D} {vs : List V} (h : Out X.K T P (Rep X.K T P) w H σ W Q (newL m ds s)) (S : SRel X.K T P w H s) (r : Reps X.K T P w H ds vs) (p : Addr) (hp : H p = none) :
    Q (.ref p) (upd H p (.lst vs)) := by
  cases m with
  | false => exact h _ _ _ (le_ice S hp) (S.ice hp) (.lst (.inr rfl) upd_same (r.mono (le_ice S hp)))
  | true =>
    refine h _ _ _ (le_new S hp) (S.new hp (fun z => nomatch z) ⟨vs, upd_same, r.mono (le_new S hp)⟩) (.ref ?_)
    show (w.mu ++ [p])[s.length]? = some p
    rw [← S.len]
    simp
theorem me_lst {m : Bool} (h : MA X.K T P X W es fl) (hl : ∀ env s xs s', fl env s = .ok xs s' → xs.length ≤ 1000) : ME X.K T P X W (.List es pos) (fun env s => (fl env s).bind fun xs s => newL m xs s) := by
  refine (pe_lst h).imp fun σ H Q q => ?_
  obtain ⟨env, s, w, E, S, o⟩ := q
  refine ⟨env, s, w, E, S, ?_⟩
  dsimp only at o
  cases r : fl env s with
  | no => rw [r] at o; exact o
  | ex c fs s1 => rw [r] at o; exact o
  | ok ds s1 =>
    rw [r] at o
    intro xs w1 H1 l1 S1 r1
    have hlen := hl env s ds s1 r
    rw [r1.length] at hlen
    exact ⟨by rw [sizeLine_eq]; omega, fun p hp => out_newL (o.later l1) S1 r1 p hp⟩
end
end MP
set_option autoImplicit false
set_option linter.all false
set_option maxRecDepth 10000
set_option maxHeartbeats 1000000
/-! MPd: operators on two values. -/
namespace MP
open PySem PySem.Spec PyProof.Rows L2

section
variable {K : PySem.W.Frag} {T : Tab} {P : Prog} {w : Wd} {H : Hp} {s : Sto}
theorem lstOf_ok {d : D} {x : V} {xs : List D} (S : SRel K T P w H s) (r : Rep K T P w H d x) (h : lstOf s d = some xs) : ∃ a vs, x = .ref a ∧ H a = some (.lst vs) ∧ Reps K T P w H xs vs := by
  cases r with
  | lst f hh rr => cases h; exact ⟨_, _, rfl, hh, rr⟩
  | ref hh =>
    simp only [lstOf] at h
    split at h
    · rename_i ys e
      cases h
      obtain ⟨_, vs, hv, rr⟩ := S.cell _ _ _ e hh (fun z => nomatch z)
      exact ⟨_, vs, rfl, hv, rr⟩
    · cases h
  | _ => cases h
theorem seqOf_ok {d : D} {x : V} {xs : List D} (S : SRel K T P w H s) (r : Rep K T P w H d x) (h : seqOf s d = some xs) :
    ∃ a vs, x = .ref a ∧ ((SqL K H a vs ∧ ∀ ys, d ≠ .tup ys) ∨ (SqT K H a vs ∧ d = .tup xs)) ∧ Reps K T P w H xs vs := by
  cases r with
  | tup f hh rr => cases h; exact ⟨_, _, rfl, .inr ⟨SqT.of hh, rfl⟩, rr⟩
  | lst f hh rr => cases h; exact ⟨_, _, rfl, .inl ⟨SqL.of hh, fun _ z => nomatch z⟩, rr⟩
  | scr q => cases h; exact ⟨_, _, rfl, .inl ⟨scr_sq q, fun _ z => nomatch z⟩, Reps.of_ints _⟩
  | ref hh =>
    simp only [seqOf] at h
    split at h
    · rename_i ys e
      cases h
      obtain ⟨_, vs, hv, rr⟩ := S.cell _ _ _ e hh (fun z => nomatch z)
      exact ⟨_, vs, rfl, .inl ⟨SqL.of hv, fun _ z => nomatch z⟩, rr⟩
    · cases h
  | _ => cases h
theorem seqOf_ok' {d : D} {x : V} {xs : List D} (S : SRel K T P w H s) (r : Rep K T P w H d x) (h : seqOf s d = some xs) :
    ∃ a vs, x = .ref a ∧ (SqL K H a vs ∨ SqT K H a vs) ∧ Reps K T P w H xs vs := by
  obtain ⟨a, vs, e, h1, r1⟩ := seqOf_ok S r h
  exact ⟨a, vs, e, h1.elim (fun z => .inl z.1) fun z => .inr z.1, r1⟩
end

/-! ### a tuple, once -/
section
theorem tuple_mulS (l : Addr) (items : Array Value) (n : Nat) (dd : Option Addr) (sl : Array (Option Value)) (x : Int) (u : Tok) (c0 : (decide (x < -(2 ^ 63)) || decide (x ≥ 2 ^ 63)) = false) (c1 : (items.isEmpty || x == 1) = true) :
    Meets (Builtin.«tuple.__mul__» ⟨[.ref l, .int x u], []⟩) (fun _ R s => s.heap.get? l = some { cls := .type "tuple", dict := dd, data := .seq items n, slots := sl } ∧ R (.ok (.ret (Value.ref l))) s) :=
  .of_wp fun prog w A R s h => by
    obtain ⟨hp, g, d, tk, os⟩ := s
    obtain ⟨hl, h⟩ := h
    have f1 := AutoSeq1.idx_int
    wp_walk using wpAny_loadPart' hl
    repeat (first
      | (refine wpAny_ite_false (decide_eq_false (by rw [c0]; exact Bool.false_ne_true)) ?_; wp_walk using wpAny_loadPart' hl)
      | (refine wpAny_ite_true (decide_eq_true c1) ?_; wp_walk using wpAny_loadPart' hl))
    exact ⟨_, rfl, h⟩
def rRepA (K : PySem.W.Frag) : R2 := fun x y H Q => ∃ l k xs, x = .ref l ∧ y = .int k ∧ SqT K H l xs ∧ 1 ≤ k ∧ k ≤ 1000 ∧ xs.length ≤ 1000 ∧
  ((xs = [] ∨ k = 1) → Q (.ref l) H) ∧ ∀ p, H p = none → Q (.ref p) (upd H p (.tup (List.replicate k.toNat xs).flatten))
theorem op_repA {X : Cx} : OpR X (binaryOp .Mult) (rRepA X.K) := by
  intro pins s σ H x y v u Q I rx ry h
  obtain ⟨l, k, xs, rfl, rfl, hT, h1, h2, hz, q1, q⟩ := h
  by_cases hone : xs = [] ∨ k = 1
  · cases rx
    obtain ⟨t, rfl⟩ := ry
    obtain ⟨its, r, ⟨⟨cls, dd, data, sl⟩, ho, hc, n, hd⟩, hs⟩ := I.tuple hT
    simp only at hc hd
    subst hc hd
    have c0 : (decide (k < -(2 ^ 63)) || decide (k ≥ 2 ^ 63)) = false := by
      rw [decide_eq_false (by omega), decide_eq_false (by omega)] <;> rfl
    have c1 : (its.toArray.isEmpty || k == 1) = true := by
      rcases hone with e | e
      · subst e
        cases r
        rfl
      · subst e
        simp
    exact wpAny_binaryOp_repeat_ref (T := "tuple") (U := "int") (by decide) ⟨_, ho, rfl⟩ (fun s' => typeIs_int s' k t) noFill_tuple_mul F.fills_int_mul F.slot_int_rmul repeat_tuple F.slot_int_index.lookup
      (call_meets F.slot_int_rmul (typeIs_int s k t) F.entry_int_rmul (F.args_int_rmul_2 _ _) (int_rmul_tuple k t l its.toArray n dd sl)
        ⟨ho, rfl, ⟨_, ho, rfl⟩, call_meets F.slot_tuple_mul ⟨_, ho, rfl⟩ F.entry_tuple_mul (F.args_tuple_mul_2 _ _) (tuple_mulS l its.toArray n dd sl k t c0 c1) ⟨ho, .ref l, H, I, rfl, q1 hone⟩⟩)
  · refine op_repT pins s σ H _ _ v u Q I rx ry ⟨l, k, xs, rfl, rfl, hT, fun e => hone (.inl e), ?_, h2, hz, q⟩
    have : k ≠ 1 := fun e => hone (.inr e)
    omega
end

/-! ### a text, so many times -/
theorem str_mulL (x : List Nat) (n : Int) (h : 1 ≤ n) : Txt.mul ⟨x.toArray⟩ n = ⟨((List.replicate n.toNat x).flatten).toArray⟩ := by
  unfold Txt.mul
  rw [if_neg (by omega)]
  have fl : ∀ (k : Nat) (acc : List Nat), List.foldl (fun x1 x2 => x1 ++ x2) acc.toArray (List.replicate k x.toArray) = (acc ++ (List.replicate k x).flatten).toArray := by
    intro k
    induction k with
    | zero => intro acc; simp
    | succ k ih => intro acc; rw [List.replicate_succ, List.foldl_cons, List.append_toArray, ih, List.replicate_succ, List.flatten_cons, List.append_assoc]
  have e : List.foldl (fun x1 x2 => x1 ++ x2) #[] (List.replicate n.toNat x.toArray) = ((List.replicate n.toNat x).flatten).toArray := by
    have := fl n.toNat []
    simpa using this
  split
  · rename_i hc
    have hc' : n = 1 ∨ x.length = 0 := by simpa [PySem.Str.length] using hc
    rcases hc' with rfl | hc'
    · simp
    · have : x = [] := List.eq_nil_of_length_eq_zero hc'
      subst this
      simp
  · rw [e]
theorem op_strMul {X : Cx} : OpR X (binaryOp .Mult) (fun x y H Q => ∃ (z : List Nat) (k : Int), x = .str ⟨z.toArray⟩ ∧ y = .int k ∧ 1 ≤ k ∧ k ≤ 1000 ∧ z.length ≤ 1000 ∧ Q (.str ⟨((List.replicate k.toNat z).flatten).toArray⟩) H) := by
  intro pins s σ H x y v u Q I rx ry h
  obtain ⟨z, k, rfl, rfl, h1, h2, hz, q⟩ := h
  obtain ⟨t, rfl⟩ := rx
  obtain ⟨t', rfl⟩ := ry
  have hz' : (⟨z.toArray⟩ : Str).length ≤ 1000 := by simpa [PySem.Str.length] using hz
  have hm : (⟨z.toArray⟩ : Str).length * k.toNat ≤ 1000 * 1000 := Nat.mul_le_mul hz' (by omega)
  refine SB.mul ⟨by rw [decide_eq_false (by omega), decide_eq_false (by omega)] <;> rfl, fun _ _ => ?_, fun _ _ => ?_⟩ fun t2 k2 => ⟨.str _, H, I.tok k2, ⟨t2, rfl⟩, by rw [str_mulL z k h1]; exact q⟩
  · have : (1000 : Int) ≤ (2 ^ 63 - 1) / k := by
      rw [Int.le_ediv_iff_mul_le (by omega)]
      omega
    omega
  · unfold Builtin.Str.tooLong
    rw [sizeLine_eq]
    exact decide_eq_false (by omega)
end MP
set_option autoImplicit false
set_option linter.all false
set_option maxRecDepth 10000
set_option maxHeartbeats 1000000
/-! MPe: the operators as the small language has them. -/
namespace MP
open PySem PySem.Spec PyProof.Rows L2
section
variable {T : Tab} {P : Prog} {X : Cx} {W : WX}
theorem cells_app (x y : List Nat) : (⟨x.toArray⟩ : Str) ++ (⟨y.toArray⟩ : Str) = ⟨(x ++ y).toArray⟩ := by
  show (⟨x.toArray ++ y.toArray⟩ : Str) = _
  simp
theorem op_binop (o : BOp) : OpM T P X (binaryOp (match o with | .add => .Add | .sub => .Sub | .mul => .Mult | .fdiv => .FloorDiv | .mod => .Mod | .pow => .Pow)) (fun s x y => binop s o x y) := by
  intro pins sS σ H x y v u Q I rx ry h
  obtain ⟨w, s, d, e, z, S, r1, r2, hz, k⟩ := h
  have fin : ∀ {r : V}, Rep X.K T P w H z r → Q r H := fun q => k _ w H (Le.refl w H) S q
  have ice : ∀ {p : Addr} {o : HO}, H p = none → Rep X.K T P (w.ice p) (upd H p o) z (.ref p) → Q (.ref p) (upd H p o) := fun hp q => k _ _ _ (le_ice S hp) (S.ice hp) q
  have lists : ∀ {xs ys : List D}, lstOf s d = some xs → lstOf s e = some ys → xs.length + ys.length ≤ LINE → z = .lst (xs ++ ys) → wpAny (model X.prog X.w) X.A (binaryOp .Add v u) (EP X pins σ Q) X.xe sS := fun {xs ys} h1 h2 h3 h4 => by
    obtain ⟨a, vs, ea, ha, ra⟩ := lstOf_ok S r1 h1
    obtain ⟨b, us, eb, hb, rb⟩ := lstOf_ok S r2 h2
    subst ea eb h4
    refine op_cat pins sS σ H _ _ v u Q I rx ry ⟨a, b, vs, us, rfl, rfl, ha, hb, ?_, fun p hp => ice hp (.lst (.inr rfl) upd_same ((ra.append rb).mono (le_ice S hp)))⟩
    rw [← ra.length, ← rb.length, ← line_eq]
    exact h3
  have reps : ∀ {xs : List D} {n : Int}, lstOf s d = some xs → e = .int n → 0 ≤ n → n ≤ 1000000 → xs.length * n.toNat ≤ LINE → z = .lst (repD xs n) → wpAny (model X.prog X.w) X.A (binaryOp .Mult v u) (EP X pins σ Q) X.xe sS := fun {xs n} h1 h2 h3 h4 h5 h6 => by
    obtain ⟨a, vs, ea, ha, ra⟩ := lstOf_ok S r1 h1
    subst ea h2 h6
    cases r2
    refine op_rep pins sS σ H _ _ v u Q I rx ry ⟨a, n, vs, rfl, rfl, ha, by omega, by omega, ?_, fun p hp => ice hp (.lst (.inr rfl) upd_same ((ra.rep _).mono (le_ice S hp)))⟩
    rw [← ra.length, ← line_eq]
    exact h5
  cases o with
  | add =>
    simp only [binop] at hz ⊢
    split at hz <;> try (first | contradiction | (cases ‹BOp.add = _›))
    · cases r1; cases r2; cases hz
      exact op_add pins sS σ H _ _ v u Q I rx ry ⟨_, _, rfl, rfl, fin (.int _)⟩
    · split at hz
      · rename_i hl
        cases r1; cases r2; cases hz
        refine op_add_str pins sS σ H _ _ v u Q I rx ry ⟨_, _, rfl, rfl, ?_, ?_⟩
        · rw [← line_eq]; simpa [PySem.Str.length] using hl
        · rw [cells_app]; exact fin (.str _)
      · cases hz
    · split at hz
      · rename_i hl
        cases hz
        cases r1 with
        | tup f1 h1 q1 =>
          cases r2 with
          | tup f2 h2 q2 =>
            refine op_catA pins sS σ H _ _ v u Q I rx ry ⟨_, _, _, _, rfl, rfl, SqT.of h1, SqT.of h2, by rw [← line_eq, ← q1.length, ← q2.length]; exact hl, fun e => ?_, fun _ e => ?_, fun _ _ p hp => ice hp (.tup (.inr rfl) upd_same ((q1.append q2).mono (le_ice S hp)))⟩
            · subst e; cases q1; exact fin (.tup f2 h2 q2)
            · subst e; cases q2; rw [List.append_nil] at fin; exact fin (.tup f1 h1 q1)
      · cases hz
    · split at hz
      · rename_i xs ys h1 h2
        split at hz
        · rename_i hl
          cases hz
          exact lists h1 h2 hl rfl
        · cases hz
      · cases hz
  | sub =>
    simp only [binop] at hz ⊢
    split at hz <;> try (first | contradiction | (cases ‹BOp.sub = _›))
    cases r1; cases r2; cases hz
    exact op_sub pins sS σ H _ _ v u Q I rx ry ⟨_, _, rfl, rfl, fin (.int _)⟩
  | mul =>
    simp only [binop] at hz ⊢
    split at hz <;> try (first | contradiction | (cases ‹BOp.mul = _›))
    · split at hz
      · rename_i hm
        cases r1; cases r2; cases hz
        refine op_mul pins sS σ H _ _ v u Q I rx ry ⟨_, _, rfl, rfl, ?_, fin (.int _)⟩
        simpa [mulOk, CMul] using hm
      · cases hz
    · split at hz
      · rename_i hm
        simp only [Bool.and_eq_true, decide_eq_true_eq] at hm
        obtain ⟨⟨h1, h2⟩, h3⟩ := hm
        cases hz
        cases r2
        cases r1 with
        | tup f1 hh q1 =>
          refine op_repA pins sS σ H _ _ v u Q I rx ry ⟨_, _, _, rfl, rfl, SqT.of hh, h1, h2, by rw [← q1.length]; exact h3, fun e => ?_, fun p hp => ice hp (.tup (.inr rfl) upd_same ((q1.rep _).mono (le_ice S hp)))⟩
          rcases e with e | e
          · subst e
            cases q1
            have e0 : ∀ k : Int, repD [] k = [] := fun k => by unfold repD; simp
            rw [e0] at fin
            exact fin (.tup f1 hh .nil)
          · subst e
            have e0 : ∀ xs : List D, repD xs 1 = xs := fun xs => by unfold repD; simp
            rw [e0] at fin
            exact fin (.tup f1 hh q1)
      · cases hz
    · split at hz
      · rename_i hm
        simp only [Bool.and_eq_true, decide_eq_true_eq] at hm
        obtain ⟨⟨h1, h2⟩, h3⟩ := hm
        cases hz
        cases r1; cases r2
        exact op_strMul pins sS σ H _ _ v u Q I rx ry ⟨_, _, rfl, rfl, h1, h2, h3, fin (.str _)⟩
      · cases hz
    · split at hz
      · rename_i xs h1
        split at hz
        · rename_i hm
          simp only [Bool.and_eq_true, decide_eq_true_eq] at hm
          cases hz
          exact reps h1 rfl hm.1.1 hm.1.2 hm.2 rfl
        · cases hz
      · cases hz
  | fdiv =>
    simp only [binop] at hz ⊢
    split at hz <;> try (first | contradiction | (cases ‹BOp.fdiv = _›))
    split at hz
    · rename_i hm
      simp only [Bool.and_eq_true, decide_eq_true_eq] at hm
      cases r1; cases r2; cases hz
      exact op_fdiv pins sS σ H _ _ v u Q I rx ry ⟨_, _, rfl, rfl, hm, fin (.int _)⟩
    · cases hz
  | mod =>
    simp only [binop] at hz ⊢
    split at hz <;> try (first | contradiction | (cases ‹BOp.mod = _›))
    split at hz
    · rename_i hm
      simp only [decide_eq_true_eq] at hm
      cases r1; cases r2; cases hz
      exact op_mod pins sS σ H _ _ v u Q I rx ry ⟨_, _, rfl, rfl, hm, fin (.int _)⟩
    · cases hz
  | pow =>
    simp only [binop] at hz ⊢
    split at hz <;> try (first | contradiction | (cases ‹BOp.pow = _›))
    split at hz
    · rename_i hm
      simp only [powOk, Bool.and_eq_true, decide_eq_true_eq] at hm
      cases r1; cases r2; cases hz
      exact op_pow pins sS σ H _ _ v u Q I rx ry ⟨_, _, rfl, rfl, hm, fin (.int _)⟩
    · cases hz
end
end MP
set_option autoImplicit false
set_option linter.all false
set_option maxRecDepth 10000
set_option maxHeartbeats 1000000
/-! MPf: comparisons. -/
namespace MP
open PySem PySem.Spec PyProof.Rows L2
mutual
def toP : D → PyData
  | .bl b => .bool b
  | .int i => .int i
  | .str x => .str ⟨x.toArray⟩
  | .tup xs => .tuple (toPs xs)
  | .lst xs => .list (toPs xs)
  | _ => .none
def toPs : List D → List PyData
  | [] => []
  | x :: xs => toP x :: toPs xs
end
mutual
def isData : D → Bool
  | .non => true
  | .bl _ => true
  | .int _ => true
  | .str _ => true
  | .tup xs => isDatas xs
  | .lst xs => isDatas xs
  | _ => false
def isDatas : List D → Bool
  | [] => true
  | x :: xs => isData x && isDatas xs
end
theorem toPs_length : ∀ xs : List D, (toPs xs).length = xs.length
  | [] => rfl
  | _ :: xs => by simp [toPs, toPs_length xs]
theorem mapM_cons {α β : Type} {f : α → Option β} {x : α} {xs : List α} {ys : List β} (h : (x :: xs).mapM f = some ys) : ∃ y r, f x = some y ∧ xs.mapM f = some r ∧ ys = y :: r := by
  rw [List.mapM_cons] at h
  cases e : f x with
  | none => rw [e] at h; cases h
  | some y =>
    rw [e] at h
    cases e' : xs.mapM f with
    | none => rw [e'] at h; cases h
    | some r => rw [e'] at h; cases h; exact ⟨y, r, rfl, rfl, rfl⟩
theorem strOk_of {x : List Nat} (h : (x.all fun c => decide (c < 1114112)) = true) : (⟨x.toArray⟩ : Str).cps.all (· < 0x110000) = true := by
  simpa using h
section
variable {K : PySem.W.Frag} {T : Tab} {P : Prog} {w : Wd} {H : Hp} {s : Sto}
theorem data_ok (S : SRel K T P w H s) : ∀ (n : Nat) (d e : D) (x : V), dataOf s n d = some e → Rep K T P w H d x → Dp K H x (toP e) ∧ (toP e).canLay0 = true ∧ (toP e).depth ≤ n ∧ isData e = true := by
  intro n
  induction n with
  | zero =>
    intro d e x h r
    cases r <;> simp only [dataOf] at h
    case non => cases h; exact ⟨.non, rfl, Nat.le_refl 0, rfl⟩
    case bl b => cases h; exact ⟨.bl b, rfl, Nat.le_refl 0, rfl⟩
    case int i => cases h; exact ⟨.int i, rfl, Nat.le_refl 0, rfl⟩
    case str z =>
      split at h
      · rename_i hz
        cases h
        exact ⟨.str _, strOk_of hz, Nat.le_refl 0, rfl⟩
      · cases h
    all_goals cases h
  | succ n ih =>
    have all : ∀ (ds es : List D) (vs : List V), ds.mapM (dataOf s n) = some es → Reps K T P w H ds vs → DpAll K H vs (toPs es) ∧ PyData.canLayAll0 (toPs es) = true ∧ PyData.depthAll (toPs es) ≤ n ∧ isDatas es = true := by
      intro ds
      induction ds with
      | nil => intro es vs h r; cases h; cases r; exact ⟨.nil, rfl, Nat.zero_le _, rfl⟩
      | cons d ds ihl =>
        intro es vs h r
        obtain ⟨y, r', h1, h2, rfl⟩ := mapM_cons h
        cases r with
        | cons rd rr =>
          obtain ⟨a1, a2, a3, a4⟩ := ih d y _ h1 rd
          obtain ⟨b1, b2, b3, b4⟩ := ihl r' _ h2 rr
          refine ⟨.cons a1 b1, ?_, ?_, ?_⟩
          · show ((toP y).canLay0 && PyData.canLayAll0 (toPs r')) = true
            rw [a2, b2]; rfl
          · show max (toP y).depth (PyData.depthAll (toPs r')) ≤ n
            exact Nat.max_le.mpr ⟨a3, b3⟩
          · show (isData y && isDatas r') = true
            rw [a4, b4]; rfl
    intro d e x h r
    cases r with
    | non => simp only [dataOf] at h; cases h; exact ⟨.non, rfl, Nat.zero_le _, rfl⟩
    | bl b => simp only [dataOf] at h; cases h; exact ⟨.bl b, rfl, Nat.zero_le _, rfl⟩
    | int i => simp only [dataOf] at h; cases h; exact ⟨.int i, rfl, Nat.zero_le _, rfl⟩
    | str z =>
      simp only [dataOf] at h
      split at h
      · rename_i hz
        cases h
        exact ⟨.str _, strOk_of hz, Nat.zero_le _, rfl⟩
      · cases h
    | tup f hh rr =>
      simp only [dataOf] at h
      cases e' : List.mapM (dataOf s n) _ with
      | none => rw [e'] at h; cases h
      | some es =>
        rw [e'] at h
        cases h
        obtain ⟨a1, a2, a3, a4⟩ := all _ _ _ e' rr
        exact ⟨.tup (SqT.of hh) a1, a2, Nat.succ_le_succ a3, a4⟩
    | lst f hh rr =>
      simp only [dataOf] at h
      cases e' : List.mapM (dataOf s n) _ with
      | none => rw [e'] at h; cases h
      | some es =>
        rw [e'] at h
        cases h
        obtain ⟨a1, a2, a3, a4⟩ := all _ _ _ e' rr
        exact ⟨.lst (SqL.of hh) a1, a2, Nat.succ_le_succ a3, a4⟩
    | ref hh =>
      simp only [dataOf] at h
      split at h
      · rename_i xs ex
        obtain ⟨_, vs, hv, rr⟩ := S.cell _ _ _ ex hh (fun z => nomatch z)
        cases e' : List.mapM (dataOf s n) xs with
        | none => rw [e'] at h; cases h
        | some es =>
          rw [e'] at h
          cases h
          obtain ⟨a1, a2, a3, a4⟩ := all _ _ _ e' rr
          exact ⟨.lst (SqL.of hv) a1, a2, Nat.succ_le_succ a3, a4⟩
      · cases h
    | scr => simp only [dataOf] at h; cases h
    | rcd => simp only [dataOf] at h; cases h
    | exc0 => simp only [dataOf] at h; cases h
    | exc1 => simp only [dataOf] at h; cases h
end
theorem str_beq (x y : List Nat) : ((⟨x.toArray⟩ : Str) == (⟨y.toArray⟩ : Str)) = (x == y) := by
  by_cases h : x = y
  · subst h; simp
  · have h' : (⟨x.toArray⟩ : Str) ≠ (⟨y.toArray⟩ : Str) := fun e => h (by
      have := congrArg (fun z : Str => z.cps.toList) e
      simpa using this)
    rw [beq_eq_false_iff_ne.mpr h', beq_eq_false_iff_ne.mpr h]
mutual
theorem eqv_toP : ∀ d e : D, isData d = true → isData e = true → PyData.eqv (toP d) (toP e) = eqv d e
  | .non, e, _, h => by cases e <;> first | rfl | cases h
  | .bl _, e, _, h => by cases e <;> first | rfl | cases h
  | .int _, e, _, h => by cases e <;> first | rfl | cases h
  | .str x, e, _, h => by
    cases e <;> first | rfl | cases h | skip
    exact str_beq _ _
  | .tup xs, e, h1, h => by
    cases e <;> first | rfl | cases h | skip
    exact eqvs_toP xs _ h1 h
  | .lst xs, e, h1, h => by
    cases e <;> first | rfl | cases h | skip
    exact eqvs_toP xs _ h1 h
  | .scr _, _, h, _ => by cases h
  | .rcd _ _, _, h, _ => by cases h
  | .ref _, _, h, _ => by cases h
  | .exc _ _, _, h, _ => by cases h
theorem eqvs_toP : ∀ d e : List D, isDatas d = true → isDatas e = true → PyData.eqvAll (toPs d) (toPs e) = eqvs d e
  | [], e, _, h => by cases e <;> rfl
  | x :: xs, [], _, _ => rfl
  | x :: xs, y :: ys, h1, h2 => by
    have a := (Bool.and_eq_true_iff.mp h1)
    have b := (Bool.and_eq_true_iff.mp h2)
    show (PyData.eqv (toP x) (toP y) && PyData.eqvAll (toPs xs) (toPs ys)) = (eqv x y && eqvs xs ys)
    rw [eqv_toP x y a.1 b.1, eqvs_toP xs ys a.2 b.2]
end
theorem data_shaped {d : PyData} (h : d.canLay0 = true) (hd : d.depth ≤ 60) : SeqAt.shaped d = true := by
  unfold SeqAt.shaped
  rw [h, decide_eq_true (by omega)]
  rfl
/-! ### < -/
theorem readsAll_at {h : Heap} : ∀ {vs : List Value} {ds : List PyData} {as : List Addr} {j : Nat} {v : Value}, ReadsAll h vs ds as → vs[j]? = some v → ∃ d bs, ds[j]? = some d ∧ Reads h v d bs
  | _, _, _, _, _, .nil, e => by simp at e
  | _, _, _, 0, _, .cons r _, e => by simp at e; subst e; exact ⟨_, _, rfl, r⟩
  | _, _, _, j + 1, v, .cons _ t, e => by
    obtain ⟨d, bs, h1, h2⟩ := readsAll_at (j := j) (v := v) t (by simpa using e)
    exact ⟨d, bs, by simpa using h1, h2⟩
theorem readsAll_len {h : Heap} : ∀ {vs : List Value} {ds : List PyData} {as : List Addr}, ReadsAll h vs ds as → vs.length = ds.length
  | _, _, _, .nil => rfl
  | _, _, _, .cons _ t => by simp [readsAll_len t]
theorem toPs_at : ∀ {xs : List D} {j : Nat} {p : PyData}, (toPs xs)[j]? = some p → ∃ d, xs[j]? = some d ∧ p = toP d
  | [], _, _, h => by simp [toPs] at h
  | x :: xs, 0, p, h => by simp [toPs] at h; exact ⟨x, rfl, h.symm⟩
  | x :: xs, j + 1, p, h => by
    obtain ⟨d, h1, h2⟩ := toPs_at (xs := xs) (j := j) (p := p) (by simpa [toPs] using h)
    exact ⟨d, by simpa using h1, h2⟩
theorem canLayAll_at : ∀ {xs : List PyData} {j : Nat} {p : PyData}, PyData.canLayAll0 xs = true → xs[j]? = some p → p.canLay0 = true
  | [], _, _, _, h => by simp at h
  | x :: xs, 0, p, hc, h => by simp at h; subst h; exact (Bool.and_eq_true_iff.mp hc).1
  | x :: xs, j + 1, p, hc, h => canLayAll_at (Bool.and_eq_true_iff.mp hc).2 (by simpa using h)
theorem depthAll_at : ∀ {xs : List PyData} {j : Nat} {p : PyData}, xs[j]? = some p → p.depth ≤ PyData.depthAll xs
  | [], _, _, h => by simp at h
  | x :: xs, 0, p, h => by simp at h; subst h; exact Nat.le_max_left _ _
  | x :: xs, j + 1, p, h => Nat.le_trans (depthAll_at (xs := xs) (j := j) (p := p) (by simpa using h)) (Nat.le_max_right _ _)
theorem isDatas_at : ∀ {xs : List D} {j : Nat} {p : D}, isDatas xs = true → xs[j]? = some p → isData p = true
  | [], _, _, _, h => by simp at h
  | x :: xs, 0, p, hc, h => by simp at h; subst h; exact (Bool.and_eq_true_iff.mp hc).1
  | x :: xs, j + 1, p, hc, h => isDatas_at (Bool.and_eq_true_iff.mp hc).2 (by simpa using h)
theorem ltvs_at : ∀ {xs ys : List D} {b : Bool} {j : Nat} {x y : D}, ltvs xs ys = some b → xs[j]? = some x → ys[j]? = some y → ∃ r, ltv x y = some r
  | [], _, _, _, _, _, _, h, _ => by simp at h
  | _ :: _, [], _, _, _, _, _, _, h => by simp at h
  | x :: xs, y :: ys, b, j, x', y', h, h1, h2 => by
    simp only [ltvs] at h
    split at h
    · rename_i a c e1 e2
      cases j with
      | zero => simp at h1 h2; subst h1 h2; exact ⟨a, e1⟩
      | succ j => exact ltvs_at e2 (by simpa using h1) (by simpa using h2)
    · cases h
def eAt (xs ys : List D) (j : Nat) : Bool := eqv (xs.getD j .non) (ys.getD j .non)
def lAt (xs ys : List D) (j : Nat) : Bool := (ltv (xs.getD j .non) (ys.getD j .non)).getD false
theorem lexAt_shift (e r : Nat → Bool) (z : Bool) : ∀ (k i : Nat), Ob.lexAt (fun j => e (j + 1)) (fun j => r (j + 1)) z i k = Ob.lexAt e r z (i + 1) k
  | 0, i => rfl
  | k + 1, i => by rw [Ob.lexAt_succ, Ob.lexAt_succ, lexAt_shift e r z k (i + 1)]
theorem ltvs_lex : ∀ {xs ys : List D} {b : Bool}, ltvs xs ys = some b → Ob.lexAt (eAt xs ys) (lAt xs ys) (decide (xs.length < ys.length)) 0 (min xs.length ys.length) = b
  | [], [], b, h => by cases h; rfl
  | [], y :: ys, b, h => by cases h; rfl
  | x :: xs, [], b, h => by cases h; rfl
  | x :: xs, y :: ys, b, h => by
    simp only [ltvs] at h
    split at h
    · rename_i a c e1 e2
      cases h
      have ih := ltvs_lex e2
      have hm : min (x :: xs).length (y :: ys).length = min xs.length ys.length + 1 := by simp only [List.length_cons]; omega
      rw [hm, Ob.lexAt_succ]
      have hl : decide ((x :: xs).length < (y :: ys).length) = decide (xs.length < ys.length) := by simp
      rw [hl]
      have sh := lexAt_shift (eAt (x :: xs) (y :: ys)) (lAt (x :: xs) (y :: ys)) (decide (xs.length < ys.length)) (min xs.length ys.length) 0
      rw [← sh]
      have e3 : (fun j => eAt (x :: xs) (y :: ys) (j + 1)) = eAt xs ys := rfl
      have e4 : (fun j => lAt (x :: xs) (y :: ys) (j + 1)) = lAt xs ys := rfl
      rw [e3, e4, ih]
      have e5 : eAt (x :: xs) (y :: ys) 0 = eqv x y := rfl
      have e6 : lAt (x :: xs) (y :: ys) 0 = a := by show (ltv x y).getD false = a; rw [e1]; rfl
      rw [e5, e6]
    · cases h
theorem rc_lt : ∀ (n : Nat) (d e : D) (b : Bool) (A : Around) (s : Shared) (u v : Value) (as bs : List Addr), (toP d).depth ≤ n → isData d = true → isData e = true → ltv d e = some b → Reads s.heap u (toP d) as → Reads s.heap v (toP e) bs →
    (toP d).canLay0 = true → (toP e).canLay0 = true → A.units + n < cLine → Ob.RcOp .Lt A s u v b := by
  intro n
  induction n with
  | zero =>
    intro d e b A s u v as bs hn hd he h r1 r2 c1 c2 hu
    unfold ltv at h
    split at h
    · cases h
      cases r1; cases r2
      exact Ob.RcOp.lt_int _ _ _ _
    · exact absurd hn (by show ¬ (PyData.depthAll _ + 1 ≤ 0); omega)
    · cases h
  | succ n ih =>
    intro d e b A s u v as bs hn hd he h r1 r2 c1 c2 hu
    unfold ltv at h
    split at h
    · cases h
      cases r1; cases r2
      exact Ob.RcOp.lt_int _ _ _ _
    · rename_i xs ys
      have hdep : PyData.depthAll (toPs xs) ≤ n := Nat.le_of_succ_le_succ hn
      cases r1 with
      | @tuple l o vs m _ as1 k1 k2 k3 k4 =>
        cases r2 with
        | @tuple l' o' vs' m' _ bs1 q1 q2 q3 q4 =>
          have n1 : vs.size = xs.length := by have := readsAll_len k4; rw [toPs_length] at this; simpa using this
          have n2 : vs'.size = ys.length := by have := readsAll_len q4; rw [toPs_length] at this; simpa using this
          have key : ∀ (j : Nat) (h1 : j < vs.size) (h2 : j < vs'.size), ∃ x y p q, xs[j]? = some x ∧ ys[j]? = some y ∧ Reads s.heap vs[j] (toP x) p ∧ Reads s.heap vs'[j] (toP y) q ∧ (toP x).canLay0 = true ∧ (toP y).canLay0 = true ∧ (toP x).depth ≤ n ∧ isData x = true ∧ isData y = true := fun j h1 h2 => by
            obtain ⟨p, ps, e1, rp⟩ := readsAll_at (j := j) (v := vs[j]) k4 (by simp [h1])
            obtain ⟨q, qs, e2, rq⟩ := readsAll_at (j := j) (v := vs'[j]) q4 (by simp [h2])
            have cp := canLayAll_at c1 e1
            have cq := canLayAll_at c2 e2
            have dp := depthAll_at e1
            obtain ⟨x, ex, rfl⟩ := toPs_at e1
            obtain ⟨y, ey, rfl⟩ := toPs_at e2
            exact ⟨x, y, ps, qs, ex, ey, rp, rq, cp, cq, Nat.le_trans dp hdep, isDatas_at hd ex, isDatas_at he ey⟩
          have gx : ∀ {zs : List D} {j : Nat} {z : D}, zs[j]? = some z → zs.getD j .non = z := fun h => by rw [List.getD_eq_getElem?_getD, h]; rfl
          have main := Ob.RcOp.tuples_lt (A := A) (e := eAt xs ys) (r := lAt xs ys) (show s.heap.IsTuple l vs from ⟨_, k1, k2, _, k3⟩) (show s.heap.IsTuple l' vs' from ⟨_, q1, q2, _, q3⟩) (by omega) (fun j h1 h2 => ?_) (fun j h1 h2 hne => ?_)
          · rw [n1, n2, ltvs_lex h] at main
            exact main
          · obtain ⟨x, y, p, q, ex, ey, rp, rq, cp, cq, dp, dx, dy⟩ := key j h1 h2
            have : eAt xs ys j = PyData.eqv (toP x) (toP y) := by rw [eqv_toP x y dx dy]; unfold eAt; rw [gx ex, gx ey]
            rw [this]
            exact SeqAt.eqAt_reads _ _ _ _ _ _ _ _ rp rq cp cq (by show A.units + 1 + min (toP x).depth (toP y).depth < cLine; have := Nat.min_le_left (toP x).depth (toP y).depth; omega)
          · obtain ⟨x, y, p, q, ex, ey, rp, rq, cp, cq, dp, dx, dy⟩ := key j h1 h2
            obtain ⟨r, hr⟩ := ltvs_at h ex ey
            have : lAt xs ys j = r := by unfold lAt; rw [gx ex, gx ey, hr]; rfl
            rw [this]
            exact ih x y r _ _ _ _ _ _ dp dx dy hr rp rq cp cq (by show A.units + 1 + n < cLine; omega)
    · cases h
section
variable {T : Tab} {P : Prog} {X : Cx} {W : WX}
theorem op_eqM (hu : X.A.units + 64 < cLine) : OpM T P X (compareOp .Eq) (fun s x y => (eqD s x y).map D.bl) := by
  intro pins sS σ H x y v u Q I rx ry h
  obtain ⟨w, s, d, e, z, S, r1, r2, hz, k⟩ := h
  simp only [eqD] at hz
  split at hz
  · rename_i d' e' h1 h2
    cases hz
    obtain ⟨a1, a2, a3, a4⟩ := data_ok S 60 _ _ _ h1 r1
    obtain ⟨b1, b2, b3, b4⟩ := data_ok S 60 _ _ _ h2 r2
    refine op_eqD hu pins sS σ H _ _ v u Q I rx ry ⟨_, _, a1, b1, data_shaped a2 a3, data_shaped b2 b3, ?_⟩
    rw [eqv_toP _ _ a4 b4]
    exact k _ w H (Le.refl w H) S (.bl _)
  · cases hz
theorem op_neM (hu : X.A.units + 64 < cLine) : OpM T P X (compareOp .NotEq) (fun s x y => ((eqD s x y).map (!·)).map D.bl) := by
  intro pins sS σ H x y v u Q I rx ry h
  obtain ⟨w, s, d, e, z, S, r1, r2, hz, k⟩ := h
  simp only [eqD] at hz
  split at hz
  · rename_i d' e' h1 h2
    cases hz
    obtain ⟨a1, a2, a3, a4⟩ := data_ok S 60 _ _ _ h1 r1
    obtain ⟨b1, b2, b3, b4⟩ := data_ok S 60 _ _ _ h2 r2
    refine op_neD hu pins sS σ H _ _ v u Q I rx ry ⟨_, _, a1, b1, data_shaped a2 a3, data_shaped b2 b3, ?_⟩
    rw [eqv_toP _ _ a4 b4]
    exact k _ w H (Le.refl w H) S (.bl _)
  · cases hz
theorem op_ltM (hu : X.A.units + 64 < cLine) : OpM T P X (compareOp .Lt) (fun s x y => (ltD s x y).map D.bl) := by
  intro pins sS σ H x y v u Q I rx ry h
  obtain ⟨w, s, d, e, z, S, r1, r2, hz, k⟩ := h
  simp only [ltD] at hz
  split at hz
  · rename_i d' e' h1 h2
    cases hb : ltv d' e' with
    | none => rw [hb] at hz; cases hz
    | some b =>
      rw [hb] at hz
      cases hz
      obtain ⟨a1, a2, a3, a4⟩ := data_ok S 60 _ _ _ h1 r1
      obtain ⟨b1, b2, b3, b4⟩ := data_ok S 60 _ _ _ h2 r2
      obtain ⟨as, q1⟩ := Dp.reads I _ _ _ a1 rx
      obtain ⟨bs, q2⟩ := Dp.reads I _ _ _ b1 ry
      have := rc_lt 60 _ _ _ X.A sS v u as bs a3 a4 b4 hb q1 q2 a2 b2 (by omega)
      show wpAny (model X.prog X.w) X.A (richCompare .Lt v u) _ _ _
      exact this _ _ _ _ ⟨.bl b, H, I, rfl, k _ w H (Le.refl w H) S (.bl _)⟩
  · cases hz
theorem op_intM {op : CmpOp} {p : Int → Int → Bool} (h : OpR X (compareOp op) (rI0 fun i j => .bl (p i j))) {g : Sto → D → D → Option Bool} (hg : ∀ s a b r, g s a b = some r → ∃ i j, a = .int i ∧ b = .int j ∧ r = p i j) : OpM T P X (compareOp op) (fun s x y => (g s x y).map D.bl) := by
  intro pins sS σ H x y v u Q I rx ry hh
  obtain ⟨w, s, d, e, z, S, r1, r2, hz, k⟩ := hh
  dsimp only at hz
  cases e' : g s d e with
  | none => rw [e'] at hz; cases hz
  | some r =>
    rw [e'] at hz
    cases hz
    obtain ⟨i, j, rfl, rfl, rfl⟩ := hg _ _ _ _ e'
    cases r1; cases r2
    exact h pins sS σ H _ _ v u Q I rx ry ⟨_, _, rfl, rfl, k _ w H (Le.refl w H) S (.bl _)⟩
theorem isD_non {w : Wd} {H : Hp} {d : D} {x : V} (r : Rep X.K T P w H d x) : decide (x = .non) = decide (d = .non) := by
  cases r <;> rfl
theorem beq_dec (p q : Bool) : (p == q) = decide (p = q) := by cases p <;> cases q <;> rfl
theorem op_isM : OpM T P X (compareOp .Is) (fun s x y => (isD x y).map D.bl) := by
  intro pins sS σ H x y v u Q I rx ry h
  obtain ⟨w, s, d, e, z, S, r1, r2, hz, k⟩ := h
  have fin : ∀ {r : V}, Rep X.K T P w H z r → Q r H := fun q => k _ w H (Le.refl w H) S q
  dsimp only at hz
  unfold isD at hz
  split at hz
  · cases hz
    cases r2
    refine op_isN pins sS σ H _ _ v u Q I rx ry ⟨rfl, ?_⟩
    rw [isD_non r1]
    exact fin (.bl _)
  · split at hz
    · cases hz
      cases r1; cases r2
      refine op_isBl pins sS σ H _ _ v u Q I rx ry ⟨_, _, rfl, rfl, fin ?_⟩
      rw [← beq_dec]
      exact .bl _
    · cases hz
  · cases hz
theorem op_isnotM : OpM T P X (compareOp .IsNot) (fun s x y => ((isD x y).map (!·)).map D.bl) := by
  intro pins sS σ H x y v u Q I rx ry h
  obtain ⟨w, s, d, e, z, S, r1, r2, hz, k⟩ := h
  have fin : ∀ {r : V}, Rep X.K T P w H z r → Q r H := fun q => k _ w H (Le.refl w H) S q
  dsimp only at hz
  unfold isD at hz
  split at hz
  · cases hz
    cases r2
    refine op_notN pins sS σ H _ _ v u Q I rx ry ⟨rfl, ?_⟩
    rw [isD_non r1]
    exact fin (.bl _)
  · split at hz
    · cases hz
      cases r1; cases r2
      refine op_notBl pins sS σ H _ _ v u Q I rx ry ⟨_, _, rfl, rfl, fin ?_⟩
      rw [← beq_dec]
      exact .bl _
    · cases hz
  · cases hz
end
end MP
set_option autoImplicit false
set_option linter.all false
set_option maxRecDepth 10000
set_option maxHeartbeats 1000000
/-! MPg: in, chains, subscripts, slices, fields, built-ins. -/
namespace MP
open PySem PySem.Spec PyProof.Rows L2
section
variable {T : Tab} {P : Prog} {X : Cx} {W : WX} {a b c : Expr} {fa fb fc : Env → Sto → R D} {pos : Pos}
theorem flat_ok {K : PySem.W.Frag} {w : Wd} {H : Hp} {d : D} {x : V} (r : Rep K T P w H d x) (h : flat d = true) : flatV x = true := by
  cases r <;> first | rfl | cases h
theorem eqV_eqv {K : PySem.W.Frag} {w : Wd} {H : Hp} {d e : D} {x y : V} (r : Rep K T P w H d x) (q : Rep K T P w H e y) (h : flat d = true) (h' : flat e = true) : eqV x y = eqv d e := by
  cases r <;> first | (cases q <;> first | rfl | exact str_beq _ _ | cases h') | cases h
theorem flats_ok {K : PySem.W.Frag} {w : Wd} {H : Hp} : ∀ {ds : List D} {vs : List V}, Reps K T P w H ds vs → ds.all flat = true → vs.all flatV = true
  | _, _, .nil, _ => rfl
  | _, _, .cons r t, h => by
    simp only [List.all_cons, Bool.and_eq_true] at h ⊢
    exact ⟨flat_ok r h.1, flats_ok t h.2⟩
theorem any_ok {K : PySem.W.Frag} {w : Wd} {H : Hp} {e : D} {y : V} (q : Rep K T P w H e y) (h' : flat e = true) : ∀ {ds : List D} {vs : List V}, Reps K T P w H ds vs → ds.all flat = true → (vs.any fun z => eqV z y) = ds.any fun z => eqv z e
  | _, _, .nil, _ => rfl
  | _, _, .cons r t, h => by
    simp only [List.all_cons, Bool.and_eq_true] at h
    simp only [List.any_cons]
    rw [eqV_eqv r q h.1 h', any_ok q h' t h.2]
theorem op_inM : OpM T P X (compareOp .In) (fun s x y => (inS s x y).map D.bl) := by
  intro pins sS σ H x y v u Q I rx ry h
  obtain ⟨w, s, d, e, z, S, r1, r2, hz, k⟩ := h
  have fin : ∀ {r : V}, Rep X.K T P w H z r → Q r H := fun q => k _ w H (Le.refl w H) S q
  dsimp only [inS] at hz
  split at hz
  · rename_i ys hs
    split at hz
    · rename_i hf
      simp only [Bool.and_eq_true] at hf
      cases hz
      obtain ⟨p, vs, rfl, hq, rr⟩ := seqOf_ok' S r2 hs
      refine op_in_seq pins sS σ H _ _ v u Q I rx ry ⟨p, vs, rfl, hq, flat_ok r1 hf.1, flats_ok rr hf.2, ?_⟩
      rw [if_neg Bool.false_ne_true]
      unfold inV
      rw [any_ok r1 hf.1 rr hf.2]
      exact fin (.bl _)
    · cases hz
  · cases hz
theorem op_notinM : OpM T P X (compareOp .NotIn) (fun s x y => ((inS s x y).map (!·)).map D.bl) := by
  intro pins sS σ H x y v u Q I rx ry h
  obtain ⟨w, s, d, e, z, S, r1, r2, hz, k⟩ := h
  have fin : ∀ {r : V}, Rep X.K T P w H z r → Q r H := fun q => k _ w H (Le.refl w H) S q
  dsimp only [inS] at hz
  split at hz
  · rename_i ys hs
    split at hz
    · rename_i hf
      simp only [Bool.and_eq_true] at hf
      cases hz
      obtain ⟨p, vs, rfl, hq, rr⟩ := seqOf_ok' S r2 hs
      refine op_notIn_seq pins sS σ H _ _ v u Q I rx ry ⟨p, vs, rfl, hq, flat_ok r1 hf.1, flats_ok rr hf.2, ?_⟩
      rw [if_pos rfl]
      unfold inV
      rw [any_ok r1 hf.1 rr hf.2]
      exact fin (.bl _)
    · cases hz
  · cases hz
/-! ### chains of two comparisons -/
def chF (g g' : Sto → D → D → Option Bool) (fa fb fc : Env → Sto → R D) : Env → Sto → R D := fun env s => (fa env s).bind fun x s => (fb env s).bind fun y s => opt1 (g s x y) fun r =>
  if r then (fc env s).bind fun z s => .opt ((g' s y z).map D.bl) s else .ok (.bl false) s
theorem me_chain {op op' : CmpOp} {g g' : Sto → D → D → Option Bool} (h : OpM T P X (compareOp op) fun s x y => (g s x y).map D.bl) (h' : OpM T P X (compareOp op') fun s x y => (g' s x y).map D.bl)
    (ha : ME X.K T P X W a fa) (hb : ME X.K T P X W b fb) (hc : ME X.K T P X W c fc) (hm : behindInMarks op' c = false) : ME X.K T P X W (.Compare a [op, op'] [b, c] pos) (chF g g' fa fb fc) := by
  refine (pe_chain h h' ha hb hc (show behindInMarks op' c = false from hm)).imp fun σ H Q q => ?_
  obtain ⟨env, s, w, E, S, o⟩ := q
  refine ⟨env, s, w, E, S, o.bind.mono fun x _ H1 _ q => ?_⟩
  obtain ⟨w1, d, s1, l1, S1, r1, o1⟩ := q
  refine ⟨env, s1, w1, E.mono l1, S1, o1.bind.mono fun y _ H2 l2 q => ?_⟩
  obtain ⟨w2, e, s2, l2', S2, r2, o2⟩ := q
  cases z : g s2 d e with
  | none => rw [z] at o2; exact o2.elim
  | some k =>
    rw [z] at o2
    refine ⟨w2, s2, d, e, .bl k, S2, r1.mono l2', r2, by show (g s2 d e).map D.bl = _; rw [z]; rfl, fun v w3 H3 l3 S3 r3 => ?_⟩
    cases r3
    refine ⟨k, rfl, ?_⟩
    cases k with
    | false => rw [if_neg Bool.false_ne_true]; exact o2 _ w3 H3 l3 S3 (.bl _)
    | true =>
      rw [if_pos rfl]
      refine ⟨env, s2, w3, (E.mono l1).mono (l2'.trans l3), S3, (o2.later l3).bind.mono fun z' _ H4 _ q => ?_⟩
      obtain ⟨w4, f, s4, l4, S4, r4, o4⟩ := q
      cases z2 : g' s4 e f with
      | none => rw [z2] at o4; exact o4.elim
      | some k' =>
        rw [z2] at o4
        exact ⟨w4, s4, e, f, .bl k', S4, (r2.mono l3).mono l4, r4, by show (g' s4 e f).map D.bl = _; rw [z2]; rfl, o4⟩
theorem mt_chain {op op' : CmpOp} {g g' : Sto → D → D → Option Bool} (h : OpM T P X (compareOp op) fun s x y => (g s x y).map D.bl) (h' : OpM T P X (compareOp op') fun s x y => (g' s x y).map D.bl)
    (ha : ME X.K T P X W a fa) (hb : ME X.K T P X W b fb) (hc : ME X.K T P X W c fc) (hm : behindInMarks op' c = false) : MT X.K T P X W (.Compare a [op, op'] [b, c] pos) (tru (chF g g' fa fb fc)) := by
  refine (pt_chain h h' ha hb hc (show behindInMarks op' c = false from hm)).imp fun σ H Q q => ?_
  obtain ⟨env, s, w, E, S, o⟩ := q
  simp only [tru, chF, R.bind_assoc] at o
  refine ⟨env, s, w, E, S, o.bind.mono fun x _ H1 _ q => ?_⟩
  obtain ⟨w1, d, s1, l1, S1, r1, o1⟩ := q
  refine ⟨env, s1, w1, E.mono l1, S1, o1.bind.mono fun y _ H2 l2 q => ?_⟩
  obtain ⟨w2, e, s2, l2', S2, r2, o2⟩ := q
  cases z : g s2 d e with
  | none => rw [z] at o2; exact o2.elim
  | some k =>
    rw [z] at o2
    refine ⟨w2, s2, d, e, .bl k, S2, r1.mono l2', r2, by show (g s2 d e).map D.bl = _; rw [z]; rfl, fun v w3 H3 l3 S3 r3 => ?_⟩
    cases r3
    simp only [opt1_some] at o2
    cases k with
    | false => exact ⟨false, rfl, false, rfl, o2 _ w3 H3 l3 S3 rfl⟩
    | true =>
      refine ⟨true, rfl, ?_⟩
      simp only [if_true, R.bind_assoc] at o2
      refine ⟨env, s2, w3, (E.mono l1).mono (l2'.trans l3), S3, (o2.later l3).bind.mono fun z' _ H4 _ q => ?_⟩
      obtain ⟨w4, f, s4, l4, S4, r4, o4⟩ := q
      cases z2 : g' s4 e f with
      | none => rw [z2] at o4; exact o4.elim
      | some k' =>
        rw [z2] at o4
        refine ⟨w4, s4, e, f, .bl k', S4, (r2.mono l3).mono l4, r4, by show (g' s4 e f).map D.bl = _; rw [z2]; rfl, fun v w5 H5 l5 S5 r5 => ?_⟩
        cases r5
        exact ⟨k', rfl, o4 _ w5 H5 l5 S5 rfl⟩

/-! ### subscripts -/
theorem ixN_eq (n : Nat) (i : Int) : MP.ixN n i = L2.ixN n i := rfl
theorem atI_ok {K : PySem.W.Frag} {w : Wd} {H : Hp} {ds : List D} {vs : List V} {i : Int} {d : D} (r : Reps K T P w H ds vs) (h : MP.atI ds i = some d) : ∃ v, L2.atI vs i = some v ∧ Rep K T P w H d v := by
  unfold MP.atI at h
  unfold L2.atI
  rw [← r.length, ← ixN_eq]
  cases e : MP.ixN ds.length i with
  | none => rw [e] at h; cases h
  | some j => rw [e] at h; exact r.get h
theorem me_idx (ha : ME X.K T P X W a fa) (hb : ME X.K T P X W b fb) (hs : PlainIx b) : ME X.K T P X W (.Subscript a b pos) (fun env s => (fa env s).bind fun x s => (fb env s).bind fun y s => .opt (indexS s x y) s) := by
  refine (pe_ix ix_seq ha hb hs).imp fun σ H Q q => ?_
  obtain ⟨env, s, w, E, S, o⟩ := q
  refine ⟨env, s, w, E, S, o.bind.mono fun x _ H1 _ q => ?_⟩
  obtain ⟨w1, d, s1, l1, S1, r1, o1⟩ := q
  refine ⟨env, s1, w1, E.mono l1, S1, o1.bind.mono fun y _ H2 l2 q => ?_⟩
  obtain ⟨w2, e, s2, l2', S2, r2, o2⟩ := q
  have r1' := r1.mono l2'
  cases z : indexS s2 d e with
  | none => rw [z] at o2; exact o2.elim
  | some z' =>
    rw [z] at o2
    unfold indexS at z
    split at z
    · rename_i xs j hs
      cases r2
      obtain ⟨p, vs, rfl, hq, rr⟩ := seqOf_ok' S2 r1' hs
      obtain ⟨v, hv, rv⟩ := atI_ok rr z
      rcases hq with hq | hq
      · exact .inl ⟨p, vs, j, v, rfl, rfl, hq, hv, o2.here S2 rv⟩
      · exact .inr (.inl ⟨p, vs, j, v, rfl, rfl, hq, hv, o2.here S2 rv⟩)
    · split at z
      · rename_i x' _
        split at z
        · rename_i hl
          cases r2
          cases r1'
          cases hc : MP.atI x' _ with
          | none => rw [hc] at z; cases z
          | some c =>
            rw [hc] at z
            cases z
            refine .inr (.inr ⟨_, _, c, rfl, rfl, by rw [← line_eq]; simpa [PySem.Str.length] using hl, ?_, o2.here S2 (.str [c])⟩)
            have e1 : (⟨x'.toArray⟩ : Str).cps.toList = x' := by simp
            rw [e1]
            exact hc
        · cases z
      · cases z
    · cases z
/-! ### slices -/
theorem mo_none : MO X.K T P X W none (fun _ s => .ok none s) := by
  refine po_none.imp fun σ H Q q => ?_
  obtain ⟨env, s, w, E, S, o⟩ := q
  exact o.here S rfl
theorem mo_some (ha : ME X.K T P X W a fa) : MO X.K T P X W (some a) (fun env s => (fa env s).bind fun x s => match x with
    | .int i => .ok (some i) s
    | _ => .no) := by
  refine (po_some ha).imp fun σ H Q q => ?_
  obtain ⟨env, s, w, E, S, o⟩ := q
  refine ⟨env, s, w, E, S, o.bind.mono fun x _ H1 _ q => ?_⟩
  obtain ⟨w1, d, s1, l1, S1, r1, o1⟩ := q
  cases r1 <;> first | exact o1.elim | exact ⟨_, rfl, o1.here S1 rfl⟩
def rSlM (K : PySem.W.Frag) : V → Option Int → Option Int → Hp → VK → Prop := fun x lo hi H Q => rSlA K x lo hi H Q ∨ (rSlL K x lo hi H Q ∨ rSlS x lo hi H Q)
theorem sl_M : SlR X (rSlM X.K) := sl_tupA.or (sl_list.or sl_str)
theorem sIx_eq (n d : Nat) (o : Option Int) : MP.sIx n d o = HT.sIx n d o := by cases o <;> rfl
theorem me_slc {m : Bool} {lo hi : Option Expr} {fl fh : Env → Sto → R (Option Int)} {p2 : Pos} (ha : ME X.K T P X W a fa) (hl : MO X.K T P X W lo fl) (hh : MO X.K T P X W hi fh) :
    ME X.K T P X W (.Subscript a (.Slice lo hi none p2) pos) (fun env s => (fa env s).bind fun x s => (fl env s).bind fun l s => (fh env s).bind fun h s => slF m x l h s) := by
  refine (pe_slice sl_M ha hl hh).imp fun σ H Q q => ?_
  obtain ⟨env, s, w, E, S, o⟩ := q
  refine ⟨env, s, w, E, S, o.bind.mono fun x _ H1 _ q => ?_⟩
  obtain ⟨w1, d, s1, l1, S1, r1, o1⟩ := q
  refine ⟨env, s1, w1, E.mono l1, S1, o1.bind.mono fun l _ H2 l2 q => ?_⟩
  obtain ⟨w2, l', s2, l2', S2, e2, o2⟩ := q
  refine ⟨env, s2, w2, (E.mono l1).mono l2', S2, o2.bind.mono fun h _ H3 l3 q => ?_⟩
  obtain ⟨w3, h', s3, l3', S3, e3, o3⟩ := q
  have e2' : l' = l := e2
  have e3' : h' = h := e3
  subst e2' e3'
  have r1' := (r1.mono l2').mono l3'
  have seq : ∀ {xs : List D}, seqOf s3 d = some xs → (∀ ys, d ≠ .tup ys) → Out X.K T P (Rep X.K T P) w3 H3 σ W Q (newL m (MP.cut xs l' h') s3) → rSlM X.K x l' h' H3 Q := fun hs nt o => by
    obtain ⟨p, vs, rfl, hq, rr⟩ := seqOf_ok S3 r1' hs
    rcases hq with ⟨hq, _⟩ | ⟨_, e⟩
    · exact .inr (.inl ⟨p, vs, rfl, hq, fun q hq => out_newL o S3 (rr.cut _ _) q hq⟩)
    · exact absurd e (nt _)
  unfold slF at o3
  split at o3
  · rename_i xs
    cases r1' with
    | tup f1 hh rr =>
      refine .inl ⟨_, _, rfl, SqT.of hh, fun hw => ?_, fun hw p hp => out_ice o3 S3 hp (.tup (.inr rfl) upd_same ((rr.cut _ _).mono (le_ice S3 hp)))⟩
      have e : MP.cut xs l' h' = xs := by
        unfold MP.cut
        rw [sIx_eq, sIx_eq, rr.length, hw.1, hw.2, List.drop_zero, Nat.sub_zero, ← rr.length, List.take_length]
      rw [e] at o3
      exact o3.here S3 (.tup f1 hh rr)
  · rename_i xs
    split at o3
    · rename_i hl
      cases r1'
      refine .inr (.inr ⟨_, rfl, by rw [← line_eq]; simpa [PySem.Str.length] using hl, ?_⟩)
      have e : L2.cutS ⟨xs.toArray⟩ l' h' = ⟨(MP.cut xs l' h').toArray⟩ := by
        unfold L2.cutS MP.cut
        simp only [sIx_eq]
        simp [PySem.Str.length]
      rw [e]
      exact o3.here S3 (.str _)
    · exact o3.elim
  · rename_i h1 h2
    cases hs : seqOf s3 d with
    | none => rw [hs] at o3; exact o3.elim
    | some xs => rw [hs] at o3; exact seq hs h1 o3
end
end MP
set_option autoImplicit false
set_option linter.all false
set_option maxRecDepth 10000
set_option maxHeartbeats 1000000
/-! MPh: fields, built-ins by value, lists made, methods of lists. -/
namespace MP
open PySem PySem.Spec PyProof.Rows L2

def tyName : Ty → String
  | .int => "int"
  | .bool => "bool"
  | .str => "str"
  | .tuple => "tuple"
  | .list => "list"
  | .dict => "dict"
  | .cls _ => ""
  | .val => "ValueError"
/-- what the top says of an instance class -/
structure ClsF (K : PySem.W.Frag) (T : Tab) (k : Cls) (C : Addr) : Prop where
  cl : L2.Cls K C
  no : ∀ f ∈ k.flds, NoAttr K C (T.anm f)
  ha : PySem.W.findIn K (.ref C) "__class__" = some (some (.builtin "object.__class__"))
  hn : PySem.W.specialIn K (.builtin "object.__class__") "__get__" = some (some (.builtin "getset_descriptor.__get__"))
  ht : PySem.W.takesIn K (.builtin "object.__class__") = some true
  hm : PySem.W.mroIn K C (.type "object") = some true
/-- what the top says of the classes -/
structure TabOk (K : PySem.W.Frag) (T : Tab) (P : Prog) : Prop where
  pn : T.pn = []
  inst : ∀ c k, P.cls c = some k → k.exn = false → ClsF K T k (ca K T c)
  anm : ∀ c k f g, P.cls c = some k → f ∈ k.flds → g ∈ k.flds → T.anm f = T.anm g → f = g
  kit1 : ∀ c k t, P.cls c = some k → t ∈ ["NoneType", "int", "bool", "str", "tuple", "list", "dict"] → PySem.W.kitOne K (.type t) (.ref (ca K T c)) = some false
  kit2 : ∀ c k t, P.cls c = some k → k.exn = false → t ∈ ["int", "bool", "str", "tuple", "list", "dict"] → PySem.W.kitOne K (.ref (ca K T c)) (.type t) = some false
  kit3 : ∀ c k c' k', P.cls c = some k → k.exn = false → P.cls c' = some k' → PySem.W.kitOne K (.ref (ca K T c)) (.ref (ca K T c')) = some (P.sub c c')
section
variable {T : Tab} {P : Prog} {X : Cx} {W : WX} {a b c : Expr} {fa fb fc : Env → Sto → R D} {pos : Pos}
/-! ### fields -/
theorem lookF_zip {K : PySem.W.Frag} {w : Wd} {H : Hp} {f : Nat} {d : D} : ∀ {ns : List Nat} {ds : List D} {vs : List V}, Reps K T P w H ds vs → (∀ g ∈ ns, T.anm f = T.anm g → f = g) → lookF f (ns.zip ds) = some d → ∃ v, ((ns.map T.anm).zip vs).lookup (T.anm f) = some v ∧ Rep K T P w H d v
  | [], _, _, _, _, h => by simp [lookF] at h
  | n :: ns, _, _, .nil, _, h => by simp [lookF] at h
  | n :: ns, _, _, .cons (v := v) r t, hi, h => by
    simp only [List.zip_cons_cons, lookF] at h
    simp only [List.map_cons, List.zip_cons_cons, List.lookup_cons]
    split at h
    · rename_i e
      subst e
      cases h
      simp only [beq_self_eq_true]
      exact ⟨v, rfl, r⟩
    · rename_i e
      have ne : (T.anm f == T.anm n) = false := beq_eq_false_iff_ne.mpr fun z => e (hi n (by simp) z).symm
      rw [ne]
      exact lookF_zip t (fun g hg => hi g (by simp [hg])) h
theorem lookF_fs {K : PySem.W.Frag} {w : Wd} {H : Hp} {f : Nat} {d : D} : ∀ {fs : List (Nat × D)} {gs : List (Str × V)}, FsR K T P w H fs gs → (∀ p ∈ fs, T.anm f = T.anm p.1 → f = p.1) → lookF f fs = some d → ∃ v, gs.lookup (T.anm f) = some v ∧ Rep K T P w H d v
  | _, _, .nil, _, h => by simp [lookF] at h
  | _, _, .cons (f := n) (v := v) r t, hi, h => by
    simp only [lookF] at h
    simp only [List.lookup_cons]
    split at h
    · rename_i e
      subst e
      cases h
      simp only [beq_self_eq_true]
      exact ⟨v, rfl, r⟩
    · rename_i e
      have ne : (T.anm f == T.anm n) = false := beq_eq_false_iff_ne.mpr fun z => e (hi _ List.mem_cons_self z).symm
      rw [ne]
      exact lookF_fs t (fun g hg => hi g (by simp [hg])) h
variable {g : G}
theorem lookF_mem {f : Nat} {d : D} : ∀ {ns : List Nat} {ds : List D}, lookF f (ns.zip ds) = some d → f ∈ ns
  | [], _, h => by simp [lookF] at h
  | n :: ns, [], h => by simp [lookF] at h
  | n :: ns, x :: ds, h => by
    simp only [List.zip_cons_cons, lookF] at h
    split at h
    · rename_i e; simp [e]
    · exact List.mem_cons_of_mem _ (lookF_mem h)
theorem field_ok (O : TabOk X.K T P) (hg : g.cls = P.cls) {w : Wd} {H : Hp} {s : Sto} {d e : D} {x : V} {f : Nat} (S : SRel X.K T P w H s) (r : Rep X.K T P w H d x) (h : field g s d f = some e) :
    ∃ a C dx fs v, x = .ref a ∧ H a = some (.ins C dx fs) ∧ L2.Cls X.K C ∧ NoAttr X.K C (T.anm f) ∧ fs.lookup (T.anm f) = some v ∧ Rep X.K T P w H e v := by
  unfold field at h
  rw [hg] at h
  split at h
  · split at h
    · rename_i k hk
      cases r with
      | rcd f1 hc hx hl hh rr =>
        rw [hc] at hk
        cases hk
        have hm := lookF_mem h
        obtain ⟨v, h1, h2⟩ := lookF_zip rr (fun g hg z => O.anm _ _ _ _ hc hm hg z) h
        have F := O.inst _ _ hc hx
        exact ⟨_, _, _, _, v, rfl, hh, F.cl, F.no _ hm, h1, h2⟩
    · cases h
  · split at h
    · rename_i c fs hs
      split at h
      · rename_i k hk
        split at h
        · rename_i hm
          cases r with
          | ref hh =>
            obtain ⟨_, dx, gs, k', h1, h2, h3, hx, h4⟩ := S.cell _ _ _ hs hh (fun z => nomatch z)
            rw [hk] at h3
            cases h3
            obtain ⟨v, q1, q2⟩ := lookF_fs h2 (fun p hp z => O.anm _ _ _ _ hk hm (h4 p hp) z) h
            have F := O.inst _ _ hk hx
            exact ⟨_, _, _, _, v, rfl, h1, F.cl, F.no _ hm, q1, q2⟩
        · cases h
      · cases h
    · cases h
  · cases h
end
end MP
set_option autoImplicit false
set_option linter.all false
set_option maxRecDepth 10000
set_option maxHeartbeats 1000000
/-! MPi: built-ins by value. -/
namespace MP
open PySem PySem.Spec PyProof.Rows L2
section
variable {T : Tab} {P : Prog} {X : Cx} {W : WX} {a b c : Expr} {fa fb fc : Env → Sto → R D} {pos : Pos} {g : G}
theorem me_fld {f : Nat} (O : TabOk X.K T P) (hg : g.cls = P.cls) (ha : ME X.K T P X W a fa) (hb : attributeBase a (T.anm f) X.env (eval a X.env) = eval a X.env) :
    ME X.K T P X W (.Attribute a (T.anm f) pos) (fun env s => (fa env s).bind fun x s => .opt (field g s x f) s) := by
  refine (pe_fld ha hb).imp fun σ H Q q => ?_
  obtain ⟨env, s, w, E, S, o⟩ := q
  refine ⟨env, s, w, E, S, o.bind.mono fun x _ H1 _ q => ?_⟩
  obtain ⟨w1, d, s1, l1, S1, r1, o1⟩ := q
  cases z : field g s1 d f with
  | none => rw [z] at o1; exact o1.elim
  | some e =>
    rw [z] at o1
    obtain ⟨a, C, dx, fs, v, h1, h2, h3, h4, h5, h6⟩ := field_ok O hg S1 r1 z
    exact ⟨a, C, dx, fs, v, h1, h2, h3, h4, h5, o1.here S1 h6⟩
/-! ### a built-in function, a built-in class called -/
def CallM (T : Tab) (P : Prog) (X : Cx) (f : Value) (g : Sto → List D → R D) : Prop :=
  ∀ (W : WX) (σ : L2.St), CallR X f fun xs H Q => ∃ w s ds, SRel X.K T P w H s ∧ Reps X.K T P w H ds xs ∧ (∀ c fs s', g s ds ≠ .ex c fs s') ∧ Out X.K T P (Rep X.K T P) w H σ W Q (g s ds)
variable {x : Str} {p : Pos} {es : List Expr} {e : Expr} {fl : Env → Sto → R (List D)} {id : String} {k : Sto → List D → R D}
theorem me_call (cl : ∀ (Q : L2.St → V → Hp → VK → Prop), True) : True := trivial
/-- the frame of both: t says what the call does with the arguments -/
theorem me_cb {f : Value} (hc : CallM T P X f k) (hx : ∀ s ds c fs s', k s ds ≠ .ex c fs s') (ha : MA X.K T P X W (e :: es) fl)
    (hp : ∀ (r : List V → Hp → VK → Prop), CallR X f r → PE X (.Call (.Name x p) (e :: es) [] pos) (tCB r (tG X.K T P (Reps X.K T P) fl W))) : ME X.K T P X W (.Call (.Name x p) (e :: es) [] pos) (fun env s => (fl env s).bind fun xs s => k s xs) := by
  refine ⟨fun pins s0 σ H Q I q => ?_⟩
  refine (hp _ (hc W σ)).run pins s0 σ H Q I ?_
  obtain ⟨env, s, w, E, S, o⟩ := q
  refine ⟨env, s, w, E, S, o.bind.mono fun xs _ H1 _ q => ?_⟩
  obtain ⟨w1, ds, s1, l1, S1, r1, o1⟩ := q
  exact ⟨w1, s1, ds, S1, r1, fun c fs s' => hx _ _ _ _ _, o1⟩
theorem me_callB (hc : CallM T P X (.builtin id) k) (hx : ∀ s ds c fs s', k s ds ≠ .ex c fs s') (hg : Gl X x) (hm : X.mg x = none) (hv : bootBuiltins x = some (.builtin id)) (ha : MA X.K T P X W (e :: es) fl) (hn : x ≠ "__name__") (hdb : (x == ("__debug__" : Str)) = false)
    (he : starEach (e :: es) X.env = (false, eval e X.env) :: starEach es X.env) (hpl : (backTo pos (starEach es X.env)).any (·.1) = false) : ME X.K T P X W (.Call (.Name x p) (e :: es) [] pos) (fun env s => (fl env s).bind fun xs s => k s xs) :=
  me_cb hc hx ha fun r hr => pe_callB hr hg hm hv ha hn hdb he hpl
theorem me_callTy (hc : CallM T P X (.type id) k) (hx : ∀ s ds c fs s', k s ds ≠ .ex c fs s') (hg : Gl X x) (hm : X.mg x = none) (hv : bootBuiltins x = some (.type id)) (ha : MA X.K T P X W (e :: es) fl) (hn : x ≠ "__name__") (hdb : (x == ("__debug__" : Str)) = false)
    (he : starEach (e :: es) X.env = (false, eval e X.env) :: starEach es X.env) (hpl : (backTo pos (starEach es X.env)).any (·.1) = false) : ME X.K T P X W (.Call (.Name x p) (e :: es) [] pos) (fun env s => (fl env s).bind fun xs s => k s xs) :=
  me_cb hc hx ha fun r hr => pe_callTy hr hg hm hv ha hn hdb he hpl
theorem opt_ne {α : Type} {o : Option α} {s : Sto} {c : Nat} {fs : List D} {s' : Sto} : (R.opt o s : R α) ≠ .ex c fs s' := by cases o <;> exact fun z => nomatch z
/-- value rules of one argument and no effect -/
theorem callM1 {f : Value} {r : List V → Hp → VK → Prop} (hr : CallR X f r) {h : Sto → D → Option D}
    (hh : ∀ (w : Wd) (H : Hp) (s : Sto) (d z : D) (x : V) (Q : VK), SRel X.K T P w H s → Rep X.K T P w H d x → h s d = some z → (∀ v, Rep X.K T P w H z v → Q v H) → r [x] H Q) :
    CallM T P X f fun s ds => match ds with
      | [d] => .opt (h s d) s
      | _ => .no := by
  intro W σ pins s0 σ0 H xs us Q I rx q
  obtain ⟨w, s, ds, S, rr, _, o⟩ := q
  match ds, rr, o with
  | [d], rr, o =>
    obtain ⟨v, rfl, r1⟩ := rr.singleton
    simp only at o
    cases z : h s d with
    | none => rw [z] at o; exact o.elim
    | some z' =>
      rw [z] at o
      exact hr pins s0 σ0 H _ us Q I rx (hh w H s d z' v Q S r1 z fun v r => o.here S r)
theorem callM2 {f : Value} {r : List V → Hp → VK → Prop} (hr : CallR X f r) {h : Sto → D → D → Option D}
    (hh : ∀ (w : Wd) (H : Hp) (s : Sto) (d e z : D) (x y : V) (Q : VK), SRel X.K T P w H s → Rep X.K T P w H d x → Rep X.K T P w H e y → h s d e = some z → (∀ v, Rep X.K T P w H z v → Q v H) → r [x, y] H Q) :
    CallM T P X f fun s ds => match ds with
      | [d, e] => .opt (h s d e) s
      | _ => .no := by
  intro W σ pins s0 σ0 H xs us Q I rx q
  obtain ⟨w, s, ds, S, rr, _, o⟩ := q
  match ds, rr, o with
  | [d, e], rr, o =>
    obtain ⟨v, u, rfl, r1, r2⟩ := rr.two
    simp only at o
    cases z : h s d e with
    | none => rw [z] at o; exact o.elim
    | some z' =>
      rw [z] at o
      exact hr pins s0 σ0 H _ us Q I rx (hh w H s d e z' v u Q S r1 r2 z fun v r => o.here S r)
/-- len -/
abbrev lenS := lenD
theorem cm_len : CallM T P X (.builtin "len") (fun s ds => match ds with
      | [d] => .opt ((lenS s d).map fun n => D.int n) s
      | _ => .no) := by
  refine callM1 call_len fun w H s d z x Q S r h k => ?_
  cases e : lenS s d with
  | none => rw [e] at h; cases h
  | some n =>
    rw [e] at h
    cases h
    refine ⟨x, n, rfl, ?_, k _ (.int _)⟩
    unfold lenS lenD at e
    split at e
    · rename_i xs hs
      cases e
      obtain ⟨p, vs, rfl, hq, rr⟩ := seqOf_ok' S r hs
      rw [rr.length]
      exact hq.elim (fun z => .inl ⟨vs, z, rfl⟩) fun z => .inr ⟨vs, z, rfl⟩
    · split at e
      · split at e
        · rename_i hl
          cases e
          cases r
          exact ⟨by rw [← line_eq]; simpa [PySem.Str.length] using hl, by simp [PySem.Str.length]⟩
        · cases e
      · cases e
theorem cm_abs : CallM T P X (.builtin "abs") (fun s ds => match ds with
      | [d] => .opt (match d with
        | .int i => some (D.int (if i < 0 then -i else i))
        | _ => none) s
      | _ => .no) := by
  refine callM1 (h := fun _ d => match d with
        | .int i => some (D.int (if i < 0 then -i else i))
        | _ => none) call_abs fun w H s d z x Q S r h k => ?_
  cases r <;> first | (cases h; done) | (cases h; exact ⟨_, rfl, k _ (.int _)⟩)
theorem cm_int : CallM T P X (.type "int") (fun s ds => match ds with
      | [d] => .opt (match d with
        | .int i => some (D.int i)
        | .bl b => some (D.int (if b then 1 else 0))
        | _ => none) s
      | _ => .no) := by
  refine callM1 (h := fun _ d => match d with
        | .int i => some (D.int i)
        | .bl b => some (D.int (if b then 1 else 0))
        | _ => none) call_int1 fun w H s d z x Q S r h k => ?_
  cases r <;> first | (cases h; done) | (cases h; exact .inl ⟨_, rfl, k _ (.int _)⟩) | (cases h; exact .inr ⟨_, rfl, k _ (.int _)⟩)
theorem cm_max2 (hc : X.calm = true) : CallM T P X (.builtin "max") (fun s ds => match ds with
      | [d, e] => .opt (match d, e with
        | .int i, .int j => some (D.int (if j > i then j else i))
        | _, _ => none) s
      | _ => .no) := by
  refine callM2 (h := fun _ d e => match d, e with
        | .int i, .int j => some (D.int (if j > i then j else i))
        | _, _ => none) (call_max2 hc) fun w H s d e z x y Q S r1 r2 h k => ?_
  split at h
  · cases h; cases r1; cases r2; exact ⟨_, _, rfl, k _ (.int _)⟩
  · cases h
theorem cm_min2 (hc : X.calm = true) : CallM T P X (.builtin "min") (fun s ds => match ds with
      | [d, e] => .opt (match d, e with
        | .int i, .int j => some (D.int (if j < i then j else i))
        | _, _ => none) s
      | _ => .no) := by
  refine callM2 (h := fun _ d e => match d, e with
        | .int i, .int j => some (D.int (if j < i then j else i))
        | _, _ => none) (call_min2 hc) fun w H s d e z x y Q S r1 r2 h k => ?_
  split at h
  · cases h; cases r1; cases r2; exact ⟨_, _, rfl, k _ (.int _)⟩
  · cases h

/-! ### sum, any, all -/
theorem intsOf_ok {K : PySem.W.Frag} {w : Wd} {H : Hp} : ∀ {ds : List D} {vs : List V} {ns : List Int}, Reps K T P w H ds vs → intsOf ds = some ns → vs = ns.map V.int
  | [], _, ns, .nil, h => by cases h; rfl
  | d :: ds, _, ns, .cons r t, h => by
    cases r <;> simp only [intsOf] at h
    case int i =>
      cases e : intsOf ds with
      | none => rw [e] at h; cases h
      | some ms => rw [e] at h; cases h; rw [intsOf_ok t e]; rfl
    all_goals cases h
theorem blsOf_ok {K : PySem.W.Frag} {w : Wd} {H : Hp} : ∀ {ds : List D} {vs : List V} {ns : List Bool}, Reps K T P w H ds vs → blsOf ds = some ns → vs = ns.map V.bl
  | [], _, ns, .nil, h => by cases h; rfl
  | d :: ds, _, ns, .cons r t, h => by
    cases r <;> simp only [blsOf] at h
    case bl i =>
      cases e : blsOf ds with
      | none => rw [e] at h; cases h
      | some ms => rw [e] at h; cases h; rw [blsOf_ok t e]; rfl
    all_goals cases h
theorem cr_sumT (hc : X.calm = true) : CallR X (.builtin "sum") (fun vs H Q => ∃ (a : Addr) (ns : List Int), vs = [V.ref a] ∧ SqT X.K H a (ns.map V.int) ∧ Q (.int ns.sum) H) := by
  intro pins s σ H vs us Q I r h
  obtain ⟨a, ns, rfl, hs, q⟩ := h
  obtain ⟨its, rv, hl, _⟩ := I.tuple hs
  rw [Vals.ref1 r]
  have hi := rv.ints
  have hl' : s.heap.IsTuple a its.toArray := hl
  obtain ⟨xs, e⟩ := hi.allInts.items
  have hn : numsOf (intItems xs).toList = ns := by rw [← e]; exact hi.numsOf
  rw [nums_intItems] at hn
  rw [e] at hl'
  refine PySem.W.ktm_sumG (I.ok.hd hc) hl' fun h' tk t' hk => ?_
  rw [preSum_eq, List.take_of_length_le (by simp), hn]
  exact ⟨.int _, H, I.kept hk, ⟨_, rfl⟩, q⟩
theorem cm_sum (hc : X.calm = true) : CallM T P X (.builtin "sum") (fun s ds => match ds with
      | [d] => .opt (((seqOf s d).bind intsOf).map fun ns => D.int ns.sum) s
      | _ => .no) := by
  refine callM1 ((cr_sum hc).or (cr_sumT hc)) fun w H s d z x Q S r h k => ?_
  cases e : seqOf s d with
  | none => rw [e] at h; cases h
  | some xs =>
    rw [e] at h
    cases e2 : intsOf xs with
    | none => simp [e2] at h
    | some ns =>
      simp [e2] at h
      subst h
      obtain ⟨p, vs, rfl, hq, rr⟩ := seqOf_ok' S r e
      have := intsOf_ok rr e2
      subst this
      exact hq.elim (fun z => .inl ⟨p, ns, rfl, z, k _ (.int _)⟩) fun z => .inr ⟨p, ns, rfl, z, k _ (.int _)⟩
theorem cm_any (hc : X.calm = true) : CallM T P X (.builtin "any") (fun s ds => match ds with
      | [d] => .opt (((lstOf s d).bind blsOf).map fun ns => D.bl (ns.any _root_.id)) s
      | _ => .no) := by
  refine callM1 (cr_any hc) fun w H s d z x Q S r h k => ?_
  cases e : lstOf s d with
  | none => rw [e] at h; cases h
  | some xs =>
    rw [e] at h
    cases e2 : blsOf xs with
    | none => simp [e2] at h
    | some ns =>
      simp only [Option.bind_some, e2, Option.map_some, Option.some.injEq] at h
      subst h
      obtain ⟨p, vs, rfl, hq, rr⟩ := lstOf_ok S r e
      have := blsOf_ok rr e2
      subst this
      exact ⟨p, ns, rfl, SqL.of hq, k _ (.bl _)⟩
theorem cm_all (hc : X.calm = true) : CallM T P X (.builtin "all") (fun s ds => match ds with
      | [d] => .opt (((lstOf s d).bind blsOf).map fun ns => D.bl (ns.all _root_.id)) s
      | _ => .no) := by
  refine callM1 (cr_all hc) fun w H s d z x Q S r h k => ?_
  cases e : lstOf s d with
  | none => rw [e] at h; cases h
  | some xs =>
    rw [e] at h
    cases e2 : blsOf xs with
    | none => simp [e2] at h
    | some ns =>
      simp only [Option.bind_some, e2, Option.map_some, Option.some.injEq] at h
      subst h
      obtain ⟨p, vs, rfl, hq, rr⟩ := lstOf_ok S r e
      have := blsOf_ok rr e2
      subst this
      exact ⟨p, ns, rfl, SqL.of hq, k _ (.bl _)⟩
/-! ### max, min of a list -/
theorem maxI_mem : ∀ (m : Int) (ns : List Int), maxI m ns ∈ m :: ns ∧ ∀ y ∈ m :: ns, y ≤ maxI m ns
  | m, [] => ⟨List.mem_singleton.mpr rfl, fun y hy => by rw [List.mem_singleton.mp hy]; exact Int.le_refl _⟩
  | m, x :: r => by
    obtain ⟨h1, h2⟩ := maxI_mem (if m < x then x else m) r
    have e : maxI m (x :: r) = maxI (if m < x then x else m) r := rfl
    rw [e]
    constructor
    · rcases List.mem_cons.mp h1 with h | h
      · rw [h]; split <;> simp
      · simp [h]
    · intro y hy
      have hb := h2 _ List.mem_cons_self
      have hx : m ≤ (if m < x then x else m) ∧ x ≤ (if m < x then x else m) := by split <;> omega
      rcases List.mem_cons.mp hy with h | h
      · subst h; omega
      · rcases List.mem_cons.mp h with h | h
        · subst h; omega
        · exact h2 y (List.mem_cons_of_mem _ h)
theorem minI_mem : ∀ (m : Int) (ns : List Int), minI m ns ∈ m :: ns ∧ ∀ y ∈ m :: ns, minI m ns ≤ y
  | m, [] => ⟨List.mem_singleton.mpr rfl, fun y hy => by rw [List.mem_singleton.mp hy]; exact Int.le_refl _⟩
  | m, x :: r => by
    obtain ⟨h1, h2⟩ := minI_mem (if x < m then x else m) r
    have e : minI m (x :: r) = minI (if x < m then x else m) r := rfl
    rw [e]
    constructor
    · rcases List.mem_cons.mp h1 with h | h
      · rw [h]; split <;> simp
      · simp [h]
    · intro y hy
      have hb := h2 _ List.mem_cons_self
      have hx : (if x < m then x else m) ≤ m ∧ (if x < m then x else m) ≤ x := by split <;> omega
      rcases List.mem_cons.mp hy with h | h
      · subst h; omega
      · rcases List.mem_cons.mp h with h | h
        · subst h; omega
        · exact h2 y (List.mem_cons_of_mem _ h)
theorem cm_max (hc : X.calm = true) : CallM T P X (.builtin "max") (fun s ds => match ds with
      | [d] => .opt (match (lstOf s d).bind intsOf with
        | some (n :: ns) => some (D.int (maxI n ns))
        | _ => none) s
      | _ => .no) := by
  refine callM1 (h := fun s d => match (lstOf s d).bind intsOf with
        | some (n :: ns) => some (D.int (maxI n ns))
        | _ => none) (cr_max hc) fun w H s d z x Q S r h k => ?_
  cases e : lstOf s d with
  | none => simp [e] at h
  | some xs =>
    cases e2 : intsOf xs with
    | none => simp [e, e2] at h
    | some ns =>
      cases ns with
      | nil => simp [e, e2] at h
      | cons n ns =>
        simp only [e, Option.bind_some, e2, Option.some.injEq] at h
        subst h
        obtain ⟨p, vs, rfl, hq, rr⟩ := lstOf_ok S r e
        have := intsOf_ok rr e2
        subst this
        refine ⟨p, n :: ns, rfl, SqL.of hq, Nat.succ_pos _, fun m hm hle => ?_⟩
        obtain ⟨h1, h2⟩ := maxI_mem n ns
        have : m = maxI n ns := Int.le_antisymm (h2 m hm) (hle _ h1)
        rw [this]
        exact k _ (.int _)
theorem cm_min (hc : X.calm = true) : CallM T P X (.builtin "min") (fun s ds => match ds with
      | [d] => .opt (match (lstOf s d).bind intsOf with
        | some (n :: ns) => some (D.int (minI n ns))
        | _ => none) s
      | _ => .no) := by
  refine callM1 (h := fun s d => match (lstOf s d).bind intsOf with
        | some (n :: ns) => some (D.int (minI n ns))
        | _ => none) (cr_min hc) fun w H s d z x Q S r h k => ?_
  cases e : lstOf s d with
  | none => simp [e] at h
  | some xs =>
    cases e2 : intsOf xs with
    | none => simp [e, e2] at h
    | some ns =>
      cases ns with
      | nil => simp [e, e2] at h
      | cons n ns =>
        simp only [e, Option.bind_some, e2, Option.some.injEq] at h
        subst h
        obtain ⟨p, vs, rfl, hq, rr⟩ := lstOf_ok S r e
        have := intsOf_ok rr e2
        subst this
        refine ⟨p, n :: ns, rfl, SqL.of hq, Nat.succ_pos _, fun m hm hle => ?_⟩
        obtain ⟨h1, h2⟩ := minI_mem n ns
        have : m = minI n ns := Int.le_antisymm (hle _ h1) (h2 m hm)
        rw [this]
        exact k _ (.int _)
/-! ### tuple(x), list(x) -/
/-- a call of one argument that makes something -/
theorem callN1 {f : Value} {r : List V → Hp → VK → Prop} (hr : CallR X f r) {h : Sto → D → R D} (hx : ∀ s d c fs s', h s d ≠ .ex c fs s')
    (hh : ∀ (W : WX) (σ : L2.St) (w : Wd) (H : Hp) (s : Sto) (d : D) (x : V) (Q : VK), SRel X.K T P w H s → Rep X.K T P w H d x → Out X.K T P (Rep X.K T P) w H σ W Q (h s d) → r [x] H Q) :
    CallM T P X f fun s ds => match ds with
      | [d] => h s d
      | _ => .no := by
  intro W σ pins s0 σ0 H xs us Q I rx q
  obtain ⟨w, s, ds, S, rr, _, o⟩ := q
  match ds, rr, o with
  | [d], rr, o =>
    obtain ⟨v, rfl, r1⟩ := rr.singleton
    exact hr pins s0 σ0 H _ us Q I rx (hh W σ w H s d v Q S r1 o)
theorem cm_tuple : CallM T P X (.type "tuple") (fun s ds => match ds with
      | [d] => opt1 (seqOf s d) fun xs => .ok (.tup xs) s
      | _ => .no) := by
  refine callN1 (h := fun s d => opt1 (seqOf s d) fun xs => .ok (.tup xs) s) call_tuple_of (fun s d c fs s' => by cases seqOf s d <;> exact fun z => nomatch z) fun W σ w H s d x Q S r o => ?_
  cases e : seqOf s d with
  | none => rw [e] at o; exact o.elim
  | some xs =>
    rw [e] at o
    obtain ⟨p, vs, rfl, hq, rr⟩ := seqOf_ok S r e
    rcases hq with ⟨hq, _⟩ | ⟨hq, e2⟩
    · exact ⟨p, vs, rfl, .inl ⟨hq, fun l hl => out_ice o S hl (.tup (.inr rfl) upd_same (rr.mono (le_ice S hl)))⟩⟩
    · refine ⟨p, vs, rfl, .inr ⟨hq, o.here S ?_⟩⟩
      rw [← e2]
      exact r
theorem newL_ne {m : Bool} {xs : List D} {s : Sto} {c : Nat} {fs : List D} {s' : Sto} : newL m xs s ≠ .ex c fs s' := by cases m <;> exact fun z => nomatch z
theorem cm_list {m : Bool} : CallM T P X (.type "list") (fun s ds => match ds with
      | [d] => opt1 (seqOf s d) fun xs => newL m xs s
      | _ => .no) := by
  refine callN1 (h := fun s d => opt1 (seqOf s d) fun xs => newL m xs s) call_list_of (fun s d c fs s' => by cases seqOf s d with | none => exact fun z => nomatch z | some xs => exact newL_ne) fun W σ w H s d x Q S r o => ?_
  cases e : seqOf s d with
  | none => rw [e] at o; exact o.elim
  | some xs =>
    rw [e] at o
    obtain ⟨p, vs, rfl, hq, rr⟩ := seqOf_ok' S r e
    exact ⟨p, vs, rfl, hq, fun l hl => out_newL o S rr l hl⟩
/-- sorted of ints -/
theorem insD_map : ∀ (x : Int) (ns : List Int), ∃ ms : List Int, insD (.int x) (ns.map D.int) = ms.map D.int ∧ ms.Perm (x :: ns) ∧ (ns.Pairwise (· ≤ ·) → ms.Pairwise (· ≤ ·))
  | x, [] => ⟨[x], rfl, List.Perm.refl _, fun _ => List.pairwise_singleton _ _⟩
  | x, y :: ys => by
    obtain ⟨ms, h1, h2, h3⟩ := insD_map x ys
    simp only [List.map_cons, insD, ltv]
    by_cases hxy : x < y
    · rw [decide_eq_true hxy]
      refine ⟨x :: y :: ys, rfl, List.Perm.refl _, fun hp => ?_⟩
      refine List.pairwise_cons.mpr ⟨fun z hz => ?_, hp⟩
      rcases List.mem_cons.mp hz with rfl | hz
      · omega
      · have := (List.pairwise_cons.mp hp).1 z hz; omega
    · rw [decide_eq_false hxy]
      refine ⟨y :: ms, by simp [h1], (h2.cons y).trans (List.Perm.swap _ _ _), fun hp => ?_⟩
      refine List.pairwise_cons.mpr ⟨fun z hz => ?_, h3 (List.pairwise_cons.mp hp).2⟩
      rcases List.mem_cons.mp (h2.mem_iff.mp hz) with rfl | hz
      · omega
      · exact (List.pairwise_cons.mp hp).1 z hz
theorem sortD_map : ∀ (ns : List Int), ∃ ms : List Int, sortD (ns.map D.int) = ms.map D.int ∧ ms.Perm ns ∧ ms.Pairwise (· ≤ ·)
  | [] => ⟨[], rfl, List.Perm.refl _, List.Pairwise.nil⟩
  | x :: ns => by
    obtain ⟨ms, h1, h2, h3⟩ := sortD_map ns
    obtain ⟨ks, q1, q2, q3⟩ := insD_map x ms
    exact ⟨ks, by simp only [List.map_cons, sortD]; rw [h1, q1], q2.trans (h2.cons x), q3 h3⟩
theorem sorted_unique : ∀ {xs ys : List Int}, xs.Perm ys → xs.Pairwise (· ≤ ·) → ys.Pairwise (· ≤ ·) → xs = ys
  | [], ys, p, _, _ => (List.Perm.nil_eq p)
  | x :: xs, [], p, _, _ => absurd p.length_eq (by simp)
  | x :: xs, y :: ys, p, h1, h2 => by
    have e : x = y := by
      have m1 : x ∈ y :: ys := p.mem_iff.mp List.mem_cons_self
      have m2 : y ∈ x :: xs := p.mem_iff.mpr List.mem_cons_self
      rcases List.mem_cons.mp m1 with h | h
      · exact h
      · rcases List.mem_cons.mp m2 with h' | h'
        · exact h'.symm
        · have a := (List.pairwise_cons.mp h2).1 x h
          have b := (List.pairwise_cons.mp h1).1 y h'
          omega
    subst e
    rw [sorted_unique (List.Perm.cons_inv p) (List.pairwise_cons.mp h1).2 (List.pairwise_cons.mp h2).2]
end
end MP
set_option autoImplicit false
set_option linter.all false
set_option maxRecDepth 10000
set_option maxHeartbeats 1000000
/-! MPj: methods of lists, dicts. -/
namespace MP
open PySem PySem.Spec PyProof.Rows L2
section
variable {T : Tab} {P : Prog} {X : Cx} {W : WX} {a b c o e : Expr} {es : List Expr} {fa fb fc fo : Env → Sto → R D} {fl : Env → Sto → R (List D)} {pos apos cpos : Pos} {g : G}
/-- by values: what a method of lists does -/
def MtdM (T : Tab) (P : Prog) (X : Cx) (id : String) (k : Sto → D → List D → R D) : Prop :=
  ∀ (W : WX) (σ : L2.St), MtR X id fun x xs H Q => ∃ w s d ds, SRel X.K T P w H s ∧ Rep X.K T P w H d x ∧ Reps X.K T P w H ds xs ∧ Out X.K T P (Rep X.K T P) w H σ W Q (k s d ds)
theorem out_put {w : Wd} {H : Hp} {σ : L2.St} {Q : VK} {s : Sto} {d : D} {v : V} {i : Nat} {a : Addr} {c0 c : Cell} {o : HO} (h : Out X.K T P (Rep X.K T P) w H σ W Q (.ok d (s.set i c))) (S : SRel X.K T P w H s) (hi : s[i]? = some c0) (ha : w.mu[i]? = some a) (n0 : c0 ≠ .dead) (n1 : c ≠ .dead)
    (hc : CellR X.K T P w (upd H a o) a c) (r : Rep X.K T P w (upd H a o) d v) : Q v (upd H a o) := h v w _ (le_put S hi ha n0) (S.put hi ha n0 n1 hc) r
theorem lst_at {w : Wd} {H : Hp} {s : Sto} {d : D} {x : V} (S : SRel X.K T P w H s) (r : Rep X.K T P w H d x) {i : Nat} (e : d = .ref i) {xs : List D} (h : s[i]? = some (.lst xs)) : ∃ a vs, x = .ref a ∧ w.mu[i]? = some a ∧ H a = some (.lst vs) ∧ Reps X.K T P w H xs vs := by
  subst e
  cases r with
  | ref hh =>
    obtain ⟨_, vs, h1, h2⟩ := S.cell _ _ _ h hh (fun z => nomatch z)
    exact ⟨_, vs, rfl, hh, h1, h2⟩
theorem md_append : MtdM T P X "list.append" fun s d ds => bmf s .append d ds := by
  intro W σ pins s0 σ0 H x xs v us Q I rx rs q
  obtain ⟨w, s, d, ds, S, r, rr, o⟩ := q
  dsimp only at o
  cases d with
  | ref i =>
    cases hi : s[i]? with
    | none => simp [bmf, hi] at o; exact o.elim
    | some c =>
      cases c with
      | lst ys =>
        match ds, rr, o with
        | [], _, o => simp only [bmf, hi] at o; exact o.elim
        | _ :: _ :: _, _, o => simp only [bmf, hi] at o; exact o.elim
        | [d'], rr, o =>
          simp only [bmf, hi] at o
          split at o
          · rename_i hl
            obtain ⟨a, vs, rfl, ha, hv, rv⟩ := lst_at S r rfl hi
            obtain ⟨y, rfl, ry⟩ := rr.singleton
            refine mt_append pins s0 σ0 H _ _ v us Q I rx rs ⟨a, vs, y, rfl, rfl, hv, by rw [← rv.length, ← line_eq]; exact hl, ?_⟩
            exact out_put o S hi ha (fun z => nomatch z) (fun z => nomatch z) ⟨_, upd_same, (rv.append (.cons ry .nil)).mono (le_put S hi ha (fun z => nomatch z))⟩ .non
          · exact o.elim
      | _ => simp only [bmf, hi] at o; exact o.elim
  | _ => simp only [bmf] at o; exact o.elim
end
end MP
set_option autoImplicit false
set_option linter.all false
set_option maxRecDepth 10000
set_option maxHeartbeats 1000000
/-! MPk: methods of lists as expressions, isinstance, minus, the empty dict. -/
namespace MP
open PySem PySem.Spec PyProof.Rows L2
section
variable {T : Tab} {P : Prog} {X : Cx} {W : WX} {a b c o e : Expr} {es : List Expr} {fa fb fc fo : Env → Sto → R D} {fl : Env → Sto → R (List D)} {pos apos cpos : Pos} {g : G}
theorem tyV_list {w : Wd} {H : Hp} {s : Sto} {d : D} {x : V} (S : SRel X.K T P w H s) (r : Rep X.K T P w H d x) (h : (lstOf s d).isSome = true) : tyV X.K "list" x H := by
  cases e : lstOf s d with
  | none => rw [e] at h; cases h
  | some xs =>
    obtain ⟨p, vs, rfl, hq, _⟩ := lstOf_ok S r e
    exact .inl ⟨rfl, _, SqL.of hq⟩
theorem me_bm {id name : String} {k : Sto → D → List D → R D} (slot : Slot "list" name id) (hty : typeOf (.builtin id) = pure (.type "method_descriptor")) (hm : MtdM T P X id k) (ho : ME X.K T P X W o fo) (ha : MA X.K T P X W (e :: es) fl)
    (hbase : attributeBase o name X.env (eval o X.env) = eval o X.env)
    (hfew : ((backTo cpos (starEach (e :: es) X.env)).all (fun x => !x.1) && (backToKw cpos (keywordEach [] X.env)).all (fun x => x.1.isSome)
      && decide ((e :: es).length + ([] : List Keyword).length + (if ([] : List Keyword).isEmpty then 0 else 1) < 30)) = true)
    (hline : (apos.endLine == cpos.line) = true) (hs : starEach (e :: es) X.env = (false, eval e X.env) :: starEach es X.env) (hplain : (backTo cpos (starEach es X.env)).any (·.1) = false) :
    ME X.K T P X W (.Call (.Attribute o name apos) (e :: es) [] cpos) (fun env s => (fo env s).bind fun x s => if (lstOf s x).isSome then (fl env s).bind fun xs s => k s x xs else .no) := by
  refine ⟨fun pins s0 σ0 H Q I q => (pe_bm PySem.F.plainAttrs_list slot hty (hm W σ0) ho ha hbase hfew hline hs hplain).run pins s0 σ0 H Q I ?_⟩
  obtain ⟨env, s, w, E, S, o⟩ := q
  refine ⟨env, s, w, E, S, o.bind.mono fun x _ H1 _ q => ?_⟩
  obtain ⟨w1, d, s1, l1, S1, r1, o1⟩ := q
  split at o1
  · rename_i hl
    refine ⟨tyV_list S1 r1 hl, env, s1, w1, E.mono l1, S1, o1.bind.mono fun xs _ H2 _ q => ?_⟩
    obtain ⟨w2, ds, s2, l2, S2, r2, o2⟩ := q
    exact ⟨w2, s2, d, ds, S2, r1.mono l2, r2, o2⟩
  · exact o1.elim
theorem me_bm0 {id name : String} {k : Sto → D → List D → R D} (slot : Slot "list" name id) (hty : typeOf (.builtin id) = pure (.type "method_descriptor")) (hm : MtdM T P X id k) (ho : ME X.K T P X W o fo)
    (hbase : attributeBase o name X.env (eval o X.env) = eval o X.env) (hline : (apos.endLine == cpos.line) = true) :
    ME X.K T P X W (.Call (.Attribute o name apos) [] [] cpos) (fun env s => (fo env s).bind fun x s => if (lstOf s x).isSome then (R.ok ([] : List D) s).bind fun xs s => k s x xs else .no) := by
  refine ⟨fun pins s0 σ0 H Q I q => (pe_bm0 PySem.F.plainAttrs_list slot hty (hm W σ0) ho hbase hline).run pins s0 σ0 H Q I ?_⟩
  obtain ⟨env, s, w, E, S, o⟩ := q
  refine ⟨env, s, w, E, S, o.bind.mono fun x _ H1 _ q => ?_⟩
  obtain ⟨w1, d, s1, l1, S1, r1, o1⟩ := q
  split at o1
  · rename_i hl
    exact ⟨tyV_list S1 r1 hl, w1, s1, d, [], S1, r1, .nil, o1⟩
  · exact o1.elim
/-! ### - -/
theorem me_neg (ha : ME X.K T P X W a fa) : ME X.K T P X W (.UnaryOp .USub a pos) (fun env s => (fa env s).bind fun x s => match x with
    | .int i => .ok (.int (-i)) s
    | _ => .no) := by
  refine (pe_un un_neg ha).imp fun σ H Q q => ?_
  obtain ⟨env, s, w, E, S, o⟩ := q
  refine ⟨env, s, w, E, S, o.bind.mono fun x _ H1 _ q => ?_⟩
  obtain ⟨w1, d, s1, l1, S1, r1, o1⟩ := q
  cases r1 <;> first | exact o1.elim | exact ⟨_, rfl, o1.here S1 (.int _)⟩
/-! ### isinstance -/
/-- a class as a value of the text -/
def tyU (K : PySem.W.Frag) (T : Tab) : Ty → Value
  | .cls c => .ref (ca K T c)
  | t => .type (tyName t)
def tyVV (K : PySem.W.Frag) (T : Tab) : Ty → V
  | .cls c => .ref (ca K T c)
  | t => .ty (tyName t)
theorem tyClsV (K : PySem.W.Frag) (T : Tab) (t : Ty) : ClsV (tyVV K T t) (tyU K T t) := by cases t <;> first | exact .own _ | exact .ty _
theorem kit_sc {K : PySem.W.Frag} (O : TabOk K T P) (nm : String) (hn : nm ∈ ["NoneType", "int", "bool", "str", "tuple", "list", "dict"]) (t : Ty) (b : Bool) (hc : ∀ c, t = .cls c → ∃ k, P.cls c = some k) (hv : t ≠ .val)
    (hb : ∀ c, t = .cls c → b = false) (h : ∀ n : String, tyU K T t = .type n → kitB nm n = some b) : PySem.W.kitOne K (.type nm) (tyU K T t) = some b := by
  cases t with
  | cls c =>
    obtain ⟨k, hk⟩ := hc c rfl
    rw [hb c rfl]
    exact O.kit1 c k nm hk hn
  | val => exact absurd rfl hv
  | _ => exact kit_ty (h _ rfl)
theorem tyIs_ok {K : PySem.W.Frag} (O : TabOk K T P) (hg : g.sub = P.sub) {w : Wd} {H : Hp} {s : Sto} {d : D} {x : V} {t : Ty} {b : Bool} (S : SRel K T P w H s) (r : Rep K T P w H d x) (hc : ∀ c, t = .cls c → ∃ k, P.cls c = some k) (h : tyIs g s d t = some b) :
    ∃ tv, TyX K H x tv ∧ PySem.W.kitOne K tv (tyU K T t) = some b := by
  cases r with
  | non =>
    refine ⟨_, .base .non, kit_sc O _ (by simp) t b hc (fun z => by subst z; cases h) (fun c z => by subst z; cases h; rfl) fun n hn => ?_⟩
    cases t <;> first | (cases h; done) | (cases hn; cases h; decide +kernel) | (cases hn; done)
  | bl b' =>
    refine ⟨_, .base (.bl _), kit_sc O _ (by simp) t b hc (fun z => by subst z; cases h) (fun c z => by subst z; cases h; rfl) fun n hn => ?_⟩
    cases t <;> first | (cases h; done) | (cases hn; cases h; decide +kernel) | (cases hn; done)
  | int i =>
    refine ⟨_, .base (.int _), kit_sc O _ (by simp) t b hc (fun z => by subst z; cases h) (fun c z => by subst z; cases h; rfl) fun n hn => ?_⟩
    cases t <;> first | (cases h; done) | (cases hn; cases h; decide +kernel) | (cases hn; done)
  | str x' =>
    refine ⟨_, .base (.str _), kit_sc O _ (by simp) t b hc (fun z => by subst z; cases h) (fun c z => by subst z; cases h; rfl) fun n hn => ?_⟩
    cases t <;> first | (cases h; done) | (cases hn; cases h; decide +kernel) | (cases hn; done)
  | tup f hh rr =>
    refine ⟨_, .base (.tup hh), kit_sc O _ (by simp) t b hc (fun z => by subst z; cases h) (fun c z => by subst z; cases h; rfl) fun n hn => ?_⟩
    cases t <;> first | (cases h; done) | (cases hn; cases h; decide +kernel) | (cases hn; done)
  | lst f hh rr =>
    refine ⟨_, .base (.lst hh), kit_sc O _ (by simp) t b hc (fun z => by subst z; cases h) (fun c z => by subst z; cases h; rfl) fun n hn => ?_⟩
    cases t <;> first | (cases h; done) | (cases hn; cases h; decide +kernel) | (cases hn; done)
  | scr q => cases t <;> cases h
  | rcd f hk hx hl hh rr =>
    have F := O.inst _ _ hk hx
    refine ⟨_, .base (.ins hh F.cl F.ha F.hn F.ht F.hm), ?_⟩
    cases t with
    | cls c =>
      obtain ⟨k', hk'⟩ := hc c rfl
      simp only [tyIs, Option.some.injEq] at h
      rw [← h, hg]
      exact O.kit3 _ _ _ _ hk hx hk'
    | val => cases h
    | _ => cases h; exact O.kit2 _ _ _ hk hx (by simp [tyName])
  | ref hh =>
    rename_i i
    have key : ∀ {nm : String} {xx : V}, nm ∈ ["NoneType", "int", "bool", "str", "tuple", "list", "dict"] → TyOf K H xx (.type nm) → (∀ c, t = .cls c → b = false) → t ≠ .val → (∀ n : String, tyU K T t = .type n → kitB nm n = some b) →
        ∃ tv, TyX K H xx tv ∧ PySem.W.kitOne K tv (tyU K T t) = some b := fun h1 h2 h3 h4 h5 => ⟨_, .base h2, kit_sc O _ h1 t b hc h4 h3 h5⟩
    cases hi : s[i]? with
    | none => cases t <;> simp [tyIs, hi] at h
    | some cl =>
      cases cl with
      | lst xs =>
        obtain ⟨_, vs, hv, _⟩ := S.cell _ _ _ hi hh (fun z => nomatch z)
        cases t with
        | val => simp [tyIs] at h
        | cls c => exact key (by simp) (.lst hv) (fun c z => by simpa [tyIs, hi] using h.symm) (fun z => nomatch z) fun n hn => nomatch hn
        | _ =>
          refine key (by simp) (.lst hv) (fun c z => nomatch z) (fun z => nomatch z) fun n hn => ?_
          cases hn
          simp [tyIs, hi] at h
          subst h
          decide +kernel
      | dct xs =>
        obtain ⟨_, vs, hv, _⟩ := S.cell _ _ _ hi hh (fun z => nomatch z)
        cases t with
        | val => simp [tyIs] at h
        | cls c => exact key (by simp) (.dK hv) (fun c z => by simpa [tyIs, hi] using h.symm) (fun z => nomatch z) fun n hn => nomatch hn
        | _ =>
          refine key (by simp) (.dK hv) (fun c z => nomatch z) (fun z => nomatch z) fun n hn => ?_
          cases hn
          simp [tyIs, hi] at h
          subst h
          decide +kernel
      | ins c0 fs =>
        obtain ⟨_, dx, gs, k, hv, _, hk, hx, _⟩ := S.cell _ _ _ hi hh (fun z => nomatch z)
        have F := O.inst _ _ hk hx
        refine ⟨_, .base (.ins hv F.cl F.ha F.hn F.ht F.hm), ?_⟩
        cases t with
        | cls c =>
          obtain ⟨k', hk'⟩ := hc c rfl
          simp only [tyIs, hi, Option.some.injEq] at h
          rw [← h, hg]
          exact O.kit3 _ _ _ _ hk hx hk'
        | val => simp [tyIs] at h
        | _ =>
          simp [tyIs, hi] at h
          subst h
          exact O.kit2 _ _ _ hk hx (by simp [tyName])
      | dead => cases t <;> simp [tyIs, hi] at h
  | exc0 => cases t <;> cases h
  | exc1 => cases t <;> cases h
theorem me_isi {p : Pos} {t : Ty} (O : TabOk X.K T P) (hg : g.sub = P.sub) (hk : ∀ c, t = .cls c → ∃ k, P.cls c = some k) (ha : ME X.K T P X W a fa) (hc : PE X c (tC (tyVV X.K T t))) (hgl : Gl X "isinstance") (hm : X.mg "isinstance" = none)
    (he : starEach [a, c] X.env = (false, eval a X.env) :: starEach [c] X.env) (he2 : starEach [c] X.env = (false, eval c X.env) :: starEach [] X.env) (hpl : (backTo pos (starEach [c] X.env)).any (·.1) = false) :
    ME X.K T P X W (.Call (.Name "isinstance" p) [a, c] [] pos) (fun env s => (fa env s).bind fun x s => .opt ((tyIs g s x t).map D.bl) s) := by
  refine (pe_callB call_isi hgl hm (by decide +kernel) (pa_cons ha (pa_cons hc pa_nil he2) he) (by decide) (by decide) he hpl).imp fun σ H Q q => ?_
  obtain ⟨env, s, w, E, S, o⟩ := q
  refine ⟨env, s, w, E, S, o.bind.mono fun x _ H1 _ q => ?_⟩
  obtain ⟨w1, d, s1, l1, S1, r1, o1⟩ := q
  cases z : tyIs g s1 d t with
  | none => rw [z] at o1; exact o1.elim
  | some b =>
    rw [z] at o1
    obtain ⟨tv, h1, h2⟩ := tyIs_ok O hg S1 r1 hk z
    exact ⟨_, _, tv, tyU X.K T t, b, rfl, tyClsV _ _ _, h1, h2, o1.here S1 (.bl _)⟩
/-! ### {} -/
theorem me_dct0 : ME X.K T P X W (.Dict [] [] pos) (fun _ s => .ok (.ref s.length) (s ++ [.dct []])) := by
  refine pe_dnewK.imp fun σ H Q q => ?_
  obtain ⟨env, s, w, E, S, o⟩ := q
  intro p hp
  refine o _ _ _ (le_new S hp) (S.new hp (fun z => nomatch z) ⟨[], upd_same, .nil⟩) (.ref ?_)
  show (w.mu ++ [p])[s.length]? = some p
  rw [← S.len]
  simp
end
end MP
set_option autoImplicit false
set_option linter.all false
set_option maxRecDepth 100000
set_option maxHeartbeats 2000000
/-! MPl: walks over lists and tuples in any mix: enumerate, zip of two and three. -/
namespace MP
open PySem PySem.Spec PyProof.Rows L2

/-- a list (b) or a tuple -/
def Sq (b : Bool) (K : PySem.W.Frag) (H : Hp) (a : Addr) (xs : List V) : Prop := if b then SqL K H a xs else SqT K H a xs
def IsIt (b : Bool) (h : Heap) (it a : Addr) (i : Nat) : Prop := if b then h.IsListIter it a i else h.IsTupleIter it a i
def IsSq (b : Bool) (h : Heap) (a : Addr) (items : Array Value) : Prop := if b then h.IsList a items else h.IsTuple a items
def itObj (b : Bool) (a : Addr) : Obj := if b then { cls := .type "list_iterator", data := .fields #[.ref a, .int 0 0] } else { cls := .type "tuple_iterator", data := .fields #[.ref a, .int 0 0] }
section
variable {X : Cx} {pins : List (Addr × Obj)} {σ : L2.St} {H : Hp} {s : Shared} {a : Addr} {xs ys : List V} {b : Bool}
theorem sq_get (I : L2.Inv X pins σ H s) (h : Sq b X.K H a xs) : ∃ its : List Value, Vals xs its ∧ IsSq b s.heap a its.toArray ∧ a < s.heap.objs.size := by
  cases b with
  | true =>
    obtain ⟨its, rv, p, _⟩ := I.list h
    exact ⟨its, rv, p.isList, p.lt⟩
  | false =>
    obtain ⟨its, rv, p, _⟩ := I.tuple h
    refine ⟨its, rv, p, ?_⟩
    obtain ⟨o, e, _⟩ := id (show s.heap.IsTuple a its.toArray from p)
    exact Heap.lt_size e
theorem sq_inj (I : L2.Inv X pins σ H s) (h : Sq b X.K H a xs) (h' : Sq b X.K H a ys) : xs = ys := by
  cases b with
  | true => exact I.list_inj h h'
  | false => exact I.tuple_inj h h'
theorem draws {prog : Program} {w : World} {A : Around} (hh : A.handled = none) (it a : Addr) (hne : a ≠ it) (items : Array Value) :
    Draws prog w A it [it, a] items.size (fun i v => items[i]? = some v) (fun i h => IsIt b h it a i ∧ IsSq b h a items) := by
  cases b with
  | true => exact Draws.list hh it a hne items
  | false => exact Draws.tuple hh it a hne items
theorem begins (a : Addr) (items : Array Value) : Begins (.ref a) (itObj b a) (fun h => IsSq b h a items) := by
  cases b with
  | true => exact begins_list a items
  | false => exact begins_tuple a items
theorem isIt_new {h : Heap} {it : Addr} (e : h.get? it = some (itObj b a)) : IsIt b h it a 0 := by
  cases b with
  | true => exact ⟨_, e, rfl, rfl⟩
  | false => exact ⟨_, e, rfl, rfl⟩
theorem isIt_obj {h : Heap} {it : Addr} {i : Nat} (e : IsIt b h it a i) : ∃ o, h.get? it = some o ∧ ∀ v, o.data ≠ .cell v := by
  cases b with
  | true => obtain ⟨o, e, c, d⟩ := e; exact ⟨o, e, fun v q => by rw [d] at q; cases q⟩
  | false => obtain ⟨o, e, c, d⟩ := e; exact ⟨o, e, fun v q => by rw [d] at q; cases q⟩
theorem isIt_at {h h' : Heap} {it : Addr} {i : Nat} (e : IsIt b h it a i) (k : ∀ o, h.get? it = some o → h'.get? it = some o) : IsIt b h' it a i := by
  cases b with
  | true => exact Heap.IsListIter.at e k
  | false => exact Heap.IsTupleIter.at e k
end
section
variable {prog : Program} {w : World} {A : Around} {E : Value → Shared → Prop} {s : Shared}
set_option maxHeartbeats 1000000 in
theorem meets_enumerate_new1 {v : Value} {o : Obj} {H : Heap → Prop} (B : Begins v o H) :
    Meets (Builtin.«enumerate.__new__» ⟨[.type "enumerate", v], []⟩) (fun _ R s => H s.heap ∧
      R (.ok (.ret (.ref (s.heap.push o).objs.size))) { s with heap := (s.heap.push o).push { cls := .type "enumerate", data := .fields #[.none, .bool false, .ref s.heap.objs.size, rawInt 0, .none, .none] } }) :=
  .of_wp fun prog w A R s h => by
    obtain ⟨hp, g, d, tk, os⟩ := s; obtain ⟨h1, h⟩ := h
    have hsub := sub_enumerate
    have q1 : ∀ {A' : Around} {E : Value → Shared → Prop} {Q : Value → Shared → Prop}, Q (.ref hp.objs.size) ⟨hp.push o, g, d, tk, os⟩ → wpAny (model prog w) A' (pyIter v) Q E ⟨hp, g, d, tk, os⟩ :=
      fun q => B.iter prog w _ _ ⟨hp, g, d, tk, os⟩ _ h1 q
    wp_walk using q1
    refine wpAny_stack_any fun st => wpAny_pure ?_
    split
    · rename_i c _ _ _ _ _
      cases (c == Value.type "enumerate")
      · wp_walk using q1
        exact ⟨_, rfl, h⟩
      · wp_walk using q1
        exact ⟨_, rfl, h⟩
    · wp_walk using q1
      exact ⟨_, rfl, h⟩
theorem enum_begins1 {v : Value} {o : Obj} {H : Heap → Prop} {Q : Value → Shared → Prop} (B : Begins v o H) (h1 : H s.heap)
    (h : ∀ h', IsEnum h' (s.heap.objs.size + 1) s.heap.objs.size 0 .none → h'.get? s.heap.objs.size = some o → h'.objs.size = s.heap.objs.size + 2 →
      (∀ b o, s.heap.get? b = some o → h'.get? b = some o) → Q (.ref (s.heap.objs.size + 1)) { s with heap := h' }) :
    wpAny (model prog w) A (PySem.call (.type "enumerate") [v]) Q E s := by
  refine callType_new F.called_enumerate (by decide) (F.typeCall_enumerate_1 _) (F.newCall_enumerate_1 _) (fun obj => F.args_object_init_2 obj _) F.entry_enumerate_new
    (meets_enumerate_new1 B) ⟨h1, ?_⟩
  have hz : (s.heap.push o).objs.size = s.heap.objs.size + 1 := Heap.size_push ..
  show _ ∧ _
  rw [hz]
  have he : IsEnum ((s.heap.push o).push { cls := .type "enumerate", data := .fields #[.none, .bool false, .ref s.heap.objs.size, rawInt 0, .none, .none] }) (s.heap.objs.size + 1) s.heap.objs.size 0 .none := by
    have := Heap.get?_push_size (s.heap.push o) (o := { cls := .type "enumerate", data := .fields #[.none, .bool false, .ref s.heap.objs.size, rawInt 0, .none, .none] }) rfl
    rw [hz] at this; exact this
  refine ⟨⟨_, he, rfl⟩, h _ he (Heap.get?_push_of_some _ (Heap.get?_push_size _ B.free)) (by rw [Heap.size_push, hz]) fun b o x => Heap.get?_push_of_some _ (Heap.get?_push_of_some _ x)⟩
end

/-! ### enumerate -/
def ItE (b : Bool) (K : PySem.W.Frag) (a : Addr) : It :=
  ⟨fun i H => ∃ (xs : List V) (x : V), Sq b K H a xs ∧ xs[i]? = some x, fun i H v H' => ∃ T x, v = .ref T ∧ H T = none ∧ H' = upd H T (.tup [.int (i : Nat), x]) ∧ ∀ xs, Sq b K H a xs → xs[i]? = some x, fun i H => ∃ xs : List V, Sq b K H a xs ∧ xs.length = i⟩
theorem turn_enumA {b : Bool} {P : Program} {w : World} {K : PySem.W.Frag} {elts : List Expr} {kk : Nat} {tpos : Pos} (a e it : Addr) (hai : a ≠ it) (hae : a ≠ e) (hne : e ≠ it) :
    Turn P w K (.Tuple elts kk tpos) (ItE b K a) [e, it] e (fun i h => (∃ old, IsEnum h e it ((i : Nat) : Int) old) ∧ IsIt b h it a i) where
  mem := by simp
  obj := fun i h st c hc => by
    obtain ⟨⟨old, he⟩, hi⟩ := st
    have e' : c = e ∨ c = it := by simpa using hc
    rcases e' with z | z
    · rw [z]; exact ⟨_, he, fun v q => nomatch q⟩
    · rw [z]; exact isIt_obj hi
  keep := fun i h h' st k => let ⟨⟨old, he⟩, hi⟩ := st; ⟨⟨old, k e (by simp) _ he⟩, isIt_at hi fun o q => k it (by simp) o q⟩
  item := by
    intro X hP hw hK hc i pins s σ H E I hf st hg
    subst hP hw hK
    obtain ⟨⟨old, he⟩, hit⟩ := st
    obtain ⟨xs, x, hq, hx⟩ := hg
    obtain ⟨its, rv, p, hz⟩ := sq_get I hq
    obtain ⟨u, hu, ru⟩ := rv.get hx
    have hel : e < s.heap.objs.size := Heap.lt_size he
    have hil : it < s.heap.objs.size := by obtain ⟨_, q, _⟩ := isIt_obj hit; exact Heap.lt_size q
    have hlt : i < its.toArray.size := by
      have := (List.getElem?_eq_some_iff.mp hu).1
      simpa using this
    refine wpAny_pyNext_enum_itemC (draws (b := b) (show X.A.in1.handled = none from I.ok.hd hc) it a hai its.toArray) he ⟨hit, p⟩ hlt hne (by simp [hne, Ne.symm hae]) fun x' h' tk hP ho st' hT hsz hk => ?_
    have hux : u = x' := by
      have : its[i]? = some x' := by simpa using hP
      rw [hu] at this; exact Option.some.inj this
    subst hux
    refine ⟨_, rfl, wpAny_letOwnedTupleGo_enum (s := { s with heap := h', toks := tk + 1 }) ho fun h'' he' sb => ?_⟩
    have hT2 : h''.get? s.heap.objs.size = some { cls := .type "tuple", data := .seq #[.int i tk, u] } := (sb.2 _ (Nat.ne_of_gt hel)).trans hT
    have new : ObjOk X.prog X.w (upd H s.heap.objs.size (.tup [.int (i : Nat), x])) h'' s.heap.objs.size (.tup [.int (i : Nat), x]) :=
      ⟨by show 2 ≤ sizeLine; decide, [.int i tk, u], .cons ⟨_, rfl⟩ (.cons ru .nil), ⟨_, hT2, rfl, _, rfl⟩⟩
    have I1 : L2.Inv X pins σ (upd H s.heap.objs.size (.tup [.int (i : Nat), x])) { s with heap := h'', toks := tk + 1 } :=
      I.turnedNew (ch := [e, it]) (fun b ob hb q => (sb.2 b (fun z => hb (by simp [z]))).trans (hk b ob (fun z => hb (by simp [z])) (fun z => hb (by simp [z])) q)) hf (Nat.le_refl _) new
    refine ⟨.ref s.heap.objs.size, _, I1, rfl, ⟨_, x, rfl, I.hok.fresh (Nat.le_refl _), rfl, fun ys hy => by rw [sq_inj I hy hq]; exact hx⟩, ⟨⟨u, ?_⟩, isIt_at st'.1 fun o q => (sb.2 it (Ne.symm hne)).trans q⟩, fun b hb => ?_⟩
    · have e1 : ((i + 1 : Nat) : Int) = (i : Int) + 1 := by omega
      rw [e1]; exact he'
    · have hb' : b < s.heap.objs.size := by
        have e' : b = e ∨ b = it := by simpa using hb
        rcases e' with z | z
        · rw [z]; exact hel
        · rw [z]; exact hil
      rw [upd_ne (Nat.ne_of_lt hb')]
      exact (hf b hb).1
  done := by
    intro X hP hw hK hc i pins s σ H E I hf st hg
    subst hP hw hK
    obtain ⟨⟨old, he⟩, hit⟩ := st
    obtain ⟨xs, hq, hx⟩ := hg
    obtain ⟨its, rv, p, hz⟩ := sq_get I hq
    obtain ⟨f0, f1, f2, f3, f4, f5⟩ := hf it (by simp)
    have hl := rv.length
    have hi : i = its.toArray.size := by simp; omega
    have st' : IsIt b s.heap it a its.toArray.size ∧ IsSq b s.heap a its.toArray := ⟨hi ▸ hit, p⟩
    exact wpAny_pyNext_enum_endD (draws (b := b) (show X.A.in1.handled = none from I.ok.hd hc) it a hai its.toArray) he st' fun h' eb => ⟨rfl, I.turned (t' := s.toks) (fun b o hb q => eb b o hb q) f0 f1 f3 f4 f5⟩
  self := fun A i s Q E st h => let ⟨⟨_, he⟩, _⟩ := st; wpAny_pyIter_enum he h
/-- the walk of enumerate(x) begins -/
theorem enum_it {b : Bool} {X : Cx} {pins : List (Addr × Obj)} {σ : L2.St} {H : Hp} {s : Shared} {a : Addr} {xs : List V} {elts : List Expr} {kk : Nat} {tpos : Pos} {R : It → Hp → Prop} (I : L2.Inv X pins σ H s) (hq : Sq b X.K H a xs) (q : R (ItE b X.K a) H) :
    wpAny (model X.prog X.w) X.A (PySem.call (.type "enumerate") [.ref a]) (fun v s1 => wpAny (model X.prog X.w) X.A (pyIter v) (PIE X pins σ (.Tuple elts kk tpos) R) X.xe s1) X.xe s := by
  obtain ⟨its, rv, p, hlt⟩ := sq_get I hq
  refine enum_begins1 (begins (b := b) a its.toArray) p fun h' he hit hsz hk => wpAny_pyIter_enum he ?_
  have I2 : L2.Inv X pins σ H { s with heap := h' } := I.kept (t' := s.toks) hk
  refine ⟨s.heap.objs.size + 1, [s.heap.objs.size + 1, s.heap.objs.size], _, _, H, rfl, I2, turn_enumA (b := b) a (s.heap.objs.size + 1) s.heap.objs.size (Nat.ne_of_lt hlt) (Nat.ne_of_lt (Nat.lt_succ_of_lt hlt)) (Nat.succ_ne_self _), ⟨⟨.none, he⟩, isIt_new hit⟩, fun b hb => ?_, q⟩
  have e' : b = s.heap.objs.size + 1 ∨ b = s.heap.objs.size := by simpa using hb
  have hle : s.heap.objs.size ≤ b := by
    rcases e' with z | z
    · rw [z]; exact Nat.le_add_right _ _
    · rw [z]; exact Nat.le_refl _
  exact I.fpOk hle (I.hok.fresh hle)

theorem ne_c {a b : Nat} (h : a ≠ b) : @Ne Addr a b := h
theorem nm2 {a b c : Nat} (h : a ≠ b) (h2 : a ≠ c) : ¬ (@List.instMembership Addr).mem [b, c] a := by show ¬ (a ∈ [b, c]); simp only [List.mem_cons, List.not_mem_nil, or_false, not_or]; exact ⟨h, h2⟩
theorem sep2 (n a1 a2 : Nat) (h1 : a1 < n) (h2 : a2 < n) : ZipSep2 (n + 4) (n + 2) (n + 3) n (n + 1) [n, a1] [n + 1, a2] where
  TIz := ne_c (by omega)
  TOz := ne_c (by omega)
  TITO := ne_c (by omega)
  TIi1 := ne_c (by omega)
  mem1 := List.mem_cons_self
  zf1 := nm2 (by omega) (by omega)
  Tf1 := nm2 (by omega) (by omega)
  TIi2 := ne_c (by omega)
  mem2 := List.mem_cons_self
  zf2 := nm2 (by omega) (by omega)
  Tf2 := nm2 (by omega) (by omega)
  sep1_2 := nm2 (by omega) (by omega)
  sep2_1 := nm2 (by omega) (by omega)
theorem sep3 (n a1 a2 a3 : Nat) (h1 : a1 < n) (h2 : a2 < n) (h3 : a3 < n) : ZipSep3 (n + 5) (n + 3) (n + 4) n (n + 1) (n + 2) [n, a1] [n + 1, a2] [n + 2, a3] := by
  constructor <;> first | exact List.mem_cons_self | exact ne_c (by omega) | exact nm2 (by omega) (by omega)
theorem in2 (n c : Nat) (h : (@List.instMembership Addr).mem [n + 4, n + 2, n + 3, n, n + 1] c) : n ≤ c := by
  replace h : c ∈ [n + 4, n + 2, n + 3, n, n + 1] := h
  simp only [List.mem_cons, List.not_mem_nil, or_false] at h; omega
theorem in3 (n c : Nat) (h : (@List.instMembership Addr).mem [n + 5, n + 3, n + 4, n, n + 1, n + 2] c) : n ≤ c := by
  replace h : c ∈ [n + 5, n + 3, n + 4, n, n + 1, n + 2] := h
  simp only [List.mem_cons, List.not_mem_nil, or_false] at h; omega
theorem ne_p (n a k : Nat) (h : a < n) : a ≠ n + k := by omega
theorem ne_q (n k : Nat) (h : k ≠ 0) : n ≠ n + k := by omega
theorem ne_r (n i k : Nat) (h : i ≠ k) : n + i ≠ n + k := by omega
/-! ### zip of two -/
def ItZ2 (b1 b2 : Bool) (K : PySem.W.Frag) (a1 a2 : Addr) : It :=
  ⟨fun i H => ∃ (xs ys : List V) (x y : V), Sq b1 K H a1 xs ∧ Sq b2 K H a2 ys ∧ xs[i]? = some x ∧ ys[i]? = some y,
    fun i H v H' => ∃ T x y, v = .ref T ∧ H T = none ∧ H' = upd H T (.tup [x, y]) ∧ (∀ xs, Sq b1 K H a1 xs → xs[i]? = some x) ∧ ∀ ys, Sq b2 K H a2 ys → ys[i]? = some y,
    fun i H => ∃ xs ys : List V, Sq b1 K H a1 xs ∧ Sq b2 K H a2 ys ∧ i ≤ xs.length ∧ i ≤ ys.length ∧ (i = xs.length ∨ i = ys.length)⟩
theorem turn_zip2 {b1 b2 : Bool} {P : Program} {w : World} {K : PySem.W.Frag} {elts : List Expr} {kk : Nat} {tpos : Pos} {a1 a2 z TI TO i1 i2 : Addr} (S : ZipSep2 z TI TO i1 i2 [i1, a1] [i2, a2]) (n1 : a1 ≠ i1) (n2 : a2 ≠ i2) :
    Turn P w K (.Tuple elts kk tpos) (ItZ2 b1 b2 K a1 a2) [z, TI, TO, i1, i2] z (fun i h => IsZip h z TI TO .none ∧ IsTupOf2 h TI (.ref i1) (.ref i2) ∧ (∃ x y, IsTupOf2 h TO x y) ∧ IsIt b1 h i1 a1 i ∧ IsIt b2 h i2 a2 i) where
  mem := by simp
  obj := fun i h st c hc => by
    obtain ⟨hz, hTI, ⟨x, y, hTO⟩, h1, h2⟩ := st
    have e' : c = z ∨ c = TI ∨ c = TO ∨ c = i1 ∨ c = i2 := by simpa using hc
    rcases e' with q | q | q | q | q
    · rw [q]; exact ⟨_, hz, fun v q => nomatch q⟩
    · rw [q]; exact ⟨_, hTI, fun v q => nomatch q⟩
    · rw [q]; exact ⟨_, hTO, fun v q => nomatch q⟩
    · rw [q]; exact isIt_obj h1
    · rw [q]; exact isIt_obj h2
  keep := fun i h h' st k => by
    obtain ⟨hz, hTI, ⟨x, y, hTO⟩, h1, h2⟩ := st
    exact ⟨k z (by simp) _ hz, k TI (by simp) _ hTI, ⟨x, y, k TO (by simp) _ hTO⟩, isIt_at h1 fun o q => k i1 (by simp) o q, isIt_at h2 fun o q => k i2 (by simp) o q⟩
  item := by
    intro X hP hw hK hc i pins s σ H E I hf st hg
    subst hP hw hK
    obtain ⟨hz, hTI, ⟨x0, y0, hTO⟩, h1, h2⟩ := st
    obtain ⟨xs, ys, x, y, hqx, hqy, hx, hy⟩ := hg
    obtain ⟨its, rv, p, _⟩ := sq_get I hqx
    obtain ⟨its2, rv2, p2, _⟩ := sq_get I hqy
    obtain ⟨u, hu, ru⟩ := rv.get hx
    obtain ⟨u2, hu2, ru2⟩ := rv2.get hy
    have hzl : z < s.heap.objs.size := Heap.lt_size hz
    have hl1 : i < its.toArray.size := by simpa using (List.getElem?_eq_some_iff.mp hu).1
    have hl2 : i < its2.toArray.size := by simpa using (List.getElem?_eq_some_iff.mp hu2).1
    refine wpAny_pyNext_zipD2_item S (draws (b := b1) (show X.A.in1.handled = none from I.ok.hd hc) i1 a1 n1 its.toArray) (draws (b := b2) (show X.A.in1.handled = none from I.ok.hd hc) i2 a2 n2 its2.toArray) hz hTI hTO ⟨h1, p⟩ ⟨h2, p2⟩ hl1 hl2
      fun v1 v2 h' tk hP1 hP2 z' TO' st1 st2 hT hsz hk => ?_
    have e1 : u = v1 := by
      have : its[i]? = some v1 := by simpa using hP1
      rw [hu] at this; exact Option.some.inj this
    have e2 : u2 = v2 := by
      have : its2[i]? = some v2 := by simpa using hP2
      rw [hu2] at this; exact Option.some.inj this
    subst e1 e2
    refine ⟨_, rfl, wpAny_letOwnedTupleGo_zip (s := { s with heap := h', toks := tk }) z' fun h'' z'' sb => ?_⟩
    have hT2 : h''.get? s.heap.objs.size = some { cls := .type "tuple", data := .seq #[u, u2] } := (sb.2 _ (Nat.ne_of_gt hzl)).trans hT
    have new : ObjOk X.prog X.w (upd H s.heap.objs.size (.tup [x, y])) h'' s.heap.objs.size (.tup [x, y]) :=
      ⟨by show 2 ≤ sizeLine; decide, [u, u2], .cons ru (.cons ru2 .nil), ⟨_, hT2, rfl, _, rfl⟩⟩
    have I1 : L2.Inv X pins σ (upd H s.heap.objs.size (.tup [x, y])) { s with heap := h'', toks := tk } :=
      I.turnedNew (ch := [z, TI, TO, i1, i2]) (fun c o hb q => (sb.2 c (fun q' => hb (by simp [q']))).trans (hk c o (fun q' => hb (by simp [q'])) (fun q' => hb (by simp [q'])) (fun q' => hb (by simp [q'])) (fun q' => hb (by simp [q'])) q)) hf (Nat.le_refl _) new
    refine ⟨.ref s.heap.objs.size, _, I1, rfl, ⟨_, x, y, rfl, I.hok.fresh (Nat.le_refl _), rfl, fun l hl => by rw [sq_inj I hl hqx]; exact hx, fun l hl => by rw [sq_inj I hl hqy]; exact hy⟩, ⟨z'', ?_, ⟨u, u2, ?_⟩, ?_, ?_⟩, fun c hcm => ?_⟩
    · exact (sb.2 _ S.TIz).trans (hk _ _ S.TIz S.TITO S.TIi1 S.TIi2 hTI)
    · exact (sb.2 _ S.TOz).trans TO'
    · exact isIt_at st1.1 fun o q => (sb.2 _ (Ne.symm S.zi1)).trans q
    · exact isIt_at st2.1 fun o q => (sb.2 _ (Ne.symm S.zi2)).trans q
    · have hlt : c < s.heap.objs.size := by
        have e' : c = z ∨ c = TI ∨ c = TO ∨ c = i1 ∨ c = i2 := by simpa using hcm
        rcases e' with q | q | q | q | q
        · rw [q]; exact hzl
        · rw [q]; exact Heap.lt_size hTI
        · rw [q]; exact Heap.lt_size hTO
        · rw [q]; obtain ⟨_, e1, _⟩ := isIt_obj h1; exact Heap.lt_size e1
        · rw [q]; obtain ⟨_, e2, _⟩ := isIt_obj h2; exact Heap.lt_size e2
      rw [upd_ne (Nat.ne_of_lt hlt)]
      exact (hf c hcm).1
  done := by
    intro X hP hw hK hc i pins s σ H E I hf st hg
    subst hP hw hK
    obtain ⟨hz, hTI, ⟨x0, y0, hTO⟩, h1, h2⟩ := st
    obtain ⟨xs, ys, hqx, hqy, g1, g2, hend⟩ := hg
    obtain ⟨its, rv, p, _⟩ := sq_get I hqx
    obtain ⟨its2, rv2, p2, _⟩ := sq_get I hqy
    have l1 := rv.length
    have l2 := rv2.length
    exact wpAny_pyNext_zipD2_end S (draws (b := b1) (show X.A.in1.handled = none from I.ok.hd hc) i1 a1 n1 its.toArray) (draws (b := b2) (show X.A.in1.handled = none from I.ok.hd hc) i2 a2 n2 its2.toArray) hz hTI hTO ⟨h1, p⟩ ⟨h2, p2⟩
      (by simp; omega) (by simp; omega) (by simp; omega) fun h' tk hk => ⟨rfl, I.turnedL (t' := tk) (ch := [z, TI, TO, i1, i2]) (fun c o hb q =>
      hk c o (fun q' => hb (by simp [q'])) (fun q' => hb (by simp [q'])) (fun q' => hb (by simp [q'])) (fun q' => hb (by simp [q'])) q) hf⟩
  self := fun A i s Q E st h => wpAny_pyIter_zip st.1 h
theorem zip2_it {b1 b2 : Bool} {X : Cx} {pins : List (Addr × Obj)} {σ : L2.St} {H : Hp} {s : Shared} {a1 a2 : Addr} {xs ys : List V} {elts : List Expr} {kk : Nat} {tpos : Pos} {R : It → Hp → Prop} (I : L2.Inv X pins σ H s) (hq : Sq b1 X.K H a1 xs) (hq2 : Sq b2 X.K H a2 ys) (q : R (ItZ2 b1 b2 X.K a1 a2) H) :
    wpAny (model X.prog X.w) X.A (PySem.call (.type "zip") [.ref a1, .ref a2]) (fun v s1 => wpAny (model X.prog X.w) X.A (pyIter v) (PIE X pins σ (.Tuple elts kk tpos) R) X.xe s1) X.xe s := by
  obtain ⟨its, rv, p, hlt⟩ := sq_get I hq
  obtain ⟨its2, rv2, p2, hlt2⟩ := sq_get I hq2
  refine zip_begins2 (begins (b := b1) a1 its.toArray) (begins (b := b2) a2 its2.toArray) p p2 fun h' hz hTI hTO h1 h2 hsz hk => wpAny_pyIter_zip hz ?_
  have I2 : L2.Inv X pins σ H { s with heap := h' } := I.kept (t' := s.toks) hk
  have S : ZipSep2 (s.heap.objs.size + 4) (s.heap.objs.size + 2) (s.heap.objs.size + 3) s.heap.objs.size (s.heap.objs.size + 1) [s.heap.objs.size, a1] [s.heap.objs.size + 1, a2] := sep2 _ _ _ hlt hlt2
  refine ⟨s.heap.objs.size + 4, [s.heap.objs.size + 4, s.heap.objs.size + 2, s.heap.objs.size + 3, s.heap.objs.size, s.heap.objs.size + 1], _, _, H, rfl, I2, turn_zip2 (b1 := b1) (b2 := b2) S (Nat.ne_of_lt hlt) (ne_p _ _ 1 hlt2), ⟨hz, hTI, ⟨_, _, hTO⟩, isIt_new h1, isIt_new h2⟩, fun c hcm => ?_, q⟩
  have hle : s.heap.objs.size ≤ c := in2 _ _ hcm
  exact I.fpOk hle (I.hok.fresh hle)

/-! ### zip of three -/
def ItZ3 (b1 b2 b3 : Bool) (K : PySem.W.Frag) (a1 a2 a3 : Addr) : It :=
  ⟨fun i H => ∃ (xs ys zs : List V) (x y u : V), Sq b1 K H a1 xs ∧ Sq b2 K H a2 ys ∧ Sq b3 K H a3 zs ∧ xs[i]? = some x ∧ ys[i]? = some y ∧ zs[i]? = some u,
    fun i H v H' => ∃ T x y u, v = .ref T ∧ H T = none ∧ H' = upd H T (.tup [x, y, u]) ∧ (∀ xs, Sq b1 K H a1 xs → xs[i]? = some x) ∧ (∀ ys, Sq b2 K H a2 ys → ys[i]? = some y) ∧ ∀ zs, Sq b3 K H a3 zs → zs[i]? = some u,
    fun i H => ∃ xs ys zs : List V, Sq b1 K H a1 xs ∧ Sq b2 K H a2 ys ∧ Sq b3 K H a3 zs ∧ i ≤ xs.length ∧ i ≤ ys.length ∧ i ≤ zs.length ∧ (i = xs.length ∨ i = ys.length ∨ i = zs.length)⟩
theorem turn_zip3 {b1 b2 b3 : Bool} {P : Program} {w : World} {K : PySem.W.Frag} {elts : List Expr} {kk : Nat} {tpos : Pos} {a1 a2 a3 z TI TO i1 i2 i3 : Addr} (S : ZipSep3 z TI TO i1 i2 i3 [i1, a1] [i2, a2] [i3, a3]) (n1 : a1 ≠ i1) (n2 : a2 ≠ i2) (n3 : a3 ≠ i3)
    (z1 : i1 ≠ z) (z2 : i2 ≠ z) (z3 : i3 ≠ z) :
    Turn P w K (.Tuple elts kk tpos) (ItZ3 b1 b2 b3 K a1 a2 a3) [z, TI, TO, i1, i2, i3] z (fun i h => IsZip h z TI TO .none ∧ IsTupOf3 h TI (.ref i1) (.ref i2) (.ref i3) ∧ (∃ x y u, IsTupOf3 h TO x y u) ∧ IsIt b1 h i1 a1 i ∧ IsIt b2 h i2 a2 i ∧ IsIt b3 h i3 a3 i) where
  mem := by simp
  obj := fun i h st c hc => by
    obtain ⟨hz, hTI, ⟨x, y, u, hTO⟩, h1, h2, h3⟩ := st
    have e' : c = z ∨ c = TI ∨ c = TO ∨ c = i1 ∨ c = i2 ∨ c = i3 := by simpa using hc
    rcases e' with q | q | q | q | q | q
    · rw [q]; exact ⟨_, hz, fun v q => nomatch q⟩
    · rw [q]; exact ⟨_, hTI, fun v q => nomatch q⟩
    · rw [q]; exact ⟨_, hTO, fun v q => nomatch q⟩
    · rw [q]; exact isIt_obj h1
    · rw [q]; exact isIt_obj h2
    · rw [q]; exact isIt_obj h3
  keep := fun i h h' st k => by
    obtain ⟨hz, hTI, ⟨x, y, u, hTO⟩, h1, h2, h3⟩ := st
    exact ⟨k z (by simp) _ hz, k TI (by simp) _ hTI, ⟨x, y, u, k TO (by simp) _ hTO⟩, isIt_at h1 fun o q => k i1 (by simp) o q, isIt_at h2 fun o q => k i2 (by simp) o q, isIt_at h3 fun o q => k i3 (by simp) o q⟩
  item := by
    intro X hP hw hK hc i pins s σ H E I hf st hg
    subst hP hw hK
    obtain ⟨hz, hTI, ⟨x0, y0, u0, hTO⟩, h1, h2, h3⟩ := st
    obtain ⟨xs, ys, zs, x, y, zz, hqx, hqy, hqz, hx, hy, hzz⟩ := hg
    obtain ⟨its, rv, p, _⟩ := sq_get I hqx
    obtain ⟨its2, rv2, p2, _⟩ := sq_get I hqy
    obtain ⟨its3, rv3, p3, _⟩ := sq_get I hqz
    obtain ⟨u, hu, ru⟩ := rv.get hx
    obtain ⟨u2, hu2, ru2⟩ := rv2.get hy
    obtain ⟨u3, hu3, ru3⟩ := rv3.get hzz
    have hzl : z < s.heap.objs.size := Heap.lt_size hz
    have hl1 : i < its.toArray.size := by simpa using (List.getElem?_eq_some_iff.mp hu).1
    have hl2 : i < its2.toArray.size := by simpa using (List.getElem?_eq_some_iff.mp hu2).1
    have hl3 : i < its3.toArray.size := by simpa using (List.getElem?_eq_some_iff.mp hu3).1
    refine wpAny_pyNext_zipD3_item S (draws (b := b1) (show X.A.in1.handled = none from I.ok.hd hc) i1 a1 n1 its.toArray) (draws (b := b2) (show X.A.in1.handled = none from I.ok.hd hc) i2 a2 n2 its2.toArray) (draws (b := b3) (show X.A.in1.handled = none from I.ok.hd hc) i3 a3 n3 its3.toArray) hz hTI hTO ⟨h1, p⟩ ⟨h2, p2⟩ ⟨h3, p3⟩ hl1 hl2 hl3
      fun v1 v2 v3 h' tk hP1 hP2 hP3 z' TO' st1 st2 st3 hT hsz hk => ?_
    have e1 : u = v1 := by
      have : its[i]? = some v1 := by simpa using hP1
      rw [hu] at this; exact Option.some.inj this
    have e2 : u2 = v2 := by
      have : its2[i]? = some v2 := by simpa using hP2
      rw [hu2] at this; exact Option.some.inj this
    have e3 : u3 = v3 := by
      have : its3[i]? = some v3 := by simpa using hP3
      rw [hu3] at this; exact Option.some.inj this
    subst e1 e2 e3
    refine ⟨_, rfl, wpAny_letOwnedTupleGo_zip (s := { s with heap := h', toks := tk }) z' fun h'' z'' sb => ?_⟩
    have hT2 : h''.get? s.heap.objs.size = some { cls := .type "tuple", data := .seq #[u, u2, u3] } := (sb.2 _ (Nat.ne_of_gt hzl)).trans hT
    have new : ObjOk X.prog X.w (upd H s.heap.objs.size (.tup [x, y, zz])) h'' s.heap.objs.size (.tup [x, y, zz]) :=
      ⟨by show 3 ≤ sizeLine; decide, [u, u2, u3], .cons ru (.cons ru2 (.cons ru3 .nil)), ⟨_, hT2, rfl, _, rfl⟩⟩
    have I1 : L2.Inv X pins σ (upd H s.heap.objs.size (.tup [x, y, zz])) { s with heap := h'', toks := tk } :=
      I.turnedNew (ch := [z, TI, TO, i1, i2, i3]) (fun c o hb q => (sb.2 c (fun q' => hb (by simp [q']))).trans (hk c o (fun q' => hb (by simp [q'])) (fun q' => hb (by simp [q'])) (fun q' => hb (by simp [q'])) (fun q' => hb (by simp [q'])) (fun q' => hb (by simp [q'])) q)) hf (Nat.le_refl _) new
    refine ⟨.ref s.heap.objs.size, _, I1, rfl, ⟨_, x, y, zz, rfl, I.hok.fresh (Nat.le_refl _), rfl, fun l hl => by rw [sq_inj I hl hqx]; exact hx, fun l hl => by rw [sq_inj I hl hqy]; exact hy, fun l hl => by rw [sq_inj I hl hqz]; exact hzz⟩, ⟨z'', ?_, ⟨u, u2, u3, ?_⟩, ?_, ?_, ?_⟩, fun c hcm => ?_⟩
    · exact (sb.2 _ S.TIz).trans (hk _ _ S.TIz S.TITO S.TIi1 S.TIi2 S.TIi3 hTI)
    · exact (sb.2 _ S.TOz).trans TO'
    · exact isIt_at st1.1 fun o q => (sb.2 _ z1).trans q
    · exact isIt_at st2.1 fun o q => (sb.2 _ z2).trans q
    · exact isIt_at st3.1 fun o q => (sb.2 _ z3).trans q
    · have hlt : c < s.heap.objs.size := by
        have e' : c = z ∨ c = TI ∨ c = TO ∨ c = i1 ∨ c = i2 ∨ c = i3 := by simpa using hcm
        rcases e' with q | q | q | q | q | q
        · rw [q]; exact hzl
        · rw [q]; exact Heap.lt_size hTI
        · rw [q]; exact Heap.lt_size hTO
        · rw [q]; obtain ⟨_, e1, _⟩ := isIt_obj h1; exact Heap.lt_size e1
        · rw [q]; obtain ⟨_, e2, _⟩ := isIt_obj h2; exact Heap.lt_size e2
        · rw [q]; obtain ⟨_, e2, _⟩ := isIt_obj h3; exact Heap.lt_size e2
      rw [upd_ne (Nat.ne_of_lt hlt)]
      exact (hf c hcm).1
  done := by
    intro X hP hw hK hc i pins s σ H E I hf st hg
    subst hP hw hK
    obtain ⟨hz, hTI, ⟨x0, y0, u0, hTO⟩, h1, h2, h3⟩ := st
    obtain ⟨xs, ys, zs, hqx, hqy, hqz, g1, g2, g3, hend⟩ := hg
    obtain ⟨its, rv, p, _⟩ := sq_get I hqx
    obtain ⟨its2, rv2, p2, _⟩ := sq_get I hqy
    obtain ⟨its3, rv3, p3, _⟩ := sq_get I hqz
    have l1 := rv.length
    have l2 := rv2.length
    have l3 := rv3.length
    exact wpAny_pyNext_zipD3_end S (draws (b := b1) (show X.A.in1.handled = none from I.ok.hd hc) i1 a1 n1 its.toArray) (draws (b := b2) (show X.A.in1.handled = none from I.ok.hd hc) i2 a2 n2 its2.toArray) (draws (b := b3) (show X.A.in1.handled = none from I.ok.hd hc) i3 a3 n3 its3.toArray) hz hTI hTO ⟨h1, p⟩ ⟨h2, p2⟩ ⟨h3, p3⟩
      (by simp; omega) (by simp; omega) (by simp; omega) (by simp; omega) fun h' tk hk => ⟨rfl, I.turnedL (t' := tk) (ch := [z, TI, TO, i1, i2, i3]) (fun c o hb q =>
      hk c o (fun q' => hb (by simp [q'])) (fun q' => hb (by simp [q'])) (fun q' => hb (by simp [q'])) (fun q' => hb (by simp [q'])) (fun q' => hb (by simp [q'])) q) hf⟩
  self := fun A i s Q E st h => wpAny_pyIter_zip st.1 h
theorem zip3_it {b1 b2 b3 : Bool} {X : Cx} {pins : List (Addr × Obj)} {σ : L2.St} {H : Hp} {s : Shared} {a1 a2 a3 : Addr} {xs ys zs : List V} {elts : List Expr} {kk : Nat} {tpos : Pos} {R : It → Hp → Prop} (I : L2.Inv X pins σ H s) (hq : Sq b1 X.K H a1 xs) (hq2 : Sq b2 X.K H a2 ys) (hq3 : Sq b3 X.K H a3 zs) (q : R (ItZ3 b1 b2 b3 X.K a1 a2 a3) H) :
    wpAny (model X.prog X.w) X.A (PySem.call (.type "zip") [.ref a1, .ref a2, .ref a3]) (fun v s1 => wpAny (model X.prog X.w) X.A (pyIter v) (PIE X pins σ (.Tuple elts kk tpos) R) X.xe s1) X.xe s := by
  obtain ⟨its, rv, p, hlt⟩ := sq_get I hq
  obtain ⟨its2, rv2, p2, hlt2⟩ := sq_get I hq2
  obtain ⟨its3, rv3, p3, hlt3⟩ := sq_get I hq3
  refine zip_begins3 (begins (b := b1) a1 its.toArray) (begins (b := b2) a2 its2.toArray) (begins (b := b3) a3 its3.toArray) p p2 p3 fun h' hz hTI hTO h1 h2 h3 hsz hk => wpAny_pyIter_zip hz ?_
  have I2 : L2.Inv X pins σ H { s with heap := h' } := I.kept (t' := s.toks) hk
  have S : ZipSep3 (s.heap.objs.size + 5) (s.heap.objs.size + 3) (s.heap.objs.size + 4) s.heap.objs.size (s.heap.objs.size + 1) (s.heap.objs.size + 2) [s.heap.objs.size, a1] [s.heap.objs.size + 1, a2] [s.heap.objs.size + 2, a3] := sep3 _ _ _ _ hlt hlt2 hlt3
  refine ⟨s.heap.objs.size + 5, [s.heap.objs.size + 5, s.heap.objs.size + 3, s.heap.objs.size + 4, s.heap.objs.size, s.heap.objs.size + 1, s.heap.objs.size + 2], _, _, H, rfl, I2, turn_zip3 (b1 := b1) (b2 := b2) (b3 := b3) S (Nat.ne_of_lt hlt) (ne_p _ _ 1 hlt2) (ne_p _ _ 2 hlt3) (ne_q _ 5 (by decide)) (ne_r _ 1 5 (by decide)) (ne_r _ 2 5 (by decide)), ⟨hz, hTI, ⟨_, _, _, hTO⟩, isIt_new h1, isIt_new h2, isIt_new h3⟩, fun c hcm => ?_, q⟩
  have hle : s.heap.objs.size ≤ c := in3 _ _ hcm
  exact I.fpOk hle (I.hok.fresh hle)
end MP
set_option autoImplicit false
set_option linter.all false
set_option maxRecDepth 10000
set_option maxHeartbeats 1000000
/-! MPm: what is walked, and targets. -/
namespace MP
open PySem PySem.Spec PyProof.Rows L2
section
variable (K : PySem.W.Frag) (T : Tab) (P : Prog)
/-- a walk gives the items ds while gd stands -/
def ItOk (J : It) (ds : List D) (gd : Gd) (w0 : Wd) (H0 : Hp) : Prop :=
  ∀ w H s, Le w0 w H0 H → SRel K T P w H s → stands gd s = true → J.stop ds.length H ∧
    ∀ (i : Nat) (d : D), ds[i]? = some d → J.go i H ∧ ∀ x H', J.yld i H x H' → ∃ w', Le w w' H H' ∧ SRel K T P w' H' s ∧ Rep K T P w' H' d x
abbrev rIt (w : Wd) (H : Hp) (p : List D × Gd) (J : It) : Prop := ItOk K T P J p.1 p.2 w H
/-- as MI -/
abbrev MI (X : Cx) (W : WX) (tg e : Expr) (f : Env → Sto → R (List D × Gd)) : Prop := PI X tg e (tG K T P (rIt K T P) f W)
end
theorem _root_.L2.PI.imp {X : Cx} {tg e : Expr} {t t' : TI} (h : PI X tg e t) (k : ∀ σ H R, t' σ H R → t σ H R) : PI X tg e t' := ⟨fun pins s σ H R I q => h.run pins s σ H R I (k σ H R q)⟩
section
variable {T : Tab} {P : Prog} {X : Cx} {W : WX} {tg a b c o e : Expr} {es : List Expr} {fa fb fc : Env → Sto → R D} {fl : Env → Sto → R (List D)} {pos p : Pos}
/-- a list or a tuple as it stands later -/
theorem sq_of {K : PySem.W.Frag} {w : Wd} {H : Hp} {s : Sto} {d : D} {x : V} {xs : List D} (S : SRel K T P w H s) (r : Rep K T P w H d x) (h : seqOf s d = some xs) : ∃ a b, x = .ref a ∧ (∃ vs, Sq b K H a vs ∧ Reps K T P w H xs vs) ∧
    ∀ w' H' s', Le w w' H H' → SRel K T P w' H' s' → stands (guardOf d xs) s' = true → ∃ vs, Sq b K H' a vs ∧ Reps K T P w' H' xs vs := by
  cases r with
  | tup f hh rr =>
    cases h
    exact ⟨_, false, rfl, ⟨_, SqT.of hh, rr⟩, fun w' H' s' l S' _ => ⟨_, SqT.of ((l.st _ f).trans hh), rr.mono l⟩⟩
  | lst f hh rr =>
    cases h
    exact ⟨_, true, rfl, ⟨_, SqL.of hh, rr⟩, fun w' H' s' l S' _ => ⟨_, SqL.of ((l.st _ f).trans hh), rr.mono l⟩⟩
  | scr q =>
    cases h
    refine ⟨_, true, rfl, ⟨_, scr_sq q, Reps.of_ints _⟩, fun w' H' s' l S' _ => ⟨_, scr_sq (w := w') (q.elim (fun z => .inl ⟨l.fz _ z.1, let ⟨o, h⟩ := z.2; ⟨o, (l.st _ z.1).trans h⟩⟩) .inr), Reps.of_ints _⟩⟩
  | ref hh =>
    rename_i i
    simp only [seqOf] at h
    split at h
    · rename_i ys hi
      cases h
      obtain ⟨_, vs, hv, rr⟩ := S.cell _ _ _ hi hh (fun z => nomatch z)
      refine ⟨_, true, rfl, ⟨_, SqL.of hv, rr⟩, fun w' H' s' l S' st => ?_⟩
      simp only [guardOf, stands, List.all_cons, List.all_nil, Bool.and_true, decide_eq_true_eq] at st
      obtain ⟨_, vs', hv', rr'⟩ := S'.cell _ _ _ st (l.get hh) (fun z => nomatch z)
      exact ⟨_, SqL.of hv', rr'⟩
    · cases h
  | _ => cases h
theorem seq_it {b : Bool} {pins : List (Addr × Obj)} {σ : L2.St} {H : Hp} {s : Shared} {a : Addr} {xs : List V} {R : It → Hp → Prop} (I : L2.Inv X pins σ H s) (hq : Sq b X.K H a xs) (q : ∀ J, (J = if b then Itl X.K a else Itt X.K a) → R J H) :
    wpAny (model X.prog X.w) X.A (pyIter (.ref a)) (PIE X pins σ tg R) X.xe s := by
  cases b with
  | true =>
    obtain ⟨its, rv, p, hz⟩ := I.list hq
    refine wpAny_pyIter_list p.isList ?_
    refine ⟨s.heap.objs.size, [s.heap.objs.size], _, _, H, rfl, I.kept (t' := s.toks) fun b o e => Heap.get?_push_of_some _ e, turn_list a _, ⟨_, Heap.get?_push_size _ rfl, rfl, rfl⟩, fun b hb => ?_, q _ rfl⟩
    have e : b = s.heap.objs.size := by simpa using hb
    subst e
    exact I.fpOk (Nat.le_refl _) (I.hok.fresh (Nat.le_refl _))
  | false =>
    obtain ⟨its, rv, p, hz⟩ := I.tuple hq
    refine wpAny_pyIter_tuple (show s.heap.IsTuple a its.toArray from p) ?_
    refine ⟨s.heap.objs.size, [s.heap.objs.size], _, _, H, rfl, I.kept (t' := s.toks) fun b o e => Heap.get?_push_of_some _ e, turn_tuple a _, ⟨_, Heap.get?_push_size _ rfl, rfl, rfl⟩, fun b hb => ?_, q _ rfl⟩
    have e : b = s.heap.objs.size := by simpa using hb
    subst e
    exact I.fpOk (Nat.le_refl _) (I.hok.fresh (Nat.le_refl _))
theorem itOk_seq {K : PySem.W.Frag} {w : Wd} {H : Hp} {a : Addr} {b : Bool} {ds : List D} {gd : Gd} (h : ∀ w' H' s', Le w w' H H' → SRel K T P w' H' s' → stands gd s' = true → ∃ vs, Sq b K H' a vs ∧ Reps K T P w' H' ds vs) :
    ItOk K T P (if b then Itl K a else Itt K a) ds gd w H := by
  intro w' H' s' l S' st
  obtain ⟨vs, hq, rr⟩ := h w' H' s' l S' st
  cases b with
  | true =>
    refine ⟨⟨vs, hq, by rw [rr.length]; exact Nat.le_refl _⟩, fun i d hd => ?_⟩
    obtain ⟨v, hv, rv⟩ := rr.get hd
    refine ⟨⟨vs, v, hq, hv⟩, fun x H'' y => ?_⟩
    obtain ⟨rfl, y⟩ := y
    have := y vs hq
    rw [hv] at this
    cases this
    exact ⟨w', Le.refl _ _, S', rv⟩
  | false =>
    refine ⟨⟨vs, hq, by rw [rr.length]; exact Nat.le_refl _⟩, fun i d hd => ?_⟩
    obtain ⟨v, hv, rv⟩ := rr.get hd
    refine ⟨⟨vs, v, hq, hv⟩, fun x H'' y => ?_⟩
    obtain ⟨rfl, y⟩ := y
    have := y vs hq
    rw [hv] at this
    cases this
    exact ⟨w', Le.refl _ _, S', rv⟩
def seqF (fa : Env → Sto → R D) : Env → Sto → R (List D × Gd) := fun env s => (fa env s).bind fun x s => match x with
    | .str xs => .ok (xs.map fun c => D.str [c], []) s
    | x => opt1 (seqOf s x) fun xs => .ok (xs, guardOf x xs) s
theorem itOk_str {K : PySem.W.Frag} {w : Wd} {H : Hp} (x : List Nat) : ItOk K T P (Its ⟨x.toArray⟩) (x.map fun c => D.str [c]) [] w H := by
  intro w' H' s' l S' st
  refine ⟨by show (⟨x.toArray⟩ : Str).cps.size ≤ _; simp, fun i d hd => ?_⟩
  rw [List.getElem?_map] at hd
  cases hx : x[i]? with
  | none => rw [hx] at hd; cases hd
  | some c =>
    rw [hx] at hd
    cases hd
    have hi := (List.getElem?_eq_some_iff.mp hx).1
    refine ⟨by show i < (⟨x.toArray⟩ : Str).cps.size; simpa using hi, fun y H'' q => ?_⟩
    obtain ⟨rfl, c', h1, rfl⟩ := q
    have : x[i]? = some c' := by simpa using h1
    rw [hx] at this
    cases this
    exact ⟨w', Le.refl _ _, S', .str [c]⟩
theorem mi_seq (ha : ME X.K T P X W a fa) : MI X.K T P X W tg a (seqF fa) := by
  refine ⟨fun pins s0 σ H RR I q => ?_⟩
  obtain ⟨env, s, w, E, S, o⟩ := q
  refine thn (ha.run pins s0 σ H _ I ⟨env, s, w, E, S, o.bind⟩) fun v s1 ⟨x, H1, I1, r1, q1⟩ => ?_
  obtain ⟨w1, d, s', l1, S1, rd, o1⟩ := q1
  have seq : Out X.K T P (rIt X.K T P) w1 H1 σ W RR (opt1 (seqOf s' d) fun xs => .ok (xs, guardOf d xs) s') → wpAny (model X.prog X.w) X.A (pyIter v) (PIE X pins σ tg RR) X.xe s1 := fun o1 => by
    cases hs : seqOf s' d with
    | none => rw [hs] at o1; exact o1.elim
    | some xs =>
      rw [hs] at o1
      obtain ⟨a, b, rfl, ⟨vs, hq, _⟩, later⟩ := sq_of S1 rd hs
      cases r1
      exact seq_it I1 hq fun J e => by subst e; exact o1.here S1 (itOk_seq later)
  cases rd with
  | str x =>
    obtain ⟨t, rfl⟩ := r1
    cases ha : (⟨x.toArray⟩ : Str).cps.all (· < 128)
    · exact wpAny_pyIter_wide ha (pi_one (tk := s1.toks) I1 _ (turn_str _ _ t "str_iterator" (.inr rfl)) ⟨_, Heap.get?_push_size _ rfl, rfl, rfl⟩ (o1.here S1 (itOk_str x)))
    · exact wpAny_pyIter_ascii ha (pi_one (tk := s1.toks) I1 _ (turn_str _ _ t "str_ascii_iterator" (.inl rfl)) ⟨_, Heap.get?_push_size _ rfl, rfl, rfl⟩ (o1.here S1 (itOk_str x)))
  | _ => first | exact seq o1 | exact o1.elim
theorem rangeD_get {lo : Int} {n i : Nat} {d : D} (h : (rangeD lo n)[i]? = some d) : i < n ∧ d = .int (lo + (i : Nat)) := by
  unfold rangeD at h
  rw [List.getElem?_map] at h
  cases e : (List.range n)[i]? with
  | none => rw [e] at h; cases h
  | some j =>
    rw [e] at h
    cases h
    obtain ⟨h1, h2⟩ := List.getElem?_eq_some_iff.mp e
    simp at h1 h2
    subst h2
    exact ⟨h1, rfl⟩
theorem itOk_range {K : PySem.W.Frag} {w : Wd} {H : Hp} (lo : Int) (n : Nat) : ItOk K T P (Itr lo n) (rangeD lo n) [] w H := by
  intro w' H' s' l S' st
  refine ⟨by show n ≤ _; simp [rangeD], fun i d hd => ?_⟩
  obtain ⟨h1, rfl⟩ := rangeD_get hd
  refine ⟨h1, fun x H'' y => ?_⟩
  obtain ⟨rfl, rfl⟩ := y
  exact ⟨w', Le.refl _ _, S', .int _⟩
theorem small_ok {i : Int} (h : smallI i = true) : -(2 ^ 62) ≤ i ∧ i < 2 ^ 62 := by
  unfold smallI at h
  simpa using h
def rangeF (fl : Env → Sto → R (List D)) : Env → Sto → R (List D × Gd) := fun env s => (fl env s).bind fun xs s => match xs with
    | [.int n] => if smallI n then .ok (rangeD 0 n.toNat, []) s else .no
    | [.int a, .int b] => if smallI a && smallI b then .ok (rangeD a (b - a).toNat, []) s else .no
    | _ => .no
theorem mi_range1 (hg : Gl X "range") (hm : X.mg "range" = none) (ha : MA X.K T P X W [a] fl) (hs : starEach [a] X.env = [(false, eval a X.env)]) (hl : ∀ env s xs s', fl env s = .ok xs s' → xs.length = 1) : MI X.K T P X W tg (.Call (.Name "range" p) [a] [] pos) (rangeF fl) := by
  refine (pi_range1 hg hm ha hs).imp fun σ H Q q => ?_
  obtain ⟨env, s, w, E, S, o⟩ := q
  refine ⟨env, s, w, E, S, ?_⟩
  simp only [rangeF] at o
  cases r : fl env s with
  | no => rw [r] at o; exact o
  | ex c fs s1 => rw [r] at o; exact o
  | ok ds s1 =>
    rw [r] at o
    intro xs w1 H1 l1 S1 r1
    simp only [MP.R.bind_ok] at o
    have hlen := hl _ _ _ _ r
    split at o
    · rename_i n
      obtain ⟨v, rfl, rv⟩ := r1.singleton
      cases rv
      split at o
      · rename_i h
        obtain ⟨h1, h2⟩ := small_ok h
        exact ⟨n, rfl, h1, h2, o _ w1 H1 l1 S1 (itOk_range 0 n.toNat)⟩
      · exact o.elim
    · cases hlen
    · exact o.elim
theorem mi_range2 (hg : Gl X "range") (hm : X.mg "range" = none) (ha : MA X.K T P X W [a, b] fl) (hs : starEach [a, b] X.env = [(false, eval a X.env), (false, eval b X.env)]) (hs2 : starEach [b] X.env = [(false, eval b X.env)]) (hl : ∀ env s xs s', fl env s = .ok xs s' → xs.length = 2) : MI X.K T P X W tg (.Call (.Name "range" p) [a, b] [] pos) (rangeF fl) := by
  refine (pi_range2 hg hm ha hs hs2).imp fun σ H Q q => ?_
  obtain ⟨env, s, w, E, S, o⟩ := q
  refine ⟨env, s, w, E, S, ?_⟩
  simp only [rangeF] at o
  cases r : fl env s with
  | no => rw [r] at o; exact o
  | ex c fs s1 => rw [r] at o; exact o
  | ok ds s1 =>
    rw [r] at o
    intro xs w1 H1 l1 S1 r1
    simp only [MP.R.bind_ok] at o
    have hlen := hl _ _ _ _ r
    split at o
    · cases hlen
    · rename_i n m
      obtain ⟨v, u, rfl, rv, ru⟩ := r1.two
      cases rv
      cases ru
      split at o
      · rename_i h
        rw [Bool.and_eq_true] at h
        obtain ⟨h1, h2⟩ := small_ok h.1
        obtain ⟨h3, h4⟩ := small_ok h.2
        exact ⟨n, m, rfl, ⟨h1, h2, h3, h4⟩, o _ w1 H1 l1 S1 (itOk_range n (m - n).toNat)⟩
      · exact o.elim
    · exact o.elim
/-! ### enumerate, zip, reversed -/
theorem enumD_get : ∀ {ds : List D} {n i : Nat} {d : D}, (enumD n ds)[i]? = some d → ∃ e, ds[i]? = some e ∧ d = .tup [.int ((n + i : Nat) : Int), e]
  | [], _, _, _, h => by simp [enumD] at h
  | x :: r, n, 0, d, h => by simp [enumD] at h; exact ⟨x, rfl, by rw [← h]; simp⟩
  | x :: r, n, i + 1, d, h => by
    simp only [enumD, List.getElem?_cons_succ] at h
    obtain ⟨e, h1, h2⟩ := enumD_get h
    exact ⟨e, by simpa using h1, by rw [h2]; simp; omega⟩
theorem enumD_len : ∀ (ds : List D) (n : Nat), (enumD n ds).length = ds.length
  | [], _ => rfl
  | x :: r, n => by simp [enumD, enumD_len r (n + 1)]
theorem itOk_enum {K : PySem.W.Frag} {w : Wd} {H : Hp} {a : Addr} {b : Bool} {ds : List D} {gd : Gd} (h : ∀ w' H' s', Le w w' H H' → SRel K T P w' H' s' → stands gd s' = true → ∃ vs, Sq b K H' a vs ∧ Reps K T P w' H' ds vs) :
    ItOk K T P (ItE b K a) (enumD 0 ds) gd w H := by
  intro w' H' s' l S' st
  obtain ⟨vs, hq, rr⟩ := h w' H' s' l S' st
  refine ⟨⟨vs, hq, by rw [enumD_len]; exact rr.length.symm⟩, fun i d hd => ?_⟩
  obtain ⟨e, he, rfl⟩ := enumD_get hd
  obtain ⟨v, hv, rv⟩ := rr.get he
  refine ⟨⟨vs, v, hq, hv⟩, fun x H'' y => ?_⟩
  obtain ⟨p, u, rfl, hp, rfl, y⟩ := y
  have := y vs hq
  rw [hv] at this
  cases this
  have l2 := le_ice (o := .tup [.int (i : Nat), v]) S' hp
  refine ⟨_, l2, S'.ice hp, .tup (.inr rfl) upd_same (.cons ?_ (.cons (rv.mono l2) .nil))⟩
  rw [Nat.zero_add]
  exact .int _
theorem mi_enum {elts : List Expr} {kk : Nat} {tpos : Pos} (hg : Gl X "enumerate") (hm : X.mg "enumerate" = none) (ha : ME X.K T P X W a fa) (hs : starEach [a] X.env = (false, eval a X.env) :: starEach [] X.env) :
    MI X.K T P X W (.Tuple elts kk tpos) (.Call (.Name "enumerate" p) [a] [] pos) (fun env s => (fa env s).bind fun x s => opt1 (seqOf s x) fun xs => .ok (enumD 0 xs, guardOf x xs) s) := by
  refine ⟨fun pins s0 σ H RR I q => ?_⟩
  obtain ⟨env, s, w, E, S, o⟩ := q
  refine Call_ (ld_blt I hg hm boot_enumerate (PyProof.Rows.callWith_type1 (args_cons (thn (ha.run pins s0 σ H _ I ⟨env, s, w, E, S, o.bind⟩) fun v s1 ⟨x, H1, I1, r1, q1⟩ => args_nil ?_) hs) hs rfl))
  obtain ⟨w1, d, s', l1, S1, rd, o1⟩ := q1
  cases e : seqOf s' d with
  | none => rw [e] at o1; exact o1.elim
  | some xs =>
    rw [e] at o1
    obtain ⟨a, b, rfl, ⟨vs, hq, _⟩, later⟩ := sq_of S1 rd e
    cases r1
    exact enum_it (b := b) I1 hq (o1.here S1 (itOk_enum later))

theorem stands_append {g g' : Gd} {s : Sto} : stands (g ++ g') s = (stands g s && stands g' s) := by unfold stands; rw [List.all_append]
def zipF (fl : Env → Sto → R (List D)) : Env → Sto → R (List D × Gd) := fun env s => (fl env s).bind fun vs s => opt1 (vs.mapM (seqOf s)) fun xss =>
    if xss.length = 2 ∨ xss.length = 3 then .ok (zipD xss, (vs.zip xss).flatMap fun p => guardOf p.1 p.2) s else .no
theorem zip_get {α β : Type} : ∀ {xs : List α} {ys : List β} {i : Nat} {p : α × β}, (xs.zip ys)[i]? = some p → xs[i]? = some p.1 ∧ ys[i]? = some p.2
  | [], _, _, _, h => by simp at h
  | x :: xs, [], _, _, h => by simp at h
  | x :: xs, y :: ys, 0, p, h => by simp at h; subst h; simp
  | x :: xs, y :: ys, i + 1, p, h => by
    simp only [List.zip_cons_cons, List.getElem?_cons_succ] at h ⊢
    exact zip_get h
theorem itOk_zip2 {K : PySem.W.Frag} {w : Wd} {H : Hp} {a1 a2 : Addr} {b1 b2 : Bool} {xs ys : List D} {g1 g2 : Gd} (h1 : ∀ w' H' s', Le w w' H H' → SRel K T P w' H' s' → stands g1 s' = true → ∃ vs, Sq b1 K H' a1 vs ∧ Reps K T P w' H' xs vs)
    (h2 : ∀ w' H' s', Le w w' H H' → SRel K T P w' H' s' → stands g2 s' = true → ∃ vs, Sq b2 K H' a2 vs ∧ Reps K T P w' H' ys vs) :
    ItOk K T P (ItZ2 b1 b2 K a1 a2) ((xs.zip ys).map fun p => D.tup [p.1, p.2]) (g1 ++ g2) w H := by
  intro w' H' s' l S' st
  rw [stands_append, Bool.and_eq_true] at st
  obtain ⟨vs, hq, rr⟩ := h1 w' H' s' l S' st.1
  obtain ⟨us, hq2, rr2⟩ := h2 w' H' s' l S' st.2
  have e1 := rr.length
  have e2 := rr2.length
  refine ⟨⟨vs, us, hq, hq2, by simp; omega, by simp; omega, by simp; omega⟩, fun i d hd => ?_⟩
  rw [List.getElem?_map] at hd
  cases e : (xs.zip ys)[i]? with
  | none => rw [e] at hd; cases hd
  | some p =>
    rw [e] at hd
    cases hd
    obtain ⟨q1, q2⟩ := zip_get e
    obtain ⟨v, hv, rv⟩ := rr.get q1
    obtain ⟨u, hu, ru⟩ := rr2.get q2
    refine ⟨⟨vs, us, v, u, hq, hq2, hv, hu⟩, fun x H'' y => ?_⟩
    obtain ⟨t, v', u', rfl, hp, rfl, y1, y2⟩ := y
    have z1 := y1 vs hq
    have z2 := y2 us hq2
    rw [hv] at z1
    rw [hu] at z2
    cases z1
    cases z2
    have l2 := le_ice (o := .tup [v, u]) S' hp
    exact ⟨_, l2, S'.ice hp, .tup (.inr rfl) upd_same (.cons (rv.mono l2) (.cons (ru.mono l2) .nil))⟩
theorem itOk_zip3 {K : PySem.W.Frag} {w : Wd} {H : Hp} {a1 a2 a3 : Addr} {b1 b2 b3 : Bool} {xs ys zs : List D} {g1 g2 g3 : Gd} (h1 : ∀ w' H' s', Le w w' H H' → SRel K T P w' H' s' → stands g1 s' = true → ∃ vs, Sq b1 K H' a1 vs ∧ Reps K T P w' H' xs vs)
    (h2 : ∀ w' H' s', Le w w' H H' → SRel K T P w' H' s' → stands g2 s' = true → ∃ vs, Sq b2 K H' a2 vs ∧ Reps K T P w' H' ys vs)
    (h3 : ∀ w' H' s', Le w w' H H' → SRel K T P w' H' s' → stands g3 s' = true → ∃ vs, Sq b3 K H' a3 vs ∧ Reps K T P w' H' zs vs) :
    ItOk K T P (ItZ3 b1 b2 b3 K a1 a2 a3) ((xs.zip (ys.zip zs)).map fun p => D.tup [p.1, p.2.1, p.2.2]) (g1 ++ (g2 ++ g3)) w H := by
  intro w' H' s' l S' st
  rw [stands_append, stands_append, Bool.and_eq_true, Bool.and_eq_true] at st
  obtain ⟨vs, hq, rr⟩ := h1 w' H' s' l S' st.1
  obtain ⟨us, hq2, rr2⟩ := h2 w' H' s' l S' st.2.1
  obtain ⟨ts, hq3, rr3⟩ := h3 w' H' s' l S' st.2.2
  have e1 := rr.length
  have e2 := rr2.length
  have e3 := rr3.length
  refine ⟨⟨vs, us, ts, hq, hq2, hq3, by simp; omega, by simp; omega, by simp; omega, by simp; omega⟩, fun i d hd => ?_⟩
  rw [List.getElem?_map] at hd
  cases e : (xs.zip (ys.zip zs))[i]? with
  | none => rw [e] at hd; cases hd
  | some p =>
    rw [e] at hd
    cases hd
    obtain ⟨q1, q2⟩ := zip_get e
    obtain ⟨q2, q3⟩ := zip_get q2
    obtain ⟨v, hv, rv⟩ := rr.get q1
    obtain ⟨u, hu, ru⟩ := rr2.get q2
    obtain ⟨t, ht, rt⟩ := rr3.get q3
    refine ⟨⟨vs, us, ts, v, u, t, hq, hq2, hq3, hv, hu, ht⟩, fun x H'' y => ?_⟩
    obtain ⟨tt, v', u', t', rfl, hp, rfl, y1, y2, y3⟩ := y
    have z1 := y1 vs hq
    have z2 := y2 us hq2
    have z3 := y3 ts hq3
    rw [hv] at z1
    rw [hu] at z2
    rw [ht] at z3
    cases z1
    cases z2
    cases z3
    have l2 := le_ice (o := .tup [v, u, t]) S' hp
    exact ⟨_, l2, S'.ice hp, .tup (.inr rfl) upd_same (.cons (rv.mono l2) (.cons (ru.mono l2) (.cons (rt.mono l2) .nil)))⟩
theorem mapM_two {f : D → Option (List D)} {x y : D} {r : List (List D)} (h : [x, y].mapM f = some r) : ∃ a b, f x = some a ∧ f y = some b ∧ r = [a, b] := by
  cases e1 : f x with
  | none => simp [List.mapM_cons, e1] at h
  | some a =>
    cases e2 : f y with
    | none => simp [List.mapM_cons, e1, e2] at h
    | some b => simp [List.mapM_cons, e1, e2] at h; exact ⟨a, b, rfl, rfl, h.symm⟩
theorem mapM_three {f : D → Option (List D)} {x y z : D} {r : List (List D)} (h : [x, y, z].mapM f = some r) : ∃ a b c, f x = some a ∧ f y = some b ∧ f z = some c ∧ r = [a, b, c] := by
  cases e1 : f x with
  | none => simp [List.mapM_cons, e1] at h
  | some a =>
    cases e2 : f y with
    | none => simp [List.mapM_cons, e1, e2] at h
    | some b =>
      cases e3 : f z with
      | none => simp [List.mapM_cons, e1, e2, e3] at h
      | some c => simp [List.mapM_cons, e1, e2, e3] at h; exact ⟨a, b, c, rfl, rfl, rfl, h.symm⟩
theorem len2 {α : Type} {l : List α} (h : l.length = 2) : ∃ a b, l = [a, b] := by
  match l, h with
  | [a, b], _ => exact ⟨a, b, rfl⟩
theorem len3 {α : Type} {l : List α} (h : l.length = 3) : ∃ a b c, l = [a, b, c] := by
  match l, h with
  | [a, b, c], _ => exact ⟨a, b, c, rfl⟩
theorem Reps.three {K : PySem.W.Frag} {w : Wd} {H : Hp} {d e f : D} {vs : List V} (h : Reps K T P w H [d, e, f] vs) : ∃ v u t, vs = [v, u, t] ∧ Rep K T P w H d v ∧ Rep K T P w H e u ∧ Rep K T P w H f t := by
  cases h with
  | cons h t =>
    obtain ⟨u, t', rfl, h', h''⟩ := t.two
    exact ⟨_, _, _, rfl, h, h', h''⟩
theorem mi_zip2 {elts : List Expr} {kk : Nat} {tpos : Pos} (hg : Gl X "zip") (hm : X.mg "zip" = none) (ha : MA X.K T P X W [a, b] fl) (hs : starEach [a, b] X.env = (false, eval a X.env) :: starEach [b] X.env) (hpl : (backTo pos (starEach [b] X.env)).any (·.1) = false)
    (hl : ∀ env s xs s', fl env s = .ok xs s' → xs.length = 2) : MI X.K T P X W (.Tuple elts kk tpos) (.Call (.Name "zip" p) [a, b] [] pos) (zipF fl) := by
  refine ⟨fun pins s0 σ H RR I q => ?_⟩
  obtain ⟨env, s, w, E, S, o⟩ := q
  cases r : fl env s with
  | no => simp only [zipF, r] at o; exact o.elim
  | ex c fs s1 =>
    simp only [zipF, r] at o
    refine Call_ (ld_blt I hg hm PyProof.Rows.boot_zip (PyProof.Rows.callWith_type1 (thn (ha.run pos pins s0 σ H (fun _ _ => False) I ⟨env, s, w, E, S, by rw [r]; exact o⟩) fun us s1 ⟨vs, H1, I1, r1, q1⟩ => q1.elim) hs hpl))
  | ok ds s1 =>
    simp only [zipF, r, MP.R.bind_ok] at o
    refine Call_ (ld_blt I hg hm PyProof.Rows.boot_zip (PyProof.Rows.callWith_type1 (thn (ha.run pos pins s0 σ H (fun vs H1 => ∃ w1, Le w w1 H H1 ∧ SRel X.K T P w1 H1 s1 ∧ Reps X.K T P w1 H1 ds vs) I ⟨env, s, w, E, S, by rw [r]; exact fun v w1 H1 l1 S1 r1 => ⟨w1, l1, S1, r1⟩⟩) fun us s2 ⟨vs, H1, I1, r1, w1, l1, S1, rd⟩ => ?_) hs hpl))
    obtain ⟨d, e, rfl⟩ := len2 (hl _ _ _ _ r)
    cases hmm : [d, e].mapM (seqOf s1) with
    | none => rw [hmm] at o; exact o.elim
    | some xss =>
      obtain ⟨xs, ys, h1, h2, rfl⟩ := mapM_two hmm
      rw [hmm] at o
      simp only [opt1_some, List.length_cons, List.length_nil, Nat.reduceAdd, true_or, if_true] at o
      obtain ⟨v, u, rfl, rv, ru⟩ := rd.two
      obtain ⟨a1, b1, rfl, ⟨_, hq, _⟩, lt1⟩ := sq_of S1 rv h1
      obtain ⟨a2, b2, rfl, ⟨_, hq2, _⟩, lt2⟩ := sq_of S1 ru h2
      cases r1 with
      | cons z1 zz =>
        cases zz with
        | cons z2 zz =>
          cases zz
          cases z1
          cases z2
          refine zip2_it (b1 := b1) (b2 := b2) I1 hq hq2 (o _ w1 H1 l1 S1 ?_)
          have := itOk_zip2 lt1 lt2
          show ItOk X.K T P _ (zipD [xs, ys]) (guardOf d xs ++ (guardOf e ys ++ [])) w1 H1
          rw [List.append_nil]
          exact this
theorem mi_zip3 {elts : List Expr} {kk : Nat} {tpos : Pos} (hg : Gl X "zip") (hm : X.mg "zip" = none) (ha : MA X.K T P X W [a, b, c] fl) (hs : starEach [a, b, c] X.env = (false, eval a X.env) :: starEach [b, c] X.env) (hpl : (backTo pos (starEach [b, c] X.env)).any (·.1) = false)
    (hl : ∀ env s xs s', fl env s = .ok xs s' → xs.length = 3) : MI X.K T P X W (.Tuple elts kk tpos) (.Call (.Name "zip" p) [a, b, c] [] pos) (zipF fl) := by
  refine ⟨fun pins s0 σ H RR I q => ?_⟩
  obtain ⟨env, s, w, E, S, o⟩ := q
  cases r : fl env s with
  | no => simp only [zipF, r] at o; exact o.elim
  | ex c fs s1 =>
    simp only [zipF, r] at o
    refine Call_ (ld_blt I hg hm PyProof.Rows.boot_zip (PyProof.Rows.callWith_type1 (thn (ha.run pos pins s0 σ H (fun _ _ => False) I ⟨env, s, w, E, S, by rw [r]; exact o⟩) fun us s1 ⟨vs, H1, I1, r1, q1⟩ => q1.elim) hs hpl))
  | ok ds s1 =>
    simp only [zipF, r, MP.R.bind_ok] at o
    refine Call_ (ld_blt I hg hm PyProof.Rows.boot_zip (PyProof.Rows.callWith_type1 (thn (ha.run pos pins s0 σ H (fun vs H1 => ∃ w1, Le w w1 H H1 ∧ SRel X.K T P w1 H1 s1 ∧ Reps X.K T P w1 H1 ds vs) I ⟨env, s, w, E, S, by rw [r]; exact fun v w1 H1 l1 S1 r1 => ⟨w1, l1, S1, r1⟩⟩) fun us s2 ⟨vs, H1, I1, r1, w1, l1, S1, rd⟩ => ?_) hs hpl))
    obtain ⟨d, e, f, rfl⟩ := len3 (hl _ _ _ _ r)
    cases hmm : [d, e, f].mapM (seqOf s1) with
    | none => rw [hmm] at o; exact o.elim
    | some xss =>
      obtain ⟨xs, ys, zs, h1, h2, h3, rfl⟩ := mapM_three hmm
      rw [hmm] at o
      simp only [opt1_some, List.length_cons, List.length_nil, Nat.reduceAdd, or_true, if_true] at o
      obtain ⟨v, u, t, rfl, rv, ru, rt⟩ := rd.three
      obtain ⟨a1, b1, rfl, ⟨_, hq, _⟩, lt1⟩ := sq_of S1 rv h1
      obtain ⟨a2, b2, rfl, ⟨_, hq2, _⟩, lt2⟩ := sq_of S1 ru h2
      obtain ⟨a3, b3, rfl, ⟨_, hq3, _⟩, lt3⟩ := sq_of S1 rt h3
      cases r1 with
      | cons z1 zz =>
        cases zz with
        | cons z2 zz =>
          cases zz with
          | cons z3 zz =>
            cases zz
            cases z1
            cases z2
            cases z3
            refine zip3_it (b1 := b1) (b2 := b2) (b3 := b3) I1 hq hq2 hq3 (o _ w1 H1 l1 S1 ?_)
            have := itOk_zip3 lt1 lt2 lt3
            show ItOk X.K T P _ (zipD [xs, ys, zs]) (guardOf d xs ++ (guardOf e ys ++ (guardOf f zs ++ []))) w1 H1
            rw [List.append_nil]
            exact this
/-- reversed -/
theorem itOk_rev {K : PySem.W.Frag} {w : Wd} {H : Hp} {a : Addr} {b : Bool} {ds : List D} {gd : Gd} (h : ∀ w' H' s', Le w w' H H' → SRel K T P w' H' s' → stands gd s' = true → ∃ vs, Sq b K H' a vs ∧ Reps K T P w' H' ds vs) :
    ItOk K T P (if b then Itv K a ds.length else RT.ItvT K a ds.length) ds.reverse gd w H := by
  intro w' H' s' l S' st
  obtain ⟨vs, hq, rr⟩ := h w' H' s' l S' st
  have get : ∀ {i : Nat} {d : D}, ds.reverse[i]? = some d → i < ds.length ∧ ∃ v, vs[ds.length - 1 - i]? = some v ∧ Rep K T P w' H' d v := fun {i d} hd => by
    have hi := (List.getElem?_eq_some_iff.mp hd).1
    rw [List.length_reverse] at hi
    rw [List.getElem?_reverse hi] at hd
    exact ⟨hi, rr.get hd⟩
  cases b with
  | true =>
    refine ⟨by show ds.length ≤ _; simp, fun i d hd => ?_⟩
    obtain ⟨hi, v, hv, rv⟩ := get hd
    refine ⟨⟨hi, vs, v, hq, hv⟩, fun x H'' y => ?_⟩
    obtain ⟨rfl, y⟩ := y
    have := y vs hq
    rw [hv] at this
    cases this
    exact ⟨w', Le.refl _ _, S', rv⟩
  | false =>
    refine ⟨by show ds.length ≤ _; simp, fun i d hd => ?_⟩
    obtain ⟨hi, v, hv, rv⟩ := get hd
    refine ⟨⟨hi, vs, v, hq, hv⟩, fun x H'' y => ?_⟩
    obtain ⟨rfl, y⟩ := y
    have := y vs hq
    rw [hv] at this
    cases this
    exact ⟨w', Le.refl _ _, S', rv⟩
theorem mi_rev (hg : Gl X "reversed") (hm : X.mg "reversed" = none) (ha : ME X.K T P X W a fa) (hs : starEach [a] X.env = (false, eval a X.env) :: starEach [] X.env) :
    MI X.K T P X W tg (.Call (.Name "reversed" p) [a] [] pos) (fun env s => (fa env s).bind fun x s => opt1 (seqOf s x) fun xs => .ok (xs.reverse, guardOf x xs) s) := by
  refine (RT.pi_revA hg hm ha hs).imp fun σ H Q q => ?_
  obtain ⟨env, s, w, E, S, o⟩ := q
  refine ⟨env, s, w, E, S, o.bind.mono fun x _ H1 _ q => ?_⟩
  obtain ⟨w1, d, s1, l1, S1, r1, o1⟩ := q
  cases e : seqOf s1 d with
  | none => rw [e] at o1; exact o1.elim
  | some xs =>
    rw [e] at o1
    obtain ⟨a, b, rfl, ⟨vs, hq, rr⟩, later⟩ := sq_of S1 r1 e
    have hl := rr.length
    cases b with
    | true => exact ⟨a, vs, rfl, .inl ⟨hq, by rw [← hl]; exact o1.here S1 (itOk_rev (b := true) later)⟩⟩
    | false => exact ⟨a, vs, rfl, .inr ⟨hq, by rw [← hl]; exact o1.here S1 (itOk_rev (b := false) later)⟩⟩
/-! ### targets -/
mutual
def slotsT : MP.T → List Nat
  | .name i => [i]
  | .tup ts => slotsTs ts
def slotsTs : List MP.T → List Nat
  | [] => []
  | t :: ts => slotsT t ++ slotsTs ts
end
/-- but for the slots the same -/
def SameSt (is : List Nat) (σ σ' : L2.St) : Prop := σ'.length = σ.length ∧ ∀ i, i ∉ is → σ'[i]? = σ[i]?
/-- a value stored -/
abbrev MG (K : PySem.W.Frag) (T : Tab) (P : Prog) (X : Cx) (tg : Expr) (t : MP.T) : Prop := PG X tg fun v σ H Q => ∃ env s w d env', ERel K T P w H env σ ∧ SRel K T P w H s ∧ Rep K T P w H d v ∧ asgT t d env = some env' ∧ ∀ σ', ERel K T P w H env' σ' → SameSt (slotsT t) σ σ' → Q σ' H
abbrev MGs (K : PySem.W.Frag) (T : Tab) (P : Prog) (X : Cx) (tg : List Expr) (t : List MP.T) : Prop := PGs X tg fun vs σ H Q => ∃ env s w ds env', ERel K T P w H env σ ∧ SRel K T P w H s ∧ Reps K T P w H ds vs ∧ asgTs t ds env = some env' ∧ ∀ σ', ERel K T P w H env' σ' → SameSt (slotsTs t) σ σ' → Q σ' H
theorem getE_set : ∀ (env : Env) (i j : Nat) (o : Option D) (d : D), getE (setE env i o) j = some d → (j = i ∧ o = some d) ∨ (j ≠ i ∧ getE env j = some d)
  | [], _, _, _, _, h => by simp [setE, getE] at h
  | x :: r, 0, 0, o, d, h => .inl ⟨rfl, h⟩
  | x :: r, 0, j + 1, o, d, h => .inr ⟨by omega, h⟩
  | x :: r, i + 1, 0, o, d, h => .inr ⟨by omega, h⟩
  | x :: r, i + 1, j + 1, o, d, h => by
    rcases getE_set r i j o d h with ⟨h1, h2⟩ | ⟨h1, h2⟩
    · exact .inl ⟨by omega, h2⟩
    · exact .inr ⟨by omega, h2⟩
theorem setE_len : ∀ (env : Env) (i : Nat) (o : Option D), (setE env i o).length = env.length
  | [], _, _ => rfl
  | x :: r, 0, _ => rfl
  | x :: r, i + 1, o => by simp [setE, setE_len r i o]
theorem getE_lt : ∀ {env : Env} {i : Nat} {d : D}, getE env i = some d → i < env.length
  | [], _, _, h => by simp [getE] at h
  | x :: r, 0, _, _ => by simp
  | x :: r, i + 1, d, h => by have := getE_lt (env := r) h; simp; omega
theorem ERel.set {K : PySem.W.Frag} {w : Wd} {H : Hp} {env : Env} {σ : L2.St} {d : D} {v : V} (E : ERel K T P w H env σ) (i : Nat) (r : Rep K T P w H d v) : ERel K T P w H (setE env i (some d)) (σ.set i (some v)) := by
  refine ⟨by rw [setE_len, List.length_set]; exact E.1, fun j e h => ?_⟩
  have hj := getE_lt h
  rw [setE_len, E.1] at hj
  rcases getE_set _ _ _ _ _ h with ⟨rfl, h2⟩ | ⟨h1, h2⟩
  · cases h2
    exact ⟨v, List.getElem?_set_self hj, r⟩
  · obtain ⟨u, h3, h4⟩ := E.2 j e h2
    exact ⟨u, by rw [List.getElem?_set_ne (Ne.symm h1)]; exact h3, h4⟩
theorem ERel.wipe1 {K : PySem.W.Frag} {w : Wd} {H : Hp} {env : Env} {σ : L2.St} (E : ERel K T P w H env σ) (i : Nat) : ERel K T P w H (setE env i none) σ := by
  refine ⟨by rw [setE_len]; exact E.1, fun j e h => ?_⟩
  rcases getE_set _ _ _ _ _ h with ⟨rfl, h2⟩ | ⟨h1, h2⟩
  · cases h2
  · exact E.2 j e h2
theorem ERel.set0 {K : PySem.W.Frag} {w : Wd} {H : Hp} {env : Env} {σ : L2.St} (E : ERel K T P w H env σ) (i : Nat) (o : Option V) : ERel K T P w H (setE env i none) (σ.set i o) := by
  refine ⟨by rw [setE_len, List.length_set]; exact E.1, fun j e h => ?_⟩
  rcases getE_set _ _ _ _ _ h with ⟨rfl, h2⟩ | ⟨h1, h2⟩
  · cases h2
  · obtain ⟨u, h3, h4⟩ := E.2 j e h2
    exact ⟨u, by rw [List.getElem?_set_ne (Ne.symm h1)]; exact h3, h4⟩
theorem mg_name {i : Nat} {x : Str} (hN : X.N.Nodup) (hi : X.N[i]? = some x) (hx : Loc X.env.scope x) (hf : X.fn x = true ∨ X.env.scope.names.lookup x = some .local) : MG X.K T P X (.Name x pos) (.name i) := by
  refine ⟨fun pins s σ H v u Q I r q => (pg_name hN hi hx hf).run pins s σ H v u Q I r ?_⟩
  obtain ⟨env, s, w, d, env', E, S, rd, ha, k⟩ := q
  simp only [asgT, Option.some.injEq] at ha
  subst ha
  exact k _ (E.set i rd) ⟨List.length_set, fun j hj => List.getElem?_set_ne fun e => hj (by simp [slotsT, e])⟩
theorem mgs_nil : MGs X.K T P X [] [] := by
  refine ⟨fun pins s σ H vs us Q I r q => pgs_nil.run pins s σ H vs us Q I r ?_⟩
  obtain ⟨env, s, w, ds, env', E, S, rd, ha, k⟩ := q
  cases ds with
  | nil =>
    cases rd
    cases ha
    exact ⟨rfl, k _ E ⟨rfl, fun _ _ => rfl⟩⟩
  | cons => cases ha
theorem mgs_cons {t : MP.T} {ts : List MP.T} (h1 : MG X.K T P X e t) (h2 : MGs X.K T P X es ts) (hs : (assignEach (e :: es) X.env).map (·.2) = assign e X.env :: (assignEach es X.env).map (·.2)) : MGs X.K T P X (e :: es) (t :: ts) := by
  refine ⟨fun pins s σ H vs us Q I r q => (pgs_cons h1 h2 hs).run pins s σ H vs us Q I r ?_⟩
  obtain ⟨env, s, w, ds, env', E, S, rd, ha, k⟩ := q
  cases rd with
  | nil => cases ha
  | cons rv rt =>
    rename_i d v ds vs
    simp only [asgTs] at ha
    cases e1 : asgT t d env with
    | none => rw [e1] at ha; cases ha
    | some env1 =>
      rw [e1] at ha
      exact ⟨v, vs, rfl, env, s, w, d, env1, E, S, rv, e1, fun σ1 E1 q1 => ⟨env1, s, w, ds, env', E1, S, rt, ha, fun σ2 E2 q2 => k σ2 E2 ⟨q2.1.trans q1.1, fun i hi => by
        simp only [slotsTs, List.mem_append, not_or] at hi
        rw [q2.2 i hi.2, q1.2 i hi.1]⟩⟩⟩
theorem mg_tup {ts : List MP.T} {k n : Nat} (hc : X.calm = true) (h : MGs X.K T P X es ts) (hn : (assignEach es X.env).length = n) (hl : ts.length = n) (hst : (assignEach es X.env).findIdx? (·.1) = none) (hlen : ∀ ts ds env env', asgTs ts ds env = some env' → ds.length = ts.length) : MG X.K T P X (.Tuple es k pos) (.tup ts) := by
  refine ⟨fun pins s σ H v u Q I r q => (pg_tup hc h hn hst).run pins s σ H v u Q I r ?_⟩
  obtain ⟨env, s, w, d, env', E, S, rd, ha, k⟩ := q
  cases rd with
  | tup f hh rr =>
    simp only [asgT] at ha
    refine ⟨_, _, rfl, SqT.of hh, ?_, env, s, w, _, env', E, S, rr, ha, k⟩
    rw [← rr.length, hlen _ _ _ _ ha, hl]
  | _ => simp [asgT] at ha
theorem asgTs_len : ∀ (ts : List MP.T) (ds : List D) (env env' : Env), asgTs ts ds env = some env' → ds.length = ts.length
  | [], [], _, _, _ => rfl
  | [], _ :: _, _, _, h => by simp [asgTs] at h
  | _ :: _, [], _, _, h => by simp [asgTs] at h
  | t :: ts, d :: ds, env, env', h => by
    simp only [asgTs] at h
    cases e : asgT t d env with
    | none => rw [e] at h; cases h
    | some env1 =>
      rw [e] at h
      simp [asgTs_len ts ds env1 env' h]
end
end MP
set_option autoImplicit false
set_option linter.all false
set_option maxRecDepth 10000
set_option maxHeartbeats 1000000
/-! MPn: comprehensions. -/
namespace MP
open PySem PySem.Spec PyProof.Rows L2
/-- without what is at p -/
def less (H : Hp) (p : Addr) : Hp := fun a => if a = p then none else H a
theorem less_same (H : Hp) (p : Addr) : less H p p = none := if_pos rfl
theorem less_ne {H : Hp} {p a : Addr} (h : a ≠ p) : less H p a = H a := if_neg h
theorem upd_less {H : Hp} {p : Addr} {o : HO} (h : H p = some o) : upd (less H p) p o = H := by
  funext a
  by_cases e : a = p
  · rw [e, upd_same, h]
  · rw [upd_ne e, less_ne e]
section
variable {K : PySem.W.Frag} {T : Tab} {P : Prog} {w w' : Wd} {H H' : Hp} {s : Sto}
theorem SRel.less {p : Addr} (S : SRel K T P w H s) (h1 : p ∉ w.mu) (h2 : ¬ w.fz p) : Lr w w H (less H p) ∧ SRel K T P w (less H p) s := by
  have l : Lr w w H (MP.less H p) := ⟨⟨[], by simp⟩, fun _ q => q, rfl, fun a q => less_ne fun e => h2 (e ▸ q)⟩
  refine ⟨l, S.len, fun i c a hi ha nd => ?_, S.inj, fun a q => ?_, fun a q => ?_⟩
  · obtain ⟨n, q⟩ := S.cell i c a hi ha nd
    exact ⟨n, q.mon l (less_ne fun e => h1 (e ▸ List.mem_of_getElem? ha))⟩
  · rw [less_ne fun (e : a = p) => h2 (e ▸ q)]; exact S.fz a q
  · rw [less_ne fun (e : a = p) => h1 (e ▸ q)]; exact S.all a q
theorem Le.less {p : Addr} (l : Le w w' H H') (h : H p = none) (h2 : ¬ w.fz p) : Le w w' H (less H' p) :=
  ⟨l.mu, l.fz, l.nf, l.pn, fun a q => (less_ne fun (e : a = p) => h2 (by rw [← e]; exact q)).trans (l.st a q), fun a q n => (less_ne fun (e : a = p) => q (by rw [e]; exact h)).trans (l.un a q n), fun a q => by
    rw [less_ne fun (e : a = p) => q (by rw [e]; exact h)]
    exact l.up a q⟩
theorem ERel.wipe {env : Env} {σ : L2.St} (E : ERel K T P w H env σ) : ∀ own : List Nat, ERel K T P w H (wipeE env own) (L2.wipe σ own)
  | [] => E
  | v :: vs => (ERel.wipe E vs).set0 v none
theorem SameSt.wipe {is : List Nat} {σ σ' : L2.St} (h : SameSt is σ σ') : ∀ {own : List Nat}, (∀ i ∈ is, i ∈ own) → ∀ i : Nat, (L2.wipe σ' own)[i]? = (L2.wipe σ own)[i]? := by
  have key : ∀ (own : List Nat) (τ : L2.St) (i : Nat), (L2.wipe τ own)[i]? = if i ∈ own then (if i < τ.length then some none else none) else τ[i]? := by
    intro own
    induction own with
    | nil => intro τ i; simp [L2.wipe]
    | cons v vs ih =>
      intro τ i
      simp only [L2.wipe]
      by_cases e : v = i
      · subst e
        by_cases hl : v < τ.length
        · rw [List.getElem?_set_self (by rw [L2.wipe_length]; exact hl)]; simp [hl]
        · rw [List.getElem?_eq_none (by rw [List.length_set, L2.wipe_length]; omega)]; simp [hl]
      · rw [List.getElem?_set_ne e, ih τ i]
        have : (i ∈ v :: vs) ↔ i ∈ vs := by simp [Ne.symm e]
        simp only [this]
  intro own hs i
  rw [key, key, h.1]
  split
  · rfl
  · rename_i hn
    exact h.2 i fun q => hn (hs i q)
theorem SameSt.wipe_eq {is own : List Nat} {σ σ' : L2.St} (h : SameSt is σ σ') (hs : ∀ i ∈ is, i ∈ own) : L2.wipe σ' own = L2.wipe σ own := List.ext_getElem? (h.wipe hs)
theorem wipe_wipe (σ : L2.St) (own : List Nat) : L2.wipe (L2.wipe σ own) own = L2.wipe σ own := by
  refine (SameSt.wipe_eq (is := own) ⟨L2.wipe_length σ own, fun i hi => ?_⟩ fun i h => h)
  induction own with
  | nil => rfl
  | cons v vs ih =>
    simp only [List.mem_cons, not_or] at hi
    simp only [L2.wipe]
    rw [List.getElem?_set_ne (Ne.symm hi.1)]
    exact ih hi.2
end
abbrev noW : WX := fun _ _ _ _ => False
section
variable {T : Tab} {P : Prog} {X : Cx} {W : WX} {elt tg iter : Expr} {ifs : List Expr} {scope : Scope} {own : List (Str × Nat)} {pos spos : Pos} {fi : Env → Sto → R (List D × Gd)} {fc fe : Env → Sto → R D} {t : MP.T} {m : Bool}
def stepF (own : List Nat) (t : MP.T) (fc fe : Env → Sto → R D) (env : Env) : D → Sto → R (Option D) := fun d s => opt1 (asgT t d (wipeE env own)) fun env' => (fc env' s).bind fun c s => opt1 (MP.truthy s c) fun b =>
      if b then (fe env' s).bind fun y s => .ok (some y) s else .ok none s
def compF (m : Bool) (own : List Nat) (t : MP.T) (fi : Env → Sto → R (List D × Gd)) (fc fe : Env → Sto → R D) : Env → Sto → R D := fun env s => (fi env s).bind fun p s =>
    (match compLoop (stepF own t fc fe env) p.2 p.1 s with
    | .ok ys s => if ys.length ≤ LINE then newL m ys s else .no
    | _ => .no)
/-- the tests' reading -/
abbrev tYesM (K : PySem.W.Frag) (T : Tab) (P : Prog) (fc : Env → Sto → R D) : TT := tG K T P rBool (tru fc) noW
theorem pts_nilM {X : Cx} : PTs X [] (tYesM X.K T P fun _ s => .ok (.bl true) s) := ⟨fun pins s0 σ H Q I q => pts_nil.run pins s0 σ H Q I (by
  obtain ⟨env, s, w, E, S, o⟩ := q
  exact o.here S rfl)⟩
theorem lc_out {σ : L2.St} {H : Hp} {Q : VK} (hsl : ∀ i ∈ slotsT t, i ∈ own.map (·.2)) (q : tG X.K T P (Rep X.K T P) (compF m (own.map (·.2)) t fi fc fe) W σ H Q) :
    tLc (tG X.K T P (rIt X.K T P) fi W) (fun v σ H Q => ∃ env s w d env', ERel X.K T P w H env σ ∧ SRel X.K T P w H s ∧ Rep X.K T P w H d v ∧ asgT t d env = some env' ∧ ∀ σ', ERel X.K T P w H env' σ' → SameSt (slotsT t) σ σ' → Q σ' H)
      (tYesM X.K T P fc) (tG X.K T P (Rep X.K T P) fe noW) (own.map (·.2)) σ H Q := by
  obtain ⟨env, s, w, E, S, o⟩ := q
  refine ⟨env, s, w, E, S, ?_⟩
  simp only [compF] at o
  cases hr : fi env s with
  | no => rw [hr] at o; exact o
  | ex c fs s1 => rw [hr] at o; exact o
  | ok p s1 =>
    rw [hr] at o
    simp only [MP.R.bind_ok] at o
    intro J w1 H1 l1 S1 hJ Dd hD
    cases hl : compLoop (stepF (own.map (·.2)) t fc fe env) p.2 p.1 s1 with
    | no => rw [hl] at o; exact o.elim
    | ex => rw [hl] at o; exact o.elim
    | ok ys sE =>
      rw [hl] at o
      dsimp only at o
      split at o
      case isFalse => exact o.elim
      rename_i hlen
      have E1 := E.mono l1
      have n1 := S1.out hD
      have n2 := S1.fresh hD
      refine ⟨fun i k H' => k = p.1.length - i ∧ i ≤ p.1.length ∧ ∃ w' s' ac acc rest, Le w1 w' H1 H' ∧ SRel X.K T P w' H' s' ∧ Dd ∉ w'.mu ∧ ¬ w'.fz Dd ∧ H' Dd = some (.lst acc) ∧ Reps X.K T P w' H' ac acc ∧
        compLoop (stepF (own.map (·.2)) t fc fe env) p.2 (p.1.drop i) s' = .ok rest sE ∧ ac ++ rest = ys, ⟨p.1.length, by simp, Nat.zero_le _, w1, s1, [], [], ys, (Le.refl w1 H1).aside hD n2, (S1.aside n1 n2).2, n1, n2, upd_same, .nil, by simpa using hl, rfl⟩, ?_⟩
      rintro i k H' ⟨rfl, hi, w', s', ac, acc, rest, l', S', d1, d2, hd, ra, hc, hy⟩
      by_cases hlt : i < p.1.length
      · right
        have hdrop : p.1.drop i = p.1[i] :: p.1.drop (i + 1) := List.drop_eq_getElem_cons hlt
        rw [hdrop] at hc
        simp only [compLoop] at hc
        split at hc
        case isFalse => cases hc
        rename_i hst
        obtain ⟨_, hgo⟩ := hJ w' H' s' l' S' hst
        obtain ⟨g1, g2⟩ := hgo i p.1[i] (List.getElem?_eq_getElem hlt)
        cases hstep : stepF (own.map (·.2)) t fc fe env p.1[i] s' with
        | no => rw [hstep] at hc; cases hc
        | ex => rw [hstep] at hc; cases hc
        | ok oy s2 =>
          rw [hstep] at hc
          dsimp only at hc
          cases hrest : compLoop (stepF (own.map (·.2)) t fc fe env) p.2 (p.1.drop (i + 1)) s2 with
          | no => rw [hrest] at hc; cases hc
          | ex => rw [hrest] at hc; cases hc
          | ok r2 s3 =>
            rw [hrest] at hc
            dsimp only at hc
            obtain ⟨hc1, hc2⟩ : consO oy r2 = rest ∧ s3 = sE := by
              injection hc with h1 h2; exact ⟨h1, h2⟩
            subst hc2
            refine ⟨g1, fun H2 => i + 1 ≤ p.1.length ∧ ∃ w' s' ac acc rest, Le w1 w' H1 H2 ∧ SRel X.K T P w' H2 s' ∧ Dd ∉ w'.mu ∧ ¬ w'.fz Dd ∧ H2 Dd = some (.lst acc) ∧ Reps X.K T P w' H2 ac acc ∧
              compLoop (stepF (own.map (·.2)) t fc fe env) p.2 (p.1.drop (i + 1)) s' = .ok rest s3 ∧ ac ++ rest = ys, fun H2 q => ⟨p.1.length - (i + 1), by omega, rfl, q⟩, fun x H2 y => ?_⟩
            obtain ⟨w2, l2, S2, r2'⟩ := g2 x H2 y
            obtain ⟨d3, d4, d5⟩ := l2.apart (by rw [hd]; exact fun z => nomatch z) d1 d2
            unfold stepF at hstep
            cases ha : asgT t p.1[i] (wipeE env (own.map (·.2))) with
            | none => rw [ha] at hstep; cases hstep
            | some env' =>
              rw [ha] at hstep
              simp only [opt1_some] at hstep
              refine ⟨wipeE env (own.map (·.2)), s', w2, p.1[i], env', ((E1.mono l').mono l2).wipe _, S2, r2', ha, fun σ2 E2 q2 => ⟨?_, env', s', w2, E2, S2, ?_⟩⟩
              · rw [q2.wipe_eq hsl, wipe_wipe]
              cases hf : fc env' s' with
              | no => rw [hf] at hstep; cases hstep
              | ex => rw [hf] at hstep; cases hstep
              | ok cv s4 =>
                rw [hf] at hstep
                simp only [MP.R.bind_ok] at hstep
                cases ht : MP.truthy s4 cv with
                | none => rw [ht] at hstep; cases hstep
                | some b =>
                  rw [ht] at hstep
                  simp only [opt1_some] at hstep
                  simp only [tru, hf, MP.R.bind_ok, ht, R.opt_some]
                  intro b' w3 H3 l3 S3 eb
                  subst eb
                  obtain ⟨d6, d7, d8⟩ := l3.apart (by rw [d5, hd]; exact fun z => nomatch z) d3 d4
                  cases b with
                  | false =>
                    rw [if_neg Bool.false_ne_true]
                    simp only [Bool.false_eq_true, if_false] at hstep
                    injection hstep with h1 h2
                    subst h1 h2
                    subst hc1
                    refine ⟨hlt, w3, s4, ac, acc, r2, (l'.trans l2).trans l3, S3, d6, d7, by rw [d8, d5, hd], (ra.mono l2).mono l3, hrest, hy⟩
                  | true =>
                    rw [if_pos rfl]
                    simp only [if_true] at hstep
                    refine ⟨env', s4, w3, E2.mono l3, S3, ?_⟩
                    cases hfe : fe env' s4 with
                    | no => rw [hfe] at hstep; cases hstep
                    | ex => rw [hfe] at hstep; cases hstep
                    | ok yd s5 =>
                      rw [hfe] at hstep
                      simp only [MP.R.bind_ok] at hstep
                      injection hstep with h1 h2
                      subst h1 h2
                      subst hc1
                      intro yv w4 H4 l4 S4 r4
                      obtain ⟨d9, d10, d11⟩ := l4.apart (by rw [d8, d5, hd]; exact fun z => nomatch z) d6 d7
                      have hacc : ac.length = acc.length := ra.length
                      refine ⟨acc, by rw [d11, d8, d5, hd], ?_, hlt, w4, s5, ac ++ [yd], acc ++ [yv], r2, ((((l'.trans l2).trans l3).trans l4).aside hD n2), (S4.aside d9 d10).2, d9, d10, upd_same,
                        ((((ra.mono l2).mono l3).mono l4).append (.cons r4 .nil)).mon (S4.aside d9 d10).1, hrest, by rw [← hy]; simp [consO]⟩
                      rw [← line_eq]
                      have : ys.length = ac.length + (r2.length + 1) := by rw [← hy]; simp [consO]
                      omega
      · left
        have e : i = p.1.length := by omega
        subst e
        rw [List.drop_length] at hc
        simp only [compLoop] at hc
        split at hc
        case isFalse => cases hc
        rename_i hst
        injection hc with h1 h2
        subst h1 h2
        rw [List.append_nil] at hy
        subst hy
        refine ⟨(hJ w' H' s' l' S' hst).1, ?_⟩
        obtain ⟨q1, q2⟩ := S'.less d1 d2
        have := out_newL (o.later ((l1.trans (l'.less hD n2)))) q2 (ra.mon q1) Dd (less_same H' Dd)
        rwa [upd_less hd] at this
/-- [elt for t in iter if c] -/
theorem me_lc (hc : X.calm = true) (hN : X.N.Nodup) (hi : MI X.K T P X W tg iter fi) (ok : BlkOk X.N X.env.scope scope own) (hsl : ∀ i ∈ slotsT t, i ∈ own.map (·.2))
    (hg : ∀ (s : Shared) (H : Hp) (C : Addr) (cl : List (Str × Addr)) (fp : List Addr), MG X.K T P (X.blk s H scope (compEnvC scope cl C X.env) fp) tg t)
    (ht : ∀ (s : Shared) (H : Hp) (C : Addr) (cl : List (Str × Addr)) (fp : List Addr), PTs (X.blk s H scope (compEnvC scope cl C X.env) fp) ifs (tYesM X.K T P fc))
    (he : ∀ (s : Shared) (H : Hp) (C : Addr) (cl : List (Str × Addr)) (fp : List Addr), ME X.K T P (X.blk s H scope (compEnvC scope cl C X.env) fp) noW elt fe) (hs : ∀ x, foldedSetIterable iter X.env x = pure x) :
    ME X.K T P X W (.ListComp elt [⟨tg, iter, ifs, 0⟩] scope pos) (compF m (own.map (·.2)) t fi fc fe) :=
  (pe_lc hc hN hi ok hg ht he hs).imp fun σ H Q q => lc_out hsl q
end
end MP
set_option autoImplicit false
set_option linter.all false
set_option maxRecDepth 10000
set_option maxHeartbeats 1000000
/-! MPo: statements. -/
namespace MP
open PySem PySem.Spec PyProof.Rows L2
section
variable (K : PySem.W.Frag) (T : Tab) (P : Prog)
def OutS (w : Wd) (H : Hp) (W : WX) (D : Ends) (r : SR) : Prop := match r with
  | .nx env s => ∀ σ' w' H', Le w w' H H' → SRel K T P w' H' s → ERel K T P w' H' env σ' → D.nx σ' H'
  | .brk env s => ∀ σ' w' H', Le w w' H H' → SRel K T P w' H' s → ERel K T P w' H' env σ' → D.bk σ' H'
  | .cnt env s => ∀ σ' w' H', Le w w' H H' → SRel K T P w' H' s → ERel K T P w' H' env σ' → D.ct σ' H'
  | .ret d s => ∀ v w' H', Le w w' H H' → SRel K T P w' H' s → Rep K T P w' H' d v → D.rt v H'
  | .ex c fs env s => ∀ cls dd σ' w' H', Le w w' H H' → SRel K T P w' H' s → ERel K T P w' H' env σ' → XR K T P w' H' c fs cls dd → W cls dd σ' H'
  | .no => False
def tS (f : Env → Sto → SR) (W : WX) : TS := fun D σ H => ∃ env s w, ERel K T P w H env σ ∧ SRel K T P w H s ∧ OutS K T P w H W D (f env s)
abbrev MS (X : Cx) (W : WX) (st : Stmt) (f : Env → Sto → SR) : Prop := PS X st (tS K T P f W)
abbrev MB (X : Cx) (W : WX) (sts : List Stmt) (f : Env → Sto → SR) : Prop := PSs X sts (tS K T P f W)
end
section
variable {K : PySem.W.Frag} {T : Tab} {P : Prog} {w w' : Wd} {H H' : Hp} {s : Sto} {σ : L2.St} {W : WX} {D : Ends} {env : Env}
theorem OutS.later {r : SR} (l : Le w w' H H') (h : OutS K T P w H W D r) : OutS K T P w' H' W D r := by
  cases r with
  | nx env s => exact fun σ2 w2 H2 l2 => h σ2 w2 H2 (l.trans l2)
  | brk env s => exact fun σ2 w2 H2 l2 => h σ2 w2 H2 (l.trans l2)
  | cnt env s => exact fun σ2 w2 H2 l2 => h σ2 w2 H2 (l.trans l2)
  | ret d s => exact fun σ2 w2 H2 l2 => h σ2 w2 H2 (l.trans l2)
  | ex c fs env s => exact fun a b σ2 w2 H2 l2 => h a b σ2 w2 H2 (l.trans l2)
  | no => exact h
/-- an expression within a statement -/
theorem OutS.sr {α β : Type} {rel : Wd → Hp → α → β → Prop} {r : R α} {k : α → Sto → SR} (E : ERel K T P w H env σ) (h : OutS K T P w H W D (r.sr env k)) :
    Out K T P rel w H σ W (fun v H' => ∃ w' d s', Le w w' H H' ∧ SRel K T P w' H' s' ∧ rel w' H' d v ∧ OutS K T P w' H' W D (k d s')) r := by
  cases r with
  | ok d s' => exact fun v w2 H2 l2 S2 r2 => ⟨w2, d, s', l2, S2, r2, h.later l2⟩
  | ex c fs s' => exact fun cls dd w2 H2 l2 S2 x => h cls dd σ w2 H2 l2 S2 (E.mono l2) x
  | no => exact h
theorem OutS.go {σ' : L2.St} {env' : Env} (h : OutS K T P w H W D (.nx env' s)) (S : SRel K T P w H s) (E : ERel K T P w H env' σ') : D.nx σ' H := h σ' w H (Le.refl w H) S E
end
section
variable {T : Tab} {P : Prog} {X : Cx} {W : WX} {st : Stmt} {sts ss : List Stmt} {tg a b c e : Expr} {f g : Env → Sto → SR} {fa fb fc fe : Env → Sto → R D} {fl : Env → Sto → R (List D)} {fi : Env → Sto → R (List D × Gd)} {pos p pos' tpos : Pos} {t : MP.T}
theorem mb_nil : MB X.K T P X W [] (fun env s => .nx env s) := pss_nil.imp fun D σ H q => by
  obtain ⟨env, s, w, E, S, o⟩ := q
  dsimp only at o
  exact o.go S E
theorem mb_cons (h1 : MS X.K T P X W st f) (h2 : MB X.K T P X W ss g) : MB X.K T P X W (st :: ss) (fun env s => (f env s).seq g) := (pss_cons h1 h2).imp fun D σ H q => by
  obtain ⟨env, s, w, E, S, o⟩ := q
  dsimp only at o
  refine ⟨env, s, w, E, S, ?_⟩
  cases r : f env s with
  | nx env1 s1 =>
    rw [r] at o
    exact fun σ2 w2 H2 l2 S2 E2 => ⟨env1, s1, w2, E2, S2, OutS.later l2 o⟩
  | _ => rw [r] at o; exact o
/-- a step that is none of the program's -/
theorem mb_ghost (h0 : ∀ env s env' s' w H σ, f env s = .nx env' s' → ERel X.K T P w H env σ → SRel X.K T P w H s → ∃ w', Le w w' H H ∧ ERel X.K T P w' H env' σ ∧ SRel X.K T P w' H s') (hn : ∀ env s, (∃ env' s', f env s = .nx env' s') ∨ f env s = .no) (h2 : MB X.K T P X W ss g) :
    MB X.K T P X W ss (fun env s => (f env s).seq g) := h2.imp fun D σ H q => by
  obtain ⟨env, s, w, E, S, o⟩ := q
  dsimp only at o
  rcases hn env s with ⟨env1, s1, r⟩ | r
  · rw [r] at o
    obtain ⟨w1, l1, E1, S1⟩ := h0 _ _ _ _ _ _ _ r E S
    exact ⟨env1, s1, w1, E1, S1, OutS.later l1 o⟩
  · rw [r] at o
    exact o.elim
theorem ghost_fgt {K : PySem.W.Frag} {w : Wd} {H : Hp} {σ : L2.St} : ∀ (is : List Nat) {env : Env}, ERel K T P w H env σ → ERel K T P w H (forgetE env is) σ
  | [], _, E => E
  | i :: is, env, E => ghost_fgt is (E.wipe1 i)
theorem mb_fgt (is : List Nat) (h2 : MB X.K T P X W ss g) : MB X.K T P X W ss (fun env s => (SR.nx (forgetE env is) s).seq g) :=
  mb_ghost (f := fun env s => .nx (forgetE env is) s) (fun env s env' s' w H σ h E S => by cases h; exact ⟨w, Le.refl _ _, ghost_fgt is E, S⟩) (fun env s => .inl ⟨_, _, rfl⟩) h2
def frzF (i : Nat) : Env → Sto → SR := fun env s => match getE env i with
    | some (.ref p) => match s[p]? with
      | some (.lst xs) => .nx (setE env i (some (.lst xs))) (s.set p .dead)
      | _ => .no
    | _ => .no
theorem mb_frz (i : Nat) (h2 : MB X.K T P X W ss g) : MB X.K T P X W ss (fun env s => (frzF i env s).seq g) := by
  refine mb_ghost (f := frzF i) (fun env s env' s' w H σ h E S => ?_) (fun env s => ?_) h2
  · unfold frzF at h
    split at h
    · rename_i p hp
      split at h
      · rename_i xs hx
        cases h
        obtain ⟨v, h1, h3⟩ := E.2 _ _ hp
        cases h3 with
        | ref hh =>
          obtain ⟨l, S', r'⟩ := S.kill hx hh
          refine ⟨_, l, ?_, S'⟩
          have E' := E.mono l
          refine ⟨by rw [setE_len]; exact E.1, fun j d hj => ?_⟩
          rcases getE_set _ _ _ _ _ hj with ⟨rfl, h2⟩ | ⟨_, h2⟩
          · cases h2
            exact ⟨_, h1, r'⟩
          · exact E'.2 j d h2
      · cases h
    · cases h
  · unfold frzF
    split
    · split
      · exact .inl ⟨_, _, rfl⟩
      · exact .inr rfl
    · exact .inr rfl
theorem ms_bad : MS X.K T P X W st (fun _ _ => .no) := ps_never.imp fun D σ H q => by
  obtain ⟨env, s, w, E, S, o⟩ := q
  dsimp only at o
  exact o
theorem mb_bad : MB X.K T P X W sts (fun _ _ => .no) := pss_never.imp fun D σ H q => by
  obtain ⟨env, s, w, E, S, o⟩ := q
  dsimp only at o
  exact o
theorem ms_pass : MS X.K T P X W (.Pass pos) (fun env s => .nx env s) := ps_pass.imp fun D σ H q => by
  obtain ⟨env, s, w, E, S, o⟩ := q
  dsimp only at o
  exact o.go S E
theorem ms_brk : MS X.K T P X W (.Break pos) (fun env s => .brk env s) := ps_break.imp fun D σ H q => by
  obtain ⟨env, s, w, E, S, o⟩ := q
  dsimp only at o
  exact o σ w H (Le.refl w H) S E
theorem ms_cnt : MS X.K T P X W (.Continue pos) (fun env s => .cnt env s) := ps_continue.imp fun D σ H q => by
  obtain ⟨env, s, w, E, S, o⟩ := q
  dsimp only at o
  exact o σ w H (Le.refl w H) S E
theorem ms_retN : MS X.K T P X W (.Return none pos) (fun _ s => .ret .non s) := ps_retN.imp fun D σ H q => by
  obtain ⟨env, s, w, E, S, o⟩ := q
  dsimp only at o
  exact o _ w H (Le.refl w H) S .non
theorem ms_ret (he : ME X.K T P X W e fe) : MS X.K T P X W (.Return (some e) pos) (fun env s => (fe env s).sr env fun d s => .ret d s) := (ps_ret he).imp fun D σ H q => by
  obtain ⟨env, s, w, E, S, o⟩ := q
  dsimp only at o
  refine ⟨env, s, w, E, S, (OutS.sr E o).mono fun v w1 H1 _ q => ?_⟩
  obtain ⟨w1, d, s1, l1, S1, r1, o1⟩ := q
  exact o1 v w1 H1 (Le.refl _ _) S1 r1
theorem ms_expr (he : ME X.K T P X W e fe) (hs : swapsWith e none pos.line X.env = pure false) : MS X.K T P X W (.Expr e pos) (fun env s => (fe env s).sr env fun _ s => .nx env s) := (ps_expr he hs).imp fun D σ H q => by
  obtain ⟨env, s, w, E, S, o⟩ := q
  dsimp only at o
  refine ⟨env, s, w, E, S, (OutS.sr E o).mono fun v w1 H1 _ q => ?_⟩
  obtain ⟨w1, d, s1, l1, S1, r1, o1⟩ := q
  exact o1.go S1 (E.mono l1)
theorem ms_asg (he : ME X.K T P X W e fe) (hg : MG X.K T P X tg t) (hs : swapsWithSole [tg] e pos.line X.env = pure false) (hw : swappedStores [tg] e X.env = pure none) (h1 : (assignEach [tg] X.env).map (·.2) = [assign tg X.env]) :
    MS X.K T P X W (.Assign [tg] e pos) (fun env s => (fe env s).sr env fun d s => opt2 (asgT t d env) fun env => .nx env s) := (ps_asg he hg hs hw h1).imp fun D σ H q => by
  obtain ⟨env, s, w, E, S, o⟩ := q
  dsimp only at o
  refine ⟨env, s, w, E, S, (OutS.sr E o).mono fun v w1 H1 _ q => ?_⟩
  obtain ⟨w1, d, s1, l1, S1, r1, o1⟩ := q
  cases ha : asgT t d env with
  | none => rw [ha] at o1; exact o1.elim
  | some env' =>
    rw [ha] at o1
    exact ⟨env, s1, w1, d, env', E.mono l1, S1, r1, ha, fun σ' E' _ => o1.go S1 E'⟩
/-- x = [elt for ..] -/
theorem ms_setLc {i : Nat} {y : Str} {py : Pos} {elt iter : Expr} {ifs : List Expr} {scope : Scope} {own : List (Str × Nat)} {m : Bool} (hc : X.calm = true) (hN : X.N.Nodup) (hy : X.N[i]? = some y) (hyl : X.env.scope.names.lookup y = some .local)
    (hsw : swapsWith (.ListComp elt [⟨tg, iter, ifs, 0⟩] scope pos) (some (.Name y py)) tpos.line X.env = pure true) (hi : MI X.K T P X W tg iter fi) (ok : BlkOk X.N X.env.scope scope own) (hsl : ∀ i ∈ slotsT t, i ∈ own.map (·.2))
    (hg : ∀ (s : Shared) (H : Hp) (C : Addr) (cl : List (Str × Addr)) (fp : List Addr), MG X.K T P (X.blk s H scope (compEnvC scope cl C X.env) fp) tg t)
    (ht : ∀ (s : Shared) (H : Hp) (C : Addr) (cl : List (Str × Addr)) (fp : List Addr), PTs (X.blk s H scope (compEnvC scope cl C X.env) fp) ifs (tYesM X.K T P fc))
    (he : ∀ (s : Shared) (H : Hp) (C : Addr) (cl : List (Str × Addr)) (fp : List Addr), ME X.K T P (X.blk s H scope (compEnvC scope cl C X.env) fp) noW elt fe) (hs : ∀ x, foldedSetIterable iter X.env x = pure x) :
    MS X.K T P X W (.Assign [.Name y py] (.ListComp elt [⟨tg, iter, ifs, 0⟩] scope pos) tpos) (fun env s => (compF m (own.map (·.2)) t fi fc fe env s).sr env fun d s => opt2 (asgT (.name i) d env) fun env => .nx env s) :=
  (ps_setLc hc hN hy hyl hsw hi ok hg ht he hs).imp fun D σ H q => by
  obtain ⟨env, s, w, E, S, o⟩ := q
  dsimp only at o
  refine lc_out hsl ⟨env, s, w, E, S, (OutS.sr E o).mono fun v w1 H1 _ q => ?_⟩
  obtain ⟨w1, d, s1, l1, S1, r1, o1⟩ := q
  exact o1.go S1 ((E.mono l1).set i r1)
theorem ms_if (hc : MT X.K T P X W c (tru fc)) (ha : MB X.K T P X W sts f) (hb : MB X.K T P X W ss g) : MS X.K T P X W (.If c sts ss pos) (fun env s => (fc env s).sr env fun x s => opt2 (MP.truthy s x) fun r => if r then f env s else g env s) := (ps_if hc ha hb).imp fun D σ H q => by
  obtain ⟨env, s, w, E, S, o⟩ := q
  dsimp only at o
  refine ⟨env, s, w, E, S, ?_⟩
  simp only [tru]
  cases r : fc env s with
  | no => rw [r] at o; exact o
  | ex c fs s1 => rw [r] at o; exact fun cls dd w2 H2 l2 S2 x => o cls dd σ w2 H2 l2 S2 (E.mono l2) x
  | ok d s1 =>
    rw [r] at o
    simp only [R.sr_ok, MP.R.bind_ok] at o ⊢
    cases z : MP.truthy s1 d with
    | none => rw [z] at o; exact o.elim
    | some k =>
      rw [z] at o
      intro v w1 H1 l1 S1 r1
      cases r1
      cases k with
      | true => rw [if_pos rfl]; exact ⟨env, s1, w1, E.mono l1, S1, OutS.later l1 o⟩
      | false => rw [if_neg Bool.false_ne_true]; exact ⟨env, s1, w1, E.mono l1, S1, OutS.later l1 o⟩
/-! ### loops -/
theorem ms_for (hp : PassesOwn (model X.prog X.w) X.A X.env X.xe) (hc : X.calm = true) (hi : MI X.K T P X W tg a fi) (hg : MG X.K T P X tg t) (hb : MB X.K T P X W sts f) (hs : ∀ x, foldedSetIterable a X.env x = pure x) :
    MS X.K T P X W (.For tg a sts [] pos) (fun env s => (fi env s).sr env fun p s => forLoop (fun d env s => opt2 (asgT t d env) fun env => f env s) p.2 p.1 env s) := (ps_for hp hc hi hg hb hs).imp fun D σ H q => by
  obtain ⟨env, s, w, E, S, o⟩ := q
  dsimp only at o
  refine ⟨env, s, w, E, S, (OutS.sr E o).mono fun J w1' H1 l1' q => ?_⟩
  obtain ⟨w1, pp, s1, l1, S1, hJ, o1⟩ := q
  obtain ⟨ds, gd⟩ := pp
  refine ⟨fun i m σ' H' => m = ds.length - i ∧ i ≤ ds.length ∧ ∃ w' s' env', Le w1 w' H1 H' ∧ SRel X.K T P w' H' s' ∧ ERel X.K T P w' H' env' σ' ∧ OutS X.K T P w' H' W D (forLoop (fun d env s => opt2 (asgT t d env) fun env => f env s) gd (ds.drop i) env' s'),
    ⟨ds.length, by simp, Nat.zero_le _, w1, s1, env, Le.refl _ _, S1, E.mono l1, o1⟩, ?_⟩
  rintro i m σ' H' ⟨rfl, hi, w', s', env', l', S', E', o'⟩
  by_cases hlt : i < ds.length
  · right
    rw [List.drop_eq_getElem_cons hlt] at o'
    simp only [forLoop] at o'
    split at o'
    case isFalse => exact o'.elim
    rename_i hst
    obtain ⟨_, hgo⟩ := hJ w' H' s' l' S' hst
    obtain ⟨g1, g2⟩ := hgo i ds[i] (List.getElem?_eq_getElem hlt)
    refine ⟨g1, fun σ2 H2 => i + 1 ≤ ds.length ∧ ∃ w2 s2 env2, Le w1 w2 H1 H2 ∧ SRel X.K T P w2 H2 s2 ∧ ERel X.K T P w2 H2 env2 σ2 ∧ OutS X.K T P w2 H2 W D (forLoop (fun d env s => opt2 (asgT t d env) fun env => f env s) gd (ds.drop (i + 1)) env2 s2),
      fun σ2 H2 q => ⟨ds.length - (i + 1), by omega, rfl, q⟩, fun x H2 y => ?_⟩
    obtain ⟨w2, l2, S2, r2⟩ := g2 x H2 y
    cases ha : asgT t ds[i] env' with
    | none => rw [ha] at o'; exact o'.elim
    | some env2 =>
      rw [ha] at o'
      simp only [opt2_some] at o'
      refine ⟨env', s', w2, ds[i], env2, E'.mono l2, S2, r2, ha, fun σ2 E2 _ => ⟨env2, s', w2, E2, S2, ?_⟩⟩
      have o2 := o'.later l2
      cases hf : f env2 s' with
      | nx env3 s3 =>
        rw [hf] at o2
        exact fun σ3 w3 H3 l3 S3 E3 => ⟨hlt, w3, s3, env3, (l'.trans l2).trans l3, S3, E3, OutS.later l3 o2⟩
      | cnt env3 s3 =>
        rw [hf] at o2
        exact fun σ3 w3 H3 l3 S3 E3 => ⟨hlt, w3, s3, env3, (l'.trans l2).trans l3, S3, E3, OutS.later l3 o2⟩
      | brk env3 s3 => rw [hf] at o2; exact o2
      | ret d s3 => rw [hf] at o2; exact o2
      | ex c fs env3 s3 => rw [hf] at o2; exact o2
      | no => rw [hf] at o2; exact o2
  · left
    have e : i = ds.length := by omega
    subst e
    rw [List.drop_length] at o'
    simp only [forLoop] at o'
    split at o'
    case isFalse => exact o'.elim
    rename_i hst
    exact ⟨(hJ w' H' s' l' S' hst).1, o'.go S' E'⟩
theorem ms_while (n : Nat) (hp : PassesOwn (model X.prog X.w) X.A X.env X.xe) (hc : MT X.K T P X W c (tru fc)) (hb : MB X.K T P X W sts f) : MS X.K T P X W (.While c sts [] pos) (whileLoop (tru fc) f n) := (ps_while hp hc hb).imp fun D σ H q => by
  obtain ⟨env, s, w, E, S, o⟩ := q
  refine ⟨fun m σ' H' => ∃ w' s' env', SRel X.K T P w' H' s' ∧ ERel X.K T P w' H' env' σ' ∧ OutS X.K T P w' H' W D (whileLoop (tru fc) f m env' s'), ⟨n, w, s, env, S, E, o⟩, ?_⟩
  rintro m σ' H' ⟨w', s', env', S', E', o'⟩
  cases m with
  | zero => exact o'.elim
  | succ m =>
    simp only [whileLoop] at o'
    refine ⟨env', s', w', E', S', (OutS.sr E' o').mono fun b w1' H1 l1' q => ?_⟩
    obtain ⟨w1, b', s1, l1, S1, eb, o1⟩ := q
    have eb : b' = b := eb
    subst eb
    cases b' with
    | true =>
      rw [if_pos rfl] at o1 ⊢
      refine ⟨fun σ2 H2 => ∃ w2 s2 env2, SRel X.K T P w2 H2 s2 ∧ ERel X.K T P w2 H2 env2 σ2 ∧ OutS X.K T P w2 H2 W D (whileLoop (tru fc) f m env2 s2), fun σ2 H2 q => ⟨m, Nat.lt_succ_self m, q⟩, env', s1, w1, E'.mono l1, S1, ?_⟩
      cases hf : f env' s1 with
      | nx env3 s3 =>
        rw [hf] at o1
        exact fun σ3 w3 H3 l3 S3 E3 => ⟨w3, s3, env3, S3, E3, OutS.later l3 o1⟩
      | cnt env3 s3 =>
        rw [hf] at o1
        exact fun σ3 w3 H3 l3 S3 E3 => ⟨w3, s3, env3, S3, E3, OutS.later l3 o1⟩
      | brk env3 s3 => rw [hf] at o1; exact o1
      | ret d s3 => rw [hf] at o1; exact o1
      | ex c fs env3 s3 => rw [hf] at o1; exact o1
      | no => rw [hf] at o1; exact o1
    | false =>
      rw [if_neg Bool.false_ne_true] at o1 ⊢
      exact o1.go S1 (E'.mono l1)
end
end MP
set_option autoImplicit false
set_option linter.all false
set_option maxRecDepth 10000
set_option maxHeartbeats 1000000
/-! MPp: what a call lets go; calls, instances made. -/
namespace MP
open PySem PySem.Spec PyProof.Rows L2
mutual
def D.under (n : Nat) : D → Bool
  | .ref i => decide (i < n)
  | .tup xs => D.unders n xs
  | .lst xs => D.unders n xs
  | .rcd _ xs => D.unders n xs
  | .exc _ xs => D.unders n xs
  | _ => true
def D.unders (n : Nat) : List D → Bool
  | [] => true
  | x :: xs => D.under n x && D.unders n xs
end
mutual
theorem D.free_under (n : Nat) : ∀ d : D, d.free = true → d.under n = true
  | .ref i, h => by simp [D.free] at h
  | .tup xs, h => by simp only [D.free] at h; simp only [D.under]; exact D.frees_under n xs h
  | .lst xs, h => by simp only [D.free] at h; simp only [D.under]; exact D.frees_under n xs h
  | .rcd _ xs, h => by simp only [D.free] at h; simp only [D.under]; exact D.frees_under n xs h
  | .exc _ xs, h => by simp [D.free] at h
  | .non, _ => by simp [D.under]
  | .bl _, _ => by simp [D.under]
  | .int _, _ => by simp [D.under]
  | .str _, _ => by simp [D.under]
  | .scr _, _ => by simp [D.under]
theorem D.frees_under (n : Nat) : ∀ ds : List D, D.frees ds = true → D.unders n ds = true
  | [], _ => by simp [D.unders]
  | x :: xs, h => by
    simp only [D.frees, Bool.and_eq_true] at h
    simp only [D.unders, Bool.and_eq_true]
    exact ⟨D.free_under n x h.1, D.frees_under n xs h.2⟩
end
/-- the world with the first n cells alone, more that stands for good -/
def Wd.cut (w : Wd) (n : Nat) (q : Addr → Prop) : Wd := { w with mu := w.mu.take n, fz := fun a => w.fz a ∨ q a }
section
variable {K : PySem.W.Frag} {T : Tab} {P : Prog} {w w' : Wd} {H H' : Hp} {s s' : Sto} {n : Nat} {q : Addr → Prop}
mutual
theorem Rep.under : ∀ {d : D} {v : V}, Rep K T P w H d v → d.under w.mu.length = true
  | _, _, .non => by simp [D.under]
  | _, _, .bl b => by simp [D.under]
  | _, _, .int i => by simp [D.under]
  | _, _, .str x => by simp [D.under]
  | _, _, .tup f h r => by simp only [D.under]; exact Reps.under r
  | _, _, .lst f h r => by simp only [D.under]; exact Reps.under r
  | _, _, .scr q => by simp [D.under]
  | _, _, .rcd f hc hx hl h r => by simp only [D.under]; exact Reps.under r
  | _, _, .ref h => by simp only [D.under, decide_eq_true_eq]; exact (List.getElem?_eq_some_iff.mp h).1
  | _, _, .exc0 h hc hd => by simp [D.under, D.unders]
  | _, _, .exc1 h hc hd fd hk hf hx r => by simp only [D.under, D.unders, Bool.and_true]; exact Rep.under r
theorem Reps.under : ∀ {ds : List D} {vs : List V}, Reps K T P w H ds vs → D.unders w.mu.length ds = true
  | _, _, .nil => by simp [D.unders]
  | _, _, .cons h t => by simp only [D.unders, Bool.and_eq_true]; exact ⟨Rep.under h, Reps.under t⟩
end
mutual
theorem Rep.cut : ∀ {d : D} {v : V}, Rep K T P w H d v → d.under n = true → Rep K T P (w.cut n q) H d v
  | _, _, .non, _ => .non
  | _, _, .bl b, _ => .bl b
  | _, _, .int i, _ => .int i
  | _, _, .str x, _ => .str x
  | _, _, .tup f h r, b => .tup (.inl f) h (Reps.cut' r (by simpa only [D.under] using b))
  | _, _, .lst f h r, b => .lst (.inl f) h (Reps.cut' r (by simpa only [D.under] using b))
  | _, _, .scr q, _ => .scr (q.elim (fun z => .inl ⟨.inl z.1, z.2⟩) .inr)
  | _, _, .rcd f hc hx hl h r, b => .rcd (.inl f) hc hx hl h (Reps.cut' r (by simpa only [D.under] using b))
  | _, _, .ref h, b => by
    simp only [D.under, decide_eq_true_eq] at b
    refine .ref ?_
    show (w.mu.take n)[_]? = _
    rw [List.getElem?_take, if_pos b]
    exact h
  | _, _, .exc0 h hc hd, _ => .exc0 h hc hd
  | _, _, .exc1 h hc hd fd hk hf hx r, b => .exc1 h hc hd (.inl fd) hk hf hx (Rep.cut r (by simpa only [D.under, D.unders, Bool.and_true] using b))
theorem Reps.cut' : ∀ {ds : List D} {vs : List V}, Reps K T P w H ds vs → D.unders n ds = true → Reps K T P (w.cut n q) H ds vs
  | _, _, .nil, _ => .nil
  | _, _, .cons h t, b => by
    simp only [D.unders, Bool.and_eq_true] at b
    exact .cons (Rep.cut h b.1) (Reps.cut' t b.2)
end
def Cell.under (n : Nat) : Cell → Bool
  | .lst xs => D.unders n xs
  | .dct kvs => kvs.all fun p => p.2.under n
  | .ins _ fs => fs.all fun p => p.2.under n
  | .dead => true
theorem KvR.under : ∀ {ds : List (D × D)} {vs : List (Key × V)}, KvR K T P w H ds vs → (ds.all fun p => p.2.under w.mu.length) = true
  | _, _, .nil => rfl
  | _, _, .cons hk h t => by simp only [List.all_cons, Bool.and_eq_true]; exact ⟨h.under, KvR.under t⟩
theorem FsR.under : ∀ {ds : List (Nat × D)} {vs : List (Str × V)}, FsR K T P w H ds vs → (ds.all fun p => p.2.under w.mu.length) = true
  | _, _, .nil => rfl
  | _, _, .cons h t => by simp only [List.all_cons, Bool.and_eq_true]; exact ⟨h.under, FsR.under t⟩
theorem KvR.cut : ∀ {ds : List (D × D)} {vs : List (Key × V)}, KvR K T P w H ds vs → (ds.all fun p => p.2.under n) = true → KvR K T P (w.cut n q) H ds vs
  | _, _, .nil, _ => .nil
  | _, _, .cons hk h t, b => by
    simp only [List.all_cons, Bool.and_eq_true] at b
    exact .cons hk (h.cut b.1) (KvR.cut t b.2)
theorem FsR.cut : ∀ {ds : List (Nat × D)} {vs : List (Str × V)}, FsR K T P w H ds vs → (ds.all fun p => p.2.under n) = true → FsR K T P (w.cut n q) H ds vs
  | _, _, .nil, _ => .nil
  | _, _, .cons h t, b => by
    simp only [List.all_cons, Bool.and_eq_true] at b
    exact .cons (h.cut b.1) (FsR.cut t b.2)
theorem CellR.under {a : Addr} {c : Cell} (h : CellR K T P w H a c) : c.under w.mu.length = true := by
  cases c with
  | lst xs => obtain ⟨vs, _, h2⟩ := h; exact h2.under
  | dct xs => obtain ⟨vs, _, h2⟩ := h; exact h2.under
  | ins c xs => obtain ⟨_, vs, _, _, h2, _⟩ := h; exact h2.under
  | dead => rfl
theorem CellR.cut {a : Addr} {c : Cell} (h : CellR K T P w H a c) (b : c.under n = true) : CellR K T P (w.cut n q) H a c := by
  cases c with
  | lst xs => obtain ⟨vs, h1, h2⟩ := h; exact ⟨vs, h1, h2.cut' b⟩
  | dct xs => obtain ⟨vs, h1, h2⟩ := h; exact ⟨vs, h1, h2.cut b⟩
  | ins c xs => obtain ⟨dx, vs, k, h1, h2, h3⟩ := h; exact ⟨dx, vs, k, h1, h2.cut b, h3⟩
  | dead => trivial
theorem Cell.free_under {c : Cell} (n : Nat) (h : c.free = true) : c.under n = true := by
  cases c with
  | lst xs => exact D.frees_under n xs h
  | dct kvs =>
    simp only [Cell.free, List.all_eq_true] at h
    simp only [Cell.under, List.all_eq_true]
    intro p hp
    have := h p hp
    rw [Bool.and_eq_true] at this
    exact D.free_under n _ this.2
  | ins c fs =>
    have h : D.frees (fs.map (·.2)) = true := h
    show (fs.all fun p => p.2.under n) = true
    induction fs with
    | nil => rfl
    | cons p r ih =>
      simp only [List.map_cons, D.frees, Bool.and_eq_true] at h
      simp only [List.all_cons, Bool.and_eq_true]
      exact ⟨D.free_under n _ h.1, ih h.2 h.2⟩
  | dead => rfl
/-- what holds no cell behind n -/
theorem gc_under (S : SRel K T P w H s) (g : gcOk s s' = true) {i : Nat} {c : Cell} (hi : i < s.length) (h : s'[i]? = some c) : c.under s.length = true := by
  unfold gcOk at g
  simp only [Bool.and_eq_true, List.all_eq_true, List.mem_range, Bool.or_eq_true, decide_eq_true_eq] at g
  rcases g.2 i hi with e | e
  · rw [e] at h
    obtain ⟨a, ha⟩ := S.addr h
    by_cases hd : c = .dead
    · subst hd; rfl
    · have := (S.cell i c a h ha hd).2.under
      rwa [S.len] at this
  · rw [h] at e
    exact Cell.free_under _ e
theorem gc_len (g : gcOk s s' = true) : s.length ≤ s'.length := by
  unfold gcOk at g
  simp only [Bool.and_eq_true, decide_eq_true_eq] at g
  exact g.1
/-- a call's end: the callee's cells are gone; q: addresses of such cells, told to stand for good -/
theorem cut_ok (S : SRel K T P w H s) (l : Le w w' H H') (S' : SRel K T P w' H' s') (g : gcOk s s' = true) (hq : ∀ a, q a → ∃ i c, s.length ≤ i ∧ s'[i]? = some c ∧ c ≠ .dead ∧ w'.mu[i]? = some a) :
    Le w (w'.cut s.length q) H H' ∧ SRel K T P (w'.cut s.length q) H' (s'.take s.length) := by
  obtain ⟨t, e, hf⟩ := l.mu
  have hlen : w.mu.length = s.length := S.len
  have em : w'.mu.take s.length = w.mu := by rw [e, ← hlen, List.take_left]
  have old : ∀ {i : Nat} {c : Cell} {a : Addr}, (s'.take s.length)[i]? = some c → (w'.mu.take s.length)[i]? = some a → i < s.length ∧ s'[i]? = some c ∧ w'.mu[i]? = some a := fun {i c a} h1 h2 => by
    rw [List.getElem?_take] at h1 h2
    split at h1
    · rename_i hi
      rw [if_pos hi] at h2
      exact ⟨hi, h1, h2⟩
    · cases h1
  refine ⟨⟨⟨[], by show w'.mu.take s.length = _; rw [em, List.append_nil], fun _ h => by cases h⟩, fun a h => .inl (l.fz a h), fun a h => ?_, l.pn, l.st, l.un, l.up⟩, ?_, fun i c a h1 h2 nd => ?_, fun i j c c' a h1 h2 n1 n2 m1 m2 => ?_, fun a h => ?_, fun a h => ?_⟩
  · rcases h with h | h
    · exact l.nf a h
    · obtain ⟨i, c, hi, _, _, ha⟩ := hq a h
      right; left
      rw [e, List.getElem?_append_right (by omega)] at ha
      exact hf a (List.mem_of_getElem? ha)
  · show (w'.mu.take s.length).length = (s'.take s.length).length
    rw [List.length_take, List.length_take, S'.len]
  · obtain ⟨hi, h1', h2'⟩ := old h1 h2
    obtain ⟨n, r⟩ := S'.cell i c a h1' h2' nd
    refine ⟨fun z => z.elim n fun z => ?_, r.cut (gc_under S g hi h1')⟩
    obtain ⟨j, c', hj, hc', nd', ha⟩ := hq a z
    have := S'.inj i j c c' a h1' hc' nd nd' h2' ha
    omega
  · obtain ⟨hi, h1', h2'⟩ := old h1 m1
    obtain ⟨hj, h3', h4'⟩ := old h2 m2
    exact S'.inj i j c c' a h1' h3' n1 n2 h2' h4'
  · rcases h with h | h
    · exact S'.fz a h
    · obtain ⟨i, c, hi, hc, nd, ha⟩ := hq a h
      obtain ⟨o, ho⟩ := S'.tracked hc ha nd
      rw [ho]
      exact fun z => nomatch z
  · exact S'.all a (List.mem_of_mem_take h)
/-- deep: the callee's own lists stand for good -/
def deepQ (w : Wd) (s : Sto) (n : Nat) (a : Addr) : Prop := ∃ i xs, n ≤ i ∧ s[i]? = some (.lst xs) ∧ w.mu[i]? = some a
theorem mapM_cons_some {α β : Type} {f : α → Option β} {x : α} {xs : List α} {r : List β} (h : (x :: xs).mapM f = some r) : ∃ y ys, f x = some y ∧ xs.mapM f = some ys ∧ r = y :: ys := by
  rw [List.mapM_cons] at h
  cases e1 : f x with
  | none => simp [e1] at h
  | some a =>
    cases e2 : xs.mapM f with
    | none => simp [e1, e2] at h
    | some b => simp [e1, e2] at h; exact ⟨a, b, rfl, rfl, h.symm⟩
theorem deeps_ok {f : D → Option D} (h : ∀ {d e : D} {v : V}, Rep K T P w H d v → f d = some e → Rep K T P (w.cut n q) H e v) : ∀ {ds es : List D} {vs : List V}, Reps K T P w H ds vs → ds.mapM f = some es → Reps K T P (w.cut n q) H es vs
  | _, _, _, .nil, e => by simp at e; subst e; exact .nil
  | _, _, _, .cons r t, e => by
    obtain ⟨y, ys, h1, h2, rfl⟩ := mapM_cons_some e
    exact .cons (h r h1) (deeps_ok h t h2)
theorem deep_ok (S : SRel K T P w H s) : ∀ (k : Nat) {d e : D} {v : V}, Rep K T P w H d v → deep s n k d = some e → Rep K T P (w.cut n (deepQ w s n)) H e v
  | 0, d, e, v, r, h => by
    cases r <;> simp [deep] at h <;> subst h <;> first | exact .non | exact .bl _ | exact .int _ | exact .str _
  | k + 1, d, e, v, r, h => by
    have ih := fun {d e v} => @deep_ok S k d e v
    cases r with
    | non => simp [deep] at h; subst h; exact .non
    | bl b => simp [deep] at h; subst h; exact .bl _
    | int i => simp [deep] at h; subst h; exact .int _
    | str x => simp [deep] at h; subst h; exact .str _
    | tup f hh rr =>
      simp only [deep, Option.map_eq_some_iff] at h
      obtain ⟨xs, h1, rfl⟩ := h
      exact .tup (.inl f) hh (deeps_ok ih rr h1)
    | lst f hh rr =>
      simp only [deep, Option.map_eq_some_iff] at h
      obtain ⟨xs, h1, rfl⟩ := h
      exact .lst (.inl f) hh (deeps_ok ih rr h1)
    | scr q => simp [deep] at h
    | rcd f hc hx hl hh rr =>
      simp only [deep, Option.map_eq_some_iff] at h
      obtain ⟨xs, h1, rfl⟩ := h
      have hl2 : ∀ {xs ys : List D}, xs.mapM (deep s n k) = some ys → xs.length = ys.length := fun {xs} => by
        induction xs with
        | nil => intro ys h; simp at h; subst h; rfl
        | cons x xs ih2 =>
          intro ys h
          obtain ⟨y, zs, _, h2, rfl⟩ := mapM_cons_some h
          simp [ih2 h2]
      exact .rcd (.inl f) hc hx (hl.trans (hl2 h1)) hh (deeps_ok ih rr h1)
    | ref hh =>
      rename_i i
      simp only [deep] at h
      split at h
      · rename_i hi
        cases h
        refine .ref ?_
        show (w.mu.take n)[i]? = _
        rw [List.getElem?_take, if_pos hi]
        exact hh
      · rename_i hi
        split at h
        · rename_i xs hx
          simp only [Option.map_eq_some_iff] at h
          obtain ⟨ys, h1, rfl⟩ := h
          obtain ⟨_, vs, hv, rr⟩ := S.cell _ _ _ hx hh (fun z => nomatch z)
          exact .lst (.inr ⟨i, xs, Nat.le_of_not_lt hi, hx, hh⟩) hv (deeps_ok ih rr h1)
        · cases h
    | exc0 => simp [deep] at h
    | exc1 => simp [deep] at h
end
section
variable {K : PySem.W.Frag} {T : Tab} {P : Prog} {w w' : Wd} {H H' : Hp} {s s' : Sto} {σ : L2.St} {W : WX} {Q : VK}
theorem fin_ok {m : Nat} {d : D} {v : V} (S : SRel K T P w H s) (l : Le w w' H H') (S' : SRel K T P w' H' s') (r : Rep K T P w' H' d v) (o : Out K T P (Rep K T P) w H σ W Q (fin m s d s')) : Q v H' := by
  unfold fin at o
  split at o
  · exact o v w' H' l S' r
  · split at o
    case isFalse => exact o.elim
    rename_i g
    split at o
    · rename_i hf
      obtain ⟨l2, S2⟩ := cut_ok (q := fun _ => False) S l S' g (fun _ h => h.elim)
      exact o v _ H' l2 S2 (r.cut (D.free_under _ _ hf))
    · split at o
      · unfold finM at o
        split at o
        · rename_i k hfr
          split at o
          · rename_i c hk
            split at o
            case isFalse => exact o.elim
            rename_i hc
            simp only [Bool.and_eq_true, decide_eq_true_eq] at hc
            cases r with
            | ref hh =>
              rename_i a
              obtain ⟨l2, S2⟩ := cut_ok (q := fun _ => False) S l S' g (fun _ h => h.elim)
              obtain ⟨t, e, hfresh⟩ := l.mu
              have hlen : w.mu.length = s.length := S.len
              have hat : H a = none := by
                rw [e, List.getElem?_append_right (by omega)] at hh
                exact hfresh a (List.mem_of_getElem? hh)
              have hmu : (w'.cut s.length fun _ => False).mu = w.mu := by
                show w'.mu.take s.length = _
                rw [e, ← hlen, List.take_left]
              have hgl := gc_len g
              have htake : (s'.take s.length).length = s.length := by rw [List.length_take]; omega
              -- the cell moved to the end
              refine o (.ref a) ((w'.cut s.length fun _ => False).new a) H' ⟨⟨[a], by show (w'.cut s.length fun _ => False).mu ++ [a] = _; rw [hmu], fun x hx => by rw [List.mem_singleton.mp hx]; exact hat⟩, l2.fz, l2.nf, l2.pn, l2.st, l2.un, l2.up⟩ ?_ (.ref ?_)
              · have hcell : c ≠ .dead → ¬ w'.fz a ∧ CellR K T P w' H' a c := fun nd => S'.cell k c a hk hh nd
                have lr : Lr (w'.cut s.length fun _ => False) ((w'.cut s.length fun _ => False).new a) H' H' := ⟨⟨[a], rfl⟩, fun _ h => h, rfl, fun _ _ => rfl⟩
                have idx : ∀ {i : Nat} {c' : Cell} {b : Addr}, (s'.take s.length ++ [c])[i]? = some c' → ((w'.cut s.length fun _ => False).mu ++ [a])[i]? = some b → (i < s.length ∧ s'[i]? = some c' ∧ w'.mu[i]? = some b) ∨ (i = s.length ∧ c' = c ∧ b = a) := fun {i c' b} h1 h2 => by
                  by_cases hi : i < s.length
                  · left
                    rw [List.getElem?_append_left (by omega), List.getElem?_take, if_pos hi] at h1
                    have : (w'.mu.take s.length).length = s.length := by rw [List.length_take, S'.len]; omega
                    rw [show (w'.cut s.length fun _ => False).mu = w'.mu.take s.length from rfl, List.getElem?_append_left (by omega), List.getElem?_take, if_pos hi] at h2
                    exact ⟨hi, h1, h2⟩
                  · right
                    have z := (List.getElem?_eq_some_iff.mp h1).1
                    simp at z
                    have z' : i = s.length := by omega
                    subst z'
                    rw [List.getElem?_append_right (by omega), htake] at h1
                    rw [hmu, List.getElem?_append_right (by omega), hlen] at h2
                    simp at h1 h2
                    exact ⟨rfl, h1.symm, h2.symm⟩
                refine ⟨?_, fun i c' b h1 h2 nd => ?_, fun i j c1 c2 b h1 h2 n1 n2 m1 m2 => ?_, S2.fz, fun b hb => ?_⟩
                · show ((w'.cut s.length fun _ => False).mu ++ [a]).length = _
                  rw [hmu]
                  simp [htake, hlen]
                · rcases idx h1 h2 with ⟨hi, q1, q2⟩ | ⟨rfl, rfl, rfl⟩
                  · obtain ⟨n1, q3⟩ := S'.cell i c' b q1 q2 nd
                    exact ⟨fun z => z.elim n1 id, (q3.cut (gc_under S g hi q1)).mon lr rfl⟩
                  · obtain ⟨n1, q3⟩ := hcell nd
                    exact ⟨fun z => z.elim n1 id, (q3.cut (Cell.free_under _ hc.2)).mon lr rfl⟩
                · rcases idx h1 m1 with ⟨hi, q1, q2⟩ | ⟨ei, ec, eb⟩ <;> rcases idx h2 m2 with ⟨hj, q3, q4⟩ | ⟨ej, ec', eb'⟩
                  · exact S'.inj i j c1 c2 b q1 q3 n1 n2 q2 q4
                  · subst ec' eb'
                    have := S'.inj i k c1 c2 b q1 hk n1 n2 q2 hh
                    omega
                  · subst ec eb
                    have := S'.inj j k c2 c1 b q3 hk n2 n1 q4 hh
                    omega
                  · omega
                · rcases List.mem_append.mp hb with hb | hb
                  · exact S2.all b hb
                  · rw [List.mem_singleton.mp hb]
                    exact S'.all a (List.mem_of_getElem? hh)
              · show ((w'.cut s.length fun _ => False).mu ++ [a])[s.length]? = some a
                rw [hmu, ← hlen]
                simp
          · exact o.elim
        · exact o.elim
      · unfold finF at o
        split at o
        · rename_i d' hd
          obtain ⟨l2, S2⟩ := cut_ok (q := deepQ w' s' s.length) S l S' g (fun a ⟨i, xs, h1, h2, h3⟩ => ⟨i, _, h1, h2, fun z => (nomatch z), h3⟩)
          exact o v _ H' l2 S2 (deep_ok S' 20 r hd)
        · exact o.elim
theorem finX_ok {c : Nat} {fs : List D} {cls : Value} {dd : Option Addr} (S : SRel K T P w H s) (l : Le w w' H H') (S' : SRel K T P w' H' s') (r : XR K T P w' H' c fs cls dd) (o : Out K T P (Rep K T P) w H σ W Q (finX s c fs s')) : W cls dd σ H' := by
  unfold finX at o
  split at o
  case isFalse => exact o.elim
  rename_i g
  simp only [Bool.and_eq_true] at g
  obtain ⟨l2, S2⟩ := cut_ok (q := fun _ => False) S l S' g.1 (fun _ h => h.elim)
  refine o cls dd _ H' l2 S2 ?_
  obtain ⟨h1, h | ⟨x, v, d, k, f, rfl, e2, e3, e4, e5, e6, e7⟩⟩ := r
  · exact ⟨h1, .inl h⟩
  · refine ⟨h1, .inr ⟨x, v, d, k, f, rfl, e2, .inl e3, e4, e5, e6, e7.cut (D.free_under _ _ ?_)⟩⟩
    simpa [D.frees] using g.2
end
/-! ### a def's promise -/
/-- what a def promises: np its parameters, F what it does -/
def spF (K : PySem.W.Frag) (T : Tab) (P : Prog) (np : Nat) (F : List D → Sto → R D) : Sp := fun vs H Q E => ∃ ds s w, Reps K T P w H ds vs ∧ SRel K T P w H s ∧ ds.length = np ∧ Out K T P (Rep K T P) w H [] (fun c d _ H => E c d H) Q (F ds s)
theorem start_get {N : List Str} {vs : List V} {i : Nat} : (L2.start N vs)[i]? = if i < vs.length then (vs[i]?).map some else if i < vs.length + (N.length - vs.length) then some none else none := by
  unfold L2.start
  by_cases h : i < vs.length
  · rw [if_pos h, List.getElem?_append_left (by simpa using h), List.getElem?_map]
  · rw [if_neg h, List.getElem?_append_right (by simpa using h), List.getElem?_replicate]
    simp only [List.length_map]
    by_cases h2 : i < vs.length + (N.length - vs.length)
    · rw [if_pos h2, if_pos (by omega)]
    · rw [if_neg h2, if_neg (by omega)]
theorem getE_app {n : Nat} : ∀ {ds : List D} {i : Nat} {d : D}, getE (ds.map some ++ List.replicate n none) i = some d → ds[i]? = some d
  | [], i, d, h => by
    exfalso
    simp only [List.map_nil, List.nil_append] at h
    induction n generalizing i with
    | zero => simp [getE] at h
    | succ n ih =>
      rw [List.replicate_succ] at h
      cases i with
      | zero => simp [getE] at h
      | succ i => exact ih i (by simpa [getE] using h)
  | x :: xs, 0, d, h => by simpa [getE] using h
  | x :: xs, i + 1, d, h => by
    simp only [List.map_cons, List.cons_append, getE] at h
    simpa using getE_app h
theorem erel_start {K : PySem.W.Frag} {T : Tab} {P : Prog} {w : Wd} {H : Hp} {ds : List D} {vs : List V} {N : List Str} {ns : Nat} (r : Reps K T P w H ds vs) (h : N.length = ns) (hl : ds.length ≤ ns) : ERel K T P w H (ds.map some ++ List.replicate (ns - ds.length) none) (L2.start N vs) := by
  have e := r.length
  refine ⟨by unfold L2.start; simp [e, h], fun i d hd => ?_⟩
  obtain ⟨v, hv, rv⟩ := r.get (getE_app hd)
  refine ⟨v, ?_, rv⟩
  rw [start_get, if_pos (List.getElem?_eq_some_iff.mp hv).1, hv]
  rfl
end MP
set_option autoImplicit false
set_option linter.all false
set_option maxRecDepth 10000
set_option maxHeartbeats 1000000
/-! MPq: stores, calls, instances made. -/
namespace MP
open PySem PySem.Spec PyProof.Rows L2
section
variable {T : Tab} {P : Prog} {X : Cx} {W : WX} {st : Stmt} {a b c o e : Expr} {es : List Expr} {fa fb fc fo fe : Env → Sto → R D} {fl : Env → Sto → R (List D)} {pos p pos' tpos : Pos} {g : G}
/-! ### a[i] = e -/
theorem ms_seti (ho : ME X.K T P X W a fa) (hi : ME X.K T P X W b fb) (he : ME X.K T P X W e fe) (ha : ∀ v, assign (.Subscript a b pos') X.env v = (do
      let ov ← holding [v] (eval a X.env)
      let iv ← holding [v, ov] (eval b X.env)
      standAt pos'
      holding [v, ov, iv] (setItem ov iv v)
      release [v, ov, iv] [])) (hs : swapsWithSole [.Subscript a b pos'] e pos.line X.env = pure false) (hw : swappedStores [.Subscript a b pos'] e X.env = pure none) (h1 : (assignEach [.Subscript a b pos'] X.env).map (·.2) = [assign (.Subscript a b pos') X.env]) :
    MS X.K T P X W (.Assign [.Subscript a b pos'] e pos) (fun env s => (fe env s).sr env fun v s => (fa env s).sr env fun o s => (fb env s).sr env fun k s => opt2 (setI s o k v) fun s => .nx env s) := (ps_asg he (pg_sub ho hi set_list ha) hs hw h1).imp fun D σ H q => by
  obtain ⟨env, s, w, E, S, o⟩ := q
  dsimp only at o
  refine ⟨env, s, w, E, S, (OutS.sr E o).mono fun v w1 H1 _ q => ?_⟩
  obtain ⟨w1, d, s1, l1, S1, r1, o1⟩ := q
  have E1 := E.mono l1
  refine ⟨env, s1, w1, E1, S1, (OutS.sr E1 o1).mono fun x _ H2 _ q => ?_⟩
  obtain ⟨w2, d2, s2, l2, S2, r2, o2⟩ := q
  have E2 := E1.mono l2
  refine ⟨env, s2, w2, E2, S2, (OutS.sr E2 o2).mono fun y _ H3 _ q => ?_⟩
  obtain ⟨w3, d3, s3, l3, S3, r3, o3⟩ := q
  have E3 := E2.mono l3
  have r2' := r2.mono l3
  have r1' := (r1.mono l2).mono l3
  cases z : setI s3 d2 d3 d with
  | none => rw [z] at o3; exact o3.elim
  | some s4 =>
    rw [z] at o3
    simp only [opt2_some] at o3
    unfold setI at z
    split at z
    · rename_i p
      split at z
      · rename_i xs k hp
        cases r3
        cases hj : MP.ixN xs.length k with
        | none => rw [hj] at z; cases z
        | some j =>
          rw [hj] at z
          cases z
          cases r2' with
          | ref hh =>
            obtain ⟨_, vs, hv, rr⟩ := S3.cell _ _ _ hp hh (fun z => nomatch z)
            have lp := le_put (o := .lst (vs.set j v)) S3 hp hh (fun z => nomatch z)
            refine ⟨_, vs, k, j, rfl, rfl, hv, by rw [← rr.length]; exact hj, o3 σ w3 _ lp (S3.put hp hh (fun z => nomatch z) (fun z => nomatch z) ⟨_, upd_same, (rr.set r1' j).mono lp⟩) (E3.mono lp)⟩
      · cases z
    · cases z
/-! ### o.f = e -/
theorem putF_keys {f : Nat} {v : D} : ∀ {fs : List (Nat × D)}, ∀ p ∈ putF f v fs, p.1 = f ∨ ∃ q ∈ fs, q.1 = p.1
  | [], p, hp => by simp [putF] at hp; subst hp; exact .inl rfl
  | (a, w) :: r, p, hp => by
    simp only [putF] at hp
    split at hp
    · rcases List.mem_cons.mp hp with rfl | hp
      · exact .inr ⟨(a, w), List.mem_cons_self, rfl⟩
      · exact .inr ⟨p, List.mem_cons_of_mem _ hp, rfl⟩
    · rcases List.mem_cons.mp hp with rfl | hp
      · exact .inr ⟨(a, w), List.mem_cons_self, rfl⟩
      · rcases putF_keys p hp with h | ⟨q, h1, h2⟩
        · exact .inl h
        · exact .inr ⟨q, List.mem_cons_of_mem _ h1, h2⟩
theorem FsR.put {K : PySem.W.Frag} {w : Wd} {H : Hp} {f : Nat} {d : D} {v : V} (rv : Rep K T P w H d v) : ∀ {fs : List (Nat × D)} {gs : List (Str × V)}, FsR K T P w H fs gs → (∀ p ∈ fs, T.anm f = T.anm p.1 → f = p.1) → FsR K T P w H (putF f d fs) (L2.putF (T.anm f) v gs)
  | _, _, .nil, _ => .cons rv .nil
  | _, _, .cons (f := n) (e := e) (v := u) r t, hi => by
    simp only [putF, L2.putF]
    by_cases e1 : n = f
    · subst e1
      rw [if_pos rfl, if_pos rfl]
      exact .cons rv t
    · rw [if_neg e1, if_neg fun z => e1 (hi _ List.mem_cons_self z.symm).symm]
      exact .cons r (FsR.put rv t fun p hp => hi p (List.mem_cons_of_mem _ hp))
theorem FsR.len {K : PySem.W.Frag} {w : Wd} {H : Hp} : ∀ {fs : List (Nat × D)} {gs : List (Str × V)}, FsR K T P w H fs gs → fs.length = gs.length
  | _, _, .nil => rfl
  | _, _, .cons r t => by simp [FsR.len t]
theorem ms_setf {f : Nat} (O : TabOk X.K T P) (hg : g.cls = P.cls) (ho : ME X.K T P X W a fa) (he : ME X.K T P X W e fe) (hs : swapsWith e (some (.Attribute a (T.anm f) pos')) pos.line X.env = pure false) :
    MS X.K T P X W (.Assign [.Attribute a (T.anm f) pos'] e pos) (fun env s => (fe env s).sr env fun v s => (fa env s).sr env fun x s => opt2 (setFl g s x f v) fun s => .nx env s) := (ps_fld ho he hs).imp fun D σ H q => by
  obtain ⟨env, s, w, E, S, o⟩ := q
  dsimp only at o
  refine ⟨env, s, w, E, S, (OutS.sr E o).mono fun v w1 H1 _ q => ?_⟩
  obtain ⟨w1, d, s1, l1, S1, r1, o1⟩ := q
  have E1 := E.mono l1
  refine ⟨env, s1, w1, E1, S1, (OutS.sr E1 o1).mono fun x _ H2 _ q => ?_⟩
  obtain ⟨w2, d2, s2, l2, S2, r2, o2⟩ := q
  have E2 := E1.mono l2
  have r1' := r1.mono l2
  cases z : setFl g s2 d2 f d with
  | none => rw [z] at o2; exact o2.elim
  | some s3 =>
    rw [z] at o2
    simp only [opt2_some] at o2
    unfold setFl at z
    rw [hg] at z
    split at z
    · rename_i p
      split at z
      · rename_i c fs hp
        split at z
        · rename_i k hk
          split at z
          · rename_i hm
            cases z
            cases r2 with
            | ref hh =>
              obtain ⟨_, dx, gs, k', h1, h2, h3, hx, h4⟩ := S2.cell _ _ _ hp hh (fun z => nomatch z)
              rw [hk] at h3
              cases h3
              have F := O.inst _ _ hk hx
              have inj : ∀ p ∈ fs, T.anm f = T.anm p.1 → f = p.1 := fun p hp z => O.anm _ _ _ _ hk hm.1 (h4 p hp) z
              have lp := le_put (o := .ins (ca X.K T c) dx (L2.putF (T.anm f) v gs)) S2 hp hh (fun z => nomatch z)
              refine ⟨_, _, dx, gs, rfl, h1, F.cl, F.no _ hm.1, by rw [← h2.len]; omega, o2 σ w2 _ lp (S2.put hp hh (fun z => nomatch z) (fun z => nomatch z) ⟨dx, _, k, upd_same, (h2.put r1' inj).mono lp, hk, hx, fun p hp => ?_⟩) (E2.mono lp)⟩
              rcases putF_keys p hp with q | ⟨q, q1, q2⟩
              · rw [q]; exact hm.1
              · rw [← q2]; exact h4 q q1
          · cases z
        · cases z
      · cases z
    · cases z
/-! ### x op= e -/
theorem ms_aug {i : Nat} {x : Str} {o : BOp} {op : Operator} (hop : OpR X (inplaceOp op) fun x y H Q => ∃ i j z, x = .int i ∧ y = .int j ∧ binop [] o (.int i) (.int j) = some (.int z) ∧ Q (.int z) H) (hN : X.N.Nodup) (hi : X.N[i]? = some x) (hx : Loc X.env.scope x) (he : ME X.K T P X W e fe) (hf : X.fn x = true ∨ X.env.scope.names.lookup x = some .local) :
    MS X.K T P X W (.AugAssign (.Name x pos') op e pos) (fun env s => opt2 (getE env i) fun x => (fe env s).sr env fun y s => if augOk x y then opt2 (binop s o x y) fun z => .nx (setE env i (some z)) s else .no) := (ps_aug hN hi hx he hop hf).imp fun D σ H q => by
  obtain ⟨env, s, w, E, S, o'⟩ := q
  dsimp only at o'
  cases hv : getE env i with
  | none => rw [hv] at o'; exact o'.elim
  | some d =>
    rw [hv] at o'
    simp only [opt2_some] at o'
    obtain ⟨v, h1, rv⟩ := E.2 i d hv
    refine ⟨v, h1, env, s, w, E, S, (OutS.sr E o').mono fun y w1 H1 _ q => ?_⟩
    obtain ⟨w1, d2, s1, l1, S1, r1, o1⟩ := q
    split at o1
    · rename_i hok
      cases d with
      | int m =>
        cases d2 with
        | int n =>
          have rv' := rv.mono l1
          cases rv'
          cases r1
          have hb : binop s1 o (.int m) (.int n) = binop [] o (.int m) (.int n) := by cases o <;> rfl
          rw [hb] at o1
          cases z : binop [] o (.int m) (.int n) with
          | none => rw [z] at o1; exact o1.elim
          | some zz =>
            rw [z] at o1
            simp only [opt2_some] at o1
            have : ∃ k, zz = .int k := by
              cases o <;> simp only [binop] at z
              all_goals first | exact ⟨_, (Option.some.inj z).symm⟩ | (split at z <;> first | exact ⟨_, (Option.some.inj z).symm⟩ | cases z)
            obtain ⟨k, rfl⟩ := this
            exact ⟨m, n, k, rfl, rfl, z, o1.go S1 ((E.mono l1).set i (.int k))⟩
        | _ => simp [augOk] at hok
      | _ => simp [augOk] at hok
    · exact o1.elim
theorem aug_add : OpR X (inplaceOp .Add) fun x y H Q => ∃ i j z, x = .int i ∧ y = .int j ∧ binop [] .add (.int i) (.int j) = some (.int z) ∧ Q (.int z) H := fun pins s σ H x y v u Q I rx ry ⟨i, j, z, h1, h2, h3, q⟩ => iop_add pins s σ H x y v u Q I rx ry ⟨i, j, h1, h2, by cases h3; exact q⟩
theorem aug_sub : OpR X (inplaceOp .Sub) fun x y H Q => ∃ i j z, x = .int i ∧ y = .int j ∧ binop [] .sub (.int i) (.int j) = some (.int z) ∧ Q (.int z) H := fun pins s σ H x y v u Q I rx ry ⟨i, j, z, h1, h2, h3, q⟩ => iop_sub pins s σ H x y v u Q I rx ry ⟨i, j, h1, h2, by cases h3; exact q⟩
/-! ### calls -/
theorem out_spF {w : Wd} {H : Hp} {σ : L2.St} {Q : VK} {r : R D} (h : Out X.K T P (Rep X.K T P) w H σ W Q r) : Out X.K T P (Rep X.K T P) w H [] (fun c d _ H => WE W σ c d H) Q r := by cases r <;> exact h
theorem me_callF {k np : Nat} {f : Addr} {fd : FuncData} {ps : List Str} {x : Str} {F : List D → Sto → R D} (hF : FnOk X.prog X.w X.K X.mg X.base (L2.CX X.prog X.w) k f fd ps (spF X.K T P np F)) (tk : Takes X W) (hr : Room k X.A) (hg : Gl X x) (hm : X.mg x = some (.ref f)) (hk : PySem.W.keepIn X.K (.ref f) = true) (hb : Binds X.K fd ps [])
    (ha : MA X.K T P X W (e :: es) fl) (hl : ∀ env s xs s', fl env s = .ok xs s' → xs.length = np) (hdb : (x == ("__debug__" : Str)) = false) (he : starEach (e :: es) X.env = (false, eval e X.env) :: starEach es X.env) (hpl : (backTo pos (starEach es X.env)).any (·.1) = false) :
    ME X.K T P X W (.Call (.Name x p) (e :: es) [] pos) (fun env s => (fl env s).bind fun xs s => F xs s) := by
  refine (pe_callSD hF hr hg hm hk hb .nil (passAt tk) ha hdb he hpl).imp fun σ H Q q => ?_
  obtain ⟨env, s, w, E, S, o⟩ := q
  refine ⟨env, s, w, E, S, ?_⟩
  dsimp only at o
  cases r : fl env s with
  | no => rw [r] at o; exact o
  | ex c fs s1 => rw [r] at o; exact o
  | ok ds s1 =>
    rw [r] at o
    intro xs w1 H1 l1 S1 r1
    exact ⟨ds, s1, w1, by rw [List.append_nil]; exact r1, S1, hl _ _ _ _ r, out_spF (Out.later l1 o)⟩
/-! ### an instance made -/
theorem run_makeS {CX : CXT} {k : Nat} {f C : Addr} {fd : FuncData} {ps : List Str} {sp : Sp} {E : XK} {pins : List (Addr × Obj)} {σ : L2.St} {H : Hp} {s : Shared} {Q : VK} {us : List Value} {vs : List V} (M : Mk X.K C f) (F : FnOk X.prog X.w X.K X.mg X.base CX k f fd ps sp) (hr : Room (k + 1) X.A) (hb : Binds X.K fd ps [])
    (hx : PassesAt CX X σ E) (I : L2.Inv X pins σ H s) (r : Vals vs us)
    (h : ∀ x dx, H x = none → H dx = none → dx ≠ x → sp (.ref x :: vs) (upd (upd H dx (.own x)) x (.ins C dx [])) (fun v H2 => v = .non ∧ Q (.ref x) H2) E) :
    wpAny (model X.prog X.w) X.A (PySem.call (.ref C) us) (EP X pins σ Q) X.xe s := by
  have hq := h (s.heap.objs.size + 1) s.heap.objs.size (I.hok.fresh (Nat.le_succ _)) (I.hok.fresh (Nat.le_refl _)) (Nat.ne_of_lt (Nat.lt_succ_self _))
  have I2 := Inv.made (C := C) I
  have r2 : Vals (V.ref (s.heap.objs.size + 1) :: vs) (Value.ref (s.heap.objs.size + 1) :: (us ++ [])) := .cons rfl (by rw [List.append_nil]; exact r)
  have hl : (Value.ref (s.heap.objs.size + 1) :: us ++ []).length = ps.length := by
    have e := r2.length
    rw [F.len _ _ _ _ hq] at e
    exact e.symm
  refine wpAny_call (make_map (f := f) I.kIn M.makes M.init (beq_iff_eq.mp M.fn) (codeAny_mono (F.run _ X.stack _ _ ⟨Value.ref (s.heap.objs.size + 1) :: us, []⟩ (Value.ref (s.heap.objs.size + 1) :: (us ++ [])) _ _ E (hr.make C us [])
    (I2.env0.make C us []) (by have z := hb _ (Value.ref (s.heap.objs.size + 1) :: us) I2.kIn hl; rw [List.cons_append] at z; exact z) r2 hq) fun r s' hq' => ?_))
  cases r with
  | error e => exact hx pins _ _ e s' I2 hq'
  | ok fl =>
    cases fl with
    | ret u =>
      obtain ⟨v, H', I3, rv, ev, q3⟩ := I2.after hq'
      subst ev
      exact ⟨rv, ⟨V.ref (s.heap.objs.size + 1), H', I3, rfl, q3⟩⟩
    | next => exact False.elim hq'
    | brk => exact False.elim hq'
    | cont => exact False.elim hq'
theorem recOf_ok {K : PySem.W.Frag} {w : Wd} {H : Hp} {k : Cls} : ∀ {fs : List (Nat × D)} {gs : List (Str × V)}, FsR K T P w H fs gs → ∃ vs, gs = ((fs.map (·.1)).map T.anm).zip vs ∧ Reps K T P w H (fs.map (·.2)) vs
  | _, _, .nil => ⟨[], rfl, .nil⟩
  | _, _, .cons r t => by
    obtain ⟨vs, h1, h2⟩ := recOf_ok (k := k) t
    exact ⟨_ :: vs, by simp [h1], .cons r h2⟩
theorem frees_mem : ∀ {ds : List D}, D.frees ds = true → ∀ n, D.unders n ds = true
  | ds, h, n => D.frees_under n ds h
/-- what makeD says, of the new instance -/
theorem out_make {f c : Nat} {k : Cls} {vs : List D} {w1 : Wd} {H1 : Hp} {σ : L2.St} {Q : VK} {s1 : Sto} (hg : g.cls = P.cls) (hk : P.cls c = some k) (hi : k.init = some f) (hx : k.exn = false) (S1 : SRel X.K T P w1 H1 s1) (o : Out X.K T P (Rep X.K T P) w1 H1 σ W Q (makeD g c vs s1)) (x dx : Addr) (h1 : H1 x = none) (h2 : H1 dx = none) (h3 : dx ≠ x) :
    ∃ w2, Le w1 w2 H1 (upd (upd H1 dx (.own x)) x (.ins (ca X.K T c) dx [])) ∧ SRel X.K T P w2 (upd (upd H1 dx (.own x)) x (.ins (ca X.K T c) dx [])) (s1 ++ [.ins c []]) ∧ Rep X.K T P w2 (upd (upd H1 dx (.own x)) x (.ins (ca X.K T c) dx [])) (.ref s1.length) (.ref x) ∧
      Out X.K T P (Rep X.K T P) w2 (upd (upd H1 dx (.own x)) x (.ins (ca X.K T c) dx [])) [] (fun c d _ H => WE W σ c d H) (fun v H2 => v = .non ∧ Q (.ref x) H2) (g.call f (.ref s1.length :: vs) (s1 ++ [.ins c []])) := by
  have nd1 := S1.out h2
  have nd2 := S1.fresh h2
  have S1' := (S1.aside (o := .own x) nd1 nd2).2
  have l1' : Le w1 w1 H1 (upd H1 dx (.own x)) := (Le.refl w1 H1).aside h2 nd2
  have hx1 : upd H1 dx (.own x) x = none := by rw [upd_ne (Ne.symm h3)]; exact h1
  have l2 := le_new (o := .ins (ca X.K T c) dx []) S1' hx1
  have S2 : SRel X.K T P (w1.new x) (upd (upd H1 dx (.own x)) x (.ins (ca X.K T c) dx [])) (s1 ++ [.ins c []]) := S1'.new hx1 (fun z => nomatch z) ⟨dx, [], k, upd_same, .nil, hk, hx, fun p hp => by cases hp⟩
  have hmu : (w1.new x).mu[s1.length]? = some x := by
    show (w1.mu ++ [x])[s1.length]? = some x
    rw [← S1.len]
    simp
  refine ⟨w1.new x, l1'.trans l2, S2, .ref hmu, ?_⟩
  have l := l1'.trans l2
  unfold makeD at o
  rw [hg, hk] at o
  simp only [hx, Bool.false_eq_true, if_false, hi] at o
  cases r : g.call f (.ref s1.length :: vs) (s1 ++ [.ins c []]) with
  | no => rw [r] at o; exact o
  | ex e fs s' =>
    rw [r] at o
    dsimp only at o
    split at o
    case isFalse => exact o.elim
    rename_i hq
    intro cls dd w' H' l' S' xr
    have hl2 : Le w1 w' H1 H' := l.trans l'
    have g0 : gcOk s1 s' = true := by
      unfold gcOk
      have hlen : s1.length ≤ s'.length := by
        have := congrArg List.length hq.1
        rw [List.length_take] at this
        omega
      simp only [Bool.and_eq_true, decide_eq_true_eq, List.all_eq_true, List.mem_range, Bool.or_eq_true]
      refine ⟨hlen, fun i hi => .inl ?_⟩
      rw [← hq.1, List.getElem?_take, if_pos hi]
    obtain ⟨l3, S3⟩ := cut_ok (q := fun _ => False) S1 hl2 S' g0 (fun _ h => h.elim)
    rw [hq.1] at S3
    refine o cls dd _ H' l3 S3 ?_
    obtain ⟨h1, h | ⟨x, v, d, k, f, rfl, e2, e3, e4, e5, e6, e7⟩⟩ := xr
    · exact ⟨h1, .inl h⟩
    · exact ⟨h1, .inr ⟨x, v, d, k, f, rfl, e2, .inl e3, e4, e5, e6, e7.cut (D.free_under _ _ (by simpa [D.frees] using hq.2))⟩⟩
  | ok d s' =>
    rw [r] at o
    cases d with
    | non =>
      simp only at o
      intro v w' H' l' S' rv
      cases rv
      refine ⟨rfl, ?_⟩
      have hl2 : Le w1 w' H1 H' := l.trans l'
      have hmu' : w'.mu[s1.length]? = some x := l'.get hmu
      split at o
      · split at o
        · rename_i c' fs hfs
          split at o
          · rename_i hc
            obtain ⟨rfl, hs'⟩ := hc
            cases hrec : recOf k fs with
            | none => rw [hrec] at o; exact o.elim
            | some ds =>
              rw [hrec] at o
              dsimp only at o
              split at o
              case isFalse => exact o.elim
              rename_i hfr
              unfold recOf at hrec
              split at hrec
              case isFalse => cases hrec
              rename_i hkeys
              cases hrec
              have g0 : gcOk s1 s' = true := by
                unfold gcOk
                simp only [Bool.and_eq_true, decide_eq_true_eq, List.all_eq_true, List.mem_range, Bool.or_eq_true]
                refine ⟨by rw [hs']; simp, fun i hi => .inl ?_⟩
                rw [hs', List.getElem?_append_left hi]
              obtain ⟨_, dx', gs, k', q1, q2, q3, _, _⟩ := S'.cell _ _ _ hfs hmu' (fun z => nomatch z)
              obtain ⟨l3, S3⟩ := cut_ok (q := fun a => a = x) S1 hl2 S' g0 (fun a h => ⟨s1.length, _, Nat.le_refl _, hfs, fun z => (nomatch z), by rw [h]; exact hmu'⟩)
              have et : s'.take s1.length = s1 := by rw [hs']; simp
              rw [et] at S3
              obtain ⟨us, rfl, ru⟩ := recOf_ok (k := k) q2
              rw [hkeys] at q1
              refine o _ _ H' l3 S3 (.rcd (.inr rfl) hk hx (by rw [← hkeys]; simp) q1 (ru.cut' (D.frees_under _ _ hfr)))
          · exact o.elim
        · exact o.elim
      · exact o _ w' H' hl2 S' (.ref hmu')
    | _ => exact o.elim
theorem me_make {k np f c : Nat} {fA : Addr} {fd : FuncData} {ps : List Str} {x : Str} {kc : Cls} (hg' : g.cls = P.cls) (hk' : P.cls c = some kc) (hi : kc.init = some f) (hxn : kc.exn = false) (M : Mk X.K (ca X.K T c) fA) (hF : FnOk X.prog X.w X.K X.mg X.base (L2.CX X.prog X.w) k fA fd ps (spF X.K T P np (g.call f))) (tk : Takes X W) (hr : Room (k + 1) X.A) (hg : Gl X x) (hm : X.mg x = some (.ref (ca X.K T c))) (hb : Binds X.K fd ps [])
    (ha : MA X.K T P X W (e :: es) fl) (hl : ∀ env s xs s', fl env s = .ok xs s' → xs.length + 1 = np) (hdb : (x == ("__debug__" : Str)) = false) (he : starEach (e :: es) X.env = (false, eval e X.env) :: starEach es X.env) (hpl : (backTo pos (starEach es X.env)).any (·.1) = false) :
    ME X.K T P X W (.Call (.Name x p) (e :: es) [] pos) (fun env s => (fl env s).bind fun xs s => makeD g c xs s) := by
  refine ⟨fun pins s0 σ H Q I q => ?_⟩
  obtain ⟨env, s, w, E, S, o⟩ := q
  dsimp only at o
  refine wpAny_Call_Name_kw (ld_glob I hg hm ?_ hdb)
  cases r : fl env s with
  | no => rw [r] at o; exact o.elim
  | ex c fs s1 =>
    rw [r] at o
    refine PySem.W.callWith_K (h₀ := X.base) I.ok.mod.kin M.kp (thn (ha.run pos pins s0 σ H (fun _ _ => False) I ⟨env, s, w, E, S, by rw [r]; exact o⟩) fun us s1 ⟨vs, H1, I1, r, q⟩ => q.elim) he hpl
  | ok ds s1 =>
    rw [r] at o
    simp only [MP.R.bind_ok] at o
    refine PySem.W.callWith_K (h₀ := X.base) I.ok.mod.kin M.kp (thn (ha.run pos pins s0 σ H (fun vs H1 => ∃ w1, Le w w1 H H1 ∧ SRel X.K T P w1 H1 s1 ∧ Reps X.K T P w1 H1 ds vs) I ⟨env, s, w, E, S, by rw [r]; exact fun v w1 H1 l1 S1 r1 => ⟨w1, l1, S1, r1⟩⟩) fun us s2 ⟨vs, H1, I1, rv, w1, l1, S1, rd⟩ => ⟨I1.kIn, ?_⟩) he hpl
    refine run_makeS M hF hr hb (passAt tk σ) I1 rv fun x dx h1 h2 h3 => ?_
    obtain ⟨w2, l2, S2, r2, o2⟩ := out_make hg' hk' hi hxn S1 (Out.later l1 o) x dx h1 h2 h3
    exact ⟨.ref s1.length :: ds, _, w2, .cons r2 (rd.mono l2), S2, by simp; exact hl _ _ _ _ r, o2⟩
end
end MP
set_option autoImplicit false
set_option linter.all false
set_option maxRecDepth 10000
set_option maxHeartbeats 1000000
/-! MPr: the checker: the program's text against the small language. -/
namespace MP
open PySem PySem.Spec PyProof.Rows L2
/-- where an expression stands -/
structure Ck where
  N : List Str
  sc : Scope
  fn : Option Scope
def bnames : List Str := ["len", "abs", "max", "min", "int", "bool", "str", "dict", "tuple", "list", "sum", "any", "all", "sorted", "isinstance", "range", "enumerate", "zip", "reversed"]
def Ck.gl (ck : Ck) (x : Str) : Bool := decide (ck.sc.names.lookup x = some .globalImplicit) && !(x == ("__debug__" : Str))
def visK : Option NameKind → Bool
  | some .local => true
  | some .cell => true
  | some .free => true
  | _ => false
def Ck.vis (ck : Ck) (i : Nat) (x : Str) : Bool := decide (ck.N[i]? = some x) && (visK (ck.sc.names.lookup x) && (!(x == ("__debug__" : Str)) && !(x == ("__classdict__" : Str))))
def Ck.loc (ck : Ck) (i : Nat) (x : Str) : Bool := decide (ck.N[i]? = some x) && (decide (ck.sc.names.lookup x = some .local) || (decide (ck.sc.names.lookup x = some .cell) && (match ck.fn with
  | none => true
  | some s0 => s0.names.lookup x == some .cell)))
def nStar : Expr → Bool
  | .Starred .. => false
  | _ => true
def nSlice : Expr → Bool
  | .Slice .. => false
  | _ => true
def nSet : Expr → Bool
  | .Set .. => false
  | _ => true
def nCall : Expr → Bool
  | .Call .. => false
  | _ => true
def nTup : Expr → Bool
  | .Tuple .. => false
  | _ => true
def nComp : Expr → Bool
  | .ListComp .. => false
  | .SetComp .. => false
  | .DictComp .. => false
  | _ => true
def isTup : Expr → Bool
  | .Tuple .. => true
  | _ => false
def litEq : D → Const → Bool
  | .non, .none => true
  | .bl a, .bool b => a == b
  | .int i, .int j => i == j
  | .str x, .str s => decide (s = ⟨x.toArray⟩)
  | _, _ => false
def opEq : BOp → Operator → Bool
  | .add, .Add => true
  | .sub, .Sub => true
  | .mul, .Mult => true
  | .fdiv, .FloorDiv => true
  | .mod, .Mod => true
  | .pow, .Pow => true
  | _, _ => false
def cmpEq : COp → CmpOp → Bool
  | .eq, .Eq => true
  | .ne, .NotEq => true
  | .lt, .Lt => true
  | .le, .LtE => true
  | .gt, .Gt => true
  | .ge, .GtE => true
  | .is, .Is => true
  | .isnot, .IsNot => true
  | .isin, .In => true
  | .notin, .NotIn => true
  | _, _ => false
/-- the built-in's name, the number of its arguments -/
def biName : Bi → String × Nat
  | .len => ("len", 1)
  | .abs => ("abs", 1)
  | .max2 => ("max", 2)
  | .min2 => ("min", 2)
  | .toInt => ("int", 1)
  | .toTup => ("tuple", 1)
  | .sum => ("sum", 1)
  | .any => ("any", 1)
  | .all => ("all", 1)
  | .maxL => ("max", 1)
  | .minL => ("min", 1)
section
variable (T : Tab) (P : Prog) (top : Nat → Bool)
def tyEq (t : Ty) (x : Str) : Bool := match t with
  | .val => false
  | .cls c => decide (x = T.cnm c) && (P.cls c).isSome
  | t => decide (x = (Str.ofString (tyName t)))
def callOk (f n : Nat) (x : Str) : Bool := top f && (decide (x = T.fnm f) && (match P.fn f with
  | some fn => decide (n = fn.np) && (decide (0 < n) && fn.dfl.isEmpty)
  | none => false))
def makeOk (c n : Nat) (x : Str) : Bool := decide (x = T.cnm c) && (match P.cls c with
  | some k => !k.exn && (match k.init with
    | some f => (match P.fn f with
      | some fn => decide (n + 1 = fn.np) && (decide (0 < n) && fn.dfl.isEmpty)
      | none => false)
    | none => false)
  | none => false)
mutual
def chkT : MP.T → Ck → Expr → Bool
  | .name i, ck, x => match x with
    | .Name n _ => ck.loc i n
    | _ => false
  | .tup ts, ck, x => match x with
    | .Tuple xs _ _ => chkTs ts ck xs
    | _ => false
def chkTs : List MP.T → Ck → List Expr → Bool
  | [], _, xs => match xs with
    | [] => true
    | _ => false
  | t :: ts, ck, xs => match xs with
    | x :: xs => chkT t ck x && chkTs ts ck xs
    | _ => false
end
def ownN (ck : Ck) (own : List Nat) : List (Str × Nat) := own.map fun i => (ck.N.getD i "", i)
def Ck.blk (ck : Ck) (scope : Scope) : Ck := ⟨ck.N, relS scope ck.sc, some scope⟩
mutual
/-- t: as a test -/
def chk (t : Bool) : E → Ck → Expr → Bool
  | .bad, _, _ => true
  | .var i, ck, x => match x with
    | .Name n _ => ck.vis i n
    | _ => false
  | .lit d, _, x => match x with
    | .Constant c _ _ => litEq d c
    | _ => false
  | .glob i, ck, x => match x with
    | .Name n _ => ck.gl n && (decide (n = T.gnm i) && (P.glob i).isSome)
    | _ => false
  | .bin o a b, ck, x => match x with
    | .BinOp l op r _ => opEq o op && (chk false a ck l && chk false b ck r)
    | _ => false
  | .neg a, ck, x => match x with
    | .UnaryOp op l _ => decide (op = .USub) && chk false a ck l
    | _ => false
  | .cmp o a b, ck, x => match x with
    | .Compare l [op] [r] _ => cmpEq o op && (nSet r && (chk false a ck l && chk false b ck r))
    | _ => false
  | .chain o o' a b c, ck, x => match x with
    | .Compare l [op, op'] [r, r'] _ => (cmpEq o op && cmpEq o' op') && (nSet r' && (chk false a ck l && (chk false b ck r && chk false c ck r')))
    | _ => false
  | .and es, ck, x => match x with
    | .BoolOp op xs _ => decide (op = .And) && (!es.isEmpty && chks t es ck xs)
    | _ => false
  | .or es, ck, x => match x with
    | .BoolOp op xs _ => decide (op = .Or) && (!es.isEmpty && chks t es ck xs)
    | _ => false
  | .not a, ck, x => match x with
    | .UnaryOp op l _ => decide (op = .Not) && chk t a ck l
    | _ => false
  | .ite c a b, ck, x => match x with
    | .IfExp c' a' b' _ => !t && (chk true c ck c' && (chk false a ck a' && chk false b ck b'))
    | _ => false
  | .tup es, ck, x => match x with
    | .Tuple xs _ _ => decide (es.length ≤ 1000) && (xs.all nStar && chks false es ck xs)
    | _ => false
  | .lst _ es, ck, x => match x with
    | .List xs _ => decide (es.length ≤ 1000) && (xs.all nStar && chks false es ck xs)
    | _ => false
  | .dct ks vs, _, x => match x with
    | .Dict [] [] _ => ks.isEmpty && vs.isEmpty
    | _ => false
  | .idx a b, ck, x => match x with
    | .Subscript l r _ => nSlice r && (chk false a ck l && chk false b ck r)
    | _ => false
  | .slc _ a lo hi, ck, x => match x with
    | .Subscript l (.Slice lo' hi' none _) _ => chk false a ck l && (chkO lo ck lo' && chkO hi ck hi')
    | _ => false
  | .fld a f, ck, x => match x with
    | .Attribute l n _ => decide (n = T.anm f) && (nCall l && chk false a ck l)
    | _ => false
  | .call f es, ck, x => match x with
    | .Call (.Name n _) xs [] _ => ck.gl n && (callOk T P top f es.length n && (xs.all nStar && chks false es ck xs))
    | _ => false
  | .make c es, ck, x => match x with
    | .Call (.Name n _) xs [] _ => ck.gl n && (makeOk T P c es.length n && (xs.all nStar && chks false es ck xs))
    | _ => false
  | .bi b es, ck, x => match x with
    | .Call (.Name n _) xs [] _ => ck.gl n && ((decide (n = Str.ofString (biName b).1) && decide (es.length = (biName b).2)) && (xs.all nStar && chks false es ck xs))
    | _ => false
  | .li b _ a, ck, x => match x with
    | .Call (.Name n _) [l] [] _ => ck.gl n && ((decide (b = .toList) && decide (n = Str.ofString "list")) && (nStar l && chk false a ck l))
    | _ => false
  | .bm b a es, ck, x => match x with
    | .Call (.Attribute l n ap) [r] [] cp => (decide (b = .append) && (decide (es.length = 1) && decide (n = Str.ofString "append"))) && ((ap.endLine == cp.line) && (nCall l && (nStar r && (chk false a ck l && chks false es ck [r]))))
    | _ => false
  | .isi a ts, ck, x => match x with
    | .Call (.Name n _) [l, .Name tn _] [] _ => ck.gl n && (decide (n = Str.ofString "isinstance") && (ck.gl tn && (nStar l && (chk false a ck l && (match ts with
      | [ty] => tyEq T P ty tn
      | _ => false)))))
    | _ => false
  | .comp _ own elt tg it ifs, ck, x => match x with
    | .ListComp elt' [⟨tg', iter, ifs', as⟩] scope _ => (decide (as = 0) && (blkC ck.N ck.sc scope (ownN ck own) && ((slotsT tg).all (fun i => own.contains i) && chkT tg (ck.blk scope) tg'))) &&
      (chkI it ck tg' iter && (chk false elt (ck.blk scope) elt' && (match ifs' with
        | [] => ifs.isEmpty
        | [c] => decide (ifs.length = 1) && chks true ifs (ck.blk scope) [c]
        | _ => false)))
    | _ => false
  | _, _, _ => false
def chks (t : Bool) : List E → Ck → List Expr → Bool
  | [], _, xs => match xs with
    | [] => true
    | _ => false
  | e :: es, ck, xs => match xs with
    | x :: xs => chk t e ck x && chks t es ck xs
    | _ => false
def chkO : Option E → Ck → Option Expr → Bool
  | none, _, x => match x with
    | none => true
    | _ => false
  | some e, ck, x => match x with
    | some x => chk false e ck x
    | _ => false
def chkI : I → Ck → Expr → Expr → Bool
  | .seq e, ck, _, x => nSet x && chk false e ck x
  | .range es, ck, _, x => match x with
    | .Call (.Name n _) xs [] _ => (ck.gl n && decide (n = Str.ofString "range")) && ((decide (es.length = 1) || decide (es.length = 2)) && (xs.all nStar && chks false es ck xs))
    | _ => false
  | .enum e, ck, tg, x => match x with
    | .Call (.Name n _) [l] [] _ => isTup tg && ((ck.gl n && decide (n = Str.ofString "enumerate")) && (nStar l && chk false e ck l))
    | _ => false
  | .zip es, ck, tg, x => match x with
    | .Call (.Name n _) xs [] _ => isTup tg && ((ck.gl n && decide (n = Str.ofString "zip")) && ((decide (es.length = 2) || decide (es.length = 3)) && (xs.all nStar && chks false es ck xs)))
    | _ => false
  | .rev e, ck, _, x => match x with
    | .Call (.Name n _) [l] [] _ => (ck.gl n && decide (n = Str.ofString "reversed")) && (nStar l && chk false e ck l)
    | _ => false
end
/-- x = [..] as an own kind of statement -/
def swapC (ck : Ck) (y : Str) (py : Pos) (scope : Scope) (lp : Pos) : Bool := decide (ck.sc.names.lookup y = some .local) && ((py.line == lp.line) && !(scope.names.any fun (n, k) => n == y && (k == .local || k == .cell)))
def asgC (ck : Ck) (tg x : Expr) : Bool := match x with
  | .ListComp _ _ _ _ => (match tg with
    | .Name y _ => !decide (ck.sc.names.lookup y = some .local)
    | _ => true)
  | x => nComp x && (!isTup tg || nTup x)
def isCompE : E → Bool
  | .comp .. => true
  | _ => false
mutual
def chkS : S → Ck → Stmt → Bool
  | .bad, _, _ => true
  | .expr e, ck, s => match s with
    | .Expr x _ => nComp x && chk T P top false e ck x
    | _ => false
  | .asg t e, ck, s => match s with
    | .Assign [tg] x _ => chkT t ck tg && (chk T P top false e ck x && (asgC ck tg x || (match tg, x, t with
      | .Name y py, .ListComp _ _ scope lp, .name _ => isCompE e && swapC ck y py scope lp
      | _, _, _ => false)))
    | _ => false
  | .seti a i e, ck, s => match s with
    | .Assign [.Subscript l r _] x _ => nSlice r && (chk T P top false a ck l && (chk T P top false i ck r && chk T P top false e ck x))
    | _ => false
  | .setf o f e, ck, s => match s with
    | .Assign [.Attribute l n _] x _ => decide (n = T.anm f) && (chk T P top false o ck l && chk T P top false e ck x)
    | _ => false
  | .aug i o e, ck, s => match s with
    | .AugAssign (.Name n _) op x _ => ck.loc i n && ((decide (o = .add) || decide (o = .sub)) && (opEq o op && chk T P top false e ck x))
    | _ => false
  | .ret e, ck, s => match s with
    | .Return (some x) _ => chk T P top false e ck x
    | _ => false
  | .retN, _, s => match s with
    | .Return none _ => true
    | _ => false
  | .ife c a b, ck, s => match s with
    | .If c' a' b' _ => chk T P top true c ck c' && (chkB a ck a' && chkB b ck b')
    | _ => false
  | .forS t it body, ck, s => match s with
    | .For tg x ss [] _ => nSet x && (chkT t ck tg && (chkI T P top it ck tg x && chkB body ck ss))
    | _ => false
  | .whileS c body, ck, s => match s with
    | .While c' ss [] _ => chk T P top true c ck c' && chkB body ck ss
    | _ => false
  | .brk, _, s => match s with
    | .Break _ => true
    | _ => false
  | .cnt, _, s => match s with
    | .Continue _ => true
    | _ => false
  | .pass, _, s => match s with
    | .Pass _ => true
    | _ => false
  | _, _, _ => false
def chkB : List S → Ck → List Stmt → Bool
  | [], _, ss => match ss with
    | [] => true
    | _ => false
  | .bad :: _, _, _ => true
  | .fgt _ :: r, ck, ss => chkB r ck ss
  | .frz _ :: r, ck, ss => chkB r ck ss
  | st :: r, ck, ss => match ss with
    | s :: ss => chkS st ck s && chkB r ck ss
    | _ => false
end
end
end MP
set_option autoImplicit false
set_option linter.all false
set_option maxRecDepth 10000
set_option maxHeartbeats 4000000
/-! MPs: what the checker passes does what the small language says. -/
namespace MP
open PySem PySem.Spec PyProof.Rows L2
/-- what a def's body sees of the text -/
structure Gctx (prog : Program) (w : World) (K : PySem.W.Frag) (mg : Str → Option Value) (base : Heap) (A : Around) (T : Tab) (P : Prog) (top : Nat → Bool) (k : Nat) (g : G) : Prop where
  tab : TabOk K T P
  fre : ∀ x ∈ bnames, mg x = none
  gint : ∀ i d, P.glob i = some d → ∃ v t, d = .int v ∧ mg (T.gnm i) = some (.int v t)
  room : Room (k + 1) A
  fns : ∀ f fn, P.fn f = some fn → top f = true → fn.dfl = [] → ∃ a fd ps, mg (T.fnm f) = some (.ref a) ∧ PySem.W.keepIn K (.ref a) = true ∧ Binds K fd ps [] ∧ FnOk prog w K mg base (L2.CX prog w) k a fd ps (spF K T P fn.np (g.call f))
  mks : ∀ c kc f fn, P.cls c = some kc → kc.exn = false → kc.init = some f → P.fn f = some fn → fn.dfl = [] → ∃ a fd ps, Mk K (ca K T c) a ∧ Binds K fd ps [] ∧ FnOk prog w K mg base (L2.CX prog w) k a fd ps (spF K T P fn.np (g.call f))
  clsG : ∀ c kc, P.cls c = some kc → mg (T.cnm c) = some (.ref (ca K T c))
  gc : g.cls = P.cls
  gs : g.sub = P.sub
  gg : g.glob = P.glob
  gn : ∀ f fn, P.fn f = some fn → g.np f = fn.np ∧ g.dfl f = fn.dfl
structure Ctx (X : Cx) (ck : Ck) : Prop where
  N : X.N = ck.N
  nd : X.N.Nodup
  sc : X.env.scope = ck.sc
  fn : ∀ x, (match ck.fn with
    | none => true
    | some s0 => s0.names.lookup x == some .cell) = true → X.fn x = true
  calm : X.calm = true
  hp : PassesOwn (model X.prog X.w) X.A X.env X.xe
  fk : X.env.scope.kind = .function
abbrev FE := Env → Sto → R D
/-- expressions one by one -/
inductive MEs (K : PySem.W.Frag) (T : Tab) (P : Prog) (X : Cx) (W : WX) : List FE → List Expr → Prop
  | nil : MEs K T P X W [] []
  | cons {f : FE} {fs : List FE} {x : Expr} {xs : List Expr} (h : ME K T P X W x f) (t : MEs K T P X W fs xs) : MEs K T P X W (f :: fs) (x :: xs)
inductive MTs (K : PySem.W.Frag) (T : Tab) (P : Prog) (X : Cx) (W : WX) : List FE → List Expr → Prop
  | nil : MTs K T P X W [] []
  | cons {f : FE} {fs : List FE} {x : Expr} {xs : List Expr} (h : MT K T P X W x (tru f)) (t : MTs K T P X W fs xs) : MTs K T P X W (f :: fs) (x :: xs)
def listF : List FE → Env → Sto → R (List D)
  | [], _, s => .ok [] s
  | f :: fs, env, s => (f env s).bind fun x s => (listF fs env s).bind fun xs s => .ok (x :: xs) s
theorem evEs_list (g : G) : ∀ es : List E, evEs g es = listF (es.map (evE g))
  | [] => rfl
  | e :: es => by
    funext env s
    simp only [evEs, List.map_cons, listF, evEs_list g es]
theorem evAnd_list (g : G) : ∀ es : List E, evAnd g es = andF (es.map (evE g))
  | [] => rfl
  | [e] => rfl
  | e :: e' :: es => by
    funext env s
    simp only [evAnd, List.map_cons, andF]
    rw [evAnd_list g (e' :: es)]
    rfl
theorem evOr_list (g : G) : ∀ es : List E, evOr g es = orF (es.map (evE g))
  | [] => rfl
  | [e] => rfl
  | e :: e' :: es => by
    funext env s
    simp only [evOr, List.map_cons, orF]
    rw [evOr_list g (e' :: es)]
    rfl
theorem listF_len : ∀ (fs : List FE) (env : Env) (s : Sto) (xs : List D) (s' : Sto), listF fs env s = .ok xs s' → xs.length = fs.length
  | [], _, _, _, _, h => by cases h; rfl
  | f :: fs, env, s, xs, s', h => by
    simp only [listF] at h
    cases e1 : f env s with
    | ok x s1 =>
      rw [e1] at h
      simp only [MP.R.bind_ok] at h
      cases e2 : listF fs env s1 with
      | ok ys s2 =>
        rw [e2] at h
        simp only [MP.R.bind_ok] at h
        cases h
        simp [listF_len fs env s1 ys _ e2]
      | ex => rw [e2] at h; cases h
      | no => rw [e2] at h; cases h
    | ex => rw [e1] at h; cases h
    | no => rw [e1] at h; cases h
theorem evEs_len (g : G) {es : List E} {env : Env} {s : Sto} {xs : List D} {s' : Sto} (h : evEs g es env s = .ok xs s') : xs.length = es.length := by
  rw [evEs_list] at h
  rw [listF_len _ _ _ _ _ h, List.length_map]
section
variable {T : Tab} {P : Prog} {X : Cx} {W : WX} {env : PySem.Env} {pos : Pos} {top : Nat → Bool} {k : Nat} {g : G}
theorem star_cons {x : Expr} {xs : List Expr} (h : nStar x = true) : starEach (x :: xs) env = (false, eval x env) :: starEach xs env := by
  cases x <;> first | rfl | cases h
theorem star_any {pos : Pos} {env : PySem.Env} : ∀ {xs : List Expr}, xs.all nStar = true → (backTo pos (starEach xs env)).any (·.1) = false
  | [], _ => rfl
  | x :: xs, h => by
    simp only [List.all_cons, Bool.and_eq_true] at h
    rw [star_cons h.1]
    have := star_any (pos := pos) (env := env) (xs := xs) h.2
    simp only [backTo, List.map_cons, List.any_cons, Bool.false_or] at this ⊢
    exact this
theorem ma_of : ∀ {fs : List FE} {xs : List Expr}, MEs X.K T P X W fs xs → xs.all nStar = true → MA X.K T P X W xs (listF fs)
  | _, _, .nil, _ => ma_nil
  | _, _, .cons h t, hs => by
    simp only [List.all_cons, Bool.and_eq_true] at hs
    exact ma_cons h (ma_of t hs.2) (star_cons hs.1)
theorem and_of {pos : Pos} : ∀ {fs : List FE} {xs : List Expr}, MEs X.K T P X W fs xs → fs ≠ [] → ME X.K T P X W (.BoolOp .And xs pos) (andF fs)
  | _, _, .nil, h => absurd rfl h
  | _, _, .cons h .nil, _ => me_and1 h
  | _, _, .cons h (.cons h' t), _ => me_and h (and_of (.cons h' t) (by simp))
theorem or_of {pos : Pos} : ∀ {fs : List FE} {xs : List Expr}, MEs X.K T P X W fs xs → fs ≠ [] → ME X.K T P X W (.BoolOp .Or xs pos) (orF fs)
  | _, _, .nil, h => absurd rfl h
  | _, _, .cons h .nil, _ => me_or1 h
  | _, _, .cons h (.cons h' t), _ => me_or h (or_of (.cons h' t) (by simp))
theorem andT_of {pos : Pos} : ∀ {fs : List FE} {xs : List Expr}, MTs X.K T P X W fs xs → fs ≠ [] → MW X.K T P X W (.BoolOp .And xs pos) (tru (andF fs))
  | _, _, .nil, h => absurd rfl h
  | _, _, .cons h .nil, _ => mw_and1 h
  | _, _, .cons h (.cons h' t), _ => mw_and h (andT_of (.cons h' t) (by simp))
theorem orT_of {pos : Pos} : ∀ {fs : List FE} {xs : List Expr}, MTs X.K T P X W fs xs → fs ≠ [] → MW X.K T P X W (.BoolOp .Or xs pos) (tru (orF fs))
  | _, _, .nil, h => absurd rfl h
  | _, _, .cons h .nil, _ => mw_or1 h
  | _, _, .cons h (.cons h' t), _ => mw_or h (orT_of (.cons h' t) (by simp))
theorem me_bad {x : Expr} : ME X.K T P X W x (fun _ _ => .no) := ⟨fun pins s σ H Q I q => by
  obtain ⟨env, s, w, E, S, o⟩ := q
  exact o.elim⟩
theorem mt_bad {x : Expr} : MT X.K T P X W x (tru fun _ _ => .no) := ⟨fun pins s σ H Q I q => by
  obtain ⟨env, s, w, E, S, o⟩ := q
  exact o.elim⟩
theorem base_of {x : Expr} {f : Str} (h : nCall x = true) : attributeBase x f env (eval x env) = eval x env := by
  cases x <;> first | rfl | cases h
theorem mark_of {op : CmpOp} {x : Expr} (h : nSet x = true) : behindInMarks op x = false := by
  cases x <;> first | rfl | cases h
theorem ix_of {x : Expr} (h : nSlice x = true) : PlainIx x := by
  cases x <;> first | exact fun _ _ => rfl | cases h
theorem set_of {x : Expr} (h : nSet x = true) : ∀ v, foldedSetIterable x env v = pure v := by
  cases x <;> first | exact fun _ => rfl | cases h
/-- generic comparisons -/
theorem cmp_ok {o : COp} {op : CmpOp} (hu : X.A.units + 64 < cLine) (h : cmpEq o op = true) : OpM T P X (compareOp op) (fun s x y => (cmpop s o x y).map D.bl) := by
  cases o <;> cases op <;> first | cases h | skip
  · exact op_eqM hu
  · exact op_neM hu
  · exact op_ltM hu
  · exact op_intM op_le (fun s a b r h => by simp only [cmpop] at h; split at h <;> first | (cases h; exact ⟨_, _, rfl, rfl, rfl⟩) | cases h)
  · exact op_intM op_gt (fun s a b r h => by simp only [cmpop] at h; split at h <;> first | (cases h; exact ⟨_, _, rfl, rfl, rfl⟩) | cases h)
  · exact op_intM op_ge (fun s a b r h => by simp only [cmpop] at h; split at h <;> first | (cases h; exact ⟨_, _, rfl, rfl, rfl⟩) | cases h)
  · exact op_isM
  · exact op_isnotM
  · exact op_inM
  · exact op_notinM
theorem opr {P : Prop} {b c : Bool} (h : (b && c) = true) : b = true ∧ c = true := by simpa using h
variable {ck : Ck}
theorem ctx_gl {x : Str} (C : Ctx X ck) (h : ck.gl x = true) : Gl X x ∧ (x == ("__debug__" : Str)) = false := by
  unfold Ck.gl at h
  simp only [Bool.and_eq_true, decide_eq_true_eq, Bool.not_eq_true'] at h
  refine ⟨?_, h.2⟩
  show X.env.scope.names.lookup x = _
  rw [C.sc]
  exact h.1
theorem ctx_vis {x : Str} {i : Nat} (C : Ctx X ck) (h : ck.vis i x = true) : X.N[i]? = some x ∧ Vis X.env.scope x ∧ (x == ("__debug__" : Str)) = false ∧ (x == ("__classdict__" : Str)) = false := by
  unfold Ck.vis at h
  simp only [Bool.and_eq_true, decide_eq_true_eq, Bool.not_eq_true'] at h
  refine ⟨by rw [C.N]; exact h.1, ?_, h.2.2.1, h.2.2.2⟩
  unfold Vis
  rw [C.sc]
  have := h.2.1
  revert this
  cases ck.sc.names.lookup x with
  | none => intro z; cases z
  | some k => cases k <;> first | (intro _; simp; done) | (intro z; cases z)
theorem ctx_loc {x : Str} {i : Nat} (C : Ctx X ck) (h : ck.loc i x = true) : X.N[i]? = some x ∧ Loc X.env.scope x ∧ (X.fn x = true ∨ X.env.scope.names.lookup x = some .local) := by
  unfold Ck.loc at h
  simp only [Bool.and_eq_true, decide_eq_true_eq, Bool.or_eq_true] at h
  unfold L2.Loc
  rw [C.N, C.sc]
  rcases h.2 with q | ⟨q1, q2⟩
  · exact ⟨h.1, .inl q, .inr q⟩
  · exact ⟨h.1, .inr q1, .inl (C.fn x q2)⟩
theorem ctx_free {x : Str} (G : Gctx X.prog X.w X.K X.mg X.base X.A T P top k g) (h : x ∈ bnames) : X.mg x = none := G.fre x h
/-! ### targets -/
mutual
theorem sndT (C : Ctx X ck) : ∀ (t : MP.T) (x : Expr), MP.chkT t ck x = true → MG X.K T P X x t
  | .name i, x, h => by
    cases x <;> simp only [MP.chkT] at h <;> first | cases h | skip
    obtain ⟨h1, h2, h3⟩ := ctx_loc C h
    exact mg_name C.nd h1 h2 h3
  | .tup ts, x, h => by
    cases x <;> simp only [MP.chkT] at h <;> first | cases h | skip
    rename_i xs k pos
    obtain ⟨h1, h2, h3⟩ := sndTs C ts xs h
    exact mg_tup C.calm h1 rfl h2 h3 asgTs_len
theorem sndTs (C : Ctx X ck) : ∀ (ts : List MP.T) (xs : List Expr), MP.chkTs ts ck xs = true → MGs X.K T P X xs ts ∧ ts.length = (assignEach xs X.env).length ∧ (assignEach xs X.env).findIdx? (·.1) = none
  | [], xs, h => by
    cases xs with
    | nil => exact ⟨mgs_nil, rfl, rfl⟩
    | cons => simp [MP.chkTs] at h
  | t :: ts, xs, h => by
    cases xs with
    | nil => simp [MP.chkTs] at h
    | cons x xs =>
      simp only [MP.chkTs, Bool.and_eq_true] at h
      have ht := sndT C t x h.1
      obtain ⟨h1, h2, h3⟩ := sndTs C ts xs h.2
      have hs : assignEach (x :: xs) X.env = (false, assign x X.env) :: assignEach xs X.env := by
        have hx := h.1
        cases x <;> first | rfl | (cases t <;> simp [MP.chkT] at hx)
      refine ⟨mgs_cons ht h1 (by rw [hs]; rfl), by rw [hs]; simp [h2], ?_⟩
      rw [hs, List.findIdx?_cons, h3]
      rfl
end
/-! ### a block's context -/
theorem ctx_blk {scope : Scope} {own : List (Str × Nat)} (C : Ctx X ck) (ok : BlkOk X.N X.env.scope scope own) (s : Shared) (H : Hp) (Ca : Addr) (cl : List (Str × Addr)) (fp : List Addr) : Ctx (X.blk s H scope (compEnvC scope cl Ca X.env) fp) (ck.blk scope) where
  N := C.N
  nd := C.nd
  sc := by
    show relabel scope X.env = relS scope ck.sc
    rw [← C.sc]
    rfl
  fn := fun x h => h
  calm := C.calm
  hp := PassesOwn.never
  fk := ok.kind
/-- what a comprehension's check gives -/
structure CompOk (K : PySem.W.Frag) (T : Tab) (P : Prog) (X : Cx) (W : WX) (scope : Scope) (own : List (Str × Nat)) (tg iter elt : Expr) (ifs : List Expr) (t : MP.T) (fi : Env → Sto → R (List D × Gd)) (fc fe : FE) : Prop where
  ok : BlkOk X.N X.env.scope scope own
  sl : ∀ i ∈ slotsT t, i ∈ own.map (·.2)
  it : MI K T P X W tg iter fi
  tg : ∀ (s : Shared) (H : Hp) (C : Addr) (cl : List (Str × Addr)) (fp : List Addr), MG K T P (X.blk s H scope (compEnvC scope cl C X.env) fp) tg t
  ifs : ∀ (s : Shared) (H : Hp) (C : Addr) (cl : List (Str × Addr)) (fp : List Addr), PTs (X.blk s H scope (compEnvC scope cl C X.env) fp) ifs (tYesM K T P fc)
  elt : ∀ (s : Shared) (H : Hp) (C : Addr) (cl : List (Str × Addr)) (fp : List Addr), ME K T P (X.blk s H scope (compEnvC scope cl C X.env) fp) noW elt fe
  fs : ∀ x, foldedSetIterable iter X.env x = pure x
theorem own_map (ck : Ck) (own : List Nat) : (ownN ck own).map (·.2) = own := by
  unfold ownN
  rw [List.map_map]
  exact List.map_id own
end
section
variable {T : Tab} {P : Prog} {top : Nat → Bool} {k : Nat} {g : G}
def Both (K : PySem.W.Frag) (T : Tab) (P : Prog) (X : Cx) (W : WX) (t : Bool) (x : Expr) (f : FE) : Prop := if t then MT K T P X W x (tru f) else ME K T P X W x f
theorem both_of {X : Cx} {W : WX} {t : Bool} {x : Expr} {f : FE} (h : ME X.K T P X W x f) (he : ∀ whole, isTrue x X.env whole = (do let v ← whole; standAt x.pos; holding [v] (PySem.truthy v))) : Both X.K T P X W t x f := by
  cases t with
  | false => exact h
  | true => exact mt_of h he
theorem both_f {X : Cx} {W : WX} {x : Expr} {f : FE} (h : Both X.K T P X W false x f) : ME X.K T P X W x f := h
theorem both_t {X : Cx} {W : WX} {x : Expr} {f : FE} (h : Both X.K T P X W true x f) : MT X.K T P X W x (tru f) := h
end
end MP
set_option autoImplicit false
set_option linter.all false
set_option maxRecDepth 10000
set_option maxHeartbeats 8000000
/-! MPt: expressions: the checker's word is kept. -/
namespace MP
open PySem PySem.Spec PyProof.Rows L2
section
variable {T : Tab} {P : Prog} {top : Nat → Bool} {k : Nat} {g : G}
theorem lit_ok {X : Cx} {W : WX} {d : D} {c : Const} {j : Nat} {pos : Pos} (h : litEq d c = true) : ME X.K T P X W (.Constant c j pos) (fun _ s => .ok d s) := by
  cases d <;> cases c <;> simp only [litEq] at h <;> first | cases h | skip
  · exact me_non
  · rw [eq_of_beq h]; exact me_bl
  · rw [eq_of_beq h]; exact me_int
  · rw [of_decide_eq_true h]; exact me_str
theorem opb_ok {X : Cx} {o : BOp} {op : Operator} (h : opEq o op = true) : OpM T P X (binaryOp op) (fun s x y => binop s o x y) := by
  have := op_binop (T := T) (P := P) (X := X) o
  cases o <;> cases op <;> first | exact this | cases h
theorem bn (x : Str) (h : bnames.contains x = true) : x ∈ bnames := by simpa using h
/-- a built-in function of the list, called -/
theorem bi_ok {X : Cx} {W : WX} {A : Around} (hc : X.calm = true) (b : Bi) {n : Str} {p pos : Pos} {xs : List Expr} {fl : Env → Sto → R (List D)} (hn : n = Str.ofString (biName b).1) (hg : Gl X n) (hm : X.mg n = none) (ha : MA X.K T P X W xs fl) (hs : xs.all nStar = true)
    (hl : ∀ env s xs s', fl env s = .ok xs s' → xs.length = (biName b).2) (hx : xs.length = (biName b).2) :
    ME X.K T P X W (.Call (.Name n p) xs [] pos) (fun env s => (fl env s).bind fun xs s => .opt (bfn s b xs) s) := by
  subst hn
  match xs, hx with
  | [], hx => cases b <;> cases hx
  | e :: es, hx =>
    have hs' := hs
    simp only [List.all_cons, Bool.and_eq_true] at hs'
    have st := star_cons (env := X.env) (xs := es) hs'.1
    have an := star_any (pos := pos) (env := X.env) hs'.2
    have fin : ∀ {f : Env → Sto → R D} {f' : Env → Sto → R D}, ME X.K T P X W (.Call (.Name (Str.ofString (biName b).1) p) (e :: es) [] pos) f → f = f' → ME X.K T P X W (.Call (.Name (Str.ofString (biName b).1) p) (e :: es) [] pos) f' := fun h e => e ▸ h
    have eqn : ∀ {kf : Sto → List D → R D}, (∀ s ds, ds.length = (biName b).2 → kf s ds = .opt (bfn s b ds) s) → (fun env s => (fl env s).bind fun xs s => kf s xs) = (fun env s => (fl env s).bind fun xs s => R.opt (bfn s b xs) s) := fun {kf} h => by
      funext env s
      cases r : fl env s with
      | ok ds s1 => simp only [MP.R.bind_ok]; exact h s1 ds (hl _ _ _ _ r)
      | ex => rfl
      | no => rfl
    cases b with
    | len =>
      refine fin (me_callB cm_len (fun s ds c fs s' => by split <;> first | exact opt_ne | exact fun z => nomatch z) hg hm (by decide +kernel) ha (by decide) (by decide) st an) (eqn fun s ds h => ?_)
      match ds, h with
      | [d], _ => rfl
    | abs =>
      refine fin (me_callB cm_abs (fun s ds c fs s' => by split <;> first | exact opt_ne | exact fun z => nomatch z) hg hm (by decide +kernel) ha (by decide) (by decide) st an) (eqn fun s ds h => ?_)
      match ds, h with
      | [d], _ => cases d <;> rfl
    | max2 =>
      refine fin (me_callB (cm_max2 hc) (fun s ds c fs s' => by split <;> first | exact opt_ne | exact fun z => nomatch z) hg hm (by decide +kernel) ha (by decide) (by decide) st an) (eqn fun s ds h => ?_)
      match ds, h with
      | [d, e], _ => cases d <;> cases e <;> rfl
    | min2 =>
      refine fin (me_callB (cm_min2 hc) (fun s ds c fs s' => by split <;> first | exact opt_ne | exact fun z => nomatch z) hg hm (by decide +kernel) ha (by decide) (by decide) st an) (eqn fun s ds h => ?_)
      match ds, h with
      | [d, e], _ => cases d <;> cases e <;> rfl
    | toInt =>
      refine fin (me_callTy cm_int (fun s ds c fs s' => by split <;> first | exact opt_ne | exact fun z => nomatch z) hg hm (by decide +kernel) ha (by decide) (by decide) st an) (eqn fun s ds h => ?_)
      match ds, h with
      | [d], _ => cases d <;> rfl
    | toTup =>
      refine fin (me_callTy cm_tuple (fun s ds c fs s' => by
        split
        · rename_i d
          cases seqOf s d <;> exact fun z => nomatch z
        · exact fun z => nomatch z) hg hm (by decide +kernel) ha (by decide) (by decide) st an) (eqn fun s ds h => ?_)
      match ds, h with
      | [d], _ => simp only [bfn]; cases seqOf s d <;> rfl
    | sum =>
      refine fin (me_callB (cm_sum hc) (fun s ds c fs s' => by split <;> first | exact opt_ne | exact fun z => nomatch z) hg hm (by decide +kernel) ha (by decide) (by decide) st an) (eqn fun s ds h => ?_)
      match ds, h with
      | [d], _ => rfl
    | any =>
      refine fin (me_callB (cm_any hc) (fun s ds c fs s' => by split <;> first | exact opt_ne | exact fun z => nomatch z) hg hm (by decide +kernel) ha (by decide) (by decide) st an) (eqn fun s ds h => ?_)
      match ds, h with
      | [d], _ => rfl
    | all =>
      refine fin (me_callB (cm_all hc) (fun s ds c fs s' => by split <;> first | exact opt_ne | exact fun z => nomatch z) hg hm (by decide +kernel) ha (by decide) (by decide) st an) (eqn fun s ds h => ?_)
      match ds, h with
      | [d], _ => rfl
    | maxL =>
      refine fin (me_callB (cm_max hc) (fun s ds c fs s' => by split <;> first | exact opt_ne | exact fun z => nomatch z) hg hm (by decide +kernel) ha (by decide) (by decide) st an) (eqn fun s ds h => ?_)
      match ds, h with
      | [d], _ => rfl
    | minL =>
      refine fin (me_callB (cm_min hc) (fun s ds c fs s' => by split <;> first | exact opt_ne | exact fun z => nomatch z) hg hm (by decide +kernel) ha (by decide) (by decide) st an) (eqn fun s ds h => ?_)
      match ds, h with
      | [d], _ => rfl
end
end MP
set_option autoImplicit false
set_option linter.all false
set_option maxRecDepth 10000
set_option maxHeartbeats 1000000
/-! MPu: expressions: the checker's word is kept. -/
namespace MP
open PySem PySem.Spec PyProof.Rows L2
section
variable {T : Tab} {P : Prog} {top : Nat → Bool} {k : Nat} {g : G}
theorem both_cong {K : PySem.W.Frag} {X : Cx} {W : WX} {t : Bool} {x : Expr} {f f' : FE} (h : Both K T P X W t x f) (e : ∀ env s, f env s = f' env s) : Both K T P X W t x f' := by
  have : f = f' := funext fun env => funext fun s => e env s
  exact this ▸ h
theorem me_cong {K : PySem.W.Frag} {X : Cx} {W : WX} {x : Expr} {f f' : FE} (h : ME K T P X W x f) (e : ∀ env s, f env s = f' env s) : ME K T P X W x f' := by
  have : f = f' := funext fun env => funext fun s => e env s
  exact this ▸ h
theorem mi_cong {K : PySem.W.Frag} {X : Cx} {W : WX} {tg x : Expr} {f f' : Env → Sto → R (List D × Gd)} (h : MI K T P X W tg x f) (e : ∀ env s, f env s = f' env s) : MI K T P X W tg x f' := by
  have : f = f' := funext fun env => funext fun s => e env s
  exact this ▸ h
theorem tyEq_ok {X : Cx} {ck : Ck} {ty : Ty} {tn : Str} {p : Pos} (C : Ctx X ck) (Gc : Gctx X.prog X.w X.K X.mg X.base X.A T P top k g) (hg : ck.gl tn = true) (h : tyEq T P ty tn = true) :
    PE X (.Name tn p) (tC (tyVV X.K T ty)) ∧ ∀ c, ty = .cls c → ∃ k, P.cls c = some k := by
  obtain ⟨h1, h2⟩ := ctx_gl C hg
  cases ty with
  | val => cases h
  | cls c =>
    simp only [tyEq, Bool.and_eq_true, decide_eq_true_eq] at h
    obtain ⟨rfl, hc⟩ := h
    obtain ⟨kc, hk⟩ := Option.isSome_iff_exists.mp hc
    exact ⟨pe_glob h1 (Gc.clsG _ _ hk) rfl h2, fun c' e => by cases e; exact ⟨kc, hk⟩⟩
  | _ =>
    have h := of_decide_eq_true (show decide (tn = _) = true from h)
    subst h
    exact ⟨pe_bltn h1 (Gc.fre _ (bn _ (by decide))) (by decide +kernel) rfl (by decide) h2, fun c' e => nomatch e⟩
theorem chks_len {t : Bool} {ck : Ck} : ∀ {es : List E} {xs : List Expr}, chks T P top t es ck xs = true → xs.length = es.length
  | [], [], _ => rfl
  | [], _ :: _, h => by simp [chks] at h
  | _ :: _, [], h => by simp [chks] at h
  | e :: es, x :: xs, h => by
    simp only [chks, Bool.and_eq_true] at h
    simp [chks_len h.2]
theorem takes_no {X : Cx} : Takes X noW := fun _ _ ⟨_, _, _, _, _, _, _, _, _, _, _, _, _, _, _, _, w⟩ => w.elim
theorem units_ok {X : Cx} (Gc : Gctx X.prog X.w X.K X.mg X.base X.A T P top k g) : X.A.units + 64 < cLine := by have := Gc.room.un; omega
theorem fill_nil {np : Nat} (xs : List D) : fill np xs [] = xs := by unfold fill; simp
end
section
variable (T : Tab) (P : Prog) (top : Nat → Bool) (k : Nat) (g : G)
def SE (e : E) : Prop := ∀ (X : Cx) (ck : Ck) (W : WX), Ctx X ck → Gctx X.prog X.w X.K X.mg X.base X.A T P top k g → Takes X W → ∀ (t : Bool) (x : Expr), chk T P top t e ck x = true → Both X.K T P X W t x (evE g e)
def SEs (es : List E) : Prop := ∀ (X : Cx) (ck : Ck) (W : WX), Ctx X ck → Gctx X.prog X.w X.K X.mg X.base X.A T P top k g → Takes X W → ∀ (xs : List Expr), chks T P top false es ck xs = true → MEs X.K T P X W (es.map (evE g)) xs
def STs (es : List E) : Prop := ∀ (X : Cx) (ck : Ck) (W : WX), Ctx X ck → Gctx X.prog X.w X.K X.mg X.base X.A T P top k g → Takes X W → ∀ (xs : List Expr), chks T P top true es ck xs = true → MTs X.K T P X W (es.map (evE g)) xs
def SO (e : Option E) : Prop := ∀ (X : Cx) (ck : Ck) (W : WX), Ctx X ck → Gctx X.prog X.w X.K X.mg X.base X.A T P top k g → Takes X W → ∀ (x : Option Expr), chkO T P top e ck x = true → MO X.K T P X W x (evO g e)
def SI (it : I) : Prop := ∀ (X : Cx) (ck : Ck) (W : WX), Ctx X ck → Gctx X.prog X.w X.K X.mg X.base X.A T P top k g → Takes X W → ∀ (tg x : Expr), chkI T P top it ck tg x = true → MI X.K T P X W tg x (evI g it) ∧ ∀ v, foldedSetIterable x X.env v = pure v
end
section
variable {T : Tab} {P : Prog} {top : Nat → Bool} {k : Nat} {g : G}
theorem sEs_nil : SEs T P top k g [] := fun X ck W C Gc tk xs h => by
  cases xs with
  | nil => exact .nil
  | cons => simp [chks] at h
theorem sEs_cons {e : E} {es : List E} (h1 : SE T P top k g e) (h2 : SEs T P top k g es) : SEs T P top k g (e :: es) := fun X ck W C Gc tk xs h => by
  cases xs with
  | nil => simp [chks] at h
  | cons x xs =>
    simp only [chks, Bool.and_eq_true] at h
    exact .cons (both_f (h1 X ck W C Gc tk false x h.1)) (h2 X ck W C Gc tk xs h.2)
theorem sTs_nil : STs T P top k g [] := fun X ck W C Gc tk xs h => by
  cases xs with
  | nil => exact .nil
  | cons => simp [chks] at h
theorem sTs_cons {e : E} {es : List E} (h1 : SE T P top k g e) (h2 : STs T P top k g es) : STs T P top k g (e :: es) := fun X ck W C Gc tk xs h => by
  cases xs with
  | nil => simp [chks] at h
  | cons x xs =>
    simp only [chks, Bool.and_eq_true] at h
    exact .cons (both_t (h1 X ck W C Gc tk true x h.1)) (h2 X ck W C Gc tk xs h.2)
theorem sO_none : SO T P top k g none := fun X ck W C Gc tk x h => by
  cases x with
  | none => exact mo_none
  | some => simp [chkO] at h
theorem sO_some {e : E} (h1 : SE T P top k g e) : SO T P top k g (some e) := fun X ck W C Gc tk x h => by
  cases x with
  | none => simp [chkO] at h
  | some x =>
    simp only [chkO] at h
    exact mo_some (both_f (h1 X ck W C Gc tk false x h))
theorem sE_bad   : SE T P top k g (.bad) := by
  intro X ck W C Gc tk t x h
  refine both_cong (f := fun _ _ => .no) ?_ fun env s => by rw [evE]
  cases t with
  | false => exact me_bad
  | true => exact mt_bad
theorem sE_var (i : Nat)  : SE T P top k g (.var i) := by
  intro X ck W C Gc tk t x h
  simp only [chk] at h
  split at h
  · obtain ⟨h1, h2, h3, h4⟩ := ctx_vis C h
    exact both_cong (both_of (me_var h1 h2 h3 h4) fun _ => rfl) fun env s => by rw [evE]
  · cases h
theorem sE_lit (d : D)  : SE T P top k g (.lit d) := by
  intro X ck W C Gc tk t x h
  simp only [chk] at h
  split at h
  · exact both_cong (both_of (lit_ok h) fun _ => rfl) fun env s => by rw [evE]
  · cases h
theorem sE_glob (i : Nat)  : SE T P top k g (.glob i) := by
  intro X ck W C Gc tk t x h
  simp only [chk] at h
  split at h
  · simp only [Bool.and_eq_true, decide_eq_true_eq] at h
    obtain ⟨h1, rfl, h3⟩ := h
    obtain ⟨d, hd⟩ := Option.isSome_iff_exists.mp h3
    obtain ⟨v, tt, rfl, hm⟩ := Gc.gint _ _ hd
    obtain ⟨q1, q2⟩ := ctx_gl C h1
    exact both_cong (both_of (me_glob q1 hm q2) fun _ => rfl) fun env s => by rw [evE, Gc.gg, hd]; rfl
  · cases h
theorem sE_bin (o : BOp) (a b : E) (i_a : SE T P top k g a) (i_b : SE T P top k g b) : SE T P top k g (.bin o a b) := by
  intro X ck W C Gc tk t x h
  simp only [chk] at h
  split at h
  · simp only [Bool.and_eq_true] at h
    obtain ⟨h1, h2, h3⟩ := h
    exact both_cong (both_of (me_op2 (opb_ok h1) (both_f (i_a X ck W C Gc tk false _ h2)) (both_f (i_b X ck W C Gc tk false _ h3))) fun _ => rfl) fun env s => by rw [evE]
  · cases h
theorem sE_neg (a : E) (i_a : SE T P top k g a) : SE T P top k g (.neg a) := by
  intro X ck W C Gc tk t x h
  simp only [chk] at h
  split at h
  · simp only [Bool.and_eq_true, decide_eq_true_eq] at h
    obtain ⟨rfl, h2⟩ := h
    exact both_cong (both_of (me_neg (both_f (i_a X ck W C Gc tk false _ h2))) fun _ => rfl) fun env s => by rw [evE] <;> rfl
  · cases h
theorem sE_cmp (o : COp) (a b : E) (i_a : SE T P top k g a) (i_b : SE T P top k g b) : SE T P top k g (.cmp o a b) := by
  intro X ck W C Gc tk t x h
  simp only [chk] at h
  split at h
  · simp only [Bool.and_eq_true] at h
    obtain ⟨h1, h2, h3, h4⟩ := h
    have ha := both_f (i_a X ck W C Gc tk false _ h3)
    have hb := both_f (i_b X ck W C Gc tk false _ h4)
    refine both_cong (f := fun env s => (evE g a env s).bind fun x s => (evE g b env s).bind fun y s => .opt ((cmpop s o x y).map D.bl) s) ?_ fun env s => by rw [evE]
    cases t with
    | false => exact me_cmp2 (cmp_ok (units_ok Gc) h1) (mark_of h2) ha hb
    | true => exact mt_cmp2 (cmp_ok (units_ok Gc) h1) (mark_of h2) ha hb
  · cases h
theorem sE_chain (o o' : COp) (a b c : E) (i_a : SE T P top k g a) (i_b : SE T P top k g b) (i_c : SE T P top k g c) : SE T P top k g (.chain o o' a b c) := by
  intro X ck W C Gc tk t x h
  simp only [chk] at h
  split at h
  · simp only [Bool.and_eq_true] at h
    obtain ⟨⟨h1, h1'⟩, h2, h3, h4, h5⟩ := h
    have ha := both_f (i_a X ck W C Gc tk false _ h3)
    have hb := both_f (i_b X ck W C Gc tk false _ h4)
    have hc := both_f (i_c X ck W C Gc tk false _ h5)
    refine both_cong (f := chF (fun s => cmpop s o) (fun s => cmpop s o') (evE g a) (evE g b) (evE g c)) ?_ fun env s => by rw [evE]; rfl
    cases t with
    | false => exact me_chain (cmp_ok (units_ok Gc) h1) (cmp_ok (units_ok Gc) h1') ha hb hc (mark_of h2)
    | true => exact mt_chain (cmp_ok (units_ok Gc) h1) (cmp_ok (units_ok Gc) h1') ha hb hc (mark_of h2)
  · cases h
theorem sE_and (es : List E) (is_es : SEs T P top k g es) (it_es : STs T P top k g es) : SE T P top k g (.and es) := by
  intro X ck W C Gc tk t x h
  simp only [chk] at h
  split at h
  · simp only [Bool.and_eq_true, decide_eq_true_eq, Bool.not_eq_true'] at h
    obtain ⟨rfl, h2, h3⟩ := h
    have ne : es.map (evE g) ≠ [] := by cases es <;> simp at h2 ⊢
    refine both_cong (f := andF (es.map (evE g))) ?_ fun env s => by rw [evE, evAnd_list]
    cases t with
    | false => exact and_of (is_es X ck W C Gc tk _ h3) ne
    | true => exact (andT_of (it_es X ck W C Gc tk _ h3) ne).pt
  · cases h
theorem sE_or (es : List E) (is_es : SEs T P top k g es) (it_es : STs T P top k g es) : SE T P top k g (.or es) := by
  intro X ck W C Gc tk t x h
  simp only [chk] at h
  split at h
  · simp only [Bool.and_eq_true, decide_eq_true_eq, Bool.not_eq_true'] at h
    obtain ⟨rfl, h2, h3⟩ := h
    have ne : es.map (evE g) ≠ [] := by cases es <;> simp at h2 ⊢
    refine both_cong (f := orF (es.map (evE g))) ?_ fun env s => by rw [evE, evOr_list]
    cases t with
    | false => exact or_of (is_es X ck W C Gc tk _ h3) ne
    | true => exact (orT_of (it_es X ck W C Gc tk _ h3) ne).pt
  · cases h
theorem sE_not (a : E) (i_a : SE T P top k g a) : SE T P top k g (.not a) := by
  intro X ck W C Gc tk t x h
  simp only [chk] at h
  split at h
  · simp only [Bool.and_eq_true, decide_eq_true_eq] at h
    obtain ⟨rfl, h2⟩ := h
    refine both_cong (f := nt (evE g a)) ?_ fun env s => by rw [evE]; rfl
    have ha := i_a X ck W C Gc tk t _ h2
    cases t with
    | false => exact me_not (both_f ha)
    | true => exact mt_not (both_t ha)
  · cases h
theorem sE_ite (c a b : E) (i_c : SE T P top k g c) (i_a : SE T P top k g a) (i_b : SE T P top k g b) : SE T P top k g (.ite c a b) := by
  intro X ck W C Gc tk t x h
  simp only [chk] at h
  split at h
  · simp only [Bool.and_eq_true, Bool.not_eq_true'] at h
    obtain ⟨rfl, h1, h2, h3⟩ := h
    refine both_cong (f := fun env s => (evE g c env s).bind fun x s => opt1 (MP.truthy s x) fun r => if r then evE g a env s else evE g b env s) ?_ fun env s => by rw [evE]
    exact me_ite (both_t (i_c X ck W C Gc tk true _ h1)) (both_f (i_a X ck W C Gc tk false _ h2)) (both_f (i_b X ck W C Gc tk false _ h3))
  · cases h
theorem sE_tup (es : List E) (is_es : SEs T P top k g es) : SE T P top k g (.tup es) := by
  intro X ck W C Gc tk t x h
  simp only [chk] at h
  split at h
  · simp only [Bool.and_eq_true, decide_eq_true_eq] at h
    obtain ⟨h1, h2, h3⟩ := h
    have hm := ma_of (is_es X ck W C Gc tk _ h3) h2
    rw [← evEs_list] at hm
    exact both_cong (both_of (me_tup hm fun env s xs s' e => by rw [evEs_len g e]; exact h1) fun _ => rfl) fun env s => by rw [evE]
  · cases h
theorem sE_lst (m : Bool) (es : List E) (is_es : SEs T P top k g es) : SE T P top k g (.lst m es) := by
  intro X ck W C Gc tk t x h
  simp only [chk] at h
  split at h
  · simp only [Bool.and_eq_true, decide_eq_true_eq] at h
    obtain ⟨h1, h2, h3⟩ := h
    have hm := ma_of (is_es X ck W C Gc tk _ h3) h2
    rw [← evEs_list] at hm
    exact both_cong (both_of (me_lst (m := m) hm fun env s xs s' e => by rw [evEs_len g e]; exact h1) fun _ => rfl) fun env s => by rw [evE]
  · cases h
theorem sE_dct (ks : List D) (vs : List E)  : SE T P top k g (.dct ks vs) := by
  intro X ck W C Gc tk t x h
  simp only [chk] at h
  split at h
  · simp only [Bool.and_eq_true, List.isEmpty_iff] at h
    obtain ⟨rfl, rfl⟩ := h
    exact both_cong (both_of me_dct0 fun _ => rfl) fun env s => by rw [evE]; simp [evEs]
  · cases h
theorem sE_idx (a b : E) (i_a : SE T P top k g a) (i_b : SE T P top k g b) : SE T P top k g (.idx a b) := by
  intro X ck W C Gc tk t x h
  simp only [chk] at h
  split at h
  · simp only [Bool.and_eq_true] at h
    obtain ⟨h1, h2, h3⟩ := h
    exact both_cong (both_of (me_idx (both_f (i_a X ck W C Gc tk false _ h2)) (both_f (i_b X ck W C Gc tk false _ h3)) (ix_of h1)) fun _ => rfl) fun env s => by rw [evE]
  · cases h
theorem sE_slc (m : Bool) (a : E) (lo hi : Option E) (i_a : SE T P top k g a) (io_lo : SO T P top k g lo) (io_hi : SO T P top k g hi) : SE T P top k g (.slc m a lo hi) := by
  intro X ck W C Gc tk t x h
  simp only [chk] at h
  split at h
  · simp only [Bool.and_eq_true] at h
    obtain ⟨h1, h2, h3⟩ := h
    exact both_cong (both_of (me_slc (m := m) (both_f (i_a X ck W C Gc tk false _ h1)) (io_lo X ck W C Gc tk _ h2) (io_hi X ck W C Gc tk _ h3)) fun _ => rfl) fun env s => by rw [evE]
  · cases h
theorem sE_fld (a : E) (f : Nat) (i_a : SE T P top k g a) : SE T P top k g (.fld a f) := by
  intro X ck W C Gc tk t x h
  simp only [chk] at h
  split at h
  · simp only [Bool.and_eq_true, decide_eq_true_eq] at h
    obtain ⟨rfl, h1, h2⟩ := h
    refine both_cong (both_of (me_fld (g := g) Gc.tab Gc.gc (both_f (i_a X ck W C Gc tk false _ h2)) ?_) fun _ => rfl) fun env s => by rw [evE]
    exact base_of h1
  · cases h
theorem sE_call (f : Nat) (es : List E) (is_es : SEs T P top k g es) : SE T P top k g (.call f es) := by
  intro X ck W C Gc tk t x h
  simp only [chk] at h
  split at h
  · rename_i n p xs pos
    simp only [Bool.and_eq_true, callOk, decide_eq_true_eq] at h
    obtain ⟨h1, ⟨h2, rfl, h4⟩, h5, h6⟩ := h
    split at h4
    · rename_i fn hfn
      simp only [Bool.and_eq_true, decide_eq_true_eq, List.isEmpty_iff] at h4
      obtain ⟨q1, q2, q3⟩ := h4
      obtain ⟨a, fd, ps, r1, r2, r3, r4⟩ := Gc.fns _ _ hfn h2 q3
      obtain ⟨g1, g2⟩ := ctx_gl C h1
      obtain ⟨e1, e2⟩ := Gc.gn _ _ hfn
      have hm := ma_of (is_es X ck W C Gc tk _ h6) h5
      rw [← evEs_list] at hm
      cases xs with
      | nil =>
        cases es with
        | nil => exact absurd q2 (by simp)
        | cons => simp [chks] at h6
      | cons y ys =>
        have h5' := h5
        simp only [List.all_cons, Bool.and_eq_true] at h5'
        exact both_cong (both_of (me_callF r4 tk (Gc.room.mono (Nat.le_succ _)) g1 r1 r2 r3 hm (fun env s xs s' e => by rw [evEs_len g e]; exact q1) g2 (star_cons h5'.1) (star_any h5'.2)) fun _ => rfl) fun env s => by rw [evE, e2, q3]; simp only [fill_nil]
    · cases h4
  · cases h
theorem sE_make (c : Nat) (es : List E) (is_es : SEs T P top k g es) : SE T P top k g (.make c es) := by
  intro X ck W C Gc tk t x h
  simp only [chk] at h
  split at h
  · rename_i n p xs pos
    simp only [Bool.and_eq_true, makeOk, decide_eq_true_eq] at h
    obtain ⟨h1, ⟨rfl, h4⟩, h5, h6⟩ := h
    split at h4
    · rename_i kc hkc
      simp only [Bool.and_eq_true, Bool.not_eq_true'] at h4
      obtain ⟨hx, h4⟩ := h4
      split at h4
      · rename_i f hf
        split at h4
        · rename_i fn hfn
          simp only [Bool.and_eq_true, decide_eq_true_eq, List.isEmpty_iff] at h4
          obtain ⟨q1, q2, q3⟩ := h4
          obtain ⟨a, fd, ps, r1, r3, r4⟩ := Gc.mks _ _ _ _ hkc hx hf hfn q3
          obtain ⟨g1, g2⟩ := ctx_gl C h1
          have hm := ma_of (is_es X ck W C Gc tk _ h6) h5
          rw [← evEs_list] at hm
          cases xs with
          | nil =>
            cases es with
            | nil => simp at q2
            | cons => simp [chks] at h6
          | cons y ys =>
            have h5' := h5
            simp only [List.all_cons, Bool.and_eq_true] at h5'
            exact both_cong (both_of (me_make (g := g) Gc.gc hkc hf hx r1 r4 tk Gc.room g1 (Gc.clsG _ _ hkc) r3 hm (fun env s xs s' e => by rw [evEs_len g e]; exact q1) g2 (star_cons h5'.1) (star_any h5'.2)) fun _ => rfl) fun env s => by rw [evE]
        · cases h4
      · cases h4
    · cases h4
  · cases h
theorem sE_bi (b : Bi) (es : List E) (is_es : SEs T P top k g es) : SE T P top k g (.bi b es) := by
  intro X ck W C Gc tk t x h
  simp only [chk] at h
  split at h
  · rename_i n p xs pos
    simp only [Bool.and_eq_true, decide_eq_true_eq] at h
    obtain ⟨h1, ⟨hn, hl⟩, h5, h6⟩ := h
    obtain ⟨g1, g2⟩ := ctx_gl C h1
    have hM := is_es X ck W C Gc tk _ h6
    have hm := ma_of hM h5
    rw [← evEs_list] at hm
    have hfree : X.mg n = none := Gc.fre _ (by rw [hn]; cases b <;> exact bn _ (by decide))
    have hlen : xs.length = (biName b).2 := by
      rw [← hl]
      exact chks_len h6
    exact both_cong (both_of (bi_ok (A := X.A) C.calm b hn g1 hfree hm h5 (fun env s xs s' e => by rw [evEs_len g e]; exact hl) hlen) fun _ => rfl) fun env s => by rw [evE]
  · cases h
theorem sE_li (b : Li) (m : Bool) (a : E) (i_a : SE T P top k g a) : SE T P top k g (.li b m a) := by
  intro X ck W C Gc tk t x h
  simp only [chk] at h
  split at h
  · simp only [Bool.and_eq_true, decide_eq_true_eq] at h
    obtain ⟨h1, ⟨rfl, rfl⟩, h5, h6⟩ := h
    obtain ⟨g1, g2⟩ := ctx_gl C h1
    rename_i p l pos
    have ha := both_f (i_a X ck W C Gc tk false _ h6)
    have hm : MA X.K T P X W [l] (listF [evE g a]) := ma_of (.cons ha .nil) (by simp [h5])
    have := me_callTy (x := Str.ofString "list") (pos := pos) (p := p) (cm_list (m := m)) (fun s ds c fs s' => by
      split
      · rename_i d
        cases seqOf s d with
        | none => exact fun z => nomatch z
        | some xs => exact newL_ne
      · exact fun z => nomatch z) g1 (Gc.fre _ (bn _ (by decide))) (by decide +kernel) hm (by decide) (by decide) (star_cons h5) rfl
    refine both_cong (both_of this fun _ => rfl) fun env s => ?_
    rw [evE]
    simp only [listF, MP.R.bind_assoc, MP.R.bind_ok, lfn]
  · cases h
theorem sE_bm (b : Bm) (a : E) (es : List E) (i_a : SE T P top k g a) (is_es : SEs T P top k g es) : SE T P top k g (.bm b a es) := by
  intro X ck W C Gc tk t x h
  simp only [chk] at h
  split at h
  · simp only [Bool.and_eq_true, decide_eq_true_eq] at h
    obtain ⟨⟨rfl, hl, rfl⟩, h1, h2, h3, h4, h5⟩ := h
    rename_i l ap r cp
    have ha := both_f (i_a X ck W C Gc tk false _ h4)
    have hm := ma_of (is_es X ck W C Gc tk _ h5) (by simp [h3])
    rw [← evEs_list] at hm
    refine both_cong (both_of (me_bm (name := "append") PySem.F.slot_list_append PySem.F.type_list_append md_append ha hm ?_ ?_ h1 (star_cons h3) rfl) fun _ => rfl) fun env s => by rw [evE]
    · exact base_of h2
    · rw [star_cons h3]; rfl
  · cases h
theorem sE_isi (a : E) (ts : List Ty) (i_a : SE T P top k g a) : SE T P top k g (.isi a ts) := by
  intro X ck W C Gc tk t x h
  simp only [chk] at h
  split at h
  · simp only [Bool.and_eq_true, decide_eq_true_eq] at h
    obtain ⟨h1, rfl, h2, h3, h4, h5⟩ := h
    split at h5
    · rename_i ty
      obtain ⟨g1, g2⟩ := ctx_gl C h1
      obtain ⟨q1, q2⟩ := tyEq_ok C Gc h2 h5
      have ha := both_f (i_a X ck W C Gc tk false _ h4)
      refine both_cong (both_of (me_isi (g := g) Gc.tab Gc.gs q2 ha q1 g1 (Gc.fre _ (bn _ (by decide))) (star_cons h3) rfl rfl) fun _ => rfl) fun env s => ?_
      rw [evE]
      congr 1
      funext x s
      simp only [tyAny]
      cases tyIs g s x ty with
      | none => rfl
      | some b => cases b <;> rfl
    · cases h5
  · cases h
theorem sE_comp (m : Bool) (own : List Nat) (elt : E) (tg : MP.T) (it : I) (ifs : List E) (i_elt : SE T P top k g elt) (ii_it : SI T P top k g it) (it_ifs : STs T P top k g ifs) : SE T P top k g (.comp m own elt tg it ifs) := by
  intro X ck W C Gc tk t x h
  simp only [chk] at h
  split at h
  · rename_i elt' tg' iter ifs' as scope pos
    simp only [Bool.and_eq_true, decide_eq_true_eq] at h
    obtain ⟨⟨rfl, h2, h3, h4⟩, h5, h6, h7⟩ := h
    have ok : BlkOk X.N X.env.scope scope (ownN ck own) := by rw [C.N, C.sc]; exact blkOk_by h2
    have hI := ii_it X ck W C Gc tk tg' iter h5
    have hsl : ∀ i ∈ slotsT tg, i ∈ (ownN ck own).map (·.2) := by
      rw [own_map]
      simpa [List.all_eq_true] using h3
    refine both_cong (both_of (me_lc (m := m) (t := tg) (fc := evAnd g ifs) (fe := evE g elt) C.calm C.nd hI.1 ok hsl (fun s H Ca cl fp => sndT (ctx_blk C ok s H Ca cl fp) tg tg' h4) (fun s H Ca cl fp => ?_) (fun s H Ca cl fp => both_f (i_elt _ (ck.blk scope) noW (ctx_blk C ok s H Ca cl fp) Gc takes_no false _ h6)) hI.2) fun _ => rfl) fun env s => ?_
    · cases ifs' with
      | nil =>
        cases ifs with
        | nil => exact pts_nilM
        | cons => simp at h7
      | cons c cs =>
        cases cs with
        | nil =>
          simp only [Bool.and_eq_true, decide_eq_true_eq] at h7
          have q := it_ifs _ (ck.blk scope) noW (ctx_blk C ok s H Ca cl fp) Gc takes_no _ h7.2
          match ifs, h7, q with
          | [f], _, .cons q1 .nil => exact pts_one q1
        | cons => cases h7
    · rw [evE, own_map]
      rfl
  · cases h
theorem sI_seq (e : E) (i_e : SE T P top k g e) : SI T P top k g (.seq e) := by
  intro X ck W C Gc tk tg x h
  simp only [chkI, Bool.and_eq_true] at h
  exact ⟨mi_cong (mi_seq (both_f (i_e X ck W C Gc tk false x h.2))) fun env s => by rw [evI]; rfl, set_of h.1⟩
theorem sI_range (es : List E) (is_es : SEs T P top k g es) : SI T P top k g (.range es) := by
  intro X ck W C Gc tk tg x h
  simp only [chkI] at h
  split at h
  · simp only [Bool.and_eq_true, decide_eq_true_eq, Bool.or_eq_true] at h
    obtain ⟨⟨h1, rfl⟩, hl, h5, h6⟩ := h
    obtain ⟨g1, g2⟩ := ctx_gl C h1
    refine ⟨?_, fun _ => rfl⟩
    have hm := ma_of (is_es X ck W C Gc tk _ h6) h5
    rw [← evEs_list] at hm
    have hlen := chks_len h6
    rename_i p xs pos
    refine mi_cong (f := rangeF (evEs g es)) ?_ fun env s => by rw [evI]; rfl
    rcases hl with hl | hl
    · obtain ⟨a, rfl⟩ := List.length_eq_one_iff.mp (hlen.trans hl)
      exact mi_range1 g1 (Gc.fre _ (bn _ (by decide))) hm (star_cons (by simpa using h5)) fun env s xs s' e => by rw [evEs_len g e]; exact hl
    · obtain ⟨a, b, rfl⟩ := len2 (hlen.trans hl)
      simp only [List.all_cons, List.all_nil, Bool.and_true, Bool.and_eq_true] at h5
      exact mi_range2 g1 (Gc.fre _ (bn _ (by decide))) hm (by rw [star_cons h5.1, star_cons h5.2]; rfl) (star_cons h5.2) fun env s xs s' e => by rw [evEs_len g e]; exact hl
  · cases h
theorem sI_enum (e : E) (i_e : SE T P top k g e) : SI T P top k g (.enum e) := by
  intro X ck W C Gc tk tg x h
  simp only [chkI] at h
  split at h
  · simp only [Bool.and_eq_true, decide_eq_true_eq] at h
    obtain ⟨ht, ⟨h1, rfl⟩, h5, h6⟩ := h
    obtain ⟨g1, g2⟩ := ctx_gl C h1
    refine ⟨?_, fun _ => rfl⟩
    cases tg <;> simp only [isTup] at ht <;> first | (cases ht; done) | skip
    exact mi_cong (mi_enum g1 (Gc.fre _ (bn _ (by decide))) (both_f (i_e X ck W C Gc tk false _ h6)) (star_cons h5)) fun env s => by rw [evI]
  · cases h
theorem sI_zip (es : List E) (is_es : SEs T P top k g es) : SI T P top k g (.zip es) := by
  intro X ck W C Gc tk tg x h
  simp only [chkI] at h
  split at h
  · simp only [Bool.and_eq_true, decide_eq_true_eq, Bool.or_eq_true] at h
    obtain ⟨ht, ⟨h1, rfl⟩, hl, h5, h6⟩ := h
    obtain ⟨g1, g2⟩ := ctx_gl C h1
    refine ⟨?_, fun _ => rfl⟩
    have hm := ma_of (is_es X ck W C Gc tk _ h6) h5
    rw [← evEs_list] at hm
    have hlen := chks_len h6
    rename_i p xs pos
    cases tg <;> simp only [isTup] at ht <;> first | (cases ht; done) | skip
    refine mi_cong (f := zipF (evEs g es)) ?_ fun env s => by rw [evI]; rfl
    have h5' := h5
    rcases hl with hl | hl
    · obtain ⟨a, b, rfl⟩ := len2 (hlen.trans hl)
      simp only [List.all_cons, List.all_nil, Bool.and_true, Bool.and_eq_true] at h5
      exact mi_zip2 g1 (Gc.fre _ (bn _ (by decide))) hm (star_cons h5.1) (star_any (by simp [h5.2])) fun env s xs s' e => by rw [evEs_len g e]; exact hl
    · obtain ⟨a, b, c, rfl⟩ := len3 (hlen.trans hl)
      simp only [List.all_cons, List.all_nil, Bool.and_true, Bool.and_eq_true] at h5
      exact mi_zip3 g1 (Gc.fre _ (bn _ (by decide))) hm (star_cons h5.1) (star_any (by simp [h5.2.1, h5.2.2])) fun env s xs s' e => by rw [evEs_len g e]; exact hl
  · cases h
theorem sI_rev (e : E) (i_e : SE T P top k g e) : SI T P top k g (.rev e) := by
  intro X ck W C Gc tk tg x h
  simp only [chkI] at h
  split at h
  · simp only [Bool.and_eq_true, decide_eq_true_eq] at h
    obtain ⟨⟨h1, rfl⟩, h5, h6⟩ := h
    obtain ⟨g1, g2⟩ := ctx_gl C h1
    exact ⟨mi_cong (mi_rev g1 (Gc.fre _ (bn _ (by decide))) (both_f (i_e X ck W C Gc tk false _ h6)) (star_cons h5)) fun env s => by rw [evI], fun _ => rfl⟩
  · cases h
end
end MP
set_option autoImplicit false
set_option linter.all false
set_option maxRecDepth 10000
set_option maxHeartbeats 1000000
/-! MPv: expressions: the induction. -/
namespace MP
open PySem PySem.Spec PyProof.Rows L2
section
variable (T : Tab) (P : Prog) (top : Nat → Bool) (k : Nat) (g : G)
mutual
theorem sndE : ∀ e : E, SE T P top k g e
  | .bad => sE_bad 
  | .var i => sE_var i 
  | .lit d => sE_lit d 
  | .glob i => sE_glob i 
  | .bin o a b => sE_bin o a b (sndE a) (sndE b)
  | .neg a => sE_neg a (sndE a)
  | .cmp o a b => sE_cmp o a b (sndE a) (sndE b)
  | .chain o o' a b c => sE_chain o o' a b c (sndE a) (sndE b) (sndE c)
  | .and es => sE_and es (sndEs es) (sndTs2 es)
  | .or es => sE_or es (sndEs es) (sndTs2 es)
  | .not a => sE_not a (sndE a)
  | .ite c a b => sE_ite c a b (sndE c) (sndE a) (sndE b)
  | .tup es => sE_tup es (sndEs es)
  | .lst m es => sE_lst m es (sndEs es)
  | .dct ks vs => sE_dct ks vs 
  | .idx a b => sE_idx a b (sndE a) (sndE b)
  | .slc m a lo hi => sE_slc m a lo hi (sndE a) (sndO lo) (sndO hi)
  | .fld a f => sE_fld a f (sndE a)
  | .call f es => sE_call f es (sndEs es)
  | .make c es => sE_make c es (sndEs es)
  | .bi b es => sE_bi b es (sndEs es)
  | .li b m a => sE_li b m a (sndE a)
  | .bm b a es => sE_bm b a es (sndE a) (sndEs es)
  | .isi a ts => sE_isi a ts (sndE a)
  | .comp m own elt tg it ifs => sE_comp m own elt tg it ifs (sndE elt) (sndI it) (sndTs2 ifs)
  | .setdef .. => fun X ck W C Gc tk t x h => by simp [chk] at h
  | .callK .. => fun X ck W C Gc tk t x h => by simp [chk] at h
  | .meth .. => fun X ck W C Gc tk t x h => by simp [chk] at h
  | .xfld .. => fun X ck W C Gc tk t x h => by simp [chk] at h
  | .xisi .. => fun X ck W C Gc tk t x h => by simp [chk] at h
  | .dget .. => fun X ck W C Gc tk t x h => by simp [chk] at h
  | .din .. => fun X ck W C Gc tk t x h => by simp [chk] at h
  | .comp2 .. => fun X ck W C Gc tk t x h => by simp [chk] at h
theorem sndEs : ∀ es : List E, SEs T P top k g es
  | [] => sEs_nil
  | e :: es => sEs_cons (sndE e) (sndEs es)
theorem sndTs2 : ∀ es : List E, STs T P top k g es
  | [] => sTs_nil
  | e :: es => sTs_cons (sndE e) (sndTs2 es)
theorem sndO : ∀ e : Option E, SO T P top k g e
  | none => sO_none
  | some e => sO_some (sndE e)
theorem sndI : ∀ it : I, SI T P top k g it
  | .seq e => sI_seq e (sndE e)
  | .range es => sI_range es (sndEs es)
  | .enum e => sI_enum e (sndE e)
  | .zip es => sI_zip es (sndEs es)
  | .rev e => sI_rev e (sndE e)
end
end
end MP
set_option autoImplicit false
set_option linter.all false
set_option maxRecDepth 10000
set_option maxHeartbeats 1000000
/-! MPw: statements: the checker's word is kept. -/
namespace MP
open PySem PySem.Spec PyProof.Rows L2
section
variable (T : Tab) (P : Prog) (top : Nat → Bool) (k : Nat) (g : G)
def SS (st : S) : Prop := ∀ (X : Cx) (ck : Ck) (W : WX), Ctx X ck → Gctx X.prog X.w X.K X.mg X.base X.A T P top k g → Takes X W → ∀ (s : Stmt), chkS T P top st ck s = true → MS X.K T P X W s (exS g st)
def SB (sts : List S) : Prop := ∀ (X : Cx) (ck : Ck) (W : WX), Ctx X ck → Gctx X.prog X.w X.K X.mg X.base X.A T P top k g → Takes X W → ∀ (ss : List Stmt), chkB T P top sts ck ss = true → MB X.K T P X W ss (exB g sts)
end
section
variable {T : Tab} {P : Prog} {top : Nat → Bool} {k : Nat} {g : G}
theorem ms_cong {K : PySem.W.Frag} {X : Cx} {W : WX} {x : Stmt} {f f' : Env → Sto → SR} (h : MS K T P X W x f) (e : ∀ env s, f env s = f' env s) : MS K T P X W x f' := by
  have : f = f' := funext fun env => funext fun s => e env s
  exact this ▸ h
theorem mb_cong {K : PySem.W.Frag} {X : Cx} {W : WX} {x : List Stmt} {f f' : Env → Sto → SR} (h : MB K T P X W x f) (e : ∀ env s, f env s = f' env s) : MB K T P X W x f' := by
  have : f = f' := funext fun env => funext fun s => e env s
  exact this ▸ h
theorem sw_none {x : Expr} {l : Nat} {env : PySem.Env} (h : nComp x = true) : swapsWith x none l env = pure false := by
  cases x <;> first | rfl | cases h
theorem sw_some {x tg : Expr} {l : Nat} {env : PySem.Env} (h : nComp x = true) : swapsWith x (some tg) l env = pure false := by
  cases x <;> first | rfl | cases h
theorem sw_lc {elt : Expr} {gs : List Comprehension} {scope : Scope} {pos py : Pos} {y : Str} {l : Nat} {env : PySem.Env} (hy : env.scope.names.lookup y ≠ some .local) : swapsWith (.ListComp elt gs scope pos) (some (.Name y py)) l env = pure false := by
  have ky : (env.kindOf y == some .local) = false := by
    have : env.kindOf y = env.scope.names.lookup y := rfl
    rw [this]
    exact beq_eq_false_iff_ne.mpr hy
  unfold swapsWith
  simp only [ky, Bool.and_false, Bool.false_and]
theorem asgC_ok {X : Cx} {ck : Ck} (C : Ctx X ck) {tg x : Expr} {t : MP.T} {l : Nat} (h : asgC ck tg x = true) (ht : MP.chkT t ck tg = true) :
    swapsWithSole [tg] x l X.env = pure false ∧ swappedStores [tg] x X.env = pure none ∧ (assignEach [tg] X.env).map (·.2) = [assign tg X.env] := by
  have h1 : (assignEach [tg] X.env).map (·.2) = [assign tg X.env] := by
    cases tg <;> first | rfl | (cases t <;> simp [MP.chkT] at ht)
  have hT : (∃ y p, tg = .Name y p) ∨ isTup tg = true := by
    cases t <;> cases tg <;> simp [MP.chkT] at ht <;> first | exact .inl ⟨_, _, rfl⟩ | exact .inr rfl
  unfold asgC at h
  split at h
  · rename_i elt gs scope lp
    split at h
    · rename_i y py
      simp only [Bool.not_eq_true', decide_eq_false_iff_not] at h
      exact ⟨sw_lc (l := l) (by rw [C.sc]; exact h), rfl, h1⟩
    · rename_i hn
      refine ⟨?_, ?_, h1⟩
      · rcases hT with ⟨y, p, rfl⟩ | hT
        · exact absurd rfl (hn y p)
        · cases tg <;> first | rfl | cases hT
      · cases tg <;> rfl
  · rename_i hn
    simp only [Bool.and_eq_true, Bool.or_eq_true, Bool.not_eq_true'] at h
    refine ⟨sw_some h.1, ?_, h1⟩
    rcases hT with ⟨y, p, rfl⟩ | hT
    · cases x <;> rfl
    · rcases h.2 with q | q
      · rw [hT] at q; cases q
      · cases x <;> first | (cases q; done) | (cases tg <;> first | rfl | cases hT)
theorem sS_bad : SS T P top k g .bad := fun X ck W C Gc tk s h => ms_cong ms_bad fun env s => by rw [exS]
theorem sS_expr (e : E) (ie : SE T P top k g e) : SS T P top k g (.expr e) := by
  intro X ck W C Gc tk s h
  simp only [chkS] at h
  split at h
  · simp only [Bool.and_eq_true] at h
    exact ms_cong (ms_expr (both_f (ie X ck W C Gc tk false _ h.2)) (sw_none h.1)) fun env s => by rw [exS]
  · cases h
theorem sS_asgLc (m : Bool) (own : List Nat) (elt : E) (t : MP.T) (it : I) (ifs : List E) (i : Nat) (ie : SE T P top k g elt) (ii : SI T P top k g it) (iT : STs T P top k g ifs) {X : Cx} {ck : Ck} {W : WX} (C : Ctx X ck) (Gc : Gctx X.prog X.w X.K X.mg X.base X.A T P top k g) (tk : Takes X W) {y : Str} {py lp tpos : Pos} {elt' : Expr} {gs : List Comprehension} {scope : Scope}
    (h : chk T P top false (.comp m own elt t it ifs) ck (.ListComp elt' gs scope lp) = true) (hi : ck.loc i y = true) (hs : swapC ck y py scope lp = true) :
    MS X.K T P X W (.Assign [.Name y py] (.ListComp elt' gs scope lp) tpos) (exS g (.asg (.name i) (.comp m own elt t it ifs))) := by
  simp only [chk] at h
  split at h
  · rename_i elt2 tg' iter ifs' as scope2 pos2 heq
    cases heq
    simp only [Bool.and_eq_true, decide_eq_true_eq] at h
    obtain ⟨⟨rfl, h2, h3, h4⟩, h5, h6, h7⟩ := h
    have ok : BlkOk X.N X.env.scope scope (ownN ck own) := by rw [C.N, C.sc]; exact blkOk_by h2
    have hI := ii X ck W C Gc tk tg' iter h5
    have hsl : ∀ i ∈ slotsT t, i ∈ (ownN ck own).map (·.2) := by
      rw [own_map]
      simpa [List.all_eq_true] using h3
    unfold swapC at hs
    simp only [Bool.and_eq_true, decide_eq_true_eq, Bool.not_eq_true'] at hs
    obtain ⟨q1, q2, q3⟩ := ctx_loc C hi
    have hyl : X.env.scope.names.lookup y = some .local := by rw [C.sc]; exact hs.1
    refine ms_cong (ms_setLc (m := m) (t := t) (fc := evAnd g ifs) (fe := evE g elt) C.calm C.nd q1 hyl (sw_true C.fk hyl hs.2.1 hs.2.2) hI.1 ok hsl (fun s H Ca cl fp => sndT (ctx_blk C ok s H Ca cl fp) t tg' h4) (fun s H Ca cl fp => ?_) (fun s H Ca cl fp => both_f (ie _ (ck.blk scope) noW (ctx_blk C ok s H Ca cl fp) Gc takes_no false _ h6)) hI.2) fun env s => ?_
    · cases ifs' with
      | nil =>
        cases ifs with
        | nil => exact pts_nilM
        | cons => simp at h7
      | cons c cs =>
        cases cs with
        | nil =>
          simp only [Bool.and_eq_true, decide_eq_true_eq] at h7
          have q := iT _ (ck.blk scope) noW (ctx_blk C ok s H Ca cl fp) Gc takes_no _ h7.2
          match ifs, h7, q with
          | [f], _, .cons q1 .nil => exact pts_one q1
        | cons => cases h7
    · rw [exS, evE, own_map]
      rfl
  · cases h
theorem sS_asg (t : MP.T) (e : E) : SS T P top k g (.asg t e) := by
  intro X ck W C Gc tk s h
  simp only [chkS] at h
  split at h
  · rename_i tg x pos
    simp only [Bool.and_eq_true, Bool.or_eq_true] at h
    obtain ⟨h1, h2, h3 | h3⟩ := h
    · obtain ⟨q1, q2, q3⟩ := asgC_ok (l := pos.line) C h3 h1
      exact ms_cong (ms_asg (both_f (sndE T P top k g e X ck W C Gc tk false _ h2)) (sndT C t tg h1) q1 q2 q3) fun env s => by rw [exS]
    · split at h3
      · rename_i y py elt' gs scope lp i
        simp only [Bool.and_eq_true] at h3
        cases e <;> simp only [isCompE] at h3 <;> first | (cases h3.1; done) | skip
        simp only [MP.chkT] at h1
        exact sS_asgLc _ _ _ _ _ _ i (sndE T P top k g _) (sndI T P top k g _) (sndTs2 T P top k g _) C Gc tk h2 h1 h3.2
      · cases h3
  · cases h
theorem sS_seti (a i e : E) : SS T P top k g (.seti a i e) := by
  intro X ck W C Gc tk s h
  simp only [chkS] at h
  split at h
  · rename_i l r p' x pos
    simp only [Bool.and_eq_true] at h
    obtain ⟨h1, h2, h3, h4⟩ := h
    refine ms_cong (ms_seti (both_f (sndE T P top k g a X ck W C Gc tk false _ h2)) (both_f (sndE T P top k g i X ck W C Gc tk false _ h3)) (both_f (sndE T P top k g e X ck W C Gc tk false _ h4)) ?_ ?_ ?_ rfl) fun env s => by rw [exS]
    · cases r <;> first | (intro v; rfl) | cases h1
    · cases x <;> rfl
    · cases x <;> rfl
  · cases h
theorem sS_setf (o : E) (f : Nat) (e : E) : SS T P top k g (.setf o f e) := by
  intro X ck W C Gc tk s h
  simp only [chkS] at h
  split at h
  · rename_i l n p' x pos
    simp only [Bool.and_eq_true, decide_eq_true_eq] at h
    obtain ⟨rfl, h2, h3⟩ := h
    refine ms_cong (ms_setf (g := g) Gc.tab Gc.gc (both_f (sndE T P top k g o X ck W C Gc tk false _ h2)) (both_f (sndE T P top k g e X ck W C Gc tk false _ h3)) ?_) fun env s => by rw [exS]
    cases x <;> rfl
  · cases h
theorem sS_aug (i : Nat) (o : BOp) (e : E) : SS T P top k g (.aug i o e) := by
  intro X ck W C Gc tk s h
  simp only [chkS] at h
  split at h
  · rename_i n p' op x pos
    simp only [Bool.and_eq_true, Bool.or_eq_true, decide_eq_true_eq] at h
    obtain ⟨h1, h2, h3, h4⟩ := h
    obtain ⟨q1, q2, q3⟩ := ctx_loc C h1
    have he := both_f (sndE T P top k g e X ck W C Gc tk false _ h4)
    rcases h2 with rfl | rfl
    · cases op <;> first | (cases h3; done) | skip
      exact ms_cong (ms_aug aug_add C.nd q1 q2 he q3) fun env s => by rw [exS]
    · cases op <;> first | (cases h3; done) | skip
      exact ms_cong (ms_aug aug_sub C.nd q1 q2 he q3) fun env s => by rw [exS]
  · cases h
theorem sS_ret (e : E) : SS T P top k g (.ret e) := by
  intro X ck W C Gc tk s h
  simp only [chkS] at h
  split at h
  · exact ms_cong (ms_ret (both_f (sndE T P top k g e X ck W C Gc tk false _ h))) fun env s => by rw [exS]
  · cases h
theorem sS_retN : SS T P top k g .retN := by
  intro X ck W C Gc tk s h
  simp only [chkS] at h
  split at h
  · exact ms_cong ms_retN fun env s => by rw [exS]
  · cases h
theorem sS_brk : SS T P top k g .brk := by
  intro X ck W C Gc tk s h
  simp only [chkS] at h
  split at h
  · exact ms_cong ms_brk fun env s => by rw [exS]
  · cases h
theorem sS_cnt : SS T P top k g .cnt := by
  intro X ck W C Gc tk s h
  simp only [chkS] at h
  split at h
  · exact ms_cong ms_cnt fun env s => by rw [exS]
  · cases h
theorem sS_pass : SS T P top k g .pass := by
  intro X ck W C Gc tk s h
  simp only [chkS] at h
  split at h
  · exact ms_cong ms_pass fun env s => by rw [exS]
  · cases h
theorem sS_ife (c : E) (a b : List S) (ia : SB T P top k g a) (ib : SB T P top k g b) : SS T P top k g (.ife c a b) := by
  intro X ck W C Gc tk s h
  simp only [chkS] at h
  split at h
  · simp only [Bool.and_eq_true] at h
    obtain ⟨h1, h2, h3⟩ := h
    exact ms_cong (ms_if (both_t (sndE T P top k g c X ck W C Gc tk true _ h1)) (ia X ck W C Gc tk _ h2) (ib X ck W C Gc tk _ h3)) fun env s => by rw [exS]
  · cases h
theorem sS_for (t : MP.T) (it : I) (body : List S) (ib : SB T P top k g body) : SS T P top k g (.forS t it body) := by
  intro X ck W C Gc tk s h
  simp only [chkS] at h
  split at h
  · simp only [Bool.and_eq_true] at h
    obtain ⟨h1, h2, h3, h4⟩ := h
    have hI := sndI T P top k g it X ck W C Gc tk _ _ h3
    exact ms_cong (ms_for C.hp C.calm hI.1 (sndT C t _ h2) (ib X ck W C Gc tk _ h4) hI.2) fun env s => by rw [exS]
  · cases h
theorem sS_while (c : E) (body : List S) (ib : SB T P top k g body) : SS T P top k g (.whileS c body) := by
  intro X ck W C Gc tk s h
  simp only [chkS] at h
  split at h
  · simp only [Bool.and_eq_true] at h
    exact ms_cong (ms_while WFUEL C.hp (both_t (sndE T P top k g c X ck W C Gc tk true _ h.1)) (ib X ck W C Gc tk _ h.2)) fun env s => by rw [exS]; rfl
  · cases h
theorem sB_nil : SB T P top k g [] := by
  intro X ck W C Gc tk ss h
  cases ss with
  | nil => exact mb_cong mb_nil fun env s => by rw [exB]
  | cons => simp [chkB] at h
theorem sB_cons (st : S) (r : List S) (h1 : SS T P top k g st) (h2 : SB T P top k g r) : SB T P top k g (st :: r) := by
  intro X ck W C Gc tk ss h
  cases st
  case bad => exact mb_cong mb_bad fun env s => by rw [exB, exS]; rfl
  case fgt is => exact mb_cong (mb_fgt is (h2 X ck W C Gc tk ss (by simpa only [chkB] using h))) fun env s => by rw [exB, exS]
  case frz i => exact mb_cong (mb_frz i (h2 X ck W C Gc tk ss (by simpa only [chkB] using h))) fun env s => by rw [exB, exS]; rfl
  all_goals
    cases ss with
    | nil => simp [chkB] at h
    | cons s ss =>
      simp only [chkB, Bool.and_eq_true] at h
      exact mb_cong (mb_cons (h1 X ck W C Gc tk s h.1) (h2 X ck W C Gc tk ss h.2)) fun env s => by rw [exB]
variable (T P top k g)
mutual
theorem sndS : ∀ st : S, SS T P top k g st
  | .bad => sS_bad
  | .expr e => sS_expr e (sndE T P top k g e)
  | .asg t e => sS_asg t e
  | .seti a i e => sS_seti a i e
  | .setf o f e => sS_setf o f e
  | .aug i o e => sS_aug i o e
  | .ret e => sS_ret e
  | .retN => sS_retN
  | .ife c a b => sS_ife c a b (sndB a) (sndB b)
  | .forS t it body => sS_for t it body (sndB body)
  | .whileS c body => sS_while c body (sndB body)
  | .brk => sS_brk
  | .cnt => sS_cnt
  | .pass => sS_pass
  | .dput .. => fun X ck W C Gc tk s h => by simp [chkS] at h
  | .daug .. => fun X ck W C Gc tk s h => by simp [chkS] at h
  | .augi .. => fun X ck W C Gc tk s h => by simp [chkS] at h
  | .augf .. => fun X ck W C Gc tk s h => by simp [chkS] at h
  | .par .. => fun X ck W C Gc tk s h => by simp [chkS] at h
  | .raise .. => fun X ck W C Gc tk s h => by simp [chkS] at h
  | .tryS .. => fun X ck W C Gc tk s h => by simp [chkS] at h
  | .fgt .. => fun X ck W C Gc tk s h => by simp [chkS] at h
  | .frz .. => fun X ck W C Gc tk s h => by simp [chkS] at h
theorem sndB : ∀ sts : List S, SB T P top k g sts
  | [] => sB_nil
  | st :: r => sB_cons st r (sndS st) (sndB r)
end
end
end MP
set_option autoImplicit false
set_option linter.all false
set_option maxRecDepth 10000
set_option maxHeartbeats 1000000
/-! MPx: the defs of a text, all of them. -/
namespace MP
open PySem PySem.Spec PyProof.Rows L2
/-- a def's datum: the head's, its names, its parameters -/
structure FnD where
  d : He.DefD
  N : List Str
  ps : List Str
def lcK : Option NameKind → Bool
  | some .local => true
  | some .cell => true
  | _ => false
def fsC (N ps : List Str) (sc : Scope) : Bool := (decide (sc.kind = .function) && (!sc.isCoroutine && !sc.isGenerator)) && ((decide N.Nodup && decide (N.take ps.length = ps)) && ((ps.all fun x => lcK (sc.names.lookup x)) && sc.names.all fun y => decide (y.2 ≠ .free)))
theorem fsC_ok {N ps : List Str} {sc : Scope} (h : fsC N ps sc = true) : FnScope N ps sc := by
  unfold fsC at h
  simp only [Bool.and_eq_true, decide_eq_true_eq, Bool.not_eq_true', List.all_eq_true] at h
  obtain ⟨⟨h1, h2, h3⟩, ⟨h4, h5⟩, h6, h7⟩ := h
  refine ⟨h1, h2, h3, h4, h5, fun x hx => ?_, h7⟩
  have := h6 x hx
  revert this
  cases sc.names.lookup x with
  | none => intro z; cases z
  | some k => cases k <;> first | (intro _; simp; done) | (intro z; cases z)
section
variable (T : Tab) (P : Prog) (top : Nat → Bool)
def fnC (fn : Fn) (r : FnD) : Bool := (fsC r.N r.ps r.d.scope && (decide (r.N.length = fn.ns) && (decide (r.ps.length = fn.np) && decide (fn.np ≤ fn.ns)))) && ((fn.dfl.isEmpty && (r.d.dfl.isEmpty && r.d.kwd.isEmpty)) && chkB T P top fn.body ⟨r.N, r.d.scope, none⟩ r.d.body)
/-- how it binds -/
def Bd (r : FnD) : Prop := ∀ (kV doc pm : Value) (an : Option Addr) (cdv ct : Value) (us : List Value), us.length = r.ps.length → bindArgs (PySem.W.fnOf r.d.name r.d.qual r.d.params r.d.body r.d.scope .none kV doc pm an cdv ct) ⟨us, []⟩ = pure (r.ps.zip us)
structure Txt (K : PySem.W.Frag) (mg : Str → Option Value) (fd : Nat → Option FnD) : Prop where
  tab : TabOk K T P
  fre : ∀ x ∈ bnames, mg x = none
  gint : ∀ i d, P.glob i = some d → ∃ v t, d = .int v ∧ mg (T.gnm i) = some (.int v t)
  clsG : ∀ c kc, P.cls c = some kc → mg (T.cnm c) = some (.ref (ca K T c))
  def_ : ∀ f fn, P.fn f = some fn → ∃ r fdd, fd f = some r ∧ fnC T P top fn r = true ∧ Bd r ∧ FunD K r.d.name r.d.qual r.d.params r.d.body r.d.scope (r.d.dvs K) (r.d.kws K) (He.fAd K r.d.at_) fdd
  glo : ∀ f fn r, P.fn f = some fn → top f = true → fd f = some r → mg (T.fnm f) = some (.ref (He.fAd K r.d.at_))
  mks : ∀ c kc f fn r, P.cls c = some kc → kc.exn = false → kc.init = some f → P.fn f = some fn → fd f = some r → Mk K (ca K T c) (He.fAd K r.d.at_)
end
section
variable {T : Tab} {P : Prog} {top : Nat → Bool} {prog : Program} {w : World} {K : PySem.W.Frag} {mg : Str → Option Value} {base : Heap} {fd : Nat → Option FnD}
theorem call_succ (j f : Nat) (ds : List D) (s : Sto) (fn : Fn) (h : P.fn f = some fn) : MP.call P (j + 1) f ds s = runFn (genv P (MP.call P j)) fn ds s := by
  simp only [MP.call, h]
theorem all_ok (X : Txt T P top K mg fd) : ∀ j f fn, P.fn f = some fn → ∃ r fdd, fd f = some r ∧ PySem.W.keepIn K (.ref (He.fAd K r.d.at_)) = true ∧ L2.Binds K fdd r.ps [] ∧ (∀ (s : Shared) (us : List Value), us.length = r.ps.length → BindsTo s fdd ⟨us, []⟩ (r.ps.zip us)) ∧ FunD K r.d.name r.d.qual r.d.params r.d.body r.d.scope (r.d.dvs K) (r.d.kws K) (He.fAd K r.d.at_) fdd ∧ FnOk prog w K mg base (L2.CX prog w) (2 * j) (He.fAd K r.d.at_) fdd r.ps (spF K T P fn.np (MP.call P j f))
  | 0, f, fn, hf => by
    obtain ⟨r, fdd, h1, h2, h3, F⟩ := X.def_ f fn hf
    have hc := h2
    unfold fnC at hc
    simp only [Bool.and_eq_true, decide_eq_true_eq, List.isEmpty_iff] at hc
    obtain ⟨⟨hS, _, hps, _⟩, ⟨_, hd, hk⟩, _⟩ := hc
    have F0 : FunD K r.d.name r.d.qual r.d.params r.d.body r.d.scope [] (r.d.kws K) (He.fAd K r.d.at_) fdd := by
      have : r.d.dvs K = [] := by unfold He.DefD.dvs; rw [hd]; rfl
      rw [← this]; exact F
    exact ⟨r, fdd, h1, F.kp, F0.bindsN h3, fun s us hl => F0.bindsA h3 s us hl, F, ⟨fun vs H Q E h => by obtain ⟨ds, s, w, _, _, _, o⟩ := h; exact o.elim, fun A outer s H args us vs Q E _ _ _ _ h => by obtain ⟨ds, s, w, _, _, _, o⟩ := h; exact o.elim⟩⟩
  | j + 1, f, fn, hf => by
    obtain ⟨r, fdd, h1, h2, h3, F⟩ := X.def_ f fn hf
    have hc := h2
    unfold fnC at hc
    simp only [Bool.and_eq_true, decide_eq_true_eq, List.isEmpty_iff] at hc
    obtain ⟨⟨hS, hN, hps, hle⟩, ⟨hdf, hd, hk⟩, hb⟩ := hc
    have F0 : FunD K r.d.name r.d.qual r.d.params r.d.body r.d.scope [] (r.d.kws K) (He.fAd K r.d.at_) fdd := by
      have : r.d.dvs K = [] := by unfold He.DefD.dvs; rw [hd]; rfl
      rw [← this]; exact F
    have Sc := fsC_ok hS
    refine ⟨r, fdd, h1, F.kp, F0.bindsN h3, fun s us hl => F0.bindsA h3 s us hl, F, ?_⟩
    have e2 : 2 * (j + 1) = (2 * j + 1) + 1 := by omega
    rw [e2]
    refine F0.ok Sc (fun vs H Q E h => ?_) (fun cdv A outer s H vs Q E hr h => ?_)
    · obtain ⟨ds, s, w, rr, _, hl, _⟩ := h
      rw [← rr.length, hl, hps]
    · obtain ⟨ds, s1, w1, rr, S1, hl, o⟩ := h
      refine ⟨tS K T P (exB (genv P (MP.call P j)) fn.body) (fun c d _ H => E c d H), ?_, ?_⟩
      · have C : Ctx (cxOf (L2.CX prog w) prog w K mg base r.N r.d.qual r.d.scope (He.fAd K r.d.at_) cdv A outer s H E) ⟨r.N, r.d.scope, none⟩ := ⟨rfl, Sc.nd, rfl, fun _ _ => rfl, rfl, passes_of rfl, Sc.kind⟩
        have Gc : Gctx prog w K mg base (cxOf (L2.CX prog w) prog w K mg base r.N r.d.qual r.d.scope (He.fAd K r.d.at_) cdv A outer s H E).A T P top (2 * j) (genv P (MP.call P j)) := by
          refine ⟨X.tab, X.fre, X.gint, hr, fun f' fn' hf' ht hd' => ?_, fun c kc f' fn' hc hx hi hf' hd' => ?_, X.clsG, rfl, rfl, rfl, fun f' fn' hf' => ?_⟩
          · obtain ⟨r', fdd', q1, q2, q3, _, _, q4⟩ := all_ok X j f' fn' hf'
            exact ⟨_, fdd', r'.ps, X.glo f' fn' r' hf' ht q1, q2, q3, q4⟩
          · obtain ⟨r', fdd', q1, q2, q3, _, _, q4⟩ := all_ok X j f' fn' hf'
            exact ⟨_, fdd', r'.ps, X.mks c kc f' fn' r' hc hx hi hf' q1, q3, q4⟩
          · simp [genv, hf']
        have tk : Takes (cxOf (L2.CX prog w) prog w K mg base r.N r.d.qual r.d.scope (He.fAd K r.d.at_) cdv A outer s H E) (fun c d _ H => E c d H) := takes_of rfl rfl rfl rfl
        exact sndB T P top (2 * j) (genv P (MP.call P j)) fn.body _ ⟨r.N, r.d.scope, none⟩ _ C Gc tk r.d.body hb
      · refine ⟨ds.map some ++ List.replicate (fn.ns - fn.np) none, s1, w1, ?_, S1, ?_⟩
        · rw [← hl]
          exact erel_start rr hN (by omega)
        · rw [call_succ j f ds s1 fn hf] at o
          unfold runFn at o
          rw [if_pos hl] at o
          cases hx : exB (genv P (MP.call P j)) fn.body (ds.map some ++ List.replicate (fn.ns - fn.np) none) s1 with
          | nx env' s' => rw [hx] at o; exact fun σ' w' H' l S' E' => fin_ok S1 l S' .non o
          | ret d s' => rw [hx] at o; exact fun v w' H' l S' rv => fin_ok S1 l S' rv o
          | ex c fs env' s' => rw [hx] at o; exact fun cls dd σ' w' H' l S' E' xr => finX_ok (W := fun c d _ H => E c d H) (σ := []) S1 l S' xr o
          | brk => rw [hx] at o; exact o.elim
          | cnt => rw [hx] at o; exact o.elim
          | no => rw [hx] at o; exact o.elim
/-- the law's promise at the script -/
theorem law_sp {n J LAW : Nat} (h : ∀ ns : List Int, ns.length ≤ n → ∃ s', MP.call P J LAW [.scr ns] [] = .ok (.bl true) s') (H : Hp) (a : Addr) (ns : List Int) (hl : ns.length ≤ n) (hO : Only H) (hS : SqL K H a (ns.map V.int)) :
    spF K T P 1 (MP.call P J LAW) [.ref a] H (fun v _ => v = .bl true) fun _ _ _ => False := by
  obtain ⟨s', hs⟩ := h ns hl
  have fin : ∀ w0 : Wd, SRel K T P w0 H [] → Rep K T P w0 H (.scr ns) (.ref a) → spF K T P 1 (MP.call P J LAW) [.ref a] H (fun v _ => v = .bl true) fun _ _ _ => False := fun w0 S r => by
    refine ⟨[.scr ns], [], w0, .cons r .nil, S, rfl, ?_⟩
    rw [hs]
    intro v w' H' _ _ rv
    cases rv
    rfl
  have srel : ∀ q : Addr → Prop, (∀ b, q b → H b ≠ none) → SRel K T P ⟨[], q, []⟩ H [] := fun q hq => ⟨rfl, fun i c a h => by simp at h, fun i j c c' a h => by simp at h, hq, fun a h => by cases h⟩
  rcases hS with hS | hS
  · rcases hS with hS | ⟨o, hS⟩
    · rcases hO a with z | ⟨o, xs, z⟩ <;> rw [hS] at z <;> cases z
    · refine fin ⟨[], fun b => b = a, []⟩ (srel _ fun b hb => ?_) (.scr (.inl ⟨rfl, o, hS⟩))
      rw [hb, hS]
      exact fun z => nomatch z
  · exact fin ⟨[], fun _ => False, []⟩ (srel _ fun b hb => hb.elim) (.scr (.inr hS))
theorem funD_uniq {x qual : Str} {params : Arguments} {body : List Stmt} {scope : Scope} {dvs : List V} {kws : List (Str × V)} {f : Addr} {fd fd' : FuncData} (F : FunD K x qual params body scope dvs kws f fd) (F' : FunD K x qual params body scope dvs kws f fd') : fd = fd' := by
  obtain ⟨_, _, _, _, _, _, _, _, _, _, _, lk, _⟩ := F.ex
  obtain ⟨_, _, _, _, _, _, _, _, _, _, _, lk', _⟩ := F'.ex
  rw [lk] at lk'
  injection lk' with e
  injection e with _ _ e _
  injection e
/-- what a call may let out, in any World -/
def CXw (prog : Program) : CXT := fun outer H s E u s' => ∃ w, L2.CX prog w outer H s E u s'
theorem fnOk_cx {CX CX' : CXT} {k : Nat} {f : Addr} {fd : FuncData} {ps : List Str} {sp : Sp} (F : FnOk prog w K mg base CX k f fd ps sp) (h : ∀ outer H s E u s', CX outer H s E u s' → CX' outer H s E u s') : FnOk prog w K mg base CX' k f fd ps sp :=
  ⟨F.len, fun A outer s H args us vs Q E hr e0 hb r hsp => codeAny_mono (F.run A outer s H args us vs Q E hr e0 hb r hsp) fun r s' hq => by
    cases r with
    | ok fl => cases fl <;> exact hq
    | error e => exact h _ _ _ _ _ _ hq⟩
theorem law_F {h : Heap} {fa : Addr} (KX : K.In h) (X : Txt T P top K mg fd) {LAW J n : Nat} {fn : Fn} {r : FnD} {x : Str} (hf : P.fn LAW = some fn) (hr : fd LAW = some r) (hps : r.ps = [x]) (hnp : fn.np = 1) (hfa : He.fAd K r.d.at_ = fa)
    (hl : ∀ ns : List Int, ns.length ≤ n → ∃ s', MP.call P J LAW [.scr ns] [] = .ok (.bl true) s') :
    ∃ (K : PySem.W.Frag) (fdd : FuncData) (sp : Sp), K.In h ∧ (∀ (s : Shared) (u : Value), BindsTo s fdd ⟨[u], []⟩ [(x, u)]) ∧
      (∀ (H : Hp) (a : Addr) (ns : List Int), ns.length ≤ n → Only H → SqL K H a (ns.map V.int) → sp [.ref a] H (fun v _ => v = .bl true) fun _ _ _ => False) ∧
      ∀ base : Heap, K.In base → base.Ns mainGlobals mg → FnOk prog w K mg base (CXw prog) (2 * J) fa fdd [x] sp := by
  obtain ⟨r0, fdd, q1, _, _, q3, q4, _⟩ := all_ok (prog := prog) (w := w) (base := h) X J LAW fn hf
  rw [hr] at q1
  cases q1
  refine ⟨K, fdd, spF K T P 1 (MP.call P J LAW), KX, fun s u => ?_, fun H a ns h1 hO hS => law_sp hl H a ns h1 hO hS, fun base _ _ => ?_⟩
  · have := q3 s [u] (by rw [hps]; rfl)
    rw [hps] at this
    exact this
  · obtain ⟨r1, fdd', p1, _, _, _, p4, p5⟩ := all_ok (prog := prog) (w := w) (base := base) X J LAW fn hf
    rw [hr] at p1
    cases p1
    have e := funD_uniq q4 p4
    subst e
    rw [hps, hnp, hfa] at p5
    exact fnOk_cx p5 fun outer H s E u s' z => ⟨w, z⟩
end
end MP
set_option autoImplicit false
set_option linter.all false
set_option maxRecDepth 10000
set_option maxHeartbeats 1000000
/-! MPy: the head: what is read of the top's heap. -/
namespace MP
open PySem PySem.Spec PyProof.Rows L2
def tyNs : List String := ["NoneType", "int", "bool", "str", "tuple", "list", "dict"]
def tyNs2 : List String := ["int", "bool", "str", "tuple", "list", "dict"]
section
variable (K : PySem.W.Frag) (T : Tab) (P : Prog)
def instC (c : Nat) (k : Cls) : Bool := k.exn || ((He.Fa.cls (T.cnm c)).ok K && ((k.flds.all fun f => (He.Fa.noat (T.cnm c) (T.anm f)).ok K) && ((He.eqO (PySem.W.findIn K (.ref (ca K T c)) "__class__") (some (some (.builtin "object.__class__"))) &&
  He.eqO (PySem.W.specialIn K (.builtin "object.__class__") "__get__") (some (some (.builtin "getset_descriptor.__get__")))) && (decide (PySem.W.takesIn K (.builtin "object.__class__") = some true) && decide (PySem.W.mroIn K (ca K T c) (.type "object") = some true)))))
def kit1C (c : Nat) : Bool := tyNs.all fun t => decide (PySem.W.kitOne K (.type t) (.ref (ca K T c)) = some false)
def kit2C (c : Nat) (k : Cls) : Bool := k.exn || tyNs2.all fun t => decide (PySem.W.kitOne K (.ref (ca K T c)) (.type t) = some false)
def kit3C (cl : List (Nat × Cls)) (c : Nat) (k : Cls) : Bool := k.exn || cl.all fun p => decide (PySem.W.kitOne K (.ref (ca K T c)) (.ref (ca K T p.1)) = some (P.sub c p.1))
def clsC (cl : List (Nat × Cls)) : Bool := cl.all fun p => instC K T p.1 p.2 && (kit1C K T p.1 && (kit2C K T p.1 p.2 && kit3C K T P cl p.1 p.2))
def anmC (cl : List (Nat × Cls)) : Bool := cl.all fun p => p.2.flds.all fun f => p.2.flds.all fun g => decide (T.anm f = T.anm g → f = g)
end
section
variable {K : PySem.W.Frag} {T : Tab} {P : Prog}
theorem lookup_mem {α : Type} : ∀ {cl : List (Nat × α)} {c : Nat} {k : α}, cl.lookup c = some k → (c, k) ∈ cl
  | [], _, _, h => by cases h
  | (a, b) :: r, c, k, h => by
    rw [List.lookup_cons] at h
    cases e : c == a with
    | true =>
      rw [e] at h
      cases h
      rw [eq_of_beq e]
      exact List.mem_cons_self
    | false =>
      rw [e] at h
      exact List.mem_cons_of_mem _ (lookup_mem h)
theorem tab_of {cl : List (Nat × Cls)} (hP : P.cls = fun c => cl.lookup c) (h : clsC K T P cl = true) (ha : anmC T cl = true) (hpn : T.pn = []) : TabOk K T P := by
  have at_ : ∀ c k, P.cls c = some k → (instC K T c k = true ∧ kit1C K T c = true ∧ kit2C K T c k = true ∧ kit3C K T P cl c k = true) ∧ (c, k) ∈ cl := fun c k e => by
    rw [hP] at e
    have m := lookup_mem e
    have := List.all_eq_true.mp h _ m
    simp only [Bool.and_eq_true] at this
    exact ⟨⟨this.1, this.2.1, this.2.2.1, this.2.2.2⟩, m⟩
  refine ⟨hpn, fun c k e hx => ?_, fun c k f g e hf hg z => ?_, fun c k t e ht => ?_, fun c k t e hx ht => ?_, fun c k c' k' e hx e' => ?_⟩
  · obtain ⟨⟨h1, _⟩, _⟩ := at_ c k e
    unfold instC at h1
    rw [hx] at h1
    simp only [Bool.false_or, Bool.and_eq_true, decide_eq_true_eq, List.all_eq_true] at h1
    obtain ⟨h1, h2, ⟨h3, h4⟩, h5, h6⟩ := h1
    exact ⟨He.cls_ok h1, fun f hf => He.noat_ok (h2 f hf), He.eqO_ok h3, He.eqO_ok h4, h5, h6⟩
  · obtain ⟨_, m⟩ := at_ c k e
    have := List.all_eq_true.mp (List.all_eq_true.mp (List.all_eq_true.mp ha _ m) f hf) g hg
    exact of_decide_eq_true this z
  · obtain ⟨⟨_, h2, _⟩, _⟩ := at_ c k e
    exact of_decide_eq_true (List.all_eq_true.mp h2 t ht)
  · obtain ⟨⟨_, _, h3, _⟩, _⟩ := at_ c k e
    unfold kit2C at h3
    rw [hx, Bool.false_or] at h3
    exact of_decide_eq_true (List.all_eq_true.mp h3 t ht)
  · obtain ⟨⟨_, _, _, h4⟩, _⟩ := at_ c k e
    obtain ⟨_, m⟩ := at_ c' k' e'
    unfold kit3C at h4
    rw [hx, Bool.false_or] at h4
    exact of_decide_eq_true (List.all_eq_true.mp h4 _ m)
end
/-- the head's hook with one more question -/
def hookM (n : Nat) (fa : List He.Fa) (fn : List He.DefD) (ex : PySem.W.Frag → Bool) : PySem.W.Hook where
  α := Bool × He.AlD
  obs := fun s => (ex (He.frG s.heap.get? (He.asD s.heap.get? n)), He.obsDG n fa fn s.heap.get?)
  val := fun _ => (true, He.valD fn)
  says := fun _ h => ∃ K : PySem.W.Frag, K.In h ∧ (He.SaysD fa fn K ∧ ex K = true)
  of := fun _ _ e => ⟨_, He.frG_in, congrArg Prod.snd e, congrArg Prod.fst e⟩
  keeps := fun _ _ _ ⟨K, hK, c⟩ k => ⟨K, PySem.W.Frag.In.keeps hK k, c⟩
def obsM (n : Nat) (fa : List He.Fa) (fn : List He.DefD) (ex : PySem.W.Frag → Bool) (g : Addr → Option Obj) : Bool × He.AlD := (ex (He.frG g (He.asD g n)), He.obsDG n fa fn g)
theorem obsM_eq {n : Nat} {fa : List He.Fa} {fn : List He.DefD} {ex : PySem.W.Frag → Bool} {g : Addr → Option Obj} {s : Shared} (h : ∀ a, g a = s.heap.get? a) : obsM n fa fn ex g = (hookM n fa fn ex).obs s := by
  have e : g = s.heap.get? := funext h
  rw [e] <;> rfl
theorem law_at {K : PySem.W.Frag} {mg : Str → Option Value} {fa : Addr} {x : Str} (z : mg x = some (.ref (He.ga K x))) (h : mg x = some (.ref fa)) : He.fAd K (x, none) = fa := by
  rw [z] at h
  injection h with h
  injection h
end MP
set_option autoImplicit false
set_option linter.all false
set_option maxRecDepth 10000
set_option maxHeartbeats 1000000
/-! SX: the small language, run by simp: one equation for each form (loops and comprehensions aside). -/
namespace MP
section
variable (g : G) (env : Env) (s : Sto)
@[simp] theorem ev_var (i : Nat) : evE g (.var i) env s = .opt (getE env i) s := by rw [evE]
@[simp] theorem ev_lit (d : D) : evE g (.lit d) env s = .ok d s := by rw [evE]
@[simp] theorem ev_glob (i : Nat) : evE g (.glob i) env s = .opt (g.glob i) s := by rw [evE]
@[simp] theorem ev_bin (o : BOp) (a b : E) : evE g (.bin o a b) env s = (evE g a env s).bind fun x s => (evE g b env s).bind fun y s => .opt (binop s o x y) s := by rw [evE]
theorem ev_neg' (a : E) : evE g (.neg a) env s = (evE g a env s).bind fun x s => match x with
    | .int i => .ok (.int (-i)) s
    | _ => .no := by rw [evE] <;> rfl
@[simp] theorem ev_cmp (o : COp) (a b : E) : evE g (.cmp o a b) env s = (evE g a env s).bind fun x s => (evE g b env s).bind fun y s => .opt ((cmpop s o x y).map D.bl) s := by rw [evE]
@[simp] theorem ev_chain (o o' : COp) (a b c : E) : evE g (.chain o o' a b c) env s = (evE g a env s).bind fun x s => (evE g b env s).bind fun y s => opt1 (cmpop s o x y) fun r =>
    if r then (evE g c env s).bind fun z s => .opt ((cmpop s o' y z).map D.bl) s else .ok (.bl false) s := by rw [evE]
@[simp] theorem ev_and (es : List E) : evE g (.and es) env s = evAnd g es env s := by rw [evE]
@[simp] theorem ev_or (es : List E) : evE g (.or es) env s = evOr g es env s := by rw [evE]
@[simp] theorem ev_not (a : E) : evE g (.not a) env s = (evE g a env s).bind fun x s => .opt ((truthy s x).map fun b => D.bl (!b)) s := by rw [evE]
@[simp] theorem ev_ite (c a b : E) : evE g (.ite c a b) env s = (evE g c env s).bind fun x s => opt1 (truthy s x) fun r => if r then evE g a env s else evE g b env s := by rw [evE]
@[simp] theorem ev_tup (es : List E) : evE g (.tup es) env s = (evEs g es env s).bind fun xs s => .ok (.tup xs) s := by rw [evE]
@[simp] theorem ev_lst (m : Bool) (es : List E) : evE g (.lst m es) env s = (evEs g es env s).bind fun xs s => newL m xs s := by rw [evE]
@[simp] theorem ev_dct0 : evE g (.dct [] []) env s = .ok (.ref s.length) (s ++ [.dct []]) := by rw [evE]; simp [evEs]
@[simp] theorem ev_idx (a b : E) : evE g (.idx a b) env s = (evE g a env s).bind fun x s => (evE g b env s).bind fun y s => .opt (indexS s x y) s := by rw [evE]
@[simp] theorem ev_slc (m : Bool) (a : E) (lo hi : Option E) : evE g (.slc m a lo hi) env s = (evE g a env s).bind fun x s => (evO g lo env s).bind fun l s => (evO g hi env s).bind fun h s => slF m x l h s := by rw [evE]
@[simp] theorem ev_fld (a : E) (f : Nat) : evE g (.fld a f) env s = (evE g a env s).bind fun x s => .opt (field g s x f) s := by rw [evE]
@[simp] theorem ev_call (f : Nat) (es : List E) : evE g (.call f es) env s = (evEs g es env s).bind fun xs s => g.call f (fill (g.np f) xs (g.dfl f)) s := by rw [evE]
@[simp] theorem ev_make (c : Nat) (es : List E) : evE g (.make c es) env s = (evEs g es env s).bind fun xs s => makeD g c xs s := by rw [evE]
@[simp] theorem ev_bi (b : Bi) (es : List E) : evE g (.bi b es) env s = (evEs g es env s).bind fun xs s => .opt (bfn s b xs) s := by rw [evE]
@[simp] theorem ev_li (b : Li) (m : Bool) (a : E) : evE g (.li b m a) env s = (evE g a env s).bind fun x s => opt1 (lfn s b x) fun xs => newL m xs s := by rw [evE]
@[simp] theorem ev_bm (b : Bm) (a : E) (es : List E) : evE g (.bm b a es) env s = (evE g a env s).bind fun x s => if (lstOf s x).isSome then (evEs g es env s).bind fun xs s => bmf s b x xs else .no := by rw [evE]
@[simp] theorem ev_isi (a : E) (t : Ty) : evE g (.isi a [t]) env s = (evE g a env s).bind fun x s => .opt ((tyIs g s x t).map D.bl) s := by
  rw [evE]
  congr 1
  funext x s
  simp only [tyAny]
  cases tyIs g s x t with
  | none => rfl
  | some b => cases b <;> rfl
@[simp] theorem evs_nil : evEs g [] env s = .ok [] s := by rw [evEs]
@[simp] theorem evs_cons (e : E) (es : List E) : evEs g (e :: es) env s = (evE g e env s).bind fun x s => (evEs g es env s).bind fun xs s => .ok (x :: xs) s := by rw [evEs]
@[simp] theorem evo_none : evO g none env s = .ok none s := by rw [evO]
theorem evo_some (e : E) : evO g (some e) env s = (evE g e env s).bind fun x s => match x with
    | .int i => .ok (some i) s
    | _ => .no := by rw [evO] <;> rfl
@[simp] theorem evand_nil : evAnd g [] env s = .ok (.bl true) s := by rw [evAnd]
@[simp] theorem evand_one (e : E) : evAnd g [e] env s = evE g e env s := by rw [evAnd]
@[simp] theorem evand_cons (e e' : E) (es : List E) : evAnd g (e :: e' :: es) env s = (evE g e env s).bind fun x s => opt1 (truthy s x) fun b => if b then evAnd g (e' :: es) env s else .ok x s := by rw [evAnd]; intro h; cases h
@[simp] theorem evor_one (e : E) : evOr g [e] env s = evE g e env s := by rw [evOr]
@[simp] theorem evor_cons (e e' : E) (es : List E) : evOr g (e :: e' :: es) env s = (evE g e env s).bind fun x s => opt1 (truthy s x) fun b => if b then .ok x s else evOr g (e' :: es) env s := by rw [evOr]; intro h; cases h
/-! ### statements -/
@[simp] theorem ex_expr (e : E) : exS g (.expr e) env s = (evE g e env s).sr env fun _ s => .nx env s := by rw [exS]
@[simp] theorem ex_asg (t : MP.T) (e : E) : exS g (.asg t e) env s = (evE g e env s).sr env fun d s => opt2 (asgT t d env) fun env => .nx env s := by rw [exS]
@[simp] theorem ex_seti (a i e : E) : exS g (.seti a i e) env s = (evE g e env s).sr env fun v s => (evE g a env s).sr env fun o s => (evE g i env s).sr env fun k s => opt2 (setI s o k v) fun s => .nx env s := by rw [exS]
@[simp] theorem ex_setf (o : E) (f : Nat) (e : E) : exS g (.setf o f e) env s = (evE g e env s).sr env fun v s => (evE g o env s).sr env fun x s => opt2 (setFl g s x f v) fun s => .nx env s := by rw [exS]
@[simp] theorem ex_ret (e : E) : exS g (.ret e) env s = (evE g e env s).sr env fun d s => .ret d s := by rw [exS]
@[simp] theorem ex_retN : exS g .retN env s = .ret .non s := by rw [exS]
@[simp] theorem ex_ife (c : E) (a b : List S) : exS g (.ife c a b) env s = (evE g c env s).sr env fun x s => opt2 (truthy s x) fun r => if r then exB g a env s else exB g b env s := by rw [exS]
@[simp] theorem ex_brk : exS g .brk env s = .brk env s := by rw [exS]
@[simp] theorem ex_cnt : exS g .cnt env s = .cnt env s := by rw [exS]
@[simp] theorem ex_pass : exS g .pass env s = .nx env s := by rw [exS]
@[simp] theorem ex_nil : exB g [] env s = .nx env s := by rw [exB]
@[simp] theorem ex_cons (st : S) (r : List S) : exB g (st :: r) env s = (exS g st env s).seq fun env s => exB g r env s := by rw [exB]
end
@[simp] theorem asg_name (i : Nat) (d : D) (env : Env) : asgT (.name i) d env = some (setE env i (some d)) := by rw [asgT]
@[simp] theorem asg_tup (ts : List MP.T) (ds : List D) (env : Env) : asgT (.tup ts) (.tup ds) env = asgTs ts ds env := by rw [asgT]
@[simp] theorem asgs_nil (env : Env) : asgTs [] [] env = some env := by rw [asgTs]
@[simp] theorem asgs_cons (t : MP.T) (ts : List MP.T) (d : D) (ds : List D) (env : Env) : asgTs (t :: ts) (d :: ds) env = (asgT t d env).bind (asgTs ts ds) := by rw [asgTs]
@[simp] theorem getE_z (x : Option D) (r : Env) : getE (x :: r) 0 = x := rfl
@[simp] theorem getE_s (x : Option D) (r : Env) (n : Nat) : getE (x :: r) (n + 1) = getE r n := rfl
@[simp] theorem setE_z (x d : Option D) (r : Env) : setE (x :: r) 0 d = d :: r := rfl
@[simp] theorem setE_s (x d : Option D) (r : Env) (n : Nat) : setE (x :: r) (n + 1) d = x :: setE r n d := rfl
@[simp] theorem wipe_nil (env : Env) : wipeE env [] = env := rfl
@[simp] theorem wipe_cons (env : Env) (v : Nat) (vs : List Nat) : wipeE env (v :: vs) = setE (wipeE env vs) v none := rfl
@[simp] theorem newL_f (xs : List D) (s : Sto) : newL false xs s = .ok (.lst xs) s := rfl
@[simp] theorem newL_t (xs : List D) (s : Sto) : newL true xs s = .ok (.ref s.length) (s ++ [.lst xs]) := rfl
@[simp] theorem truthy_bl (s : Sto) (b : Bool) : truthy s (.bl b) = some b := rfl
@[simp] theorem truthy_int (s : Sto) (b : Int) : truthy s (.int b) = some (b != 0) := rfl
@[simp] theorem cmp_eq_int (s : Sto) (a b : Int) : cmpop s .eq (.int a) (.int b) = some (decide (a = b)) := by simp [cmpop, eqD, dataOf, eqv]; by_cases h : a = b <;> simp [h]
@[simp] theorem cmp_ne_int (s : Sto) (a b : Int) : cmpop s .ne (.int a) (.int b) = some (!decide (a = b)) := by simp [cmpop, eqD, dataOf, eqv]; by_cases h : a = b <;> simp [h]
@[simp] theorem cmp_eq_bl (s : Sto) (a b : Bool) : cmpop s .eq (.bl a) (.bl b) = some (a == b) := by simp [cmpop, eqD, dataOf, eqv]
@[simp] theorem cmp_ne_bl (s : Sto) (a b : Bool) : cmpop s .ne (.bl a) (.bl b) = some (!(a == b)) := by simp [cmpop, eqD, dataOf, eqv]
@[simp] theorem cmp_lt_int (s : Sto) (a b : Int) : cmpop s .lt (.int a) (.int b) = some (decide (a < b)) := by simp [cmpop, ltD, dataOf, ltv]
@[simp] theorem cmp_gt_int (s : Sto) (a b : Int) : cmpop s .gt (.int a) (.int b) = some (decide (b < a)) := rfl
@[simp] theorem cmp_le_int (s : Sto) (a b : Int) : cmpop s .le (.int a) (.int b) = some (decide (a ≤ b)) := rfl
@[simp] theorem cmp_ge_int (s : Sto) (a b : Int) : cmpop s .ge (.int a) (.int b) = some (decide (b ≤ a)) := rfl
@[simp] theorem bin_add_int (s : Sto) (a b : Int) : binop s .add (.int a) (.int b) = some (.int (a + b)) := rfl
@[simp] theorem bin_sub_int (s : Sto) (a b : Int) : binop s .sub (.int a) (.int b) = some (.int (a - b)) := rfl
theorem bin_mul_int (s : Sto) (a b : Int) (h : mulOk a b = true) : binop s .mul (.int a) (.int b) = some (.int (a * b)) := by simp [binop, h]
theorem bin_mod_int (s : Sto) (a b : Int) (h : 0 < b) : binop s .mod (.int a) (.int b) = some (.int (a % b)) := by simp [binop, h]
theorem bin_fdiv_int (s : Sto) (a b : Int) (h : 0 < b) (h2 : b < 1073741824) : binop s .fdiv (.int a) (.int b) = some (.int (a / b)) := by simp [binop, h, h2]
@[simp] theorem bfn_int (s : Sto) (a : Int) : bfn s .toInt [.int a] = some (.int a) := rfl
@[simp] theorem bfn_int_bl (s : Sto) (b : Bool) : bfn s .toInt [.bl b] = some (.int (if b then 1 else 0)) := rfl
@[simp] theorem bfn_abs (s : Sto) (a : Int) : bfn s .abs [.int a] = some (.int (if a < 0 then -a else a)) := rfl
@[simp] theorem bfn_max2 (s : Sto) (a b : Int) : bfn s .max2 [.int a, .int b] = some (.int (if b > a then b else a)) := rfl
@[simp] theorem bfn_min2 (s : Sto) (a b : Int) : bfn s .min2 [.int a, .int b] = some (.int (if b < a then b else a)) := rfl
theorem mulOk_l {a b : Int} (h1 : -(2 ^ 64) < a) (h2 : a < 2 ^ 64) : mulOk a b = true := by unfold mulOk; simp; omega
theorem mulOk_r {a b : Int} (h1 : -(2 ^ 64) < b) (h2 : b < 2 ^ 64) : mulOk a b = true := by unfold mulOk; simp; omega
/-! ### a call's end -/
theorem gcOk_rfl (s : Sto) : gcOk s s = true := by
  unfold gcOk
  simp
theorem fin_same {m : Nat} {s : Sto} {d : D} (hm : m = 0 ∨ m = 1) (h : d.free = true) : fin m s d s = .ok d s := by
  unfold fin
  rw [if_neg (by omega), if_pos (gcOk_rfl s), if_pos h, List.take_length]
@[simp] theorem fin0_bl (s : Sto) (b : Bool) : fin 0 s (.bl b) s = .ok (.bl b) s := fin_same (.inl rfl) (by simp [D.free])
@[simp] theorem fin0_int (s : Sto) (b : Int) : fin 0 s (.int b) s = .ok (.int b) s := fin_same (.inl rfl) (by simp [D.free])
@[simp] theorem fin0_non (s : Sto) : fin 0 s .non s = .ok .non s := fin_same (.inl rfl) (by simp [D.free])
/-- only cells with nothing but free values were written -/
theorem gcOk_set {s : Sto} {i : Nat} {c : Cell} (h : c.free = true) : gcOk s (s.set i c) = true := by
  unfold gcOk
  simp only [List.length_set, Nat.le_refl, decide_true, Bool.true_and, List.all_eq_true, List.mem_range, Bool.or_eq_true, decide_eq_true_eq]
  intro j hj
  by_cases e : i = j
  · subst e
    right
    rw [List.getElem?_set_self hj]
    exact h
  · left
    rw [List.getElem?_set_ne e]
theorem frees_ints (ns : List Int) : D.frees (ns.map D.int) = true := by
  induction ns with
  | nil => rfl
  | cons n ns ih => simp [D.frees, D.free, ih]
/-! ### loops -/
theorem stands_of {s : Sto} {d : D} {xs : List D} (h : seqOf s d = some xs) : stands (guardOf d xs) s = true := by
  cases d with
  | ref i =>
    simp only [seqOf] at h
    split at h
    · rename_i ys hi
      cases h
      simp [guardOf, stands, hi]
    · cases h
  | _ => rfl
theorem ev_comp {g : G} {m : Bool} {own : List Nat} {elt : E} {t : MP.T} {it : I} {ifs : List E} {env : Env} {s s' s'' : Sto} {ds ys : List D} {gd : Gd} (hi : evI g it env s = .ok (ds, gd) s') (hc : compLoop (stepF own t (evAnd g ifs) (evE g elt) env) gd ds s' = .ok ys s'') (hl : ys.length ≤ LINE) :
    evE g (.comp m own elt t it ifs) env s = newL m ys s'' := by
  have : evE g (.comp m own elt t it ifs) env s = compF m own t (evI g it) (evAnd g ifs) (evE g elt) env s := by rw [evE]; rfl
  rw [this]
  unfold compF
  rw [hi]
  simp only [R.bind_ok]
  rw [hc]
  simp only [hl, if_true]
theorem comp_map {step : D → Sto → R (Option D)} {g : Gd} {s : Sto} {f : D → D} (hg : stands g s = true) : ∀ {ds : List D}, (∀ d ∈ ds, step d s = .ok (some (f d)) s) → compLoop step g ds s = .ok (ds.map f) s
  | [], _ => by simp [compLoop, hg]
  | d :: ds, h => by
    simp only [compLoop, hg, if_true]
    rw [h d List.mem_cons_self]
    simp only
    rw [comp_map hg fun e he => h e (List.mem_cons_of_mem _ he)]
    rfl
/-- a comprehension whose elements change nothing -/
theorem ev_comp_map {g : G} {own : List Nat} {elt : E} {t : MP.T} {it : I} {env : Env} {s : Sto} {ds : List D} {gd : Gd} {m : Bool} (f : D → D) (hi : evI g it env s = .ok (ds, gd) s) (hg : stands gd s = true) (hl : ds.length ≤ LINE)
    (h : ∀ d ∈ ds, ∃ env', asgT t d (wipeE env own) = some env' ∧ evE g elt env' s = .ok (f d) s) : evE g (.comp m own elt t it []) env s = newL m (ds.map f) s := by
  refine ev_comp hi (comp_map hg fun d hd => ?_) (by rw [List.length_map]; exact hl)
  obtain ⟨env', h1, h2⟩ := h d hd
  simp [stepF, h1, h2]
/-- one turn of a for -/
def bodyF (g : G) (t : MP.T) (body : List S) : D → Env → Sto → SR := fun d env s => opt2 (asgT t d env) fun env => exB g body env s
theorem ex_for {g : G} {t : MP.T} {it : I} {body : List S} {env : Env} {s s' : Sto} {ds : List D} {gd : Gd} (hi : evI g it env s = .ok (ds, gd) s') :
    exS g (.forS t it body) env s = forLoop (bodyF g t body) gd ds env s' := by
  rw [exS, hi]
  rfl
theorem for_nil {step : D → Env → Sto → SR} {gd : Gd} {env : Env} {s : Sto} (h : stands gd s = true) : forLoop step gd [] env s = .nx env s := by simp [forLoop, h]
theorem for_nx {step : D → Env → Sto → SR} {gd : Gd} {d : D} {ds : List D} {env env' : Env} {s s' : Sto} (h : stands gd s = true) (hs : step d env s = .nx env' s') : forLoop step gd (d :: ds) env s = forLoop step gd ds env' s' := by simp [forLoop, h, hs]
theorem for_ret {step : D → Env → Sto → SR} {gd : Gd} {d v : D} {ds : List D} {env : Env} {s s' : Sto} (h : stands gd s = true) (hs : step d env s = .ret v s') : forLoop step gd (d :: ds) env s = .ret v s' := by simp [forLoop, h, hs]
@[simp] theorem intsOf_map : ∀ ns : List Int, intsOf (ns.map D.int) = some ns
  | [] => rfl
  | n :: ns => by simp [intsOf, intsOf_map ns]
@[simp] theorem blsOf_map : ∀ ns : List Bool, blsOf (ns.map D.bl) = some ns
  | [] => rfl
  | n :: ns => by simp [blsOf, blsOf_map ns]
theorem evI_seq {g : G} {e : E} {env : Env} {s s' : Sto} {d : D} {xs : List D} (h : evE g e env s = .ok d s') (hx : seqOf s' d = some xs) : evI g (.seq e) env s = .ok (xs, guardOf d xs) s' := by
  rw [evI, h]
  cases d with
  | str x => simp [seqOf] at hx
  | _ => simp only [R.bind_ok, hx, opt1_some]
theorem evI_zip2 {g : G} {a b : E} {env : Env} {s s1 s2 : Sto} {d1 d2 : D} {xs ys : List D} (h1 : evE g a env s = .ok d1 s1) (h2 : evE g b env s1 = .ok d2 s2) (hx : seqOf s2 d1 = some xs) (hy : seqOf s2 d2 = some ys) :
    evI g (.zip [a, b]) env s = .ok ((xs.zip ys).map fun p => D.tup [p.1, p.2], guardOf d1 xs ++ guardOf d2 ys) s2 := by
  rw [evI]
  simp [h1, h2, hx, hy, zipD]
theorem evI_range1 {g : G} {a : E} {env : Env} {s s1 : Sto} {n : Int} (h1 : evE g a env s = .ok (.int n) s1) (h : smallI n = true) : evI g (.range [a]) env s = .ok (rangeD 0 n.toNat, []) s1 := by
  rw [evI]
  simp [h1, h]
end MP
set_option autoImplicit false
set_option linter.all false
set_option maxRecDepth 100000
set_option maxHeartbeats 4000000
namespace Lk57
open PySem MP
def tc (n : Nat) : Str := (([(0, "BarterError"), (1, "BadGoods"), (2, "BadTrade"), (3, "Market")] : List (Nat × Str)).lookup n).getD ""
def ta (n : Nat) : Str := (([(0, "goods"), (1, "index"), (2, "trades")] : List (Nat × Str)).lookup n).getD ""
def tf (n : Nat) : Str := (([(0, "is_integer"), (1, "is_bag"), (2, "is_pair_of_bags"), (3, "is_whole"), (4, "dot"), (5, "differences"), (6, "is_multiple"), (7, "is_round"), (8, "_law_mixed"), (9, "_law_state"), (10, "_law_take"), (11, "_law_whole"), (12, "_law_total"), (13, "_law_multiple"), (14, "_law_weights"), (15, "_law_trade"), (16, "_law_spoiled_weights"), (17, "_law_thing"), (18, "_law_due"), (19, "law")] : List (Nat × Str)).lookup n).getD ""
def tg (n : Nat) : Str := (([(0, "MOST_GOODS"), (1, "MOST_TRADES")] : List (Nat × Str)).lookup n).getD ""
def T : Tab := ⟨tc, ta, tf, tg, []⟩
def f0 : Fn := ⟨1, 1, [], 0,
  [.ret (.and [.isi (.var 0) [.int], .not (.isi (.var 0) [.bool])])]⟩
def f1 : Fn := ⟨2, 3, [], 0,
  [.ife (.or [.not (.isi (.var 1) [.tuple]), .cmp .ne (.bi .len [.var 1]) (.var 0)]) [.ret (.lit (.bl false))] [], .forS (.name 2) (.seq (.var 1)) [.ife (.or [.not (.call 0 [.var 2]), .cmp .lt (.var 2) (.lit (.int 0))]) [.ret (.lit (.bl false))] []], .ret (.lit (.bl true))]⟩
def f2 : Fn := ⟨2, 2, [], 0,
  [.ret (.and [.isi (.var 1) [.tuple], .cmp .eq (.bi .len [.var 1]) (.lit (.int 2)), .call 1 [.var 0, .idx (.var 1) (.lit (.int 0))], .call 1 [.var 0, .idx (.var 1) (.lit (.int 1))]])]⟩
def f3 : Fn := ⟨1, 1, [], 0,
  [.ret (.and [.isi (.var 0) [.int], .not (.isi (.var 0) [.bool])])]⟩
def f4 : Fn := ⟨2, 4, [], 0,
  [.ret (.bi .sum [.comp false [2, 3] (.bin .mul (.var 2) (.var 3)) (.tup [.name 2, .name 3]) (.zip [.var 0, .var 1]) []])]⟩
def f5 : Fn := ⟨1, 5, [], 0,
  [.ret (.comp false [1, 2] (.comp false [3, 4] (.bin .sub (.var 4) (.var 3)) (.tup [.name 3, .name 4]) (.zip [.var 1, .var 2]) []) (.tup [.name 1, .name 2]) (.seq (.fld (.var 0) 2)) [])]⟩
def f6 : Fn := ⟨2, 2, [], 0,
  [.ife (.cmp .eq (.var 1) (.lit (.int 0))) [.ret (.cmp .eq (.var 0) (.lit (.int 0)))] [], .ret (.cmp .eq (.bin .mod (.var 0) (.var 1)) (.lit (.int 0)))]⟩
def f7 : Fn := ⟨4, 8, [], 0,
  [.ife (.or [.not (.isi (.var 3) [.tuple]), .cmp .ne (.bi .len [.var 3]) (.lit (.int 2))]) [.ret (.lit (.bl false))] [], .asg (.tup [.name 4, .name 5]) (.var 3), .ife (.or [.not (.isi (.var 4) [.tuple]), .cmp .ne (.bi .len [.var 4]) (.fld (.var 0) 0)]) [.ret (.lit (.bl false))] [], .ife (.not (.bi .all [.comp false [7] (.call 3 [.var 7]) (.name 7) (.seq (.var 4)) []])) [.ret (.lit (.bl false))] [], .ife (.or [.not (.call 3 [.var 5]), .cmp .lt (.var 5) (.lit (.int 0)), .cmp .eq (.var 5) (.lit (.int 1))]) [.ret (.lit (.bl false))] [], .forS (.name 6) (.seq (.call 5 [.var 0])) [.ife (.not (.call 6 [.call 4 [.var 4, .var 6], .var 5])) [.ret (.lit (.bl false))] []], .ret (.not (.call 6 [.bin .sub (.call 4 [.var 4, .var 1]) (.call 4 [.var 4, .var 2]), .var 5]))]⟩
def f8 : Fn := ⟨2, 2, [], 0,
  [.asg (.name 0) (.bin .mul (.bi .toInt [.bin .add (.bin .add (.var 0) (.bin .mul (.lit (.int 7919)) (.var 1))) (.lit (.int 1))]) (.lit (.int 48271))), .asg (.name 0) (.bin .mod (.bi .toInt [.var 0]) (.lit (.int 2147483647))), .asg (.name 0) (.bin .mul (.var 0) (.bin .add (.bin .fdiv (.var 0) (.lit (.int 1009))) (.lit (.int 69621)))), .asg (.name 0) (.bin .mod (.bi .toInt [.var 0]) (.lit (.int 2147483647))), .asg (.name 0) (.bin .mul (.var 0) (.bin .add (.bin .fdiv (.var 0) (.lit (.int 2003))) (.lit (.int 40692)))), .ret (.bin .fdiv (.bin .mod (.bi .toInt [.var 0]) (.lit (.int 2147483399))) (.lit (.int 16)))]⟩
def f9 : Fn := ⟨1, 3, [], 1,
  [.asg (.name 1) (.lit (.int 1)), .forS (.name 2) (.seq (.var 0)) [.asg (.name 1) (.bin .mod (.bi .toInt [.bin .add (.bin .add (.bin .mul (.var 1) (.lit (.int 69621))) (.bin .mod (.bi .toInt [.var 2]) (.lit (.int 2147483399)))) (.lit (.int 7))]) (.lit (.int 2147483647)))], .ret (.lst true [.lit (.int 0), .lit (.int 0), .lit (.int 0), .var 1])]⟩
def f10 : Fn := ⟨3, 5, [], 0,
  [.seti (.var 0) (.lit (.int 2)) (.bin .add (.idx (.var 0) (.lit (.int 2))) (.lit (.int 1))), .ife (.and [.cmp .eq (.idx (.var 0) (.lit (.int 1))) (.lit (.int 0)), .cmp .lt (.idx (.var 0) (.lit (.int 0))) (.bi .len [.var 1])]) [.asg (.name 3) (.bi .toInt [.idx (.var 1) (.idx (.var 0) (.lit (.int 0)))]), .seti (.var 0) (.lit (.int 0)) (.bin .add (.idx (.var 0) (.lit (.int 0))) (.lit (.int 1))), .ife (.cmp .lt (.bi .abs [.var 3]) (.bin .pow (.lit (.int 10)) (.lit (.int 18)))) [.ret (.bin .mod (.bi .toInt [.call 8 [.var 3, .idx (.var 0) (.lit (.int 2))]]) (.var 2))] [], .seti (.var 0) (.lit (.int 1)) (.bi .abs [.var 3])] [], .ife (.cmp .gt (.idx (.var 0) (.lit (.int 1))) (.lit (.int 0))) [.asg (.name 4) (.bin .mod (.bi .toInt [.idx (.var 0) (.lit (.int 1))]) (.var 2)), .seti (.var 0) (.lit (.int 1)) (.bin .fdiv (.idx (.var 0) (.lit (.int 1))) (.var 2)), .ret (.var 4)] [], .ret (.bin .mod (.bi .toInt [.call 8 [.idx (.var 0) (.lit (.int 3)), .idx (.var 0) (.lit (.int 2))]]) (.var 2))]⟩
def f11 : Fn := ⟨1, 1, [], 0,
  [.ret (.and [.isi (.var 0) [.int], .not (.isi (.var 0) [.bool])])]⟩
def f12 : Fn := ⟨2, 5, [], 0,
  [.asg (.name 2) (.lit (.int 0)), .forS (.tup [.name 3, .name 4]) (.zip [.var 0, .var 1]) [.asg (.name 2) (.bin .add (.var 2) (.bin .mul (.var 3) (.var 4)))], .ret (.var 2)]⟩
def f13 : Fn := ⟨2, 2, [], 0,
  [.ife (.cmp .eq (.var 1) (.lit (.int 0))) [.ret (.cmp .eq (.var 0) (.lit (.int 0)))] [], .ret (.cmp .eq (.bin .mod (.bi .toInt [.var 0]) (.var 1)) (.lit (.int 0)))]⟩
def f14 : Fn := ⟨5, 8, [], 1,
  [.asg (.name 5) (.lst true []), .forS (.name 6) (.range [.var 2]) [.ife (.cmp .eq (.var 3) (.lit (.int 0))) [.asg (.name 7) (.bin .sub (.call 10 [.var 0, .var 1, .lit (.int 3)]) (.lit (.int 1)))] [.asg (.name 7) (.bin .sub (.call 10 [.var 0, .var 1, .var 3]) (.bin .mul (.var 3) (.call 10 [.var 0, .var 1, .lit (.int 2)])))], .expr (.bm .append (.var 5) [.var 7])], .seti (.var 5) (.var 4) (.lit (.int 1)), .ret (.var 5)]⟩
def f15 : Fn := ⟨5, 12, [], 2,
  [.asg (.name 5) (.bi .len [.var 2]), .asg (.name 6) (.lit (.int 12)), .ife (.and [.cmp .eq (.var 3) (.lit (.int 0)), .cmp .gt (.var 5) (.lit (.int 1))]) [.asg (.name 6) (.bin .fdiv (.lit (.int 6)) (.bin .sub (.var 5) (.lit (.int 1))))] [], .asg (.name 7) (.comp true [11] (.call 10 [.var 0, .var 1, .bin .add (.var 6) (.lit (.int 1))]) (.name 11) (.range [.var 5]) []), .asg (.name 8) (.comp true [11] (.call 10 [.var 0, .var 1, .bin .add (.var 6) (.lit (.int 1))]) (.name 11) (.range [.var 5]) []), .ife (.cmp .gt (.var 3) (.lit (.int 0))) [.seti (.var 8) (.var 4) (.lit (.int 0)), .seti (.var 8) (.var 4) (.bin .mod (.bi .toInt [.bin .sub (.call 12 [.var 2, .var 7]) (.call 12 [.var 2, .var 8])]) (.var 3))] [.seti (.var 7) (.var 4) (.lit (.int 0)), .seti (.var 8) (.var 4) (.lit (.int 0)), .asg (.name 9) (.bin .sub (.call 12 [.var 2, .var 7]) (.call 12 [.var 2, .var 8])), .asg (.name 10) (.call 10 [.var 0, .var 1, .bin .sub (.lit (.int 13)) (.bi .abs [.var 9])]), .seti (.var 7) (.var 4) (.bin .add (.bi .max2 [.lit (.int 0), .neg (.var 9)]) (.var 10)), .seti (.var 8) (.var 4) (.bin .add (.bi .max2 [.lit (.int 0), .var 9]) (.var 10))], .ret (.lst false [.var 7, .var 8])]⟩
def f16 : Fn := ⟨5, 7, [], 0,
  [.asg (.name 5) (.li .toList true (.var 0)), .ife (.cmp .eq (.var 2) (.lit (.int 0))) [.seti (.var 5) (.var 3) (.bin .add (.idx (.var 5) (.var 3)) (.lit (.int 1)))] [.ife (.cmp .eq (.var 2) (.lit (.int 1))) [.seti (.var 5) (.var 3) (.bin .sub (.idx (.var 5) (.var 3)) (.lit (.int 1)))] [.ife (.and [.cmp .eq (.var 2) (.lit (.int 2)), .cmp .gt (.idx (.var 5) (.var 3)) (.lit (.int 0))]) [.seti (.var 5) (.var 3) (.bin .sub (.idx (.var 5) (.var 3)) (.var 1))] [.ife (.cmp .eq (.var 2) (.lit (.int 2))) [.seti (.var 5) (.var 3) (.bin .add (.idx (.var 5) (.var 3)) (.var 1))] [.ife (.cmp .eq (.var 2) (.lit (.int 3))) [.seti (.var 5) (.var 3) (.idx (.lst false [.lit (.bl true), .lit (.bl false), .lit .non, .lit (.str [97]), .tup [], .tup [.lit (.int 1)]]) (.var 4))] [.ife (.cmp .eq (.var 2) (.lit (.int 4))) [.asg (.name 5) (.comp true [6] (.bin .mul (.var 4) (.var 6)) (.name 6) (.seq (.var 5)) [])] [.ife (.cmp .eq (.var 2) (.lit (.int 5))) [.asg (.name 5) (.bin .add (.slc false (.var 5) none (some (.var 3))) (.slc false (.var 5) (some (.bin .add (.var 3) (.lit (.int 1)))) none))] [.ife (.cmp .eq (.var 2) (.lit (.int 6))) [.asg (.name 5) (.bin .add (.bin .add (.slc false (.var 5) none (some (.var 3))) (.lst false [.var 4])) (.slc false (.var 5) (some (.var 3)) none))] [.ife (.cmp .eq (.var 2) (.lit (.int 7))) [.seti (.var 5) (.var 3) (.lit (.int 0))] []]]]]]]]], .ret (.bi .toTup [.var 5])]⟩
def f17 : Fn := ⟨6, 7, [], 2,
  [.asg (.name 6) (.bi .toTup [.var 0]), .ife (.cmp .lt (.var 2) (.lit (.int 8))) [.ret (.tup [.call 16 [.var 0, .var 1, .var 2, .var 3, .var 4], .var 1])] [], .ife (.cmp .eq (.var 2) (.lit (.int 8))) [.ret (.tup [.var 6, .var 4])] [], .ife (.cmp .eq (.var 2) (.lit (.int 9))) [.ret (.tup [.var 6, .bin .add (.var 1) (.var 4)])] [], .ife (.cmp .eq (.var 2) (.lit (.int 10))) [.ret (.tup [.var 6, .idx (.lst false [.neg (.var 1), .neg (.lit (.int 1)), .neg (.lit (.int 2)), .lit (.int 1), .bin .pow (.lit (.int 10)) (.lit (.int 40)), .bin .mul (.var 1) (.lit (.int 2))]) (.var 4)])] [], .ife (.cmp .eq (.var 2) (.lit (.int 11))) [.ret (.tup [.var 6, .idx (.lst false [.lit (.bl true), .lit (.bl false), .lit .non, .lit (.str [50]), .tup [], .tup [.lit (.int 2)]]) (.var 4)])] [], .ife (.cmp .eq (.var 2) (.lit (.int 12))) [.ret (.idx (.lst false [.lst false [.var 6, .var 1], .tup [.li .toList false (.var 6), .var 1], .tup [.var 6], .tup [.var 6, .var 1, .var 1], .tup [.var 1, .var 6], .var 6]) (.var 4))] [], .ife (.cmp .eq (.var 2) (.lit (.int 13))) [.ret (.idx (.lst false [.lit .non, .tup [], .lit (.int 7), .lit (.str [97, 98]), .var 5, .dct [] []]) (.var 4))] [], .ife (.cmp .eq (.var 2) (.lit (.int 14))) [.ret (.idx (.lst false [.tup [.tup [], .var 1], .tup [.tup [.var 6], .var 1], .tup [.lit .non, .var 1], .tup [.var 5, .var 1], .tup [.lit (.str []), .var 1], .tup [.lst false [], .lit (.int 0)]]) (.var 4))] [], .ret (.tup [.var 6, .var 1])]⟩
def f18 : Fn := ⟨4, 9, [], 0,
  [.ife (.or [.not (.isi (.var 0) [.tuple]), .cmp .ne (.bi .len [.var 0]) (.lit (.int 2))]) [.ret (.lit (.bl false))] [], .asg (.name 4) (.idx (.var 0) (.lit (.int 0))), .asg (.name 5) (.idx (.var 0) (.lit (.int 1))), .ife (.or [.not (.isi (.var 4) [.tuple]), .cmp .ne (.bi .len [.var 4]) (.bi .len [.var 2])]) [.ret (.lit (.bl false))] [], .forS (.name 6) (.seq (.var 4)) [.ife (.not (.call 11 [.var 6])) [.ret (.lit (.bl false))] []], .ife (.or [.not (.call 11 [.var 5]), .cmp .lt (.var 5) (.lit (.int 0)), .cmp .eq (.var 5) (.lit (.int 1))]) [.ret (.lit (.bl false))] [], .forS (.tup [.name 7, .name 8]) (.seq (.var 1)) [.ife (.not (.call 13 [.bin .sub (.call 12 [.var 4, .var 8]) (.call 12 [.var 4, .var 7]), .var 5])) [.ret (.lit (.bl false))] []], .ret (.not (.call 13 [.bin .sub (.call 12 [.var 4, .var 3]) (.call 12 [.var 4, .var 2]), .var 5]))]⟩
def f19 : Fn := ⟨1, 26, [], 0,
  [.asg (.name 1) (.call 9 [.var 0]), .asg (.name 2) (.call 10 [.var 1, .var 0, .lit (.int 16)]), .asg (.name 3) (.call 10 [.var 1, .var 0, .lit (.int 6)]), .asg (.name 4) (.bin .add (.lit (.int 1)) (.call 10 [.var 1, .var 0, .lit (.int 5)])), .asg (.name 5) (.call 10 [.var 1, .var 0, .var 4]), .asg (.name 6) (.call 10 [.var 1, .var 0, .lit (.int 3)]), .asg (.name 7) (.call 10 [.var 1, .var 0, .lit (.int 4)]), .asg (.name 8) (.idx (.lst false [.lit (.int 0), .lit (.int 0), .lit (.int 0), .lit (.int 2), .lit (.int 3), .lit (.int 4), .lit (.int 5), .lit (.int 6), .lit (.int 7), .lit (.int 8), .lit (.int 9), .lit (.int 10), .lit (.int 11), .lit (.int 12), .lit (.int 2), .lit (.int 4)]) (.call 10 [.var 1, .var 0, .lit (.int 16)])), .asg (.name 9) (.call 10 [.var 1, .var 0, .var 4]), .asg (.name 10) (.call 14 [.var 1, .var 0, .var 4, .var 8, .var 9]), .asg (.name 11) (.comp false [24] (.call 15 [.var 1, .var 0, .var 10, .var 8, .var 9]) (.name 24) (.range [.call 10 [.var 1, .var 0, .lit (.int 5)]]) []), .ife (.and [.cmp .eq (.var 7) (.lit (.int 0)), .cmp .gt (.bi .len [.var 11]) (.lit (.int 0))]) [.asg (.name 12) (.idx (.var 11) (.call 10 [.var 1, .var 0, .bi .len [.var 11]])), .asg (.name 13) (.idx (.var 12) (.call 10 [.var 1, .var 0, .lit (.int 2)])), .asg (.name 14) (.call 10 [.var 1, .var 0, .var 4]), .seti (.var 13) (.var 14) (.bin .sub (.bin .add (.idx (.var 13) (.var 14)) (.lit (.int 1))) (.bin .mul (.lit (.int 2)) (.bi .toInt [.cmp .eq (.idx (.var 13) (.var 14)) (.lit (.int 12))])))] [], .asg (.name 15) (.comp false [25] (.call 10 [.var 1, .var 0, .lit (.int 13)]) (.name 25) (.range [.var 4]) []), .asg (.name 16) (.comp false [25] (.call 10 [.var 1, .var 0, .lit (.int 13)]) (.name 25) (.range [.var 4]) []), .ife (.and [.cmp .eq (.var 6) (.lit (.int 0)), .cmp .gt (.bi .len [.var 11]) (.lit (.int 0))]) [.asg (.name 15) (.li .toList false (.idx (.idx (.var 11) (.lit (.int 0))) (.lit (.int 0)))), .asg (.name 16) (.li .toList false (.idx (.idx (.var 11) (.lit (.int 0))) (.lit (.int 1))))] [], .asg (.name 11) (.bi .toTup [.comp false [12] (.tup [.bi .toTup [.idx (.var 12) (.lit (.int 0))], .bi .toTup [.idx (.var 12) (.lit (.int 1))]]) (.name 12) (.seq (.var 11)) []]), .asg (.name 15) (.bi .toTup [.var 15]), .asg (.name 16) (.bi .toTup [.var 16]), .asg (.name 17) (.make 3 [.var 4, .var 11]), .asg (.name 18) (.lst false [.tup [.bi .toTup [.var 10], .var 8], .call 17 [.var 10, .var 8, .var 2, .var 5, .var 3, .var 17]]), .forS (.name 19) (.seq (.bin .add (.var 18) (.var 18))) [.asg (.name 20) (.call 18 [.var 19, .var 11, .var 15, .var 16]), .forS (.tup [.name 21, .name 22]) (.seq (.lst false [.tup [.var 15, .var 16], .tup [.var 16, .var 15]])) [.asg (.name 23) (.call 7 [.var 17, .var 21, .var 22, .var 19]), .ife (.or [.not (.isi (.var 23) [.bool]), .cmp .ne (.var 23) (.var 20)]) [.ret (.lit (.bl false))] []]], .ret (.lit (.bl true))]⟩
def f20 : Fn := ⟨3, 5, [], 0,
  [.ife (.or [.not (.call 0 [.var 1]), .not (.chain .le .le (.lit (.int 1)) (.var 1) (.glob 0))]) [.bad] [], .ife (.or [.not (.isi (.var 2) [.tuple]), .cmp .gt (.bi .len [.var 2]) (.glob 1)]) [.bad] [], .forS (.tup [.name 3, .name 4]) (.enum (.var 2)) [.ife (.not (.call 2 [.var 1, .var 4])) [.bad] []], .setf (.var 0) 0 (.var 1), .setf (.var 0) 2 (.var 2)]⟩
def fnL : List (Nat × Fn) := [(0, f0), (1, f1), (2, f2), (3, f3), (4, f4), (5, f5), (6, f6), (7, f7), (8, f8), (9, f9), (10, f10), (11, f11), (12, f12), (13, f13), (14, f14), (15, f15), (16, f16), (17, f17), (18, f18), (19, f19), (20, f20)]
def clsL : List (Nat × Cls) := [(0, ⟨true, [], none, true, []⟩), (1, ⟨true, [0], none, true, []⟩), (2, ⟨true, [1], none, true, []⟩), (3, ⟨false, [0, 2], some 20, true, []⟩)]
def P : Prog := ⟨fun f => fnL.lookup f, fun c => clsL.lookup c, fun c d => ([(0, 0), (1, 1), (1, 0), (2, 2), (2, 0), (3, 3)] : List (Nat × Nat)).contains (c, d), fun i => ([(0, .int 5), (1, .int 8)] : List (Nat × D)).lookup i⟩
def isTop (f : Nat) : Bool := ([0, 1, 2, 3, 4, 5, 6, 7, 8, 9, 10, 11, 12, 13, 14, 15, 16, 17, 18, 19] : List Nat).contains f
end Lk57
set_option autoImplicit false
set_option linter.all false
set_option maxRecDepth 10000
set_option maxHeartbeats 1000000
/-! S57a: the small functions. -/
namespace MP
def Ty1 (s : Sto) : D → Prop
  | .scr _ => False
  | .exc _ _ => False
  | .ref i => ∃ kvs, s[i]? = some (.dct kvs)
  | _ => True
def isIntD : D → Bool
  | .int _ => true
  | _ => false
def isBlD : D → Bool
  | .bl _ => true
  | _ => false
theorem ty_int {g : G} {s : Sto} {d : D} (h : Ty1 s d) : tyIs g s d .int = some (isIntD d || isBlD d) := by
  cases d <;> simp_all [Ty1, tyIs, isIntD, isBlD] <;> first | (exact absurd h id) | (obtain ⟨kvs, h⟩ := h; simp [h]) | rfl
theorem ty_bool {g : G} {s : Sto} {d : D} (h : Ty1 s d) : tyIs g s d .bool = some (isBlD d) := by
  cases d <;> simp_all [Ty1, tyIs, isIntD, isBlD] <;> first | (exact absurd h id) | (obtain ⟨kvs, h⟩ := h; simp [h]) | rfl
def isTupD : D → Bool
  | .tup _ => true
  | _ => false
theorem ty_tup {g : G} {s : Sto} {d : D} (h : Ty1 s d) : tyIs g s d .tuple = some (isTupD d) := by
  cases d <;> simp_all [Ty1, tyIs, isTupD] <;> first | (exact absurd h id) | (obtain ⟨kvs, h⟩ := h; simp [h]) | rfl
def dotI (ws bs : List Int) : Int := ((ws.zip bs).map fun p => p.1 * p.2).sum
def subI (ws bs : List Int) : List Int := (ws.zip bs).map fun p => p.2 - p.1
def sml (bs : List Int) : Prop := ∀ b ∈ bs, -(2 ^ 60) < b ∧ b < 2 ^ 60
end MP
namespace Lk57
open MP
theorem c0 (k f : Nat) (ds : List D) (s : Sto) (fn : Fn) (h : P.fn f = some fn) : MP.call P (k + 1) f ds s = runFn (genv P (MP.call P k)) fn ds s := by
  simp only [MP.call, h]
@[simp] theorem g_call (c : Nat → List D → Sto → R D) (f : Nat) : (genv P c).call f = c f := rfl
theorem dfl_nil (c : Nat → List D → Sto → R D) (f : Nat) : (genv P c).dfl f = [] := by
  have all : ∀ p ∈ fnL, p.2.dfl = [] := by decide
  show (match P.fn f with | some x => x.dfl | none => []) = []
  cases h : P.fn f with
  | none => rfl
  | some x => exact all (f, x) (lookup_mem (show fnL.lookup f = some x from h))
@[simp] theorem fill_P (c : Nat → List D → Sto → R D) (f n : Nat) (xs : List D) : fill n xs ((genv P c).dfl f) = xs := by rw [dfl_nil, fill_nil]
theorem is_integer (k : Nat) (d : D) (s : Sto) (h : Ty1 s d) : MP.call P (k + 1) 0 [d] s = .ok (.bl (isIntD d)) s := by
  rw [c0 k 0 _ _ f0 rfl]
  have h1 := ty_int (g := genv P (MP.call P k)) h
  have h2 := ty_bool (g := genv P (MP.call P k)) h
  cases d <;> simp only [isIntD, isBlD, Bool.or_false, Bool.or_true, Bool.or_self] at h1 h2 <;> simp [runFn, f0, h1, h2, isIntD]
theorem is_whole (k : Nat) (d : D) (s : Sto) (h : Ty1 s d) : MP.call P (k + 1) 3 [d] s = .ok (.bl (isIntD d)) s := by
  rw [c0 k 3 _ _ f3 rfl]
  have h1 := ty_int (g := genv P (MP.call P k)) h
  have h2 := ty_bool (g := genv P (MP.call P k)) h
  cases d <;> simp only [isIntD, isBlD, Bool.or_false, Bool.or_true, Bool.or_self] at h1 h2 <;> simp [runFn, f3, h1, h2, isIntD]
theorem law_whole (k : Nat) (d : D) (s : Sto) (h : Ty1 s d) : MP.call P (k + 1) 11 [d] s = .ok (.bl (isIntD d)) s := by
  rw [c0 k 11 _ _ f11 rfl]
  have h1 := ty_int (g := genv P (MP.call P k)) h
  have h2 := ty_bool (g := genv P (MP.call P k)) h
  cases d <;> simp only [isIntD, isBlD, Bool.or_false, Bool.or_true, Bool.or_self] at h1 h2 <;> simp [runFn, f11, h1, h2, isIntD]
/-- a multiple of m; of 0: 0 alone -/
def mult (n m : Int) : Bool := if m = 0 then decide (n = 0) else decide (n % m = 0)
theorem is_multiple (k : Nat) (n m : Int) (s : Sto) (hm : 0 ≤ m) : MP.call P (k + 1) 6 [.int n, .int m] s = .ok (.bl (mult n m)) s := by
  rw [c0 k 6 _ _ f6 rfl]
  unfold mult
  by_cases h : m = 0
  · subst h
    simp [runFn, f6]
  · have h0 : 0 < m := by omega
    simp [runFn, f6, h, bin_mod_int, h0]
theorem law_multiple (k : Nat) (n m : Int) (s : Sto) (hm : 0 ≤ m) : MP.call P (k + 1) 13 [.int n, .int m] s = .ok (.bl (mult n m)) s := by
  rw [c0 k 13 _ _ f13 rfl]
  unfold mult
  by_cases h : m = 0
  · subst h
    simp [runFn, f13]
  · have h0 : 0 < m := by omega
    simp [runFn, f13, h, bin_mod_int, h0]
theorem mixed (k : Nat) (n t : Int) (s : Sto) : ∃ r : Int, MP.call P (k + 1) 8 [.int n, .int t] s = .ok (.int r) s ∧ 0 ≤ r := by
  rw [c0 k 8 _ _ f8 rfl]
  have m2 : ∀ a : Int, mulOk a 48271 = true := fun a => mulOk_r (by decide) (by decide)
  have m1 : mulOk 7919 t = true := mulOk_l (by decide) (by decide)
  have m3 : ∀ a b : Int, mulOk (a % 2147483647) b = true := fun a b => mulOk_l (by omega) (by omega)
  simp [runFn, f8, bin_mul_int, bin_mod_int, bin_fdiv_int, m1, m2, m3]
  omega
def mulD : D → D
  | .tup [.int a, .int b] => .int (a * b)
  | _ => .non
theorem dot (k : Nat) (d1 d2 : D) (s : Sto) (ws bs : List Int) (h1 : seqOf s d1 = some (ws.map D.int)) (h2 : seqOf s d2 = some (bs.map D.int)) (hs : sml bs) (hl : ws.length ≤ 1000) : MP.call P (k + 1) 4 [d1, d2] s = .ok (.int (dotI ws bs)) s := by
  rw [c0 k 4 _ _ f4 rfl]
  have hc := ev_comp_map (g := genv P (MP.call P k)) (own := [2, 3]) (elt := .bin .mul (.var 2) (.var 3)) (t := .tup [.name 2, .name 3]) (it := .zip [.var 0, .var 1]) (env := [some d1, some d2, none, none]) (s := s) (m := false)
    mulD
    (evI_zip2 (d1 := d1) (d2 := d2) (s1 := s) (s2 := s) (by simp) (by simp) h1 h2) (by rw [stands_append, stands_of h1, stands_of h2]; rfl)
    (by
      rw [List.length_map, List.length_zip, List.length_map]
      show _ ≤ 16777216
      omega) (fun d hd => by
      obtain ⟨⟨a', b'⟩, hp, rfl⟩ := List.mem_map.mp hd
      obtain ⟨p1, p2⟩ := List.of_mem_zip hp
      obtain ⟨a, _, rfl⟩ := List.mem_map.mp p1
      obtain ⟨b, hb, rfl⟩ := List.mem_map.mp p2
      have hb := hs b hb
      have m := mulOk_r (a := a) (b := b) (by omega) (by omega)
      exact ⟨[some d1, some d2, some (.int a), some (.int b)], by simp, by simp [bin_mul_int, m, mulD]⟩)
  have e : (List.map mulD (List.map (fun p => D.tup [p.1, p.2]) ((ws.map D.int).zip (bs.map D.int)))) = ((ws.zip bs).map fun p => p.1 * p.2).map D.int := by
    rw [List.zip_map, List.map_map, List.map_map, List.map_map]
    rfl
  rw [e] at hc
  simp [runFn, f4, hc, bfn, seqOf, dotI, -List.map_map]
/-- the law's own sum -/
theorem total_loop (g : G) (d1 d2 : D) (gd : Gd) (s : Sto) (hg : stands gd s = true) : ∀ (ps : List (Int × Int)) (acc : Int) (x y : Option D), (∀ p ∈ ps, -(2 ^ 60) < p.2 ∧ p.2 < 2 ^ 60) →
    ∃ x' y', forLoop (bodyF g (.tup [.name 3, .name 4]) [.asg (.name 2) (.bin .add (.var 2) (.bin .mul (.var 3) (.var 4)))]) gd (ps.map fun p => D.tup [.int p.1, .int p.2]) [some d1, some d2, some (.int acc), x, y] s
      = .nx [some d1, some d2, some (.int (acc + (ps.map fun p => p.1 * p.2).sum)), x', y'] s
  | [], acc, x, y, _ => ⟨x, y, by simp [forLoop, hg]⟩
  | (a, b) :: ps, acc, x, y, h => by
    have hb := h (a, b) List.mem_cons_self
    have m := mulOk_r (a := a) (b := b) (by omega) (by omega)
    obtain ⟨x', y', ih⟩ := total_loop g d1 d2 gd s hg ps (acc + a * b) (some (.int a)) (some (.int b)) fun p hp => h p (List.mem_cons_of_mem _ hp)
    refine ⟨x', y', ?_⟩
    rw [List.map_cons, for_nx hg (env' := [some d1, some d2, some (.int (acc + a * b)), some (.int a), some (.int b)]) (s' := s) (by simp [bodyF, bin_mul_int, m]), ih]
    simp [Int.add_assoc]
theorem total (k : Nat) (d1 d2 : D) (s : Sto) (ws bs : List Int) (h1 : seqOf s d1 = some (ws.map D.int)) (h2 : seqOf s d2 = some (bs.map D.int)) (hs : sml bs) : MP.call P (k + 1) 12 [d1, d2] s = .ok (.int (dotI ws bs)) s := by
  rw [c0 k 12 _ _ f12 rfl]
  have hi := evI_zip2 (g := genv P (MP.call P k)) (a := .var 0) (b := .var 1) (env := [some d1, some d2, some (.int 0), none, none]) (s := s) (d1 := d1) (d2 := d2) (s1 := s) (s2 := s) (by simp) (by simp) h1 h2
  have e : (List.map (fun p => D.tup [p.1, p.2]) ((ws.map D.int).zip (bs.map D.int))) = (ws.zip bs).map fun p => D.tup [.int p.1, .int p.2] := by
    rw [List.zip_map, List.map_map]
    rfl
  rw [e] at hi
  obtain ⟨x', y', hl⟩ := total_loop (genv P (MP.call P k)) d1 d2 (guardOf d1 (ws.map D.int) ++ guardOf d2 (bs.map D.int)) s (by rw [stands_append, stands_of h1, stands_of h2]; rfl) (ws.zip bs) 0 none none fun p hp => hs p.2 (List.of_mem_zip hp).2
  have hf := ex_for (t := .tup [.name 3, .name 4]) (body := [.asg (.name 2) (.bin .add (.var 2) (.bin .mul (.var 3) (.var 4)))]) hi
  rw [hl] at hf
  simp [runFn, f12, hf, dotI]
end Lk57
set_option autoImplicit false
set_option linter.all false
set_option maxRecDepth 10000
set_option maxHeartbeats 1000000
/-! S57c: the draws. -/
namespace MP
theorem idx_set {s : Sto} {p : Nat} {xs : List D} (j : Int) (hp : p < s.length) : indexS (s.set p (.lst xs)) (.ref p) (.int j) = atI xs j := by
  simp [indexS, seqOf, hp]
theorem setI_set {s : Sto} {p : Nat} {xs : List D} (j : Int) (v : D) (hp : p < s.length) : setI (s.set p (.lst xs)) (.ref p) (.int j) v = (ixN xs.length j).map fun i => s.set p (.lst (xs.set i v)) := by
  simp [setI, hp]
theorem set_at {s : Sto} {p : Nat} {c : Cell} (h : s[p]? = some c) : s.set p c = s := by
  apply List.ext_getElem?
  intro i
  by_cases e : p = i
  · subst e
    rw [List.getElem?_set_self (List.getElem?_eq_some_iff.mp h).1, h]
  · rw [List.getElem?_set_ne e]
theorem at4_0 (a b c d : D) : atI [a, b, c, d] 0 = some a := rfl
theorem at4_1 (a b c d : D) : atI [a, b, c, d] 1 = some b := rfl
theorem at4_2 (a b c d : D) : atI [a, b, c, d] 2 = some c := rfl
theorem at4_3 (a b c d : D) : atI [a, b, c, d] 3 = some d := rfl
theorem ix4_0 : ixN 4 0 = some 0 := rfl
theorem ix4_1 : ixN 4 1 = some 1 := rfl
theorem ix4_2 : ixN 4 2 = some 2 := rfl
theorem idx_scr {s : Sto} {ns : List Int} {i : Int} (h0 : 0 ≤ i) (h1 : i < ns.length) : ∃ c, indexS s (.scr ns) (.int i) = some (.int c) := by
  have hi : i.toNat < ns.length := by omega
  refine ⟨ns[i.toNat], ?_⟩
  simp [indexS, seqOf, atI, ixN, h0, h1, List.getElem?_eq_getElem hi]
theorem len_scr {s : Sto} {ns : List Int} : bfn s .len [.scr ns] = some (.int ns.length) := by simp [bfn, lenD, seqOf]
theorem fin_set {s : Sto} {p : Nat} {c : Cell} {r : D} (hc : c.free = true) (hr : r.free = true) : fin 0 s r (s.set p c) = .ok r (s.set p c) := by
  unfold fin
  rw [if_neg (by decide), if_pos (gcOk_set hc), if_pos hr]
  congr 1
  have : (s.set p c).length = s.length := List.length_set
  rw [← this, List.take_length]
/-- a state of draws -/
def stC (i d t e : Int) : Cell := .lst [.int i, .int d, .int t, .int e]
theorem stC_free (i d t e : Int) : (stC i d t e).free = true := by simp [stC, Cell.free, D.frees, D.free]
theorem pow18 (s : Sto) : binop s .pow (.int 10) (.int 18) = some (.int (10 ^ 18)) := by simp [binop, powOk]
end MP
namespace Lk57
open MP
theorem take (k : Nat) (s : Sto) (p : Nat) (ns : List Int) (i d t e L : Int) (hp : s[p]? = some (stC i d t e)) (hi : 0 ≤ i) (hd : 0 ≤ d) (hL : 0 < L) (hL2 : L < 1073741824) :
    ∃ r i' d' t', MP.call P (k + 2) 10 [.ref p, .scr ns, .int L] s = .ok (.int r) (s.set p (stC i' d' t' e)) ∧ 0 ≤ r ∧ r < L ∧ 0 ≤ i' ∧ 0 ≤ d' := by
  rw [c0 (k + 1) 10 _ _ f10 rfl]
  have hlt : p < s.length := (List.getElem?_eq_some_iff.mp hp).1
  have hs : s = s.set p (stC i d t e) := (set_at hp).symm
  have fin1 : ∀ {r i' d' t' : Int}, fin 0 s (.int r) (s.set p (.lst [.int i', .int d', .int t', .int e])) = .ok (.int r) (s.set p (stC i' d' t' e)) := fin_set (stC_free _ _ _ _) rfl
  have e1 : ∀ {xs : List D} (j : Int), indexS (s.set p (.lst xs)) (.ref p) (.int j) = atI xs j := fun j => idx_set j hlt
  have e2 : ∀ {xs : List D} (j : Int) (v : D), setI (s.set p (.lst xs)) (.ref p) (.int j) v = (ixN xs.length j).map fun i => s.set p (.lst (xs.set i v)) := fun j v => setI_set j v hlt
  have ei : ∀ j : Int, indexS s (.ref p) (.int j) = atI [.int i, .int d, .int t, .int e] j := fun j => by
    have := e1 (xs := [.int i, .int d, .int t, .int e]) j
    rwa [show s.set p (.lst [.int i, .int d, .int t, .int e]) = s from set_at hp] at this
  have es : ∀ (j : Int) (v : D), setI s (.ref p) (.int j) v = (ixN 4 j).map fun i' => s.set p (.lst ([D.int i, .int d, .int t, .int e].set i' v)) := fun j v => by
    have := e2 (xs := [.int i, .int d, .int t, .int e]) j v
    rwa [show s.set p (.lst [.int i, .int d, .int t, .int e]) = s from set_at hp] at this
  by_cases hA : d = 0 ∧ i < ns.length
  · obtain ⟨rfl, hlen⟩ := hA
    obtain ⟨c, hc⟩ := idx_scr (s := s.set p (.lst [.int i, .int 0, .int (t + 1), .int e])) hi hlen
    by_cases hb : (if c < 0 then -c else c) < 1000000000000000000
    · obtain ⟨r, hr, hr0⟩ := mixed k c (t + 1) (s.set p (.lst [.int (i + 1), .int 0, .int (t + 1), .int e]))
      refine ⟨r % L, i + 1, 0, t + 1, ?_, Int.emod_nonneg _ (by omega), Int.emod_lt_of_pos _ hL, by omega, by omega⟩
      simp [runFn, f10, ei, es, e1, e2, at4_0, at4_1, at4_2, at4_3, ix4_0, ix4_1, ix4_2, len_scr, hlen, hc, pow18, hb, hr, bin_mod_int, hL, fin1]
    · have hc0 : 0 < (if c < 0 then -c else c) := by omega
      refine ⟨(if c < 0 then -c else c) % L, i + 1, (if c < 0 then -c else c) / L, t + 1, ?_, Int.emod_nonneg _ (by omega), Int.emod_lt_of_pos _ hL, by omega, Int.ediv_nonneg (by omega) (by omega)⟩
      simp [runFn, f10, ei, es, e1, e2, at4_0, at4_1, at4_2, at4_3, ix4_0, ix4_1, ix4_2, len_scr, hlen, hc, pow18, hb, hc0, bin_mod_int, bin_fdiv_int, hL, hL2, fin1]
  · have hA' : (decide (d = 0) = true → ¬ (i < ns.length)) := fun h1 h2 => hA ⟨by simpa using h1, h2⟩
    by_cases hd0 : 0 < d
    · have hne : ¬ d = 0 := by omega
      refine ⟨d % L, i, d / L, t + 1, ?_, Int.emod_nonneg _ (by omega), Int.emod_lt_of_pos _ hL, hi, Int.ediv_nonneg (by omega) (by omega)⟩
      simp [runFn, f10, ei, es, e1, e2, at4_0, at4_1, at4_2, at4_3, ix4_0, ix4_1, ix4_2, len_scr, hne, hd0, bin_mod_int, bin_fdiv_int, hL, hL2, fin1]
    · have hz : d = 0 := by omega
      subst hz
      have hnl : ¬ (i < ns.length) := hA' (by simp)
      obtain ⟨r, hr, hr0⟩ := mixed k e (t + 1) (s.set p (.lst [.int i, .int 0, .int (t + 1), .int e]))
      refine ⟨r % L, i, 0, t + 1, ?_, Int.emod_nonneg _ (by omega), Int.emod_lt_of_pos _ hL, hi, by omega⟩
      simp [runFn, f10, ei, es, e1, e2, at4_0, at4_1, at4_2, at4_3, ix4_0, ix4_1, ix4_2, len_scr, hnl, hr, bin_mod_int, hL, fin1]
end Lk57
set_option autoImplicit false
set_option linter.all false
set_option maxRecDepth 10000
set_option maxHeartbeats 1000000
/-! S57d: the state of draws made; the weights. -/
namespace MP
theorem gcOk_app {s s' : Sto} {cs : List Cell} (g : gcOk s s' = true) : gcOk s (s' ++ cs) = true := by
  have hl := gc_len g
  unfold gcOk at g ⊢
  simp only [Bool.and_eq_true, List.all_eq_true, List.mem_range, Bool.or_eq_true, decide_eq_true_eq] at g ⊢
  refine ⟨by rw [List.length_append]; omega, fun i hi => ?_⟩
  rw [List.getElem?_append_left (by omega)]
  exact g.2 i hi
/-- a new list handed back -/
theorem fin1_new {s s' : Sto} {c : Cell} (g : gcOk s s' = true) (hl : s'.length = s.length) (hc : c.free = true) : fin 1 s (.ref s.length) (s' ++ [c]) = .ok (.ref s.length) (s' ++ [c]) := by
  unfold fin
  rw [if_neg (by decide), if_pos (gcOk_app g), if_neg (by simp [D.free]), if_pos rfl]
  unfold finM
  dsimp only
  have h1 : (s' ++ [c])[s.length]? = some c := by rw [← hl]; simp
  rw [h1]
  simp only [Nat.le_refl, decide_true, Bool.true_and, hc, if_true]
  rw [← hl]
  simp
/-- drawn on: the state's cell alone is written -/
def Drawn (p : Nat) (s s' : Sto) : Prop := ∃ i d t e, 0 ≤ i ∧ 0 ≤ d ∧ s' = s.set p (stC i d t e)
theorem Drawn.len {p : Nat} {s s' : Sto} (h : Drawn p s s') : s'.length = s.length := by
  obtain ⟨i, d, t, e, _, _, rfl⟩ := h
  exact List.length_set
theorem Drawn.gc {p : Nat} {s s' : Sto} (h : Drawn p s s') : gcOk s s' = true := by
  obtain ⟨i, d, t, e, _, _, rfl⟩ := h
  exact gcOk_set (stC_free _ _ _ _)
theorem Drawn.at_ {p : Nat} {s s' : Sto} (h : Drawn p s s') (hp : p < s.length) : ∃ i d t e, s'[p]? = some (stC i d t e) ∧ 0 ≤ i ∧ 0 ≤ d := by
  obtain ⟨i, d, t, e, h1, h2, rfl⟩ := h
  exact ⟨i, d, t, e, List.getElem?_set_self hp, h1, h2⟩
theorem Drawn.trans {p : Nat} {s s' s'' : Sto} (h : Drawn p s s') (h' : Drawn p s' s'') : Drawn p s s'' := by
  obtain ⟨i, d, t, e, h1, h2, rfl⟩ := h
  obtain ⟨i', d', t', e', h3, h4, rfl⟩ := h'
  exact ⟨i', d', t', e', h3, h4, by rw [List.set_set]⟩
theorem Drawn.app {p : Nat} {s s' : Sto} {cs : List Cell} (h : Drawn p s s') (hp : p < s.length) : Drawn p (s ++ cs) (s' ++ cs) := by
  obtain ⟨i, d, t, e, h1, h2, rfl⟩ := h
  exact ⟨i, d, t, e, h1, h2, by rw [List.set_append_left _ _ hp]⟩
theorem Drawn.other {p q : Nat} {s s' : Sto} (h : Drawn p s s') (hq : q ≠ p) : s'[q]? = s[q]? := by
  obtain ⟨i, d, t, e, _, _, rfl⟩ := h
  exact List.getElem?_set_ne (Ne.symm hq)
/-- a state of draws stands at p -/
def HasSt (p : Nat) (s : Sto) : Prop := ∃ i d t e, s[p]? = some (stC i d t e) ∧ 0 ≤ i ∧ 0 ≤ d
theorem HasSt.lt {p : Nat} {s : Sto} (h : HasSt p s) : p < s.length := by
  obtain ⟨i, d, t, e, h, _⟩ := h
  exact (List.getElem?_eq_some_iff.mp h).1
theorem HasSt.rfl {p : Nat} {s : Sto} (h : HasSt p s) : Drawn p s s := by
  obtain ⟨i, d, t, e, h, h1, h2⟩ := h
  exact ⟨i, d, t, e, h1, h2, (set_at h).symm⟩
theorem HasSt.drawn {p : Nat} {s s' : Sto} (h : HasSt p s) (d : Drawn p s s') : HasSt p s' := d.at_ h.lt
theorem HasSt.app {p : Nat} {s : Sto} {cs : List Cell} (h : HasSt p s) : HasSt p (s ++ cs) := by
  have hl := h.lt
  obtain ⟨i, d, t, e, h, h1, h2⟩ := h
  exact ⟨i, d, t, e, by rw [List.getElem?_append_left hl]; exact h, h1, h2⟩
end MP
namespace Lk57
open MP
/-- a draw below L -/
theorem draw (k : Nat) (s : Sto) (p : Nat) (ns : List Int) (L : Int) (hp : HasSt p s) (hL : 0 < L) (hL2 : L < 1073741824) :
    ∃ r s', MP.call P (k + 2) 10 [.ref p, .scr ns, .int L] s = .ok (.int r) s' ∧ Drawn p s s' ∧ 0 ≤ r ∧ r < L := by
  obtain ⟨i, d, t, e, h, hi, hd⟩ := hp
  obtain ⟨r, i', d', t', h1, h2, h3, h4, h5⟩ := take k s p ns i d t e L h hi hd hL hL2
  exact ⟨r, _, h1, ⟨i', d', t', e, h4, h5, rfl⟩, h2, h3⟩
theorem state_loop (g : G) (ns0 : List Int) (s : Sto) : ∀ (ns : List Int) (e : Int) (x : Option D),  ∃ e' x', forLoop (bodyF g (.name 2) [.asg (.name 1) (.bin .mod (.bi .toInt [.bin .add (.bin .add (.bin .mul (.var 1) (.lit (.int 69621))) (.bin .mod (.bi .toInt [.var 2]) (.lit (.int 2147483399)))) (.lit (.int 7))]) (.lit (.int 2147483647)))]) [] (ns.map D.int) [some (.scr ns0), some (.int e), x] s
      = .nx [some (.scr ns0), some (.int e'), x'] s
  | [], e, x => ⟨e, x, for_nil (by rfl)⟩
  | n :: ns, e, x => by
    have m : mulOk e 69621 = true := mulOk_r (by decide) (by decide)
    obtain ⟨e', x', ih⟩ := state_loop g ns0 s ns ((e * 69621 + n % 2147483399 + 7) % 2147483647) (some (.int n))
    exact ⟨e', x', by rw [List.map_cons, for_nx (by rfl) (env' := [some (.scr ns0), some (.int ((e * 69621 + n % 2147483399 + 7) % 2147483647)), some (.int n)]) (s' := s) (by simp [bodyF, bin_mul_int, bin_mod_int, m]), ih]⟩
theorem state (k : Nat) (s : Sto) (ns : List Int) : ∃ e, MP.call P (k + 1) 9 [.scr ns] s = .ok (.ref s.length) (s ++ [stC 0 0 0 e]) := by
  rw [c0 k 9 _ _ f9 rfl]
  obtain ⟨e', x', hl⟩ := state_loop (genv P (MP.call P k)) ns s ns 1 none
  have hi : evI (genv P (MP.call P k)) (.seq (.var 0)) [some (.scr ns), some (.int 1), none] s = .ok (ns.map D.int, guardOf (.scr ns) (ns.map D.int)) s := evI_seq (by simp) (by simp [seqOf])
  have hf := ex_for (t := .name 2) (body := [.asg (.name 1) (.bin .mod (.bi .toInt [.bin .add (.bin .add (.bin .mul (.var 1) (.lit (.int 69621))) (.bin .mod (.bi .toInt [.var 2]) (.lit (.int 2147483399)))) (.lit (.int 7))]) (.lit (.int 2147483647)))]) hi
  rw [show guardOf (.scr ns) (ns.map D.int) = [] from rfl, hl] at hf
  refine ⟨e', ?_⟩
  simp [runFn, f9, hf]
  exact fin1_new (gcOk_rfl s) rfl (stC_free _ _ _ _)
end Lk57
set_option autoImplicit false
set_option linter.all false
set_option maxRecDepth 10000
set_option maxHeartbeats 1000000
/-! S57e: the weights. -/
namespace MP
theorem Drawn.unapp {p : Nat} {s t : Sto} {cs : List Cell} (h : Drawn p (s ++ cs) t) (hp : p < s.length) : ∃ s', t = s' ++ cs ∧ Drawn p s s' := by
  obtain ⟨i, d, t', e, h1, h2, rfl⟩ := h
  exact ⟨s.set p (stC i d t' e), by rw [List.set_append_left _ _ hp], i, d, t', e, h1, h2, rfl⟩
theorem app_push {s : Sto} {xs : List D} {n : Nat} (hn : n = s.length) (v : D) (hl : xs.length < LINE) : bmf (s ++ [.lst xs]) .append (.ref n) [v] = .ok .non (s ++ [.lst (xs ++ [v])]) := by
  subst hn
  simp [bmf, hl]
theorem lstOf_last {s : Sto} {xs : List D} {n : Nat} (hn : n = s.length) : lstOf (s ++ [.lst xs]) (.ref n) = some xs := by
  subst hn
  simp [lstOf]
/-- how great a weight may be -/
def WB (many w : Int) : Prop := if many = 0 then -1 ≤ w ∧ w ≤ 1 else -many ≤ w ∧ w < many
end MP
namespace Lk57
open MP
abbrev wBody : List S := [.ife (.cmp .eq (.var 3) (.lit (.int 0))) [.asg (.name 7) (.bin .sub (.call 10 [.var 0, .var 1, .lit (.int 3)]) (.lit (.int 1)))] [.asg (.name 7) (.bin .sub (.call 10 [.var 0, .var 1, .var 3]) (.bin .mul (.var 3) (.call 10 [.var 0, .var 1, .lit (.int 2)])))], .expr (.bm .append (.var 5) [.var 7])]
theorem weights_loop (k p : Nat) (ns : List Int) (gd many pl : Int) (n : Nat) (hm : many = 0 ∨ (2 ≤ many ∧ many ≤ 12)) : ∀ (ds : List D) (ws : List Int) (x y : Option D) (s : Sto), HasSt p s → n = s.length → ws.length + ds.length ≤ 1000 → (∀ w ∈ ws, WB many w) →
    ∃ (ws' : List Int) (s' : Sto) (x' y' : Option D), forLoop (bodyF (genv P (MP.call P (k + 2))) (.name 6) wBody) [] ds [some (.ref p), some (.scr ns), some (.int gd), some (.int many), some (.int pl), some (.ref n), x, y] (s ++ [.lst (ws.map D.int)])
      = .nx [some (.ref p), some (.scr ns), some (.int gd), some (.int many), some (.int pl), some (.ref n), x', y'] (s' ++ [.lst (ws'.map D.int)]) ∧ Drawn p s s' ∧ ws'.length = ws.length + ds.length ∧ ∀ w ∈ ws', WB many w
  | [], ws, x, y, s, hp, _, _, hw => ⟨ws, s, x, y, for_nil (by rfl), hp.rfl, rfl, hw⟩
  | d :: ds, ws, x, y, s, hp, hn, hl, hw => by
    simp only [List.length_cons] at hl
    have step : ∃ (w : Int) (s1 : Sto), bodyF (genv P (MP.call P (k + 2))) (.name 6) wBody d [some (.ref p), some (.scr ns), some (.int gd), some (.int many), some (.int pl), some (.ref n), x, y] (s ++ [.lst (ws.map D.int)])
        = .nx [some (.ref p), some (.scr ns), some (.int gd), some (.int many), some (.int pl), some (.ref n), some d, some (.int w)] (s1 ++ [.lst ((ws ++ [w]).map D.int)]) ∧ Drawn p s s1 ∧ WB many w := by
      have hlen : (ws.map D.int).length < LINE := by rw [List.length_map]; show _ < 16777216; omega
      rcases hm with rfl | ⟨h2, h12⟩
      · obtain ⟨r, t, h1, hd, h3, h4⟩ := draw k (s ++ [.lst (ws.map D.int)]) p ns 3 hp.app (by decide) (by decide)
        obtain ⟨s1, rfl, hd1⟩ := hd.unapp hp.lt
        have hn1 : n = s1.length := by rw [hd1.len]; exact hn
        refine ⟨r - 1, s1, ?_, hd1, by unfold WB; simp; omega⟩
        simp [bodyF, h1, lstOf_last hn1, app_push hn1 _ hlen]
      · have hne : ¬ many = 0 := by omega
        obtain ⟨r, t, h1, hd, h3, h4⟩ := draw k (s ++ [.lst (ws.map D.int)]) p ns many hp.app (by omega) (by omega)
        obtain ⟨s1, rfl, hd1⟩ := hd.unapp hp.lt
        obtain ⟨r2, t2, h5, hd2, h7, h8⟩ := draw k (s1 ++ [.lst (ws.map D.int)]) p ns 2 (hp.drawn hd1).app (by decide) (by decide)
        obtain ⟨s2, rfl, hd3⟩ := hd2.unapp (hp.drawn hd1).lt
        have hn1 : n = s2.length := by rw [hd3.len, hd1.len]; exact hn
        have m : mulOk many r2 = true := mulOk_l (by omega) (by omega)
        refine ⟨r - many * r2, s2, ?_, hd1.trans hd3, ?_⟩
        · simp [bodyF, hne, h1, h5, bin_mul_int, m, lstOf_last hn1, app_push hn1 _ hlen]
        · unfold WB
          rw [if_neg hne]
          have : r2 = 0 ∨ r2 = 1 := by omega
          rcases this with rfl | rfl <;> omega
    obtain ⟨w, s1, h1, hd1, hw1⟩ := step
    obtain ⟨ws', s', x', y', h2, hd2, hl2, hw2⟩ := weights_loop k p ns gd many pl n hm ds (ws ++ [w]) (some d) (some (.int w)) s1 (hp.drawn hd1) (by rw [hd1.len]; exact hn) (by simp; omega) (by
      intro w' h'
      rcases List.mem_append.mp h' with h' | h'
      · exact hw w' h'
      · rw [List.mem_singleton.mp h']; exact hw1)
    exact ⟨ws', s', x', y', by rw [for_nx (by rfl) h1, h2], hd1.trans hd2, by rw [hl2]; simp; omega, hw2⟩
theorem weights (k p : Nat) (ns : List Int) (gd many pl : Int) (s : Sto) (hp : HasSt p s) (hm : many = 0 ∨ (2 ≤ many ∧ many ≤ 12)) (hg : 0 < gd) (hg2 : gd ≤ 5) (hpl : 0 ≤ pl) (hpl2 : pl < gd) :
    ∃ (ws : List Int) (s' : Sto), MP.call P (k + 3) 14 [.ref p, .scr ns, .int gd, .int many, .int pl] s = .ok (.ref s.length) (s' ++ [.lst (ws.map D.int)]) ∧ Drawn p s s' ∧ ws.length = gd.toNat ∧ (∀ w ∈ ws, WB many w) ∧ ws[pl.toNat]? = some 1 := by
  rw [c0 (k + 2) 14 _ _ f14 rfl]
  obtain ⟨ws, s1, x', y', h1, hd, hl, hw⟩ := weights_loop k p ns gd many pl s.length hm (rangeD 0 gd.toNat) [] none none s hp rfl (by simp [rangeD]; omega) (fun w h => by cases h)
  have hi : evI (genv P (MP.call P (k + 2))) (.range [.var 2]) [some (.ref p), some (.scr ns), some (.int gd), some (.int many), some (.int pl), some (.ref s.length), none, none] (s ++ [.lst []]) = .ok (rangeD 0 gd.toNat, []) (s ++ [.lst []]) := evI_range1 (by simp) (by unfold smallI; simp; omega)
  have hf := ex_for (t := .name 6) (body := wBody) hi
  rw [show (s ++ [Cell.lst []]) = s ++ [.lst (([] : List Int).map D.int)] from rfl, h1] at hf
  have hwl : ws.length = gd.toNat := by rw [hl]; simp [rangeD]
  have hpn : pl.toNat < ws.length := by omega
  have hix : ixN ws.length pl = some pl.toNat := by unfold ixN; rw [if_pos hpl, if_pos (by omega)]
  have hls : s1.length = s.length := hd.len
  refine ⟨ws.set pl.toNat 1, s1, ?_, hd, by rw [List.length_set]; exact hwl, fun w h => ?_, by rw [List.getElem?_set_self hpn]⟩
  · have hset : setI (s1 ++ [.lst (ws.map D.int)]) (.ref s.length) (.int pl) (.int 1) = some (s1 ++ [.lst ((ws.set pl.toNat 1).map D.int)]) := by
      unfold setI
      have hat : (s1 ++ [Cell.lst (ws.map D.int)])[s.length]? = some (.lst (ws.map D.int)) := by rw [← hls]; simp
      simp only [hat, List.length_map, hix, Option.map_some]
      rw [← hls]
      simp [List.map_set]
    simp only [List.map_nil] at hf
    simp [runFn, f14, hf, hset]
    exact fin1_new hd.gc hls (by simp only [Cell.free]; rw [← List.map_set]; exact frees_ints _)
  · rcases List.mem_or_eq_of_mem_set h with h | h
    · exact hw w h
    · rw [h]
      unfold WB
      rcases hm with rfl | hm
      · simp
      · rw [if_neg (by omega)]; omega
end Lk57
set_option autoImplicit false
set_option linter.all false
set_option maxRecDepth 10000
set_option maxHeartbeats 2000000
/-! S57f: lists of draws, a trade. -/
namespace MP
def In0 (L : Int) (rs : List Int) : Prop := ∀ r ∈ rs, 0 ≤ r ∧ r < L
theorem draws_loop {step : D → Sto → R (Option D)} {p : Nat} {L : Int} (h : ∀ d s, HasSt p s → ∃ r s', step d s = .ok (some (.int r)) s' ∧ Drawn p s s' ∧ 0 ≤ r ∧ r < L) : ∀ (ds : List D) (s : Sto), HasSt p s →
    ∃ (rs : List Int) (s' : Sto), compLoop step [] ds s = .ok (rs.map D.int) s' ∧ Drawn p s s' ∧ rs.length = ds.length ∧ In0 L rs
  | [], s, hp => ⟨[], s, by simp [compLoop, stands], hp.rfl, rfl, fun r h => by cases h⟩
  | d :: ds, s, hp => by
    obtain ⟨r, s1, h1, d1, h2, h3⟩ := h d s hp
    obtain ⟨rs, s2, h4, d2, h5, h6⟩ := draws_loop h ds s1 (hp.drawn d1)
    refine ⟨r :: rs, s2, ?_, d1.trans d2, by simp [h5], fun x hx => ?_⟩
    · simp [compLoop, stands, h1, h4, consO]
    · rcases List.mem_cons.mp hx with rfl | hx
      · exact ⟨h2, h3⟩
      · exact h6 x hx
/-- [draw for i in range(n)] -/
theorem draws_comp {g : G} {m : Bool} {i : Nat} {elt : E} {env : Env} {s : Sto} {p : Nat} {L n : Int} {y : E} (hn : evE g y env s = .ok (.int n) s) (h0 : 0 ≤ n) (h1 : n ≤ 1000) (hp : HasSt p s)
    (h : ∀ d s, HasSt p s → ∃ r s', evE g elt (setE (setE env i none) i (some d)) s = .ok (.int r) s' ∧ Drawn p s s' ∧ 0 ≤ r ∧ r < L) :
    ∃ (rs : List Int) (s' : Sto), evE g (.comp m [i] elt (.name i) (.range [y]) []) env s = newL m (rs.map D.int) s' ∧ Drawn p s s' ∧ rs.length = n.toNat ∧ In0 L rs := by
  obtain ⟨rs, s', h2, d, h3, h4⟩ := draws_loop (step := stepF [i] (.name i) (evAnd g []) (evE g elt) env) (p := p) (L := L) (fun d s hs => by
    obtain ⟨r, s', q1, q2, q3⟩ := h d s hs
    exact ⟨r, s', by simp [stepF, q1], q2, q3⟩) (rangeD 0 n.toNat) s hp
  have hl : rs.length = n.toNat := by rw [h3]; simp [rangeD]
  exact ⟨rs, s', ev_comp (evI_range1 hn (by unfold smallI; simp; omega)) h2 (by rw [List.length_map, hl]; show _ ≤ 16777216; omega), d, hl, h4⟩
theorem dotI_cons (w b : Int) (ws bs : List Int) : dotI (w :: ws) (b :: bs) = w * b + dotI ws bs := by simp [dotI]
theorem dot_le : ∀ (ws l : List Int), (∀ w ∈ ws, -1 ≤ w ∧ w ≤ 1) → (∀ x ∈ l, 0 ≤ x) → -l.sum ≤ dotI ws l ∧ dotI ws l ≤ l.sum
  | [], l, _, hl => by
    have : 0 ≤ l.sum := by
      induction l with
      | nil => simp
      | cons x l ih => simp; have := hl x List.mem_cons_self; have := ih fun y hy => hl y (List.mem_cons_of_mem _ hy); omega
    simp [dotI]; omega
  | w :: ws, [], _, _ => by simp [dotI]
  | w :: ws, x :: l, hw, hl => by
    have ih := dot_le ws l (fun w h => hw w (List.mem_cons_of_mem _ h)) fun y hy => hl y (List.mem_cons_of_mem _ hy)
    have h1 := hw w List.mem_cons_self
    have h2 := hl x List.mem_cons_self
    rw [dotI_cons, List.sum_cons]
    have : w = -1 ∨ w = 0 ∨ w = 1 := by omega
    rcases this with rfl | rfl | rfl <;> omega
theorem sum_set0 (B : Int) (hB : 0 ≤ B) : ∀ (l : List Int) (i : Nat), i < l.length → (∀ x ∈ l, x ≤ B) → (l.set i 0).sum ≤ ((l.length : Int) - 1) * B
  | [], i, h, _ => by simp at h
  | x :: l, 0, _, h => by
    have key : ∀ l : List Int, (∀ x ∈ l, x ≤ B) → l.sum ≤ (l.length : Int) * B := by
      intro l
      induction l with
      | nil => simp
      | cons y l ih =>
        intro h
        have h1 := h y List.mem_cons_self
        have h2 := ih fun z hz => h z (List.mem_cons_of_mem _ hz)
        rw [List.sum_cons, List.length_cons]
        have : ((l.length + 1 : Nat) : Int) * B = (l.length : Int) * B + B := by push_cast; rw [Int.add_mul]; simp
        omega
    have := key l fun z hz => h z (List.mem_cons_of_mem _ hz)
    simp only [List.set_cons_zero, List.sum_cons, List.length_cons]
    have e : (((l.length + 1 : Nat) : Int) - 1) = (l.length : Int) := by omega
    rw [e]
    omega
  | x :: l, i + 1, hi, h => by
    have ih := sum_set0 B hB l i (by simpa using hi) fun z hz => h z (List.mem_cons_of_mem _ hz)
    have h1 := h x List.mem_cons_self
    simp only [List.set_cons_succ, List.sum_cons, List.length_cons]
    have : (((l.length + 1 : Nat) : Int) - 1) * B = ((l.length : Int) - 1) * B + B := by
      have e : (((l.length + 1 : Nat) : Int) - 1) = ((l.length : Int) - 1) + 1 := by omega
      rw [e, Int.add_mul]; simp
    omega
end MP
set_option autoImplicit false
set_option linter.all false
set_option maxRecDepth 10000
set_option maxHeartbeats 2000000
/-! S57g: a trade. -/
namespace MP
theorem seqA {s : Sto} {n : Nat} (hn : n = s.length) (a b : List D) : seqOf (s ++ [.lst a, .lst b]) (.ref n) = some a := by subst hn; simp [seqOf]
theorem seqB {s : Sto} {n : Nat} (hn : n = s.length) (a b : List D) : seqOf (s ++ [.lst a, .lst b]) (.ref (n + 1)) = some b := by subst hn; simp [seqOf]
theorem setA {s : Sto} {n i : Nat} {j : Int} {a b : List D} (v : D) (hn : n = s.length) (hi : ixN a.length j = some i) : setI (s ++ [.lst a, .lst b]) (.ref n) (.int j) v = some (s ++ [.lst (a.set i v), .lst b]) := by
  subst hn; simp [setI, hi]
theorem setB {s : Sto} {n i : Nat} {j : Int} {a b : List D} (v : D) (hn : n = s.length) (hi : ixN b.length j = some i) : setI (s ++ [.lst a, .lst b]) (.ref (n + 1)) (.int j) v = some (s ++ [.lst a, .lst (b.set i v)]) := by
  subst hn; simp [setI, hi]
theorem In0.set {L : Int} {l : List Int} (h : In0 L l) (i : Nat) {v : Int} (h0 : 0 ≤ v) (h1 : v < L) : In0 L (l.set i v) := fun r hr => by
  rcases List.mem_or_eq_of_mem_set hr with q | q
  · exact h r q
  · rw [q]; exact ⟨h0, h1⟩
theorem In0.sml {L : Int} {l : List Int} (h : In0 L l) (hL : L ≤ 1000) : sml l := fun b hb => by have := h b hb; omega
theorem In0.mono {L M : Int} {l : List Int} (h : In0 L l) (hL : L ≤ M) : In0 M l := fun b hb => by have := h b hb; omega
theorem exB_nx {g : G} {st : S} {r : List S} {env env' : Env} {s s' : Sto} (h : exS g st env s = .nx env' s') : exB g (st :: r) env s = exB g r env' s' := by simp [h]
theorem exB_ret {g : G} {st : S} {r : List S} {env : Env} {s s' : Sto} {v : D} (h : exS g st env s = .ret v s') : exB g (st :: r) env s = .ret v s' := by simp [h]
theorem run_ret {g : G} {f : Fn} {args : List D} {s s' : Sto} {v : D} (hl : args.length = f.np) (h : exB g f.body (args.map some ++ List.replicate (f.ns - f.np) none) s = .ret v s') : runFn g f args s = fin f.mode s v s' := by
  unfold runFn
  rw [if_pos hl, h]
theorem fin2 (s s' : Sto) (d : D) : fin 2 s d s' = .ok d s' := by simp [fin]
end MP
namespace Lk57
open MP
abbrev tElse : List S := [.seti (.var 7) (.var 4) (.lit (.int 0)), .seti (.var 8) (.var 4) (.lit (.int 0)), .asg (.name 9) (.bin .sub (.call 12 [.var 2, .var 7]) (.call 12 [.var 2, .var 8])), .asg (.name 10) (.call 10 [.var 0, .var 1, .bin .sub (.lit (.int 13)) (.bi .abs [.var 9])]), .seti (.var 7) (.var 4) (.bin .add (.bi .max2 [.lit (.int 0), .neg (.var 9)]) (.var 10)), .seti (.var 8) (.var 4) (.bin .add (.bi .max2 [.lit (.int 0), .var 9]) (.var 10))]
theorem trade (k p q : Nat) (ns ws : List Int) (many pl : Int) (s : Sto) (hp : HasSt p s) (hq : s[q]? = some (.lst (ws.map D.int))) (hqp : q ≠ p) (hm : many = 0 ∨ (2 ≤ many ∧ many ≤ 12)) (hg : 0 < ws.length) (hg2 : ws.length ≤ 5) (hpl : 0 ≤ pl) (hpl2 : pl < ws.length) (hw : ∀ w ∈ ws, WB many w) :
    ∃ (l r : List Int) (s' : Sto), MP.call P (k + 3) 15 [.ref p, .scr ns, .ref q, .int many, .int pl] s = .ok (.lst [.ref s.length, .ref (s.length + 1)]) (s' ++ [.lst (l.map D.int), .lst (r.map D.int)]) ∧ Drawn p s s' ∧ l.length = ws.length ∧ r.length = ws.length ∧ In0 13 l ∧ In0 13 r := by
  rw [c0 (k + 2) 15 _ _ f15 rfl]
  -- most
  obtain ⟨M, hM, hM0, hM1, hMs⟩ : ∃ M : Int, M = (if many = 0 ∧ 1 < ws.length then 6 / ((ws.length : Int) - 1) else 12) ∧ 0 ≤ M ∧ M ≤ 12 ∧ (many = 0 → ((ws.length : Int) - 1) * M ≤ 6) := by
    refine ⟨_, rfl, ?_⟩
    have : ws.length = 1 ∨ ws.length = 2 ∨ ws.length = 3 ∨ ws.length = 4 ∨ ws.length = 5 := by omega
    rcases this with h | h | h | h | h <;> rw [h] <;> by_cases h0 : many = 0 <;> simp [h0]
  have hlen : bfn s .len [.ref q] = some (.int ws.length) := by simp [bfn, lenD, seqOf, hq]
  have hql : q < s.length := (List.getElem?_eq_some_iff.mp hq).1
  -- the draws
  obtain ⟨l, s1, hl1, d1, hl2, hl3⟩ := draws_comp (g := genv P (MP.call P (k + 2))) (m := true) (i := 11) (elt := .call 10 [.var 0, .var 1, .bin .add (.var 6) (.lit (.int 1))]) (env := [some (.ref p), some (.scr ns), some (.ref q), some (.int many), some (.int pl), some (.int ws.length), some (.int M), none, none, none, none, none]) (s := s) (p := p) (L := M + 1) (n := ws.length) (y := .var 5) (by simp) (by omega) (by omega) hp (fun d s hs => by
    obtain ⟨r, s', h1, h2, h3, h4⟩ := draw k s p ns (M + 1) hs (by omega) (by omega)
    exact ⟨r, s', by simp [h1], h2, h3, h4⟩)
  have hn1 : s1.length = s.length := d1.len
  obtain ⟨r, t2, hr1, d2, hr2, hr3⟩ := draws_comp (g := genv P (MP.call P (k + 2))) (m := true) (i := 11) (elt := .call 10 [.var 0, .var 1, .bin .add (.var 6) (.lit (.int 1))]) (env := [some (.ref p), some (.scr ns), some (.ref q), some (.int many), some (.int pl), some (.int ws.length), some (.int M), some (.ref s.length), none, none, none, none]) (s := s1 ++ [.lst (l.map D.int)]) (p := p) (L := M + 1) (n := ws.length) (y := .var 5) (by simp) (by omega) (by omega) (hp.drawn d1).app (fun d s hs => by
    obtain ⟨r, s', h1, h2, h3, h4⟩ := draw k s p ns (M + 1) hs (by omega) (by omega)
    exact ⟨r, s', by simp [h1], h2, h3, h4⟩)
  obtain ⟨s2, rfl, d3⟩ := d2.unapp (hp.drawn d1).lt
  have hn2 : s.length = s2.length := by rw [d3.len, hn1]
  have d12 := d1.trans d3
  rw [newL_t, hn1] at hl1
  rw [newL_t] at hr1
  have ee : s2 ++ [Cell.lst (l.map D.int)] ++ [Cell.lst (r.map D.int)] = s2 ++ [.lst (l.map D.int), .lst (r.map D.int)] := by simp
  rw [ee, show (s2 ++ [Cell.lst (l.map D.int)]).length = s.length + 1 by simp [hn2]] at hr1
  have ll : l.length = ws.length := by rw [hl2]; simp
  have lr : r.length = ws.length := by rw [hr2]; simp
  have hix : ∀ {xs : List Int}, xs.length = ws.length → ixN (xs.map D.int).length pl = some pl.toNat := fun {xs} h => by
    rw [List.length_map, h]
    unfold ixN; rw [if_pos hpl, if_pos (by omega)]
  have sq : ∀ {t : Sto} {cs : List Cell}, Drawn p s t → seqOf (t ++ cs) (.ref q) = some (ws.map D.int) := fun {t cs} d => by
    have : t[q]? = some (.lst (ws.map D.int)) := by rw [d.other hqp]; exact hq
    simp only [seqOf]
    rw [List.getElem?_append_left (by rw [d.len]; exact hql), this]
  have hl13 := hl3.mono (show M + 1 ≤ 13 by omega)
  have hr13 := hr3.mono (show M + 1 ≤ 13 by omega)
  have setm : ∀ (xs : List Int) (i : Nat) (v : Int), (xs.map D.int).set i (.int v) = (xs.set i v).map D.int := fun xs i v => by rw [List.map_set]
  have hcond : (many = 0 ∧ 1 < ws.length) ∨ ¬ (many = 0 ∧ 1 < ws.length) := by omega
  by_cases h0 : many = 0
  · subst h0
    have sA := setA (s := s2) (a := l.map D.int) (b := r.map D.int) (.int 0) hn2 (hix ll)
    rw [setm] at sA
    have sB := setB (s := s2) (a := (l.set pl.toNat 0).map D.int) (b := r.map D.int) (.int 0) hn2 (hix lr)
    rw [setm] at sB
    have l0 : In0 13 (l.set pl.toNat 0) := hl13.set _ (by decide) (by decide)
    have r0 : In0 13 (r.set pl.toNat 0) := hr13.set _ (by decide) (by decide)
    have tl := total (k + 1) (.ref q) (.ref s.length) (s2 ++ [.lst ((l.set pl.toNat 0).map D.int), .lst ((r.set pl.toNat 0).map D.int)]) ws (l.set pl.toNat 0) (sq d12) (seqA hn2 _ _) (l0.sml (by decide))
    have tr := total (k + 1) (.ref q) (.ref (s.length + 1)) (s2 ++ [.lst ((l.set pl.toNat 0).map D.int), .lst ((r.set pl.toNat 0).map D.int)]) ws (r.set pl.toNat 0) (sq d12) (seqB hn2 _ _) (r0.sml (by decide))
    obtain ⟨la, hla⟩ : ∃ la, la = dotI ws (l.set pl.toNat 0) - dotI ws (r.set pl.toNat 0) := ⟨_, rfl⟩
    have hw1 : ∀ w ∈ ws, -1 ≤ w ∧ w ≤ 1 := fun w h => by have := hw w h; unfold WB at this; simpa using this
    have bl := dot_le ws (l.set pl.toNat 0) hw1 fun x h => (l0 x h).1
    have br := dot_le ws (r.set pl.toNat 0) hw1 fun x h => (r0 x h).1
    have sl := sum_set0 M hM0 l pl.toNat (by omega) fun x h => by have := hl3 x h; omega
    have sr := sum_set0 M hM0 r pl.toNat (by omega) fun x h => by have := hr3 x h; omega
    rw [ll] at sl
    rw [lr] at sr
    have h6 := hMs rfl
    have hlk : -12 ≤ la ∧ la ≤ 12 := by omega
    obtain ⟨mo, t3, hmo, d4, hmo0, hmo1⟩ := draw k (s2 ++ [.lst ((l.set pl.toNat 0).map D.int), .lst ((r.set pl.toNat 0).map D.int)]) p ns (13 - (if la < 0 then -la else la)) (hp.drawn d12).app (by split <;> omega) (by split <;> omega)
    obtain ⟨s3, rfl, d5⟩ := d4.unapp (hp.drawn d12).lt
    have hn3 : s.length = s3.length := by rw [d5.len, hn2]
    have d13 := d12.trans d5
    have sA2 := setA (s := s3) (a := (l.set pl.toNat 0).map D.int) (b := (r.set pl.toNat 0).map D.int) (.int ((if -la > 0 then -la else 0) + mo)) hn3 (hix (by rw [List.length_set]; exact ll))
    rw [setm] at sA2
    have sB2 := setB (s := s3) (a := ((l.set pl.toNat 0).set pl.toNat ((if -la > 0 then -la else 0) + mo)).map D.int) (b := (r.set pl.toNat 0).map D.int) (.int ((if la > 0 then la else 0) + mo)) hn3 (hix (by rw [List.length_set]; exact lr))
    rw [setm] at sB2
    refine ⟨(l.set pl.toNat 0).set pl.toNat ((if -la > 0 then -la else 0) + mo), (r.set pl.toNat 0).set pl.toNat ((if la > 0 then la else 0) + mo), s3, ?_, d13, by simp [ll], by simp [lr], l0.set _ (by split <;> omega) (by split at hmo1 <;> split <;> omega), r0.set _ (by split <;> omega) (by split at hmo1 <;> split <;> omega)⟩
    have hE : exB (genv P (MP.call P (k + 2))) tElse [some (.ref p), some (.scr ns), some (.ref q), some (.int 0), some (.int pl), some (.int ws.length), some (.int M), some (.ref s.length), some (.ref (s.length + 1)), none, none, none] (s2 ++ [.lst (l.map D.int), .lst (r.map D.int)])
        = .nx [some (.ref p), some (.scr ns), some (.ref q), some (.int 0), some (.int pl), some (.int ws.length), some (.int M), some (.ref s.length), some (.ref (s.length + 1)), some (.int la), some (.int mo), none] (s3 ++ [.lst (((l.set pl.toNat 0).set pl.toNat ((if -la > 0 then -la else 0) + mo)).map D.int), .lst (((r.set pl.toNat 0).set pl.toNat ((if la > 0 then la else 0) + mo)).map D.int)]) := by
      refine (exB_nx (env' := [some (.ref p), some (.scr ns), some (.ref q), some (.int 0), some (.int pl), some (.int ws.length), some (.int M), some (.ref s.length), some (.ref (s.length + 1)), none, none, none]) (s' := s2 ++ [.lst ((l.set pl.toNat 0).map D.int), .lst (r.map D.int)]) (by simp only [ex_seti, ev_lit, ev_var, getE_z, getE_s, R.opt_some, R.sr_ok, sA, opt2_some])).trans ?_
      refine (exB_nx (env' := [some (.ref p), some (.scr ns), some (.ref q), some (.int 0), some (.int pl), some (.int ws.length), some (.int M), some (.ref s.length), some (.ref (s.length + 1)), none, none, none]) (s' := s2 ++ [.lst ((l.set pl.toNat 0).map D.int), .lst ((r.set pl.toNat 0).map D.int)]) (by simp only [ex_seti, ev_lit, ev_var, getE_z, getE_s, R.opt_some, R.sr_ok, sB, opt2_some])).trans ?_
      refine (exB_nx (env' := [some (.ref p), some (.scr ns), some (.ref q), some (.int 0), some (.int pl), some (.int ws.length), some (.int M), some (.ref s.length), some (.ref (s.length + 1)), some (.int la), none, none]) (s' := s2 ++ [.lst ((l.set pl.toNat 0).map D.int), .lst ((r.set pl.toNat 0).map D.int)]) (by simp only [ex_asg, ev_bin, ev_call, g_call, fill_P, evs_cons, evs_nil, ev_var, getE_z, getE_s, R.opt_some, R.bind_ok, tl, tr, bin_sub_int, R.sr_ok, asg_name, setE_z, setE_s, opt2_some, hla])).trans ?_
      refine (exB_nx (env' := [some (.ref p), some (.scr ns), some (.ref q), some (.int 0), some (.int pl), some (.int ws.length), some (.int M), some (.ref s.length), some (.ref (s.length + 1)), some (.int la), some (.int mo), none]) (s' := s3 ++ [.lst ((l.set pl.toNat 0).map D.int), .lst ((r.set pl.toNat 0).map D.int)]) (by simp only [ex_asg, ev_bin, ev_call, g_call, fill_P, evs_cons, evs_nil, ev_var, ev_lit, ev_bi, bfn_abs, getE_z, getE_s, R.opt_some, R.bind_ok, bin_sub_int, hmo, R.sr_ok, asg_name, setE_z, setE_s, opt2_some])).trans ?_
      refine (exB_nx (env' := [some (.ref p), some (.scr ns), some (.ref q), some (.int 0), some (.int pl), some (.int ws.length), some (.int M), some (.ref s.length), some (.ref (s.length + 1)), some (.int la), some (.int mo), none]) (s' := s3 ++ [.lst (((l.set pl.toNat 0).set pl.toNat ((if -la > 0 then -la else 0) + mo)).map D.int), .lst ((r.set pl.toNat 0).map D.int)]) (by simp only [ex_seti, ev_bin, ev_bi, ev_neg', evs_cons, evs_nil, ev_lit, ev_var, getE_z, getE_s, R.opt_some, R.bind_ok, bfn_max2, bin_add_int, R.sr_ok, sA2, opt2_some])).trans ?_
      refine (exB_nx (env' := [some (.ref p), some (.scr ns), some (.ref q), some (.int 0), some (.int pl), some (.int ws.length), some (.int M), some (.ref s.length), some (.ref (s.length + 1)), some (.int la), some (.int mo), none]) (s' := s3 ++ [.lst (((l.set pl.toNat 0).set pl.toNat ((if -la > 0 then -la else 0) + mo)).map D.int), .lst (((r.set pl.toNat 0).set pl.toNat ((if la > 0 then la else 0) + mo)).map D.int)]) (by simp only [ex_seti, ev_bin, ev_bi, evs_cons, evs_nil, ev_lit, ev_var, getE_z, getE_s, R.opt_some, R.bind_ok, bfn_max2, bin_add_int, R.sr_ok, sB2, opt2_some])).trans ?_
      rw [ex_nil]
    have hb : exB (genv P (MP.call P (k + 2))) f15.body [some (.ref p), some (.scr ns), some (.ref q), some (.int 0), some (.int pl), none, none, none, none, none, none, none] s = .ret (.lst [.ref s.length, .ref (s.length + 1)]) (s3 ++ [.lst (((l.set pl.toNat 0).set pl.toNat ((if -la > 0 then -la else 0) + mo)).map D.int), .lst (((r.set pl.toNat 0).set pl.toNat ((if la > 0 then la else 0) + mo)).map D.int)]) := by
      refine (exB_nx (env' := [some (.ref p), some (.scr ns), some (.ref q), some (.int 0), some (.int pl), some (.int ws.length), none, none, none, none, none, none]) (s' := s) (by simp [hlen])).trans ?_
      refine (exB_nx (env' := [some (.ref p), some (.scr ns), some (.ref q), some (.int 0), some (.int pl), some (.int ws.length), some (.int 12), none, none, none, none, none]) (s' := s) (by simp)).trans ?_
      refine (exB_nx (env' := [some (.ref p), some (.scr ns), some (.ref q), some (.int 0), some (.int pl), some (.int ws.length), some (.int M), none, none, none, none, none]) (s' := s) ?_).trans ?_
      · by_cases h1 : 1 < ws.length
        · have hM' : M = 6 / ((ws.length : Int) - 1) := by rw [hM, if_pos ⟨rfl, h1⟩]
          have g1 : (1 : Int) < ws.length := by omega
          simp [h1, g1, bin_fdiv_int _ _ _ (show (0 : Int) < ws.length - 1 by omega) (show ((ws.length : Int) - 1) < 1073741824 by omega), hM']
        · have hM' : M = 12 := by rw [hM, if_neg (by omega)]
          have g1 : ¬ (1 : Int) < ws.length := by omega
          simp [g1, hM']
      refine (exB_nx (env' := [some (.ref p), some (.scr ns), some (.ref q), some (.int 0), some (.int pl), some (.int ws.length), some (.int M), some (.ref s.length), none, none, none, none]) (s' := s1 ++ [.lst (l.map D.int)]) (by rw [ex_asg, hl1]; simp)).trans ?_
      refine (exB_nx (env' := [some (.ref p), some (.scr ns), some (.ref q), some (.int 0), some (.int pl), some (.int ws.length), some (.int M), some (.ref s.length), some (.ref (s.length + 1)), none, none, none]) (s' := s2 ++ [.lst (l.map D.int), .lst (r.map D.int)]) (by rw [ex_asg, hr1]; simp)).trans ?_
      refine (exB_nx (env' := [some (.ref p), some (.scr ns), some (.ref q), some (.int 0), some (.int pl), some (.int ws.length), some (.int M), some (.ref s.length), some (.ref (s.length + 1)), some (.int la), some (.int mo), none]) (s' := s3 ++ [.lst (((l.set pl.toNat 0).set pl.toNat ((if -la > 0 then -la else 0) + mo)).map D.int), .lst (((r.set pl.toNat 0).set pl.toNat ((if la > 0 then la else 0) + mo)).map D.int)]) ?_).trans ?_
      · simp only [ex_ife, ev_cmp, ev_var, ev_lit, getE_z, getE_s, R.opt_some, R.bind_ok, cmp_gt_int, Option.map_some, R.sr_ok, truthy_bl, opt2_some, Int.lt_irrefl, decide_false, Bool.false_eq_true, if_false]
        exact hE
      · exact exB_ret (by simp)
    exact (run_ret (f := f15) rfl hb).trans (fin2 _ _ _)
  · have hmp : 0 < many := by omega
    have hMe : M = 12 := by rw [hM, if_neg (by omega)]
    subst hMe
    have sB := setB (s := s2) (a := l.map D.int) (b := r.map D.int) (.int 0) hn2 (hix lr)
    rw [setm] at sB
    have tl := total (k + 1) (.ref q) (.ref s.length) (s2 ++ [.lst (l.map D.int), .lst ((r.set pl.toNat 0).map D.int)]) ws l (sq d12) (seqA hn2 _ _) (hl13.sml (by decide))
    have tr := total (k + 1) (.ref q) (.ref (s.length + 1)) (s2 ++ [.lst (l.map D.int), .lst ((r.set pl.toNat 0).map D.int)]) ws (r.set pl.toNat 0) (sq d12) (seqB hn2 _ _) ((hr13.set _ (by decide) (by decide)).sml (by decide))
    have sB2 := setB (s := s2) (a := l.map D.int) (b := (r.set pl.toNat 0).map D.int) (.int ((dotI ws l - dotI ws (r.set pl.toNat 0)) % many)) hn2 (hix (by rw [List.length_set]; exact lr))
    rw [setm] at sB2
    refine ⟨l, (r.set pl.toNat 0).set pl.toNat ((dotI ws l - dotI ws (r.set pl.toNat 0)) % many), s2, ?_, d12, ll, by simp [lr], hl13, (hr13.set _ (by decide) (by decide)).set _ (Int.emod_nonneg _ h0) (by have := Int.emod_lt_of_pos (dotI ws l - dotI ws (r.set pl.toNat 0)) hmp; omega)⟩
    have hb : exB (genv P (MP.call P (k + 2))) f15.body [some (.ref p), some (.scr ns), some (.ref q), some (.int many), some (.int pl), none, none, none, none, none, none, none] s = .ret (.lst [.ref s.length, .ref (s.length + 1)]) (s2 ++ [.lst (l.map D.int), .lst (((r.set pl.toNat 0).set pl.toNat ((dotI ws l - dotI ws (r.set pl.toNat 0)) % many)).map D.int)]) := by
      refine (exB_nx (env' := [some (.ref p), some (.scr ns), some (.ref q), some (.int many), some (.int pl), some (.int ws.length), none, none, none, none, none, none]) (s' := s) (by simp [hlen])).trans ?_
      refine (exB_nx (env' := [some (.ref p), some (.scr ns), some (.ref q), some (.int many), some (.int pl), some (.int ws.length), some (.int 12), none, none, none, none, none]) (s' := s) (by simp)).trans ?_
      refine (exB_nx (env' := [some (.ref p), some (.scr ns), some (.ref q), some (.int many), some (.int pl), some (.int ws.length), some (.int 12), none, none, none, none, none]) (s' := s) (by simp [h0])).trans ?_
      refine (exB_nx (env' := [some (.ref p), some (.scr ns), some (.ref q), some (.int many), some (.int pl), some (.int ws.length), some (.int 12), some (.ref s.length), none, none, none, none]) (s' := s1 ++ [.lst (l.map D.int)]) (by rw [ex_asg, hl1]; simp)).trans ?_
      refine (exB_nx (env' := [some (.ref p), some (.scr ns), some (.ref q), some (.int many), some (.int pl), some (.int ws.length), some (.int 12), some (.ref s.length), some (.ref (s.length + 1)), none, none, none]) (s' := s2 ++ [.lst (l.map D.int), .lst (r.map D.int)]) (by rw [ex_asg, hr1]; simp)).trans ?_
      refine (exB_nx (env' := [some (.ref p), some (.scr ns), some (.ref q), some (.int many), some (.int pl), some (.int ws.length), some (.int 12), some (.ref s.length), some (.ref (s.length + 1)), none, none, none]) (s' := s2 ++ [.lst (l.map D.int), .lst (((r.set pl.toNat 0).set pl.toNat ((dotI ws l - dotI ws (r.set pl.toNat 0)) % many)).map D.int)]) ?_).trans ?_
      · simp only [ex_ife, ev_cmp, ev_var, ev_lit, getE_z, getE_s, R.opt_some, R.bind_ok, cmp_gt_int, Option.map_some, R.sr_ok, truthy_bl, opt2_some, hmp, decide_true, if_true, ex_cons, ex_nil, ex_seti, sB, SR.seq_nx, ev_bin, ev_bi, evs_cons, evs_nil, ev_call, g_call, fill_P, tl, tr, bin_sub_int, bfn_int, bin_mod_int _ _ _ hmp, sB2]
      · exact exB_ret (by simp)
    exact (run_ret (f := f15) rfl hb).trans (fin2 _ _ _)
end Lk57
set_option autoImplicit false
set_option linter.all false
set_option maxRecDepth 10000
set_option maxHeartbeats 2000000
/-! S57h: bags, trades, differences. -/
namespace MP
def bagD (b : List Int) : D := .tup (b.map D.int)
def trD (tr : List (List Int × List Int)) : D := .tup (tr.map fun p => .tup [bagD p.1, bagD p.2])
def mkD (gd : Int) (tr : List (List Int × List Int)) : D := .rcd 3 [.int gd, trD tr]
def sub2 : D → D
  | .tup [.int a, .int b] => .int (b - a)
  | _ => .non
def zipT (xs ys : List D) : List D := (xs.zip ys).map fun p => D.tup [p.1, p.2]
def diffD : D → D
  | .tup [.tup xs, .tup ys] => .lst ((zipT xs ys).map sub2)
  | _ => .non
theorem zipT_ints (a b : List Int) : (zipT (a.map D.int) (b.map D.int)).map sub2 = (subI a b).map D.int := by
  unfold zipT subI
  rw [List.zip_map, List.map_map, List.map_map, List.map_map]
  rfl
theorem seq_bag (s : Sto) (b : List Int) : seqOf s (bagD b) = some (b.map D.int) := rfl
end MP
namespace Lk57
open MP
theorem differences (k : Nat) (gd : Int) (tr : List (List Int × List Int)) (s : Sto) (hl : tr.length ≤ 1000) (hb : ∀ p ∈ tr, p.1.length ≤ 1000) : MP.call P (k + 1) 5 [mkD gd tr] s = .ok (.lst (tr.map fun p => .lst ((subI p.1 p.2).map D.int))) s := by
  rw [c0 k 5 _ _ f5 rfl]
  have hfld : evE (genv P (MP.call P k)) (.fld (.var 0) 2) [some (mkD gd tr), none, none, none, none] s = .ok (trD tr) s := by
    simp only [ev_fld, ev_var, getE_z, R.opt_some, R.bind_ok]
    rfl
  have hc := ev_comp_map (g := genv P (MP.call P k)) (own := [1, 2]) (elt := .comp false [3, 4] (.bin .sub (.var 4) (.var 3)) (.tup [.name 3, .name 4]) (.zip [.var 1, .var 2]) []) (t := .tup [.name 1, .name 2]) (it := .seq (.fld (.var 0) 2)) (env := [some (mkD gd tr), none, none, none, none]) (s := s) (m := false)
    diffD (evI_seq hfld (xs := tr.map fun p => .tup [bagD p.1, bagD p.2]) rfl) (by rfl) (by rw [List.length_map]; show _ ≤ 16777216; omega) (fun d hd => by
      obtain ⟨⟨a, b⟩, hp, rfl⟩ := List.mem_map.mp hd
      have ha := hb _ hp
      refine ⟨[some (mkD gd tr), some (bagD a), some (bagD b), none, none], by simp, ?_⟩
      have hi := ev_comp_map (g := genv P (MP.call P k)) (own := [3, 4]) (elt := .bin .sub (.var 4) (.var 3)) (t := .tup [.name 3, .name 4]) (it := .zip [.var 1, .var 2]) (env := [some (mkD gd tr), some (bagD a), some (bagD b), none, none]) (s := s) (m := false)
        sub2 (evI_zip2 (d1 := bagD a) (d2 := bagD b) (s1 := s) (s2 := s) (by simp) (by simp) (seq_bag s a) (seq_bag s b)) (by rfl) (by
          rw [List.length_map, List.length_zip, List.length_map]
          show _ ≤ 16777216
          simp only at ha
          omega) (fun d hd => by
          obtain ⟨⟨a', b'⟩, hp, rfl⟩ := List.mem_map.mp hd
          obtain ⟨p1, p2⟩ := List.of_mem_zip hp
          obtain ⟨x, _, rfl⟩ := List.mem_map.mp p1
          obtain ⟨y, _, rfl⟩ := List.mem_map.mp p2
          exact ⟨[some (mkD gd tr), some (bagD a), some (bagD b), some (.int x), some (.int y)], by simp, by simp [sub2]⟩)
      rw [hi, newL_f]
      rfl)
  have e : (tr.map fun p => D.tup [bagD p.1, bagD p.2]).map diffD = tr.map fun p => .lst ((subI p.1 p.2).map D.int) := by
    rw [List.map_map]
    apply List.map_congr_left
    intro p _
    show D.lst ((zipT (p.1.map D.int) (p.2.map D.int)).map sub2) = _
    rw [zipT_ints]
  rw [e, newL_f] at hc
  have hbb : exB (genv P (MP.call P k)) f5.body [some (mkD gd tr), none, none, none, none] s = .ret (.lst (tr.map fun p => .lst ((subI p.1 p.2).map D.int))) s := exB_ret (by rw [ex_ret, hc]; rfl)
  refine (run_ret (f := f5) rfl hbb).trans (fin_same (.inl rfl) ?_)
  simp only [D.free]
  clear hc e hfld hbb hl
  induction tr with
  | nil => rfl
  | cons p tr ih =>
    simp only [List.map_cons, D.frees, D.free, frees_ints, Bool.true_and]
    exact ih fun q hq => (by assumption : ∀ q ∈ p :: tr, q.1.length ≤ 1000) q (List.mem_cons_of_mem _ hq)
end Lk57
set_option autoImplicit false
set_option linter.all false
set_option maxRecDepth 10000
set_option maxHeartbeats 2000000
/-! S57i: rounds judged: the program's loop and the law's. -/
namespace MP
theorem mult_neg (n m : Int) : Lk57.mult (-n) m = Lk57.mult n m := by
  unfold Lk57.mult
  split
  · simp
  · rename_i h
    by_cases h2 : n % m = 0
    · have : (-n) % m = 0 := by
        have := Int.dvd_of_emod_eq_zero h2
        exact Int.emod_eq_zero_of_dvd (Int.dvd_neg.mpr this)
      simp [h2, this]
    · have : ¬ (-n) % m = 0 := fun q => h2 (Int.emod_eq_zero_of_dvd (Int.dvd_neg.mp (Int.dvd_of_emod_eq_zero q)))
      simp [h2, this]
theorem dot_sub : ∀ (ws a b : List Int), a.length = ws.length → b.length = ws.length → dotI ws (subI a b) = dotI ws b - dotI ws a
  | [], _, _, _, _ => by simp [dotI]
  | w :: ws, [], _, h, _ => by simp at h
  | w :: ws, _ :: _, [], _, h => by simp at h
  | w :: ws, x :: a, y :: b, h1, h2 => by
    have ih := dot_sub ws a b (by simpa using h1) (by simpa using h2)
    have e : subI (x :: a) (y :: b) = (y - x) :: subI a b := by simp [subI]
    rw [e, dotI_cons, dotI_cons, dotI_cons, ih, Int.mul_sub]
    omega
end MP
namespace Lk57
open MP
abbrev rBody : List S := [.ife (.not (.call 6 [.call 4 [.var 4, .var 6], .var 5])) [.ret (.lit (.bl false))] []]
/-- the program's loop over the differences -/
theorem round_loop (k : Nat) (M o1 o2 th : D) (ws : List Int) (many : Int) (s : Sto) (hm : 0 ≤ many) (hw : ws.length ≤ 1000) (x7 : Option D) : ∀ (rows : List (List Int)) (x6 : Option D), (∀ r ∈ rows, sml r) →
    (∃ y6, (rows.all fun r => mult (dotI ws r) many) = true ∧ forLoop (bodyF (genv P (MP.call P (k + 1))) (.name 6) rBody) [] (rows.map fun r => D.lst (r.map D.int)) [some M, some o1, some o2, some th, some (bagD ws), some (.int many), x6, x7] s = .nx [some M, some o1, some o2, some th, some (bagD ws), some (.int many), y6, x7] s) ∨
    ((rows.all fun r => mult (dotI ws r) many) = false ∧ forLoop (bodyF (genv P (MP.call P (k + 1))) (.name 6) rBody) [] (rows.map fun r => D.lst (r.map D.int)) [some M, some o1, some o2, some th, some (bagD ws), some (.int many), x6, x7] s = .ret (.bl false) s)
  | [], x6, _ => .inl ⟨x6, rfl, for_nil (by rfl)⟩
  | r :: rows, x6, h => by
    have hd := dot k (bagD ws) (.lst (r.map D.int)) s ws r rfl rfl (h r List.mem_cons_self) hw
    have hmu := is_multiple k (dotI ws r) many s hm
    cases hv : mult (dotI ws r) many with
    | true =>
      rw [hv] at hmu
      have step : bodyF (genv P (MP.call P (k + 1))) (.name 6) rBody (.lst (r.map D.int)) [some M, some o1, some o2, some th, some (bagD ws), some (.int many), x6, x7] s = .nx [some M, some o1, some o2, some th, some (bagD ws), some (.int many), some (.lst (r.map D.int)), x7] s := by
        simp [bodyF, hd, hmu]
      rcases round_loop k M o1 o2 th ws many s hm hw x7 rows (some (.lst (r.map D.int))) (fun q hq => h q (List.mem_cons_of_mem _ hq)) with ⟨y6, h1, h2⟩ | ⟨h1, h2⟩
      · exact .inl ⟨y6, by simp [hv, h1], by rw [List.map_cons, for_nx (by rfl) step, h2]⟩
      · exact .inr ⟨by simp [hv, h1], by rw [List.map_cons, for_nx (by rfl) step, h2]⟩
    | false =>
      rw [hv] at hmu
      have step : bodyF (genv P (MP.call P (k + 1))) (.name 6) rBody (.lst (r.map D.int)) [some M, some o1, some o2, some th, some (bagD ws), some (.int many), x6, x7] s = .ret (.bl false) s := by
        simp [bodyF, hd, hmu]
      exact .inr ⟨by simp [hv], by rw [List.map_cons, for_ret (by rfl) step]⟩
abbrev dBody : List S := [.ife (.not (.call 13 [.bin .sub (.call 12 [.var 4, .var 8]) (.call 12 [.var 4, .var 7]), .var 5])) [.ret (.lit (.bl false))] []]
/-- the law's loop over the trades -/
theorem due_loop (k : Nat) (th tD o1 o2 : D) (ws : List Int) (many : Int) (s : Sto) (hm : 0 ≤ many) (x6 : Option D) : ∀ (tr : List (List Int × List Int)) (x7 x8 : Option D), (∀ p ∈ tr, sml p.1 ∧ sml p.2) →
    (∃ y7 y8, (tr.all fun p => mult (dotI ws p.2 - dotI ws p.1) many) = true ∧ forLoop (bodyF (genv P (MP.call P (k + 1))) (.tup [.name 7, .name 8]) dBody) [] (tr.map fun p => D.tup [bagD p.1, bagD p.2]) [some th, some tD, some o1, some o2, some (bagD ws), some (.int many), x6, x7, x8] s = .nx [some th, some tD, some o1, some o2, some (bagD ws), some (.int many), x6, y7, y8] s) ∨
    ((tr.all fun p => mult (dotI ws p.2 - dotI ws p.1) many) = false ∧ forLoop (bodyF (genv P (MP.call P (k + 1))) (.tup [.name 7, .name 8]) dBody) [] (tr.map fun p => D.tup [bagD p.1, bagD p.2]) [some th, some tD, some o1, some o2, some (bagD ws), some (.int many), x6, x7, x8] s = .ret (.bl false) s)
  | [], x7, x8, _ => .inl ⟨x7, x8, rfl, for_nil (by rfl)⟩
  | p :: tr, x7, x8, h => by
    obtain ⟨h1, h2⟩ := h p List.mem_cons_self
    have t1 := total k (bagD ws) (bagD p.1) s ws p.1 rfl rfl h1
    have t2 := total k (bagD ws) (bagD p.2) s ws p.2 rfl rfl h2
    have hmu := law_multiple k (dotI ws p.2 - dotI ws p.1) many s hm
    cases hv : mult (dotI ws p.2 - dotI ws p.1) many with
    | true =>
      rw [hv] at hmu
      have step : bodyF (genv P (MP.call P (k + 1))) (.tup [.name 7, .name 8]) dBody (.tup [bagD p.1, bagD p.2]) [some th, some tD, some o1, some o2, some (bagD ws), some (.int many), x6, x7, x8] s = .nx [some th, some tD, some o1, some o2, some (bagD ws), some (.int many), x6, some (bagD p.1), some (bagD p.2)] s := by
        simp [bodyF, t1, t2, hmu]
      rcases due_loop k th tD o1 o2 ws many s hm x6 tr (some (bagD p.1)) (some (bagD p.2)) (fun q hq => h q (List.mem_cons_of_mem _ hq)) with ⟨y7, y8, q1, q2⟩ | ⟨q1, q2⟩
      · exact .inl ⟨y7, y8, by simp [hv, q1], by rw [List.map_cons, for_nx (by rfl) step, q2]⟩
      · exact .inr ⟨by simp [hv, q1], by rw [List.map_cons, for_nx (by rfl) step, q2]⟩
    | false =>
      rw [hv] at hmu
      have step : bodyF (genv P (MP.call P (k + 1))) (.tup [.name 7, .name 8]) dBody (.tup [bagD p.1, bagD p.2]) [some th, some tD, some o1, some o2, some (bagD ws), some (.int many), x6, x7, x8] s = .ret (.bl false) s := by
        simp [bodyF, t1, t2, hmu]
      exact .inr ⟨by simp [hv], by rw [List.map_cons, for_ret (by rfl) step]⟩
end Lk57
set_option autoImplicit false
set_option linter.all false
set_option maxRecDepth 10000
set_option maxHeartbeats 2000000
/-! S57j: is_round. -/
namespace MP
def isInts : List D → Option (List Int)
  | [] => some []
  | .int i :: r => (isInts r).map (i :: ·)
  | _ :: _ => none
theorem isInts_all : ∀ xs : List D, (isInts xs = none ∧ xs.all isIntD = false) ∨ ∃ ws, isInts xs = some ws ∧ xs = ws.map D.int ∧ xs.all isIntD = true
  | [] => .inr ⟨[], rfl, rfl, rfl⟩
  | d :: r => by
    cases d with
    | int i =>
      rcases isInts_all r with ⟨h1, h2⟩ | ⟨ws, h1, h2, h3⟩
      · exact .inl ⟨by simp [isInts, h1], by simp [isIntD, h2]⟩
      · exact .inr ⟨i :: ws, by simp [isInts, h1], by simp [h2], by simp [isIntD, h3]⟩
    | _ => exact .inl ⟨rfl, rfl⟩
/-- what is a round, told of any thing -/
def rnd (gd : Int) (rows : Int → List Int → Bool) (last : Int → List Int → Bool) : D → Bool
  | .tup [.tup xs, .int many] => decide ((xs.length : Int) = gd) && (match isInts xs with
    | some ws => (decide (0 ≤ many) && decide (many ≠ 1)) && (rows many ws && last many ws)
    | none => false)
  | _ => false
/-- a thing that may be judged -/
def ThOk (s : Sto) (d : D) : Prop := Ty1 s d ∧ ∀ xs, d = .tup xs → ∀ x ∈ xs, Ty1 s x ∧ ∀ ys, x = .tup ys → ys.length ≤ 1000 ∧ ∀ y ∈ ys, Ty1 s y
theorem len_tup (s : Sto) (xs : List D) : bfn s .len [.tup xs] = some (.int xs.length) := rfl
end MP
namespace Lk57
open MP
theorem is_round (k : Nat) (gd : Int) (tr : List (List Int × List Int)) (one other : List Int) (d : D) (s : Sto) (hd : ThOk s d) (hl : tr.length ≤ 1000) (hb : ∀ p ∈ tr, p.1.length ≤ 1000) (hsm : ∀ p ∈ tr, sml (subI p.1 p.2)) (h1 : sml one) (h2 : sml other) :
    MP.call P (k + 3) 7 [mkD gd tr, bagD one, bagD other, d] s = .ok (.bl (rnd gd (fun many ws => tr.all fun p => mult (dotI ws (subI p.1 p.2)) many) (fun many ws => !mult (dotI ws one - dotI ws other) many) d)) s := by
  rw [c0 (k + 2) 7 _ _ f7 rfl]
  have fin : ∀ b, exB (genv P (MP.call P (k + 2))) f7.body [some (mkD gd tr), some (bagD one), some (bagD other), some d, none, none, none, none] s = .ret (.bl b) s → rnd gd (fun many ws => tr.all fun p => mult (dotI ws (subI p.1 p.2)) many) (fun many ws => !mult (dotI ws one - dotI ws other) many) d = b → runFn (genv P (MP.call P (k + 2))) f7 [mkD gd tr, bagD one, bagD other, d] s = .ok (.bl (rnd gd (fun many ws => tr.all fun p => mult (dotI ws (subI p.1 p.2)) many) (fun many ws => !mult (dotI ws one - dotI ws other) many) d)) s := fun b h e => by
    rw [e]
    exact (run_ret (f := f7) rfl h).trans (fin0_bl s b)
  have hty := ty_tup (g := genv P (MP.call P (k + 2))) hd.1
  by_cases hA : isTupD d = true
  case neg =>
    have hA : isTupD d = false := by simpa using hA
    rw [hA] at hty
    refine fin false (exB_ret (by simp [hty])) ?_
    cases d <;> first | rfl | cases hA
  cases d with
  | tup xs =>
    have hty : tyIs (genv P (MP.call P (k + 2))) s (.tup xs) .tuple = some true := hty
    by_cases hB : xs.length = 2
    case neg =>
      have hB' : ¬ ((xs.length : Int) = 2) := by omega
      refine fin false (exB_ret (by simp [hty, len_tup, hB'])) ?_
      unfold rnd
      split
      · rename_i e
        cases e
        exact absurd rfl hB
      · rfl
    obtain ⟨w, m, rfl⟩ := len2 hB
    have hw := hd.2 _ rfl w (by simp)
    have hm := hd.2 _ rfl m (by simp)
    have b1 : exS (genv P (MP.call P (k + 2))) (.ife (.or [.not (.isi (.var 3) [.tuple]), .cmp .ne (.bi .len [.var 3]) (.lit (.int 2))]) [.ret (.lit (.bl false))] []) [some (mkD gd tr), some (bagD one), some (bagD other), some (.tup [w, m]), none, none, none, none] s = .nx [some (mkD gd tr), some (bagD one), some (bagD other), some (.tup [w, m]), none, none, none, none] s := by simp [hty, len_tup]
    have b2 : exS (genv P (MP.call P (k + 2))) (.asg (.tup [.name 4, .name 5]) (.var 3)) [some (mkD gd tr), some (bagD one), some (bagD other), some (.tup [w, m]), none, none, none, none] s = .nx [some (mkD gd tr), some (bagD one), some (bagD other), some (.tup [w, m]), some w, some m, none, none] s := by simp
    have htw := ty_tup (g := genv P (MP.call P (k + 2))) hw.1
    have hf : field (genv P (MP.call P (k + 2))) s (mkD gd tr) 0 = some (.int gd) := rfl
    by_cases hC : isTupD w = true
    case neg =>
      have hC : isTupD w = false := by simpa using hC
      rw [hC] at htw
      refine fin false ((exB_nx b1).trans ((exB_nx b2).trans (exB_ret (by simp [htw])))) ?_
      cases w <;> first | rfl | cases hC
    cases w with
    | tup ws =>
      have htw : tyIs (genv P (MP.call P (k + 2))) s (.tup ws) .tuple = some true := htw
      obtain ⟨hwl, hwy⟩ := hw.2 ws rfl
      by_cases hD : (ws.length : Int) = gd
      case neg =>
        refine fin false ((exB_nx b1).trans ((exB_nx b2).trans (exB_ret (by simp [htw, len_tup, hf, hD])))) ?_
        unfold rnd
        split
        · rename_i e
          cases e
          simp [hD]
        · rfl
      have b3 : exS (genv P (MP.call P (k + 2))) (.ife (.or [.not (.isi (.var 4) [.tuple]), .cmp .ne (.bi .len [.var 4]) (.fld (.var 0) 0)]) [.ret (.lit (.bl false))] []) [some (mkD gd tr), some (bagD one), some (bagD other), some (.tup [.tup ws, m]), some (.tup ws), some m, none, none] s = .nx [some (mkD gd tr), some (bagD one), some (bagD other), some (.tup [.tup ws, m]), some (.tup ws), some m, none, none] s := by simp [htw, len_tup, hf, hD]
      have hc := ev_comp_map (g := genv P (MP.call P (k + 2))) (own := [7]) (elt := .call 3 [.var 7]) (t := .name 7) (it := .seq (.var 4)) (env := [some (mkD gd tr), some (bagD one), some (bagD other), some (.tup [.tup ws, m]), some (.tup ws), some m, none, none]) (s := s) (m := false)
        (fun d => .bl (isIntD d)) (evI_seq (d := .tup ws) (xs := ws) (by simp) rfl) (by rfl) (by show _ ≤ 16777216; omega) (fun d hd => ⟨_, asg_name _ _ _, by
          have := is_whole (k + 1) d s (hwy d hd)
          simp [this]⟩)
      have hall : bfn s .all [.lst (ws.map fun d => D.bl (isIntD d))] = some (.bl (ws.all isIntD)) := by
        have e : (ws.map fun d => D.bl (isIntD d)) = (ws.map isIntD).map D.bl := by rw [List.map_map]; rfl
        simp only [bfn, lstOf, Option.bind_some, e, blsOf_map, Option.map_some, List.all_map]
        rfl
      rw [newL_f] at hc
      rcases isInts_all ws with ⟨hi, ha⟩ | ⟨is, hi, rfl, ha⟩
      · refine fin false ((exB_nx b1).trans ((exB_nx b2).trans ((exB_nx b3).trans (exB_ret (by simp [hc, hall, ha]))))) ?_
        unfold rnd
        split
        · rename_i e
          cases e
          simp [hi]
        · rfl
      have b4 : exS (genv P (MP.call P (k + 2))) (.ife (.not (.bi .all [.comp false [7] (.call 3 [.var 7]) (.name 7) (.seq (.var 4)) []])) [.ret (.lit (.bl false))] []) [some (mkD gd tr), some (bagD one), some (bagD other), some (.tup [.tup (is.map D.int), m]), some (.tup (is.map D.int)), some m, none, none] s = .nx [some (mkD gd tr), some (bagD one), some (bagD other), some (.tup [.tup (is.map D.int), m]), some (.tup (is.map D.int)), some m, none, none] s := by simp only [ex_ife, ev_not, ev_bi, evs_cons, evs_nil, hc, R.bind_ok, hall, R.opt_some, truthy_bl, Option.map_some, R.sr_ok, opt2_some, ha, Bool.not_true, Bool.false_eq_true, if_false, ex_nil]
      have hmw := is_whole (k + 1) m s hm.1
      have hil : is.length ≤ 1000 := by simpa using hwl
      by_cases hE : isIntD m = true
      case neg =>
        have hE : isIntD m = false := by simpa using hE
        rw [hE] at hmw
        refine fin false ((exB_nx b1).trans ((exB_nx b2).trans ((exB_nx b3).trans ((exB_nx b4).trans (exB_ret (by simp [hmw])))))) ?_
        cases m <;> first | rfl | cases hE
      cases m with
      | int many =>
        have hmw : MP.call P (k + 2) 3 [.int many] s = .ok (.bl true) s := hmw
        have hrnd : rnd gd (fun many ws => tr.all fun p => mult (dotI ws (subI p.1 p.2)) many) (fun many ws => !mult (dotI ws one - dotI ws other) many) (.tup [.tup (is.map D.int), .int many]) = ((decide (0 ≤ many) && decide (many ≠ 1)) && ((tr.all fun p => mult (dotI is (subI p.1 p.2)) many) && !mult (dotI is one - dotI is other) many)) := by
          unfold rnd
          simp only [hi, hD, decide_true, Bool.true_and]
        by_cases hF : many < 0
        · refine fin false ((exB_nx b1).trans ((exB_nx b2).trans ((exB_nx b3).trans ((exB_nx b4).trans (exB_ret (by simp [hmw, hF])))))) ?_
          rw [hrnd]
          simp; omega
        by_cases hG : many = 1
        · subst hG
          refine fin false ((exB_nx b1).trans ((exB_nx b2).trans ((exB_nx b3).trans ((exB_nx b4).trans (exB_ret (by simp [hmw])))))) ?_
          rw [hrnd]
          simp
        have hm0 : 0 ≤ many := by omega
        have b5 : exS (genv P (MP.call P (k + 2))) (.ife (.or [.not (.call 3 [.var 5]), .cmp .lt (.var 5) (.lit (.int 0)), .cmp .eq (.var 5) (.lit (.int 1))]) [.ret (.lit (.bl false))] []) [some (mkD gd tr), some (bagD one), some (bagD other), some (.tup [.tup (is.map D.int), .int many]), some (.tup (is.map D.int)), some (.int many), none, none] s = .nx [some (mkD gd tr), some (bagD one), some (bagD other), some (.tup [.tup (is.map D.int), .int many]), some (.tup (is.map D.int)), some (.int many), none, none] s := by simp [hmw, hF, hG]
        have hdf := differences (k + 1) gd tr s hl hb
        have hit : evI (genv P (MP.call P (k + 2))) (.seq (.call 5 [.var 0])) [some (mkD gd tr), some (bagD one), some (bagD other), some (.tup [.tup (is.map D.int), .int many]), some (.tup (is.map D.int)), some (.int many), none, none] s = .ok (tr.map fun p => .lst ((subI p.1 p.2).map D.int), []) s := evI_seq (d := .lst (tr.map fun p => .lst ((subI p.1 p.2).map D.int))) (by simp [hdf]) rfl
        have hfor := ex_for (t := .name 6) (body := rBody) hit
        have e : (tr.map fun p => D.lst ((subI p.1 p.2).map D.int)) = (tr.map fun p => subI p.1 p.2).map fun r => D.lst (r.map D.int) := by rw [List.map_map]; rfl
        rw [e] at hfor
        have q1 := dot (k + 1) (bagD is) (bagD one) s is one rfl rfl h1 hil
        have q2 := dot (k + 1) (bagD is) (bagD other) s is other rfl rfl h2 hil
        have q3 := is_multiple (k + 1) (dotI is one - dotI is other) many s hm0
        rcases round_loop (k + 1) (mkD gd tr) (bagD one) (bagD other) (.tup [.tup (is.map D.int), .int many]) is many s hm0 hil none (tr.map fun p => subI p.1 p.2) none (fun r hr => by
          obtain ⟨p, hp, rfl⟩ := List.mem_map.mp hr
          exact hsm p hp) with ⟨y6, z1, z2⟩ | ⟨z1, z2⟩
        · have b6 := hfor.trans z2
          rw [List.all_map] at z1
          refine fin (!mult (dotI is one - dotI is other) many) ((exB_nx b1).trans ((exB_nx b2).trans ((exB_nx b3).trans ((exB_nx b4).trans ((exB_nx b5).trans ((exB_nx b6).trans (exB_ret (by simp [q1, q2, q3]))))))))  ?_
          rw [hrnd]
          have z1' : (tr.all fun p => mult (dotI is (subI p.1 p.2)) many) = true := z1
          simp [z1', hm0, hG]
        · have b6 := hfor.trans z2
          rw [List.all_map] at z1
          refine fin false ((exB_nx b1).trans ((exB_nx b2).trans ((exB_nx b3).trans ((exB_nx b4).trans ((exB_nx b5).trans (exB_ret b6)))))) ?_
          rw [hrnd]
          have z1' : (tr.all fun p => mult (dotI is (subI p.1 p.2)) many) = false := z1
          simp only [z1', Bool.false_and, Bool.and_false]
      | _ => cases hE
    | _ => cases hC
  | _ => cases hA
end Lk57
set_option autoImplicit false
set_option linter.all false
set_option maxRecDepth 10000
set_option maxHeartbeats 2000000
/-! S57k: what the law says is due. -/
namespace Lk57
open MP
abbrev wlBody : List S := [.ife (.not (.call 11 [.var 6])) [.ret (.lit (.bl false))] []]
theorem whole_loop (k : Nat) (th tD o1 o2 w m : D) (s : Sto) (x7 x8 : Option D) : ∀ (xs : List D) (x6 : Option D), (∀ x ∈ xs, Ty1 s x) →
    (∃ y6, xs.all isIntD = true ∧ forLoop (bodyF (genv P (MP.call P (k + 1))) (.name 6) wlBody) [] xs [some th, some tD, some o1, some o2, some w, some m, x6, x7, x8] s = .nx [some th, some tD, some o1, some o2, some w, some m, y6, x7, x8] s) ∨
    (xs.all isIntD = false ∧ forLoop (bodyF (genv P (MP.call P (k + 1))) (.name 6) wlBody) [] xs [some th, some tD, some o1, some o2, some w, some m, x6, x7, x8] s = .ret (.bl false) s)
  | [], x6, _ => .inl ⟨x6, rfl, for_nil (by rfl)⟩
  | d :: xs, x6, h => by
    have hd := law_whole k d s (h d List.mem_cons_self)
    cases hv : isIntD d with
    | true =>
      rw [hv] at hd
      have step : bodyF (genv P (MP.call P (k + 1))) (.name 6) wlBody d [some th, some tD, some o1, some o2, some w, some m, x6, x7, x8] s = .nx [some th, some tD, some o1, some o2, some w, some m, some d, x7, x8] s := by simp [bodyF, hd]
      rcases whole_loop k th tD o1 o2 w m s x7 x8 xs (some d) (fun q hq => h q (List.mem_cons_of_mem _ hq)) with ⟨y6, q1, q2⟩ | ⟨q1, q2⟩
      · exact .inl ⟨y6, by simp [hv, q1], by rw [for_nx (by rfl) step, q2]⟩
      · exact .inr ⟨by simp [hv, q1], by rw [for_nx (by rfl) step, q2]⟩
    | false =>
      rw [hv] at hd
      have step : bodyF (genv P (MP.call P (k + 1))) (.name 6) wlBody d [some th, some tD, some o1, some o2, some w, some m, x6, x7, x8] s = .ret (.bl false) s := by simp [bodyF, hd]
      exact .inr ⟨by simp [hv], by rw [for_ret (by rfl) step]⟩
theorem due (k : Nat) (tr : List (List Int × List Int)) (one other : List Int) (d : D) (s : Sto) (hd : ThOk s d) (hsm : ∀ p ∈ tr, sml p.1 ∧ sml p.2) (h1 : sml one) (h2 : sml other) :
    MP.call P (k + 3) 18 [d, trD tr, bagD one, bagD other] s = .ok (.bl ((rnd one.length (fun many ws => tr.all fun p => mult (dotI ws p.2 - dotI ws p.1) many) (fun many ws => !mult (dotI ws other - dotI ws one) many)) d)) s := by
  rw [c0 (k + 2) 18 _ _ f18 rfl]
  have fin : ∀ b, exB (genv P (MP.call P (k + 2))) f18.body [some (d), some (trD tr), some (bagD one), some (bagD other), none, none, none, none, none] s = .ret (.bl b) s → (rnd one.length (fun many ws => tr.all fun p => mult (dotI ws p.2 - dotI ws p.1) many) (fun many ws => !mult (dotI ws other - dotI ws one) many)) d = b → runFn (genv P (MP.call P (k + 2))) f18 [d, trD tr, bagD one, bagD other] s = .ok (.bl ((rnd one.length (fun many ws => tr.all fun p => mult (dotI ws p.2 - dotI ws p.1) many) (fun many ws => !mult (dotI ws other - dotI ws one) many)) d)) s := fun b h e => by
    rw [e]
    exact (run_ret (f := f18) rfl h).trans (fin0_bl s b)
  have hty := ty_tup (g := genv P (MP.call P (k + 2))) hd.1
  by_cases hA : isTupD d = true
  case neg =>
    have hA : isTupD d = false := by simpa using hA
    rw [hA] at hty
    refine fin false (exB_ret (by simp [hty])) ?_
    cases d <;> first | rfl | cases hA
  cases d with
  | tup xs =>
    have hty : tyIs (genv P (MP.call P (k + 2))) s (.tup xs) .tuple = some true := hty
    by_cases hB : xs.length = 2
    case neg =>
      have hB' : ¬ ((xs.length : Int) = 2) := by omega
      refine fin false (exB_ret (by simp [hty, len_tup, hB'])) ?_
      unfold rnd
      split
      · rename_i e
        cases e
        exact absurd rfl hB
      · rfl
    obtain ⟨w, m, rfl⟩ := len2 hB
    have hw := hd.2 _ rfl w (by simp)
    have hm := hd.2 _ rfl m (by simp)
    have i0 : indexS s (.tup [w, m]) (.int 0) = some w := rfl
    have i1 : indexS s (.tup [w, m]) (.int 1) = some m := rfl
    have b1 : exS (genv P (MP.call P (k + 2))) (.ife (.or [.not (.isi (.var 0) [.tuple]), .cmp .ne (.bi .len [.var 0]) (.lit (.int 2))]) [.ret (.lit (.bl false))] []) [some (.tup [w, m]), some (trD tr), some (bagD one), some (bagD other), none, none, none, none, none] s = .nx [some (.tup [w, m]), some (trD tr), some (bagD one), some (bagD other), none, none, none, none, none] s := by simp [hty, len_tup]
    have b2 : exS (genv P (MP.call P (k + 2))) (.asg (.name 4) (.idx (.var 0) (.lit (.int 0)))) [some (.tup [w, m]), some (trD tr), some (bagD one), some (bagD other), none, none, none, none, none] s = .nx [some (.tup [w, m]), some (trD tr), some (bagD one), some (bagD other), some w, none, none, none, none] s := by simp [i0]
    have b2' : exS (genv P (MP.call P (k + 2))) (.asg (.name 5) (.idx (.var 0) (.lit (.int 1)))) [some (.tup [w, m]), some (trD tr), some (bagD one), some (bagD other), some w, none, none, none, none] s = .nx [some (.tup [w, m]), some (trD tr), some (bagD one), some (bagD other), some w, some m, none, none, none] s := by simp [i1]
    have htw := ty_tup (g := genv P (MP.call P (k + 2))) hw.1
    have hol : bfn s .len [bagD one] = some (.int one.length) := by simp [bagD, len_tup]
    by_cases hC : isTupD w = true
    case neg =>
      have hC : isTupD w = false := by simpa using hC
      rw [hC] at htw
      refine fin false ((exB_nx b1).trans ((exB_nx b2).trans ((exB_nx b2').trans (exB_ret (by simp [htw]))))) ?_
      cases w <;> first | rfl | cases hC
    cases w with
    | tup ws =>
      have htw : tyIs (genv P (MP.call P (k + 2))) s (.tup ws) .tuple = some true := htw
      obtain ⟨hwl, hwy⟩ := hw.2 ws rfl
      by_cases hD : (ws.length : Int) = one.length
      case neg =>
        refine fin false ((exB_nx b1).trans ((exB_nx b2).trans ((exB_nx b2').trans (exB_ret (by simp [htw, len_tup, hol, hD]))))) ?_
        unfold rnd
        split
        · rename_i e
          cases e
          simp [hD]
        · rfl
      have b3 : exS (genv P (MP.call P (k + 2))) (.ife (.or [.not (.isi (.var 4) [.tuple]), .cmp .ne (.bi .len [.var 4]) (.bi .len [.var 2])]) [.ret (.lit (.bl false))] []) [some (.tup [.tup ws, m]), some (trD tr), some (bagD one), some (bagD other), some (.tup ws), some m, none, none, none] s = .nx [some (.tup [.tup ws, m]), some (trD tr), some (bagD one), some (bagD other), some (.tup ws), some m, none, none, none] s := by simp [htw, len_tup, hol, hD]
      have hit : evI (genv P (MP.call P (k + 2))) (.seq (.var 4)) [some (.tup [.tup ws, m]), some (trD tr), some (bagD one), some (bagD other), some (.tup ws), some m, none, none, none] s = .ok (ws, []) s := evI_seq (d := .tup ws) (by simp) rfl
      have hfor := ex_for (t := .name 6) (body := wlBody) hit
      rcases isInts_all ws with ⟨hi, ha⟩ | ⟨is, hi, rfl, ha⟩
      · rcases whole_loop (k + 1) (.tup [.tup ws, m]) (trD tr) (bagD one) (bagD other) (.tup ws) m s none none ws none hwy with ⟨y6, z1, z2⟩ | ⟨z1, z2⟩
        · rw [ha] at z1; cases z1
        refine fin false ((exB_nx b1).trans ((exB_nx b2).trans ((exB_nx b2').trans ((exB_nx b3).trans (exB_ret (hfor.trans z2)))))) ?_
        unfold rnd
        split
        · rename_i e
          cases e
          simp [hi]
        · rfl
      rcases whole_loop (k + 1) (.tup [.tup (is.map D.int), m]) (trD tr) (bagD one) (bagD other) (.tup (is.map D.int)) m s none none (is.map D.int) none hwy with ⟨y6, z1, z2⟩ | ⟨z1, z2⟩
      case inr => rw [ha] at z1; cases z1
      have b4 := hfor.trans z2
      have hmw := law_whole (k + 1) m s hm.1
      by_cases hE : isIntD m = true
      case neg =>
        have hE : isIntD m = false := by simpa using hE
        rw [hE] at hmw
        refine fin false ((exB_nx b1).trans ((exB_nx b2).trans ((exB_nx b2').trans ((exB_nx b3).trans ((exB_nx b4).trans (exB_ret (by simp [hmw]))))))) ?_
        cases m <;> first | rfl | cases hE
      cases m with
      | int many =>
        have hmw : MP.call P (k + 2) 11 [.int many] s = .ok (.bl true) s := hmw
        have hrnd : (rnd one.length (fun many ws => tr.all fun p => mult (dotI ws p.2 - dotI ws p.1) many) (fun many ws => !mult (dotI ws other - dotI ws one) many)) (.tup [.tup (is.map D.int), .int many]) = ((decide (0 ≤ many) && decide (many ≠ 1)) && ((tr.all fun p => mult (dotI is p.2 - dotI is p.1) many) && !mult (dotI is other - dotI is one) many)) := by
          unfold rnd
          simp only [hi, hD, decide_true, Bool.true_and]
        by_cases hF : many < 0
        · refine fin false ((exB_nx b1).trans ((exB_nx b2).trans ((exB_nx b2').trans ((exB_nx b3).trans ((exB_nx b4).trans (exB_ret (by simp [hmw, hF]))))))) ?_
          rw [hrnd]
          simp; omega
        by_cases hG : many = 1
        · subst hG
          refine fin false ((exB_nx b1).trans ((exB_nx b2).trans ((exB_nx b2').trans ((exB_nx b3).trans ((exB_nx b4).trans (exB_ret (by simp [hmw]))))))) ?_
          rw [hrnd]
          simp
        have hm0 : 0 ≤ many := by omega
        have b5 : exS (genv P (MP.call P (k + 2))) (.ife (.or [.not (.call 11 [.var 5]), .cmp .lt (.var 5) (.lit (.int 0)), .cmp .eq (.var 5) (.lit (.int 1))]) [.ret (.lit (.bl false))] []) [some (.tup [.tup (is.map D.int), .int many]), some (trD tr), some (bagD one), some (bagD other), some (.tup (is.map D.int)), some (.int many), y6, none, none] s = .nx [some (.tup [.tup (is.map D.int), .int many]), some (trD tr), some (bagD one), some (bagD other), some (.tup (is.map D.int)), some (.int many), y6, none, none] s := by simp [hmw, hF, hG]
        have hit2 : evI (genv P (MP.call P (k + 2))) (.seq (.var 1)) [some (.tup [.tup (is.map D.int), .int many]), some (trD tr), some (bagD one), some (bagD other), some (.tup (is.map D.int)), some (.int many), y6, none, none] s = .ok (tr.map fun p => .tup [bagD p.1, bagD p.2], []) s := evI_seq (d := trD tr) (by simp) rfl
        have hfor2 := ex_for (t := .tup [.name 7, .name 8]) (body := dBody) hit2
        have q1 := total (k + 1) (bagD is) (bagD other) s is other rfl rfl h2
        have q2 := total (k + 1) (bagD is) (bagD one) s is one rfl rfl h1
        have q3 := law_multiple (k + 1) (dotI is other - dotI is one) many s hm0
        rcases due_loop (k + 1) (.tup [.tup (is.map D.int), .int many]) (trD tr) (bagD one) (bagD other) is many s hm0 y6 tr none none hsm with ⟨y7, y8, z1, z2⟩ | ⟨z1, z2⟩
        · have b6 := hfor2.trans z2
          refine fin (!mult (dotI is other - dotI is one) many) ((exB_nx b1).trans ((exB_nx b2).trans ((exB_nx b2').trans ((exB_nx b3).trans ((exB_nx b4).trans ((exB_nx b5).trans ((exB_nx b6).trans (exB_ret (by simp [q1, q2, q3])))))))))  ?_
          rw [hrnd]
          simp [z1, hm0, hG]
        · have b6 := hfor2.trans z2
          refine fin false ((exB_nx b1).trans ((exB_nx b2).trans ((exB_nx b2').trans ((exB_nx b3).trans ((exB_nx b4).trans ((exB_nx b5).trans (exB_ret b6))))))) ?_
          rw [hrnd]
          simp only [z1, Bool.false_and, Bool.and_false]
      | _ => cases hE
    | _ => cases hC
  | _ => cases hA
end Lk57
set_option autoImplicit false
set_option linter.all false
set_option maxRecDepth 10000
set_option maxHeartbeats 2000000
/-! S57l: bags judged, the market made. -/
namespace Lk57
open MP
abbrev bBody : List S := [.ife (.or [.not (.call 0 [.var 2]), .cmp .lt (.var 2) (.lit (.int 0))]) [.ret (.lit (.bl false))] []]
theorem bag_loop (k : Nat) (g th : D) (s : Sto) : ∀ (b : List Int) (x : Option D), (∀ r ∈ b, 0 ≤ r) → ∃ y, forLoop (bodyF (genv P (MP.call P (k + 1))) (.name 2) bBody) [] (b.map D.int) [some g, some th, x] s = .nx [some g, some th, y] s
  | [], x, _ => ⟨x, for_nil (by rfl)⟩
  | r :: b, x, h => by
    have h0 := h r List.mem_cons_self
    have hn : ¬ r < 0 := by omega
    have hi := is_integer k (.int r) s trivial
    simp only [isIntD] at hi
    obtain ⟨y, ih⟩ := bag_loop k g th s b (some (.int r)) fun q hq => h q (List.mem_cons_of_mem _ hq)
    exact ⟨y, by rw [List.map_cons, for_nx (by rfl) (env' := [some g, some th, some (.int r)]) (s' := s) (by simp [bodyF, hi, hn]), ih]⟩
theorem is_bag (k : Nat) (gd : Int) (b : List Int) (s : Sto) (hl : (b.length : Int) = gd) (h : ∀ r ∈ b, 0 ≤ r) : MP.call P (k + 2) 1 [.int gd, bagD b] s = .ok (.bl true) s := by
  rw [c0 (k + 1) 1 _ _ f1 rfl]
  have hty : tyIs (genv P (MP.call P (k + 1))) s (bagD b) .tuple = some true := rfl
  have hlen : bfn s .len [bagD b] = some (.int b.length) := by simp [bagD, len_tup]
  obtain ⟨y, hf⟩ := bag_loop k (.int gd) (bagD b) s b none h
  have hit : evI (genv P (MP.call P (k + 1))) (.seq (.var 1)) [some (.int gd), some (bagD b), none] s = .ok (b.map D.int, []) s := evI_seq (d := bagD b) (by simp) rfl
  have b2 := (ex_for (t := .name 2) (body := bBody) hit).trans hf
  have hb : exB (genv P (MP.call P (k + 1))) f1.body [some (.int gd), some (bagD b), none] s = .ret (.bl true) s := by
    refine (exB_nx (env' := [some (.int gd), some (bagD b), none]) (s' := s) (by simp [hty, hlen, hl])).trans ?_
    refine (exB_nx b2).trans (exB_ret (by simp))
  exact (run_ret (f := f1) rfl hb).trans (fin0_bl s true)
theorem is_pair (k : Nat) (gd : Int) (a b : List Int) (s : Sto) (hl : (a.length : Int) = gd) (h : ∀ r ∈ a, 0 ≤ r) (hl2 : (b.length : Int) = gd) (h2 : ∀ r ∈ b, 0 ≤ r) : MP.call P (k + 3) 2 [.int gd, .tup [bagD a, bagD b]] s = .ok (.bl true) s := by
  rw [c0 (k + 2) 2 _ _ f2 rfl]
  have hty : tyIs (genv P (MP.call P (k + 2))) s (.tup [bagD a, bagD b]) .tuple = some true := rfl
  have i0 : indexS s (.tup [bagD a, bagD b]) (.int 0) = some (bagD a) := rfl
  have i1 : indexS s (.tup [bagD a, bagD b]) (.int 1) = some (bagD b) := rfl
  have q1 := is_bag k gd a s hl h
  have q2 := is_bag k gd b s hl2 h2
  have hb : exB (genv P (MP.call P (k + 2))) f2.body [some (.int gd), some (.tup [bagD a, bagD b])] s = .ret (.bl true) s := exB_ret (by simp [hty, len_tup, i0, i1, q1, q2])
  exact (run_ret (f := f2) rfl hb).trans (fin0_bl s true)
end Lk57
set_option autoImplicit false
set_option linter.all false
set_option maxRecDepth 10000
set_option maxHeartbeats 2000000
/-! S57m: the market made. -/
namespace MP
theorem evI_enum {g : G} {e : E} {env : Env} {s s' : Sto} {d : D} {xs : List D} (h : evE g e env s = .ok d s') (hx : seqOf s' d = some xs) : evI g (.enum e) env s = .ok (enumD 0 xs, guardOf d xs) s' := by
  rw [evI, h]
  simp only [R.bind_ok, hx, opt1_some]
theorem bag_free (b : List Int) : (bagD b).free = true := by simp only [bagD, D.free]; exact frees_ints b
theorem tr_free : ∀ tr : List (List Int × List Int), D.frees (tr.map fun p => D.tup [bagD p.1, bagD p.2]) = true
  | [] => rfl
  | p :: tr => by simp [D.frees, D.free, bag_free, tr_free tr]
theorem fin0_set_last {s : Sto} {c c' : Cell} {r : D} (hc : c'.free = true) (hr : r.free = true) : fin 0 (s ++ [c]) r (s ++ [c']) = .ok r (s ++ [c']) := by
  have e : s ++ [c'] = (s ++ [c]).set s.length c' := by simp
  rw [e]
  exact fin_set hc hr
end MP
namespace Lk57
open MP
abbrev pBody : List S := [.ife (.not (.call 2 [.var 1, .var 4])) [.bad] []]
theorem pair_loop (k : Nat) (gd : Int) (m tD : D) (s : Sto) : ∀ (tr : List (List Int × List Int)) (n : Nat) (x y : Option D), (∀ p ∈ tr, ((p.1.length : Int) = gd ∧ ∀ r ∈ p.1, 0 ≤ r) ∧ ((p.2.length : Int) = gd ∧ ∀ r ∈ p.2, 0 ≤ r)) →
    ∃ x' y', forLoop (bodyF (genv P (MP.call P (k + 3))) (.tup [.name 3, .name 4]) pBody) [] (enumD n (tr.map fun p => D.tup [bagD p.1, bagD p.2])) [some m, some (.int gd), some tD, x, y] s = .nx [some m, some (.int gd), some tD, x', y'] s
  | [], n, x, y, _ => ⟨x, y, for_nil (by rfl)⟩
  | p :: tr, n, x, y, h => by
    obtain ⟨⟨h1, h2⟩, h3, h4⟩ := h p List.mem_cons_self
    have hi := is_pair k gd p.1 p.2 s h1 h2 h3 h4
    obtain ⟨x', y', ih⟩ := pair_loop k gd m tD s tr (n + 1) (some (.int n)) (some (.tup [bagD p.1, bagD p.2])) fun q hq => h q (List.mem_cons_of_mem _ hq)
    exact ⟨x', y', by rw [List.map_cons, enumD, for_nx (by rfl) (env' := [some m, some (.int gd), some tD, some (.int n), some (.tup [bagD p.1, bagD p.2])]) (s' := s) (by simp [bodyF, hi]), ih]⟩
theorem init (k : Nat) (gd : Int) (tr : List (List Int × List Int)) (s : Sto) (hg : 1 ≤ gd) (hg5 : gd ≤ 5) (hl : tr.length ≤ 8) (h : ∀ p ∈ tr, ((p.1.length : Int) = gd ∧ ∀ r ∈ p.1, 0 ≤ r) ∧ ((p.2.length : Int) = gd ∧ ∀ r ∈ p.2, 0 ≤ r)) :
    MP.call P (k + 4) 20 [.ref s.length, .int gd, trD tr] (s ++ [.ins 3 []]) = .ok .non (s ++ [.ins 3 [(0, .int gd), (2, trD tr)]]) := by
  rw [c0 (k + 3) 20 _ _ f20 rfl]
  have q0 := is_integer (k + 2) (.int gd) (s ++ [.ins 3 []]) trivial
  simp only [isIntD] at q0
  have g0 : (genv P (MP.call P (k + 3))).glob 0 = some (.int 5) := rfl
  have g1 : (genv P (MP.call P (k + 3))).glob 1 = some (.int 8) := rfl
  have hty : tyIs (genv P (MP.call P (k + 3))) (s ++ [.ins 3 []]) (trD tr) .tuple = some true := rfl
  have hlen : bfn (s ++ [.ins 3 []]) .len [trD tr] = some (.int tr.length) := by simp [trD, len_tup]
  have hn : ¬ (8 : Int) < tr.length := by omega
  obtain ⟨x', y', hf⟩ := pair_loop k gd (.ref s.length) (trD tr) (s ++ [.ins 3 []]) tr 0 none none h
  have hit : evI (genv P (MP.call P (k + 3))) (.enum (.var 2)) [some (.ref s.length), some (.int gd), some (trD tr), none, none] (s ++ [.ins 3 []]) = .ok (enumD 0 (tr.map fun p => D.tup [bagD p.1, bagD p.2]), []) (s ++ [.ins 3 []]) := evI_enum (d := trD tr) (by simp) rfl
  have b3 := (ex_for (t := .tup [.name 3, .name 4]) (body := pBody) hit).trans hf
  have s1 : setFl (genv P (MP.call P (k + 3))) (s ++ [.ins 3 []]) (.ref s.length) 0 (.int gd) = some (s ++ [.ins 3 [(0, .int gd)]]) := by
    have hc : (genv P (MP.call P (k + 3))).cls 3 = some ⟨false, [0, 2], some 20, true, []⟩ := rfl
    simp [setFl, hc, putF]
  have s2 : setFl (genv P (MP.call P (k + 3))) (s ++ [.ins 3 [(0, .int gd)]]) (.ref s.length) 2 (trD tr) = some (s ++ [.ins 3 [(0, .int gd), (2, trD tr)]]) := by
    have hc : (genv P (MP.call P (k + 3))).cls 3 = some ⟨false, [0, 2], some 20, true, []⟩ := rfl
    simp [setFl, hc, putF]
  have hb : exB (genv P (MP.call P (k + 3))) f20.body [some (.ref s.length), some (.int gd), some (trD tr), none, none] (s ++ [.ins 3 []]) = .nx [some (.ref s.length), some (.int gd), some (trD tr), x', y'] (s ++ [.ins 3 [(0, .int gd), (2, trD tr)]]) := by
    refine (exB_nx (env' := [some (.ref s.length), some (.int gd), some (trD tr), none, none]) (s' := s ++ [.ins 3 []]) (by simp [q0, g0, hg, hg5])).trans ?_
    refine (exB_nx (env' := [some (.ref s.length), some (.int gd), some (trD tr), none, none]) (s' := s ++ [.ins 3 []]) (by simp [hty, hlen, g1, hn])).trans ?_
    refine (exB_nx b3).trans ?_
    refine (exB_nx (env' := [some (.ref s.length), some (.int gd), some (trD tr), x', y']) (s' := s ++ [.ins 3 [(0, .int gd)]]) (by simp [s1])).trans ?_
    refine (exB_nx (env' := [some (.ref s.length), some (.int gd), some (trD tr), x', y']) (s' := s ++ [.ins 3 [(0, .int gd), (2, trD tr)]]) (by simp [s2])).trans ?_
    rw [ex_nil]
  unfold runFn
  rw [if_pos (show [D.ref s.length, .int gd, trD tr].length = f20.np from rfl)]
  rw [show ([D.ref s.length, D.int gd, trD tr].map some ++ List.replicate (f20.ns - f20.np) none) = [some (.ref s.length), some (.int gd), some (trD tr), none, none] from rfl, hb]
  exact fin0_set_last (by simp [Cell.free, D.frees, D.free, trD, tr_free]) rfl
theorem market (k : Nat) (gd : Int) (tr : List (List Int × List Int)) (s : Sto) (hg : 1 ≤ gd) (hg5 : gd ≤ 5) (hl : tr.length ≤ 8) (h : ∀ p ∈ tr, ((p.1.length : Int) = gd ∧ ∀ r ∈ p.1, 0 ≤ r) ∧ ((p.2.length : Int) = gd ∧ ∀ r ∈ p.2, 0 ≤ r)) :
    makeD (genv P (MP.call P (k + 4))) 3 [.int gd, trD tr] s = .ok (mkD gd tr) s := by
  have hc : (genv P (MP.call P (k + 4))).cls 3 = some ⟨false, [0, 2], some 20, true, []⟩ := rfl
  have hi := init k gd tr s hg hg5 hl h
  unfold makeD
  rw [hc]
  simp only [Bool.false_eq_true, if_false, g_call, hi]
  simp [recOf, D.frees, D.free, trD, tr_free, mkD]
end Lk57
set_option autoImplicit false
set_option linter.all false
set_option maxRecDepth 10000
set_option maxHeartbeats 2000000
/-! S57n: the spoiled weights. -/
namespace MP
/-- free and judged by its type alone -/
def Pl (d : D) : Prop := d.free = true ∧ ∀ s, Ty1 s d
theorem pl_int (i : Int) : Pl (.int i) := ⟨rfl, fun _ => trivial⟩
theorem frees_pl : ∀ {xs : List D}, (∀ x ∈ xs, Pl x) → D.frees xs = true
  | [], _ => rfl
  | x :: xs, h => by
    simp only [D.frees, Bool.and_eq_true]
    exact ⟨(h x List.mem_cons_self).1, frees_pl fun y hy => h y (List.mem_cons_of_mem _ hy)⟩
theorem fin0_app {s : Sto} {cs : List Cell} {r : D} (hr : r.free = true) : fin 0 s r (s ++ cs) = .ok r s := by
  unfold fin
  rw [if_neg (by decide), if_pos (gcOk_app (gcOk_rfl s)), if_pos hr, List.take_left]
theorem seqLast {s : Sto} {n : Nat} (hn : n = s.length) (a : List D) : seqOf (s ++ [.lst a]) (.ref n) = some a := by subst hn; simp [seqOf]
theorem setLast {s : Sto} {n i : Nat} {j : Int} {a : List D} (v : D) (hn : n = s.length) (hi : ixN a.length j = some i) : setI (s ++ [.lst a]) (.ref n) (.int j) v = some (s ++ [.lst (a.set i v)]) := by
  subst hn; simp [setI, hi]
theorem idxLast {s : Sto} {n i : Nat} {j : Int} {a : List D} {v : D} (hn : n = s.length) (hi : ixN a.length j = some i) (hv : a[i]? = some v) : indexS (s ++ [.lst a]) (.ref n) (.int j) = some v := by
  subst hn; simp [indexS, seqOf, atI, hi, hv]
end MP
set_option autoImplicit false
set_option linter.all false
set_option maxRecDepth 10000
set_option maxHeartbeats 2000000
/-! S57o: the spoiled weights, kinds that store one number (0, 1, 2, 7). -/
namespace Lk57
open MP
abbrev spIf : S := f16.body.getD 1 .bad
theorem sp_store (g : G) (many kind pl st : Int) (q n i : Nat) (ws : List Int) (s : Sto) (hn : n = s.length) (hi : ixN (ws.map D.int).length pl = some i) (w : Int) (hw : ws[i]? = some w) (hk : kind = 0 ∨ kind = 1 ∨ kind = 2 ∨ kind = 7) :
    ∃ v, exS g spIf [some (.ref q), some (.int many), some (.int kind), some (.int pl), some (.int st), some (.ref n), none] (s ++ [.lst (ws.map D.int)]) = .nx [some (.ref q), some (.int many), some (.int kind), some (.int pl), some (.int st), some (.ref n), none] (s ++ [.lst ((ws.set i v).map D.int)]) := by
  have hx := idxLast (s := s) hn hi (v := .int w) (by rw [List.getElem?_map, hw]; rfl)
  have hs : ∀ v : Int, setI (s ++ [.lst (ws.map D.int)]) (.ref n) (.int pl) (.int v) = some (s ++ [.lst ((ws.set i v).map D.int)]) := fun v => by
    rw [setLast (.int v) hn hi, List.map_set]
  rcases hk with rfl | rfl | rfl | rfl
  · exact ⟨w + 1, by simp [spIf, f16, hx, hs]⟩
  · exact ⟨w - 1, by simp [spIf, f16, hx, hs]⟩
  · by_cases h : 0 < w
    · exact ⟨w - many, by simp [spIf, f16, hx, hs, h]⟩
    · exact ⟨w + many, by simp [spIf, f16, hx, hs, h]⟩
  · exact ⟨0, by simp [spIf, f16, hx, hs]⟩
end Lk57
set_option autoImplicit false
set_option linter.all false
set_option maxRecDepth 10000
set_option maxHeartbeats 2000000
/-! S57p: the spoiled weights, the other kinds. -/
namespace MP
theorem cut_mem {α : Type} {xs : List α} {lo hi : Option Int} {x : α} (h : x ∈ cut xs lo hi) : x ∈ xs := List.mem_of_mem_drop (List.mem_of_mem_take h)
theorem cut_len {α : Type} (xs : List α) (lo hi : Option Int) : (cut xs lo hi).length ≤ xs.length := by
  unfold cut
  rw [List.length_take, List.length_drop]
  omega
theorem slF_last {s : Sto} {n : Nat} (hn : n = s.length) (a : List D) (lo hi : Option Int) : slF false (.ref n) lo hi (s ++ [.lst a]) = .ok (.lst (cut a lo hi)) (s ++ [.lst a]) := by
  subst hn; simp [slF, seqOf]
theorem add_lst (s : Sto) (a b : List D) (h : a.length + b.length ≤ LINE) : binop s .add (.lst a) (.lst b) = some (.lst (a ++ b)) := by simp [binop, lstOf, h]
end MP
namespace Lk57
open MP
theorem sp_cut (g : G) (many kind pl st : Int) (q n : Nat) (ws : List Int) (s : Sto) (hn : n = s.length) (hl : ws.length ≤ 100) (hk : kind = 5 ∨ kind = 6) :
    ∃ xs, exS g spIf [some (.ref q), some (.int many), some (.int kind), some (.int pl), some (.int st), some (.ref n), none] (s ++ [.lst (ws.map D.int)]) = .nx [some (.ref q), some (.int many), some (.int kind), some (.int pl), some (.int st), some (.lst xs), none] (s ++ [.lst (ws.map D.int)]) ∧ (∀ x ∈ xs, Pl x) ∧ xs.length ≤ 1000 := by
  have hc : ∀ lo hi, (cut (ws.map D.int) lo hi).length ≤ 100 := fun lo hi => by have := cut_len (ws.map D.int) lo hi; rw [List.length_map] at this; omega
  have hp : ∀ lo hi, ∀ x ∈ cut (ws.map D.int) lo hi, Pl x := fun lo hi x hx => by
    obtain ⟨i, _, rfl⟩ := List.mem_map.mp (cut_mem hx)
    exact pl_int i
  have hs := fun lo hi => slF_last hn (ws.map D.int) lo hi
  rcases hk with rfl | rfl
  · have l1 := hc none (some pl)
    have l2 := hc (some (pl + 1)) none
    have ha := add_lst (s ++ [.lst (ws.map D.int)]) (cut (ws.map D.int) none (some pl)) (cut (ws.map D.int) (some (pl + 1)) none) (by show _ ≤ 16777216; omega)
    refine ⟨_, by simp [spIf, f16, evo_some, hs, ha]; rfl, fun x hx => ?_, by rw [List.length_append]; omega⟩
    rcases List.mem_append.mp hx with h | h
    · exact hp _ _ x h
    · exact hp _ _ x h
  · have l1 := hc none (some pl)
    have l2 := hc (some pl) none
    have ha := add_lst (s ++ [.lst (ws.map D.int)]) (cut (ws.map D.int) none (some pl)) [.int st] (by show _ ≤ 16777216; simp; omega)
    have hb := add_lst (s ++ [.lst (ws.map D.int)]) (cut (ws.map D.int) none (some pl) ++ [.int st]) (cut (ws.map D.int) (some pl) none) (by show _ ≤ 16777216; simp; omega)
    refine ⟨(cut (ws.map D.int) none (some pl) ++ [.int st]) ++ cut (ws.map D.int) (some pl) none, by simp only [spIf, f16]; simp [evo_some, hs, ha, hb, -List.append_assoc], fun x hx => ?_, by simp; omega⟩
    rcases List.mem_append.mp hx with h | h
    · rcases List.mem_append.mp h with h | h
      · exact hp _ _ x h
      · rw [List.mem_singleton.mp h]; exact pl_int st
    · exact hp _ _ x h
end Lk57
set_option autoImplicit false
set_option linter.all false
set_option maxRecDepth 10000
set_option maxHeartbeats 2000000
/-! S57q: the spoiled weights, kinds 3 and 4. -/
namespace Lk57
open MP
theorem sp_odd (g : G) (many pl st : Int) (q n i : Nat) (ws : List Int) (s : Sto) (hn : n = s.length) (hl : ws.length ≤ 100) (hi : ixN (ws.map D.int).length pl = some i) (h0 : 0 ≤ st) (h5 : st < 6) :
    ∃ v, exS g spIf [some (.ref q), some (.int many), some (.int 3), some (.int pl), some (.int st), some (.ref n), none] (s ++ [.lst (ws.map D.int)]) = .nx [some (.ref q), some (.int many), some (.int 3), some (.int pl), some (.int st), some (.ref n), none] (s ++ [.lst ((ws.map D.int).set i v)]) ∧ Pl v := by
  have hs := fun v => setLast (a := ws.map D.int) v hn hi
  have : st = 0 ∨ st = 1 ∨ st = 2 ∨ st = 3 ∨ st = 4 ∨ st = 5 := by omega
  have ix : ∀ (t : Sto) (a b c d e f : D), indexS t (.lst [a, b, c, d, e, f]) (.int 0) = some a ∧ indexS t (.lst [a, b, c, d, e, f]) (.int 1) = some b ∧ indexS t (.lst [a, b, c, d, e, f]) (.int 2) = some c ∧ indexS t (.lst [a, b, c, d, e, f]) (.int 3) = some d ∧ indexS t (.lst [a, b, c, d, e, f]) (.int 4) = some e ∧ indexS t (.lst [a, b, c, d, e, f]) (.int 5) = some f := fun t a b c d e f => ⟨rfl, rfl, rfl, rfl, rfl, rfl⟩
  obtain ⟨x0, x1, x2, x3, x4, x5⟩ := ix (s ++ [.lst (ws.map D.int)]) (.bl true) (.bl false) .non (.str [97]) (.tup []) (.tup [.int 1])
  rcases this with rfl | rfl | rfl | rfl | rfl | rfl
  · exact ⟨.bl true, by simp [spIf, f16, x0, hs], rfl, fun _ => trivial⟩
  · exact ⟨.bl false, by simp [spIf, f16, x1, hs], rfl, fun _ => trivial⟩
  · exact ⟨.non, by simp [spIf, f16, x2, hs], rfl, fun _ => trivial⟩
  · exact ⟨.str [97], by simp [spIf, f16, x3, hs], rfl, fun _ => trivial⟩
  · exact ⟨.tup [], by simp [spIf, f16, x4, hs], rfl, fun _ => trivial⟩
  · exact ⟨.tup [.int 1], by simp [spIf, f16, x5, hs], rfl, fun _ => trivial⟩
end Lk57
set_option autoImplicit false
set_option linter.all false
set_option maxRecDepth 10000
set_option maxHeartbeats 2000000
/-! S57r: the spoiled weights, kind 4. -/
namespace MP
def mulBy (st : Int) : D → D
  | .int w => .int (st * w)
  | _ => .non
end MP
namespace Lk57
open MP
theorem sp_times (g : G) (many pl st : Int) (q n : Nat) (ws : List Int) (s : Sto) (hn : n = s.length) (hl : ws.length ≤ 100) (h0 : 0 ≤ st) (h5 : st < 6) :
    exS g spIf [some (.ref q), some (.int many), some (.int 4), some (.int pl), some (.int st), some (.ref n), none] (s ++ [.lst (ws.map D.int)]) = .nx [some (.ref q), some (.int many), some (.int 4), some (.int pl), some (.int st), some (.ref (n + 1)), none] (s ++ [.lst (ws.map D.int)] ++ [.lst ((ws.map fun w => st * w).map D.int)]) := by
  have hseq := seqLast (s := s) hn (ws.map D.int)
  have hc := ev_comp_map (g := g) (own := [6]) (elt := .bin .mul (.var 4) (.var 6)) (t := .name 6) (it := .seq (.var 5)) (env := [some (.ref q), some (.int many), some (.int 4), some (.int pl), some (.int st), some (.ref n), none]) (s := s ++ [.lst (ws.map D.int)]) (m := true)
    (mulBy st) (evI_seq (d := .ref n) (xs := ws.map D.int) (by simp) hseq) (stands_of hseq) (by rw [List.length_map]; show _ ≤ 16777216; omega) (fun d hd => ⟨_, asg_name _ _ _, by
      obtain ⟨w, _, rfl⟩ := List.mem_map.mp hd
      have m := mulOk_l (a := st) (b := w) (by omega) (by omega)
      simp [bin_mul_int, m, mulBy]⟩)
  have e : (ws.map D.int).map (mulBy st) = (ws.map fun w => st * w).map D.int := by rw [List.map_map, List.map_map]; rfl
  rw [e, newL_t] at hc
  have hlen : (s ++ [Cell.lst (ws.map D.int)]).length = n + 1 := by simp [hn]
  rw [hlen] at hc
  have h1 : exS g (.asg (.name 5) (.comp true [6] (.bin .mul (.var 4) (.var 6)) (.name 6) (.seq (.var 5)) [])) [some (.ref q), some (.int many), some (.int 4), some (.int pl), some (.int st), some (.ref n), none] (s ++ [.lst (ws.map D.int)]) = .nx [some (.ref q), some (.int many), some (.int 4), some (.int pl), some (.int st), some (.ref (n + 1)), none] (s ++ [.lst (ws.map D.int)] ++ [.lst ((ws.map fun w => st * w).map D.int)]) := by
    rw [ex_asg, hc]
    rfl
  show exS g (f16.body.getD 1 .bad) _ _ = _
  simp only [f16, List.getD_cons_succ, List.getD_cons_zero, ex_ife, ev_cmp, ev_and, evand_cons, evand_one, ev_var, ev_lit, getE_z, getE_s, R.opt_some, R.bind_ok, cmp_eq_int, Option.map_some, R.sr_ok, truthy_bl, opt2_some, opt1_some, ex_cons, ex_nil, Int.reduceEq, decide_false, decide_true, Bool.false_eq_true, if_false, if_true, h1, SR.seq_nx]
end Lk57
set_option autoImplicit false
set_option linter.all false
set_option maxRecDepth 10000
set_option maxHeartbeats 2000000
/-! S57s: the spoiled weights. -/
namespace Lk57
open MP
theorem spoiled (k : Nat) (many kind pl st : Int) (q : Nat) (ws : List Int) (s : Sto) (hq : s[q]? = some (.lst (ws.map D.int))) (hl : ws.length ≤ 100) (hpl : 0 ≤ pl) (hpl2 : pl < ws.length) (h0 : 0 ≤ st) (h5 : st < 6) (k0 : 0 ≤ kind) (k8 : kind < 8) :
    ∃ xs, MP.call P (k + 1) 16 [.ref q, .int many, .int kind, .int pl, .int st] s = .ok (.tup xs) s ∧ (∀ x ∈ xs, Pl x) ∧ xs.length ≤ 1000 := by
  rw [c0 k 16 _ _ f16 rfl]
  have hsq : seqOf s (.ref q) = some (ws.map D.int) := by simp [seqOf, hq]
  have b1 : exS (genv P (MP.call P k)) (.asg (.name 5) (.li .toList true (.var 0))) [some (.ref q), some (.int many), some (.int kind), some (.int pl), some (.int st), none, none] s = .nx [some (.ref q), some (.int many), some (.int kind), some (.int pl), some (.int st), some (.ref s.length), none] (s ++ [.lst (ws.map D.int)]) := by simp [lfn, hsq]
  have fin : ∀ (d5 : D) (cs : List Cell) (xs : List D), exS (genv P (MP.call P k)) spIf [some (.ref q), some (.int many), some (.int kind), some (.int pl), some (.int st), some (.ref s.length), none] (s ++ [.lst (ws.map D.int)]) = .nx [some (.ref q), some (.int many), some (.int kind), some (.int pl), some (.int st), some d5, none] (s ++ cs) → seqOf (s ++ cs) d5 = some xs → (∀ x ∈ xs, Pl x) → xs.length ≤ 1000 →
      ∃ xs, runFn (genv P (MP.call P k)) f16 [.ref q, .int many, .int kind, .int pl, .int st] s = .ok (.tup xs) s ∧ (∀ x ∈ xs, Pl x) ∧ xs.length ≤ 1000 := fun d5 cs xs b2 hx hp hn => by
    have hb : exB (genv P (MP.call P k)) f16.body [some (.ref q), some (.int many), some (.int kind), some (.int pl), some (.int st), none, none] s = .ret (.tup xs) (s ++ cs) := (exB_nx b1).trans ((exB_nx b2).trans (exB_ret (by simp [bfn, hx])))
    exact ⟨xs, (run_ret (f := f16) rfl hb).trans (fin0_app (by simp only [D.free]; exact frees_pl hp)), hp, hn⟩
  have hi : ixN (ws.map D.int).length pl = some pl.toNat := by
    rw [List.length_map]
    unfold ixN; rw [if_pos hpl, if_pos (by omega)]
  have hw : ws[pl.toNat]? = some (ws[pl.toNat]'(by omega)) := List.getElem?_eq_getElem _
  have pli : ∀ l : List Int, ∀ x ∈ l.map D.int, Pl x := fun l x hx => by
    obtain ⟨i, _, rfl⟩ := List.mem_map.mp hx
    exact pl_int i
  have hk : (kind = 0 ∨ kind = 1 ∨ kind = 2 ∨ kind = 7) ∨ (kind = 5 ∨ kind = 6) ∨ kind = 3 ∨ kind = 4 := by omega
  rcases hk with hk | hk | rfl | rfl
  · obtain ⟨v, h⟩ := sp_store (genv P (MP.call P k)) many kind pl st q s.length pl.toNat ws s rfl hi _ hw hk
    exact fin _ _ _ h (seqLast rfl _) (pli _) (by simp; omega)
  · obtain ⟨xs, h, h1, h2⟩ := sp_cut (genv P (MP.call P k)) many kind pl st q s.length ws s rfl hl hk
    exact fin _ _ _ h rfl h1 h2
  · obtain ⟨v, h, h1⟩ := sp_odd (genv P (MP.call P k)) many pl st q s.length pl.toNat ws s rfl hl hi h0 h5
    refine fin _ _ ((ws.map D.int).set pl.toNat v) h (seqLast rfl _) (fun x hx => ?_) (by rw [List.length_set, List.length_map]; omega)
    rcases List.mem_or_eq_of_mem_set hx with z | z
    · exact pli _ x z
    · rw [z]; exact h1
  · have h := sp_times (genv P (MP.call P k)) many pl st q s.length ws s rfl hl h0 h5
    rw [List.append_assoc] at h
    refine fin _ _ ((ws.map fun w => st * w).map D.int) h ?_ (pli _) (by rw [List.length_map, List.length_map]; omega)
    have := seqLast (s := s ++ [.lst (ws.map D.int)]) (n := s.length + 1) (by simp) ((ws.map fun w => st * w).map D.int)
    rw [List.append_assoc] at this
    exact this
end Lk57
set_option autoImplicit false
set_option linter.all false
set_option maxRecDepth 10000
set_option maxHeartbeats 2000000
/-! S57t: things to be judged, lemmas. -/
namespace MP
theorem th_pair {s : Sto} {xs : List D} {m : D} (h : ∀ x ∈ xs, Ty1 s x) (hl : xs.length ≤ 1000) (hm : Ty1 s m) (hm2 : ∀ ys, m = .tup ys → ys.length ≤ 1000 ∧ ∀ y ∈ ys, Ty1 s y) : ThOk s (.tup [.tup xs, m]) := by
  refine ⟨trivial, fun zs e x hx => ?_⟩
  cases e
  rcases List.mem_cons.mp hx with rfl | hx
  · exact ⟨trivial, fun ys e => by cases e; exact ⟨hl, h⟩⟩
  · rw [List.mem_singleton.mp hx]
    exact ⟨hm, hm2⟩
theorem ty_ints {s : Sto} (ws : List Int) : ∀ x ∈ ws.map D.int, Ty1 s x := fun x hx => by
  obtain ⟨i, _, rfl⟩ := List.mem_map.mp hx
  exact trivial
end MP
set_option autoImplicit false
set_option linter.all false
set_option maxRecDepth 10000
set_option maxHeartbeats 2000000
/-! S57u: things to be judged. -/
namespace Lk57
open MP
theorem thing_a (k : Nat) (many kind pl st : Int) (mkt : D) (q : Nat) (ws : List Int) (s : Sto) (hq : s[q]? = some (.lst (ws.map D.int))) (hl : ws.length ≤ 100) (hpl : 0 ≤ pl) (hpl2 : pl < ws.length) (h0 : 0 ≤ st) (h5 : st < 6) (k0 : 0 ≤ kind) (k8 : kind < 8) :
    ∃ d, MP.call P (k + 2) 17 [.ref q, .int many, .int kind, .int pl, .int st, mkt] s = .ok d s ∧ ThOk s d := by
  rw [c0 (k + 1) 17 _ _ f17 rfl]
  have hsq : seqOf s (.ref q) = some (ws.map D.int) := by simp [seqOf, hq]
  obtain ⟨xs, h, h1, h2⟩ := spoiled k many kind pl st q ws s hq hl hpl hpl2 h0 h5 k0 k8
  refine ⟨.tup [.tup xs, .int many], ?_, th_pair (fun x hx => (h1 x hx).2 s) h2 trivial (fun ys e => nomatch e)⟩
  have hb : exB (genv P (MP.call P (k + 1))) f17.body [some (.ref q), some (.int many), some (.int kind), some (.int pl), some (.int st), some mkt, none] s = .ret (.tup [.tup xs, .int many]) s := by
    refine (exB_nx (env' := [some (.ref q), some (.int many), some (.int kind), some (.int pl), some (.int st), some mkt, some (.tup (ws.map D.int))]) (s' := s) (by simp [bfn, hsq])).trans ?_
    exact exB_ret (by simp [k8, h])
  exact (run_ret (f := f17) rfl hb).trans (fin2 _ _ _)
end Lk57
set_option autoImplicit false
set_option linter.all false
set_option maxRecDepth 10000
set_option maxHeartbeats 2000000
/-! S57v: things to be judged, kinds 8, 9, 10, 11, 15. -/
namespace Lk57
open MP
theorem thing_b (k : Nat) (many kind pl st : Int) (mkt : D) (q : Nat) (ws : List Int) (s : Sto) (hq : s[q]? = some (.lst (ws.map D.int))) (hl : ws.length ≤ 100) (h0 : 0 ≤ st) (h5 : st < 6) (hk : kind = 8 ∨ kind = 9 ∨ kind = 10 ∨ kind = 11 ∨ kind = 15) :
    ∃ d, MP.call P (k + 2) 17 [.ref q, .int many, .int kind, .int pl, .int st, mkt] s = .ok d s ∧ ThOk s d := by
  rw [c0 (k + 1) 17 _ _ f17 rfl]
  have hsq : seqOf s (.ref q) = some (ws.map D.int) := by simp [seqOf, hq]
  have ok : ∀ m : D, exB (genv P (MP.call P (k + 1))) f17.body [some (.ref q), some (.int many), some (.int kind), some (.int pl), some (.int st), some mkt, none] s = .ret (.tup [.tup (ws.map D.int), m]) s → Ty1 s m → (∀ ys, m = .tup ys → ys.length ≤ 1000 ∧ ∀ y ∈ ys, Ty1 s y) →
      ∃ d, runFn (genv P (MP.call P (k + 1))) f17 [.ref q, .int many, .int kind, .int pl, .int st, mkt] s = .ok d s ∧ ThOk s d := fun m hb h1 h2 =>
    ⟨_, (run_ret (f := f17) rfl hb).trans (fin2 _ _ _), th_pair (ty_ints ws) (by rw [List.length_map]; omega) h1 h2⟩
  have ix : ∀ (t : Sto) (a b c d e f : D), indexS t (.lst [a, b, c, d, e, f]) (.int 0) = some a ∧ indexS t (.lst [a, b, c, d, e, f]) (.int 1) = some b ∧ indexS t (.lst [a, b, c, d, e, f]) (.int 2) = some c ∧ indexS t (.lst [a, b, c, d, e, f]) (.int 3) = some d ∧ indexS t (.lst [a, b, c, d, e, f]) (.int 4) = some e ∧ indexS t (.lst [a, b, c, d, e, f]) (.int 5) = some f := fun t a b c d e f => ⟨rfl, rfl, rfl, rfl, rfl, rfl⟩
  have h6 : st = 0 ∨ st = 1 ∨ st = 2 ∨ st = 3 ∨ st = 4 ∨ st = 5 := by omega
  rcases hk with rfl | rfl | rfl | rfl | rfl
  · exact ok (.int st) (by simp [f17, bfn, hsq]) trivial (fun ys e => nomatch e)
  · exact ok (.int (many + st)) (by simp [f17, bfn, hsq]) trivial (fun ys e => nomatch e)
  · have hp : binop s .pow (.int 10) (.int 40) = some (.int (10 ^ 40)) := by simp [binop, powOk]
    have m2 := mulOk_r (a := many) (b := 2) (by decide) (by decide)
    obtain ⟨x0, x1, x2, x3, x4, x5⟩ := ix s (.int (-many)) (.int (-1)) (.int (-2)) (.int 1) (.int (10 ^ 40)) (.int (many * 2))
    simp only [Int.reducePow] at hp x0 x1 x2 x3 x4 x5
    rcases h6 with rfl | rfl | rfl | rfl | rfl | rfl
    · exact ok (.int (-many)) (by simp [f17, bfn, hsq, hp, ev_neg', bin_mul_int, m2, x0]) trivial (fun ys e => nomatch e)
    · exact ok (.int (-1)) (by simp [f17, bfn, hsq, hp, ev_neg', bin_mul_int, m2, x1]) trivial (fun ys e => nomatch e)
    · exact ok (.int (-2)) (by simp [f17, bfn, hsq, hp, ev_neg', bin_mul_int, m2, x2]) trivial (fun ys e => nomatch e)
    · exact ok (.int 1) (by simp [f17, bfn, hsq, hp, ev_neg', bin_mul_int, m2, x3]) trivial (fun ys e => nomatch e)
    · exact ok (.int 10000000000000000000000000000000000000000) (by simp [f17, bfn, hsq, hp, ev_neg', bin_mul_int, m2, x4]) trivial (fun ys e => nomatch e)
    · exact ok (.int (many * 2)) (by simp [f17, bfn, hsq, hp, ev_neg', bin_mul_int, m2, x5]) trivial (fun ys e => nomatch e)
  · obtain ⟨x0, x1, x2, x3, x4, x5⟩ := ix s (.bl true) (.bl false) .non (.str [50]) (.tup []) (.tup [.int 2])
    rcases h6 with rfl | rfl | rfl | rfl | rfl | rfl
    · exact ok (.bl true) (by simp [f17, bfn, hsq, x0]) trivial (fun ys e => nomatch e)
    · exact ok (.bl false) (by simp [f17, bfn, hsq, x1]) trivial (fun ys e => nomatch e)
    · exact ok .non (by simp [f17, bfn, hsq, x2]) trivial (fun ys e => nomatch e)
    · exact ok (.str [50]) (by simp [f17, bfn, hsq, x3]) trivial (fun ys e => nomatch e)
    · exact ok (.tup []) (by simp [f17, bfn, hsq, x4]) trivial (fun ys e => by cases e; exact ⟨by simp, fun y h => by cases h⟩)
    · exact ok (.tup [.int 2]) (by simp [f17, bfn, hsq, x5]) trivial (fun ys e => by cases e; exact ⟨by simp, fun y h => by rw [List.mem_singleton.mp h]; trivial⟩)
  · exact ok (.int many) (by simp [f17, bfn, hsq]) trivial (fun ys e => nomatch e)
end Lk57
set_option autoImplicit false
set_option linter.all false
set_option maxRecDepth 10000
set_option maxHeartbeats 2000000
/-! S57w: things to be judged, kinds 12, 14. -/
namespace MP
theorem th_any {s : Sto} {d : D} (h : Ty1 s d) (h2 : ∀ xs, d = .tup xs → ∀ x ∈ xs, Ty1 s x ∧ ∀ ys, x = .tup ys → ys.length ≤ 1000 ∧ ∀ y ∈ ys, Ty1 s y) : ThOk s d := ⟨h, h2⟩
theorem ty_ws {s : Sto} (ws : List Int) (hl : ws.length ≤ 100) : Ty1 s (.tup (ws.map D.int)) ∧ ∀ ys, D.tup (ws.map D.int) = .tup ys → ys.length ≤ 1000 ∧ ∀ y ∈ ys, Ty1 s y := ⟨trivial, fun ys e => by cases e; exact ⟨by rw [List.length_map]; omega, ty_ints ws⟩⟩
theorem ty_i {s : Sto} (i : Int) : Ty1 s (.int i) ∧ ∀ ys, D.int i = .tup ys → ys.length ≤ 1000 ∧ ∀ y ∈ ys, Ty1 s y := ⟨trivial, fun ys e => nomatch e⟩
end MP
set_option autoImplicit false
set_option linter.all false
set_option maxRecDepth 10000
set_option maxHeartbeats 2000000
/-! S57x: things to be judged, kinds 12, 14. -/
namespace Lk57
open MP
theorem thing_c (k : Nat) (many kind pl st gd : Int) (tr : List (List Int × List Int)) (q : Nat) (ws : List Int) (s : Sto) (hq : s[q]? = some (.lst (ws.map D.int))) (hl : ws.length ≤ 100) (h0 : 0 ≤ st) (h5 : st < 6) (hk : kind = 12 ∨ kind = 14) :
    ∃ d, MP.call P (k + 2) 17 [.ref q, .int many, .int kind, .int pl, .int st, mkD gd tr] s = .ok d s ∧ ThOk s d := by
  rw [c0 (k + 1) 17 _ _ f17 rfl]
  have hsq : seqOf s (.ref q) = some (ws.map D.int) := by simp [seqOf, hq]
  have hst : seqOf s (.tup (ws.map D.int)) = some (ws.map D.int) := rfl
  have ok : ∀ d : D, exB (genv P (MP.call P (k + 1))) f17.body [some (.ref q), some (.int many), some (.int kind), some (.int pl), some (.int st), some (mkD gd tr), none] s = .ret d s → ThOk s d →
      ∃ d, runFn (genv P (MP.call P (k + 1))) f17 [.ref q, .int many, .int kind, .int pl, .int st, mkD gd tr] s = .ok d s ∧ ThOk s d := fun d hb h1 =>
    ⟨_, (run_ret (f := f17) rfl hb).trans (fin2 _ _ _), h1⟩
  have ix : ∀ (t : Sto) (a b c d e f : D), indexS t (.lst [a, b, c, d, e, f]) (.int 0) = some a ∧ indexS t (.lst [a, b, c, d, e, f]) (.int 1) = some b ∧ indexS t (.lst [a, b, c, d, e, f]) (.int 2) = some c ∧ indexS t (.lst [a, b, c, d, e, f]) (.int 3) = some d ∧ indexS t (.lst [a, b, c, d, e, f]) (.int 4) = some e ∧ indexS t (.lst [a, b, c, d, e, f]) (.int 5) = some f := fun t a b c d e f => ⟨rfl, rfl, rfl, rfl, rfl, rfl⟩
  have h6 : st = 0 ∨ st = 1 ∨ st = 2 ∨ st = 3 ∨ st = 4 ∨ st = 5 := by omega
  have tw := ty_ws (s := s) ws hl
  have ti := ty_i (s := s) many
  rcases hk with rfl | rfl
  · obtain ⟨x0, x1, x2, x3, x4, x5⟩ := ix s (.lst [.tup (ws.map D.int), .int many]) (.tup [.lst (ws.map D.int), .int many]) (.tup [.tup (ws.map D.int)]) (.tup [.tup (ws.map D.int), .int many, .int many]) (.tup [.int many, .tup (ws.map D.int)]) (.tup (ws.map D.int))
    rcases h6 with rfl | rfl | rfl | rfl | rfl | rfl
    · exact ok (.lst [.tup (ws.map D.int), .int many]) (by simp [f17, bfn, hsq, hst, lfn, x0]) ⟨trivial, fun _ e => nomatch e⟩
    · exact ok (.tup [.lst (ws.map D.int), .int many]) (by simp [f17, bfn, hsq, hst, lfn, x1]) ⟨trivial, fun xs e x hx => by
        cases e
        rcases List.mem_cons.mp hx with rfl | hx
        · exact ⟨trivial, fun _ e => nomatch e⟩
        · rw [List.mem_singleton.mp hx]; exact ti⟩
    · exact ok (.tup [.tup (ws.map D.int)]) (by simp [f17, bfn, hsq, hst, lfn, x2]) ⟨trivial, fun xs e x hx => by
        cases e
        rw [List.mem_singleton.mp hx]; exact tw⟩
    · exact ok (.tup [.tup (ws.map D.int), .int many, .int many]) (by simp [f17, bfn, hsq, hst, lfn, x3]) ⟨trivial, fun xs e x hx => by
        cases e
        simp only [List.mem_cons, List.not_mem_nil, or_false] at hx
        rcases hx with rfl | rfl | rfl
        · exact tw
        · exact ti
        · exact ti⟩
    · exact ok (.tup [.int many, .tup (ws.map D.int)]) (by simp [f17, bfn, hsq, hst, lfn, x4]) ⟨trivial, fun xs e x hx => by
        cases e
        simp only [List.mem_cons, List.not_mem_nil, or_false] at hx
        rcases hx with rfl | rfl
        · exact ti
        · exact tw⟩
    · exact ok (.tup (ws.map D.int)) (by simp [f17, bfn, hsq, hst, lfn, x5]) ⟨trivial, fun xs e x hx => by
        cases e
        obtain ⟨i, _, rfl⟩ := List.mem_map.mp hx
        exact ty_i i⟩
  · obtain ⟨x0, x1, x2, x3, x4, x5⟩ := ix s (.tup [.tup [], .int many]) (.tup [.tup [.tup (ws.map D.int)], .int many]) (.tup [.non, .int many]) (.tup [mkD gd tr, .int many]) (.tup [.str [], .int many]) (.tup [.lst [], .int 0])
    have two : ∀ (a b : D), (Ty1 s a ∧ ∀ ys, a = .tup ys → ys.length ≤ 1000 ∧ ∀ y ∈ ys, Ty1 s y) → (Ty1 s b ∧ ∀ ys, b = .tup ys → ys.length ≤ 1000 ∧ ∀ y ∈ ys, Ty1 s y) → ThOk s (.tup [a, b]) := fun a b ha hb => ⟨trivial, fun xs e x hx => by
      cases e
      simp only [List.mem_cons, List.not_mem_nil, or_false] at hx
      rcases hx with rfl | rfl
      · exact ha
      · exact hb⟩
    rcases h6 with rfl | rfl | rfl | rfl | rfl | rfl
    · exact ok (.tup [.tup [], .int many]) (by simp [f17, bfn, hsq, x0]) (two _ _ ⟨trivial, fun ys e => by cases e; exact ⟨by simp, fun y h => by cases h⟩⟩ ti)
    · exact ok (.tup [.tup [.tup (ws.map D.int)], .int many]) (by simp [f17, bfn, hsq, x1]) (two _ _ ⟨trivial, fun ys e => by cases e; exact ⟨by simp, fun y h => by rw [List.mem_singleton.mp h]; trivial⟩⟩ ti)
    · exact ok (.tup [.non, .int many]) (by simp [f17, bfn, hsq, x2]) (two _ _ ⟨trivial, fun _ e => nomatch e⟩ ti)
    · exact ok (.tup [mkD gd tr, .int many]) (by simp [f17, bfn, hsq, x3]) (two _ _ ⟨trivial, fun _ e => nomatch e⟩ ti)
    · exact ok (.tup [.str [], .int many]) (by simp [f17, bfn, hsq, x4]) (two _ _ ⟨trivial, fun _ e => nomatch e⟩ ti)
    · exact ok (.tup [.lst [], .int 0]) (by simp [f17, bfn, hsq, x5]) (two _ _ ⟨trivial, fun _ e => nomatch e⟩ (ty_i 0))
end Lk57
set_option autoImplicit false
set_option linter.all false
set_option maxRecDepth 10000
set_option maxHeartbeats 2000000
/-! S57y: things to be judged, kind 13. -/
namespace Lk57
open MP
theorem thing_d (k : Nat) (many pl st gd : Int) (tr : List (List Int × List Int)) (q : Nat) (ws : List Int) (s : Sto) (hq : s[q]? = some (.lst (ws.map D.int))) (h0 : 0 ≤ st) (h5 : st < 6) :
    ∃ d, MP.call P (k + 2) 17 [.ref q, .int many, .int 13, .int pl, .int st, mkD gd tr] s = .ok d (s ++ [.dct []]) ∧ ThOk (s ++ [.dct []]) d := by
  rw [c0 (k + 1) 17 _ _ f17 rfl]
  have hsq : seqOf s (.ref q) = some (ws.map D.int) := by simp [seqOf, hq]
  have ok : ∀ d : D, exB (genv P (MP.call P (k + 1))) f17.body [some (.ref q), some (.int many), some (.int 13), some (.int pl), some (.int st), some (mkD gd tr), none] s = .ret d (s ++ [.dct []]) → ThOk (s ++ [.dct []]) d →
      ∃ d, runFn (genv P (MP.call P (k + 1))) f17 [.ref q, .int many, .int 13, .int pl, .int st, mkD gd tr] s = .ok d (s ++ [.dct []]) ∧ ThOk (s ++ [.dct []]) d := fun d hb h1 =>
    ⟨_, (run_ret (f := f17) rfl hb).trans (fin2 _ _ _), h1⟩
  have ix : ∀ (t : Sto) (a b c d e f : D), indexS t (.lst [a, b, c, d, e, f]) (.int 0) = some a ∧ indexS t (.lst [a, b, c, d, e, f]) (.int 1) = some b ∧ indexS t (.lst [a, b, c, d, e, f]) (.int 2) = some c ∧ indexS t (.lst [a, b, c, d, e, f]) (.int 3) = some d ∧ indexS t (.lst [a, b, c, d, e, f]) (.int 4) = some e ∧ indexS t (.lst [a, b, c, d, e, f]) (.int 5) = some f := fun t a b c d e f => ⟨rfl, rfl, rfl, rfl, rfl, rfl⟩
  have h6 : st = 0 ∨ st = 1 ∨ st = 2 ∨ st = 3 ∨ st = 4 ∨ st = 5 := by omega
  obtain ⟨x0, x1, x2, x3, x4, x5⟩ := ix (s ++ [.dct []]) .non (.tup []) (.int 7) (.str [97, 98]) (mkD gd tr) (.ref s.length)
  rcases h6 with rfl | rfl | rfl | rfl | rfl | rfl
  · exact ok .non (by simp [f17, bfn, hsq, x0]) ⟨trivial, fun _ e => nomatch e⟩
  · exact ok (.tup []) (by simp [f17, bfn, hsq, x1]) ⟨trivial, fun xs e x hx => by cases e; cases hx⟩
  · exact ok (.int 7) (by simp [f17, bfn, hsq, x2]) ⟨trivial, fun _ e => nomatch e⟩
  · exact ok (.str [97, 98]) (by simp [f17, bfn, hsq, x3]) ⟨trivial, fun _ e => nomatch e⟩
  · exact ok (mkD gd tr) (by simp [f17, bfn, hsq, x4]) ⟨trivial, fun _ e => nomatch e⟩
  · exact ok (.ref s.length) (by simp [f17, bfn, hsq, x5]) ⟨⟨[], by simp⟩, fun _ e => nomatch e⟩
end Lk57
set_option autoImplicit false
set_option linter.all false
set_option maxRecDepth 10000
set_option maxHeartbeats 2000000
/-! S57z: a thing to be judged, of any kind. -/
namespace Lk57
open MP
theorem thing (k : Nat) (many kind pl st gd : Int) (tr : List (List Int × List Int)) (q : Nat) (ws : List Int) (s : Sto) (hq : s[q]? = some (.lst (ws.map D.int))) (hl : ws.length ≤ 100) (hpl : 0 ≤ pl) (hpl2 : pl < ws.length) (h0 : 0 ≤ st) (h5 : st < 6) (k0 : 0 ≤ kind) (k16 : kind < 16) :
    ∃ d cs, MP.call P (k + 2) 17 [.ref q, .int many, .int kind, .int pl, .int st, mkD gd tr] s = .ok d (s ++ cs) ∧ ThOk (s ++ cs) d := by
  have hk : kind < 8 ∨ (kind = 8 ∨ kind = 9 ∨ kind = 10 ∨ kind = 11 ∨ kind = 15) ∨ (kind = 12 ∨ kind = 14) ∨ kind = 13 := by omega
  rcases hk with hk | hk | hk | rfl
  · obtain ⟨d, h1, h2⟩ := thing_a k many kind pl st (mkD gd tr) q ws s hq hl hpl hpl2 h0 h5 k0 hk
    exact ⟨d, [], by rw [List.append_nil]; exact h1, by rw [List.append_nil]; exact h2⟩
  · obtain ⟨d, h1, h2⟩ := thing_b k many kind pl st (mkD gd tr) q ws s hq hl h0 h5 hk
    exact ⟨d, [], by rw [List.append_nil]; exact h1, by rw [List.append_nil]; exact h2⟩
  · obtain ⟨d, h1, h2⟩ := thing_c k many kind pl st gd tr q ws s hq hl h0 h5 hk
    exact ⟨d, [], by rw [List.append_nil]; exact h1, by rw [List.append_nil]; exact h2⟩
  · obtain ⟨d, h1, h2⟩ := thing_d k many pl st gd tr q ws s hq h0 h5
    exact ⟨d, _, h1, h2⟩
end Lk57
set_option autoImplicit false
set_option linter.all false
set_option maxRecDepth 10000
set_option maxHeartbeats 2000000
/-! S57za: the law's trades. -/
namespace MP
def cellsOf : List (List Int × List Int) → List Cell
  | [] => []
  | t :: r => .lst (t.1.map D.int) :: .lst (t.2.map D.int) :: cellsOf r
def refsFrom (n : Nat) : Nat → List D
  | 0 => []
  | m + 1 => .lst [.ref n, .ref (n + 1)] :: refsFrom (n + 2) m
/-- a drawn trade of gd goods -/
def TrOk (gd : Nat) (t : List Int × List Int) : Prop := t.1.length = gd ∧ t.2.length = gd ∧ In0 13 t.1 ∧ In0 13 t.2
end MP
namespace Lk57
open MP
theorem trades_loop (k p q : Nat) (ns ws : List Int) (many pl : Int) (step : D → Sto → R (Option D)) (hqp : q ≠ p) (hm : many = 0 ∨ (2 ≤ many ∧ many ≤ 12)) (hg : 0 < ws.length) (hg2 : ws.length ≤ 5) (hpl : 0 ≤ pl) (hpl2 : pl < ws.length) (hw : ∀ w ∈ ws, WB many w)
    (hstep : ∀ d s v s', MP.call P (k + 3) 15 [.ref p, .scr ns, .ref q, .int many, .int pl] s = .ok v s' → step d s = .ok (some v) s') : ∀ (ds : List D) (s : Sto), HasSt p s → s[q]? = some (.lst (ws.map D.int)) →
    ∃ trs s', compLoop step [] ds s = .ok (refsFrom s.length trs.length) (s' ++ cellsOf trs) ∧ Drawn p s s' ∧ trs.length = ds.length ∧ ∀ t ∈ trs, TrOk ws.length t
  | [], s, hp, hq => ⟨[], s, by simp [compLoop, stands, refsFrom, cellsOf], hp.rfl, rfl, fun t h => by cases h⟩
  | d :: ds, s, hp, hq => by
    obtain ⟨l, r, s1, h1, d1, h2, h3, h4, h5⟩ := trade k p q ns ws many pl s hp hq hqp hm hg hg2 hpl hpl2 hw
    have hs := hstep d s _ _ h1
    have hql : q < s.length := (List.getElem?_eq_some_iff.mp hq).1
    have hq1 : (s1 ++ [Cell.lst (l.map D.int), .lst (r.map D.int)])[q]? = some (.lst (ws.map D.int)) := by
      rw [List.getElem?_append_left (by rw [d1.len]; exact hql), d1.other hqp]
      exact hq
    obtain ⟨trs, t2, h6, d2, h7, h8⟩ := trades_loop k p q ns ws many pl step hqp hm hg hg2 hpl hpl2 hw hstep ds (s1 ++ [.lst (l.map D.int), .lst (r.map D.int)]) (hp.drawn d1).app hq1
    obtain ⟨s2, rfl, d3⟩ := d2.unapp (hp.drawn d1).lt
    have hlen : (s1 ++ [Cell.lst (l.map D.int), .lst (r.map D.int)]).length = s.length + 2 := by simp [d1.len]
    rw [hlen] at h6
    refine ⟨(l, r) :: trs, s2, ?_, d1.trans d3, by simp [h7], fun t ht => ?_⟩
    · simp only [compLoop, stands, List.all_nil, if_true, hs, h6, consO, List.length_cons, refsFrom, cellsOf, List.append_assoc, List.cons_append, List.nil_append]
    · rcases List.mem_cons.mp ht with rfl | ht
      · exact ⟨h2, h3, h4, h5⟩
      · exact h8 t ht
end Lk57
set_option autoImplicit false
set_option linter.all false
set_option maxRecDepth 10000
set_option maxHeartbeats 4000000
/-! S57zb: the law's last part. -/
namespace MP
theorem nxE {g : G} {st : S} {r : List S} {env env' : Env} {s s' : Sto} {v : D} (h : exS g st env s = .nx env' s') (h2 : ∃ t, exB g r env' s' = .ret v t) : ∃ t, exB g (st :: r) env s = .ret v t := by
  obtain ⟨t, h2⟩ := h2
  exact ⟨t, (exB_nx h).trans h2⟩
theorem nxR {g : G} {st : S} {r : List S} {env : Env} {s s' : Sto} {v : D} (h : exS g st env s = .ret v s') : ∃ t, exB g (st :: r) env s = .ret v t := ⟨s', exB_ret h⟩
/-- the cell of draws, at the beginning of the store -/
def St (c : Cell) : Prop := ∃ i d t e, c = stC i d t e ∧ 0 ≤ i ∧ 0 ≤ d
theorem St.has {c : Cell} {r : Sto} (h : St c) : HasSt 0 (c :: r) := by
  obtain ⟨i, d, t, e, rfl, h1, h2⟩ := h
  exact ⟨i, d, t, e, rfl, h1, h2⟩
theorem dr0 {c : Cell} {r s' : Sto} (h : Drawn 0 (c :: r) s') : ∃ c', St c' ∧ s' = c' :: r := by
  obtain ⟨i, d, t, e, h1, h2, rfl⟩ := h
  exact ⟨_, ⟨i, d, t, e, rfl, h1, h2⟩, rfl⟩
theorem rnd_congr {gd : Int} {f f' l l' : Int → List Int → Bool} (h : ∀ m ws, (ws.length : Int) = gd → f m ws = f' m ws ∧ l m ws = l' m ws) (d : D) : rnd gd f l d = rnd gd f' l' d := by
  unfold rnd
  split
  · rename_i xs m
    by_cases e : (xs.length : Int) = gd
    · rcases isInts_all xs with ⟨h1, _⟩ | ⟨ws, h1, h2, _⟩
      · simp [h1]
      · have := h m ws (by rw [h2, List.length_map] at e; exact e)
        simp [h1, this]
    · simp [e]
  · rfl
def cellD (s : Sto) : D → D
  | .lst [a, b] => .tup [.tup ((seqOf s a).getD []), .tup ((seqOf s b).getD [])]
  | _ => .non
theorem cells_at : ∀ (trs : List (List Int × List Int)) (pre : Sto) (j : Nat) (t : List Int × List Int), trs[j]? = some t → (pre ++ cellsOf trs)[pre.length + 2 * j]? = some (.lst (t.1.map D.int)) ∧ (pre ++ cellsOf trs)[pre.length + 2 * j + 1]? = some (.lst (t.2.map D.int))
  | [], _, _, _, h => by simp at h
  | t :: r, pre, 0, u, h => by
    simp at h
    subst h
    constructor
    · simp [cellsOf]
    · rw [List.getElem?_append_right (by omega)]
      simp [cellsOf, show pre.length + 2 * 0 + 1 - pre.length = 1 by omega]
  | t :: r, pre, j + 1, u, h => by
    have := cells_at r (pre ++ [.lst (t.1.map D.int), .lst (t.2.map D.int)]) j u (by simpa using h)
    rw [show (pre ++ [Cell.lst (t.1.map D.int), .lst (t.2.map D.int)]).length + 2 * j = pre.length + 2 * (j + 1) by simp; omega] at this
    simpa [cellsOf, List.append_assoc] using this
theorem refs_at : ∀ (n m j : Nat), j < n → (refsFrom m n)[j]? = some (.lst [.ref (m + 2 * j), .ref (m + 2 * j + 1)])
  | 0, _, _, h => by omega
  | n + 1, m, 0, _ => by simp [refsFrom]
  | n + 1, m, j + 1, h => by
    have := refs_at n (m + 2) j (by omega)
    simp only [refsFrom, List.getElem?_cons_succ, this]
    rw [show m + 2 + 2 * j = m + 2 * (j + 1) by omega]
theorem refs_len : ∀ n m : Nat, (refsFrom m n).length = n
  | 0, _ => rfl
  | n + 1, m => by simp [refsFrom, refs_len n]
theorem refs_mem {n m : Nat} {d : D} (h : d ∈ refsFrom m n) : ∃ j, j < n ∧ d = .lst [.ref (m + 2 * j), .ref (m + 2 * j + 1)] := by
  obtain ⟨j, hj⟩ := List.getElem?_of_mem h
  have hl := (List.getElem?_eq_some_iff.mp hj).1
  rw [refs_len] at hl
  rw [refs_at n m j hl] at hj
  cases hj
  exact ⟨j, hl, rfl⟩
theorem refs_map (trs : List (List Int × List Int)) (pre : Sto) (m : Nat) (hm : m = pre.length) : (refsFrom m trs.length).map (cellD (pre ++ cellsOf trs)) = trs.map fun p => D.tup [bagD p.1, bagD p.2] := by
  subst hm
  apply List.ext_getElem?
  intro j
  rw [List.getElem?_map, List.getElem?_map]
  by_cases h : j < trs.length
  · rw [refs_at _ _ _ h]
    obtain ⟨h1, h2⟩ := cells_at trs pre j _ (List.getElem?_eq_getElem h)
    rw [List.getElem?_eq_getElem h]
    simp [cellD, seqOf, h1, h2, bagD]
  · rw [List.getElem?_eq_none (by rw [refs_len]; omega), List.getElem?_eq_none (by omega)]
    rfl
theorem cells_set : ∀ (trs : List (List Int × List Int)) (pre : Sto) (j : Nat) (t : List Int × List Int) (xs : List Int), trs[j]? = some t →
    (pre ++ cellsOf trs).set (pre.length + 2 * j) (.lst (xs.map D.int)) = pre ++ cellsOf (trs.set j (xs, t.2)) ∧ (pre ++ cellsOf trs).set (pre.length + 2 * j + 1) (.lst (xs.map D.int)) = pre ++ cellsOf (trs.set j (t.1, xs))
  | [], _, _, _, _, h => by simp at h
  | t :: r, pre, 0, u, xs, h => by
    simp at h
    subst h
    constructor
    · rw [List.set_append_right _ _ (by omega)]
      simp [cellsOf]
    · rw [List.set_append_right _ _ (by omega)]
      simp [cellsOf, show pre.length + 2 * 0 + 1 - pre.length = 1 by omega]
  | t :: r, pre, j + 1, u, xs, h => by
    have := cells_set r (pre ++ [.lst (t.1.map D.int), .lst (t.2.map D.int)]) j u xs (by simpa using h)
    rw [show (pre ++ [Cell.lst (t.1.map D.int), .lst (t.2.map D.int)]).length + 2 * j = pre.length + 2 * (j + 1) by simp; omega] at this
    simpa [cellsOf, List.append_assoc] using this
end MP
namespace Lk57
open MP
theorem draw0 (k : Nat) (c : Cell) (r : Sto) (ns : List Int) (L : Int) (h : St c) (hL : 0 < L) (hL2 : L < 1073741824) :
    ∃ v c', MP.call P (k + 2) 10 [.ref 0, .scr ns, .int L] (c :: r) = .ok (.int v) (c' :: r) ∧ St c' ∧ 0 ≤ v ∧ v < L := by
  obtain ⟨v, s', h1, h2, h3, h4⟩ := draw k (c :: r) 0 ns L h.has hL hL2
  obtain ⟨c', h5, rfl⟩ := dr0 h2
  exact ⟨v, c', h1, h5, h3, h4⟩
abbrev inBody : List S := [.asg (.name 23) (.call 7 [.var 17, .var 21, .var 22, .var 19]), .ife (.or [.not (.isi (.var 23) [.bool]), .cmp .ne (.var 23) (.var 20)]) [.ret (.lit (.bl false))] []]
abbrev outBody : List S := [.asg (.name 20) (.call 18 [.var 19, .var 11, .var 15, .var 16]), .forS (.tup [.name 21, .name 22]) (.seq (.lst false [.tup [.var 15, .var 16], .tup [.var 16, .var 15]])) inBody]
theorem th_loop (gd : Int) (tr : List (List Int × List Int)) (one other : List Int) (s : Sto) (x0 x1 x2 x3 x4 x5 x6 x7 x8 x9 x10 x12 x13 x14 x18 x24 x25 : Option D)
    (hl1 : (one.length : Int) = gd) (hl2 : (other.length : Int) = gd) (h1 : sml one) (h2 : sml other) (htl : tr.length ≤ 1000) (hb : ∀ p ∈ tr, (p.1.length : Int) = gd ∧ (p.2.length : Int) = gd) (hg : gd ≤ 5) (hsm : ∀ p ∈ tr, sml p.1 ∧ sml p.2) (hsub : ∀ p ∈ tr, sml (subI p.1 p.2)) :
    ∀ (ds : List D) (y19 y20 y21 y22 y23 : Option D), (∀ d ∈ ds, ThOk s d) → ∃ z19 z20 z21 z22 z23, forLoop (bodyF (genv P (MP.call P 11)) (.name 19) outBody) [] ds
      [x0, x1, x2, x3, x4, x5, x6, x7, x8, x9, x10, some (trD tr), x12, x13, x14, some (bagD one), some (bagD other), some (mkD gd tr), x18, y19, y20, y21, y22, y23, x24, x25] s
      = .nx [x0, x1, x2, x3, x4, x5, x6, x7, x8, x9, x10, some (trD tr), x12, x13, x14, some (bagD one), some (bagD other), some (mkD gd tr), x18, z19, z20, z21, z22, z23, x24, x25] s
  | [], y19, y20, y21, y22, y23, _ => ⟨y19, y20, y21, y22, y23, for_nil (by rfl)⟩
  | d :: ds, y19, y20, y21, y22, y23, h => by
    have hd := h d List.mem_cons_self
    have q1 := due 8 tr one other d s hd hsm h1 h2
    have r1 := is_round 8 gd tr one other d s hd htl (fun p hp => by have := hb p hp; omega) hsub h1 h2
    have r2 := is_round 8 gd tr other one d s hd htl (fun p hp => by have := hb p hp; omega) hsub h2 h1
    obtain ⟨b, hbb⟩ : ∃ b, b = rnd one.length (fun many ws => tr.all fun p => mult (dotI ws p.2 - dotI ws p.1) many) (fun many ws => !mult (dotI ws other - dotI ws one) many) d := ⟨_, rfl⟩
    have rows : ∀ (m : Int) (ws : List Int), (ws.length : Int) = gd → (tr.all fun p => mult (dotI ws (subI p.1 p.2)) m) = (tr.all fun p => mult (dotI ws p.2 - dotI ws p.1) m) := fun m ws hw => by
      rw [Bool.eq_iff_iff, List.all_eq_true, List.all_eq_true]
      constructor
      · intro z p hp
        have hh := hb p hp
        have := z p hp
        rwa [dot_sub ws p.1 p.2 (by omega) (by omega)] at this
      · intro z p hp
        have hh := hb p hp
        rw [dot_sub ws p.1 p.2 (by omega) (by omega)]
        exact z p hp
    have e1 : rnd gd (fun many ws => tr.all fun p => mult (dotI ws (subI p.1 p.2)) many) (fun many ws => !mult (dotI ws one - dotI ws other) many) d = b := by
      rw [hbb, hl1]
      refine rnd_congr (fun m ws hw => ⟨rows m ws hw, ?_⟩) d
      rw [← mult_neg, Int.neg_sub]
    have e2 : rnd gd (fun many ws => tr.all fun p => mult (dotI ws (subI p.1 p.2)) many) (fun many ws => !mult (dotI ws other - dotI ws one) many) d = b := by
      rw [hbb, hl1]
      exact rnd_congr (fun m ws hw => ⟨rows m ws hw, rfl⟩) d
    rw [e1] at r1
    rw [e2] at r2
    rw [← hbb] at q1
    have tb : ∀ b : Bool, tyIs (genv P (MP.call P 11)) s (.bl b) .bool = some true := fun b => rfl
    obtain ⟨z19, z20, z21, z22, z23, ih⟩ := th_loop gd tr one other s x0 x1 x2 x3 x4 x5 x6 x7 x8 x9 x10 x12 x13 x14 x18 x24 x25 hl1 hl2 h1 h2 htl hb hg hsm hsub ds (some d) (some (.bl b)) (some (bagD other)) (some (bagD one)) (some (.bl b)) fun q hq => h q (List.mem_cons_of_mem _ hq)
    have hit : ∀ env, getE env 15 = some (bagD one) → getE env 16 = some (bagD other) → evI (genv P (MP.call P 11)) (.seq (.lst false [.tup [.var 15, .var 16], .tup [.var 16, .var 15]])) env s = .ok ([.tup [bagD one, bagD other], .tup [bagD other, bagD one]], []) s := fun env g1 g2 => evI_seq (d := .lst [.tup [bagD one, bagD other], .tup [bagD other, bagD one]]) (by simp [g1, g2]) rfl
    refine ⟨z19, z20, z21, z22, z23, (for_nx (by rfl) (env' := [x0, x1, x2, x3, x4, x5, x6, x7, x8, x9, x10, some (trD tr), x12, x13, x14, some (bagD one), some (bagD other), some (mkD gd tr), x18, some d, some (.bl b), some (bagD other), some (bagD one), some (.bl b), x24, x25]) (s' := s) ?_).trans ih⟩
    unfold bodyF
    simp only [asg_name, setE_z, setE_s, opt2_some]
    refine (exB_nx (env' := [x0, x1, x2, x3, x4, x5, x6, x7, x8, x9, x10, some (trD tr), x12, x13, x14, some (bagD one), some (bagD other), some (mkD gd tr), x18, some d, some (.bl b), y21, y22, y23, x24, x25]) (s' := s) (by simp [q1])).trans ?_
    have hf := ex_for (t := .tup [.name 21, .name 22]) (body := inBody) (hit [x0, x1, x2, x3, x4, x5, x6, x7, x8, x9, x10, some (trD tr), x12, x13, x14, some (bagD one), some (bagD other), some (mkD gd tr), x18, some d, some (.bl b), y21, y22, y23, x24, x25] rfl rfl)
    refine (exB_nx (hf.trans ?_)).trans (ex_nil _ _ _)
    rw [for_nx (by rfl) (env' := [x0, x1, x2, x3, x4, x5, x6, x7, x8, x9, x10, some (trD tr), x12, x13, x14, some (bagD one), some (bagD other), some (mkD gd tr), x18, some d, some (.bl b), some (bagD one), some (bagD other), some (.bl b), x24, x25]) (s' := s) (by simp [bodyF, r1, tb])]
    rw [for_nx (by rfl) (env' := [x0, x1, x2, x3, x4, x5, x6, x7, x8, x9, x10, some (trD tr), x12, x13, x14, some (bagD one), some (bagD other), some (mkD gd tr), x18, some d, some (.bl b), some (bagD other), some (bagD one), some (.bl b), x24, x25]) (s' := s) (by simp [bodyF, r2, tb])]
    exact for_nil (by rfl)
end Lk57
set_option autoImplicit false
set_option linter.all false
set_option maxRecDepth 10000
set_option maxHeartbeats 4000000
/-! S57zc: the law. -/
namespace Lk57
open MP
theorem sub_sml : ∀ a b : List Int, In0 13 a → In0 13 b → sml (subI a b)
  | [], _, _, _ => fun x h => by simp [subI] at h
  | _ :: _, [], _, _ => fun x h => by simp [subI] at h
  | x :: a, y :: b, h1, h2 => fun z hz => by
    have e : subI (x :: a) (y :: b) = (y - x) :: subI a b := by simp [subI]
    rw [e] at hz
    rcases List.mem_cons.mp hz with rfl | hz
    · have := h1 x List.mem_cons_self
      have := h2 y List.mem_cons_self
      omega
    · exact sub_sml a b (fun r hr => h1 r (List.mem_cons_of_mem _ hr)) (fun r hr => h2 r (List.mem_cons_of_mem _ hr)) z hz
/-- behind the two bags -/
theorem tail2 (nn : List Int) (c : Cell) (kind step gd spot near broken many place : Int) (ws one other : List Int) (trs : List (List Int × List Int)) (x12 x13 x14 : Option D)
    (hk0 : 0 ≤ kind) (hk : kind < 16) (hs0 : 0 ≤ step) (hs : step < 6) (hg0 : 1 ≤ gd) (hg : gd ≤ 5) (hp0 : 0 ≤ spot) (hp : spot < gd) (hwl : (ws.length : Int) = gd) (hn : trs.length ≤ 4) (ht : ∀ t ∈ trs, TrOk ws.length t)
    (h1 : (one.length : Int) = gd) (h2 : (other.length : Int) = gd) (h3 : In0 13 one) (h4 : In0 13 other) :
    ∃ t, exB (genv P (MP.call P 11)) (f19.body.drop 15) [some (.scr nn), some (.ref 0), some (.int kind), some (.int step), some (.int gd), some (.int spot), some (.int near), some (.int broken), some (.int many), some (.int place), some (.ref 1), some (.lst (refsFrom 2 trs.length)), x12, x13, x14, some (.lst (one.map D.int)), some (.lst (other.map D.int)), none, none, none, none, none, none, none, none, none] (c :: .lst (ws.map D.int) :: cellsOf trs) = .ret (.bl true) t := by
  have hmap := refs_map trs [c, .lst (ws.map D.int)] 2 rfl
  obtain ⟨s, hs'⟩ : ∃ s, s = c :: .lst (ws.map D.int) :: cellsOf trs := ⟨_, rfl⟩
  rw [show ([c, Cell.lst (ws.map D.int)] ++ cellsOf trs) = s from hs'.symm] at hmap
  rw [← hs']
  have hq : s[1]? = some (.lst (ws.map D.int)) := by rw [hs']; rfl
  have hcomp : ∀ env, getE env 11 = some (.lst (refsFrom 2 trs.length)) → env.length = 26 → evE (genv P (MP.call P 11)) (.comp false [12] (.tup [.bi .toTup [.idx (.var 12) (.lit (.int 0))], .bi .toTup [.idx (.var 12) (.lit (.int 1))]]) (.name 12) (.seq (.var 11)) []) env s = .ok (.lst (trs.map fun p => D.tup [bagD p.1, bagD p.2])) s := by
    intro env he hl
    rw [← hmap]
    refine (ev_comp_map (cellD s) (evI_seq (d := .lst (refsFrom 2 trs.length)) (by simp [he]) rfl) (by rfl) (by rw [refs_len]; show _ ≤ 16777216; omega) fun d hd => ?_).trans (newL_f _ _)
    obtain ⟨j, hj, rfl⟩ := refs_mem hd
    obtain ⟨c1, c2⟩ := cells_at trs [c, .lst (ws.map D.int)] j _ (List.getElem?_eq_getElem hj)
    rw [show ([c, Cell.lst (ws.map D.int)] ++ cellsOf trs) = s from hs'.symm, show [c, Cell.lst (ws.map D.int)].length = 2 from rfl] at c1 c2
    have gs : ∀ (env : Env) (v : D), env.length = 26 → getE (setE (setE env 12 none) 12 (some v)) 12 = some v := fun env v h => by
      have : ∀ (n : Nat) (env : Env), n < env.length → getE (setE (setE env n none) n (some v)) n = some v := fun n => by
        induction n with
        | zero => intro env h; cases env with | nil => simp at h | cons a r => rfl
        | succ n ih => intro env h; cases env with | nil => simp at h | cons a r => simp at h; exact ih r h
      exact this 12 env (by omega)
    refine ⟨_, by simp only [wipe_cons, wipe_nil, asg_name]; rfl, ?_⟩
    have i0 : ∀ a b : D, indexS s (.lst [a, b]) (.int 0) = some a := fun a b => rfl
    have i1 : ∀ a b : D, indexS s (.lst [a, b]) (.int 1) = some b := fun a b => rfl
    simp [gs env _ hl, i0, i1, bfn, seqOf, c1, c2, cellD]
  show ∃ t, exB (genv P (MP.call P 11)) [_, _, _, _, _, _, _] _ _ = _
  refine nxE (env' := [some (.scr nn), some (.ref 0), some (.int kind), some (.int step), some (.int gd), some (.int spot), some (.int near), some (.int broken), some (.int many), some (.int place), some (.ref 1), some (trD trs), x12, x13, x14, some (.lst (one.map D.int)), some (.lst (other.map D.int)), none, none, none, none, none, none, none, none, none]) (s' := s) ?_ ?_
  · rw [ex_asg, ev_bi, evs_cons, hcomp _ rfl rfl]
    simp [bfn, seqOf, trD]
  refine nxE (env' := [some (.scr nn), some (.ref 0), some (.int kind), some (.int step), some (.int gd), some (.int spot), some (.int near), some (.int broken), some (.int many), some (.int place), some (.ref 1), some (trD trs), x12, x13, x14, some (bagD one), some (.lst (other.map D.int)), none, none, none, none, none, none, none, none, none]) (s' := s) (by simp [bfn, seqOf, bagD]) ?_
  refine nxE (env' := [some (.scr nn), some (.ref 0), some (.int kind), some (.int step), some (.int gd), some (.int spot), some (.int near), some (.int broken), some (.int many), some (.int place), some (.ref 1), some (trD trs), x12, x13, x14, some (bagD one), some (bagD other), none, none, none, none, none, none, none, none, none]) (s' := s) (by simp [bfn, seqOf, bagD]) ?_
  have hm := market 7 gd trs s hg0 hg (by omega) (fun p hp => by
    obtain ⟨a, b, d, e⟩ := ht p hp
    exact ⟨⟨by omega, fun r hr => (d r hr).1⟩, by omega, fun r hr => (e r hr).1⟩)
  refine nxE (env' := [some (.scr nn), some (.ref 0), some (.int kind), some (.int step), some (.int gd), some (.int spot), some (.int near), some (.int broken), some (.int many), some (.int place), some (.ref 1), some (trD trs), x12, x13, x14, some (bagD one), some (bagD other), some (mkD gd trs), none, none, none, none, none, none, none, none]) (s' := s) (by simp [hm]) ?_
  obtain ⟨d, cs, ht1, ht2⟩ := thing 9 many kind spot step gd trs 1 ws s hq (by omega) hp0 (by omega) hs0 hs hk0 hk
  have hbt : bfn s .toTup [.ref 1] = some (bagD ws) := by simp [bfn, seqOf, hq, bagD]
  refine nxE (env' := [some (.scr nn), some (.ref 0), some (.int kind), some (.int step), some (.int gd), some (.int spot), some (.int near), some (.int broken), some (.int many), some (.int place), some (.ref 1), some (trD trs), x12, x13, x14, some (bagD one), some (bagD other), some (mkD gd trs), some (.lst [.tup [bagD ws, .int many], d]), none, none, none, none, none, none, none]) (s' := s ++ cs) (by simp [hbt, ht1]) ?_
  have tw : ThOk (s ++ cs) (.tup [bagD ws, .int many]) := th_pair (ty_ints ws) (by rw [List.length_map]; omega) trivial (fun ys e => nomatch e)
  obtain ⟨z19, z20, z21, z22, z23, hlp⟩ := th_loop gd trs one other (s ++ cs) (some (.scr nn)) (some (.ref 0)) (some (.int kind)) (some (.int step)) (some (.int gd)) (some (.int spot)) (some (.int near)) (some (.int broken)) (some (.int many)) (some (.int place)) (some (.ref 1)) x12 x13 x14 (some (.lst [.tup [bagD ws, .int many], d])) none none h1 h2 (h3.sml (by decide)) (h4.sml (by decide)) (by omega)
    (fun p hp => by obtain ⟨a, b, _, _⟩ := ht p hp; exact ⟨by omega, by omega⟩) hg (fun p hp => by obtain ⟨_, _, a, b⟩ := ht p hp; exact ⟨a.sml (by decide), b.sml (by decide)⟩) (fun p hp => by obtain ⟨_, _, a, b⟩ := ht p hp; exact sub_sml _ _ a b)
    [.tup [bagD ws, .int many], d, .tup [bagD ws, .int many], d] none none none none none (fun x hx => by
      simp only [List.mem_cons, List.not_mem_nil, or_false] at hx
      rcases hx with rfl | rfl | rfl | rfl
      · exact tw
      · exact ht2
      · exact tw
      · exact ht2)
  have hit : evI (genv P (MP.call P 11)) (.seq (.bin .add (.var 18) (.var 18))) [some (.scr nn), some (.ref 0), some (.int kind), some (.int step), some (.int gd), some (.int spot), some (.int near), some (.int broken), some (.int many), some (.int place), some (.ref 1), some (trD trs), x12, x13, x14, some (bagD one), some (bagD other), some (mkD gd trs), some (.lst [.tup [bagD ws, .int many], d]), none, none, none, none, none, none, none] (s ++ cs) = .ok ([.tup [bagD ws, .int many], d, .tup [bagD ws, .int many], d], []) (s ++ cs) := evI_seq (d := .lst [.tup [bagD ws, .int many], d, .tup [bagD ws, .int many], d]) (by simp [binop, lstOf, LINE]) rfl
  refine nxE ((ex_for (t := .name 19) (body := outBody) hit).trans hlp) ?_
  exact nxR (s' := s ++ cs) (by simp)
/-- behind the trades -/
theorem tail1 (nn : List Int) (c : Cell) (hc : St c) (kind step gd spot near broken many place : Int) (ws : List Int) (trs : List (List Int × List Int)) (x12 x13 x14 : Option D)
    (hk0 : 0 ≤ kind) (hk : kind < 16) (hs0 : 0 ≤ step) (hs : step < 6) (hg0 : 1 ≤ gd) (hg : gd ≤ 5) (hp0 : 0 ≤ spot) (hp : spot < gd) (hwl : (ws.length : Int) = gd) (hn : trs.length ≤ 4) (ht : ∀ t ∈ trs, TrOk ws.length t) :
    ∃ t, exB (genv P (MP.call P 11)) (f19.body.drop 12) [some (.scr nn), some (.ref 0), some (.int kind), some (.int step), some (.int gd), some (.int spot), some (.int near), some (.int broken), some (.int many), some (.int place), some (.ref 1), some (.lst (refsFrom 2 trs.length)), x12, x13, x14, none, none, none, none, none, none, none, none, none, none, none] (c :: .lst (ws.map D.int) :: cellsOf trs) = .ret (.bl true) t := by
  obtain ⟨one, t1, e1, d1, l1, b1⟩ := draws_comp (g := genv P (MP.call P 11)) (m := false) (i := 25) (elt := .call 10 [.var 1, .var 0, .lit (.int 13)]) (env := [some (.scr nn), some (.ref 0), some (.int kind), some (.int step), some (.int gd), some (.int spot), some (.int near), some (.int broken), some (.int many), some (.int place), some (.ref 1), some (.lst (refsFrom 2 trs.length)), x12, x13, x14, none, none, none, none, none, none, none, none, none, none, none]) (s := c :: .lst (ws.map D.int) :: cellsOf trs) (p := 0) (L := 13) (n := gd) (y := .var 4) (by simp) (by omega) (by omega) hc.has (fun d s hs => by
    obtain ⟨r, s', h1, h2, h3, h4⟩ := draw 9 s 0 nn 13 hs (by omega) (by omega)
    exact ⟨r, s', by simp [h1], h2, h3, h4⟩)
  obtain ⟨c1, hc1, rfl⟩ := dr0 d1
  obtain ⟨other, t2, e2, d2, l2, b2⟩ := draws_comp (g := genv P (MP.call P 11)) (m := false) (i := 25) (elt := .call 10 [.var 1, .var 0, .lit (.int 13)]) (env := [some (.scr nn), some (.ref 0), some (.int kind), some (.int step), some (.int gd), some (.int spot), some (.int near), some (.int broken), some (.int many), some (.int place), some (.ref 1), some (.lst (refsFrom 2 trs.length)), x12, x13, x14, some (.lst (one.map D.int)), none, none, none, none, none, none, none, none, none, none]) (s := c1 :: .lst (ws.map D.int) :: cellsOf trs) (p := 0) (L := 13) (n := gd) (y := .var 4) (by simp) (by omega) (by omega) hc1.has (fun d s hs => by
    obtain ⟨r, s', h1, h2, h3, h4⟩ := draw 9 s 0 nn 13 hs (by omega) (by omega)
    exact ⟨r, s', by simp [h1], h2, h3, h4⟩)
  obtain ⟨c2, hc2, rfl⟩ := dr0 d2
  rw [newL_f] at e1 e2
  show ∃ t, exB (genv P (MP.call P 11)) (_ :: _ :: _ :: f19.body.drop 15) _ _ = _
  refine nxE (by rw [ex_asg, e1]; simp only [R.sr_ok, asg_name, setE_z, setE_s, opt2_some]; rfl) ?_
  refine nxE (by rw [ex_asg, e2]; simp only [R.sr_ok, asg_name, setE_z, setE_s, opt2_some]; rfl) ?_
  have hlen : bfn (c2 :: .lst (ws.map D.int) :: cellsOf trs) .len [.lst (refsFrom 2 trs.length)] = some (.int trs.length) := by simp [bfn, lenD, seqOf, refs_len]
  have tl := fun a b h1 h2 h3 h4 => tail2 nn c2 kind step gd spot near broken many place ws a b trs x12 x13 x14 hk0 hk hs0 hs hg0 hg hp0 hp hwl hn ht h1 h2 h3 h4
  by_cases hb : near = 0 ∧ 0 < trs.length
  · obtain ⟨rfl, h0⟩ := hb
    have h0' : (0 : Int) < trs.length := by omega
    have hne : trs ≠ [] := List.length_pos_iff.mp h0
    obtain ⟨q1, q2⟩ := cells_at trs [c2, .lst (ws.map D.int)] 0 _ (List.getElem?_eq_getElem h0)
    obtain ⟨t, hteq⟩ : ∃ t, t = trs[0] := ⟨_, rfl⟩
    rw [← hteq] at q1 q2
    have htm : t ∈ trs := by rw [hteq]; exact List.getElem_mem h0
    obtain ⟨a, b, hd, he⟩ := ht t htm
    simp only [List.cons_append, List.nil_append, List.length_cons, List.length_nil, Nat.mul_zero, Nat.add_zero, Nat.zero_add, Nat.reduceAdd] at q1 q2
    have hi : indexS (c2 :: .lst (ws.map D.int) :: cellsOf trs) (.lst (refsFrom 2 trs.length)) (.int 0) = some (.lst [.ref 2, .ref 3]) := by
      have := refs_at trs.length 2 0 h0
      simp only [indexS, seqOf, atI, ixN, refs_len, Int.le_refl, if_true, h0', Int.toNat_zero, Option.bind_some, this]
    have i0 : ∀ (s : Sto) (a b : D), indexS s (.lst [a, b]) (.int 0) = some a := fun s a b => rfl
    have i1 : ∀ (s : Sto) (a b : D), indexS s (.lst [a, b]) (.int 1) = some b := fun s a b => rfl
    have sq1 : lfn (c2 :: .lst (ws.map D.int) :: cellsOf trs) .toList (.ref 2) = some (t.1.map D.int) := by simp only [lfn, seqOf, q1]
    have sq2 : lfn (c2 :: .lst (ws.map D.int) :: cellsOf trs) .toList (.ref 3) = some (t.2.map D.int) := by simp only [lfn, seqOf, q2]
    refine nxE (env' := [some (.scr nn), some (.ref 0), some (.int kind), some (.int step), some (.int gd), some (.int spot), some (.int 0), some (.int broken), some (.int many), some (.int place), some (.ref 1), some (.lst (refsFrom 2 trs.length)), x12, x13, x14, some (.lst (t.1.map D.int)), some (.lst (t.2.map D.int)), none, none, none, none, none, none, none, none, none]) (s' := c2 :: .lst (ws.map D.int) :: cellsOf trs) ?_ (tl t.1 t.2 (by omega) (by omega) hd he)
    simp [hlen, h0', hne, hi, i0, i1, sq1, sq2]
  · refine nxE (env' := [some (.scr nn), some (.ref 0), some (.int kind), some (.int step), some (.int gd), some (.int spot), some (.int near), some (.int broken), some (.int many), some (.int place), some (.ref 1), some (.lst (refsFrom 2 trs.length)), x12, x13, x14, some (.lst (one.map D.int)), some (.lst (other.map D.int)), none, none, none, none, none, none, none, none, none]) (s' := c2 :: .lst (ws.map D.int) :: cellsOf trs) ?_ (tl one other (by omega) (by omega) b1 b2)
    by_cases hz : near = 0
    · have h0 : trs.length = 0 := by omega
      have h0' : trs = [] := List.length_eq_zero_iff.mp h0
      have e0 : ∀ s, bfn s .len [.lst (refsFrom 2 0)] = some (.int 0) := fun s => rfl
      simp [e0, hz, h0']
    · simp [hz]
theorem holds : ∀ nn : List Int, nn.length ≤ 63 → ∃ s, MP.call P 12 19 [.scr nn] [] = .ok (.bl true) s := by
  intro nn _
  suffices h : ∃ t, exB (genv P (MP.call P 11)) f19.body (some (.scr nn) :: List.replicate 25 none) [] = .ret (.bl true) t by
    obtain ⟨t, h⟩ := h
    refine ⟨[], ?_⟩
    rw [c0 11 19 _ _ f19 rfl]
    refine (run_ret (f := f19) rfl h).trans ?_
    simp [fin, f19, gcOk, D.free]
  obtain ⟨e, h9⟩ := state 10 [] nn
  simp only [List.length_nil, List.nil_append] at h9
  have hc0 : St (stC 0 0 0 e) := ⟨0, 0, 0, e, rfl, by omega, by omega⟩
  show ∃ t, exB (genv P (MP.call P 11)) (_ :: _ :: _ :: _ :: _ :: _ :: _ :: _ :: _ :: _ :: _ :: _ :: f19.body.drop 12) _ _ = _
  simp only [List.replicate]
  refine nxE (by simp only [ex_asg, ev_call, g_call, fill_P, evs_cons, evs_nil, ev_var, getE_z, getE_s, R.opt_some, R.bind_ok, h9, R.sr_ok, asg_name, setE_z, setE_s, opt2_some]; rfl) ?_
  obtain ⟨kind, c1, e1, hc1, k0, k1⟩ := draw0 9 _ [] nn 16 hc0 (by decide) (by decide)
  refine nxE (by simp only [ex_asg, ev_call, g_call, fill_P, evs_cons, evs_nil, ev_var, ev_lit, getE_z, getE_s, R.opt_some, R.bind_ok, e1, R.sr_ok, asg_name, setE_z, setE_s, opt2_some]; rfl) ?_
  obtain ⟨step, c2, e2, hc2, s0, s1⟩ := draw0 9 _ [] nn 6 hc1 (by decide) (by decide)
  refine nxE (by simp only [ex_asg, ev_call, g_call, fill_P, evs_cons, evs_nil, ev_var, ev_lit, getE_z, getE_s, R.opt_some, R.bind_ok, e2, R.sr_ok, asg_name, setE_z, setE_s, opt2_some]; rfl) ?_
  obtain ⟨g', c3, e3, hc3, g0, g1⟩ := draw0 9 _ [] nn 5 hc2 (by decide) (by decide)
  obtain ⟨gd, hgd⟩ : ∃ gd, gd = 1 + g' := ⟨_, rfl⟩
  refine nxE (by simp only [ex_asg, ev_bin, ev_call, g_call, fill_P, evs_cons, evs_nil, ev_var, ev_lit, getE_z, getE_s, R.opt_some, R.bind_ok, e3, bin_add_int, ← hgd, R.sr_ok, asg_name, setE_z, setE_s, opt2_some]; rfl) ?_
  obtain ⟨spot, c4, e4, hc4, p0, p1⟩ := draw0 9 _ [] nn gd hc3 (by omega) (by omega)
  refine nxE (by simp only [ex_asg, ev_call, g_call, fill_P, evs_cons, evs_nil, ev_var, ev_lit, getE_z, getE_s, R.opt_some, R.bind_ok, e4, R.sr_ok, asg_name, setE_z, setE_s, opt2_some]; rfl) ?_
  obtain ⟨near, c5, e5, hc5, n0, n1⟩ := draw0 9 _ [] nn 3 hc4 (by omega) (by omega)
  refine nxE (by simp only [ex_asg, ev_call, g_call, fill_P, evs_cons, evs_nil, ev_var, ev_lit, getE_z, getE_s, R.opt_some, R.bind_ok, e5, R.sr_ok, asg_name, setE_z, setE_s, opt2_some]; rfl) ?_
  obtain ⟨broken, c6, e6, hc6, b0, b1⟩ := draw0 9 _ [] nn 4 hc5 (by omega) (by omega)
  refine nxE (by simp only [ex_asg, ev_call, g_call, fill_P, evs_cons, evs_nil, ev_var, ev_lit, getE_z, getE_s, R.opt_some, R.bind_ok, e6, R.sr_ok, asg_name, setE_z, setE_s, opt2_some]; rfl) ?_
  obtain ⟨mi, c7, e7, hc7, m0, m1⟩ := draw0 9 _ [] nn 16 hc6 (by omega) (by omega)
  obtain ⟨many, hm1, hm2⟩ : ∃ many, (∀ s, indexS s (.lst [.int 0, .int 0, .int 0, .int 2, .int 3, .int 4, .int 5, .int 6, .int 7, .int 8, .int 9, .int 10, .int 11, .int 12, .int 2, .int 4]) (.int mi) = some (.int many)) ∧ (many = 0 ∨ (2 ≤ many ∧ many ≤ 12)) := by
    have : mi = 0 ∨ mi = 1 ∨ mi = 2 ∨ mi = 3 ∨ mi = 4 ∨ mi = 5 ∨ mi = 6 ∨ mi = 7 ∨ mi = 8 ∨ mi = 9 ∨ mi = 10 ∨ mi = 11 ∨ mi = 12 ∨ mi = 13 ∨ mi = 14 ∨ mi = 15 := by omega
    rcases this with rfl | rfl | rfl | rfl | rfl | rfl | rfl | rfl | rfl | rfl | rfl | rfl | rfl | rfl | rfl | rfl <;> exact ⟨_, fun s => rfl, by decide⟩
  refine nxE (by simp only [ex_asg, ev_idx, ev_lst, newL_f, ev_call, g_call, fill_P, evs_cons, evs_nil, ev_var, ev_lit, getE_z, getE_s, R.opt_some, R.bind_ok, e7, hm1, R.sr_ok, asg_name, setE_z, setE_s, opt2_some]; rfl) ?_
  obtain ⟨place, c8, e8, hc8, l0, l1⟩ := draw0 9 _ [] nn gd hc7 (by omega) (by omega)
  refine nxE (by simp only [ex_asg, ev_call, g_call, fill_P, evs_cons, evs_nil, ev_var, ev_lit, getE_z, getE_s, R.opt_some, R.bind_ok, e8, R.sr_ok, asg_name, setE_z, setE_s, opt2_some]; rfl) ?_
  obtain ⟨ws, t9, e9, d9, w1, w2, w3⟩ := weights 8 0 nn gd many place [c8] hc8.has hm2 (by omega) (by omega) l0 l1
  obtain ⟨c9, hc9, rfl⟩ := dr0 d9
  simp only [List.length_cons, List.length_nil, Nat.zero_add, List.cons_append, List.nil_append] at e9
  refine nxE (by simp only [ex_asg, ev_call, g_call, fill_P, evs_cons, evs_nil, ev_var, ev_lit, getE_z, getE_s, R.opt_some, R.bind_ok, e9, R.sr_ok, asg_name, setE_z, setE_s, opt2_some]; rfl) ?_
  obtain ⟨n, c10, e10, hc10, q0, q1⟩ := draw0 9 _ [.lst (ws.map D.int)] nn 5 hc9 (by omega) (by omega)
  have hwl : (ws.length : Int) = gd := by omega
  obtain ⟨trs, t11, e11, d11, tl, tok⟩ := trades_loop 8 0 1 nn ws many place (stepF [24] (.name 24) (evAnd (genv P (MP.call P 11)) []) (evE (genv P (MP.call P 11)) (.call 15 [.var 1, .var 0, .var 10, .var 8, .var 9])) [some (.scr nn), some (.ref 0), some (.int kind), some (.int step), some (.int gd), some (.int spot), some (.int near), some (.int broken), some (.int many), some (.int place), some (.ref 1), none, none, none, none, none, none, none, none, none, none, none, none, none, none, none]) (by decide) hm2 (by omega) (by omega) l0 (by omega) w2
    (fun d s v s' h => by simp [stepF, h]) (rangeD 0 n.toNat) (c10 :: [.lst (ws.map D.int)]) hc10.has rfl
  obtain ⟨c11, hc11, rfl⟩ := dr0 d11
  have hnl : trs.length ≤ 4 := by rw [tl]; simp [rangeD]; omega
  have hcp := ev_comp (m := false) (evI_range1 (g := genv P (MP.call P 11)) (a := .call 10 [.var 1, .var 0, .lit (.int 5)]) (env := [some (.scr nn), some (.ref 0), some (.int kind), some (.int step), some (.int gd), some (.int spot), some (.int near), some (.int broken), some (.int many), some (.int place), some (.ref 1), none, none, none, none, none, none, none, none, none, none, none, none, none, none, none]) (s := c9 :: [.lst (ws.map D.int)]) (by simp [e10]) (by unfold smallI; simp; omega)) e11 (by rw [refs_len]; show _ ≤ 16777216; omega)
  rw [newL_f] at hcp
  simp only [List.length_cons, List.length_nil, Nat.zero_add, List.cons_append, List.nil_append, Nat.reduceAdd] at hcp
  refine nxE (by rw [ex_asg, hcp]; simp only [R.sr_ok, asg_name, setE_z, setE_s, opt2_some]; rfl) ?_
  have hlen : ∀ s, bfn s .len [.lst (refsFrom 2 trs.length)] = some (.int trs.length) := fun s => by simp [bfn, lenD, seqOf, refs_len]
  have tl1 := fun c hc trs h1 h2 x12 x13 x14 => tail1 nn c hc kind step gd spot near broken many place ws trs x12 x13 x14 k0 k1 s0 s1 (by omega) (by omega) p0 p1 hwl h1 h2
  by_cases hb : broken = 0 ∧ 0 < trs.length
  · obtain ⟨rfl, h0⟩ := hb
    have h0' : (0 : Int) < trs.length := by omega
    obtain ⟨j, c12, e12, hc12, j0, j1⟩ := draw0 9 c11 (.lst (ws.map D.int) :: cellsOf trs) nn trs.length hc11 (by omega) (by omega)
    obtain ⟨b, c13, e13, hc13, b0, b1⟩ := draw0 9 c12 (.lst (ws.map D.int) :: cellsOf trs) nn 2 hc12 (by omega) (by omega)
    obtain ⟨at_, c14, e14, hc14, a0, a1⟩ := draw0 9 c13 (.lst (ws.map D.int) :: cellsOf trs) nn gd hc13 (by omega) (by omega)
    have hj : j.toNat < trs.length := by omega
    obtain ⟨t, hteq⟩ : ∃ t, trs[j.toNat]? = some t := ⟨_, List.getElem?_eq_getElem hj⟩
    have htm : t ∈ trs := List.mem_of_getElem? hteq
    obtain ⟨ta, tb, tc, td⟩ := tok t htm
    obtain ⟨q1, q2⟩ := cells_at trs [c14, .lst (ws.map D.int)] j.toNat t hteq
    have hi : ∀ s, indexS s (.lst (refsFrom 2 trs.length)) (.int j) = some (.lst [.ref (2 + 2 * j.toNat), .ref (2 + 2 * j.toNat + 1)]) := fun s => by
      have := refs_at trs.length 2 j.toNat hj
      simp only [indexS, seqOf, atI, ixN, refs_len, if_pos j0, if_pos j1, Option.bind_some, this]
    have nv : ∀ x : Int, 0 ≤ x → x < 13 → 0 ≤ x + 1 - 2 * (if x = 12 then 1 else 0) ∧ x + 1 - 2 * (if x = 12 then 1 else 0) < 13 := fun x h1 h2 => by split <;> omega
    have key : ∀ (bd : Nat) (xs : List Int) (trs' : Int → List (List Int × List Int)), (∀ s, indexS s (.lst [.ref (2 + 2 * j.toNat), .ref (2 + 2 * j.toNat + 1)]) (.int b) = some (.ref bd)) → (c14 :: .lst (ws.map D.int) :: cellsOf trs)[bd]? = some (.lst (xs.map D.int)) → xs.length = ws.length → In0 13 xs →
        (∀ x, 0 ≤ x → x < 13 → (c14 :: .lst (ws.map D.int) :: cellsOf trs).set bd (.lst ((xs.set at_.toNat x).map D.int)) = c14 :: .lst (ws.map D.int) :: cellsOf (trs' x) ∧ (trs' x).length = trs.length ∧ ∀ t ∈ trs' x, TrOk ws.length t) →
        ∃ t, exB (genv P (MP.call P 11)) (f19.body.drop 11) [some (.scr nn), some (.ref 0), some (.int kind), some (.int step), some (.int gd), some (.int spot), some (.int near), some (.int 0), some (.int many), some (.int place), some (.ref 1), some (.lst (refsFrom 2 trs.length)), none, none, none, none, none, none, none, none, none, none, none, none, none, none] (c11 :: .lst (ws.map D.int) :: cellsOf trs) = .ret (.bl true) t := by
      intro bd xs trs' hib hcell hxl hx0 hset
      have hal : at_.toNat < xs.length := by omega
      obtain ⟨x, hx⟩ : ∃ x, xs[at_.toNat]? = some x := ⟨_, List.getElem?_eq_getElem hal⟩
      obtain ⟨xa, xb⟩ := hx0 x (List.mem_of_getElem? hx)
      obtain ⟨v0, v1⟩ := nv x xa xb
      obtain ⟨v, hv⟩ : ∃ v, v = x + 1 - 2 * (if x = 12 then 1 else 0) := ⟨_, rfl⟩
      rw [← hv] at v0 v1
      obtain ⟨s1, s2, s3⟩ := hset v v0 v1
      have hix : ixN xs.length at_ = some at_.toNat := by unfold ixN; rw [if_pos a0, if_pos (by omega)]
      have r1 : indexS (c14 :: .lst (ws.map D.int) :: cellsOf trs) (.ref bd) (.int at_) = some (.int x) := by
        simp only [indexS, seqOf, hcell, atI, List.length_map, hix, Option.bind_some, List.getElem?_map, hx, Option.map_some]
      have r2 : setI (c14 :: .lst (ws.map D.int) :: cellsOf trs) (.ref bd) (.int at_) (.int v) = some (c14 :: .lst (ws.map D.int) :: cellsOf (trs' v)) := by
        simp only [setI, hcell, List.length_map, hix, Option.map_some]
        rw [← s1, List.map_set]
      have r3 : binop (c14 :: .lst (ws.map D.int) :: cellsOf trs) .mul (.int 2) (.int (if decide (x = 12) = true then 1 else 0)) = some (.int (2 * (if x = 12 then 1 else 0))) := by
        rw [bin_mul_int _ _ _ (mulOk_l (by decide) (by decide))]
        simp
      have t1 := tl1 c14 hc14 (trs' v) (by omega) s3 (some (.lst [.ref (2 + 2 * j.toNat), .ref (2 + 2 * j.toNat + 1)])) (some (.ref bd)) (some (.int at_))
      rw [s2] at t1
      show ∃ t, exB _ (_ :: f19.body.drop 12) _ _ = _
      refine nxE (env' := [some (.scr nn), some (.ref 0), some (.int kind), some (.int step), some (.int gd), some (.int spot), some (.int near), some (.int 0), some (.int many), some (.int place), some (.ref 1), some (.lst (refsFrom 2 trs.length)), some (.lst [.ref (2 + 2 * j.toNat), .ref (2 + 2 * j.toNat + 1)]), some (.ref bd), some (.int at_), none, none, none, none, none, none, none, none, none, none, none]) (s' := c14 :: .lst (ws.map D.int) :: cellsOf (trs' v)) ?_ t1
      simp only [ex_ife, ev_and, evand_cons, evand_one, ev_cmp, ev_bi, evs_cons, evs_nil, ev_var, ev_lit, getE_z, getE_s, R.opt_some, R.bind_ok, hlen, cmp_eq_int, cmp_gt_int, Option.map_some, truthy_bl, opt1_some, opt2_some, h0', decide_true, if_true, R.sr_ok, ex_cons, ex_nil, ex_asg, ev_idx, ev_call, g_call, fill_P, e12, e13, e14, hi, hib, asg_name, setE_z, setE_s, SR.seq_nx, ex_seti, ev_bin, bin_add_int, bin_sub_int, r1, bfn_int_bl, r3, ← hv, r2]
    have hb01 : b = 0 ∨ b = 1 := by omega
    rcases hb01 with rfl | rfl
    · refine key (2 + 2 * j.toNat) t.1 (fun x => trs.set j.toNat (t.1.set at_.toNat x, t.2)) (fun s => rfl) q1 (by omega) tc (fun x hx0 hx1 => ⟨(cells_set trs [c14, .lst (ws.map D.int)] j.toNat t _ hteq).1, List.length_set, fun u hu => ?_⟩)
      rcases List.mem_or_eq_of_mem_set hu with hu | rfl
      · exact tok u hu
      · exact ⟨by simp [ta], tb, tc.set _ hx0 hx1, td⟩
    · refine key (2 + 2 * j.toNat + 1) t.2 (fun x => trs.set j.toNat (t.1, t.2.set at_.toNat x)) (fun s => rfl) q2 (by omega) td (fun x hx0 hx1 => ⟨(cells_set trs [c14, .lst (ws.map D.int)] j.toNat t _ hteq).2, List.length_set, fun u hu => ?_⟩)
      rcases List.mem_or_eq_of_mem_set hu with hu | rfl
      · exact tok u hu
      · exact ⟨ta, by simp [tb], tc, td.set _ hx0 hx1⟩
  · refine nxE (env' := [some (.scr nn), some (.ref 0), some (.int kind), some (.int step), some (.int gd), some (.int spot), some (.int near), some (.int broken), some (.int many), some (.int place), some (.ref 1), some (.lst (refsFrom 2 trs.length)), none, none, none, none, none, none, none, none, none, none, none, none, none, none]) (s' := c11 :: .lst (ws.map D.int) :: cellsOf trs) ?_ (tl1 c11 hc11 trs hnl tok none none none)
    by_cases hz : broken = 0
    · have h0 : trs.length = 0 := by omega
      have h0' : trs = [] := List.length_eq_zero_iff.mp h0
      have e0 : ∀ s, bfn s .len [.lst (refsFrom 2 0)] = some (.int 0) := fun s => rfl
      simp [e0, hz, h0']
    · simp [hz]
end Lk57
set_option autoImplicit false
set_option linter.all false
set_option maxRecDepth 100000
set_option maxHeartbeats 0
set_option Elab.async false
namespace Lk57
open PySem PySem.Spec PyProof.Rows L2 MP
def top (i : Nat) : Stmt := PySem.Challenge.pw_barterback_k57_rounds_judged.main.body.getD i (.Pass ⟨0, 0, 0, 0⟩)
def xd0 : He.DefD := ⟨("is_integer", none), "is_integer", "is_integer", defArgs (top 6), defBody (top 6), defScope (top 6), [], []⟩
def xr0 : FnD := ⟨xd0, ["thing"], ["thing"]⟩
theorem xb0 : Bd xr0 := fun _ _ _ _ _ _ us hl => match us, hl with | [_], _ => rfl
theorem xc0 : fnC T P isTop f0 xr0 = true := by decide +kernel
def xd1 : He.DefD := ⟨("is_bag", none), "is_bag", "is_bag", defArgs (top 7), defBody (top 7), defScope (top 7), [], []⟩
def xr1 : FnD := ⟨xd1, ["goods", "thing", "number"], ["goods", "thing"]⟩
theorem xb1 : Bd xr1 := fun _ _ _ _ _ _ us hl => match us, hl with | [_, _], _ => rfl
theorem xc1 : fnC T P isTop f1 xr1 = true := by decide +kernel
def xd2 : He.DefD := ⟨("is_pair_of_bags", none), "is_pair_of_bags", "is_pair_of_bags", defArgs (top 10), defBody (top 10), defScope (top 10), [], []⟩
def xr2 : FnD := ⟨xd2, ["goods", "thing"], ["goods", "thing"]⟩
theorem xb2 : Bd xr2 := fun _ _ _ _ _ _ us hl => match us, hl with | [_, _], _ => rfl
theorem xc2 : fnC T P isTop f2 xr2 = true := by decide +kernel
def xd3 : He.DefD := ⟨("is_whole", none), "is_whole", "is_whole", defArgs (top 13), defBody (top 13), defScope (top 13), [], []⟩
def xr3 : FnD := ⟨xd3, ["thing"], ["thing"]⟩
theorem xb3 : Bd xr3 := fun _ _ _ _ _ _ us hl => match us, hl with | [_], _ => rfl
theorem xc3 : fnC T P isTop f3 xr3 = true := by decide +kernel
def xd4 : He.DefD := ⟨("dot", none), "dot", "dot", defArgs (top 14), defBody (top 14), defScope (top 14), [], []⟩
def xr4 : FnD := ⟨xd4, ["one", "other", "a", "b"], ["one", "other"]⟩
theorem xb4 : Bd xr4 := fun _ _ _ _ _ _ us hl => match us, hl with | [_, _], _ => rfl
theorem xc4 : fnC T P isTop f4 xr4 = true := by decide +kernel
def xd5 : He.DefD := ⟨("differences", none), "differences", "differences", defArgs (top 15), defBody (top 15), defScope (top 15), [], []⟩
def xr5 : FnD := ⟨xd5, ["market", "given", "taken", "a", "b"], ["market"]⟩
theorem xb5 : Bd xr5 := fun _ _ _ _ _ _ us hl => match us, hl with | [_], _ => rfl
theorem xc5 : fnC T P isTop f5 xr5 = true := by decide +kernel
def xd6 : He.DefD := ⟨("is_multiple", none), "is_multiple", "is_multiple", defArgs (top 17), defBody (top 17), defScope (top 17), [], []⟩
def xr6 : FnD := ⟨xd6, ["number", "many"], ["number", "many"]⟩
theorem xb6 : Bd xr6 := fun _ _ _ _ _ _ us hl => match us, hl with | [_, _], _ => rfl
theorem xc6 : fnC T P isTop f6 xr6 = true := by decide +kernel
def xd7 : He.DefD := ⟨("is_round", none), "is_round", "is_round", defArgs (top 18), defBody (top 18), defScope (top 18), [], []⟩
def xr7 : FnD := ⟨xd7, ["market", "one", "other", "thing", "weights", "many", "row", "weight"], ["market", "one", "other", "thing"]⟩
theorem xb7 : Bd xr7 := fun _ _ _ _ _ _ us hl => match us, hl with | [_, _, _, _], _ => rfl
theorem xc7 : fnC T P isTop f7 xr7 = true := by decide +kernel
def xd8 : He.DefD := ⟨("_law_mixed", none), "_law_mixed", "_law_mixed", defArgs (top 20), defBody (top 20), defScope (top 20), [], []⟩
def xr8 : FnD := ⟨xd8, ["_law_number", "_law_turn"], ["_law_number", "_law_turn"]⟩
theorem xb8 : Bd xr8 := fun _ _ _ _ _ _ us hl => match us, hl with | [_, _], _ => rfl
theorem xc8 : fnC T P isTop f8 xr8 = true := by decide +kernel
def xd9 : He.DefD := ⟨("_law_state", none), "_law_state", "_law_state", defArgs (top 21), defBody (top 21), defScope (top 21), [], []⟩
def xr9 : FnD := ⟨xd9, ["_law_script", "_law_seed", "_law_cell"], ["_law_script"]⟩
theorem xb9 : Bd xr9 := fun _ _ _ _ _ _ us hl => match us, hl with | [_], _ => rfl
theorem xc9 : fnC T P isTop f9 xr9 = true := by decide +kernel
def xd10 : He.DefD := ⟨("_law_take", none), "_law_take", "_law_take", defArgs (top 22), defBody (top 22), defScope (top 22), [], []⟩
def xr10 : FnD := ⟨xd10, ["_law_state_here", "_law_script", "_law_limit", "_law_cell", "_law_digit"], ["_law_state_here", "_law_script", "_law_limit"]⟩
theorem xb10 : Bd xr10 := fun _ _ _ _ _ _ us hl => match us, hl with | [_, _, _], _ => rfl
theorem xc10 : fnC T P isTop f10 xr10 = true := by decide +kernel
def xd11 : He.DefD := ⟨("_law_whole", none), "_law_whole", "_law_whole", defArgs (top 23), defBody (top 23), defScope (top 23), [], []⟩
def xr11 : FnD := ⟨xd11, ["_law_thing_here"], ["_law_thing_here"]⟩
theorem xb11 : Bd xr11 := fun _ _ _ _ _ _ us hl => match us, hl with | [_], _ => rfl
theorem xc11 : fnC T P isTop f11 xr11 = true := by decide +kernel
def xd12 : He.DefD := ⟨("_law_total", none), "_law_total", "_law_total", defArgs (top 24), defBody (top 24), defScope (top 24), [], []⟩
def xr12 : FnD := ⟨xd12, ["_law_weights_here", "_law_bag", "_law_total_here", "_law_weight", "_law_number"], ["_law_weights_here", "_law_bag"]⟩
theorem xb12 : Bd xr12 := fun _ _ _ _ _ _ us hl => match us, hl with | [_, _], _ => rfl
theorem xc12 : fnC T P isTop f12 xr12 = true := by decide +kernel
def xd13 : He.DefD := ⟨("_law_multiple", none), "_law_multiple", "_law_multiple", defArgs (top 25), defBody (top 25), defScope (top 25), [], []⟩
def xr13 : FnD := ⟨xd13, ["_law_number", "_law_many"], ["_law_number", "_law_many"]⟩
theorem xb13 : Bd xr13 := fun _ _ _ _ _ _ us hl => match us, hl with | [_, _], _ => rfl
theorem xc13 : fnC T P isTop f13 xr13 = true := by decide +kernel
def xd14 : He.DefD := ⟨("_law_weights", none), "_law_weights", "_law_weights", defArgs (top 26), defBody (top 26), defScope (top 26), [], []⟩
def xr14 : FnD := ⟨xd14, ["_law_state_here", "_law_script", "_law_goods", "_law_many", "_law_place", "_law_weights_here", "_law_good", "_law_weight"], ["_law_state_here", "_law_script", "_law_goods", "_law_many", "_law_place"]⟩
theorem xb14 : Bd xr14 := fun _ _ _ _ _ _ us hl => match us, hl with | [_, _, _, _, _], _ => rfl
theorem xc14 : fnC T P isTop f14 xr14 = true := by decide +kernel
def xd15 : He.DefD := ⟨("_law_trade", none), "_law_trade", "_law_trade", defArgs (top 27), defBody (top 27), defScope (top 27), [], []⟩
def xr15 : FnD := ⟨xd15, ["_law_state_here", "_law_script", "_law_weights_here", "_law_many", "_law_place", "_law_goods", "_law_most", "_law_left", "_law_right", "_law_lack", "_law_more", "_law_good"], ["_law_state_here", "_law_script", "_law_weights_here", "_law_many", "_law_place"]⟩
theorem xb15 : Bd xr15 := fun _ _ _ _ _ _ us hl => match us, hl with | [_, _, _, _, _], _ => rfl
theorem xc15 : fnC T P isTop f15 xr15 = true := by decide +kernel
def xd16 : He.DefD := ⟨("_law_spoiled_weights", none), "_law_spoiled_weights", "_law_spoiled_weights", defArgs (top 28), defBody (top 28), defScope (top 28), [], []⟩
def xr16 : FnD := ⟨xd16, ["_law_weights_here", "_law_many", "_law_kind", "_law_place", "_law_step", "_law_changed", "_law_weight"], ["_law_weights_here", "_law_many", "_law_kind", "_law_place", "_law_step"]⟩
theorem xb16 : Bd xr16 := fun _ _ _ _ _ _ us hl => match us, hl with | [_, _, _, _, _], _ => rfl
theorem xc16 : fnC T P isTop f16 xr16 = true := by decide +kernel
def xd17 : He.DefD := ⟨("_law_thing", none), "_law_thing", "_law_thing", defArgs (top 29), defBody (top 29), defScope (top 29), [], []⟩
def xr17 : FnD := ⟨xd17, ["_law_weights_here", "_law_many", "_law_kind", "_law_place", "_law_step", "_law_market", "_law_told"], ["_law_weights_here", "_law_many", "_law_kind", "_law_place", "_law_step", "_law_market"]⟩
theorem xb17 : Bd xr17 := fun _ _ _ _ _ _ us hl => match us, hl with | [_, _, _, _, _, _], _ => rfl
theorem xc17 : fnC T P isTop f17 xr17 = true := by decide +kernel
def xd18 : He.DefD := ⟨("_law_due", none), "_law_due", "_law_due", defArgs (top 30), defBody (top 30), defScope (top 30), [], []⟩
def xr18 : FnD := ⟨xd18, ["_law_thing_here", "_law_trades", "_law_one", "_law_other", "_law_weights_here", "_law_many", "_law_weight", "_law_left", "_law_right"], ["_law_thing_here", "_law_trades", "_law_one", "_law_other"]⟩
theorem xb18 : Bd xr18 := fun _ _ _ _ _ _ us hl => match us, hl with | [_, _, _, _], _ => rfl
theorem xc18 : fnC T P isTop f18 xr18 = true := by decide +kernel
def xd19 : He.DefD := ⟨("law", none), "law", "law", defArgs (top 31), defBody (top 31), defScope (top 31), [], []⟩
def xr19 : FnD := ⟨xd19, ["_law_script", "_law_state_here", "_law_kind", "_law_step", "_law_goods", "_law_spot", "_law_near", "_law_broken", "_law_many", "_law_place", "_law_weights_here", "_law_trades", "_law_pair", "_law_bag", "_law_at", "_law_one", "_law_other", "_law_market", "_law_things", "_law_thing_here", "_law_due_here", "_law_first", "_law_second", "_law_actual", "_law_k", "_law_good"], ["_law_script"]⟩
theorem xb19 : Bd xr19 := fun _ _ _ _ _ _ us hl => match us, hl with | [_], _ => rfl
theorem xc19 : fnC T P isTop f19 xr19 = true := by decide +kernel
def xd20 : He.DefD := ⟨("Market", some "__init__"), "__init__", "Market.__init__", defArgs (inClass (top 11) 0), defBody (inClass (top 11) 0), defScope (inClass (top 11) 0), [], []⟩
def xr20 : FnD := ⟨xd20, ["self", "goods", "trades", "index", "trade"], ["self", "goods", "trades"]⟩
theorem xb20 : Bd xr20 := fun _ _ _ _ _ _ us hl => match us, hl with | [_, _, _], _ => rfl
theorem xc20 : fnC T P isTop f20 xr20 = true := by decide +kernel
def fdL : List (Nat × FnD) := [(0, xr0), (1, xr1), (2, xr2), (3, xr3), (4, xr4), (5, xr5), (6, xr6), (7, xr7), (8, xr8), (9, xr9), (10, xr10), (11, xr11), (12, xr12), (13, xr13), (14, xr14), (15, xr15), (16, xr16), (17, xr17), (18, xr18), (19, xr19), (20, xr20)]
def fn : List He.DefD := [xd0, xd1, xd2, xd3, xd4, xd5, xd6, xd7, xd8, xd9, xd10, xd11, xd12, xd13, xd14, xd15, xd16, xd17, xd18, xd19, xd20]
def fa : List He.Fa := [.glo "is_integer", .glo "is_bag", .glo "is_pair_of_bags", .glo "is_whole", .glo "dot", .glo "differences", .glo "is_multiple", .glo "is_round", .glo "_law_mixed", .glo "_law_state", .glo "_law_take", .glo "_law_whole", .glo "_law_total", .glo "_law_multiple", .glo "_law_weights", .glo "_law_trade", .glo "_law_spoiled_weights", .glo "_law_thing", .glo "_law_due", .glo "law", .glo "BarterError", .glo "BadGoods", .glo "BadTrade", .glo "Market", .free "len", .free "abs", .free "max", .free "min", .free "int", .free "bool", .free "str", .free "dict", .free "tuple", .free "list", .free "sum", .free "any", .free "all", .free "sorted", .free "isinstance", .free "range", .free "enumerate", .free "zip", .free "reversed", .int "MOST_GOODS" (5), .int "MOST_TRADES" (8), .mkr "Market"]
def ex (K : PySem.W.Frag) : Bool := clsC K T P clsL
theorem facts {K : PySem.W.Frag} {h : Heap} {mg : Str → Option Value} (X : K.In h) (G : h.Ns mainGlobals mg) (c : He.SaysD fa fn K) (e : ex K = true) : Txt T P isTop K mg (fun f => fdL.lookup f) where
  tab := tab_of rfl e (by decide +kernel) rfl
  fre := fun x hx => by
    simp only [bnames, List.mem_cons, List.not_mem_nil, or_false] at hx
    rcases hx with rfl | rfl | rfl | rfl | rfl | rfl | rfl | rfl | rfl | rfl | rfl | rfl | rfl | rfl | rfl | rfl | rfl | rfl | rfl
    · exact He.free_ok X G (c.fact 24 (f := .free "len") rfl)
    · exact He.free_ok X G (c.fact 25 (f := .free "abs") rfl)
    · exact He.free_ok X G (c.fact 26 (f := .free "max") rfl)
    · exact He.free_ok X G (c.fact 27 (f := .free "min") rfl)
    · exact He.free_ok X G (c.fact 28 (f := .free "int") rfl)
    · exact He.free_ok X G (c.fact 29 (f := .free "bool") rfl)
    · exact He.free_ok X G (c.fact 30 (f := .free "str") rfl)
    · exact He.free_ok X G (c.fact 31 (f := .free "dict") rfl)
    · exact He.free_ok X G (c.fact 32 (f := .free "tuple") rfl)
    · exact He.free_ok X G (c.fact 33 (f := .free "list") rfl)
    · exact He.free_ok X G (c.fact 34 (f := .free "sum") rfl)
    · exact He.free_ok X G (c.fact 35 (f := .free "any") rfl)
    · exact He.free_ok X G (c.fact 36 (f := .free "all") rfl)
    · exact He.free_ok X G (c.fact 37 (f := .free "sorted") rfl)
    · exact He.free_ok X G (c.fact 38 (f := .free "isinstance") rfl)
    · exact He.free_ok X G (c.fact 39 (f := .free "range") rfl)
    · exact He.free_ok X G (c.fact 40 (f := .free "enumerate") rfl)
    · exact He.free_ok X G (c.fact 41 (f := .free "zip") rfl)
    · exact He.free_ok X G (c.fact 42 (f := .free "reversed") rfl)
  gint := fun i d hd => by
    have hm := lookup_mem (show ([(0, .int 5), (1, .int 8)] : List (Nat × D)).lookup i = some d from hd)
    simp only [List.mem_cons, List.not_mem_nil, or_false, Prod.mk.injEq] at hm
    rcases hm with ⟨rfl, rfl⟩ | ⟨rfl, rfl⟩
    · obtain ⟨t, ht⟩ := He.int_ok X G (c.fact 43 (f := .int "MOST_GOODS" (5)) rfl); exact ⟨_, t, rfl, ht⟩
    · obtain ⟨t, ht⟩ := He.int_ok X G (c.fact 44 (f := .int "MOST_TRADES" (8)) rfl); exact ⟨_, t, rfl, ht⟩
  clsG := fun k kc hk => by
    have hm := lookup_mem (show clsL.lookup k = some kc from hk)
    simp only [clsL, List.mem_cons, List.not_mem_nil, or_false, Prod.mk.injEq] at hm
    rcases hm with ⟨rfl, rfl⟩ | ⟨rfl, rfl⟩ | ⟨rfl, rfl⟩ | ⟨rfl, rfl⟩
    · exact He.glo_ok X G (c.fact 20 (f := .glo "BarterError") rfl)
    · exact He.glo_ok X G (c.fact 21 (f := .glo "BadGoods") rfl)
    · exact He.glo_ok X G (c.fact 22 (f := .glo "BadTrade") rfl)
    · exact He.glo_ok X G (c.fact 23 (f := .glo "Market") rfl)
  def_ := fun f fn' hf => by
    have hm := lookup_mem (show fnL.lookup f = some fn' from hf)
    simp only [fnL, List.mem_cons, List.not_mem_nil, or_false, Prod.mk.injEq] at hm
    rcases hm with ⟨rfl, rfl⟩ | ⟨rfl, rfl⟩ | ⟨rfl, rfl⟩ | ⟨rfl, rfl⟩ | ⟨rfl, rfl⟩ | ⟨rfl, rfl⟩ | ⟨rfl, rfl⟩ | ⟨rfl, rfl⟩ | ⟨rfl, rfl⟩ | ⟨rfl, rfl⟩ | ⟨rfl, rfl⟩ | ⟨rfl, rfl⟩ | ⟨rfl, rfl⟩ | ⟨rfl, rfl⟩ | ⟨rfl, rfl⟩ | ⟨rfl, rfl⟩ | ⟨rfl, rfl⟩ | ⟨rfl, rfl⟩ | ⟨rfl, rfl⟩ | ⟨rfl, rfl⟩ | ⟨rfl, rfl⟩
    · obtain ⟨fdd, F⟩ := c.def_ 0 (d := xd0) rfl; exact ⟨xr0, fdd, rfl, xc0, xb0, F⟩
    · obtain ⟨fdd, F⟩ := c.def_ 1 (d := xd1) rfl; exact ⟨xr1, fdd, rfl, xc1, xb1, F⟩
    · obtain ⟨fdd, F⟩ := c.def_ 2 (d := xd2) rfl; exact ⟨xr2, fdd, rfl, xc2, xb2, F⟩
    · obtain ⟨fdd, F⟩ := c.def_ 3 (d := xd3) rfl; exact ⟨xr3, fdd, rfl, xc3, xb3, F⟩
    · obtain ⟨fdd, F⟩ := c.def_ 4 (d := xd4) rfl; exact ⟨xr4, fdd, rfl, xc4, xb4, F⟩
    · obtain ⟨fdd, F⟩ := c.def_ 5 (d := xd5) rfl; exact ⟨xr5, fdd, rfl, xc5, xb5, F⟩
    · obtain ⟨fdd, F⟩ := c.def_ 6 (d := xd6) rfl; exact ⟨xr6, fdd, rfl, xc6, xb6, F⟩
    · obtain ⟨fdd, F⟩ := c.def_ 7 (d := xd7) rfl; exact ⟨xr7, fdd, rfl, xc7, xb7, F⟩
    · obtain ⟨fdd, F⟩ := c.def_ 8 (d := xd8) rfl; exact ⟨xr8, fdd, rfl, xc8, xb8, F⟩
    · obtain ⟨fdd, F⟩ := c.def_ 9 (d := xd9) rfl; exact ⟨xr9, fdd, rfl, xc9, xb9, F⟩
    · obtain ⟨fdd, F⟩ := c.def_ 10 (d := xd10) rfl; exact ⟨xr10, fdd, rfl, xc10, xb10, F⟩
    · obtain ⟨fdd, F⟩ := c.def_ 11 (d := xd11) rfl; exact ⟨xr11, fdd, rfl, xc11, xb11, F⟩
    · obtain ⟨fdd, F⟩ := c.def_ 12 (d := xd12) rfl; exact ⟨xr12, fdd, rfl, xc12, xb12, F⟩
    · obtain ⟨fdd, F⟩ := c.def_ 13 (d := xd13) rfl; exact ⟨xr13, fdd, rfl, xc13, xb13, F⟩
    · obtain ⟨fdd, F⟩ := c.def_ 14 (d := xd14) rfl; exact ⟨xr14, fdd, rfl, xc14, xb14, F⟩
    · obtain ⟨fdd, F⟩ := c.def_ 15 (d := xd15) rfl; exact ⟨xr15, fdd, rfl, xc15, xb15, F⟩
    · obtain ⟨fdd, F⟩ := c.def_ 16 (d := xd16) rfl; exact ⟨xr16, fdd, rfl, xc16, xb16, F⟩
    · obtain ⟨fdd, F⟩ := c.def_ 17 (d := xd17) rfl; exact ⟨xr17, fdd, rfl, xc17, xb17, F⟩
    · obtain ⟨fdd, F⟩ := c.def_ 18 (d := xd18) rfl; exact ⟨xr18, fdd, rfl, xc18, xb18, F⟩
    · obtain ⟨fdd, F⟩ := c.def_ 19 (d := xd19) rfl; exact ⟨xr19, fdd, rfl, xc19, xb19, F⟩
    · obtain ⟨fdd, F⟩ := c.def_ 20 (d := xd20) rfl; exact ⟨xr20, fdd, rfl, xc20, xb20, F⟩
  glo := fun f fn' r hf ht hr => by
    have hm := lookup_mem (show fdL.lookup f = some r from hr)
    simp only [fdL, List.mem_cons, List.not_mem_nil, or_false, Prod.mk.injEq] at hm
    rcases hm with ⟨rfl, rfl⟩ | ⟨rfl, rfl⟩ | ⟨rfl, rfl⟩ | ⟨rfl, rfl⟩ | ⟨rfl, rfl⟩ | ⟨rfl, rfl⟩ | ⟨rfl, rfl⟩ | ⟨rfl, rfl⟩ | ⟨rfl, rfl⟩ | ⟨rfl, rfl⟩ | ⟨rfl, rfl⟩ | ⟨rfl, rfl⟩ | ⟨rfl, rfl⟩ | ⟨rfl, rfl⟩ | ⟨rfl, rfl⟩ | ⟨rfl, rfl⟩ | ⟨rfl, rfl⟩ | ⟨rfl, rfl⟩ | ⟨rfl, rfl⟩ | ⟨rfl, rfl⟩ | ⟨rfl, rfl⟩
    · exact He.glo_ok X G (c.fact 0 (f := .glo "is_integer") rfl)
    · exact He.glo_ok X G (c.fact 1 (f := .glo "is_bag") rfl)
    · exact He.glo_ok X G (c.fact 2 (f := .glo "is_pair_of_bags") rfl)
    · exact He.glo_ok X G (c.fact 3 (f := .glo "is_whole") rfl)
    · exact He.glo_ok X G (c.fact 4 (f := .glo "dot") rfl)
    · exact He.glo_ok X G (c.fact 5 (f := .glo "differences") rfl)
    · exact He.glo_ok X G (c.fact 6 (f := .glo "is_multiple") rfl)
    · exact He.glo_ok X G (c.fact 7 (f := .glo "is_round") rfl)
    · exact He.glo_ok X G (c.fact 8 (f := .glo "_law_mixed") rfl)
    · exact He.glo_ok X G (c.fact 9 (f := .glo "_law_state") rfl)
    · exact He.glo_ok X G (c.fact 10 (f := .glo "_law_take") rfl)
    · exact He.glo_ok X G (c.fact 11 (f := .glo "_law_whole") rfl)
    · exact He.glo_ok X G (c.fact 12 (f := .glo "_law_total") rfl)
    · exact He.glo_ok X G (c.fact 13 (f := .glo "_law_multiple") rfl)
    · exact He.glo_ok X G (c.fact 14 (f := .glo "_law_weights") rfl)
    · exact He.glo_ok X G (c.fact 15 (f := .glo "_law_trade") rfl)
    · exact He.glo_ok X G (c.fact 16 (f := .glo "_law_spoiled_weights") rfl)
    · exact He.glo_ok X G (c.fact 17 (f := .glo "_law_thing") rfl)
    · exact He.glo_ok X G (c.fact 18 (f := .glo "_law_due") rfl)
    · exact He.glo_ok X G (c.fact 19 (f := .glo "law") rfl)
    · exact absurd ht (by decide)
  mks := fun k kc f fn' r hk hx hi hf hr => by
    have hm := lookup_mem (show clsL.lookup k = some kc from hk)
    simp only [clsL, List.mem_cons, List.not_mem_nil, or_false, Prod.mk.injEq] at hm
    rcases hm with ⟨rfl, rfl⟩ | ⟨rfl, rfl⟩ | ⟨rfl, rfl⟩ | ⟨rfl, rfl⟩
    · cases hx
    · cases hx
    · cases hx
    · cases hi; have e2 : some xr20 = some r := hr; cases e2; exact He.mkr_ok (c.fact 45 (f := .mkr "Market") rfl)

abbrev R : PySem.W.OpenRow := PySem.W.OpenLaw.row PySem.Challenge.rw_barterback_k57_rounds_judged
abbrev hk : PySem.W.Hook := hookM 8 fa fn ex
def ob (s : PySem.W.SharedT) : Bool × He.AlD := obsM 8 fa fn ex (HandSHeadRun.getT s)
theorem ob_eq (s : PySem.W.SharedT) : ob s = hk.obs s.abs := obsM_eq (HandSHeadRun.getT_eq s)
def loose : List Str := (["BarterError", "BadGoods", "BadTrade", "MOST_GOODS", "is_integer", "is_bag", "MOST_TRADES", "is_pair_of_bags", "Market", "is_whole", "dot", "differences", "is_multiple", "is_round", "_law_mixed", "_law_state", "_law_take", "_law_whole", "_law_total", "_law_multiple", "_law_weights", "_law_trade", "_law_spoiled_weights", "_law_thing", "_law_due"] : List Str)
theorem run (w : World) : HandSHeadRun.RunEq R (PySem.W.view R.prog [31]) hk ob 4000 loose w := by
  intro os
  kernel_rfl

end Lk57
open PySem PySem.W PySem.Calls PyProof.Rows MP
theorem PySem.Challenge.cw_barterback_k57_rounds_judged_holds : PySem.Challenge.rw_barterback_k57_rounds_judged.Holds := by
  w_on; o_law
  refine HandSHeadRun.head_any (r := OpenLaw.row PySem.Challenge.rw_barterback_k57_rounds_judged) (q := view (OpenLaw.row PySem.Challenge.rw_barterback_k57_rounds_judged).prog [31]) (H := Lk57.hk) (ob := Lk57.ob) (M := 4000) (loose := Lk57.loose) (d := HandSHeadRun.topDef (OpenLaw.row PySem.Challenge.rw_barterback_k57_rounds_judged).prog 31) (kwd := []) Lk57.ob_eq
    (by kernel_rfl) (fun s => by kernel_rfl) Lk57.run (by kernel_rfl) (by kernel_rfl) (by kernel_rfl) (by rfl) (by first | assumption | decide +kernel) (by decide +kernel) ⟨rfl, rfl, rfl, rfl, rfl, by decide +kernel⟩ ?hw ?hc
  case hw => w_witness2
  case hc =>
    refine L2.walk_ofE (l := PySem.Challenge.rw_barterback_k57_rounds_judged) (n := 63) (k := 2 * 12) (x := "_law_script") (CX := CXw (PySem.Challenge.rw_barterback_k57_rounds_judged).prog) rfl (by decide) (by kernel_rfl) ⟨rfl, by decide, by decide⟩ ?F ?cx
    case cx =>
      intro H s e s' z
      obtain ⟨_, _, _, _, _, _, _, _, _, _, _, _, _, z⟩ := z
      exact z
    case F =>
      intro w mg fa h Y G hmg0
      obtain ⟨K, KX, c, e⟩ := Y
      have hmg : mg ("law" : PySem.Str) = some (.ref fa) := by
        have e : (HandSHeadRun.topDef (OpenLaw.row PySem.Challenge.rw_barterback_k57_rounds_judged).prog 31).name = ("law" : PySem.Str) := by kernel_rfl
        rw [← e]
        exact hmg0
      have X := Lk57.facts KX G c e
      have efa : He.fAd K Lk57.xd19.at_ = fa  := law_at (He.glo_ok KX G (c.fact 19 (f := .glo "law") rfl)) hmg
      exact law_F (prog := (PySem.Challenge.rw_barterback_k57_rounds_judged).prog) (w := w) KX X (LAW := 19) (J := 12) (n := 63) (fn := Lk57.f19) (r := Lk57.xr19) (x := "_law_script") rfl rfl rfl rfl efa Lk57.holds
