import PyProof.Rows.All
import Wide.All
import OpenK.AllK
import Wide.FinOn
import HandS.ForMost
import HandS.Walk
import HandS.Exc
import HandS.ExcOwn
import HandS.ExcInit
import HandS.ExcField
import HandS.CallSlots
import HandS.IsInst
import HandS.Style
import HandS.Flow
import HandS.Zip
import HandS.Rev
import HandS.Defaults
import HandS.Small
import HandS.SetKeys
import HandS.TupAny
import HandS.TupMul
import HandS.TryMany
import HandS.HeadHook2
import HandS.TupLe
import HandS.SortInts
import KE.GoesEnum
import KE.GoesMore
import KE.GoesZip
import HandS.ExcIs
import HandS.Head0
import HandS.Head1
import HandS.Head2
import HandS.HeadEnd
import HandS.HeadHook1
import PySem.Challenge.RW_barterback_k45_weights_kept_or_not
set_option autoImplicit false
/-! MPa: a small language: values, expressions, statements, and what they do. -/
namespace MP

/-- a value as a tree -/
inductive D where
  | non
  | bl (b : Bool)
  | int (i : Int)
  | str (s : List Nat)
  | tup (xs : List D)
  | lst (xs : List D)
  | scr (ns : List Int)
  | rcd (c : Nat) (fs : List D)
  | ref (i : Nat)
  | exc (c : Nat) (fs : List D)
  deriving Inhabited

mutual
def D.beq : D → D → Bool
  | .non, .non => true
  | .bl a, .bl b => a == b
  | .int a, .int b => a == b
  | .str a, .str b => a == b
  | .tup a, .tup b => D.beqs a b
  | .lst a, .lst b => D.beqs a b
  | .scr a, .scr b => a == b
  | .rcd c a, .rcd d b => c == d && D.beqs a b
  | .ref a, .ref b => a == b
  | .exc c a, .exc d b => c == d && D.beqs a b
  | _, _ => false
def D.beqs : List D → List D → Bool
  | [], [] => true
  | a :: as, b :: bs => D.beq a b && D.beqs as bs
  | _, _ => false
end
mutual
theorem D.beq_eq : ∀ a b : D, D.beq a b = true → a = b
  | .non, b, h => by cases b <;> simp_all [D.beq]
  | .bl _, b, h => by cases b <;> simp_all [D.beq]
  | .int _, b, h => by cases b <;> simp_all [D.beq]
  | .str _, b, h => by cases b <;> simp_all [D.beq]
  | .tup x, b, h => by
    cases b <;> simp_all [D.beq]
    exact D.beqs_eq _ _ h
  | .lst x, b, h => by
    cases b <;> simp_all [D.beq]
    exact D.beqs_eq _ _ h
  | .scr _, b, h => by cases b <;> simp_all [D.beq]
  | .rcd _ x, b, h => by
    cases b <;> simp_all [D.beq]
    exact D.beqs_eq _ _ h.2
  | .ref _, b, h => by cases b <;> simp_all [D.beq]
  | .exc _ x, b, h => by
    cases b <;> simp_all [D.beq]
    exact D.beqs_eq _ _ h.2
theorem D.beqs_eq : ∀ a b : List D, D.beqs a b = true → a = b
  | [], b, h => by cases b <;> simp_all [D.beqs]
  | a :: as, b, h => by
    cases b with
    | nil => simp_all [D.beqs]
    | cons b bs =>
      simp only [D.beqs, Bool.and_eq_true] at h
      rw [D.beq_eq a b h.1, D.beqs_eq as bs h.2]
end
mutual
theorem D.beq_rfl : ∀ a : D, D.beq a a = true
  | .non => by simp [D.beq]
  | .bl _ => by simp [D.beq]
  | .int _ => by simp [D.beq]
  | .str _ => by simp [D.beq]
  | .tup x => by simp only [D.beq]; exact D.beqs_rfl x
  | .lst x => by simp only [D.beq]; exact D.beqs_rfl x
  | .scr _ => by simp [D.beq]
  | .rcd _ x => by simp only [D.beq, beq_self_eq_true, Bool.true_and]; exact D.beqs_rfl x
  | .ref _ => by simp [D.beq]
  | .exc _ x => by simp only [D.beq, beq_self_eq_true, Bool.true_and]; exact D.beqs_rfl x
theorem D.beqs_rfl : ∀ a : List D, D.beqs a a = true
  | [] => by simp [D.beqs]
  | a :: as => by simp only [D.beqs, Bool.and_eq_true]; exact ⟨D.beq_rfl a, D.beqs_rfl as⟩
end
instance : DecidableEq D := fun a b =>
  if h : D.beq a b = true then isTrue (D.beq_eq a b h) else isFalse fun e => h (e ▸ D.beq_rfl a)

/-- a thing that may change -/
inductive Cell where
  | lst (xs : List D)
  | dct (kvs : List (D × D))
  | ins (c : Nat) (fs : List (Nat × D))
  | dead
  deriving Inhabited, DecidableEq
abbrev Sto := List Cell
abbrev Env := List (Option D)

inductive R (α : Type) where
  | ok (a : α) (s : Sto)
  | ex (c : Nat) (fs : List D) (s : Sto)
  | no
def R.bind {α β : Type} (r : R α) (f : α → Sto → R β) : R β := match r with
  | .ok a s => f a s
  | .ex c fs s => .ex c fs s
  | .no => .no
@[simp] theorem R.bind_ok {α β : Type} (a : α) (s : Sto) (f : α → Sto → R β) : (R.ok a s).bind f = f a s := rfl
@[simp] theorem R.bind_ex {α β : Type} (c : Nat) (fs : List D) (s : Sto) (f : α → Sto → R β) : (R.ex c fs s : R α).bind f = .ex c fs s := rfl
@[simp] theorem R.bind_no {α β : Type} (f : α → Sto → R β) : (R.no : R α).bind f = .no := rfl
/-- a value, or nothing is known -/
def R.opt {α : Type} (o : Option α) (s : Sto) : R α := match o with
  | some a => .ok a s
  | none => .no
@[simp] theorem R.opt_some {α : Type} (a : α) (s : Sto) : R.opt (some a) s = .ok a s := rfl
@[simp] theorem R.opt_none {α : Type} (s : Sto) : R.opt (none : Option α) s = .no := rfl

def opt1 {α β : Type} (o : Option α) (f : α → R β) : R β := match o with
  | some a => f a
  | none => .no
@[simp] theorem opt1_some {α β : Type} (a : α) (f : α → R β) : opt1 (some a) f = f a := rfl
@[simp] theorem opt1_none {α β : Type} (f : α → R β) : opt1 (none : Option α) f = .no := rfl

inductive BOp where | add | sub | mul | fdiv | mod | pow
  deriving Inhabited, DecidableEq
inductive COp where | eq | ne | lt | le | gt | ge | is | isnot | isin | notin
  deriving Inhabited, DecidableEq
inductive Ty where | int | bool | str | tuple | list | dict | cls (c : Nat) | val
  deriving Inhabited, DecidableEq
/-- built-in functions that make nothing that may change -/
inductive Bi where | len | abs | max2 | min2 | toInt | toTup | sum | any | all | maxL | minL
  deriving Inhabited, DecidableEq
/-- built-in functions and forms that make a list -/
inductive Li where | toList | sorted
  deriving Inhabited, DecidableEq
inductive Bm where | append | pop | popAt | clear | reverse | extend | index
  deriving Inhabited, DecidableEq
inductive T where | name (i : Nat) | tup (ts : List T)
  deriving Inhabited

mutual
inductive E where
  | bad
  | var (i : Nat)
  | lit (d : D)
  | glob (g : Nat)
  | bin (o : BOp) (a b : E)
  | neg (a : E)
  | cmp (o : COp) (a b : E)
  | chain (o o' : COp) (a b c : E)
  | and (es : List E)
  | or (es : List E)
  | not (a : E)
  | ite (c a b : E)
  | tup (es : List E)
  | lst (m : Bool) (es : List E)
  | dct (ks : List D) (vs : List E)
  | setdef (a k v : E)
  | idx (a b : E)
  | slc (m : Bool) (a : E) (lo hi : Option E)
  | fld (a : E) (f : Nat)
  | call (f : Nat) (es : List E)
  | callK (f : Nat) (es : List E) (ks : List Nat) (kes : List E)
  | meth (m : Nat) (a : E) (es : List E)
  | make (c : Nat) (es : List E)
  | bi (b : Bi) (es : List E)
  | li (b : Li) (m : Bool) (a : E)
  | bm (b : Bm) (a : E) (es : List E)
  | isi (a : E) (ts : List Ty)
  | xfld (i f : Nat)
  | xisi (i : Nat) (t : Ty)
  | dget (a k : E)
  | din (neg : Bool) (k a : E)
  | comp (m : Bool) (own : List Nat) (elt : E) (t : T) (it : I) (ifs : List E)
  | comp2 (m : Bool) (own own2 : List Nat) (elt : E) (t : T) (it : I) (t2 : T) (it2 : I)
inductive I where
  | seq (e : E)
  | range (es : List E)
  | enum (e : E)
  | zip (es : List E)
  | rev (e : E)
end
instance : Inhabited E := ⟨.var 0⟩
instance : Inhabited I := ⟨.seq (.var 0)⟩

mutual
inductive S where
  | bad
  | expr (e : E)
  | asg (t : T) (e : E)
  | seti (a i e : E)
  | setf (o : E) (f : Nat) (e : E)
  | dput (a k e : E)
  | daug (a k : E) (o : BOp) (e : E)
  | aug (i : Nat) (o : BOp) (e : E)
  | augi (a i : E) (o : BOp) (e : E)
  | augf (a : E) (f : Nat) (o : BOp) (e : E)
  | par (is : List Nat) (es : List E)
  | ret (e : E)
  | retN
  | ife (c : E) (a b : List S)
  | forS (t : T) (it : I) (body : List S)
  | whileS (c : E) (body : List S)
  | brk
  | cnt
  | pass
  | raise (c : Nat) (es : List E)
  | tryS (body : List S) (hs : List Hd)
  | fgt (is : List Nat)
  | frz (i : Nat)
inductive Hd where
  | mk (c : Nat) (slot : Option Nat) (body : List S)
end
instance : Inhabited S := ⟨.pass⟩

structure Fn where
  np : Nat
  ns : Nat
  dfl : List D
  mode : Nat
  body : List S
structure Cls where
  exn : Bool
  flds : List Nat
  init : Option Nat
  frozen : Bool
  meths : List (Nat × Nat)
  deriving Inhabited
structure Prog where
  fn : Nat → Option Fn
  cls : Nat → Option Cls
  sub : Nat → Nat → Bool
  glob : Nat → Option D

/-- what the functions and classes do -/
structure G where
  call : Nat → List D → Sto → R D
  dfl : Nat → List D
  np : Nat → Nat
  cls : Nat → Option Cls
  sub : Nat → Nat → Bool
  glob : Nat → Option D

abbrev LINE : Nat := 16777216
abbrev WFUEL : Nat := 1000000000000

/-! ### values -/
def seqOf (s : Sto) : D → Option (List D)
  | .tup xs => some xs
  | .lst xs => some xs
  | .scr ns => some (ns.map D.int)
  | .ref i => match s[i]? with
    | some (.lst xs) => some xs
    | _ => none
  | _ => none
/-- a list, made by the program -/
def lstOf (s : Sto) : D → Option (List D)
  | .lst xs => some xs
  | .ref i => match s[i]? with
    | some (.lst xs) => some xs
    | _ => none
  | _ => none
def truthy (s : Sto) : D → Option Bool
  | .non => some false
  | .bl b => some b
  | .int i => some (i != 0)
  | .str x => if x.length ≤ LINE then some (!x.isEmpty) else none
  | .tup xs => some (!xs.isEmpty)
  | .lst xs => some (!xs.isEmpty)
  | .ref i => match s[i]? with
    | some (.lst xs) => some (!xs.isEmpty)
    | _ => none
  | _ => none
def mulOk (i j : Int) : Bool := (decide (-(2 ^ 64) < i) && decide (i < 2 ^ 64)) || (decide (-(2 ^ 64) < j) && decide (j < 2 ^ 64))
def powOk (i j : Int) : Bool := decide (0 ≤ j) && (decide (j ≤ 1000000) && decide (i.natAbs < 2 ^ 64))
/-- a op= b at a name -/
def augOk : D → D → Bool
  | .int _, .int _ => true
  | _, _ => false
def repD (xs : List D) (k : Int) : List D := (List.replicate k.toNat xs).flatten
def binop (s : Sto) (o : BOp) (a b : D) : Option D :=
  match o, a, b with
  | .add, .int i, .int j => some (.int (i + j))
  | .sub, .int i, .int j => some (.int (i - j))
  | .mul, .int i, .int j => if mulOk i j then some (.int (i * j)) else none
  | .fdiv, .int i, .int j => if decide (0 < j) && decide (j < 1073741824) then some (.int (i / j)) else none
  | .mod, .int i, .int j => if decide (0 < j) then some (.int (i % j)) else none
  | .pow, .int i, .int j => if powOk i j then some (.int (i ^ j.toNat)) else none
  | .add, .str x, .str y => if x.length + y.length ≤ LINE then some (.str (x ++ y)) else none
  | .add, .tup x, .tup y => if x.length + y.length ≤ LINE then some (.tup (x ++ y)) else none
  | .mul, .tup x, .int k => if decide (1 ≤ k) && decide (k ≤ 1000) && decide (x.length ≤ 1000) then some (.tup (repD x k)) else none
  | .mul, .str x, .int k => if decide (1 ≤ k) && decide (k ≤ 1000) && decide (x.length ≤ 1000) then some (.str (List.replicate k.toNat x).flatten) else none
  | .add, a, b => match lstOf s a, lstOf s b with
    | some x, some y => if x.length + y.length ≤ LINE then some (.lst (x ++ y)) else none
    | _, _ => none
  | .mul, a, .int k => match lstOf s a with
    | some x => if decide (0 ≤ k) && decide (k ≤ 1000000) && decide (x.length * k.toNat ≤ LINE) then some (.lst (repD x k)) else none
    | none => none
  | _, _, _ => none
/-- data without anything that may change, to a depth -/
def dataOf (s : Sto) : Nat → D → Option D
  | _, .non => some .non
  | _, .bl b => some (.bl b)
  | _, .int i => some (.int i)
  | _, .str x => if x.all (fun c => decide (c < 1114112)) then some (.str x) else none
  | 0, _ => none
  | n + 1, .tup xs => (xs.mapM (dataOf s n)).map D.tup
  | n + 1, .lst xs => (xs.mapM (dataOf s n)).map D.lst
  | n + 1, .ref i => match s[i]? with
    | some (.lst xs) => (xs.mapM (dataOf s n)).map D.lst
    | _ => none
  | _, _ => none
mutual
/-- == of data -/
def eqv : D → D → Bool
  | .non, .non => true
  | .bl a, .bl b => a == b
  | .bl a, .int j => (if a then 1 else 0) == j
  | .int i, .bl b => i == (if b then 1 else 0)
  | .int i, .int j => i == j
  | .str x, .str y => x == y
  | .lst xs, .lst ys => eqvs xs ys
  | .tup xs, .tup ys => eqvs xs ys
  | _, _ => false
def eqvs : List D → List D → Bool
  | [], [] => true
  | x :: xs, y :: ys => eqv x y && eqvs xs ys
  | _, _ => false
end
mutual
/-- < of data: ints, texts, tuples; none: not told -/
def ltv : D → D → Option Bool
  | .int i, .int j => some (decide (i < j))
  | .tup xs, .tup ys => ltvs xs ys
  | _, _ => none
def ltvs : List D → List D → Option Bool
  | [], [] => some false
  | [], _ :: _ => some true
  | _ :: _, [] => some false
  | x :: xs, y :: ys => match ltv x y, ltvs xs ys with
    | some a, some b => some (if eqv x y then b else a)
    | _, _ => none
end
def eqD (s : Sto) (a b : D) : Option Bool := match dataOf s 60 a, dataOf s 60 b with
  | some x, some y => some (eqv x y)
  | _, _ => none
def ltD (s : Sto) (a b : D) : Option Bool := match dataOf s 60 a, dataOf s 60 b with
  | some x, some y => ltv x y
  | _, _ => none
def flat : D → Bool
  | .non => true
  | .bl _ => true
  | .int _ => true
  | .str _ => true
  | _ => false
/-- in a list or a tuple -/
def inS (s : Sto) (x y : D) : Option Bool := match seqOf s y with
  | some ys => if flat x && ys.all flat then some (ys.any fun y => eqv y x) else none
  | none => none
def isD (a b : D) : Option Bool := match b with
  | .non => some (decide (a = .non))
  | .bl b => match a with
    | .bl a => some (a == b)
    | _ => none
  | _ => none
def cmpop (s : Sto) (o : COp) (a b : D) : Option Bool := match o with
  | .eq => eqD s a b
  | .ne => (eqD s a b).map (!·)
  | .lt => ltD s a b
  | .gt => match a, b with
    | .int i, .int j => some (decide (j < i))
    | _, _ => none
  | .le => match a, b with
    | .int i, .int j => some (decide (i ≤ j))
    | _, _ => none
  | .ge => match a, b with
    | .int i, .int j => some (decide (j ≤ i))
    | _, _ => none
  | .is => isD a b
  | .isnot => (isD a b).map (!·)
  | .isin => inS s a b
  | .notin => (inS s a b).map (!·)
def tyIs (g : G) (s : Sto) (d : D) (t : Ty) : Option Bool := match d, t with
  | .non, .cls _ => some false
  | .bl _, .cls _ => some false
  | .int _, .cls _ => some false
  | .str _, .cls _ => some false
  | .tup _, .cls _ => some false
  | .lst _, .cls _ => some false
  | .rcd c _, .cls c' => some (g.sub c c')
  | _, .val => none
  | .non, _ => some false
  | .bl _, t => some (t == .bool || t == .int)
  | .int _, t => some (t == .int)
  | .str _, t => some (t == .str)
  | .tup _, t => some (t == .tuple)
  | .lst _, t => some (t == .list)
  | .rcd _ _, _ => some false
  | .ref i, t => match s[i]?, t with
    | some (.lst _), .cls _ => some false
    | some (.lst _), t => some (t == .list)
    | some (.dct _), .cls _ => some false
    | some (.dct _), t => some (t == .dict)
    | some (.ins c _), .cls c' => some (g.sub c c')
    | some (.ins _ _), _ => some false
    | _, _ => none
  | _, _ => none
def tyAny (g : G) (s : Sto) (d : D) : List Ty → Option Bool
  | [] => some false
  | t :: ts => match tyIs g s d t with
    | some true => some true
    | some false => tyAny g s d ts
    | none => none
/-! ### places -/
def ixN (n : Nat) (i : Int) : Option Nat := if 0 ≤ i then (if i < n then some i.toNat else none) else if -(n : Int) ≤ i then some (i + n).toNat else none
def atI {α : Type} (xs : List α) (i : Int) : Option α := (ixN xs.length i).bind fun j => xs[j]?
def sIx (n d : Nat) : Option Int → Nat
  | none => d
  | some v => if v < 0 then (v + (n : Int)).toNat else min v.toNat n
def cut {α : Type} (xs : List α) (lo hi : Option Int) : List α := (xs.drop (sIx xs.length 0 lo)).take (sIx xs.length xs.length hi - sIx xs.length 0 lo)
def lookD (k : D) : List (D × D) → Option D
  | [] => none
  | (a, v) :: r => if a = k then some v else lookD k r
def putD (k v : D) (kvs : List (D × D)) : List (D × D) := if kvs.any (fun p => decide (p.1 = k)) then kvs.map (fun p => if p.1 = k then (p.1, v) else p) else kvs ++ [(k, v)]
def lookF (f : Nat) : List (Nat × D) → Option D
  | [] => none
  | (a, v) :: r => if a = f then some v else lookF f r
def putF (f : Nat) (v : D) : List (Nat × D) → List (Nat × D)
  | [] => [(f, v)]
  | (a, w) :: r => if a = f then (a, v) :: r else (a, w) :: putF f v r
def keyOk : D → Bool
  | .int _ => true
  | .str _ => true
  | _ => false
/-- a[b] of a list, a tuple, a text -/
def indexS (s : Sto) (a i : D) : Option D := match seqOf s a, i with
  | some xs, .int j => atI xs j
  | none, .int j => (match a with
    | .str x => if x.length ≤ LINE then (atI x j).map fun c => D.str [c] else none
    | _ => none)
  | _, _ => none
def dctOf (s : Sto) : D → Option (List (D × D))
  | .ref p => match s[p]? with
    | some (.dct kvs) => some kvs
    | _ => none
  | _ => none
def dgetD (s : Sto) (a k : D) : Option D := match dctOf s a with
  | some kvs => if keyOk k then lookD k kvs else none
  | none => none
def dinD (s : Sto) (a k : D) : Option Bool := match dctOf s a with
  | some kvs => if keyOk k then some (lookD k kvs).isSome else none
  | none => none
def dputD (s : Sto) (a k v : D) : Option Sto := match a with
  | .ref p => match s[p]? with
    | some (.dct kvs) => if keyOk k && decide (kvs.length < LINE) then some (s.set p (.dct (putD k v kvs))) else none
    | _ => none
  | _ => none
def setdefD (s : Sto) (a k v : D) : R D := match a with
  | .ref p => match s[p]? with
    | some (.dct kvs) => if keyOk k && decide (kvs.length < LINE) then (match lookD k kvs with
        | some w => .ok w s
        | none => .ok v (s.set p (.dct (putD k v kvs)))) else .no
    | _ => .no
  | _ => .no
/-- what is left of slices -/
def slF (m : Bool) (x : D) (l h : Option Int) (s : Sto) : R D := match x with
    | .tup xs => .ok (.tup (cut xs l h)) s
    | .str xs => if xs.length ≤ LINE then .ok (.str (cut xs l h)) s else .no
    | x => opt1 (seqOf s x) fun xs => if m then .ok (.ref s.length) (s ++ [.lst (cut xs l h)]) else .ok (.lst (cut xs l h)) s
def field (g : G) (s : Sto) (o : D) (f : Nat) : Option D := match o with
  | .rcd c fs => match g.cls c with
    | some k => lookF f (k.flds.zip fs)
    | none => none
  | .ref i => match s[i]? with
    | some (.ins c fs) => match g.cls c with
      | some k => if f ∈ k.flds then lookF f fs else none
      | none => none
    | _ => none
  | _ => none
/-- a field of the exception that an except suite holds -/
def xfield (g : G) (d : D) (f : Nat) : Option D := match d with
  | .exc c [x] => match g.cls c with
    | some k => if k.exn = true ∧ k.flds = [f] then some x else none
    | none => none
  | _ => none
def exnG (g : G) (c : Nat) : Bool := match g.cls c with
  | some k => k.exn
  | none => false
def xis (g : G) (d : D) (t : Ty) : Option Bool := match d, t with
  | .exc c [], .cls c' => if exnG g c then some (g.sub c c') else none
  | .exc c [], .val => if exnG g c then some true else none
  | _, _ => none
def classOf (s : Sto) : D → Option Nat
  | .rcd c _ => some c
  | .ref i => match s[i]? with
    | some (.ins c _) => some c
    | _ => none
  | _ => none
def lenD (s : Sto) (d : D) : Option Nat := match seqOf s d with
  | some xs => some xs.length
  | none => match d with
    | .str x => if x.length ≤ LINE then some x.length else none
    | _ => none
def intsOf : List D → Option (List Int)
  | [] => some []
  | .int i :: r => (intsOf r).map (i :: ·)
  | _ => none
def blsOf : List D → Option (List Bool)
  | [] => some []
  | .bl i :: r => (blsOf r).map (i :: ·)
  | _ => none
def maxI : Int → List Int → Int
  | m, [] => m
  | m, x :: r => maxI (if m < x then x else m) r
def minI : Int → List Int → Int
  | m, [] => m
  | m, x :: r => minI (if x < m then x else m) r
def bfn (s : Sto) (b : Bi) (vs : List D) : Option D := match b, vs with
  | .len, [d] => (lenD s d).map fun n => .int n
  | .abs, [.int i] => some (.int (if i < 0 then -i else i))
  | .max2, [.int i, .int j] => some (.int (if j > i then j else i))
  | .min2, [.int i, .int j] => some (.int (if j < i then j else i))
  | .toInt, [.int i] => some (.int i)
  | .toInt, [.bl b] => some (.int (if b then 1 else 0))
  | .toTup, [d] => (seqOf s d).map D.tup
  | .sum, [d] => ((seqOf s d).bind intsOf).map fun ns => .int ns.sum
  | .any, [d] => ((lstOf s d).bind blsOf).map fun bs => .bl (bs.any id)
  | .all, [d] => ((lstOf s d).bind blsOf).map fun bs => .bl (bs.all id)
  | .maxL, [d] => match (lstOf s d).bind intsOf with
    | some (n :: ns) => some (.int (maxI n ns))
    | _ => none
  | .minL, [d] => match (lstOf s d).bind intsOf with
    | some (n :: ns) => some (.int (minI n ns))
    | _ => none
  | _, _ => none
def insD (x : D) : List D → List D
  | [] => [x]
  | y :: ys => match ltv x y with
    | some true => x :: y :: ys
    | _ => y :: insD x ys
def sortD : List D → List D
  | [] => []
  | x :: xs => insD x (sortD xs)
def lfn (s : Sto) (b : Li) (d : D) : Option (List D) := match b with
  | .toList => seqOf s d
  | .sorted => match seqOf s d with
    | some xs => (intsOf xs).bind fun ns => if ns.length < 64 then some (sortD xs) else none
    | none => none
/-- a new list, as a value or as a cell -/
def newL (m : Bool) (xs : List D) (s : Sto) : R D := if m then .ok (.ref s.length) (s ++ [.lst xs]) else .ok (.lst xs) s
def bmf0 (s : Sto) (b : Bm) (o : D) (vs : List D) : R D := match o with
  | .ref i => match s[i]?, b, vs with
    | some (.lst xs), .append, [v] => if xs.length < LINE then .ok .non (s.set i (.lst (xs ++ [v]))) else .no
    | some (.lst xs), .pop, [] => match xs[xs.length - 1]? with
      | some v => .ok v (s.set i (.lst xs.dropLast))
      | none => .no
    | some (.lst xs), .popAt, [.int j] => match ixN xs.length j with
      | some k => match xs[k]? with
        | some v => if decide (-(2 ^ 63) ≤ j) && decide (j < 2 ^ 63) then .ok v (s.set i (.lst (xs.eraseIdx k))) else .no
        | none => .no
      | none => .no
    | some (.lst xs), .reverse, [] => .ok .non (s.set i (.lst xs.reverse))
    | some (.lst _), .clear, [] => .ok .non (s.set i (.lst []))
    | some (.lst xs), .extend, [d] => match lstOf s d with
      | some ys => if xs.length + ys.length ≤ LINE then .ok .non (s.set i (.lst (xs ++ ys))) else .no
      | none => .no
    | _, _, _ => .no
  | _ => .no
def findI (v : D) (n : Nat) : List D → Option Nat
  | [] => none
  | x :: xs => if eqv x v then some n else findI v (n + 1) xs
/-- methods of lists -/
def bmf (s : Sto) (b : Bm) (o : D) (vs : List D) : R D := match b, vs with
  | .index, [v] => (match lstOf s o with
    | some xs => if flat v && xs.all flat then .opt ((findI v 0 xs).map fun j => .int j) s else .no
    | none => .no)
  | .index, _ => .no
  | b, vs => bmf0 s b o vs
def setI (s : Sto) (o i v : D) : Option Sto := match o with
  | .ref p => match s[p]?, i with
    | some (.lst xs), .int k => (ixN xs.length k).map fun j => s.set p (.lst (xs.set j v))
    | _, _ => none
  | _ => none
def setFl (g : G) (s : Sto) (o : D) (f : Nat) (v : D) : Option Sto := match o with
  | .ref p => match s[p]? with
    | some (.ins c fs) => match g.cls c with
      | some k => if f ∈ k.flds ∧ fs.length < 900 then some (s.set p (.ins c (putF f v fs))) else none
      | none => none
    | _ => none
  | _ => none
/-! ### targets -/
def getE : Env → Nat → Option D
  | [], _ => none
  | x :: _, 0 => x
  | _ :: r, n + 1 => getE r n
def setE : Env → Nat → Option D → Env
  | [], _, _ => []
  | _ :: r, 0, d => d :: r
  | x :: r, n + 1, d => x :: setE r n d
def wipeE (env : Env) : List Nat → Env
  | [] => env
  | v :: vs => setE (wipeE env vs) v none
mutual
def asgT : T → D → Env → Option Env
  | .name i, d, env => some (setE env i (some d))
  | .tup ts, .tup ds, env => asgTs ts ds env
  | .tup _, _, _ => none
def asgTs : List T → List D → Env → Option Env
  | [], [], env => some env
  | t :: ts, d :: ds, env => (asgT t d env).bind (asgTs ts ds)
  | _, _, _ => none
end
/-- what a loop walks must stand -/
abbrev Gd := List (Nat × List D)
def stands (g : Gd) (s : Sto) : Bool := g.all fun p => decide (s[p.1]? = some (.lst p.2))
def guardOf : D → List D → Gd
  | .ref i, xs => [(i, xs)]
  | _, _ => []
def rangeD (lo : Int) (n : Nat) : List D := (List.range n).map fun i => D.int (lo + (i : Nat))
def smallI (i : Int) : Bool := decide (-(2 ^ 62) ≤ i) && decide (i < 2 ^ 62)
def zipD : List (List D) → List D
  | [xs, ys] => (xs.zip ys).map fun p => D.tup [p.1, p.2]
  | [xs, ys, zs] => (xs.zip (ys.zip zs)).map fun p => D.tup [p.1, p.2.1, p.2.2]
  | _ => []
def enumD (n : Nat) : List D → List D
  | [] => []
  | x :: r => D.tup [.int n, x] :: enumD (n + 1) r
def consO (o : Option D) (r : List D) : List D := match o with
  | some y => y :: r
  | none => r
def compLoop (step : D → Sto → R (Option D)) (g : Gd) : List D → Sto → R (List D)
  | [], s => if stands g s then .ok [] s else .no
  | d :: ds, s => if stands g s then (match step d s with
    | .ok o s1 => (match compLoop step g ds s1 with
      | .ok r s2 => .ok (consO o r) s2
      | _ => .no)
    | _ => .no) else .no
def compLoop2 (step : D → Sto → R (List D)) (g : Gd) : List D → Sto → R (List D)
  | [], s => if stands g s then .ok [] s else .no
  | d :: ds, s => if stands g s then (match step d s with
    | .ok o s1 => (match compLoop2 step g ds s1 with
      | .ok r s2 => .ok (o ++ r) s2
      | _ => .no)
    | _ => .no) else .no
def fill (np : Nat) (vs dfl : List D) : List D := vs ++ dfl.drop (dfl.length - (np - vs.length))
/-- keywords: the parameters' places ks take the values ws -/
def fillK (np : Nat) (vs dfl : List D) (ks : List Nat) (ws : List D) : Option (List D) :=
  some ((ks.zip ws).foldl (fun a p => a.set p.1 p.2) (fill np vs dfl))
/-- the fields of a finished instance, in the class's order -/
def recOf (k : Cls) (fs : List (Nat × D)) : Option (List D) := if fs.map (·.1) = k.flds then some (fs.map (·.2)) else none
mutual
def D.free : D → Bool
  | .ref _ => false
  | .exc _ _ => false
  | .tup xs => D.frees xs
  | .lst xs => D.frees xs
  | .rcd _ xs => D.frees xs
  | _ => true
def D.frees : List D → Bool
  | [] => true
  | x :: xs => D.free x && D.frees xs
end
def Cell.free : Cell → Bool
  | .lst xs => D.frees xs
  | .dct kvs => kvs.all fun p => p.1.free && p.2.free
  | .ins _ fs => D.frees (fs.map (·.2))
  | .dead => true
def makeD (g : G) (c : Nat) (vs : List D) (s : Sto) : R D := match g.cls c with
  | some k => if k.exn then .no else match k.init with
    | some f => match g.call f (.ref s.length :: vs) (s ++ [.ins c []]) with
      | .ok .non s' => if k.frozen then (match s'[s.length]? with
          | some (.ins c' fs) => if c' = c ∧ s' = s ++ [.ins c fs] then (match recOf k fs with
              | some ds => if D.frees ds then .ok (.rcd c ds) s else .no
              | none => .no) else .no
          | _ => .no) else .ok (.ref s.length) s'
      | .ok _ _ => .no
      | .ex e fs s' => if s'.take s.length = s ∧ D.frees fs then .ex e fs s else .no
      | .no => .no
    | none => .no
  | none => .no
def methD (g : G) (m : Nat) (o : D) (vs : List D) (s : Sto) : R D := match classOf s o with
  | some c => match g.cls c with
    | some k => match k.meths.lookup m with
      | some f => g.call f (fill (g.np f) (o :: vs) (g.dfl f)) s
      | none => .no
    | none => .no
  | none => .no
/-! ### expressions -/
mutual
def evE (g : G) : E → Env → Sto → R D
  | .bad, _, _ => .no
  | .var i, env, s => .opt (getE env i) s
  | .lit d, _, s => .ok d s
  | .glob i, _, s => .opt (g.glob i) s
  | .bin o a b, env, s => (evE g a env s).bind fun x s => (evE g b env s).bind fun y s => .opt (binop s o x y) s
  | .neg a, env, s => (evE g a env s).bind fun x s => match x with
    | .int i => .ok (.int (-i)) s
    | _ => .no
  | .cmp o a b, env, s => (evE g a env s).bind fun x s => (evE g b env s).bind fun y s => .opt ((cmpop s o x y).map D.bl) s
  | .chain o o' a b c, env, s => (evE g a env s).bind fun x s => (evE g b env s).bind fun y s => opt1 (cmpop s o x y) fun r =>
    if r then (evE g c env s).bind fun z s => .opt ((cmpop s o' y z).map D.bl) s else .ok (.bl false) s
  | .and es, env, s => evAnd g es env s
  | .or es, env, s => evOr g es env s
  | .not a, env, s => (evE g a env s).bind fun x s => .opt ((truthy s x).map fun b => D.bl (!b)) s
  | .ite c a b, env, s => (evE g c env s).bind fun x s => opt1 (truthy s x) fun r => if r then evE g a env s else evE g b env s
  | .tup es, env, s => (evEs g es env s).bind fun xs s => .ok (.tup xs) s
  | .lst m es, env, s => (evEs g es env s).bind fun xs s => newL m xs s
  | .dct ks vs, env, s => (evEs g vs env s).bind fun ys s => if ks.all keyOk && decide (ks.length = ys.length) then .ok (.ref s.length) (s ++ [.dct ((ks.zip ys).foldl (fun acc p => putD p.1 p.2 acc) [])]) else .no
  | .setdef a k v, env, s => (evE g a env s).bind fun x s => if (dctOf s x).isSome then (evE g k env s).bind fun y s => (evE g v env s).bind fun z s => setdefD s x y z else .no
  | .idx a b, env, s => (evE g a env s).bind fun x s => (evE g b env s).bind fun y s => .opt (indexS s x y) s
  | .slc m a lo hi, env, s => (evE g a env s).bind fun x s => (evO g lo env s).bind fun l s => (evO g hi env s).bind fun h s => slF m x l h s
  | .fld a f, env, s => (evE g a env s).bind fun x s => .opt (field g s x f) s
  | .call f es, env, s => (evEs g es env s).bind fun xs s => g.call f (fill (g.np f) xs (g.dfl f)) s
  | .callK f es ks kes, env, s => (evEs g es env s).bind fun xs s => (evEs g kes env s).bind fun ys s => opt1 (fillK (g.np f) xs (g.dfl f) ks ys) fun zs => g.call f zs s
  | .meth m a es, env, s => (evE g a env s).bind fun x s => (evEs g es env s).bind fun xs s => methD g m x xs s
  | .make c es, env, s => (evEs g es env s).bind fun xs s => makeD g c xs s
  | .bi b es, env, s => (evEs g es env s).bind fun xs s => .opt (bfn s b xs) s
  | .li b m a, env, s => (evE g a env s).bind fun x s => opt1 (lfn s b x) fun xs => newL m xs s
  | .bm b a es, env, s => (evE g a env s).bind fun x s => if (lstOf s x).isSome then (evEs g es env s).bind fun xs s => bmf s b x xs else .no
  | .isi a ts, env, s => (evE g a env s).bind fun x s => .opt ((tyAny g s x ts).map D.bl) s
  | .xfld i f, env, s => opt1 (getE env i) fun x => .opt (xfield g x f) s
  | .xisi i t, env, s => opt1 (getE env i) fun x => .opt ((xis g x t).map D.bl) s
  | .dget a k, env, s => (evE g a env s).bind fun x s => (evE g k env s).bind fun y s => .opt (dgetD s x y) s
  | .din n k a, env, s => (evE g k env s).bind fun y s => (evE g a env s).bind fun x s => .opt ((dinD s x y).map fun b => D.bl (if n then !b else b)) s
  | .comp m own elt t it ifs, env, s => (evI g it env s).bind fun p s =>
    (match compLoop (fun d s => opt1 (asgT t d (wipeE env own)) fun env' => (evAnd g ifs env' s).bind fun c s => opt1 (truthy s c) fun b =>
      if b then (evE g elt env' s).bind fun y s => .ok (some y) s else .ok none s) p.2 p.1 s with
    | .ok ys s => if ys.length ≤ LINE then newL m ys s else .no
    | _ => .no)
  | .comp2 m own own2 elt t it t2 it2, env, s => (evI g it env s).bind fun p s =>
    (match compLoop2 (fun d s => opt1 (asgT t d (wipeE env own)) fun env' => (evI g it2 env' s).bind fun p2 s =>
      compLoop (fun d s => opt1 (asgT t2 d (wipeE env' own2)) fun env'' => (evE g elt env'' s).bind fun y s => .ok (some y) s) p2.2 p2.1 s) p.2 p.1 s with
    | .ok ys s => if ys.length ≤ LINE then newL m ys s else .no
    | _ => .no)
def evEs (g : G) : List E → Env → Sto → R (List D)
  | [], _, s => .ok [] s
  | e :: es, env, s => (evE g e env s).bind fun x s => (evEs g es env s).bind fun xs s => .ok (x :: xs) s
def evO (g : G) : Option E → Env → Sto → R (Option Int)
  | none, _, s => .ok none s
  | some e, env, s => (evE g e env s).bind fun x s => match x with
    | .int i => .ok (some i) s
    | _ => .no
/-- the tests of a clause, a chain of and: the empty one is True -/
def evAnd (g : G) : List E → Env → Sto → R D
  | [], _, s => .ok (.bl true) s
  | [e], env, s => evE g e env s
  | e :: es, env, s => (evE g e env s).bind fun x s => opt1 (truthy s x) fun b => if b then evAnd g es env s else .ok x s
def evOr (g : G) : List E → Env → Sto → R D
  | [], _, s => .ok (.bl false) s
  | [e], env, s => evE g e env s
  | e :: es, env, s => (evE g e env s).bind fun x s => opt1 (truthy s x) fun b => if b then .ok x s else evOr g es env s
/-- what is walked: the items, and what must stand meanwhile -/
def evI (g : G) : I → Env → Sto → R (List D × Gd)
  | .seq e, env, s => (evE g e env s).bind fun x s => match x with
    | .str xs => .ok (xs.map fun c => D.str [c], []) s
    | x => opt1 (seqOf s x) fun xs => .ok (xs, guardOf x xs) s
  | .range es, env, s => (evEs g es env s).bind fun xs s => match xs with
    | [.int n] => if smallI n then .ok (rangeD 0 n.toNat, []) s else .no
    | [.int a, .int b] => if smallI a && smallI b then .ok (rangeD a (b - a).toNat, []) s else .no
    | _ => .no
  | .enum e, env, s => (evE g e env s).bind fun x s => opt1 (seqOf s x) fun xs => .ok (enumD 0 xs, guardOf x xs) s
  | .zip es, env, s => (evEs g es env s).bind fun vs s => opt1 (vs.mapM (seqOf s)) fun xss =>
    if xss.length = 2 ∨ xss.length = 3 then .ok (zipD xss, (vs.zip xss).flatMap fun p => guardOf p.1 p.2) s else .no
  | .rev e, env, s => (evE g e env s).bind fun x s => opt1 (seqOf s x) fun xs => .ok (xs.reverse, guardOf x xs) s
end
/-! ### statements -/
inductive SR where
  | nx (env : Env) (s : Sto)
  | ret (d : D) (s : Sto)
  | brk (env : Env) (s : Sto)
  | cnt (env : Env) (s : Sto)
  | ex (c : Nat) (fs : List D) (env : Env) (s : Sto)
  | no
/-- an expression within a statement -/
def R.sr {α : Type} (r : R α) (env : Env) (f : α → Sto → SR) : SR := match r with
  | .ok a s => f a s
  | .ex c fs s => .ex c fs env s
  | .no => .no
@[simp] theorem R.sr_ok {α : Type} (a : α) (s : Sto) (env : Env) (f : α → Sto → SR) : (R.ok a s).sr env f = f a s := rfl
@[simp] theorem R.sr_ex {α : Type} (c : Nat) (fs : List D) (s : Sto) (env : Env) (f : α → Sto → SR) : (R.ex c fs s : R α).sr env f = .ex c fs env s := rfl
@[simp] theorem R.sr_no {α : Type} (env : Env) (f : α → Sto → SR) : (R.no : R α).sr env f = .no := rfl
def opt2 {α : Type} (o : Option α) (f : α → SR) : SR := match o with
  | some a => f a
  | none => .no
@[simp] theorem opt2_some {α : Type} (a : α) (f : α → SR) : opt2 (some a) f = f a := rfl
@[simp] theorem opt2_none {α : Type} (f : α → SR) : opt2 (none : Option α) f = .no := rfl
def SR.seq (r : SR) (k : Env → Sto → SR) : SR := match r with
  | .nx env s => k env s
  | r => r
@[simp] theorem SR.seq_nx (env : Env) (s : Sto) (k : Env → Sto → SR) : (SR.nx env s).seq k = k env s := rfl
@[simp] theorem SR.seq_ret (d : D) (s : Sto) (k : Env → Sto → SR) : (SR.ret d s).seq k = .ret d s := rfl
@[simp] theorem SR.seq_brk (env : Env) (s : Sto) (k : Env → Sto → SR) : (SR.brk env s).seq k = .brk env s := rfl
@[simp] theorem SR.seq_cnt (env : Env) (s : Sto) (k : Env → Sto → SR) : (SR.cnt env s).seq k = .cnt env s := rfl
@[simp] theorem SR.seq_ex (c : Nat) (fs : List D) (env : Env) (s : Sto) (k : Env → Sto → SR) : (SR.ex c fs env s).seq k = .ex c fs env s := rfl
@[simp] theorem SR.seq_no (k : Env → Sto → SR) : SR.no.seq k = .no := rfl
def forLoop (step : D → Env → Sto → SR) (g : Gd) : List D → Env → Sto → SR
  | [], env, s => if stands g s then .nx env s else .no
  | d :: ds, env, s => if stands g s then (match step d env s with
    | .nx env s => forLoop step g ds env s
    | .cnt env s => forLoop step g ds env s
    | .brk env s => .nx env s
    | r => r) else .no
def whileLoop (c : Env → Sto → R Bool) (b : Env → Sto → SR) : Nat → Env → Sto → SR
  | 0, _, _ => .no
  | n + 1, env, s => (c env s).sr env fun r s => if r then (match b env s with
    | .nx env s => whileLoop c b n env s
    | .cnt env s => whileLoop c b n env s
    | .brk env s => .nx env s
    | r => r) else .nx env s
def forgetE (env : Env) : List Nat → Env
  | [] => env
  | i :: is => forgetE (setE env i none) is
def setEs : Env → List Nat → List D → Env
  | env, i :: is, d :: ds => setEs (setE env i (some d)) is ds
  | env, _, _ => env
/-- behind an except suite: its name is gone -/
def SR.gone (r : SR) (slot : Option Nat) : SR := match r, slot with
  | .nx env s, some i => .nx (setE env i none) s
  | .brk env s, some i => .brk (setE env i none) s
  | .cnt env s, some i => .cnt (setE env i none) s
  | .ex .., _ => .no
  | r, _ => r
mutual
def exS (g : G) : S → Env → Sto → SR
  | .bad, _, _ => .no
  | .expr e, env, s => (evE g e env s).sr env fun _ s => .nx env s
  | .asg t e, env, s => (evE g e env s).sr env fun d s => opt2 (asgT t d env) fun env => .nx env s
  | .seti a i e, env, s => (evE g e env s).sr env fun v s => (evE g a env s).sr env fun o s => (evE g i env s).sr env fun k s => opt2 (setI s o k v) fun s => .nx env s
  | .setf o f e, env, s => (evE g e env s).sr env fun v s => (evE g o env s).sr env fun x s => opt2 (setFl g s x f v) fun s => .nx env s
  | .dput a k e, env, s => (evE g e env s).sr env fun v s => (evE g a env s).sr env fun o s => (evE g k env s).sr env fun y s => opt2 (dputD s o y v) fun s => .nx env s
  | .daug a k o e, env, s => (evE g a env s).sr env fun x s => (evE g k env s).sr env fun y s => opt2 (dgetD s x y) fun v => (evE g e env s).sr env fun u s => opt2 (binop s o v u) fun z => opt2 (dputD s x y z) fun s => .nx env s
  | .aug i o e, env, s => opt2 (getE env i) fun x => (evE g e env s).sr env fun y s => if augOk x y then opt2 (binop s o x y) fun z => .nx (setE env i (some z)) s else .no
  | .augi a i o e, env, s => (evE g a env s).sr env fun x s => (evE g i env s).sr env fun k s => opt2 (indexS s x k) fun v => (evE g e env s).sr env fun y s => opt2 (binop s o v y) fun z => opt2 (setI s x k z) fun s => .nx env s
  | .augf a f o e, env, s => (evE g a env s).sr env fun x s => opt2 (field g s x f) fun v => (evE g e env s).sr env fun y s => opt2 (binop s o v y) fun z => opt2 (setFl g s x f z) fun s => .nx env s
  | .par is es, env, s => (evEs g es env s).sr env fun vs s => .nx (setEs env is vs) s
  | .ret e, env, s => (evE g e env s).sr env fun d s => .ret d s
  | .retN, _, s => .ret .non s
  | .ife c a b, env, s => (evE g c env s).sr env fun x s => opt2 (truthy s x) fun r => if r then exB g a env s else exB g b env s
  | .forS t it body, env, s => (evI g it env s).sr env fun p s => forLoop (fun d env s => opt2 (asgT t d env) fun env => exB g body env s) p.2 p.1 env s
  | .whileS c body, env, s => whileLoop (fun env s => (evE g c env s).bind fun x s => .opt (truthy s x) s) (exB g body) WFUEL env s
  | .brk, env, s => .brk env s
  | .cnt, env, s => .cnt env s
  | .pass, env, s => .nx env s
  | .raise c es, env, s => (evEs g es env s).sr env fun vs s => .ex c vs env s
  | .tryS body hs, env, s => match exB g body env s with
    | .ex c fs env s => if exnG g c then exH g hs c fs env s else .no
    | r => r
  | .fgt is, env, s => .nx (forgetE env is) s
  | .frz i, env, s => match getE env i with
    | some (.ref p) => match s[p]? with
      | some (.lst xs) => .nx (setE env i (some (.lst xs))) (s.set p .dead)
      | _ => .no
    | _ => .no
def exB (g : G) : List S → Env → Sto → SR
  | [], env, s => .nx env s
  | st :: r, env, s => (exS g st env s).seq fun env s => exB g r env s
def exH (g : G) : List Hd → Nat → List D → Env → Sto → SR
  | [], c, fs, env, s => .ex c fs env s
  | .mk k slot body :: hs, c, fs, env, s => if g.sub c k then (exB g body (match slot with
      | some i => setE env i (some (.exc c fs))
      | none => env) s).gone slot else exH g hs c fs env s
end
/-! ### functions -/
/-- what a callee made is let go: what stood before stands, or is changed to something that holds nothing new -/
def gcOk (s s' : Sto) : Bool := decide (s.length ≤ s'.length) && (List.range s.length).all fun i => decide (s'[i]? = s[i]?) || (match s'[i]? with
  | some c => c.free
  | none => false)
/-- what is handed back, its own lists frozen -/
def deep (s : Sto) (n : Nat) : Nat → D → Option D
  | _, .non => some .non
  | _, .bl b => some (.bl b)
  | _, .int i => some (.int i)
  | _, .str x => some (.str x)
  | 0, _ => none
  | k + 1, .tup xs => (xs.mapM (deep s n k)).map D.tup
  | k + 1, .lst xs => (xs.mapM (deep s n k)).map D.lst
  | k + 1, .rcd c xs => (xs.mapM (deep s n k)).map (D.rcd c)
  | k + 1, .ref i => if i < n then some (.ref i) else match s[i]? with
    | some (.lst xs) => (xs.mapM (deep s n k)).map D.lst
    | _ => none
  | _, _ => none
/-- a new list that may change is handed back -/
def finM (s : Sto) (d : D) (s' : Sto) : R D := match d with
  | .ref k => match s'[k]? with
    | some c => if decide (s.length ≤ k) && c.free then .ok (.ref s.length) (s'.take s.length ++ [c]) else .no
    | none => .no
  | _ => .no
def finF (s : Sto) (d : D) (s' : Sto) : R D := match deep s' s.length 20 d with
  | some d => .ok d (s'.take s.length)
  | none => .no
def fin (mode : Nat) (s : Sto) (d : D) (s' : Sto) : R D :=
  if mode = 2 then .ok d s' else if gcOk s s' then (if d.free then .ok d (s'.take s.length) else if mode = 1 then finM s d s' else finF s d s') else .no
def finX (s : Sto) (c : Nat) (fs : List D) (s' : Sto) : R D :=
  if gcOk s s' && D.frees fs then .ex c fs (s'.take s.length) else .no
def runFn (g : G) (f : Fn) (args : List D) (s : Sto) : R D :=
  if args.length = f.np then (match exB g f.body (args.map some ++ List.replicate (f.ns - f.np) none) s with
    | .nx _ s' => fin f.mode s .non s'
    | .ret d s' => fin f.mode s d s'
    | .ex c fs _ s' => finX s c fs s'
    | _ => .no) else .no
def genv (P : Prog) (call : Nat → List D → Sto → R D) : G where
  call := call
  dfl := fun f => match P.fn f with
    | some x => x.dfl
    | none => []
  np := fun f => match P.fn f with
    | some x => x.np
    | none => 0
  cls := P.cls
  sub := P.sub
  glob := P.glob
def call (P : Prog) : Nat → Nat → List D → Sto → R D
  | 0, _, _, _ => .no
  | k + 1, f, args, s => match P.fn f with
    | some x => runFn (genv P (call P k)) x args s
    | none => .no
end MP
set_option autoImplicit false
set_option linter.all false
/-! MPb: how the small language's values lie in the hand layer's heaps. -/
namespace MP
open PySem PySem.Spec PyProof.Rows L2

/-- the text's names: classes, attributes -/
structure Tab where
  cnm : Nat → Str
  anm : Nat → Str
  fnm : Nat → Str
  gnm : Nat → Str
  pn : List (Addr × Obj)

/-- where things stand: the cells' addresses, what never changes again, a suite's exception -/
structure Wd where
  mu : List Addr
  fz : Addr → Prop
  pn : List (Addr × Obj)

section
variable (K : PySem.W.Frag) (T : Tab) (P : Prog)
def ca (c : Nat) : Addr := He.ga K (T.cnm c)
/-- the script's list, as it lies in the text's part -/
def KScr (a : Addr) (ns : List Int) : Prop := ∃ (o : Obj) (its : Array Value) (n : Nat), K.lookup a = some o ∧ o.cls = .type "list" ∧ o.dict = none ∧ o.data = .seq its n ∧ its.size ≤ sizeLine ∧ Vals (ns.map V.int) its.toList
def fldsV (c : Nat) (vs : List V) : List (Str × V) := match P.cls c with
  | some k => (k.flds.map T.anm).zip vs
  | none => []
mutual
inductive Rep (w : Wd) (H : Hp) : D → V → Prop
  | non : Rep w H .non .non
  | bl (b : Bool) : Rep w H (.bl b) (.bl b)
  | int (i : Int) : Rep w H (.int i) (.int i)
  | str (x : List Nat) : Rep w H (.str x) (.str ⟨x.toArray⟩)
  | tup {a : Addr} {ds : List D} {vs : List V} (f : w.fz a) (h : H a = some (.tup vs)) (r : Reps w H ds vs) : Rep w H (.tup ds) (.ref a)
  | lst {a : Addr} {ds : List D} {vs : List V} (f : w.fz a) (h : H a = some (.lst vs)) (r : Reps w H ds vs) : Rep w H (.lst ds) (.ref a)
  | scr {a : Addr} {ns : List Int} (q : (w.fz a ∧ ∃ o, H a = some (.frz o (.lst (ns.map V.int)))) ∨ KScr K a ns) : Rep w H (.scr ns) (.ref a)
  | rcd {a dx : Addr} {c : Nat} {k : Cls} {ds : List D} {vs : List V} (f : w.fz a) (hc : P.cls c = some k) (hx : k.exn = false) (hl : k.flds.length = ds.length) (h : H a = some (.ins (ca K T c) dx ((k.flds.map T.anm).zip vs))) (r : Reps w H ds vs) : Rep w H (.rcd c ds) (.ref a)
  | ref {a : Addr} {i : Nat} (h : w.mu[i]? = some a) : Rep w H (.ref i) (.ref a)
  | exc0 {a : Addr} {c : Nat} {oe : Obj} (h : (a, oe) ∈ T.pn) (hc : oe.cls = .ref (ca K T c)) (hd : oe.dict = none) : Rep w H (.exc c []) (.ref a)
  | exc1 {a d : Addr} {c : Nat} {k : Cls} {f : Nat} {x : D} {v : V} {oe : Obj} (h : (a, oe) ∈ T.pn) (hc : oe.cls = .ref (ca K T c)) (hd : oe.dict = some d) (fd : w.fz d) (hk : P.cls c = some k) (hf : k.flds = [f]) (hx : H d = some (.xd [(T.anm f, v)])) (r : Rep w H x v) : Rep w H (.exc c [x]) (.ref a)
inductive Reps (w : Wd) (H : Hp) : List D → List V → Prop
  | nil : Reps w H [] []
  | cons {d : D} {v : V} {ds : List D} {vs : List V} (h : Rep w H d v) (t : Reps w H ds vs) : Reps w H (d :: ds) (v :: vs)
end
end

/-- what never changes again stands (all that values ask) -/
structure Lr (w w' : Wd) (H H' : Hp) : Prop where
  mu : ∃ t, w'.mu = w.mu ++ t
  fz : ∀ a, w.fz a → w'.fz a
  pn : w'.pn = w.pn
  st : ∀ a, w.fz a → H' a = H a
/-- .. and what is none of ours stands, too; more may stand -/
structure Le (w w' : Wd) (H H' : Hp) : Prop where
  mu : ∃ t, w'.mu = w.mu ++ t ∧ ∀ a ∈ t, H a = none
  fz : ∀ a, w.fz a → w'.fz a
  nf : ∀ a, w'.fz a → w.fz a ∨ H a = none ∨ a ∈ w.mu
  pn : w'.pn = w.pn
  st : ∀ a, w.fz a → H' a = H a
  un : ∀ a, H a ≠ none → a ∉ w.mu → H' a = H a
  up : ∀ a, H a ≠ none → H' a ≠ none
theorem Le.r {w w' : Wd} {H H' : Hp} (l : Le w w' H H') : Lr w w' H H' := ⟨let ⟨t, e, _⟩ := l.mu; ⟨t, e⟩, l.fz, l.pn, l.st⟩
theorem Le.refl (w : Wd) (H : Hp) : Le w w H H := ⟨⟨[], by simp, fun _ h => by cases h⟩, fun _ h => h, fun _ h => .inl h, rfl, fun _ _ => rfl, fun _ _ _ => rfl, fun _ h => h⟩
theorem Le.gone {w w' : Wd} {H H' : Hp} (l : Le w w' H H') {a : Addr} (h : H' a = Option.none) : H a = Option.none := by
  cases e : H a with
  | none => rfl
  | some o => exact absurd h (l.up a (by rw [e]; exact fun z => nomatch z))
theorem Le.trans {w w1 w2 : Wd} {H H1 H2 : Hp} (a : Le w w1 H H1) (b : Le w1 w2 H1 H2) : Le w w2 H H2 := by
  have a0 := a
  obtain ⟨⟨t, e, g⟩, f, n, p, s, u, q⟩ := a
  obtain ⟨⟨t', e', g'⟩, f', n', p', s', u', q'⟩ := b
  refine ⟨⟨t ++ t', by rw [e', e, List.append_assoc], fun x h => ?_⟩, fun a h => f' a (f a h), fun x h => ?_, p'.trans p, fun a h => (s' a (f a h)).trans (s a h), fun x h1 h2 => ?_, fun x h => q' x (q x h)⟩
  · rcases List.mem_append.mp h with h | h
    · exact g x h
    · exact a0.gone (g' x h)
  · rcases n' x h with h | h | h
    · exact n x h
    · exact .inr (.inl (a0.gone h))
    · rw [e] at h
      rcases List.mem_append.mp h with h | h
      · exact .inr (.inr h)
      · exact .inr (.inl (g x h))
  · have z := u x h1 h2
    refine (u' x (q x h1) fun h => ?_).trans z
    rw [e] at h
    rcases List.mem_append.mp h with h | h
    · exact h2 h
    · exact h1 (g x h)
theorem Lr.trans {w w1 w2 : Wd} {H H1 H2 : Hp} (a : Lr w w1 H H1) (b : Lr w1 w2 H1 H2) : Lr w w2 H H2 := by
  obtain ⟨⟨t, e⟩, f, p, s⟩ := a
  obtain ⟨⟨t', e'⟩, f', p', s'⟩ := b
  exact ⟨⟨t ++ t', by rw [e', e, List.append_assoc]⟩, fun a h => f' a (f a h), p'.trans p, fun a h => (s' a (f a h)).trans (s a h)⟩
theorem Lr.get {w w' : Wd} {H H' : Hp} (l : Lr w w' H H') {i : Nat} {a : Addr} (h : w.mu[i]? = some a) : w'.mu[i]? = some a := by
  obtain ⟨⟨t, e⟩, _, _, _⟩ := l
  rw [e, List.getElem?_append_left (List.getElem?_eq_some_iff.mp h).1]
  exact h
theorem Le.get {w w' : Wd} {H H' : Hp} (l : Le w w' H H') {i : Nat} {a : Addr} (h : w.mu[i]? = some a) : w'.mu[i]? = some a := l.r.get h
section
variable {K : PySem.W.Frag} {T : Tab} {P : Prog} {w w' : Wd} {H H' : Hp}
mutual
theorem Rep.mon (l : Lr w w' H H') : ∀ {d : D} {v : V}, Rep K T P w H d v → Rep K T P w' H' d v
  | _, _, .non => .non
  | _, _, .bl b => .bl b
  | _, _, .int i => .int i
  | _, _, .str x => .str x
  | _, _, .tup f h r => .tup (l.fz _ f) ((l.st _ f).trans h) (Reps.mon l r)
  | _, _, .lst f h r => .lst (l.fz _ f) ((l.st _ f).trans h) (Reps.mon l r)
  | _, _, .scr q => .scr (q.elim (fun z => .inl ⟨l.fz _ z.1, let ⟨o, h⟩ := z.2; ⟨o, (l.st _ z.1).trans h⟩⟩) .inr)
  | _, _, .rcd f hc hx hl h r => .rcd (l.fz _ f) hc hx hl ((l.st _ f).trans h) (Reps.mon l r)
  | _, _, .ref h => .ref (l.get h)
  | _, _, .exc0 h hc hd => .exc0 h hc hd
  | _, _, .exc1 h hc hd fd hk hf hx r => .exc1 h hc hd (l.fz _ fd) hk hf ((l.st _ fd).trans hx) (Rep.mon l r)
theorem Reps.mon (l : Lr w w' H H') : ∀ {ds : List D} {vs : List V}, Reps K T P w H ds vs → Reps K T P w' H' ds vs
  | _, _, .nil => .nil
  | _, _, .cons h t => .cons (Rep.mon l h) (Reps.mon l t)
end
theorem Rep.mono (l : Le w w' H H') {d : D} {v : V} (h : Rep K T P w H d v) : Rep K T P w' H' d v := h.mon l.r
theorem Reps.mono (l : Le w w' H H') {ds : List D} {vs : List V} (h : Reps K T P w H ds vs) : Reps K T P w' H' ds vs := h.mon l.r
theorem scr_sq {a : Addr} {ns : List Int} (q : (w.fz a ∧ ∃ o, H a = some (.frz o (.lst (ns.map V.int)))) ∨ KScr K a ns) : SqL K H a (ns.map V.int) := q.elim (fun z => let ⟨o, h⟩ := z.2; .inl (.inr ⟨o, h⟩)) .inr
theorem Reps.length : ∀ {ds : List D} {vs : List V}, Reps K T P w H ds vs → ds.length = vs.length
  | _, _, .nil => rfl
  | _, _, .cons _ t => by simp [Reps.length t]
theorem Reps.append : ∀ {ds es : List D} {vs us : List V}, Reps K T P w H ds vs → Reps K T P w H es us → Reps K T P w H (ds ++ es) (vs ++ us)
  | _, _, _, _, .nil, s => s
  | _, _, _, _, .cons h t, s => .cons h (Reps.append t s)
theorem Reps.get : ∀ {ds : List D} {vs : List V} {i : Nat} {d : D}, Reps K T P w H ds vs → ds[i]? = some d → ∃ v, vs[i]? = some v ∧ Rep K T P w H d v
  | _, _, _, _, .nil, e => by simp at e
  | _, _, 0, _, .cons h t, e => by simp at e; subst e; exact ⟨_, rfl, h⟩
  | _, _, i + 1, d, .cons _ t, e => by
    obtain ⟨v, h1, h2⟩ := Reps.get (i := i) (d := d) t (by simpa using e)
    exact ⟨v, by simpa using h1, h2⟩
theorem Reps.set {x : D} {y : V} (hx : Rep K T P w H x y) : ∀ {ds : List D} {vs : List V} (i : Nat), Reps K T P w H ds vs → Reps K T P w H (ds.set i x) (vs.set i y)
  | _, _, _, .nil => .nil
  | _, _, 0, .cons _ t => .cons hx t
  | _, _, i + 1, .cons h t => .cons h (Reps.set hx i t)
theorem Reps.take : ∀ {ds : List D} {vs : List V} (n : Nat), Reps K T P w H ds vs → Reps K T P w H (ds.take n) (vs.take n)
  | _, _, 0, _ => .nil
  | _, _, _ + 1, .nil => .nil
  | _, _, n + 1, .cons h t => .cons h (Reps.take n t)
theorem Reps.drop : ∀ {ds : List D} {vs : List V} (n : Nat), Reps K T P w H ds vs → Reps K T P w H (ds.drop n) (vs.drop n)
  | _, _, 0, r => r
  | _, _, _ + 1, .nil => .nil
  | _, _, n + 1, .cons _ t => Reps.drop n t
theorem Reps.rev : ∀ {ds : List D} {vs : List V}, Reps K T P w H ds vs → Reps K T P w H ds.reverse vs.reverse
  | _, _, .nil => .nil
  | _, _, .cons h t => by
    rw [List.reverse_cons, List.reverse_cons]
    exact (Reps.rev t).append (.cons h .nil)
theorem Reps.dropLast {ds : List D} {vs : List V} (h : Reps K T P w H ds vs) : Reps K T P w H ds.dropLast vs.dropLast := by
  rw [List.dropLast_eq_take, List.dropLast_eq_take, h.length]
  exact h.take _
theorem Reps.erase : ∀ {ds : List D} {vs : List V} (n : Nat), Reps K T P w H ds vs → Reps K T P w H (ds.eraseIdx n) (vs.eraseIdx n)
  | _, _, 0, .nil => .nil
  | _, _, 0, .cons _ t => t
  | _, _, _ + 1, .nil => .nil
  | _, _, n + 1, .cons h t => .cons h (Reps.erase n t)
theorem Reps.ints : ∀ {ns : List Int} {vs : List V}, Reps K T P w H (ns.map D.int) vs → vs = ns.map V.int
  | [], _, .nil => rfl
  | n :: ns, _, .cons h t => by
    cases h
    rw [Reps.ints t]
    rfl
theorem Reps.of_ints : ∀ (ns : List Int), Reps K T P w H (ns.map D.int) (ns.map V.int)
  | [] => .nil
  | n :: ns => .cons (.int n) (Reps.of_ints ns)
theorem Reps.rep {ds : List D} {vs : List V} (h : Reps K T P w H ds vs) : ∀ k : Nat, Reps K T P w H (List.replicate k ds).flatten (List.replicate k vs).flatten
  | 0 => .nil
  | k + 1 => by
    rw [List.replicate_succ, List.replicate_succ, List.flatten_cons, List.flatten_cons]
    exact h.append (Reps.rep h k)
theorem Reps.cut {ds : List D} {vs : List V} (h : Reps K T P w H ds vs) (lo hi : Option Int) : Reps K T P w H (MP.cut ds lo hi) (L2.cutV vs lo hi) := by
  have e : ∀ (n d : Nat) (o : Option Int), MP.sIx n d o = HT.sIx n d o := fun n d o => by cases o <;> rfl
  unfold MP.cut L2.cutV
  rw [e, e, h.length]
  exact (h.drop _).take _
theorem Reps.singleton {d : D} {vs : List V} (h : Reps K T P w H [d] vs) : ∃ v, vs = [v] ∧ Rep K T P w H d v := by
  cases h with
  | cons h t => cases t; exact ⟨_, rfl, h⟩
theorem Reps.two {d e : D} {vs : List V} (h : Reps K T P w H [d, e] vs) : ∃ v u, vs = [v, u] ∧ Rep K T P w H d v ∧ Rep K T P w H e u := by
  cases h with
  | cons h t =>
    obtain ⟨u, rfl, h'⟩ := t.singleton
    exact ⟨_, _, rfl, h, h'⟩
end

/-! ### the store -/
section
variable (K : PySem.W.Frag) (T : Tab) (P : Prog)
def keyD : D → Option Key
  | .int i => some (.inl i)
  | .str x => some (.inr ⟨x.toArray⟩)
  | _ => none
inductive KvR (w : Wd) (H : Hp) : List (D × D) → List (Key × V) → Prop
  | nil : KvR w H [] []
  | cons {d e : D} {k : Key} {v : V} {r : List (D × D)} {s : List (Key × V)} (hk : keyD d = some k) (h : Rep K T P w H e v) (t : KvR w H r s) : KvR w H ((d, e) :: r) ((k, v) :: s)
inductive FsR (w : Wd) (H : Hp) : List (Nat × D) → List (Str × V) → Prop
  | nil : FsR w H [] []
  | cons {f : Nat} {e : D} {v : V} {r : List (Nat × D)} {s : List (Str × V)} (h : Rep K T P w H e v) (t : FsR w H r s) : FsR w H ((f, e) :: r) ((T.anm f, v) :: s)
def CellR (w : Wd) (H : Hp) (a : Addr) : Cell → Prop
  | .lst xs => ∃ vs, H a = some (.lst vs) ∧ Reps K T P w H xs vs
  | .dct kvs => ∃ ks, H a = some (.dK ks) ∧ KvR K T P w H kvs ks
  | .ins c fs => ∃ dx gs k, H a = some (.ins (ca K T c) dx gs) ∧ FsR K T P w H fs gs ∧ P.cls c = some k ∧ k.exn = false ∧ ∀ p ∈ fs, p.1 ∈ k.flds
  | .dead => True
structure SRel (w : Wd) (H : Hp) (s : Sto) : Prop where
  len : w.mu.length = s.length
  cell : ∀ (i : Nat) (c : Cell) (a : Addr), s[i]? = some c → w.mu[i]? = some a → c ≠ .dead → ¬ w.fz a ∧ CellR K T P w H a c
  inj : ∀ (i j : Nat) (c c' : Cell) (a : Addr), s[i]? = some c → s[j]? = some c' → c ≠ .dead → c' ≠ .dead → w.mu[i]? = some a → w.mu[j]? = some a → i = j
  fz : ∀ a, w.fz a → H a ≠ none
  all : ∀ a ∈ w.mu, H a ≠ none
def ERel (w : Wd) (H : Hp) (env : Env) (σ : L2.St) : Prop := env.length = σ.length ∧ ∀ (i : Nat) (d : D), getE env i = some d → ∃ v, σ[i]? = some (some v) ∧ Rep K T P w H d v
end
section
variable {K : PySem.W.Frag} {T : Tab} {P : Prog} {w w' : Wd} {H H' : Hp} {s : Sto}
theorem KvR.mon (l : Lr w w' H H') : ∀ {ds : List (D × D)} {vs : List (Key × V)}, KvR K T P w H ds vs → KvR K T P w' H' ds vs
  | _, _, .nil => .nil
  | _, _, .cons hk h t => .cons hk (h.mon l) (KvR.mon l t)
theorem FsR.mon (l : Lr w w' H H') : ∀ {ds : List (Nat × D)} {vs : List (Str × V)}, FsR K T P w H ds vs → FsR K T P w' H' ds vs
  | _, _, .nil => .nil
  | _, _, .cons h t => .cons (h.mon l) (FsR.mon l t)
theorem CellR.mon (l : Lr w w' H H') {a : Addr} {c : Cell} (e : H' a = H a) (h : CellR K T P w H a c) : CellR K T P w' H' a c := by
  cases c with
  | lst xs => obtain ⟨vs, h1, h2⟩ := h; exact ⟨vs, e.trans h1, h2.mon l⟩
  | dct kvs => obtain ⟨vs, h1, h2⟩ := h; exact ⟨vs, e.trans h1, h2.mon l⟩
  | ins c fs => obtain ⟨dx, vs, k, h1, h2, h3⟩ := h; exact ⟨dx, vs, k, e.trans h1, h2.mon l, h3⟩
  | dead => trivial
theorem CellR.mono (l : Le w w' H H') {a : Addr} {c : Cell} (e : H' a = H a) (h : CellR K T P w H a c) : CellR K T P w' H' a c := h.mon l.r e
theorem FsR.mono (l : Le w w' H H') {ds : List (Nat × D)} {vs : List (Str × V)} (h : FsR K T P w H ds vs) : FsR K T P w' H' ds vs := h.mon l.r
theorem KvR.mono (l : Le w w' H H') {ds : List (D × D)} {vs : List (Key × V)} (h : KvR K T P w H ds vs) : KvR K T P w' H' ds vs := h.mon l.r
theorem ERel.mon (l : Lr w w' H H') {env : Env} {σ : L2.St} (h : ERel K T P w H env σ) : ERel K T P w' H' env σ :=
  ⟨h.1, fun i d e => let ⟨v, h1, h2⟩ := h.2 i d e; ⟨v, h1, h2.mon l⟩⟩
theorem ERel.mono (l : Le w w' H H') {env : Env} {σ : L2.St} (h : ERel K T P w H env σ) : ERel K T P w' H' env σ :=
  ⟨h.1, fun i d e => let ⟨v, h1, h2⟩ := h.2 i d e; ⟨v, h1, h2.mono l⟩⟩
theorem SRel.tracked (S : SRel K T P w H s) {i : Nat} {c : Cell} {a : Addr} (h : s[i]? = some c) (m : w.mu[i]? = some a) (nd : c ≠ .dead) : ∃ o, H a = some o := by
  have q := (S.cell i c a h m nd).2
  cases c with
  | lst xs => obtain ⟨vs, h1, h2⟩ := q; exact ⟨_, h1⟩
  | dct kvs => obtain ⟨vs, h1, h2⟩ := q; exact ⟨_, h1⟩
  | ins c fs => obtain ⟨dx, vs, k, h1, h2⟩ := q; exact ⟨_, h1⟩
  | dead => exact absurd rfl nd
theorem SRel.addr (S : SRel K T P w H s) {i : Nat} {c : Cell} (h : s[i]? = some c) : ∃ a, w.mu[i]? = some a := by
  have h1 := (List.getElem?_eq_some_iff.mp h).1
  rw [← S.len] at h1
  exact ⟨_, List.getElem?_eq_getElem h1⟩
/-- a new thing that never changes -/
def Wd.ice (w : Wd) (p : Addr) : Wd := { w with fz := fun a => w.fz a ∨ a = p }
/-- a new cell -/
def Wd.new (w : Wd) (p : Addr) : Wd := { w with mu := w.mu ++ [p] }
theorem SRel.fresh (S : SRel K T P w H s) {p : Addr} (h : H p = none) : ¬ w.fz p := fun q => S.fz p q h
theorem upd_some {p a : Addr} {o : HO} (q : H a ≠ none) : upd H p o a ≠ none := by
  by_cases e : a = p
  · rw [e, upd_same]; exact fun z => nomatch z
  · rw [upd_ne e]; exact q
theorem le_ice {p : Addr} {o : HO} (S : SRel K T P w H s) (h : H p = none) : Le w (w.ice p) H (upd H p o) :=
  ⟨⟨[], by simp [Wd.ice], fun _ h => by cases h⟩, fun _ q => .inl q, fun a q => q.elim .inl fun e => .inr (.inl (by rw [e]; exact h)), rfl, fun a q => upd_ne fun (e : a = p) => S.fresh h (by rw [← e]; exact q),
    fun a q _ => upd_ne fun (e : a = p) => q (by rw [e]; exact h), fun a q => upd_some q⟩
theorem le_new {p : Addr} {o : HO} (S : SRel K T P w H s) (h : H p = none) : Le w (w.new p) H (upd H p o) :=
  ⟨⟨[p], rfl, fun a q => by rw [List.mem_singleton.mp q]; exact h⟩, fun _ q => q, fun a q => .inl q, rfl, fun a q => upd_ne fun (e : a = p) => S.fresh h (by rw [← e]; exact q),
    fun a q _ => upd_ne fun (e : a = p) => q (by rw [e]; exact h), fun a q => upd_some q⟩
theorem SRel.ice {p : Addr} {o : HO} (S : SRel K T P w H s) (h : H p = none) : SRel K T P (w.ice p) (upd H p o) s := by
  have l := le_ice (o := o) S h
  refine ⟨S.len, fun i c a h1 h2 nd => ?_, S.inj, fun a q => ?_, fun a q => upd_some (S.all a q)⟩
  · obtain ⟨n, q⟩ := S.cell i c a h1 h2 nd
    obtain ⟨u, hu⟩ := S.tracked h1 h2 nd
    have ne : a ≠ p := fun e => by rw [e, h] at hu; cases hu
    exact ⟨fun z => z.elim n ne, q.mono l (upd_ne ne)⟩
  · rcases q with q | q
    · rw [upd_ne (fun (e : a = p) => S.fresh h (by rw [← e]; exact q))]; exact S.fz a q
    · rw [q, upd_same]; exact fun z => nomatch z
/-- a cell is laid -/
theorem SRel.new {p : Addr} {o : HO} {c : Cell} (S : SRel K T P w H s) (h : H p = none) (hc : c ≠ .dead) (hcell : CellR K T P (w.new p) (upd H p o) p c) : SRel K T P (w.new p) (upd H p o) (s ++ [c]) := by
  have l := le_new (o := o) S h
  have old : ∀ (i : Nat) (a : Addr), i < s.length → (w.mu ++ [p])[i]? = some a → w.mu[i]? = some a := fun i a hi e => by
    rwa [List.getElem?_append_left (by rw [S.len]; exact hi)] at e
  have last : ∀ (i : Nat) (c' : Cell), (s ++ [c])[i]? = some c' → i < s.length ∧ s[i]? = some c' ∨ i = s.length ∧ c' = c := fun i c' e => by
    by_cases hi : i < s.length
    · rw [List.getElem?_append_left hi] at e; exact .inl ⟨hi, e⟩
    · have z := (List.getElem?_eq_some_iff.mp e).1
      simp at z
      have z' : i = s.length := by omega
      subst z'
      simp at e
      exact .inr ⟨rfl, e.symm⟩
  have lastA : ∀ a : Addr, (w.mu ++ [p])[s.length]? = some a → a = p := fun a e => by
    rw [← S.len] at e; simp at e; exact e.symm
  refine ⟨by simp [Wd.new, S.len], fun i c' a h1 h2 nd => ?_, fun i j c1 c2 a h1 h2 n1 n2 m1 m2 => ?_, fun a q => ?_, fun a q => ?_⟩
  · rcases last i c' h1 with ⟨hi, e⟩ | ⟨rfl, rfl⟩
    · have e2 := old i a hi h2
      obtain ⟨n, q⟩ := S.cell i c' a e e2 nd
      obtain ⟨u, hu⟩ := S.tracked e e2 nd
      have ne : a ≠ p := fun e => by rw [e, h] at hu; cases hu
      exact ⟨n, q.mono l (upd_ne ne)⟩
    · have e2 := lastA a h2
      subst e2
      exact ⟨S.fresh h, hcell⟩
  · rcases last i c1 h1 with ⟨hi, e⟩ | ⟨rfl, rfl⟩ <;> rcases last j c2 h2 with ⟨hj, e'⟩ | ⟨rfl, rfl⟩
    · exact S.inj i j c1 c2 a e e' n1 n2 (old i a hi m1) (old j a hj m2)
    · obtain ⟨u, hu⟩ := S.tracked e (old i a hi m1) n1
      rw [lastA a m2, h] at hu; cases hu
    · obtain ⟨u, hu⟩ := S.tracked e' (old j a hj m2) n2
      rw [lastA a m1, h] at hu; cases hu
    · rfl
  · rw [upd_ne (fun (e : a = p) => S.fresh h (by rw [← e]; exact q))]; exact S.fz a q
  · rcases List.mem_append.mp q with q | q
    · exact upd_some (S.all a q)
    · rw [List.mem_singleton.mp q, upd_same]; exact fun z => nomatch z
/-- a cell is written -/
theorem le_put {i : Nat} {a : Addr} {c : Cell} {o : HO} (S : SRel K T P w H s) (hi : s[i]? = some c) (ha : w.mu[i]? = some a) (nd : c ≠ .dead) : Le w w H (upd H a o) :=
  ⟨⟨[], by simp, fun _ h => by cases h⟩, fun _ q => q, fun a q => .inl q, rfl, fun b q => upd_ne fun (e : b = a) => (S.cell i c a hi ha nd).1 (by rw [← e]; exact q),
    fun b q n => upd_ne fun (e : b = a) => n (by rw [e]; exact List.mem_of_getElem? ha), fun b q => upd_some q⟩
theorem SRel.put {i : Nat} {a : Addr} {c c' : Cell} {o : HO} (S : SRel K T P w H s) (hi : s[i]? = some c) (ha : w.mu[i]? = some a) (nd : c ≠ .dead) (nd' : c' ≠ .dead) (hc : CellR K T P w (upd H a o) a c') : SRel K T P w (upd H a o) (s.set i c') := by
  have l := le_put (o := o) S hi ha nd
  have hlt := (List.getElem?_eq_some_iff.mp hi).1
  have at_ : ∀ (j : Nat) (c1 : Cell), (s.set i c')[j]? = some c1 → (j = i ∧ c1 = c') ∨ (j ≠ i ∧ s[j]? = some c1) := fun j c1 e => by
    by_cases hj : j = i
    · subst hj
      rw [List.getElem?_set_self hlt] at e
      exact .inl ⟨rfl, (Option.some.inj e).symm⟩
    · rw [List.getElem?_set_ne (Ne.symm hj)] at e
      exact .inr ⟨hj, e⟩
  refine ⟨by simp [S.len], fun j c1 b h1 h2 n1 => ?_, fun j k c1 c2 b h1 h2 n1 n2 m1 m2 => ?_, fun b q => ?_, fun b q => upd_some (S.all b q)⟩
  · rcases at_ j c1 h1 with ⟨rfl, rfl⟩ | ⟨hj, e⟩
    · rw [ha] at h2; cases h2
      exact ⟨(S.cell j c a hi ha nd).1, hc⟩
    · obtain ⟨n, q⟩ := S.cell j c1 b e h2 n1
      have ne : b ≠ a := fun z => hj (S.inj j i c1 c b e hi n1 nd h2 (z ▸ ha))
      exact ⟨n, q.mono l (upd_ne ne)⟩
  · rcases at_ j c1 h1 with ⟨rfl, rfl⟩ | ⟨hj, e⟩ <;> rcases at_ k c2 h2 with ⟨rfl, rfl⟩ | ⟨hk, e'⟩
    · rfl
    · exact S.inj j k c c2 b hi e' nd n2 m1 m2
    · exact S.inj j k c1 c b e hi n1 nd m1 m2
    · exact S.inj j k c1 c2 b e e' n1 n2 m1 m2
  · rw [upd_ne fun (e : b = a) => (S.cell i c a hi ha nd).1 (by rw [← e]; exact q)]; exact S.fz b q
/-- a cell stands for good -/
theorem SRel.kill {i : Nat} {a : Addr} {xs : List D} (S : SRel K T P w H s) (hi : s[i]? = some (.lst xs)) (ha : w.mu[i]? = some a) :
    Le w (w.ice a) H H ∧ SRel K T P (w.ice a) H (s.set i .dead) ∧ Rep K T P (w.ice a) H (.lst xs) (.ref a) := by
  have l : Le w (w.ice a) H H := ⟨⟨[], by simp [Wd.ice], fun _ h => by cases h⟩, fun _ q => .inl q, fun b q => q.elim .inl fun e => .inr (.inr (by rw [e]; exact List.mem_of_getElem? ha)), rfl, fun _ _ => rfl, fun _ _ _ => rfl, fun _ q => q⟩
  obtain ⟨n0, vs, hv, hr⟩ := S.cell i _ a hi ha (fun z => nomatch z)
  have hlt := (List.getElem?_eq_some_iff.mp hi).1
  have at_ : ∀ (j : Nat) (c1 : Cell), (s.set i .dead)[j]? = some c1 → c1 ≠ .dead → j ≠ i ∧ s[j]? = some c1 := fun j c1 e nd => by
    by_cases hj : j = i
    · subst hj
      rw [List.getElem?_set_self hlt] at e
      exact absurd (Option.some.inj e).symm nd
    · rw [List.getElem?_set_ne (Ne.symm hj)] at e
      exact ⟨hj, e⟩
  refine ⟨l, ⟨by simpa [Wd.ice] using S.len, fun j c1 b h1 h2 n1 => ?_, fun j k c1 c2 b h1 h2 n1 n2 m1 m2 => S.inj j k c1 c2 b (at_ j c1 h1 n1).2 (at_ k c2 h2 n2).2 n1 n2 m1 m2, fun b q => ?_, S.all⟩, .lst (.inr rfl) hv (hr.mono l)⟩
  · obtain ⟨hj, e⟩ := at_ j c1 h1 n1
    obtain ⟨n, q⟩ := S.cell j c1 b e h2 n1
    exact ⟨fun z => z.elim n fun z => hj (S.inj j i c1 _ b e hi n1 (fun z => nomatch z) h2 (z ▸ ha)), q.mono l rfl⟩
  · rcases q with q | q
    · exact S.fz b q
    · rw [q, hv]; exact fun z => nomatch z
/-- what is none of ours is laid or written -/
theorem SRel.aside {p : Addr} {o : HO} (S : SRel K T P w H s) (h1 : p ∉ w.mu) (h2 : ¬ w.fz p) : Lr w w H (upd H p o) ∧ SRel K T P w (upd H p o) s := by
  have l : Lr w w H (upd H p o) := ⟨⟨[], by simp⟩, fun _ q => q, rfl, fun a q => upd_ne fun e => h2 (e ▸ q)⟩
  refine ⟨l, S.len, fun i c a hi ha nd => ?_, S.inj, fun a q => upd_some (S.fz a q), fun a q => upd_some (S.all a q)⟩
  obtain ⟨n, q⟩ := S.cell i c a hi ha nd
  exact ⟨n, q.mon l (upd_ne fun e => h1 (e ▸ List.mem_of_getElem? ha))⟩
theorem Le.aside {p : Addr} {o : HO} (l : Le w w' H H') (h : H p = none) (h2 : ¬ w.fz p) : Le w w' H (upd H' p o) :=
  ⟨l.mu, l.fz, l.nf, l.pn, fun a q => (upd_ne fun (e : a = p) => h2 (by rw [← e]; exact q)).trans (l.st a q), fun a q n => (upd_ne fun (e : a = p) => q (by rw [e]; exact h)).trans (l.un a q n), fun a q => upd_some (l.up a q)⟩
theorem Le.apart {p : Addr} (l : Le w w' H H') (h : H p ≠ none) (h1 : p ∉ w.mu) (h2 : ¬ w.fz p) : p ∉ w'.mu ∧ ¬ w'.fz p ∧ H' p = H p := by
  obtain ⟨t, e, g⟩ := l.mu
  refine ⟨fun q => ?_, fun q => ?_, l.un p h h1⟩
  · rw [e] at q
    exact (List.mem_append.mp q).elim h1 fun q => h (g p q)
  · rcases l.nf p q with q | q | q
    · exact h2 q
    · exact h q
    · exact h1 q
theorem SRel.out {p : Addr} (S : SRel K T P w H s) (h : H p = none) : p ∉ w.mu := fun q => S.all p q h
end
end MP
set_option autoImplicit false
set_option linter.all false
set_option maxRecDepth 10000
/-! MPc: expressions: what is wanted of a value, and the rules. -/
namespace MP
open PySem PySem.Spec PyProof.Rows L2

section
variable (K : PySem.W.Frag) (T : Tab) (P : Prog)
/-- an exception as it lies -/
def XR (w : Wd) (H : Hp) (c : Nat) (fs : List D) (cls : Value) (dd : Option Addr) : Prop :=
  cls = .ref (ca K T c) ∧ ((fs = [] ∧ dd = none) ∨ ∃ (x : D) (v : V) (d : Addr) (k : Cls) (f : Nat), fs = [x] ∧ dd = some d ∧ w.fz d ∧ P.cls c = some k ∧ k.flds = [f] ∧ H d = some (.xd [(T.anm f, v)]) ∧ Rep K T P w H x v)
def Out {α β : Type} (rel : Wd → Hp → α → β → Prop) (w : Wd) (H : Hp) (σ : L2.St) (W : WX) (Q : β → Hp → Prop) (r : R α) : Prop := match r with
  | .ok d s' => ∀ v w' H', Le w w' H H' → SRel K T P w' H' s' → rel w' H' d v → Q v H'
  | .ex c fs s' => ∀ cls dd w' H', Le w w' H H' → SRel K T P w' H' s' → XR K T P w' H' c fs cls dd → W cls dd σ H'
  | .no => False
def tG {α β : Type} (rel : Wd → Hp → α → β → Prop) (f : Env → Sto → R α) (W : WX) : L2.St → Hp → (β → Hp → Prop) → Prop := fun σ H Q =>
  ∃ env s w, ERel K T P w H env σ ∧ SRel K T P w H s ∧ Out K T P rel w H σ W Q (f env s)
abbrev rOpt (_ : Wd) (_ : Hp) (a b : Option Int) : Prop := a = b
abbrev rBool (_ : Wd) (_ : Hp) (a b : Bool) : Prop := a = b
/-- an expression that does as f says -/
abbrev ME (X : Cx) (W : WX) (e : Expr) (f : Env → Sto → R D) : Prop := PE X e (tG K T P (Rep K T P) f W)
abbrev MA (X : Cx) (W : WX) (es : List Expr) (f : Env → Sto → R (List D)) : Prop := PA X es (tG K T P (Reps K T P) f W)
abbrev MT (X : Cx) (W : WX) (e : Expr) (f : Env → Sto → R Bool) : Prop := PT X e (tG K T P rBool f W)
abbrev MO (X : Cx) (W : WX) (e : Option Expr) (f : Env → Sto → R (Option Int)) : Prop := PO X e (tG K T P rOpt f W)
end
section
variable {K : PySem.W.Frag} {T : Tab} {P : Prog} {w w' : Wd} {H H' : Hp} {s : Sto} {σ : L2.St} {W : WX}
theorem XR.mono (l : Le w w' H H') {c : Nat} {fs : List D} {cls : Value} {dd : Option Addr} (h : XR K T P w H c fs cls dd) : XR K T P w' H' c fs cls dd := by
  obtain ⟨h1, h | ⟨x, v, d, k, f, e1, e2, e3, e4, e5, e6, e7⟩⟩ := h
  · exact ⟨h1, .inl h⟩
  · exact ⟨h1, .inr ⟨x, v, d, k, f, e1, e2, l.fz _ e3, e4, e5, (l.st _ e3).trans e6, e7.mono l⟩⟩
theorem Out.later {α β : Type} {rel : Wd → Hp → α → β → Prop} {Q : β → Hp → Prop} {r : R α} (l : Le w w' H H') (h : Out K T P rel w H σ W Q r) : Out K T P rel w' H' σ W Q r := by
  cases r with
  | ok d s' => exact fun v w2 H2 l2 => h v w2 H2 (l.trans l2)
  | ex c fs s' => exact fun cls dd w2 H2 l2 => h cls dd w2 H2 (l.trans l2)
  | no => exact h
theorem Out.bind {α β γ δ : Type} {rel : Wd → Hp → α → β → Prop} {rel2 : Wd → Hp → γ → δ → Prop} {Q : δ → Hp → Prop} {r : R α} {k : α → Sto → R γ} (h : Out K T P rel2 w H σ W Q (r.bind k)) :
    Out K T P rel w H σ W (fun v H' => ∃ w' d s', Le w w' H H' ∧ SRel K T P w' H' s' ∧ rel w' H' d v ∧ Out K T P rel2 w' H' σ W Q (k d s')) r := by
  cases r with
  | ok d s' => exact fun v w2 H2 l2 S2 r2 => ⟨w2, d, s', l2, S2, r2, h.later l2⟩
  | ex c fs s' => exact h
  | no => exact h
theorem Out.mono {α β : Type} {rel : Wd → Hp → α → β → Prop} {Q Q' : β → Hp → Prop} {r : R α} (h : Out K T P rel w H σ W Q r) (k : ∀ v w' H', Le w w' H H' → Q v H' → Q' v H') : Out K T P rel w H σ W Q' r := by
  cases r with
  | ok d s' => exact fun v w2 H2 l2 S2 r2 => k v w2 H2 l2 (h v w2 H2 l2 S2 r2)
  | ex c fs s' => exact h
  | no => exact h
/-- a value that is there -/
theorem Out.here {α β : Type} {rel : Wd → Hp → α → β → Prop} {Q : β → Hp → Prop} {d : α} {v : β} (h : Out K T P rel w H σ W Q (.ok d s)) (S : SRel K T P w H s) (r : rel w H d v) : Q v H := h v w H (Le.refl w H) S r
end
theorem R.bind_assoc {α β γ : Type} (r : R α) (f : α → Sto → R β) (g : β → Sto → R γ) : (r.bind f).bind g = r.bind fun a s => (f a s).bind g := by cases r <;> rfl
theorem _root_.L2.PE.imp {X : Cx} {e : Expr} {t t' : TE} (h : PE X e t) (k : ∀ σ H Q, t' σ H Q → t σ H Q) : PE X e t' := ⟨fun pins s σ H Q I q => h.run pins s σ H Q I (k σ H Q q)⟩
theorem _root_.L2.PT.imp {X : Cx} {e : Expr} {t t' : TT} (h : PT X e t) (k : ∀ σ H Q, t' σ H Q → t σ H Q) : PT X e t' := ⟨fun pins s σ H Q I q => h.run pins s σ H Q I (k σ H Q q)⟩
theorem _root_.L2.PA.imp {X : Cx} {e : List Expr} {t t' : TA} (h : PA X e t) (k : ∀ σ H Q, t' σ H Q → t σ H Q) : PA X e t' := ⟨fun pos pins s σ H Q I q => h.run pos pins s σ H Q I (k σ H Q q)⟩
theorem _root_.L2.PO.imp {X : Cx} {e : Option Expr} {t t' : TO} (h : PO X e t) (k : ∀ σ H Q, t' σ H Q → t σ H Q) : PO X e t' := ⟨fun pins s σ H Q I q => h.run pins s σ H Q I (k σ H Q q)⟩
theorem _root_.L2.PS.imp {X : Cx} {e : Stmt} {t t' : TS} (h : PS X e t) (k : ∀ D σ H, t' D σ H → t D σ H) : PS X e t' := ⟨fun pins s σ H D I q => h.run pins s σ H D I (k D σ H q)⟩
theorem _root_.L2.PSs.imp {X : Cx} {e : List Stmt} {t t' : TS} (h : PSs X e t) (k : ∀ D σ H, t' D σ H → t D σ H) : PSs X e t' := ⟨fun pins s σ H D I q => h.run pins s σ H D I (k D σ H q)⟩

theorem line_eq : LINE = sizeLine := sizeLine_eq.symm

/-! ### names, constants -/
section
variable {T : Tab} {P : Prog} {X : Cx} {W : WX} {pos : Pos}
theorem me_var {i : Nat} {x : Str} (hN : X.N[i]? = some x) (hv : Vis X.env.scope x) (hd : (x == ("__debug__" : Str)) = false) (hcd : (x == ("__classdict__" : Str)) = false) : ME X.K T P X W (.Name x pos) (fun env s => .opt (getE env i) s) := by
  refine (pe_var hN hv hd hcd).imp fun σ H Q h => ?_
  obtain ⟨env, s, w, E, S, o⟩ := h
  dsimp only at o
  cases e : getE env i with
  | none => rw [e] at o; exact o.elim
  | some d =>
    rw [e] at o
    obtain ⟨v, h1, h2⟩ := E.2 i d e
    exact ⟨v, h1, o.here S h2⟩
theorem me_c {e : Expr} {d : D} {v : V} (h : PE X e (tC v)) (r : ∀ w H, Rep X.K T P w H d v) : ME X.K T P X W e (fun _ s => .ok d s) := by
  refine h.imp fun σ H Q h => ?_
  obtain ⟨env, s, w, E, S, o⟩ := h
  exact o.here S (r w H)
theorem me_int {i : Int} {j : Nat} : ME X.K T P X W (.Constant (.int i) j pos) (fun _ s => .ok (.int i) s) := me_c pe_int fun _ _ => .int i
theorem me_bl {b : Bool} {j : Nat} : ME X.K T P X W (.Constant (.bool b) j pos) (fun _ s => .ok (.bl b) s) := me_c pe_bl fun _ _ => .bl b
theorem me_non {j : Nat} : ME X.K T P X W (.Constant .none j pos) (fun _ s => .ok .non s) := me_c pe_non fun _ _ => .non
theorem me_str {x : List Nat} {j : Nat} : ME X.K T P X W (.Constant (.str ⟨x.toArray⟩) j pos) (fun _ s => .ok (.str x) s) := me_c pe_str fun _ _ => .str x
theorem me_glob {x : Str} {i : Int} {t : Tok} (hg : Gl X x) (hm : X.mg x = some (.int i t)) (hd : (x == ("__debug__" : Str)) = false) : ME X.K T P X W (.Name x pos) (fun _ s => .ok (.int i) s) := me_c (v := .int i) (pe_glob hg hm ⟨_, rfl⟩ hd) fun _ _ => .int i

/-! ### two and one -/
variable {a b c : Expr} {fa fb fc : Env → Sto → R D}
/-- how an operation on two values does as f says -/
def OpM (T : Tab) (P : Prog) (X : Cx) (f : Value → Value → Sem Value) (g : Sto → D → D → Option D) : Prop :=
  OpR X f fun x y H Q => ∃ w s d e z, SRel X.K T P w H s ∧ Rep X.K T P w H d x ∧ Rep X.K T P w H e y ∧ g s d e = some z ∧ ∀ v w' H', Le w w' H H' → SRel X.K T P w' H' s → Rep X.K T P w' H' z v → Q v H'
theorem me_op2 {op : Operator} {g : Sto → D → D → Option D} (h : OpM T P X (binaryOp op) g) (ha : ME X.K T P X W a fa) (hb : ME X.K T P X W b fb) :
    ME X.K T P X W (.BinOp a op b pos) (fun env s => (fa env s).bind fun x s => (fb env s).bind fun y s => .opt (g s x y) s) := by
  refine (pe_op h ha hb).imp fun σ H Q q => ?_
  obtain ⟨env, s, w, E, S, o⟩ := q
  refine ⟨env, s, w, E, S, o.bind.mono fun x _ H1 _ q => ?_⟩
  obtain ⟨w1, d, s1, l1, S1, r1, o1⟩ := q
  refine ⟨env, s1, w1, E.mono l1, S1, o1.bind.mono fun y _ H2 _ q => ?_⟩
  obtain ⟨w2, e, s2, l2, S2, r2, o2⟩ := q
  cases z : g s2 d e with
  | none => rw [z] at o2; exact o2.elim
  | some z' =>
    rw [z] at o2
    exact ⟨w2, s2, d, e, z', S2, r1.mono l2, r2, z, o2⟩
theorem me_cmp2 {op : CmpOp} {g : Sto → D → D → Option Bool} (h : OpM T P X (compareOp op) fun s x y => (g s x y).map D.bl) (hm : behindInMarks op b = false) (ha : ME X.K T P X W a fa) (hb : ME X.K T P X W b fb) :
    ME X.K T P X W (.Compare a [op] [b] pos) (fun env s => (fa env s).bind fun x s => (fb env s).bind fun y s => .opt ((g s x y).map D.bl) s) := by
  refine (pe_cmpR h ha hb hm).imp fun σ H Q q => ?_
  obtain ⟨env, s, w, E, S, o⟩ := q
  refine ⟨env, s, w, E, S, o.bind.mono fun x _ H1 _ q => ?_⟩
  obtain ⟨w1, d, s1, l1, S1, r1, o1⟩ := q
  refine ⟨env, s1, w1, E.mono l1, S1, o1.bind.mono fun y _ H2 _ q => ?_⟩
  obtain ⟨w2, e, s2, l2, S2, r2, o2⟩ := q
  cases z : g s2 d e with
  | none => rw [z] at o2; exact o2.elim
  | some z' =>
    rw [z] at o2
    exact ⟨w2, s2, d, e, .bl z', S2, r1.mono l2, r2, by show (g s2 d e).map D.bl = _; rw [z]; rfl, o2⟩
/-- the truth of a value, as a test -/
def tru (f : Env → Sto → R D) : Env → Sto → R Bool := fun env s => (f env s).bind fun x s => .opt (truthy s x) s
theorem mt_cmp2 {op : CmpOp} {g : Sto → D → D → Option Bool} (h : OpM T P X (compareOp op) fun s x y => (g s x y).map D.bl) (hm : behindInMarks op b = false) (ha : ME X.K T P X W a fa) (hb : ME X.K T P X W b fb) :
    MT X.K T P X W (.Compare a [op] [b] pos) (tru fun env s => (fa env s).bind fun x s => (fb env s).bind fun y s => .opt ((g s x y).map D.bl) s) := by
  refine (pt_cmpR h ha hb hm).imp fun σ H Q q => ?_
  obtain ⟨env, s, w, E, S, o⟩ := q
  simp only [tru, R.bind_assoc] at o
  refine ⟨env, s, w, E, S, o.bind.mono fun x _ H1 _ q => ?_⟩
  obtain ⟨w1, d, s1, l1, S1, r1, o1⟩ := q
  refine ⟨env, s1, w1, E.mono l1, S1, o1.bind.mono fun y _ H2 _ q => ?_⟩
  obtain ⟨w2, e, s2, l2, S2, r2, o2⟩ := q
  cases z : g s2 d e with
  | none => rw [z] at o2; exact o2.elim
  | some z' =>
    rw [z] at o2
    refine ⟨w2, s2, d, e, .bl z', S2, r1.mono l2, r2, by show (g s2 d e).map D.bl = _; rw [z]; rfl, fun v w3 H3 l3 S3 r3 => ?_⟩
    cases r3
    exact ⟨z', rfl, o2 z' w3 H3 l3 S3 rfl⟩
theorem truV_of {w : Wd} {H : Hp} {s : Sto} {d : D} {x : V} {k : Bool} (S : SRel X.K T P w H s) (r : Rep X.K T P w H d x) (h : truthy s d = some k) : TruV X.K x H k := by
  have em : ∀ {ds : List D} {vs : List V}, Reps X.K T P w H ds vs → ds.isEmpty = vs.isEmpty := fun r => by cases r <;> rfl
  cases r with
  | non => exact (Option.some.inj h).symm
  | bl b => exact (Option.some.inj h).symm
  | int i => exact (Option.some.inj h).symm
  | str z =>
    simp only [truthy] at h
    split at h
    · rename_i hz
      refine ⟨by rw [← line_eq]; simpa [PySem.Str.length] using hz, ?_⟩
      rw [← Option.some.inj h]
      cases z <;> rfl
    · cases h
  | tup f hh rr =>
    have e := Option.some.inj h
    rw [em rr] at e
    exact .inr (.inl ⟨_, SqT.of hh, e.symm⟩)
  | lst f hh rr =>
    have e := Option.some.inj h
    rw [em rr] at e
    exact .inl ⟨_, SqL.of hh, e.symm⟩
  | scr q => cases h
  | rcd f hc hx hl hh rr => cases h
  | ref hh =>
    rename_i i
    simp only [truthy] at h
    split at h
    · rename_i xs e
      have e2 := Option.some.inj h
      obtain ⟨_, vs, hv, rr⟩ := S.cell _ _ _ e hh (fun z => nomatch z)
      rw [em rr] at e2
      exact .inl ⟨_, SqL.of hv, e2.symm⟩
    · cases h
  | exc0 => cases h
  | exc1 => cases h

/-! ### truth -/
theorem mt_of (ha : ME X.K T P X W a fa) (he : ∀ whole, isTrue a X.env whole = (do let v ← whole; standAt a.pos; holding [v] (PySem.truthy v))) : MT X.K T P X W a (tru fa) := by
  refine (pt_truth ha he).imp fun σ H Q q => ?_
  obtain ⟨env, s, w, E, S, o⟩ := q
  refine ⟨env, s, w, E, S, o.bind.mono fun x _ H1 _ q => ?_⟩
  obtain ⟨w1, d, s1, l1, S1, r1, o1⟩ := q
  cases z : MP.truthy s1 d with
  | none => rw [z] at o1; exact o1.elim
  | some k => rw [z] at o1; exact ⟨k, truV_of S1 r1 z, o1.here S1 rfl⟩
/-- not -/
def nt (f : Env → Sto → R D) : Env → Sto → R D := fun env s => (f env s).bind fun x s => .opt ((MP.truthy s x).map fun b => D.bl (!b)) s
theorem me_not (ha : ME X.K T P X W a fa) : ME X.K T P X W (.UnaryOp .Not a pos) (nt fa) := by
  refine (pe_notT ha).imp fun σ H Q q => ?_
  obtain ⟨env, s, w, E, S, o⟩ := q
  refine ⟨env, s, w, E, S, o.bind.mono fun x _ H1 _ q => ?_⟩
  obtain ⟨w1, d, s1, l1, S1, r1, o1⟩ := q
  cases z : MP.truthy s1 d with
  | none => rw [z] at o1; exact o1.elim
  | some k => rw [z] at o1; exact ⟨k, truV_of S1 r1 z, o1.here S1 (.bl _)⟩
theorem mt_not (ha : MT X.K T P X W a (tru fa)) : MT X.K T P X W (.UnaryOp .Not a pos) (tru (nt fa)) := by
  refine (pt_not ha).imp fun σ H Q q => ?_
  obtain ⟨env, s, w, E, S, o⟩ := q
  refine ⟨env, s, w, E, S, ?_⟩
  simp only [tru, nt, R.bind_assoc] at o ⊢
  cases r : fa env s with
  | no => rw [r] at o; exact o
  | ex c fs s1 => rw [r] at o; exact o
  | ok d s1 =>
    rw [r] at o
    simp only [R.bind_ok] at o ⊢
    cases z : MP.truthy s1 d with
    | none => rw [z] at o; exact o.elim
    | some k =>
      rw [z] at o
      intro v w1 H1 l1 S1 r1
      cases r1
      exact o (!k) w1 H1 l1 S1 rfl
/-- chains -/
def andF : List (Env → Sto → R D) → Env → Sto → R D
  | [], _, s => .ok (.bl true) s
  | [f], env, s => f env s
  | f :: fs, env, s => (f env s).bind fun x s => opt1 (MP.truthy s x) fun b => if b then andF fs env s else .ok x s
def orF : List (Env → Sto → R D) → Env → Sto → R D
  | [], _, s => .ok (.bl false) s
  | [f], env, s => f env s
  | f :: fs, env, s => (f env s).bind fun x s => opt1 (MP.truthy s x) fun b => if b then .ok x s else orF fs env s
abbrev MW (K : PySem.W.Frag) (T : Tab) (P : Prog) (X : Cx) (W : WX) (e : Expr) (f : Env → Sto → R Bool) : Prop := PW X e (tG K T P rBool f W)
variable {rest : List Expr} {f g : Env → Sto → R D} {fs : List (Env → Sto → R D)}
theorem me_and (ha : ME X.K T P X W a f) (hb : ME X.K T P X W (.BoolOp .And (b :: rest) pos) (andF (g :: fs))) : ME X.K T P X W (.BoolOp .And (a :: b :: rest) pos) (andF (f :: g :: fs)) := by
  refine (pe_andT ha hb).imp fun σ H Q q => ?_
  obtain ⟨env, s, w, E, S, o⟩ := q
  refine ⟨env, s, w, E, S, o.bind.mono fun x _ H1 _ q => ?_⟩
  obtain ⟨w1, d, s1, l1, S1, r1, o1⟩ := q
  cases z : MP.truthy s1 d with
  | none => rw [z] at o1; exact o1.elim
  | some k =>
    rw [z] at o1
    refine ⟨k, truV_of S1 r1 z, ?_⟩
    cases k with
    | true => rw [if_pos rfl]; exact ⟨env, s1, w1, E.mono l1, S1, o1⟩
    | false => rw [if_neg Bool.false_ne_true]; exact o1.here S1 r1
theorem me_or (ha : ME X.K T P X W a f) (hb : ME X.K T P X W (.BoolOp .Or (b :: rest) pos) (orF (g :: fs))) : ME X.K T P X W (.BoolOp .Or (a :: b :: rest) pos) (orF (f :: g :: fs)) := by
  refine (pe_orT ha hb).imp fun σ H Q q => ?_
  obtain ⟨env, s, w, E, S, o⟩ := q
  refine ⟨env, s, w, E, S, o.bind.mono fun x _ H1 _ q => ?_⟩
  obtain ⟨w1, d, s1, l1, S1, r1, o1⟩ := q
  cases z : MP.truthy s1 d with
  | none => rw [z] at o1; exact o1.elim
  | some k =>
    rw [z] at o1
    refine ⟨k, truV_of S1 r1 z, ?_⟩
    cases k with
    | true => rw [if_pos rfl]; exact o1.here S1 r1
    | false => rw [if_neg Bool.false_ne_true]; exact ⟨env, s1, w1, E.mono l1, S1, o1⟩
theorem mw_and (ha : MT X.K T P X W a (tru f)) (hb : MW X.K T P X W (.BoolOp .And (b :: rest) pos) (tru (andF (g :: fs)))) : MW X.K T P X W (.BoolOp .And (a :: b :: rest) pos) (tru (andF (f :: g :: fs))) := by
  refine ⟨fun whole pins s0 σ H Q I q => (pw_and ha hb).run whole pins s0 σ H Q I ?_⟩
  obtain ⟨env, s, w, E, S, o⟩ := q
  refine ⟨env, s, w, E, S, ?_⟩
  simp only [tru, andF, R.bind_assoc] at o ⊢
  cases r : f env s with
  | no => rw [r] at o; exact o
  | ex c fs s1 => rw [r] at o; exact o
  | ok d s1 =>
    rw [r] at o
    simp only [R.bind_ok] at o ⊢
    cases z : MP.truthy s1 d with
    | none => rw [z] at o; exact o.elim
    | some k =>
      rw [z] at o
      intro v w1 H1 l1 S1 r1
      cases r1
      cases k with
      | true => rw [if_pos rfl]; exact ⟨env, s1, w1, E.mono l1, S1, o.later l1⟩
      | false =>
        rw [if_neg Bool.false_ne_true]
        simp only [opt1_some, Bool.false_eq_true, if_false, R.bind_ok, z, R.opt_some] at o
        exact o false w1 H1 l1 S1 rfl
theorem mw_or (ha : MT X.K T P X W a (tru f)) (hb : MW X.K T P X W (.BoolOp .Or (b :: rest) pos) (tru (orF (g :: fs)))) : MW X.K T P X W (.BoolOp .Or (a :: b :: rest) pos) (tru (orF (f :: g :: fs))) := by
  refine ⟨fun whole pins s0 σ H Q I q => (pw_or ha hb).run whole pins s0 σ H Q I ?_⟩
  obtain ⟨env, s, w, E, S, o⟩ := q
  refine ⟨env, s, w, E, S, ?_⟩
  simp only [tru, orF, R.bind_assoc] at o ⊢
  cases r : f env s with
  | no => rw [r] at o; exact o
  | ex c fs s1 => rw [r] at o; exact o
  | ok d s1 =>
    rw [r] at o
    simp only [R.bind_ok] at o ⊢
    cases z : MP.truthy s1 d with
    | none => rw [z] at o; exact o.elim
    | some k =>
      rw [z] at o
      intro v w1 H1 l1 S1 r1
      cases r1
      cases k with
      | false => rw [if_neg Bool.false_ne_true]; exact ⟨env, s1, w1, E.mono l1, S1, o.later l1⟩
      | true =>
        rw [if_pos rfl]
        simp only [opt1_some, if_true, R.bind_ok, z, R.opt_some] at o
        exact o true w1 H1 l1 S1 rfl
theorem mw_and1 (ha : MT X.K T P X W a (tru f)) : MW X.K T P X W (.BoolOp .And [a] pos) (tru (andF [f])) := pw_and1 ha
theorem mw_or1 (ha : MT X.K T P X W a (tru f)) : MW X.K T P X W (.BoolOp .Or [a] pos) (tru (orF [f])) := pw_or1 ha
theorem me_and1 (ha : ME X.K T P X W a f) : ME X.K T P X W (.BoolOp .And [a] pos) (andF [f]) := pe_one ha
theorem me_or1 (ha : ME X.K T P X W a f) : ME X.K T P X W (.BoolOp .Or [a] pos) (orF [f]) := pe_one ha
/-- a if c else b -/
theorem me_ite (hc : MT X.K T P X W c (tru fc)) (ha : ME X.K T P X W a fa) (hb : ME X.K T P X W b fb) :
    ME X.K T P X W (.IfExp c a b pos) (fun env s => (fc env s).bind fun x s => opt1 (MP.truthy s x) fun r => if r then fa env s else fb env s) := by
  refine (pe_ifExp hc ha hb).imp fun σ H Q q => ?_
  obtain ⟨env, s, w, E, S, o⟩ := q
  refine ⟨env, s, w, E, S, ?_⟩
  simp only [tru] at o ⊢
  cases r : fc env s with
  | no => rw [r] at o; exact o
  | ex c fs s1 => rw [r] at o; exact o
  | ok d s1 =>
    rw [r] at o
    simp only [R.bind_ok] at o ⊢
    cases z : MP.truthy s1 d with
    | none => rw [z] at o; exact o.elim
    | some k =>
      rw [z] at o
      intro v w1 H1 l1 S1 r1
      cases r1
      cases k with
      | true => rw [if_pos rfl]; exact ⟨env, s1, w1, E.mono l1, S1, o.later l1⟩
      | false => rw [if_neg Bool.false_ne_true]; exact ⟨env, s1, w1, E.mono l1, S1, o.later l1⟩
/-- one more thing done with a value -/
theorem me_one {e : Expr} {t : TE} {k : D → Sto → R D} (ha : ME X.K T P X W a fa) (he : PE X e t)
    (h : ∀ σ H Q, tG X.K T P (Rep X.K T P) fa W σ H (fun v H1 => ∃ w d s, SRel X.K T P w H1 s ∧ Rep X.K T P w H1 d v ∧ (∃ env, ERel X.K T P w H1 env σ) ∧ Out X.K T P (Rep X.K T P) w H1 σ W Q (k d s)) → t σ H Q) :
    ME X.K T P X W e (fun env s => (fa env s).bind k) := by
  refine he.imp fun σ H Q q => h σ H Q ?_
  obtain ⟨env, s, w, E, S, o⟩ := q
  refine ⟨env, s, w, E, S, o.bind.mono fun x _ H1 _ q => ?_⟩
  obtain ⟨w1, d, s1, l1, S1, r1, o1⟩ := q
  exact ⟨w1, d, s1, S1, r1, ⟨env, E.mono l1⟩, o1⟩

/-! ### argument lists, displays -/
variable {es : List Expr} {e : Expr} {fl : Env → Sto → R (List D)}
theorem ma_nil : MA X.K T P X W [] (fun _ s => .ok [] s) := by
  refine pa_nil.imp fun σ H Q q => ?_
  obtain ⟨env, s, w, E, S, o⟩ := q
  exact o.here S .nil
theorem ma_cons (ha : ME X.K T P X W e f) (hr : MA X.K T P X W es fl) (hs : starEach (e :: es) X.env = (false, eval e X.env) :: starEach es X.env) :
    MA X.K T P X W (e :: es) (fun env s => (f env s).bind fun x s => (fl env s).bind fun xs s => .ok (x :: xs) s) := by
  refine (pa_cons ha hr hs).imp fun σ H Q q => ?_
  obtain ⟨env, s, w, E, S, o⟩ := q
  refine ⟨env, s, w, E, S, o.bind.mono fun x _ H1 _ q => ?_⟩
  obtain ⟨w1, d, s1, l1, S1, r1, o1⟩ := q
  refine ⟨env, s1, w1, E.mono l1, S1, o1.bind.mono fun xs _ H2 l2' q => ?_⟩
  obtain ⟨w2, ds, s2, l2, S2, r2, o2⟩ := q
  exact o2.here S2 (.cons (r1.mono l2) r2)
theorem out_ice {w : Wd} {H : Hp} {σ : L2.St} {Q : VK} {s : Sto} {d : D} {p : Addr} {o : HO} (h : Out X.K T P (Rep X.K T P) w H σ W Q (.ok d s)) (S : SRel X.K T P w H s) (hp : H p = none)
    (r : Rep X.K T P (w.ice p) (upd H p o) d (.ref p)) : Q (.ref p) (upd H p o) := h _ _ _ (le_ice S hp) (S.ice hp) r
theorem me_tup {k : Nat} (h : MA X.K T P X W es fl) (hl : ∀ env s xs s', fl env s = .ok xs s' → xs.length ≤ 1000) : ME X.K T P X W (.Tuple es k pos) (fun env s => (fl env s).bind fun xs s => .ok (.tup xs) s) := by
  refine (pe_tup h).imp fun σ H Q q => ?_
  obtain ⟨env, s, w, E, S, o⟩ := q
  refine ⟨env, s, w, E, S, ?_⟩
  dsimp only at o
  cases r : fl env s with
  | no => rw [r] at o; exact o
  | ex c fs s1 => rw [r] at o; exact o
  | ok ds s1 =>
    rw [r] at o
    intro xs w1 H1 l1 S1 r1
    have hlen := hl env s ds s1 r
    rw [r1.length] at hlen
    exact ⟨by rw [sizeLine_eq]; omega, fun p hp => out_ice (o.later l1) S1 hp (.tup (.inr rfl) upd_same (r1.mono (le_ice S1 hp)))⟩
/-- a new list: handed on as it is, or as a cell -/
theorem out_newL {w : Wd} {H : Hp} {σ : L2.St} {Q : VK} {s : Sto} {m : Bool} {ds : List D} {vs : List V} (h : Out X.K T P (Rep X.K T P) w H σ W Q (newL m ds s)) (S : SRel X.K T P w H s) (r : Reps X.K T P w H ds vs) (p : Addr) (hp : H p = none) :
    Q (.ref p) (upd H p (.lst vs)) := by
  cases m with
  | false => exact h _ _ _ (le_ice S hp) (S.ice hp) (.lst (.inr rfl) upd_same (r.mono (le_ice S hp)))
  | true =>
    refine h _ _ _ (le_new S hp) (S.new hp (fun z => nomatch z) ⟨vs, upd_same, r.mono (le_new S hp)⟩) (.ref ?_)
    show (w.mu ++ [p])[s.length]? = some p
    rw [← S.len]
    simp
theorem me_lst {m : Bool} (h : MA X.K T P X W es fl) (hl : ∀ env s xs s', fl env s = .ok xs s' → xs.length ≤ 1000) : ME X.K T P X W (.List es pos) (fun env s => (fl env s).bind fun xs s => newL m xs s) := by
  refine (pe_lst h).imp fun σ H Q q => ?_
  obtain ⟨env, s, w, E, S, o⟩ := q
  refine ⟨env, s, w, E, S, ?_⟩
  dsimp only at o
  cases r : fl env s with
  | no => rw [r] at o; exact o
  | ex c fs s1 => rw [r] at o; exact o
  | ok ds s1 =>
    rw [r] at o
    intro xs w1 H1 l1 S1 r1
    have hlen := hl env s ds s1 r
    rw [r1.length] at hlen
    exact ⟨by rw [sizeLine_eq]; omega, fun p hp => out_newL (o.later l1) S1 r1 p hp⟩
end
end MP
set_option autoImplicit false
set_option linter.all false
set_option maxRecDepth 10000
set_option maxHeartbeats 1000000
/-! MPd: operators on two values. -/
namespace MP
open PySem PySem.Spec PyProof.Rows L2

section
variable {K : PySem.W.Frag} {T : Tab} {P : Prog} {w : Wd} {H : Hp} {s : Sto}
theorem lstOf_ok {d : D} {x : V} {xs : List D} (S : SRel K T P w H s) (r : Rep K T P w H d x) (h : lstOf s d = some xs) : ∃ a vs, x = .ref a ∧ H a = some (.lst vs) ∧ Reps K T P w H xs vs := by
  cases r with
  | lst f hh rr => cases h; exact ⟨_, _, rfl, hh, rr⟩
  | ref hh =>
    simp only [lstOf] at h
    split at h
    · rename_i ys e
      cases h
      obtain ⟨_, vs, hv, rr⟩ := S.cell _ _ _ e hh (fun z => nomatch z)
      exact ⟨_, vs, rfl, hv, rr⟩
    · cases h
  | _ => cases h
theorem seqOf_ok {d : D} {x : V} {xs : List D} (S : SRel K T P w H s) (r : Rep K T P w H d x) (h : seqOf s d = some xs) :
    ∃ a vs, x = .ref a ∧ ((SqL K H a vs ∧ ∀ ys, d ≠ .tup ys) ∨ (SqT K H a vs ∧ d = .tup xs)) ∧ Reps K T P w H xs vs := by
  cases r with
  | tup f hh rr => cases h; exact ⟨_, _, rfl, .inr ⟨SqT.of hh, rfl⟩, rr⟩
  | lst f hh rr => cases h; exact ⟨_, _, rfl, .inl ⟨SqL.of hh, fun _ z => nomatch z⟩, rr⟩
  | scr q => cases h; exact ⟨_, _, rfl, .inl ⟨scr_sq q, fun _ z => nomatch z⟩, Reps.of_ints _⟩
  | ref hh =>
    simp only [seqOf] at h
    split at h
    · rename_i ys e
      cases h
      obtain ⟨_, vs, hv, rr⟩ := S.cell _ _ _ e hh (fun z => nomatch z)
      exact ⟨_, vs, rfl, .inl ⟨SqL.of hv, fun _ z => nomatch z⟩, rr⟩
    · cases h
  | _ => cases h
theorem seqOf_ok' {d : D} {x : V} {xs : List D} (S : SRel K T P w H s) (r : Rep K T P w H d x) (h : seqOf s d = some xs) :
    ∃ a vs, x = .ref a ∧ (SqL K H a vs ∨ SqT K H a vs) ∧ Reps K T P w H xs vs := by
  obtain ⟨a, vs, e, h1, r1⟩ := seqOf_ok S r h
  exact ⟨a, vs, e, h1.elim (fun z => .inl z.1) fun z => .inr z.1, r1⟩
end

/-! ### a tuple, once -/
section
theorem tuple_mulS (l : Addr) (items : Array Value) (n : Nat) (dd : Option Addr) (sl : Array (Option Value)) (x : Int) (u : Tok) (c0 : (decide (x < -(2 ^ 63)) || decide (x ≥ 2 ^ 63)) = false) (c1 : (items.isEmpty || x == 1) = true) :
    Meets (Builtin.«tuple.__mul__» ⟨[.ref l, .int x u], []⟩) (fun _ R s => s.heap.get? l = some { cls := .type "tuple", dict := dd, data := .seq items n, slots := sl } ∧ R (.ok (.ret (Value.ref l))) s) :=
  .of_wp fun prog w A R s h => by
    obtain ⟨hp, g, d, tk, os⟩ := s
    obtain ⟨hl, h⟩ := h
    have f1 := AutoSeq1.idx_int
    wp_walk using wpAny_loadPart' hl
    repeat (first
      | (refine wpAny_ite_false (decide_eq_false (by rw [c0]; exact Bool.false_ne_true)) ?_; wp_walk using wpAny_loadPart' hl)
      | (refine wpAny_ite_true (decide_eq_true c1) ?_; wp_walk using wpAny_loadPart' hl))
    exact ⟨_, rfl, h⟩
def rRepA (K : PySem.W.Frag) : R2 := fun x y H Q => ∃ l k xs, x = .ref l ∧ y = .int k ∧ SqT K H l xs ∧ 1 ≤ k ∧ k ≤ 1000 ∧ xs.length ≤ 1000 ∧
  ((xs = [] ∨ k = 1) → Q (.ref l) H) ∧ ∀ p, H p = none → Q (.ref p) (upd H p (.tup (List.replicate k.toNat xs).flatten))
theorem op_repA {X : Cx} : OpR X (binaryOp .Mult) (rRepA X.K) := by
  intro pins s σ H x y v u Q I rx ry h
  obtain ⟨l, k, xs, rfl, rfl, hT, h1, h2, hz, q1, q⟩ := h
  by_cases hone : xs = [] ∨ k = 1
  · cases rx
    obtain ⟨t, rfl⟩ := ry
    obtain ⟨its, r, ⟨⟨cls, dd, data, sl⟩, ho, hc, n, hd⟩, hs⟩ := I.tuple hT
    simp only at hc hd
    subst hc hd
    have c0 : (decide (k < -(2 ^ 63)) || decide (k ≥ 2 ^ 63)) = false := by
      rw [decide_eq_false (by omega), decide_eq_false (by omega)] <;> rfl
    have c1 : (its.toArray.isEmpty || k == 1) = true := by
      rcases hone with e | e
      · subst e
        cases r
        rfl
      · subst e
        simp
    exact wpAny_binaryOp_repeat_ref (T := "tuple") (U := "int") (by decide) ⟨_, ho, rfl⟩ (fun s' => typeIs_int s' k t) noFill_tuple_mul F.fills_int_mul F.slot_int_rmul repeat_tuple F.slot_int_index.lookup
      (call_meets F.slot_int_rmul (typeIs_int s k t) F.entry_int_rmul (F.args_int_rmul_2 _ _) (int_rmul_tuple k t l its.toArray n dd sl)
        ⟨ho, rfl, ⟨_, ho, rfl⟩, call_meets F.slot_tuple_mul ⟨_, ho, rfl⟩ F.entry_tuple_mul (F.args_tuple_mul_2 _ _) (tuple_mulS l its.toArray n dd sl k t c0 c1) ⟨ho, .ref l, H, I, rfl, q1 hone⟩⟩)
  · refine op_repT pins s σ H _ _ v u Q I rx ry ⟨l, k, xs, rfl, rfl, hT, fun e => hone (.inl e), ?_, h2, hz, q⟩
    have : k ≠ 1 := fun e => hone (.inr e)
    omega
end

/-! ### a text, so many times -/
theorem str_mulL (x : List Nat) (n : Int) (h : 1 ≤ n) : Txt.mul ⟨x.toArray⟩ n = ⟨((List.replicate n.toNat x).flatten).toArray⟩ := by
  unfold Txt.mul
  rw [if_neg (by omega)]
  have fl : ∀ (k : Nat) (acc : List Nat), List.foldl (fun x1 x2 => x1 ++ x2) acc.toArray (List.replicate k x.toArray) = (acc ++ (List.replicate k x).flatten).toArray := by
    intro k
    induction k with
    | zero => intro acc; simp
    | succ k ih => intro acc; rw [List.replicate_succ, List.foldl_cons, List.append_toArray, ih, List.replicate_succ, List.flatten_cons, List.append_assoc]
  have e : List.foldl (fun x1 x2 => x1 ++ x2) #[] (List.replicate n.toNat x.toArray) = ((List.replicate n.toNat x).flatten).toArray := by
    have := fl n.toNat []
    simpa using this
  split
  · rename_i hc
    have hc' : n = 1 ∨ x.length = 0 := by simpa [PySem.Str.length] using hc
    rcases hc' with rfl | hc'
    · simp
    · have : x = [] := List.eq_nil_of_length_eq_zero hc'
      subst this
      simp
  · rw [e]
theorem op_strMul {X : Cx} : OpR X (binaryOp .Mult) (fun x y H Q => ∃ (z : List Nat) (k : Int), x = .str ⟨z.toArray⟩ ∧ y = .int k ∧ 1 ≤ k ∧ k ≤ 1000 ∧ z.length ≤ 1000 ∧ Q (.str ⟨((List.replicate k.toNat z).flatten).toArray⟩) H) := by
  intro pins s σ H x y v u Q I rx ry h
  obtain ⟨z, k, rfl, rfl, h1, h2, hz, q⟩ := h
  obtain ⟨t, rfl⟩ := rx
  obtain ⟨t', rfl⟩ := ry
  have hz' : (⟨z.toArray⟩ : Str).length ≤ 1000 := by simpa [PySem.Str.length] using hz
  have hm : (⟨z.toArray⟩ : Str).length * k.toNat ≤ 1000 * 1000 := Nat.mul_le_mul hz' (by omega)
  refine SB.mul ⟨by rw [decide_eq_false (by omega), decide_eq_false (by omega)] <;> rfl, fun _ _ => ?_, fun _ _ => ?_⟩ fun t2 k2 => ⟨.str _, H, I.tok k2, ⟨t2, rfl⟩, by rw [str_mulL z k h1]; exact q⟩
  · have : (1000 : Int) ≤ (2 ^ 63 - 1) / k := by
      rw [Int.le_ediv_iff_mul_le (by omega)]
      omega
    omega
  · unfold Builtin.Str.tooLong
    rw [sizeLine_eq]
    exact decide_eq_false (by omega)
end MP
set_option autoImplicit false
set_option linter.all false
set_option maxRecDepth 10000
set_option maxHeartbeats 1000000
/-! MPe: the operators as the small language has them. -/
namespace MP
open PySem PySem.Spec PyProof.Rows L2
section
variable {T : Tab} {P : Prog} {X : Cx} {W : WX}
theorem cells_app (x y : List Nat) : (⟨x.toArray⟩ : Str) ++ (⟨y.toArray⟩ : Str) = ⟨(x ++ y).toArray⟩ := by
  show (⟨x.toArray ++ y.toArray⟩ : Str) = _
  simp
theorem op_binop (o : BOp) : OpM T P X (binaryOp (match o with | .add => .Add | .sub => .Sub | .mul => .Mult | .fdiv => .FloorDiv | .mod => .Mod | .pow => .Pow)) (fun s x y => binop s o x y) := by
  intro pins sS σ H x y v u Q I rx ry h
  obtain ⟨w, s, d, e, z, S, r1, r2, hz, k⟩ := h
  have fin : ∀ {r : V}, Rep X.K T P w H z r → Q r H := fun q => k _ w H (Le.refl w H) S q
  have ice : ∀ {p : Addr} {o : HO}, H p = none → Rep X.K T P (w.ice p) (upd H p o) z (.ref p) → Q (.ref p) (upd H p o) := fun hp q => k _ _ _ (le_ice S hp) (S.ice hp) q
  have lists : ∀ {xs ys : List D}, lstOf s d = some xs → lstOf s e = some ys → xs.length + ys.length ≤ LINE → z = .lst (xs ++ ys) → wpAny (model X.prog X.w) X.A (binaryOp .Add v u) (EP X pins σ Q) X.xe sS := fun {xs ys} h1 h2 h3 h4 => by
    obtain ⟨a, vs, ea, ha, ra⟩ := lstOf_ok S r1 h1
    obtain ⟨b, us, eb, hb, rb⟩ := lstOf_ok S r2 h2
    subst ea eb h4
    refine op_cat pins sS σ H _ _ v u Q I rx ry ⟨a, b, vs, us, rfl, rfl, ha, hb, ?_, fun p hp => ice hp (.lst (.inr rfl) upd_same ((ra.append rb).mono (le_ice S hp)))⟩
    rw [← ra.length, ← rb.length, ← line_eq]
    exact h3
  have reps : ∀ {xs : List D} {n : Int}, lstOf s d = some xs → e = .int n → 0 ≤ n → n ≤ 1000000 → xs.length * n.toNat ≤ LINE → z = .lst (repD xs n) → wpAny (model X.prog X.w) X.A (binaryOp .Mult v u) (EP X pins σ Q) X.xe sS := fun {xs n} h1 h2 h3 h4 h5 h6 => by
    obtain ⟨a, vs, ea, ha, ra⟩ := lstOf_ok S r1 h1
    subst ea h2 h6
    cases r2
    refine op_rep pins sS σ H _ _ v u Q I rx ry ⟨a, n, vs, rfl, rfl, ha, by omega, by omega, ?_, fun p hp => ice hp (.lst (.inr rfl) upd_same ((ra.rep _).mono (le_ice S hp)))⟩
    rw [← ra.length, ← line_eq]
    exact h5
  cases o with
  | add =>
    simp only [binop] at hz ⊢
    split at hz <;> try (first | contradiction | (cases ‹BOp.add = _›))
    · cases r1; cases r2; cases hz
      exact op_add pins sS σ H _ _ v u Q I rx ry ⟨_, _, rfl, rfl, fin (.int _)⟩
    · split at hz
      · rename_i hl
        cases r1; cases r2; cases hz
        refine op_add_str pins sS σ H _ _ v u Q I rx ry ⟨_, _, rfl, rfl, ?_, ?_⟩
        · rw [← line_eq]; simpa [PySem.Str.length] using hl
        · rw [cells_app]; exact fin (.str _)
      · cases hz
    · split at hz
      · rename_i hl
        cases hz
        cases r1 with
        | tup f1 h1 q1 =>
          cases r2 with
          | tup f2 h2 q2 =>
            refine op_catA pins sS σ H _ _ v u Q I rx ry ⟨_, _, _, _, rfl, rfl, SqT.of h1, SqT.of h2, by rw [← line_eq, ← q1.length, ← q2.length]; exact hl, fun e => ?_, fun _ e => ?_, fun _ _ p hp => ice hp (.tup (.inr rfl) upd_same ((q1.append q2).mono (le_ice S hp)))⟩
            · subst e; cases q1; exact fin (.tup f2 h2 q2)
            · subst e; cases q2; rw [List.append_nil] at fin; exact fin (.tup f1 h1 q1)
      · cases hz
    · split at hz
      · rename_i xs ys h1 h2
        split at hz
        · rename_i hl
          cases hz
          exact lists h1 h2 hl rfl
        · cases hz
      · cases hz
  | sub =>
    simp only [binop] at hz ⊢
    split at hz <;> try (first | contradiction | (cases ‹BOp.sub = _›))
    cases r1; cases r2; cases hz
    exact op_sub pins sS σ H _ _ v u Q I rx ry ⟨_, _, rfl, rfl, fin (.int _)⟩
  | mul =>
    simp only [binop] at hz ⊢
    split at hz <;> try (first | contradiction | (cases ‹BOp.mul = _›))
    · split at hz
      · rename_i hm
        cases r1; cases r2; cases hz
        refine op_mul pins sS σ H _ _ v u Q I rx ry ⟨_, _, rfl, rfl, ?_, fin (.int _)⟩
        simpa [mulOk, CMul] using hm
      · cases hz
    · split at hz
      · rename_i hm
        simp only [Bool.and_eq_true, decide_eq_true_eq] at hm
        obtain ⟨⟨h1, h2⟩, h3⟩ := hm
        cases hz
        cases r2
        cases r1 with
        | tup f1 hh q1 =>
          refine op_repA pins sS σ H _ _ v u Q I rx ry ⟨_, _, _, rfl, rfl, SqT.of hh, h1, h2, by rw [← q1.length]; exact h3, fun e => ?_, fun p hp => ice hp (.tup (.inr rfl) upd_same ((q1.rep _).mono (le_ice S hp)))⟩
          rcases e with e | e
          · subst e
            cases q1
            have e0 : ∀ k : Int, repD [] k = [] := fun k => by unfold repD; simp
            rw [e0] at fin
            exact fin (.tup f1 hh .nil)
          · subst e
            have e0 : ∀ xs : List D, repD xs 1 = xs := fun xs => by unfold repD; simp
            rw [e0] at fin
            exact fin (.tup f1 hh q1)
      · cases hz
    · split at hz
      · rename_i hm
        simp only [Bool.and_eq_true, decide_eq_true_eq] at hm
        obtain ⟨⟨h1, h2⟩, h3⟩ := hm
        cases hz
        cases r1; cases r2
        exact op_strMul pins sS σ H _ _ v u Q I rx ry ⟨_, _, rfl, rfl, h1, h2, h3, fin (.str _)⟩
      · cases hz
    · split at hz
      · rename_i xs h1
        split at hz
        · rename_i hm
          simp only [Bool.and_eq_true, decide_eq_true_eq] at hm
          cases hz
          exact reps h1 rfl hm.1.1 hm.1.2 hm.2 rfl
        · cases hz
      · cases hz
  | fdiv =>
    simp only [binop] at hz ⊢
    split at hz <;> try (first | contradiction | (cases ‹BOp.fdiv = _›))
    split at hz
    · rename_i hm
      simp only [Bool.and_eq_true, decide_eq_true_eq] at hm
      cases r1; cases r2; cases hz
      exact op_fdiv pins sS σ H _ _ v u Q I rx ry ⟨_, _, rfl, rfl, hm, fin (.int _)⟩
    · cases hz
  | mod =>
    simp only [binop] at hz ⊢
    split at hz <;> try (first | contradiction | (cases ‹BOp.mod = _›))
    split at hz
    · rename_i hm
      simp only [decide_eq_true_eq] at hm
      cases r1; cases r2; cases hz
      exact op_mod pins sS σ H _ _ v u Q I rx ry ⟨_, _, rfl, rfl, hm, fin (.int _)⟩
    · cases hz
  | pow =>
    simp only [binop] at hz ⊢
    split at hz <;> try (first | contradiction | (cases ‹BOp.pow = _›))
    split at hz
    · rename_i hm
      simp only [powOk, Bool.and_eq_true, decide_eq_true_eq] at hm
      cases r1; cases r2; cases hz
      exact op_pow pins sS σ H _ _ v u Q I rx ry ⟨_, _, rfl, rfl, hm, fin (.int _)⟩
    · cases hz
end
end MP
set_option autoImplicit false
set_option linter.all false
set_option maxRecDepth 10000
set_option maxHeartbeats 1000000
/-! MPf: comparisons. -/
namespace MP
open PySem PySem.Spec PyProof.Rows L2
mutual
def toP : D → PyData
  | .bl b => .bool b
  | .int i => .int i
  | .str x => .str ⟨x.toArray⟩
  | .tup xs => .tuple (toPs xs)
  | .lst xs => .list (toPs xs)
  | _ => .none
def toPs : List D → List PyData
  | [] => []
  | x :: xs => toP x :: toPs xs
end
mutual
def isData : D → Bool
  | .non => true
  | .bl _ => true
  | .int _ => true
  | .str _ => true
  | .tup xs => isDatas xs
  | .lst xs => isDatas xs
  | _ => false
def isDatas : List D → Bool
  | [] => true
  | x :: xs => isData x && isDatas xs
end
theorem toPs_length : ∀ xs : List D, (toPs xs).length = xs.length
  | [] => rfl
  | _ :: xs => by simp [toPs, toPs_length xs]
theorem mapM_cons {α β : Type} {f : α → Option β} {x : α} {xs : List α} {ys : List β} (h : (x :: xs).mapM f = some ys) : ∃ y r, f x = some y ∧ xs.mapM f = some r ∧ ys = y :: r := by
  rw [List.mapM_cons] at h
  cases e : f x with
  | none => rw [e] at h; cases h
  | some y =>
    rw [e] at h
    cases e' : xs.mapM f with
    | none => rw [e'] at h; cases h
    | some r => rw [e'] at h; cases h; exact ⟨y, r, rfl, rfl, rfl⟩
theorem strOk_of {x : List Nat} (h : (x.all fun c => decide (c < 1114112)) = true) : (⟨x.toArray⟩ : Str).cps.all (· < 0x110000) = true := by
  simpa using h
section
variable {K : PySem.W.Frag} {T : Tab} {P : Prog} {w : Wd} {H : Hp} {s : Sto}
theorem data_ok (S : SRel K T P w H s) : ∀ (n : Nat) (d e : D) (x : V), dataOf s n d = some e → Rep K T P w H d x → Dp K H x (toP e) ∧ (toP e).canLay0 = true ∧ (toP e).depth ≤ n ∧ isData e = true := by
  intro n
  induction n with
  | zero =>
    intro d e x h r
    cases r <;> simp only [dataOf] at h
    case non => cases h; exact ⟨.non, rfl, Nat.le_refl 0, rfl⟩
    case bl b => cases h; exact ⟨.bl b, rfl, Nat.le_refl 0, rfl⟩
    case int i => cases h; exact ⟨.int i, rfl, Nat.le_refl 0, rfl⟩
    case str z =>
      split at h
      · rename_i hz
        cases h
        exact ⟨.str _, strOk_of hz, Nat.le_refl 0, rfl⟩
      · cases h
    all_goals cases h
  | succ n ih =>
    have all : ∀ (ds es : List D) (vs : List V), ds.mapM (dataOf s n) = some es → Reps K T P w H ds vs → DpAll K H vs (toPs es) ∧ PyData.canLayAll0 (toPs es) = true ∧ PyData.depthAll (toPs es) ≤ n ∧ isDatas es = true := by
      intro ds
      induction ds with
      | nil => intro es vs h r; cases h; cases r; exact ⟨.nil, rfl, Nat.zero_le _, rfl⟩
      | cons d ds ihl =>
        intro es vs h r
        obtain ⟨y, r', h1, h2, rfl⟩ := mapM_cons h
        cases r with
        | cons rd rr =>
          obtain ⟨a1, a2, a3, a4⟩ := ih d y _ h1 rd
          obtain ⟨b1, b2, b3, b4⟩ := ihl r' _ h2 rr
          refine ⟨.cons a1 b1, ?_, ?_, ?_⟩
          · show ((toP y).canLay0 && PyData.canLayAll0 (toPs r')) = true
            rw [a2, b2]; rfl
          · show max (toP y).depth (PyData.depthAll (toPs r')) ≤ n
            exact Nat.max_le.mpr ⟨a3, b3⟩
          · show (isData y && isDatas r') = true
            rw [a4, b4]; rfl
    intro d e x h r
    cases r with
    | non => simp only [dataOf] at h; cases h; exact ⟨.non, rfl, Nat.zero_le _, rfl⟩
    | bl b => simp only [dataOf] at h; cases h; exact ⟨.bl b, rfl, Nat.zero_le _, rfl⟩
    | int i => simp only [dataOf] at h; cases h; exact ⟨.int i, rfl, Nat.zero_le _, rfl⟩
    | str z =>
      simp only [dataOf] at h
      split at h
      · rename_i hz
        cases h
        exact ⟨.str _, strOk_of hz, Nat.zero_le _, rfl⟩
      · cases h
    | tup f hh rr =>
      simp only [dataOf] at h
      cases e' : List.mapM (dataOf s n) _ with
      | none => rw [e'] at h; cases h
      | some es =>
        rw [e'] at h
        cases h
        obtain ⟨a1, a2, a3, a4⟩ := all _ _ _ e' rr
        exact ⟨.tup (SqT.of hh) a1, a2, Nat.succ_le_succ a3, a4⟩
    | lst f hh rr =>
      simp only [dataOf] at h
      cases e' : List.mapM (dataOf s n) _ with
      | none => rw [e'] at h; cases h
      | some es =>
        rw [e'] at h
        cases h
        obtain ⟨a1, a2, a3, a4⟩ := all _ _ _ e' rr
        exact ⟨.lst (SqL.of hh) a1, a2, Nat.succ_le_succ a3, a4⟩
    | ref hh =>
      simp only [dataOf] at h
      split at h
      · rename_i xs ex
        obtain ⟨_, vs, hv, rr⟩ := S.cell _ _ _ ex hh (fun z => nomatch z)
        cases e' : List.mapM (dataOf s n) xs with
        | none => rw [e'] at h; cases h
        | some es =>
          rw [e'] at h
          cases h
          obtain ⟨a1, a2, a3, a4⟩ := all _ _ _ e' rr
          exact ⟨.lst (SqL.of hv) a1, a2, Nat.succ_le_succ a3, a4⟩
      · cases h
    | scr => simp only [dataOf] at h; cases h
    | rcd => simp only [dataOf] at h; cases h
    | exc0 => simp only [dataOf] at h; cases h
    | exc1 => simp only [dataOf] at h; cases h
end
theorem str_beq (x y : List Nat) : ((⟨x.toArray⟩ : Str) == (⟨y.toArray⟩ : Str)) = (x == y) := by
  by_cases h : x = y
  · subst h; simp
  · have h' : (⟨x.toArray⟩ : Str) ≠ (⟨y.toArray⟩ : Str) := fun e => h (by
      have := congrArg (fun z : Str => z.cps.toList) e
      simpa using this)
    rw [beq_eq_false_iff_ne.mpr h', beq_eq_false_iff_ne.mpr h]
mutual
theorem eqv_toP : ∀ d e : D, isData d = true → isData e = true → PyData.eqv (toP d) (toP e) = eqv d e
  | .non, e, _, h => by cases e <;> first | rfl | cases h
  | .bl _, e, _, h => by cases e <;> first | rfl | cases h
  | .int _, e, _, h => by cases e <;> first | rfl | cases h
  | .str x, e, _, h => by
    cases e <;> first | rfl | cases h | skip
    exact str_beq _ _
  | .tup xs, e, h1, h => by
    cases e <;> first | rfl | cases h | skip
    exact eqvs_toP xs _ h1 h
  | .lst xs, e, h1, h => by
    cases e <;> first | rfl | cases h | skip
    exact eqvs_toP xs _ h1 h
  | .scr _, _, h, _ => by cases h
  | .rcd _ _, _, h, _ => by cases h
  | .ref _, _, h, _ => by cases h
  | .exc _ _, _, h, _ => by cases h
theorem eqvs_toP : ∀ d e : List D, isDatas d = true → isDatas e = true → PyData.eqvAll (toPs d) (toPs e) = eqvs d e
  | [], e, _, h => by cases e <;> rfl
  | x :: xs, [], _, _ => rfl
  | x :: xs, y :: ys, h1, h2 => by
    have a := (Bool.and_eq_true_iff.mp h1)
    have b := (Bool.and_eq_true_iff.mp h2)
    show (PyData.eqv (toP x) (toP y) && PyData.eqvAll (toPs xs) (toPs ys)) = (eqv x y && eqvs xs ys)
    rw [eqv_toP x y a.1 b.1, eqvs_toP xs ys a.2 b.2]
end
theorem data_shaped {d : PyData} (h : d.canLay0 = true) (hd : d.depth ≤ 60) : SeqAt.shaped d = true := by
  unfold SeqAt.shaped
  rw [h, decide_eq_true (by omega)]
  rfl
/-! ### < -/
theorem readsAll_at {h : Heap} : ∀ {vs : List Value} {ds : List PyData} {as : List Addr} {j : Nat} {v : Value}, ReadsAll h vs ds as → vs[j]? = some v → ∃ d bs, ds[j]? = some d ∧ Reads h v d bs
  | _, _, _, _, _, .nil, e => by simp at e
  | _, _, _, 0, _, .cons r _, e => by simp at e; subst e; exact ⟨_, _, rfl, r⟩
  | _, _, _, j + 1, v, .cons _ t, e => by
    obtain ⟨d, bs, h1, h2⟩ := readsAll_at (j := j) (v := v) t (by simpa using e)
    exact ⟨d, bs, by simpa using h1, h2⟩
theorem readsAll_len {h : Heap} : ∀ {vs : List Value} {ds : List PyData} {as : List Addr}, ReadsAll h vs ds as → vs.length = ds.length
  | _, _, _, .nil => rfl
  | _, _, _, .cons _ t => by simp [readsAll_len t]
theorem toPs_at : ∀ {xs : List D} {j : Nat} {p : PyData}, (toPs xs)[j]? = some p → ∃ d, xs[j]? = some d ∧ p = toP d
  | [], _, _, h => by simp [toPs] at h
  | x :: xs, 0, p, h => by simp [toPs] at h; exact ⟨x, rfl, h.symm⟩
  | x :: xs, j + 1, p, h => by
    obtain ⟨d, h1, h2⟩ := toPs_at (xs := xs) (j := j) (p := p) (by simpa [toPs] using h)
    exact ⟨d, by simpa using h1, h2⟩
theorem canLayAll_at : ∀ {xs : List PyData} {j : Nat} {p : PyData}, PyData.canLayAll0 xs = true → xs[j]? = some p → p.canLay0 = true
  | [], _, _, _, h => by simp at h
  | x :: xs, 0, p, hc, h => by simp at h; subst h; exact (Bool.and_eq_true_iff.mp hc).1
  | x :: xs, j + 1, p, hc, h => canLayAll_at (Bool.and_eq_true_iff.mp hc).2 (by simpa using h)
theorem depthAll_at : ∀ {xs : List PyData} {j : Nat} {p : PyData}, xs[j]? = some p → p.depth ≤ PyData.depthAll xs
  | [], _, _, h => by simp at h
  | x :: xs, 0, p, h => by simp at h; subst h; exact Nat.le_max_left _ _
  | x :: xs, j + 1, p, h => Nat.le_trans (depthAll_at (xs := xs) (j := j) (p := p) (by simpa using h)) (Nat.le_max_right _ _)
theorem isDatas_at : ∀ {xs : List D} {j : Nat} {p : D}, isDatas xs = true → xs[j]? = some p → isData p = true
  | [], _, _, _, h => by simp at h
  | x :: xs, 0, p, hc, h => by simp at h; subst h; exact (Bool.and_eq_true_iff.mp hc).1
  | x :: xs, j + 1, p, hc, h => isDatas_at (Bool.and_eq_true_iff.mp hc).2 (by simpa using h)
theorem ltvs_at : ∀ {xs ys : List D} {b : Bool} {j : Nat} {x y : D}, ltvs xs ys = some b → xs[j]? = some x → ys[j]? = some y → ∃ r, ltv x y = some r
  | [], _, _, _, _, _, _, h, _ => by simp at h
  | _ :: _, [], _, _, _, _, _, _, h => by simp at h
  | x :: xs, y :: ys, b, j, x', y', h, h1, h2 => by
    simp only [ltvs] at h
    split at h
    · rename_i a c e1 e2
      cases j with
      | zero => simp at h1 h2; subst h1 h2; exact ⟨a, e1⟩
      | succ j => exact ltvs_at e2 (by simpa using h1) (by simpa using h2)
    · cases h
def eAt (xs ys : List D) (j : Nat) : Bool := eqv (xs.getD j .non) (ys.getD j .non)
def lAt (xs ys : List D) (j : Nat) : Bool := (ltv (xs.getD j .non) (ys.getD j .non)).getD false
theorem lexAt_shift (e r : Nat → Bool) (z : Bool) : ∀ (k i : Nat), Ob.lexAt (fun j => e (j + 1)) (fun j => r (j + 1)) z i k = Ob.lexAt e r z (i + 1) k
  | 0, i => rfl
  | k + 1, i => by rw [Ob.lexAt_succ, Ob.lexAt_succ, lexAt_shift e r z k (i + 1)]
theorem ltvs_lex : ∀ {xs ys : List D} {b : Bool}, ltvs xs ys = some b → Ob.lexAt (eAt xs ys) (lAt xs ys) (decide (xs.length < ys.length)) 0 (min xs.length ys.length) = b
  | [], [], b, h => by cases h; rfl
  | [], y :: ys, b, h => by cases h; rfl
  | x :: xs, [], b, h => by cases h; rfl
  | x :: xs, y :: ys, b, h => by
    simp only [ltvs] at h
    split at h
    · rename_i a c e1 e2
      cases h
      have ih := ltvs_lex e2
      have hm : min (x :: xs).length (y :: ys).length = min xs.length ys.length + 1 := by simp only [List.length_cons]; omega
      rw [hm, Ob.lexAt_succ]
      have hl : decide ((x :: xs).length < (y :: ys).length) = decide (xs.length < ys.length) := by simp
      rw [hl]
      have sh := lexAt_shift (eAt (x :: xs) (y :: ys)) (lAt (x :: xs) (y :: ys)) (decide (xs.length < ys.length)) (min xs.length ys.length) 0
      rw [← sh]
      have e3 : (fun j => eAt (x :: xs) (y :: ys) (j + 1)) = eAt xs ys := rfl
      have e4 : (fun j => lAt (x :: xs) (y :: ys) (j + 1)) = lAt xs ys := rfl
      rw [e3, e4, ih]
      have e5 : eAt (x :: xs) (y :: ys) 0 = eqv x y := rfl
      have e6 : lAt (x :: xs) (y :: ys) 0 = a := by show (ltv x y).getD false = a; rw [e1]; rfl
      rw [e5, e6]
    · cases h
theorem rc_lt : ∀ (n : Nat) (d e : D) (b : Bool) (A : Around) (s : Shared) (u v : Value) (as bs : List Addr), (toP d).depth ≤ n → isData d = true → isData e = true → ltv d e = some b → Reads s.heap u (toP d) as → Reads s.heap v (toP e) bs →
    (toP d).canLay0 = true → (toP e).canLay0 = true → A.units + n < cLine → Ob.RcOp .Lt A s u v b := by
  intro n
  induction n with
  | zero =>
    intro d e b A s u v as bs hn hd he h r1 r2 c1 c2 hu
    unfold ltv at h
    split at h
    · cases h
      cases r1; cases r2
      exact Ob.RcOp.lt_int _ _ _ _
    · exact absurd hn (by show ¬ (PyData.depthAll _ + 1 ≤ 0); omega)
    · cases h
  | succ n ih =>
    intro d e b A s u v as bs hn hd he h r1 r2 c1 c2 hu
    unfold ltv at h
    split at h
    · cases h
      cases r1; cases r2
      exact Ob.RcOp.lt_int _ _ _ _
    · rename_i xs ys
      have hdep : PyData.depthAll (toPs xs) ≤ n := Nat.le_of_succ_le_succ hn
      cases r1 with
      | @tuple l o vs m _ as1 k1 k2 k3 k4 =>
        cases r2 with
        | @tuple l' o' vs' m' _ bs1 q1 q2 q3 q4 =>
          have n1 : vs.size = xs.length := by have := readsAll_len k4; rw [toPs_length] at this; simpa using this
          have n2 : vs'.size = ys.length := by have := readsAll_len q4; rw [toPs_length] at this; simpa using this
          have key : ∀ (j : Nat) (h1 : j < vs.size) (h2 : j < vs'.size), ∃ x y p q, xs[j]? = some x ∧ ys[j]? = some y ∧ Reads s.heap vs[j] (toP x) p ∧ Reads s.heap vs'[j] (toP y) q ∧ (toP x).canLay0 = true ∧ (toP y).canLay0 = true ∧ (toP x).depth ≤ n ∧ isData x = true ∧ isData y = true := fun j h1 h2 => by
            obtain ⟨p, ps, e1, rp⟩ := readsAll_at (j := j) (v := vs[j]) k4 (by simp [h1])
            obtain ⟨q, qs, e2, rq⟩ := readsAll_at (j := j) (v := vs'[j]) q4 (by simp [h2])
            have cp := canLayAll_at c1 e1
            have cq := canLayAll_at c2 e2
            have dp := depthAll_at e1
            obtain ⟨x, ex, rfl⟩ := toPs_at e1
            obtain ⟨y, ey, rfl⟩ := toPs_at e2
            exact ⟨x, y, ps, qs, ex, ey, rp, rq, cp, cq, Nat.le_trans dp hdep, isDatas_at hd ex, isDatas_at he ey⟩
          have gx : ∀ {zs : List D} {j : Nat} {z : D}, zs[j]? = some z → zs.getD j .non = z := fun h => by rw [List.getD_eq_getElem?_getD, h]; rfl
          have main := Ob.RcOp.tuples_lt (A := A) (e := eAt xs ys) (r := lAt xs ys) (show s.heap.IsTuple l vs from ⟨_, k1, k2, _, k3⟩) (show s.heap.IsTuple l' vs' from ⟨_, q1, q2, _, q3⟩) (by omega) (fun j h1 h2 => ?_) (fun j h1 h2 hne => ?_)
          · rw [n1, n2, ltvs_lex h] at main
            exact main
          · obtain ⟨x, y, p, q, ex, ey, rp, rq, cp, cq, dp, dx, dy⟩ := key j h1 h2
            have : eAt xs ys j = PyData.eqv (toP x) (toP y) := by rw [eqv_toP x y dx dy]; unfold eAt; rw [gx ex, gx ey]
            rw [this]
            exact SeqAt.eqAt_reads _ _ _ _ _ _ _ _ rp rq cp cq (by show A.units + 1 + min (toP x).depth (toP y).depth < cLine; have := Nat.min_le_left (toP x).depth (toP y).depth; omega)
          · obtain ⟨x, y, p, q, ex, ey, rp, rq, cp, cq, dp, dx, dy⟩ := key j h1 h2
            obtain ⟨r, hr⟩ := ltvs_at h ex ey
            have : lAt xs ys j = r := by unfold lAt; rw [gx ex, gx ey, hr]; rfl
            rw [this]
            exact ih x y r _ _ _ _ _ _ dp dx dy hr rp rq cp cq (by show A.units + 1 + n < cLine; omega)
    · cases h
section
variable {T : Tab} {P : Prog} {X : Cx} {W : WX}
theorem op_eqM (hu : X.A.units + 64 < cLine) : OpM T P X (compareOp .Eq) (fun s x y => (eqD s x y).map D.bl) := by
  intro pins sS σ H x y v u Q I rx ry h
  obtain ⟨w, s, d, e, z, S, r1, r2, hz, k⟩ := h
  simp only [eqD] at hz
  split at hz
  · rename_i d' e' h1 h2
    cases hz
    obtain ⟨a1, a2, a3, a4⟩ := data_ok S 60 _ _ _ h1 r1
    obtain ⟨b1, b2, b3, b4⟩ := data_ok S 60 _ _ _ h2 r2
    refine op_eqD hu pins sS σ H _ _ v u Q I rx ry ⟨_, _, a1, b1, data_shaped a2 a3, data_shaped b2 b3, ?_⟩
    rw [eqv_toP _ _ a4 b4]
    exact k _ w H (Le.refl w H) S (.bl _)
  · cases hz
theorem op_neM (hu : X.A.units + 64 < cLine) : OpM T P X (compareOp .NotEq) (fun s x y => ((eqD s x y).map (!·)).map D.bl) := by
  intro pins sS σ H x y v u Q I rx ry h
  obtain ⟨w, s, d, e, z, S, r1, r2, hz, k⟩ := h
  simp only [eqD] at hz
  split at hz
  · rename_i d' e' h1 h2
    cases hz
    obtain ⟨a1, a2, a3, a4⟩ := data_ok S 60 _ _ _ h1 r1
    obtain ⟨b1, b2, b3, b4⟩ := data_ok S 60 _ _ _ h2 r2
    refine op_neD hu pins sS σ H _ _ v u Q I rx ry ⟨_, _, a1, b1, data_shaped a2 a3, data_shaped b2 b3, ?_⟩
    rw [eqv_toP _ _ a4 b4]
    exact k _ w H (Le.refl w H) S (.bl _)
  · cases hz
theorem op_ltM (hu : X.A.units + 64 < cLine) : OpM T P X (compareOp .Lt) (fun s x y => (ltD s x y).map D.bl) := by
  intro pins sS σ H x y v u Q I rx ry h
  obtain ⟨w, s, d, e, z, S, r1, r2, hz, k⟩ := h
  simp only [ltD] at hz
  split at hz
  · rename_i d' e' h1 h2
    cases hb : ltv d' e' with
    | none => rw [hb] at hz; cases hz
    | some b =>
      rw [hb] at hz
      cases hz
      obtain ⟨a1, a2, a3, a4⟩ := data_ok S 60 _ _ _ h1 r1
      obtain ⟨b1, b2, b3, b4⟩ := data_ok S 60 _ _ _ h2 r2
      obtain ⟨as, q1⟩ := Dp.reads I _ _ _ a1 rx
      obtain ⟨bs, q2⟩ := Dp.reads I _ _ _ b1 ry
      have := rc_lt 60 _ _ _ X.A sS v u as bs a3 a4 b4 hb q1 q2 a2 b2 (by omega)
      show wpAny (model X.prog X.w) X.A (richCompare .Lt v u) _ _ _
      exact this _ _ _ _ ⟨.bl b, H, I, rfl, k _ w H (Le.refl w H) S (.bl _)⟩
  · cases hz
theorem op_intM {op : CmpOp} {p : Int → Int → Bool} (h : OpR X (compareOp op) (rI0 fun i j => .bl (p i j))) {g : Sto → D → D → Option Bool} (hg : ∀ s a b r, g s a b = some r → ∃ i j, a = .int i ∧ b = .int j ∧ r = p i j) : OpM T P X (compareOp op) (fun s x y => (g s x y).map D.bl) := by
  intro pins sS σ H x y v u Q I rx ry hh
  obtain ⟨w, s, d, e, z, S, r1, r2, hz, k⟩ := hh
  dsimp only at hz
  cases e' : g s d e with
  | none => rw [e'] at hz; cases hz
  | some r =>
    rw [e'] at hz
    cases hz
    obtain ⟨i, j, rfl, rfl, rfl⟩ := hg _ _ _ _ e'
    cases r1; cases r2
    exact h pins sS σ H _ _ v u Q I rx ry ⟨_, _, rfl, rfl, k _ w H (Le.refl w H) S (.bl _)⟩
theorem isD_non {w : Wd} {H : Hp} {d : D} {x : V} (r : Rep X.K T P w H d x) : decide (x = .non) = decide (d = .non) := by
  cases r <;> rfl
theorem beq_dec (p q : Bool) : (p == q) = decide (p = q) := by cases p <;> cases q <;> rfl
theorem op_isM : OpM T P X (compareOp .Is) (fun s x y => (isD x y).map D.bl) := by
  intro pins sS σ H x y v u Q I rx ry h
  obtain ⟨w, s, d, e, z, S, r1, r2, hz, k⟩ := h
  have fin : ∀ {r : V}, Rep X.K T P w H z r → Q r H := fun q => k _ w H (Le.refl w H) S q
  dsimp only at hz
  unfold isD at hz
  split at hz
  · cases hz
    cases r2
    refine op_isN pins sS σ H _ _ v u Q I rx ry ⟨rfl, ?_⟩
    rw [isD_non r1]
    exact fin (.bl _)
  · split at hz
    · cases hz
      cases r1; cases r2
      refine op_isBl pins sS σ H _ _ v u Q I rx ry ⟨_, _, rfl, rfl, fin ?_⟩
      rw [← beq_dec]
      exact .bl _
    · cases hz
  · cases hz
theorem op_isnotM : OpM T P X (compareOp .IsNot) (fun s x y => ((isD x y).map (!·)).map D.bl) := by
  intro pins sS σ H x y v u Q I rx ry h
  obtain ⟨w, s, d, e, z, S, r1, r2, hz, k⟩ := h
  have fin : ∀ {r : V}, Rep X.K T P w H z r → Q r H := fun q => k _ w H (Le.refl w H) S q
  dsimp only at hz
  unfold isD at hz
  split at hz
  · cases hz
    cases r2
    refine op_notN pins sS σ H _ _ v u Q I rx ry ⟨rfl, ?_⟩
    rw [isD_non r1]
    exact fin (.bl _)
  · split at hz
    · cases hz
      cases r1; cases r2
      refine op_notBl pins sS σ H _ _ v u Q I rx ry ⟨_, _, rfl, rfl, fin ?_⟩
      rw [← beq_dec]
      exact .bl _
    · cases hz
  · cases hz
end
end MP
set_option autoImplicit false
set_option linter.all false
set_option maxRecDepth 10000
set_option maxHeartbeats 1000000
/-! MPg: in, chains, subscripts, slices, fields, built-ins. -/
namespace MP
open PySem PySem.Spec PyProof.Rows L2
section
variable {T : Tab} {P : Prog} {X : Cx} {W : WX} {a b c : Expr} {fa fb fc : Env → Sto → R D} {pos : Pos}
theorem flat_ok {K : PySem.W.Frag} {w : Wd} {H : Hp} {d : D} {x : V} (r : Rep K T P w H d x) (h : flat d = true) : flatV x = true := by
  cases r <;> first | rfl | cases h
theorem eqV_eqv {K : PySem.W.Frag} {w : Wd} {H : Hp} {d e : D} {x y : V} (r : Rep K T P w H d x) (q : Rep K T P w H e y) (h : flat d = true) (h' : flat e = true) : eqV x y = eqv d e := by
  cases r <;> first | (cases q <;> first | rfl | exact str_beq _ _ | cases h') | cases h
theorem flats_ok {K : PySem.W.Frag} {w : Wd} {H : Hp} : ∀ {ds : List D} {vs : List V}, Reps K T P w H ds vs → ds.all flat = true → vs.all flatV = true
  | _, _, .nil, _ => rfl
  | _, _, .cons r t, h => by
    simp only [List.all_cons, Bool.and_eq_true] at h ⊢
    exact ⟨flat_ok r h.1, flats_ok t h.2⟩
theorem any_ok {K : PySem.W.Frag} {w : Wd} {H : Hp} {e : D} {y : V} (q : Rep K T P w H e y) (h' : flat e = true) : ∀ {ds : List D} {vs : List V}, Reps K T P w H ds vs → ds.all flat = true → (vs.any fun z => eqV z y) = ds.any fun z => eqv z e
  | _, _, .nil, _ => rfl
  | _, _, .cons r t, h => by
    simp only [List.all_cons, Bool.and_eq_true] at h
    simp only [List.any_cons]
    rw [eqV_eqv r q h.1 h', any_ok q h' t h.2]
theorem op_inM : OpM T P X (compareOp .In) (fun s x y => (inS s x y).map D.bl) := by
  intro pins sS σ H x y v u Q I rx ry h
  obtain ⟨w, s, d, e, z, S, r1, r2, hz, k⟩ := h
  have fin : ∀ {r : V}, Rep X.K T P w H z r → Q r H := fun q => k _ w H (Le.refl w H) S q
  dsimp only [inS] at hz
  split at hz
  · rename_i ys hs
    split at hz
    · rename_i hf
      simp only [Bool.and_eq_true] at hf
      cases hz
      obtain ⟨p, vs, rfl, hq, rr⟩ := seqOf_ok' S r2 hs
      refine op_in_seq pins sS σ H _ _ v u Q I rx ry ⟨p, vs, rfl, hq, flat_ok r1 hf.1, flats_ok rr hf.2, ?_⟩
      rw [if_neg Bool.false_ne_true]
      unfold inV
      rw [any_ok r1 hf.1 rr hf.2]
      exact fin (.bl _)
    · cases hz
  · cases hz
theorem op_notinM : OpM T P X (compareOp .NotIn) (fun s x y => ((inS s x y).map (!·)).map D.bl) := by
  intro pins sS σ H x y v u Q I rx ry h
  obtain ⟨w, s, d, e, z, S, r1, r2, hz, k⟩ := h
  have fin : ∀ {r : V}, Rep X.K T P w H z r → Q r H := fun q => k _ w H (Le.refl w H) S q
  dsimp only [inS] at hz
  split at hz
  · rename_i ys hs
    split at hz
    · rename_i hf
      simp only [Bool.and_eq_true] at hf
      cases hz
      obtain ⟨p, vs, rfl, hq, rr⟩ := seqOf_ok' S r2 hs
      refine op_notIn_seq pins sS σ H _ _ v u Q I rx ry ⟨p, vs, rfl, hq, flat_ok r1 hf.1, flats_ok rr hf.2, ?_⟩
      rw [if_pos rfl]
      unfold inV
      rw [any_ok r1 hf.1 rr hf.2]
      exact fin (.bl _)
    · cases hz
  · cases hz
/-! ### chains of two comparisons -/
def chF (g g' : Sto → D → D → Option Bool) (fa fb fc : Env → Sto → R D) : Env → Sto → R D := fun env s => (fa env s).bind fun x s => (fb env s).bind fun y s => opt1 (g s x y) fun r =>
  if r then (fc env s).bind fun z s => .opt ((g' s y z).map D.bl) s else .ok (.bl false) s
theorem me_chain {op op' : CmpOp} {g g' : Sto → D → D → Option Bool} (h : OpM T P X (compareOp op) fun s x y => (g s x y).map D.bl) (h' : OpM T P X (compareOp op') fun s x y => (g' s x y).map D.bl)
    (ha : ME X.K T P X W a fa) (hb : ME X.K T P X W b fb) (hc : ME X.K T P X W c fc) (hm : behindInMarks op' c = false) : ME X.K T P X W (.Compare a [op, op'] [b, c] pos) (chF g g' fa fb fc) := by
  refine (pe_chain h h' ha hb hc (show behindInMarks op' c = false from hm)).imp fun σ H Q q => ?_
  obtain ⟨env, s, w, E, S, o⟩ := q
  refine ⟨env, s, w, E, S, o.bind.mono fun x _ H1 _ q => ?_⟩
  obtain ⟨w1, d, s1, l1, S1, r1, o1⟩ := q
  refine ⟨env, s1, w1, E.mono l1, S1, o1.bind.mono fun y _ H2 l2 q => ?_⟩
  obtain ⟨w2, e, s2, l2', S2, r2, o2⟩ := q
  cases z : g s2 d e with
  | none => rw [z] at o2; exact o2.elim
  | some k =>
    rw [z] at o2
    refine ⟨w2, s2, d, e, .bl k, S2, r1.mono l2', r2, by show (g s2 d e).map D.bl = _; rw [z]; rfl, fun v w3 H3 l3 S3 r3 => ?_⟩
    cases r3
    refine ⟨k, rfl, ?_⟩
    cases k with
    | false => rw [if_neg Bool.false_ne_true]; exact o2 _ w3 H3 l3 S3 (.bl _)
    | true =>
      rw [if_pos rfl]
      refine ⟨env, s2, w3, (E.mono l1).mono (l2'.trans l3), S3, (o2.later l3).bind.mono fun z' _ H4 _ q => ?_⟩
      obtain ⟨w4, f, s4, l4, S4, r4, o4⟩ := q
      cases z2 : g' s4 e f with
      | none => rw [z2] at o4; exact o4.elim
      | some k' =>
        rw [z2] at o4
        exact ⟨w4, s4, e, f, .bl k', S4, (r2.mono l3).mono l4, r4, by show (g' s4 e f).map D.bl = _; rw [z2]; rfl, o4⟩
theorem mt_chain {op op' : CmpOp} {g g' : Sto → D → D → Option Bool} (h : OpM T P X (compareOp op) fun s x y => (g s x y).map D.bl) (h' : OpM T P X (compareOp op') fun s x y => (g' s x y).map D.bl)
    (ha : ME X.K T P X W a fa) (hb : ME X.K T P X W b fb) (hc : ME X.K T P X W c fc) (hm : behindInMarks op' c = false) : MT X.K T P X W (.Compare a [op, op'] [b, c] pos) (tru (chF g g' fa fb fc)) := by
  refine (pt_chain h h' ha hb hc (show behindInMarks op' c = false from hm)).imp fun σ H Q q => ?_
  obtain ⟨env, s, w, E, S, o⟩ := q
  simp only [tru, chF, R.bind_assoc] at o
  refine ⟨env, s, w, E, S, o.bind.mono fun x _ H1 _ q => ?_⟩
  obtain ⟨w1, d, s1, l1, S1, r1, o1⟩ := q
  refine ⟨env, s1, w1, E.mono l1, S1, o1.bind.mono fun y _ H2 l2 q => ?_⟩
  obtain ⟨w2, e, s2, l2', S2, r2, o2⟩ := q
  cases z : g s2 d e with
  | none => rw [z] at o2; exact o2.elim
  | some k =>
    rw [z] at o2
    refine ⟨w2, s2, d, e, .bl k, S2, r1.mono l2', r2, by show (g s2 d e).map D.bl = _; rw [z]; rfl, fun v w3 H3 l3 S3 r3 => ?_⟩
    cases r3
    simp only [opt1_some] at o2
    cases k with
    | false => exact ⟨false, rfl, false, rfl, o2 _ w3 H3 l3 S3 rfl⟩
    | true =>
      refine ⟨true, rfl, ?_⟩
      simp only [if_true, R.bind_assoc] at o2
      refine ⟨env, s2, w3, (E.mono l1).mono (l2'.trans l3), S3, (o2.later l3).bind.mono fun z' _ H4 _ q => ?_⟩
      obtain ⟨w4, f, s4, l4, S4, r4, o4⟩ := q
      cases z2 : g' s4 e f with
      | none => rw [z2] at o4; exact o4.elim
      | some k' =>
        rw [z2] at o4
        refine ⟨w4, s4, e, f, .bl k', S4, (r2.mono l3).mono l4, r4, by show (g' s4 e f).map D.bl = _; rw [z2]; rfl, fun v w5 H5 l5 S5 r5 => ?_⟩
        cases r5
        exact ⟨k', rfl, o4 _ w5 H5 l5 S5 rfl⟩

/-! ### subscripts -/
theorem ixN_eq (n : Nat) (i : Int) : MP.ixN n i = L2.ixN n i := rfl
theorem atI_ok {K : PySem.W.Frag} {w : Wd} {H : Hp} {ds : List D} {vs : List V} {i : Int} {d : D} (r : Reps K T P w H ds vs) (h : MP.atI ds i = some d) : ∃ v, L2.atI vs i = some v ∧ Rep K T P w H d v := by
  unfold MP.atI at h
  unfold L2.atI
  rw [← r.length, ← ixN_eq]
  cases e : MP.ixN ds.length i with
  | none => rw [e] at h; cases h
  | some j => rw [e] at h; exact r.get h
theorem me_idx (ha : ME X.K T P X W a fa) (hb : ME X.K T P X W b fb) (hs : PlainIx b) : ME X.K T P X W (.Subscript a b pos) (fun env s => (fa env s).bind fun x s => (fb env s).bind fun y s => .opt (indexS s x y) s) := by
  refine (pe_ix ix_seq ha hb hs).imp fun σ H Q q => ?_
  obtain ⟨env, s, w, E, S, o⟩ := q
  refine ⟨env, s, w, E, S, o.bind.mono fun x _ H1 _ q => ?_⟩
  obtain ⟨w1, d, s1, l1, S1, r1, o1⟩ := q
  refine ⟨env, s1, w1, E.mono l1, S1, o1.bind.mono fun y _ H2 l2 q => ?_⟩
  obtain ⟨w2, e, s2, l2', S2, r2, o2⟩ := q
  have r1' := r1.mono l2'
  cases z : indexS s2 d e with
  | none => rw [z] at o2; exact o2.elim
  | some z' =>
    rw [z] at o2
    unfold indexS at z
    split at z
    · rename_i xs j hs
      cases r2
      obtain ⟨p, vs, rfl, hq, rr⟩ := seqOf_ok' S2 r1' hs
      obtain ⟨v, hv, rv⟩ := atI_ok rr z
      rcases hq with hq | hq
      · exact .inl ⟨p, vs, j, v, rfl, rfl, hq, hv, o2.here S2 rv⟩
      · exact .inr (.inl ⟨p, vs, j, v, rfl, rfl, hq, hv, o2.here S2 rv⟩)
    · split at z
      · rename_i x' _
        split at z
        · rename_i hl
          cases r2
          cases r1'
          cases hc : MP.atI x' _ with
          | none => rw [hc] at z; cases z
          | some c =>
            rw [hc] at z
            cases z
            refine .inr (.inr ⟨_, _, c, rfl, rfl, by rw [← line_eq]; simpa [PySem.Str.length] using hl, ?_, o2.here S2 (.str [c])⟩)
            have e1 : (⟨x'.toArray⟩ : Str).cps.toList = x' := by simp
            rw [e1]
            exact hc
        · cases z
      · cases z
    · cases z
/-! ### slices -/
theorem mo_none : MO X.K T P X W none (fun _ s => .ok none s) := by
  refine po_none.imp fun σ H Q q => ?_
  obtain ⟨env, s, w, E, S, o⟩ := q
  exact o.here S rfl
theorem mo_some (ha : ME X.K T P X W a fa) : MO X.K T P X W (some a) (fun env s => (fa env s).bind fun x s => match x with
    | .int i => .ok (some i) s
    | _ => .no) := by
  refine (po_some ha).imp fun σ H Q q => ?_
  obtain ⟨env, s, w, E, S, o⟩ := q
  refine ⟨env, s, w, E, S, o.bind.mono fun x _ H1 _ q => ?_⟩
  obtain ⟨w1, d, s1, l1, S1, r1, o1⟩ := q
  cases r1 <;> first | exact o1.elim | exact ⟨_, rfl, o1.here S1 rfl⟩
def rSlM (K : PySem.W.Frag) : V → Option Int → Option Int → Hp → VK → Prop := fun x lo hi H Q => rSlA K x lo hi H Q ∨ (rSlL K x lo hi H Q ∨ rSlS x lo hi H Q)
theorem sl_M : SlR X (rSlM X.K) := sl_tupA.or (sl_list.or sl_str)
theorem sIx_eq (n d : Nat) (o : Option Int) : MP.sIx n d o = HT.sIx n d o := by cases o <;> rfl
theorem me_slc {m : Bool} {lo hi : Option Expr} {fl fh : Env → Sto → R (Option Int)} {p2 : Pos} (ha : ME X.K T P X W a fa) (hl : MO X.K T P X W lo fl) (hh : MO X.K T P X W hi fh) :
    ME X.K T P X W (.Subscript a (.Slice lo hi none p2) pos) (fun env s => (fa env s).bind fun x s => (fl env s).bind fun l s => (fh env s).bind fun h s => slF m x l h s) := by
  refine (pe_slice sl_M ha hl hh).imp fun σ H Q q => ?_
  obtain ⟨env, s, w, E, S, o⟩ := q
  refine ⟨env, s, w, E, S, o.bind.mono fun x _ H1 _ q => ?_⟩
  obtain ⟨w1, d, s1, l1, S1, r1, o1⟩ := q
  refine ⟨env, s1, w1, E.mono l1, S1, o1.bind.mono fun l _ H2 l2 q => ?_⟩
  obtain ⟨w2, l', s2, l2', S2, e2, o2⟩ := q
  refine ⟨env, s2, w2, (E.mono l1).mono l2', S2, o2.bind.mono fun h _ H3 l3 q => ?_⟩
  obtain ⟨w3, h', s3, l3', S3, e3, o3⟩ := q
  have e2' : l' = l := e2
  have e3' : h' = h := e3
  subst e2' e3'
  have r1' := (r1.mono l2').mono l3'
  have seq : ∀ {xs : List D}, seqOf s3 d = some xs → (∀ ys, d ≠ .tup ys) → Out X.K T P (Rep X.K T P) w3 H3 σ W Q (newL m (MP.cut xs l' h') s3) → rSlM X.K x l' h' H3 Q := fun hs nt o => by
    obtain ⟨p, vs, rfl, hq, rr⟩ := seqOf_ok S3 r1' hs
    rcases hq with ⟨hq, _⟩ | ⟨_, e⟩
    · exact .inr (.inl ⟨p, vs, rfl, hq, fun q hq => out_newL o S3 (rr.cut _ _) q hq⟩)
    · exact absurd e (nt _)
  unfold slF at o3
  split at o3
  · rename_i xs
    cases r1' with
    | tup f1 hh rr =>
      refine .inl ⟨_, _, rfl, SqT.of hh, fun hw => ?_, fun hw p hp => out_ice o3 S3 hp (.tup (.inr rfl) upd_same ((rr.cut _ _).mono (le_ice S3 hp)))⟩
      have e : MP.cut xs l' h' = xs := by
        unfold MP.cut
        rw [sIx_eq, sIx_eq, rr.length, hw.1, hw.2, List.drop_zero, Nat.sub_zero, ← rr.length, List.take_length]
      rw [e] at o3
      exact o3.here S3 (.tup f1 hh rr)
  · rename_i xs
    split at o3
    · rename_i hl
      cases r1'
      refine .inr (.inr ⟨_, rfl, by rw [← line_eq]; simpa [PySem.Str.length] using hl, ?_⟩)
      have e : L2.cutS ⟨xs.toArray⟩ l' h' = ⟨(MP.cut xs l' h').toArray⟩ := by
        unfold L2.cutS MP.cut
        simp only [sIx_eq]
        simp [PySem.Str.length]
      rw [e]
      exact o3.here S3 (.str _)
    · exact o3.elim
  · rename_i h1 h2
    cases hs : seqOf s3 d with
    | none => rw [hs] at o3; exact o3.elim
    | some xs => rw [hs] at o3; exact seq hs h1 o3
end
end MP
set_option autoImplicit false
set_option linter.all false
set_option maxRecDepth 10000
set_option maxHeartbeats 1000000
/-! MPh: fields, built-ins by value, lists made, methods of lists. -/
namespace MP
open PySem PySem.Spec PyProof.Rows L2

def tyName : Ty → String
  | .int => "int"
  | .bool => "bool"
  | .str => "str"
  | .tuple => "tuple"
  | .list => "list"
  | .dict => "dict"
  | .cls _ => ""
  | .val => "ValueError"
/-- what the top says of an instance class -/
structure ClsF (K : PySem.W.Frag) (T : Tab) (k : Cls) (C : Addr) : Prop where
  cl : L2.Cls K C
  no : ∀ f ∈ k.flds, NoAttr K C (T.anm f)
  ha : PySem.W.findIn K (.ref C) "__class__" = some (some (.builtin "object.__class__"))
  hn : PySem.W.specialIn K (.builtin "object.__class__") "__get__" = some (some (.builtin "getset_descriptor.__get__"))
  ht : PySem.W.takesIn K (.builtin "object.__class__") = some true
  hm : PySem.W.mroIn K C (.type "object") = some true
/-- what the top says of the classes -/
structure TabOk (K : PySem.W.Frag) (T : Tab) (P : Prog) : Prop where
  pn : T.pn = []
  inst : ∀ c k, P.cls c = some k → k.exn = false → ClsF K T k (ca K T c)
  anm : ∀ c k f g, P.cls c = some k → f ∈ k.flds → g ∈ k.flds → T.anm f = T.anm g → f = g
  kit1 : ∀ c k t, P.cls c = some k → t ∈ ["NoneType", "int", "bool", "str", "tuple", "list", "dict"] → PySem.W.kitOne K (.type t) (.ref (ca K T c)) = some false
  kit2 : ∀ c k t, P.cls c = some k → k.exn = false → t ∈ ["int", "bool", "str", "tuple", "list", "dict"] → PySem.W.kitOne K (.ref (ca K T c)) (.type t) = some false
  kit3 : ∀ c k c' k', P.cls c = some k → k.exn = false → P.cls c' = some k' → PySem.W.kitOne K (.ref (ca K T c)) (.ref (ca K T c')) = some (P.sub c c')
section
variable {T : Tab} {P : Prog} {X : Cx} {W : WX} {a b c : Expr} {fa fb fc : Env → Sto → R D} {pos : Pos}
/-! ### fields -/
theorem lookF_zip {K : PySem.W.Frag} {w : Wd} {H : Hp} {f : Nat} {d : D} : ∀ {ns : List Nat} {ds : List D} {vs : List V}, Reps K T P w H ds vs → (∀ g ∈ ns, T.anm f = T.anm g → f = g) → lookF f (ns.zip ds) = some d → ∃ v, ((ns.map T.anm).zip vs).lookup (T.anm f) = some v ∧ Rep K T P w H d v
  | [], _, _, _, _, h => by simp [lookF] at h
  | n :: ns, _, _, .nil, _, h => by simp [lookF] at h
  | n :: ns, _, _, .cons (v := v) r t, hi, h => by
    simp only [List.zip_cons_cons, lookF] at h
    simp only [List.map_cons, List.zip_cons_cons, List.lookup_cons]
    split at h
    · rename_i e
      subst e
      cases h
      simp only [beq_self_eq_true]
      exact ⟨v, rfl, r⟩
    · rename_i e
      have ne : (T.anm f == T.anm n) = false := beq_eq_false_iff_ne.mpr fun z => e (hi n (by simp) z).symm
      rw [ne]
      exact lookF_zip t (fun g hg => hi g (by simp [hg])) h
theorem lookF_fs {K : PySem.W.Frag} {w : Wd} {H : Hp} {f : Nat} {d : D} : ∀ {fs : List (Nat × D)} {gs : List (Str × V)}, FsR K T P w H fs gs → (∀ p ∈ fs, T.anm f = T.anm p.1 → f = p.1) → lookF f fs = some d → ∃ v, gs.lookup (T.anm f) = some v ∧ Rep K T P w H d v
  | _, _, .nil, _, h => by simp [lookF] at h
  | _, _, .cons (f := n) (v := v) r t, hi, h => by
    simp only [lookF] at h
    simp only [List.lookup_cons]
    split at h
    · rename_i e
      subst e
      cases h
      simp only [beq_self_eq_true]
      exact ⟨v, rfl, r⟩
    · rename_i e
      have ne : (T.anm f == T.anm n) = false := beq_eq_false_iff_ne.mpr fun z => e (hi _ List.mem_cons_self z).symm
      rw [ne]
      exact lookF_fs t (fun g hg => hi g (by simp [hg])) h
variable {g : G}
theorem lookF_mem {f : Nat} {d : D} : ∀ {ns : List Nat} {ds : List D}, lookF f (ns.zip ds) = some d → f ∈ ns
  | [], _, h => by simp [lookF] at h
  | n :: ns, [], h => by simp [lookF] at h
  | n :: ns, x :: ds, h => by
    simp only [List.zip_cons_cons, lookF] at h
    split at h
    · rename_i e; simp [e]
    · exact List.mem_cons_of_mem _ (lookF_mem h)
theorem field_ok (O : TabOk X.K T P) (hg : g.cls = P.cls) {w : Wd} {H : Hp} {s : Sto} {d e : D} {x : V} {f : Nat} (S : SRel X.K T P w H s) (r : Rep X.K T P w H d x) (h : field g s d f = some e) :
    ∃ a C dx fs v, x = .ref a ∧ H a = some (.ins C dx fs) ∧ L2.Cls X.K C ∧ NoAttr X.K C (T.anm f) ∧ fs.lookup (T.anm f) = some v ∧ Rep X.K T P w H e v := by
  unfold field at h
  rw [hg] at h
  split at h
  · split at h
    · rename_i k hk
      cases r with
      | rcd f1 hc hx hl hh rr =>
        rw [hc] at hk
        cases hk
        have hm := lookF_mem h
        obtain ⟨v, h1, h2⟩ := lookF_zip rr (fun g hg z => O.anm _ _ _ _ hc hm hg z) h
        have F := O.inst _ _ hc hx
        exact ⟨_, _, _, _, v, rfl, hh, F.cl, F.no _ hm, h1, h2⟩
    · cases h
  · split at h
    · rename_i c fs hs
      split at h
      · rename_i k hk
        split at h
        · rename_i hm
          cases r with
          | ref hh =>
            obtain ⟨_, dx, gs, k', h1, h2, h3, hx, h4⟩ := S.cell _ _ _ hs hh (fun z => nomatch z)
            rw [hk] at h3
            cases h3
            obtain ⟨v, q1, q2⟩ := lookF_fs h2 (fun p hp z => O.anm _ _ _ _ hk hm (h4 p hp) z) h
            have F := O.inst _ _ hk hx
            exact ⟨_, _, _, _, v, rfl, h1, F.cl, F.no _ hm, q1, q2⟩
        · cases h
      · cases h
    · cases h
  · cases h
end
end MP
set_option autoImplicit false
set_option linter.all false
set_option maxRecDepth 10000
set_option maxHeartbeats 1000000
/-! MPi: built-ins by value. -/
namespace MP
open PySem PySem.Spec PyProof.Rows L2
section
variable {T : Tab} {P : Prog} {X : Cx} {W : WX} {a b c : Expr} {fa fb fc : Env → Sto → R D} {pos : Pos} {g : G}
theorem me_fld {f : Nat} (O : TabOk X.K T P) (hg : g.cls = P.cls) (ha : ME X.K T P X W a fa) (hb : attributeBase a (T.anm f) X.env (eval a X.env) = eval a X.env) :
    ME X.K T P X W (.Attribute a (T.anm f) pos) (fun env s => (fa env s).bind fun x s => .opt (field g s x f) s) := by
  refine (pe_fld ha hb).imp fun σ H Q q => ?_
  obtain ⟨env, s, w, E, S, o⟩ := q
  refine ⟨env, s, w, E, S, o.bind.mono fun x _ H1 _ q => ?_⟩
  obtain ⟨w1, d, s1, l1, S1, r1, o1⟩ := q
  cases z : field g s1 d f with
  | none => rw [z] at o1; exact o1.elim
  | some e =>
    rw [z] at o1
    obtain ⟨a, C, dx, fs, v, h1, h2, h3, h4, h5, h6⟩ := field_ok O hg S1 r1 z
    exact ⟨a, C, dx, fs, v, h1, h2, h3, h4, h5, o1.here S1 h6⟩
/-! ### a built-in function, a built-in class called -/
def CallM (T : Tab) (P : Prog) (X : Cx) (f : Value) (g : Sto → List D → R D) : Prop :=
  ∀ (W : WX) (σ : L2.St), CallR X f fun xs H Q => ∃ w s ds, SRel X.K T P w H s ∧ Reps X.K T P w H ds xs ∧ (∀ c fs s', g s ds ≠ .ex c fs s') ∧ Out X.K T P (Rep X.K T P) w H σ W Q (g s ds)
variable {x : Str} {p : Pos} {es : List Expr} {e : Expr} {fl : Env → Sto → R (List D)} {id : String} {k : Sto → List D → R D}
theorem me_call (cl : ∀ (Q : L2.St → V → Hp → VK → Prop), True) : True := trivial
/-- the frame of both: t says what the call does with the arguments -/
theorem me_cb {f : Value} (hc : CallM T P X f k) (hx : ∀ s ds c fs s', k s ds ≠ .ex c fs s') (ha : MA X.K T P X W (e :: es) fl)
    (hp : ∀ (r : List V → Hp → VK → Prop), CallR X f r → PE X (.Call (.Name x p) (e :: es) [] pos) (tCB r (tG X.K T P (Reps X.K T P) fl W))) : ME X.K T P X W (.Call (.Name x p) (e :: es) [] pos) (fun env s => (fl env s).bind fun xs s => k s xs) := by
  refine ⟨fun pins s0 σ H Q I q => ?_⟩
  refine (hp _ (hc W σ)).run pins s0 σ H Q I ?_
  obtain ⟨env, s, w, E, S, o⟩ := q
  refine ⟨env, s, w, E, S, o.bind.mono fun xs _ H1 _ q => ?_⟩
  obtain ⟨w1, ds, s1, l1, S1, r1, o1⟩ := q
  exact ⟨w1, s1, ds, S1, r1, fun c fs s' => hx _ _ _ _ _, o1⟩
theorem me_callB (hc : CallM T P X (.builtin id) k) (hx : ∀ s ds c fs s', k s ds ≠ .ex c fs s') (hg : Gl X x) (hm : X.mg x = none) (hv : bootBuiltins x = some (.builtin id)) (ha : MA X.K T P X W (e :: es) fl) (hn : x ≠ "__name__") (hdb : (x == ("__debug__" : Str)) = false)
    (he : starEach (e :: es) X.env = (false, eval e X.env) :: starEach es X.env) (hpl : (backTo pos (starEach es X.env)).any (·.1) = false) : ME X.K T P X W (.Call (.Name x p) (e :: es) [] pos) (fun env s => (fl env s).bind fun xs s => k s xs) :=
  me_cb hc hx ha fun r hr => pe_callB hr hg hm hv ha hn hdb he hpl
theorem me_callTy (hc : CallM T P X (.type id) k) (hx : ∀ s ds c fs s', k s ds ≠ .ex c fs s') (hg : Gl X x) (hm : X.mg x = none) (hv : bootBuiltins x = some (.type id)) (ha : MA X.K T P X W (e :: es) fl) (hn : x ≠ "__name__") (hdb : (x == ("__debug__" : Str)) = false)
    (he : starEach (e :: es) X.env = (false, eval e X.env) :: starEach es X.env) (hpl : (backTo pos (starEach es X.env)).any (·.1) = false) : ME X.K T P X W (.Call (.Name x p) (e :: es) [] pos) (fun env s => (fl env s).bind fun xs s => k s xs) :=
  me_cb hc hx ha fun r hr => pe_callTy hr hg hm hv ha hn hdb he hpl
theorem opt_ne {α : Type} {o : Option α} {s : Sto} {c : Nat} {fs : List D} {s' : Sto} : (R.opt o s : R α) ≠ .ex c fs s' := by cases o <;> exact fun z => nomatch z
/-- value rules of one argument and no effect -/
theorem callM1 {f : Value} {r : List V → Hp → VK → Prop} (hr : CallR X f r) {h : Sto → D → Option D}
    (hh : ∀ (w : Wd) (H : Hp) (s : Sto) (d z : D) (x : V) (Q : VK), SRel X.K T P w H s → Rep X.K T P w H d x → h s d = some z → (∀ v, Rep X.K T P w H z v → Q v H) → r [x] H Q) :
    CallM T P X f fun s ds => match ds with
      | [d] => .opt (h s d) s
      | _ => .no := by
  intro W σ pins s0 σ0 H xs us Q I rx q
  obtain ⟨w, s, ds, S, rr, _, o⟩ := q
  match ds, rr, o with
  | [d], rr, o =>
    obtain ⟨v, rfl, r1⟩ := rr.singleton
    simp only at o
    cases z : h s d with
    | none => rw [z] at o; exact o.elim
    | some z' =>
      rw [z] at o
      exact hr pins s0 σ0 H _ us Q I rx (hh w H s d z' v Q S r1 z fun v r => o.here S r)
theorem callM2 {f : Value} {r : List V → Hp → VK → Prop} (hr : CallR X f r) {h : Sto → D → D → Option D}
    (hh : ∀ (w : Wd) (H : Hp) (s : Sto) (d e z : D) (x y : V) (Q : VK), SRel X.K T P w H s → Rep X.K T P w H d x → Rep X.K T P w H e y → h s d e = some z → (∀ v, Rep X.K T P w H z v → Q v H) → r [x, y] H Q) :
    CallM T P X f fun s ds => match ds with
      | [d, e] => .opt (h s d e) s
      | _ => .no := by
  intro W σ pins s0 σ0 H xs us Q I rx q
  obtain ⟨w, s, ds, S, rr, _, o⟩ := q
  match ds, rr, o with
  | [d, e], rr, o =>
    obtain ⟨v, u, rfl, r1, r2⟩ := rr.two
    simp only at o
    cases z : h s d e with
    | none => rw [z] at o; exact o.elim
    | some z' =>
      rw [z] at o
      exact hr pins s0 σ0 H _ us Q I rx (hh w H s d e z' v u Q S r1 r2 z fun v r => o.here S r)
/-- len -/
abbrev lenS := lenD
theorem cm_len : CallM T P X (.builtin "len") (fun s ds => match ds with
      | [d] => .opt ((lenS s d).map fun n => D.int n) s
      | _ => .no) := by
  refine callM1 call_len fun w H s d z x Q S r h k => ?_
  cases e : lenS s d with
  | none => rw [e] at h; cases h
  | some n =>
    rw [e] at h
    cases h
    refine ⟨x, n, rfl, ?_, k _ (.int _)⟩
    unfold lenS lenD at e
    split at e
    · rename_i xs hs
      cases e
      obtain ⟨p, vs, rfl, hq, rr⟩ := seqOf_ok' S r hs
      rw [rr.length]
      exact hq.elim (fun z => .inl ⟨vs, z, rfl⟩) fun z => .inr ⟨vs, z, rfl⟩
    · split at e
      · split at e
        · rename_i hl
          cases e
          cases r
          exact ⟨by rw [← line_eq]; simpa [PySem.Str.length] using hl, by simp [PySem.Str.length]⟩
        · cases e
      · cases e
theorem cm_abs : CallM T P X (.builtin "abs") (fun s ds => match ds with
      | [d] => .opt (match d with
        | .int i => some (D.int (if i < 0 then -i else i))
        | _ => none) s
      | _ => .no) := by
  refine callM1 (h := fun _ d => match d with
        | .int i => some (D.int (if i < 0 then -i else i))
        | _ => none) call_abs fun w H s d z x Q S r h k => ?_
  cases r <;> first | (cases h; done) | (cases h; exact ⟨_, rfl, k _ (.int _)⟩)
theorem cm_int : CallM T P X (.type "int") (fun s ds => match ds with
      | [d] => .opt (match d with
        | .int i => some (D.int i)
        | .bl b => some (D.int (if b then 1 else 0))
        | _ => none) s
      | _ => .no) := by
  refine callM1 (h := fun _ d => match d with
        | .int i => some (D.int i)
        | .bl b => some (D.int (if b then 1 else 0))
        | _ => none) call_int1 fun w H s d z x Q S r h k => ?_
  cases r <;> first | (cases h; done) | (cases h; exact .inl ⟨_, rfl, k _ (.int _)⟩) | (cases h; exact .inr ⟨_, rfl, k _ (.int _)⟩)
theorem cm_max2 (hc : X.calm = true) : CallM T P X (.builtin "max") (fun s ds => match ds with
      | [d, e] => .opt (match d, e with
        | .int i, .int j => some (D.int (if j > i then j else i))
        | _, _ => none) s
      | _ => .no) := by
  refine callM2 (h := fun _ d e => match d, e with
        | .int i, .int j => some (D.int (if j > i then j else i))
        | _, _ => none) (call_max2 hc) fun w H s d e z x y Q S r1 r2 h k => ?_
  split at h
  · cases h; cases r1; cases r2; exact ⟨_, _, rfl, k _ (.int _)⟩
  · cases h
theorem cm_min2 (hc : X.calm = true) : CallM T P X (.builtin "min") (fun s ds => match ds with
      | [d, e] => .opt (match d, e with
        | .int i, .int j => some (D.int (if j < i then j else i))
        | _, _ => none) s
      | _ => .no) := by
  refine callM2 (h := fun _ d e => match d, e with
        | .int i, .int j => some (D.int (if j < i then j else i))
        | _, _ => none) (call_min2 hc) fun w H s d e z x y Q S r1 r2 h k => ?_
  split at h
  · cases h; cases r1; cases r2; exact ⟨_, _, rfl, k _ (.int _)⟩
  · cases h

/-! ### sum, any, all -/
theorem intsOf_ok {K : PySem.W.Frag} {w : Wd} {H : Hp} : ∀ {ds : List D} {vs : List V} {ns : List Int}, Reps K T P w H ds vs → intsOf ds = some ns → vs = ns.map V.int
  | [], _, ns, .nil, h => by cases h; rfl
  | d :: ds, _, ns, .cons r t, h => by
    cases r <;> simp only [intsOf] at h
    case int i =>
      cases e : intsOf ds with
      | none => rw [e] at h; cases h
      | some ms => rw [e] at h; cases h; rw [intsOf_ok t e]; rfl
    all_goals cases h
theorem blsOf_ok {K : PySem.W.Frag} {w : Wd} {H : Hp} : ∀ {ds : List D} {vs : List V} {ns : List Bool}, Reps K T P w H ds vs → blsOf ds = some ns → vs = ns.map V.bl
  | [], _, ns, .nil, h => by cases h; rfl
  | d :: ds, _, ns, .cons r t, h => by
    cases r <;> simp only [blsOf] at h
    case bl i =>
      cases e : blsOf ds with
      | none => rw [e] at h; cases h
      | some ms => rw [e] at h; cases h; rw [blsOf_ok t e]; rfl
    all_goals cases h
theorem cr_sumT (hc : X.calm = true) : CallR X (.builtin "sum") (fun vs H Q => ∃ (a : Addr) (ns : List Int), vs = [V.ref a] ∧ SqT X.K H a (ns.map V.int) ∧ Q (.int ns.sum) H) := by
  intro pins s σ H vs us Q I r h
  obtain ⟨a, ns, rfl, hs, q⟩ := h
  obtain ⟨its, rv, hl, _⟩ := I.tuple hs
  rw [Vals.ref1 r]
  have hi := rv.ints
  have hl' : s.heap.IsTuple a its.toArray := hl
  obtain ⟨xs, e⟩ := hi.allInts.items
  have hn : numsOf (intItems xs).toList = ns := by rw [← e]; exact hi.numsOf
  rw [nums_intItems] at hn
  rw [e] at hl'
  refine PySem.W.ktm_sumG (I.ok.hd hc) hl' fun h' tk t' hk => ?_
  rw [preSum_eq, List.take_of_length_le (by simp), hn]
  exact ⟨.int _, H, I.kept hk, ⟨_, rfl⟩, q⟩
theorem cm_sum (hc : X.calm = true) : CallM T P X (.builtin "sum") (fun s ds => match ds with
      | [d] => .opt (((seqOf s d).bind intsOf).map fun ns => D.int ns.sum) s
      | _ => .no) := by
  refine callM1 ((cr_sum hc).or (cr_sumT hc)) fun w H s d z x Q S r h k => ?_
  cases e : seqOf s d with
  | none => rw [e] at h; cases h
  | some xs =>
    rw [e] at h
    cases e2 : intsOf xs with
    | none => simp [e2] at h
    | some ns =>
      simp [e2] at h
      subst h
      obtain ⟨p, vs, rfl, hq, rr⟩ := seqOf_ok' S r e
      have := intsOf_ok rr e2
      subst this
      exact hq.elim (fun z => .inl ⟨p, ns, rfl, z, k _ (.int _)⟩) fun z => .inr ⟨p, ns, rfl, z, k _ (.int _)⟩
theorem cm_any (hc : X.calm = true) : CallM T P X (.builtin "any") (fun s ds => match ds with
      | [d] => .opt (((lstOf s d).bind blsOf).map fun ns => D.bl (ns.any _root_.id)) s
      | _ => .no) := by
  refine callM1 (cr_any hc) fun w H s d z x Q S r h k => ?_
  cases e : lstOf s d with
  | none => rw [e] at h; cases h
  | some xs =>
    rw [e] at h
    cases e2 : blsOf xs with
    | none => simp [e2] at h
    | some ns =>
      simp only [Option.bind_some, e2, Option.map_some, Option.some.injEq] at h
      subst h
      obtain ⟨p, vs, rfl, hq, rr⟩ := lstOf_ok S r e
      have := blsOf_ok rr e2
      subst this
      exact ⟨p, ns, rfl, SqL.of hq, k _ (.bl _)⟩
theorem cm_all (hc : X.calm = true) : CallM T P X (.builtin "all") (fun s ds => match ds with
      | [d] => .opt (((lstOf s d).bind blsOf).map fun ns => D.bl (ns.all _root_.id)) s
      | _ => .no) := by
  refine callM1 (cr_all hc) fun w H s d z x Q S r h k => ?_
  cases e : lstOf s d with
  | none => rw [e] at h; cases h
  | some xs =>
    rw [e] at h
    cases e2 : blsOf xs with
    | none => simp [e2] at h
    | some ns =>
      simp only [Option.bind_some, e2, Option.map_some, Option.some.injEq] at h
      subst h
      obtain ⟨p, vs, rfl, hq, rr⟩ := lstOf_ok S r e
      have := blsOf_ok rr e2
      subst this
      exact ⟨p, ns, rfl, SqL.of hq, k _ (.bl _)⟩
/-! ### max, min of a list -/
theorem maxI_mem : ∀ (m : Int) (ns : List Int), maxI m ns ∈ m :: ns ∧ ∀ y ∈ m :: ns, y ≤ maxI m ns
  | m, [] => ⟨List.mem_singleton.mpr rfl, fun y hy => by rw [List.mem_singleton.mp hy]; exact Int.le_refl _⟩
  | m, x :: r => by
    obtain ⟨h1, h2⟩ := maxI_mem (if m < x then x else m) r
    have e : maxI m (x :: r) = maxI (if m < x then x else m) r := rfl
    rw [e]
    constructor
    · rcases List.mem_cons.mp h1 with h | h
      · rw [h]; split <;> simp
      · simp [h]
    · intro y hy
      have hb := h2 _ List.mem_cons_self
      have hx : m ≤ (if m < x then x else m) ∧ x ≤ (if m < x then x else m) := by split <;> omega
      rcases List.mem_cons.mp hy with h | h
      · subst h; omega
      · rcases List.mem_cons.mp h with h | h
        · subst h; omega
        · exact h2 y (List.mem_cons_of_mem _ h)
theorem minI_mem : ∀ (m : Int) (ns : List Int), minI m ns ∈ m :: ns ∧ ∀ y ∈ m :: ns, minI m ns ≤ y
  | m, [] => ⟨List.mem_singleton.mpr rfl, fun y hy => by rw [List.mem_singleton.mp hy]; exact Int.le_refl _⟩
  | m, x :: r => by
    obtain ⟨h1, h2⟩ := minI_mem (if x < m then x else m) r
    have e : minI m (x :: r) = minI (if x < m then x else m) r := rfl
    rw [e]
    constructor
    · rcases List.mem_cons.mp h1 with h | h
      · rw [h]; split <;> simp
      · simp [h]
    · intro y hy
      have hb := h2 _ List.mem_cons_self
      have hx : (if x < m then x else m) ≤ m ∧ (if x < m then x else m) ≤ x := by split <;> omega
      rcases List.mem_cons.mp hy with h | h
      · subst h; omega
      · rcases List.mem_cons.mp h with h | h
        · subst h; omega
        · exact h2 y (List.mem_cons_of_mem _ h)
theorem cm_max (hc : X.calm = true) : CallM T P X (.builtin "max") (fun s ds => match ds with
      | [d] => .opt (match (lstOf s d).bind intsOf with
        | some (n :: ns) => some (D.int (maxI n ns))
        | _ => none) s
      | _ => .no) := by
  refine callM1 (h := fun s d => match (lstOf s d).bind intsOf with
        | some (n :: ns) => some (D.int (maxI n ns))
        | _ => none) (cr_max hc) fun w H s d z x Q S r h k => ?_
  cases e : lstOf s d with
  | none => simp [e] at h
  | some xs =>
    cases e2 : intsOf xs with
    | none => simp [e, e2] at h
    | some ns =>
      cases ns with
      | nil => simp [e, e2] at h
      | cons n ns =>
        simp only [e, Option.bind_some, e2, Option.some.injEq] at h
        subst h
        obtain ⟨p, vs, rfl, hq, rr⟩ := lstOf_ok S r e
        have := intsOf_ok rr e2
        subst this
        refine ⟨p, n :: ns, rfl, SqL.of hq, Nat.succ_pos _, fun m hm hle => ?_⟩
        obtain ⟨h1, h2⟩ := maxI_mem n ns
        have : m = maxI n ns := Int.le_antisymm (h2 m hm) (hle _ h1)
        rw [this]
        exact k _ (.int _)
theorem cm_min (hc : X.calm = true) : CallM T P X (.builtin "min") (fun s ds => match ds with
      | [d] => .opt (match (lstOf s d).bind intsOf with
        | some (n :: ns) => some (D.int (minI n ns))
        | _ => none) s
      | _ => .no) := by
  refine callM1 (h := fun s d => match (lstOf s d).bind intsOf with
        | some (n :: ns) => some (D.int (minI n ns))
        | _ => none) (cr_min hc) fun w H s d z x Q S r h k => ?_
  cases e : lstOf s d with
  | none => simp [e] at h
  | some xs =>
    cases e2 : intsOf xs with
    | none => simp [e, e2] at h
    | some ns =>
      cases ns with
      | nil => simp [e, e2] at h
      | cons n ns =>
        simp only [e, Option.bind_some, e2, Option.some.injEq] at h
        subst h
        obtain ⟨p, vs, rfl, hq, rr⟩ := lstOf_ok S r e
        have := intsOf_ok rr e2
        subst this
        refine ⟨p, n :: ns, rfl, SqL.of hq, Nat.succ_pos _, fun m hm hle => ?_⟩
        obtain ⟨h1, h2⟩ := minI_mem n ns
        have : m = minI n ns := Int.le_antisymm (hle _ h1) (h2 m hm)
        rw [this]
        exact k _ (.int _)
/-! ### tuple(x), list(x) -/
/-- a call of one argument that makes something -/
theorem callN1 {f : Value} {r : List V → Hp → VK → Prop} (hr : CallR X f r) {h : Sto → D → R D} (hx : ∀ s d c fs s', h s d ≠ .ex c fs s')
    (hh : ∀ (W : WX) (σ : L2.St) (w : Wd) (H : Hp) (s : Sto) (d : D) (x : V) (Q : VK), SRel X.K T P w H s → Rep X.K T P w H d x → Out X.K T P (Rep X.K T P) w H σ W Q (h s d) → r [x] H Q) :
    CallM T P X f fun s ds => match ds with
      | [d] => h s d
      | _ => .no := by
  intro W σ pins s0 σ0 H xs us Q I rx q
  obtain ⟨w, s, ds, S, rr, _, o⟩ := q
  match ds, rr, o with
  | [d], rr, o =>
    obtain ⟨v, rfl, r1⟩ := rr.singleton
    exact hr pins s0 σ0 H _ us Q I rx (hh W σ w H s d v Q S r1 o)
theorem cm_tuple : CallM T P X (.type "tuple") (fun s ds => match ds with
      | [d] => opt1 (seqOf s d) fun xs => .ok (.tup xs) s
      | _ => .no) := by
  refine callN1 (h := fun s d => opt1 (seqOf s d) fun xs => .ok (.tup xs) s) call_tuple_of (fun s d c fs s' => by cases seqOf s d <;> exact fun z => nomatch z) fun W σ w H s d x Q S r o => ?_
  cases e : seqOf s d with
  | none => rw [e] at o; exact o.elim
  | some xs =>
    rw [e] at o
    obtain ⟨p, vs, rfl, hq, rr⟩ := seqOf_ok S r e
    rcases hq with ⟨hq, _⟩ | ⟨hq, e2⟩
    · exact ⟨p, vs, rfl, .inl ⟨hq, fun l hl => out_ice o S hl (.tup (.inr rfl) upd_same (rr.mono (le_ice S hl)))⟩⟩
    · refine ⟨p, vs, rfl, .inr ⟨hq, o.here S ?_⟩⟩
      rw [← e2]
      exact r
theorem newL_ne {m : Bool} {xs : List D} {s : Sto} {c : Nat} {fs : List D} {s' : Sto} : newL m xs s ≠ .ex c fs s' := by cases m <;> exact fun z => nomatch z
theorem cm_list {m : Bool} : CallM T P X (.type "list") (fun s ds => match ds with
      | [d] => opt1 (seqOf s d) fun xs => newL m xs s
      | _ => .no) := by
  refine callN1 (h := fun s d => opt1 (seqOf s d) fun xs => newL m xs s) call_list_of (fun s d c fs s' => by cases seqOf s d with | none => exact fun z => nomatch z | some xs => exact newL_ne) fun W σ w H s d x Q S r o => ?_
  cases e : seqOf s d with
  | none => rw [e] at o; exact o.elim
  | some xs =>
    rw [e] at o
    obtain ⟨p, vs, rfl, hq, rr⟩ := seqOf_ok' S r e
    exact ⟨p, vs, rfl, hq, fun l hl => out_newL o S rr l hl⟩
/-- sorted of ints -/
theorem insD_map : ∀ (x : Int) (ns : List Int), ∃ ms : List Int, insD (.int x) (ns.map D.int) = ms.map D.int ∧ ms.Perm (x :: ns) ∧ (ns.Pairwise (· ≤ ·) → ms.Pairwise (· ≤ ·))
  | x, [] => ⟨[x], rfl, List.Perm.refl _, fun _ => List.pairwise_singleton _ _⟩
  | x, y :: ys => by
    obtain ⟨ms, h1, h2, h3⟩ := insD_map x ys
    simp only [List.map_cons, insD, ltv]
    by_cases hxy : x < y
    · rw [decide_eq_true hxy]
      refine ⟨x :: y :: ys, rfl, List.Perm.refl _, fun hp => ?_⟩
      refine List.pairwise_cons.mpr ⟨fun z hz => ?_, hp⟩
      rcases List.mem_cons.mp hz with rfl | hz
      · omega
      · have := (List.pairwise_cons.mp hp).1 z hz; omega
    · rw [decide_eq_false hxy]
      refine ⟨y :: ms, by simp [h1], (h2.cons y).trans (List.Perm.swap _ _ _), fun hp => ?_⟩
      refine List.pairwise_cons.mpr ⟨fun z hz => ?_, h3 (List.pairwise_cons.mp hp).2⟩
      rcases List.mem_cons.mp (h2.mem_iff.mp hz) with rfl | hz
      · omega
      · exact (List.pairwise_cons.mp hp).1 z hz
theorem sortD_map : ∀ (ns : List Int), ∃ ms : List Int, sortD (ns.map D.int) = ms.map D.int ∧ ms.Perm ns ∧ ms.Pairwise (· ≤ ·)
  | [] => ⟨[], rfl, List.Perm.refl _, List.Pairwise.nil⟩
  | x :: ns => by
    obtain ⟨ms, h1, h2, h3⟩ := sortD_map ns
    obtain ⟨ks, q1, q2, q3⟩ := insD_map x ms
    exact ⟨ks, by simp only [List.map_cons, sortD]; rw [h1, q1], q2.trans (h2.cons x), q3 h3⟩
theorem sorted_unique : ∀ {xs ys : List Int}, xs.Perm ys → xs.Pairwise (· ≤ ·) → ys.Pairwise (· ≤ ·) → xs = ys
  | [], ys, p, _, _ => (List.Perm.nil_eq p)
  | x :: xs, [], p, _, _ => absurd p.length_eq (by simp)
  | x :: xs, y :: ys, p, h1, h2 => by
    have e : x = y := by
      have m1 : x ∈ y :: ys := p.mem_iff.mp List.mem_cons_self
      have m2 : y ∈ x :: xs := p.mem_iff.mpr List.mem_cons_self
      rcases List.mem_cons.mp m1 with h | h
      · exact h
      · rcases List.mem_cons.mp m2 with h' | h'
        · exact h'.symm
        · have a := (List.pairwise_cons.mp h2).1 x h
          have b := (List.pairwise_cons.mp h1).1 y h'
          omega
    subst e
    rw [sorted_unique (List.Perm.cons_inv p) (List.pairwise_cons.mp h1).2 (List.pairwise_cons.mp h2).2]
end
end MP
set_option autoImplicit false
set_option linter.all false
set_option maxRecDepth 10000
set_option maxHeartbeats 1000000
/-! MPj: methods of lists, dicts. -/
namespace MP
open PySem PySem.Spec PyProof.Rows L2
section
variable {T : Tab} {P : Prog} {X : Cx} {W : WX} {a b c o e : Expr} {es : List Expr} {fa fb fc fo : Env → Sto → R D} {fl : Env → Sto → R (List D)} {pos apos cpos : Pos} {g : G}
/-- by values: what a method of lists does -/
def MtdM (T : Tab) (P : Prog) (X : Cx) (id : String) (k : Sto → D → List D → R D) : Prop :=
  ∀ (W : WX) (σ : L2.St), MtR X id fun x xs H Q => ∃ w s d ds, SRel X.K T P w H s ∧ Rep X.K T P w H d x ∧ Reps X.K T P w H ds xs ∧ Out X.K T P (Rep X.K T P) w H σ W Q (k s d ds)
theorem out_put {w : Wd} {H : Hp} {σ : L2.St} {Q : VK} {s : Sto} {d : D} {v : V} {i : Nat} {a : Addr} {c0 c : Cell} {o : HO} (h : Out X.K T P (Rep X.K T P) w H σ W Q (.ok d (s.set i c))) (S : SRel X.K T P w H s) (hi : s[i]? = some c0) (ha : w.mu[i]? = some a) (n0 : c0 ≠ .dead) (n1 : c ≠ .dead)
    (hc : CellR X.K T P w (upd H a o) a c) (r : Rep X.K T P w (upd H a o) d v) : Q v (upd H a o) := h v w _ (le_put S hi ha n0) (S.put hi ha n0 n1 hc) r
theorem lst_at {w : Wd} {H : Hp} {s : Sto} {d : D} {x : V} (S : SRel X.K T P w H s) (r : Rep X.K T P w H d x) {i : Nat} (e : d = .ref i) {xs : List D} (h : s[i]? = some (.lst xs)) : ∃ a vs, x = .ref a ∧ w.mu[i]? = some a ∧ H a = some (.lst vs) ∧ Reps X.K T P w H xs vs := by
  subst e
  cases r with
  | ref hh =>
    obtain ⟨_, vs, h1, h2⟩ := S.cell _ _ _ h hh (fun z => nomatch z)
    exact ⟨_, vs, rfl, hh, h1, h2⟩
theorem md_append : MtdM T P X "list.append" fun s d ds => bmf s .append d ds := by
  intro W σ pins s0 σ0 H x xs v us Q I rx rs q
  obtain ⟨w, s, d, ds, S, r, rr, o⟩ := q
  dsimp only at o
  cases d with
  | ref i =>
    cases hi : s[i]? with
    | none => simp [bmf, bmf0, hi] at o; exact o.elim
    | some c =>
      cases c with
      | lst ys =>
        match ds, rr, o with
        | [], _, o => simp only [bmf, bmf0, hi] at o; exact o.elim
        | _ :: _ :: _, _, o => simp only [bmf, bmf0, hi] at o; exact o.elim
        | [d'], rr, o =>
          simp only [bmf, bmf0, hi] at o
          split at o
          · rename_i hl
            obtain ⟨a, vs, rfl, ha, hv, rv⟩ := lst_at S r rfl hi
            obtain ⟨y, rfl, ry⟩ := rr.singleton
            refine mt_append pins s0 σ0 H _ _ v us Q I rx rs ⟨a, vs, y, rfl, rfl, hv, by rw [← rv.length, ← line_eq]; exact hl, ?_⟩
            exact out_put o S hi ha (fun z => nomatch z) (fun z => nomatch z) ⟨_, upd_same, (rv.append (.cons ry .nil)).mono (le_put S hi ha (fun z => nomatch z))⟩ .non
          · exact o.elim
      | _ => simp only [bmf, bmf0, hi] at o; exact o.elim
  | _ => simp only [bmf, bmf0] at o; exact o.elim
theorem md_pop : MtdM T P X "list.pop" fun s d ds => bmf s .pop d ds := by
  intro W σ pins s0 σ0 H x xs v us Q I rx rs q
  obtain ⟨w, s, d, ds, S, r, rr, o⟩ := q
  dsimp only at o
  cases d with
  | ref i =>
    cases hi : s[i]? with
    | none => simp [bmf, bmf0, hi] at o; exact o.elim
    | some c =>
      cases c with
      | lst ys =>
        match ds, rr, o with
        | _ :: _, _, o => simp only [bmf, bmf0, hi] at o; exact o.elim
        | [], rr, o =>
          simp only [bmf, bmf0, hi] at o
          split at o
          · rename_i y hy
            obtain ⟨a, vs, rfl, ha, hv, rv⟩ := lst_at S r rfl hi
            cases rr
            obtain ⟨u, hu, ru⟩ := rv.get hy
            refine mt_pop pins s0 σ0 H _ _ v us Q I rx rs ⟨a, vs, u, rfl, rfl, hv, by rw [← rv.length]; exact hu, ?_⟩
            exact out_put o S hi ha (fun z => nomatch z) (fun z => nomatch z) ⟨_, upd_same, rv.dropLast.mono (le_put S hi ha (fun z => nomatch z))⟩ (ru.mono (le_put S hi ha (fun z => nomatch z)))
          · exact o.elim
      | _ => simp only [bmf, bmf0, hi] at o; exact o.elim
  | _ => simp only [bmf, bmf0] at o; exact o.elim
theorem ixN_seq {n : Nat} {i : Int} {k : Nat} (h : MP.ixN n i = some k) : seqIndex? i n = some k := by
  unfold MP.ixN at h
  unfold seqIndex?
  by_cases h0 : 0 ≤ i
  · rw [if_pos h0] at h
    split at h
    · cases h
      have e : ¬ i < 0 := by omega
      rename_i hl
      simp [e, h0, hl]
    · cases h
  · rw [if_neg h0] at h
    split at h
    · rename_i hl
      cases h
      have e : i < 0 := by omega
      have e1 : 0 ≤ i + (n : Int) := by omega
      have e2 : i + (n : Int) < n := by omega
      simp [e, e1, e2]
    · cases h
theorem md_popAt : MtdM T P X "list.pop" fun s d ds => bmf s .popAt d ds := by
  intro W σ pins s0 σ0 H x xs v us Q I rx rs q
  obtain ⟨w, s, d, ds, S, r, rr, o⟩ := q
  dsimp only at o
  cases d with
  | ref i =>
    cases hi : s[i]? with
    | none => simp [bmf, bmf0, hi] at o; exact o.elim
    | some c =>
      cases c with
      | lst ys =>
        match ds, rr, o with
        | [], _, o => simp only [bmf, bmf0, hi] at o; exact o.elim
        | [.int j], rr, o =>
          simp only [bmf, bmf0, hi] at o
          split at o
          · rename_i k hk
            split at o
            · rename_i y hy
              split at o
              · rename_i hj
                simp only [Bool.and_eq_true, decide_eq_true_eq] at hj
                obtain ⟨a, vs, rfl, ha, hv, rv⟩ := lst_at S r rfl hi
                obtain ⟨u, hu, ru⟩ := rv.get hy
                obtain ⟨_, rfl, r1⟩ := rr.singleton
                cases r1
                refine mt_popAt pins s0 σ0 H _ _ v us Q I rx rs ⟨a, vs, j, k, u, rfl, rfl, hv, hj.1, hj.2, by rw [← rv.length]; exact ixN_seq hk, hu, ?_⟩
                exact out_put o S hi ha (fun z => nomatch z) (fun z => nomatch z) ⟨_, upd_same, (rv.erase k).mono (le_put S hi ha (fun z => nomatch z))⟩ (ru.mono (le_put S hi ha (fun z => nomatch z)))
              · exact o.elim
            · exact o.elim
          · exact o.elim
        | _ :: _ :: _, _, o => simp only [bmf, bmf0, hi] at o; exact o.elim
        | [.non], _, o => simp only [bmf, bmf0, hi] at o; exact o.elim
        | [.bl _], _, o => simp only [bmf, bmf0, hi] at o; exact o.elim
        | [.str _], _, o => simp only [bmf, bmf0, hi] at o; exact o.elim
        | [.tup _], _, o => simp only [bmf, bmf0, hi] at o; exact o.elim
        | [.lst _], _, o => simp only [bmf, bmf0, hi] at o; exact o.elim
        | [.scr _], _, o => simp only [bmf, bmf0, hi] at o; exact o.elim
        | [.rcd _ _], _, o => simp only [bmf, bmf0, hi] at o; exact o.elim
        | [.ref _], _, o => simp only [bmf, bmf0, hi] at o; exact o.elim
        | [.exc _ _], _, o => simp only [bmf, bmf0, hi] at o; exact o.elim
      | _ => simp only [bmf, bmf0, hi] at o; exact o.elim
  | _ => simp only [bmf, bmf0] at o; exact o.elim
theorem find_ok {K : PySem.W.Frag} {w : Wd} {H : Hp} {e : D} {y : V} (q : Rep K T P w H e y) (h' : flat e = true) : ∀ {ds : List D} {vs : List V} {n j : Nat}, Reps K T P w H ds vs → ds.all flat = true → findI e n ds = some j → ∃ k z, j = n + k ∧ vs[k]? = some z ∧ eqV z y = true ∧ ∀ (m : Nat) (z' : V), m < k → vs[m]? = some z' → eqV z' y = false
  | _, _, n, j, .nil, _, h => by simp [findI] at h
  | _, _, n, j, .cons (d := d) (v := v) r t, hf, h => by
    simp only [List.all_cons, Bool.and_eq_true] at hf
    have e1 := eqV_eqv r q hf.1 h'
    simp only [findI] at h
    split at h
    · rename_i he
      cases h
      exact ⟨0, v, rfl, rfl, by rw [e1]; exact he, fun m z' hm => by omega⟩
    · rename_i he
      obtain ⟨k, z, hk, h1, h2, h3⟩ := find_ok q h' t hf.2 h
      refine ⟨k + 1, z, by omega, by simpa using h1, h2, fun m z' hm hz => ?_⟩
      cases m with
      | zero =>
        simp at hz
        subst hz
        rw [e1]
        simpa using he
      | succ m => exact h3 m z' (by omega) (by simpa using hz)
theorem md_index : MtdM T P X "list.index" fun s d ds => bmf s .index d ds := by
  intro W σ pins s0 σ0 H x xs v us Q I rx rs q
  obtain ⟨w, s, d, ds, S, r, rr, o⟩ := q
  dsimp only at o
  match ds, rr, o with
  | [], _, o => exact o.elim
  | _ :: _ :: _, _, o => exact o.elim
  | [e], rr, o =>
    simp only [bmf] at o
    split at o
    · rename_i ys hl
      split at o
      · rename_i hf
        simp only [Bool.and_eq_true] at hf
        obtain ⟨p, vs, rfl, hq, rv⟩ := lstOf_ok S r hl
        obtain ⟨y, rfl, ry⟩ := rr.singleton
        cases hj : findI e 0 ys with
        | none => rw [hj] at o; exact o.elim
        | some j =>
          rw [hj] at o
          obtain ⟨k, z, hk, h1, h2, h3⟩ := find_ok ry hf.1 rv hf.2 hj
          have ek : j = k := by omega
          subst ek
          exact mt_index pins s0 σ0 H _ _ v us Q I rx rs ⟨p, vs, y, j, z, rfl, rfl, SqL.of hq, flat_ok ry hf.1, flats_ok rv hf.2, h1, h2, h3, o.here S (.int _)⟩
      · exact o.elim
    · exact o.elim
end
end MP
set_option autoImplicit false
set_option linter.all false
set_option maxRecDepth 10000
set_option maxHeartbeats 1000000
/-! MPk: methods of lists as expressions, isinstance, minus, the empty dict. -/
namespace MP
open PySem PySem.Spec PyProof.Rows L2
section
variable {T : Tab} {P : Prog} {X : Cx} {W : WX} {a b c o e : Expr} {es : List Expr} {fa fb fc fo : Env → Sto → R D} {fl : Env → Sto → R (List D)} {pos apos cpos : Pos} {g : G}
theorem tyV_list {w : Wd} {H : Hp} {s : Sto} {d : D} {x : V} (S : SRel X.K T P w H s) (r : Rep X.K T P w H d x) (h : (lstOf s d).isSome = true) : tyV X.K "list" x H := by
  cases e : lstOf s d with
  | none => rw [e] at h; cases h
  | some xs =>
    obtain ⟨p, vs, rfl, hq, _⟩ := lstOf_ok S r e
    exact .inl ⟨rfl, _, SqL.of hq⟩
theorem me_bm {id name : String} {k : Sto → D → List D → R D} (slot : Slot "list" name id) (hty : typeOf (.builtin id) = pure (.type "method_descriptor")) (hm : MtdM T P X id k) (ho : ME X.K T P X W o fo) (ha : MA X.K T P X W (e :: es) fl)
    (hbase : attributeBase o name X.env (eval o X.env) = eval o X.env)
    (hfew : ((backTo cpos (starEach (e :: es) X.env)).all (fun x => !x.1) && (backToKw cpos (keywordEach [] X.env)).all (fun x => x.1.isSome)
      && decide ((e :: es).length + ([] : List Keyword).length + (if ([] : List Keyword).isEmpty then 0 else 1) < 30)) = true)
    (hline : (apos.endLine == cpos.line) = true) (hs : starEach (e :: es) X.env = (false, eval e X.env) :: starEach es X.env) (hplain : (backTo cpos (starEach es X.env)).any (·.1) = false) :
    ME X.K T P X W (.Call (.Attribute o name apos) (e :: es) [] cpos) (fun env s => (fo env s).bind fun x s => if (lstOf s x).isSome then (fl env s).bind fun xs s => k s x xs else .no) := by
  refine ⟨fun pins s0 σ0 H Q I q => (pe_bm PySem.F.plainAttrs_list slot hty (hm W σ0) ho ha hbase hfew hline hs hplain).run pins s0 σ0 H Q I ?_⟩
  obtain ⟨env, s, w, E, S, o⟩ := q
  refine ⟨env, s, w, E, S, o.bind.mono fun x _ H1 _ q => ?_⟩
  obtain ⟨w1, d, s1, l1, S1, r1, o1⟩ := q
  split at o1
  · rename_i hl
    refine ⟨tyV_list S1 r1 hl, env, s1, w1, E.mono l1, S1, o1.bind.mono fun xs _ H2 _ q => ?_⟩
    obtain ⟨w2, ds, s2, l2, S2, r2, o2⟩ := q
    exact ⟨w2, s2, d, ds, S2, r1.mono l2, r2, o2⟩
  · exact o1.elim
theorem me_bm0 {id name : String} {k : Sto → D → List D → R D} (slot : Slot "list" name id) (hty : typeOf (.builtin id) = pure (.type "method_descriptor")) (hm : MtdM T P X id k) (ho : ME X.K T P X W o fo)
    (hbase : attributeBase o name X.env (eval o X.env) = eval o X.env) (hline : (apos.endLine == cpos.line) = true) :
    ME X.K T P X W (.Call (.Attribute o name apos) [] [] cpos) (fun env s => (fo env s).bind fun x s => if (lstOf s x).isSome then (R.ok ([] : List D) s).bind fun xs s => k s x xs else .no) := by
  refine ⟨fun pins s0 σ0 H Q I q => (pe_bm0 PySem.F.plainAttrs_list slot hty (hm W σ0) ho hbase hline).run pins s0 σ0 H Q I ?_⟩
  obtain ⟨env, s, w, E, S, o⟩ := q
  refine ⟨env, s, w, E, S, o.bind.mono fun x _ H1 _ q => ?_⟩
  obtain ⟨w1, d, s1, l1, S1, r1, o1⟩ := q
  split at o1
  · rename_i hl
    exact ⟨tyV_list S1 r1 hl, w1, s1, d, [], S1, r1, .nil, o1⟩
  · exact o1.elim
/-! ### - -/
theorem me_neg (ha : ME X.K T P X W a fa) : ME X.K T P X W (.UnaryOp .USub a pos) (fun env s => (fa env s).bind fun x s => match x with
    | .int i => .ok (.int (-i)) s
    | _ => .no) := by
  refine (pe_un un_neg ha).imp fun σ H Q q => ?_
  obtain ⟨env, s, w, E, S, o⟩ := q
  refine ⟨env, s, w, E, S, o.bind.mono fun x _ H1 _ q => ?_⟩
  obtain ⟨w1, d, s1, l1, S1, r1, o1⟩ := q
  cases r1 <;> first | exact o1.elim | exact ⟨_, rfl, o1.here S1 (.int _)⟩
/-! ### isinstance -/
/-- a class as a value of the text -/
def tyU (K : PySem.W.Frag) (T : Tab) : Ty → Value
  | .cls c => .ref (ca K T c)
  | t => .type (tyName t)
def tyVV (K : PySem.W.Frag) (T : Tab) : Ty → V
  | .cls c => .ref (ca K T c)
  | t => .ty (tyName t)
theorem tyClsV (K : PySem.W.Frag) (T : Tab) (t : Ty) : ClsV (tyVV K T t) (tyU K T t) := by cases t <;> first | exact .own _ | exact .ty _
theorem kit_sc {K : PySem.W.Frag} (O : TabOk K T P) (nm : String) (hn : nm ∈ ["NoneType", "int", "bool", "str", "tuple", "list", "dict"]) (t : Ty) (b : Bool) (hc : ∀ c, t = .cls c → ∃ k, P.cls c = some k) (hv : t ≠ .val)
    (hb : ∀ c, t = .cls c → b = false) (h : ∀ n : String, tyU K T t = .type n → kitB nm n = some b) : PySem.W.kitOne K (.type nm) (tyU K T t) = some b := by
  cases t with
  | cls c =>
    obtain ⟨k, hk⟩ := hc c rfl
    rw [hb c rfl]
    exact O.kit1 c k nm hk hn
  | val => exact absurd rfl hv
  | _ => exact kit_ty (h _ rfl)
theorem tyIs_ok {K : PySem.W.Frag} (O : TabOk K T P) (hg : g.sub = P.sub) {w : Wd} {H : Hp} {s : Sto} {d : D} {x : V} {t : Ty} {b : Bool} (S : SRel K T P w H s) (r : Rep K T P w H d x) (hc : ∀ c, t = .cls c → ∃ k, P.cls c = some k) (h : tyIs g s d t = some b) :
    ∃ tv, TyX K H x tv ∧ PySem.W.kitOne K tv (tyU K T t) = some b := by
  cases r with
  | non =>
    refine ⟨_, .base .non, kit_sc O _ (by simp) t b hc (fun z => by subst z; cases h) (fun c z => by subst z; cases h; rfl) fun n hn => ?_⟩
    cases t <;> first | (cases h; done) | (cases hn; cases h; decide +kernel) | (cases hn; done)
  | bl b' =>
    refine ⟨_, .base (.bl _), kit_sc O _ (by simp) t b hc (fun z => by subst z; cases h) (fun c z => by subst z; cases h; rfl) fun n hn => ?_⟩
    cases t <;> first | (cases h; done) | (cases hn; cases h; decide +kernel) | (cases hn; done)
  | int i =>
    refine ⟨_, .base (.int _), kit_sc O _ (by simp) t b hc (fun z => by subst z; cases h) (fun c z => by subst z; cases h; rfl) fun n hn => ?_⟩
    cases t <;> first | (cases h; done) | (cases hn; cases h; decide +kernel) | (cases hn; done)
  | str x' =>
    refine ⟨_, .base (.str _), kit_sc O _ (by simp) t b hc (fun z => by subst z; cases h) (fun c z => by subst z; cases h; rfl) fun n hn => ?_⟩
    cases t <;> first | (cases h; done) | (cases hn; cases h; decide +kernel) | (cases hn; done)
  | tup f hh rr =>
    refine ⟨_, .base (.tup hh), kit_sc O _ (by simp) t b hc (fun z => by subst z; cases h) (fun c z => by subst z; cases h; rfl) fun n hn => ?_⟩
    cases t <;> first | (cases h; done) | (cases hn; cases h; decide +kernel) | (cases hn; done)
  | lst f hh rr =>
    refine ⟨_, .base (.lst hh), kit_sc O _ (by simp) t b hc (fun z => by subst z; cases h) (fun c z => by subst z; cases h; rfl) fun n hn => ?_⟩
    cases t <;> first | (cases h; done) | (cases hn; cases h; decide +kernel) | (cases hn; done)
  | scr q => cases t <;> cases h
  | rcd f hk hx hl hh rr =>
    have F := O.inst _ _ hk hx
    refine ⟨_, .base (.ins hh F.cl F.ha F.hn F.ht F.hm), ?_⟩
    cases t with
    | cls c =>
      obtain ⟨k', hk'⟩ := hc c rfl
      simp only [tyIs, Option.some.injEq] at h
      rw [← h, hg]
      exact O.kit3 _ _ _ _ hk hx hk'
    | val => cases h
    | _ => cases h; exact O.kit2 _ _ _ hk hx (by simp [tyName])
  | ref hh =>
    rename_i i
    have key : ∀ {nm : String} {xx : V}, nm ∈ ["NoneType", "int", "bool", "str", "tuple", "list", "dict"] → TyOf K H xx (.type nm) → (∀ c, t = .cls c → b = false) → t ≠ .val → (∀ n : String, tyU K T t = .type n → kitB nm n = some b) →
        ∃ tv, TyX K H xx tv ∧ PySem.W.kitOne K tv (tyU K T t) = some b := fun h1 h2 h3 h4 h5 => ⟨_, .base h2, kit_sc O _ h1 t b hc h4 h3 h5⟩
    cases hi : s[i]? with
    | none => cases t <;> simp [tyIs, hi] at h
    | some cl =>
      cases cl with
      | lst xs =>
        obtain ⟨_, vs, hv, _⟩ := S.cell _ _ _ hi hh (fun z => nomatch z)
        cases t with
        | val => simp [tyIs] at h
        | cls c => exact key (by simp) (.lst hv) (fun c z => by simpa [tyIs, hi] using h.symm) (fun z => nomatch z) fun n hn => nomatch hn
        | _ =>
          refine key (by simp) (.lst hv) (fun c z => nomatch z) (fun z => nomatch z) fun n hn => ?_
          cases hn
          simp [tyIs, hi] at h
          subst h
          decide +kernel
      | dct xs =>
        obtain ⟨_, vs, hv, _⟩ := S.cell _ _ _ hi hh (fun z => nomatch z)
        cases t with
        | val => simp [tyIs] at h
        | cls c => exact key (by simp) (.dK hv) (fun c z => by simpa [tyIs, hi] using h.symm) (fun z => nomatch z) fun n hn => nomatch hn
        | _ =>
          refine key (by simp) (.dK hv) (fun c z => nomatch z) (fun z => nomatch z) fun n hn => ?_
          cases hn
          simp [tyIs, hi] at h
          subst h
          decide +kernel
      | ins c0 fs =>
        obtain ⟨_, dx, gs, k, hv, _, hk, hx, _⟩ := S.cell _ _ _ hi hh (fun z => nomatch z)
        have F := O.inst _ _ hk hx
        refine ⟨_, .base (.ins hv F.cl F.ha F.hn F.ht F.hm), ?_⟩
        cases t with
        | cls c =>
          obtain ⟨k', hk'⟩ := hc c rfl
          simp only [tyIs, hi, Option.some.injEq] at h
          rw [← h, hg]
          exact O.kit3 _ _ _ _ hk hx hk'
        | val => simp [tyIs] at h
        | _ =>
          simp [tyIs, hi] at h
          subst h
          exact O.kit2 _ _ _ hk hx (by simp [tyName])
      | dead => cases t <;> simp [tyIs, hi] at h
  | exc0 => cases t <;> cases h
  | exc1 => cases t <;> cases h
theorem me_isi {p : Pos} {t : Ty} (O : TabOk X.K T P) (hg : g.sub = P.sub) (hk : ∀ c, t = .cls c → ∃ k, P.cls c = some k) (ha : ME X.K T P X W a fa) (hc : PE X c (tC (tyVV X.K T t))) (hgl : Gl X "isinstance") (hm : X.mg "isinstance" = none)
    (he : starEach [a, c] X.env = (false, eval a X.env) :: starEach [c] X.env) (he2 : starEach [c] X.env = (false, eval c X.env) :: starEach [] X.env) (hpl : (backTo pos (starEach [c] X.env)).any (·.1) = false) :
    ME X.K T P X W (.Call (.Name "isinstance" p) [a, c] [] pos) (fun env s => (fa env s).bind fun x s => .opt ((tyIs g s x t).map D.bl) s) := by
  refine (pe_callB call_isi hgl hm (by decide +kernel) (pa_cons ha (pa_cons hc pa_nil he2) he) (by decide) (by decide) he hpl).imp fun σ H Q q => ?_
  obtain ⟨env, s, w, E, S, o⟩ := q
  refine ⟨env, s, w, E, S, o.bind.mono fun x _ H1 _ q => ?_⟩
  obtain ⟨w1, d, s1, l1, S1, r1, o1⟩ := q
  cases z : tyIs g s1 d t with
  | none => rw [z] at o1; exact o1.elim
  | some b =>
    rw [z] at o1
    obtain ⟨tv, h1, h2⟩ := tyIs_ok O hg S1 r1 hk z
    exact ⟨_, _, tv, tyU X.K T t, b, rfl, tyClsV _ _ _, h1, h2, o1.here S1 (.bl _)⟩
/-! ### {} -/
theorem me_dct0 : ME X.K T P X W (.Dict [] [] pos) (fun _ s => .ok (.ref s.length) (s ++ [.dct []])) := by
  refine pe_dnewK.imp fun σ H Q q => ?_
  obtain ⟨env, s, w, E, S, o⟩ := q
  intro p hp
  refine o _ _ _ (le_new S hp) (S.new hp (fun z => nomatch z) ⟨[], upd_same, .nil⟩) (.ref ?_)
  show (w.mu ++ [p])[s.length]? = some p
  rw [← S.len]
  simp
end
end MP
set_option autoImplicit false
set_option linter.all false
set_option maxRecDepth 100000
set_option maxHeartbeats 2000000
/-! MPl: walks over lists and tuples in any mix: enumerate, zip of two and three. -/
namespace MP
open PySem PySem.Spec PyProof.Rows L2

/-- a list (b) or a tuple -/
def Sq (b : Bool) (K : PySem.W.Frag) (H : Hp) (a : Addr) (xs : List V) : Prop := if b then SqL K H a xs else SqT K H a xs
def IsIt (b : Bool) (h : Heap) (it a : Addr) (i : Nat) : Prop := if b then h.IsListIter it a i else h.IsTupleIter it a i
def IsSq (b : Bool) (h : Heap) (a : Addr) (items : Array Value) : Prop := if b then h.IsList a items else h.IsTuple a items
def itObj (b : Bool) (a : Addr) : Obj := if b then { cls := .type "list_iterator", data := .fields #[.ref a, .int 0 0] } else { cls := .type "tuple_iterator", data := .fields #[.ref a, .int 0 0] }
section
variable {X : Cx} {pins : List (Addr × Obj)} {σ : L2.St} {H : Hp} {s : Shared} {a : Addr} {xs ys : List V} {b : Bool}
theorem sq_get (I : L2.Inv X pins σ H s) (h : Sq b X.K H a xs) : ∃ its : List Value, Vals xs its ∧ IsSq b s.heap a its.toArray ∧ a < s.heap.objs.size := by
  cases b with
  | true =>
    obtain ⟨its, rv, p, _⟩ := I.list h
    exact ⟨its, rv, p.isList, p.lt⟩
  | false =>
    obtain ⟨its, rv, p, _⟩ := I.tuple h
    refine ⟨its, rv, p, ?_⟩
    obtain ⟨o, e, _⟩ := id (show s.heap.IsTuple a its.toArray from p)
    exact Heap.lt_size e
theorem sq_inj (I : L2.Inv X pins σ H s) (h : Sq b X.K H a xs) (h' : Sq b X.K H a ys) : xs = ys := by
  cases b with
  | true => exact I.list_inj h h'
  | false => exact I.tuple_inj h h'
theorem draws {prog : Program} {w : World} {A : Around} (hh : A.handled = none) (it a : Addr) (hne : a ≠ it) (items : Array Value) :
    Draws prog w A it [it, a] items.size (fun i v => items[i]? = some v) (fun i h => IsIt b h it a i ∧ IsSq b h a items) := by
  cases b with
  | true => exact Draws.list hh it a hne items
  | false => exact Draws.tuple hh it a hne items
theorem begins (a : Addr) (items : Array Value) : Begins (.ref a) (itObj b a) (fun h => IsSq b h a items) := by
  cases b with
  | true => exact begins_list a items
  | false => exact begins_tuple a items
theorem isIt_new {h : Heap} {it : Addr} (e : h.get? it = some (itObj b a)) : IsIt b h it a 0 := by
  cases b with
  | true => exact ⟨_, e, rfl, rfl⟩
  | false => exact ⟨_, e, rfl, rfl⟩
theorem isIt_obj {h : Heap} {it : Addr} {i : Nat} (e : IsIt b h it a i) : ∃ o, h.get? it = some o ∧ ∀ v, o.data ≠ .cell v := by
  cases b with
  | true => obtain ⟨o, e, c, d⟩ := e; exact ⟨o, e, fun v q => by rw [d] at q; cases q⟩
  | false => obtain ⟨o, e, c, d⟩ := e; exact ⟨o, e, fun v q => by rw [d] at q; cases q⟩
theorem isIt_at {h h' : Heap} {it : Addr} {i : Nat} (e : IsIt b h it a i) (k : ∀ o, h.get? it = some o → h'.get? it = some o) : IsIt b h' it a i := by
  cases b with
  | true => exact Heap.IsListIter.at e k
  | false => exact Heap.IsTupleIter.at e k
end
section
variable {prog : Program} {w : World} {A : Around} {E : Value → Shared → Prop} {s : Shared}
set_option maxHeartbeats 1000000 in
theorem meets_enumerate_new1 {v : Value} {o : Obj} {H : Heap → Prop} (B : Begins v o H) :
    Meets (Builtin.«enumerate.__new__» ⟨[.type "enumerate", v], []⟩) (fun _ R s => H s.heap ∧
      R (.ok (.ret (.ref (s.heap.push o).objs.size))) { s with heap := (s.heap.push o).push { cls := .type "enumerate", data := .fields #[.none, .bool false, .ref s.heap.objs.size, rawInt 0, .none, .none] } }) :=
  .of_wp fun prog w A R s h => by
    obtain ⟨hp, g, d, tk, os⟩ := s; obtain ⟨h1, h⟩ := h
    have hsub := sub_enumerate
    have q1 : ∀ {A' : Around} {E : Value → Shared → Prop} {Q : Value → Shared → Prop}, Q (.ref hp.objs.size) ⟨hp.push o, g, d, tk, os⟩ → wpAny (model prog w) A' (pyIter v) Q E ⟨hp, g, d, tk, os⟩ :=
      fun q => B.iter prog w _ _ ⟨hp, g, d, tk, os⟩ _ h1 q
    wp_walk using q1
    refine wpAny_stack_any fun st => wpAny_pure ?_
    split
    · rename_i c _ _ _ _ _
      cases (c == Value.type "enumerate")
      · wp_walk using q1
        exact ⟨_, rfl, h⟩
      · wp_walk using q1
        exact ⟨_, rfl, h⟩
    · wp_walk using q1
      exact ⟨_, rfl, h⟩
theorem enum_begins1 {v : Value} {o : Obj} {H : Heap → Prop} {Q : Value → Shared → Prop} (B : Begins v o H) (h1 : H s.heap)
    (h : ∀ h', IsEnum h' (s.heap.objs.size + 1) s.heap.objs.size 0 .none → h'.get? s.heap.objs.size = some o → h'.objs.size = s.heap.objs.size + 2 →
      (∀ b o, s.heap.get? b = some o → h'.get? b = some o) → Q (.ref (s.heap.objs.size + 1)) { s with heap := h' }) :
    wpAny (model prog w) A (PySem.call (.type "enumerate") [v]) Q E s := by
  refine callType_new F.called_enumerate (by decide) (F.typeCall_enumerate_1 _) (F.newCall_enumerate_1 _) (fun obj => F.args_object_init_2 obj _) F.entry_enumerate_new
    (meets_enumerate_new1 B) ⟨h1, ?_⟩
  have hz : (s.heap.push o).objs.size = s.heap.objs.size + 1 := Heap.size_push ..
  show _ ∧ _
  rw [hz]
  have he : IsEnum ((s.heap.push o).push { cls := .type "enumerate", data := .fields #[.none, .bool false, .ref s.heap.objs.size, rawInt 0, .none, .none] }) (s.heap.objs.size + 1) s.heap.objs.size 0 .none := by
    have := Heap.get?_push_size (s.heap.push o) (o := { cls := .type "enumerate", data := .fields #[.none, .bool false, .ref s.heap.objs.size, rawInt 0, .none, .none] }) rfl
    rw [hz] at this; exact this
  refine ⟨⟨_, he, rfl⟩, h _ he (Heap.get?_push_of_some _ (Heap.get?_push_size _ B.free)) (by rw [Heap.size_push, hz]) fun b o x => Heap.get?_push_of_some _ (Heap.get?_push_of_some _ x)⟩
end

/-! ### enumerate -/
def ItE (b : Bool) (K : PySem.W.Frag) (a : Addr) : It :=
  ⟨fun i H => ∃ (xs : List V) (x : V), Sq b K H a xs ∧ xs[i]? = some x, fun i H v H' => ∃ T x, v = .ref T ∧ H T = none ∧ H' = upd H T (.tup [.int (i : Nat), x]) ∧ ∀ xs, Sq b K H a xs → xs[i]? = some x, fun i H => ∃ xs : List V, Sq b K H a xs ∧ xs.length = i⟩
theorem turn_enumA {b : Bool} {P : Program} {w : World} {K : PySem.W.Frag} {elts : List Expr} {kk : Nat} {tpos : Pos} (a e it : Addr) (hai : a ≠ it) (hae : a ≠ e) (hne : e ≠ it) :
    Turn P w K (.Tuple elts kk tpos) (ItE b K a) [e, it] e (fun i h => (∃ old, IsEnum h e it ((i : Nat) : Int) old) ∧ IsIt b h it a i) where
  mem := by simp
  obj := fun i h st c hc => by
    obtain ⟨⟨old, he⟩, hi⟩ := st
    have e' : c = e ∨ c = it := by simpa using hc
    rcases e' with z | z
    · rw [z]; exact ⟨_, he, fun v q => nomatch q⟩
    · rw [z]; exact isIt_obj hi
  keep := fun i h h' st k => let ⟨⟨old, he⟩, hi⟩ := st; ⟨⟨old, k e (by simp) _ he⟩, isIt_at hi fun o q => k it (by simp) o q⟩
  item := by
    intro X hP hw hK hc i pins s σ H E I hf st hg
    subst hP hw hK
    obtain ⟨⟨old, he⟩, hit⟩ := st
    obtain ⟨xs, x, hq, hx⟩ := hg
    obtain ⟨its, rv, p, hz⟩ := sq_get I hq
    obtain ⟨u, hu, ru⟩ := rv.get hx
    have hel : e < s.heap.objs.size := Heap.lt_size he
    have hil : it < s.heap.objs.size := by obtain ⟨_, q, _⟩ := isIt_obj hit; exact Heap.lt_size q
    have hlt : i < its.toArray.size := by
      have := (List.getElem?_eq_some_iff.mp hu).1
      simpa using this
    refine wpAny_pyNext_enum_itemC (draws (b := b) (show X.A.in1.handled = none from I.ok.hd hc) it a hai its.toArray) he ⟨hit, p⟩ hlt hne (by simp [hne, Ne.symm hae]) fun x' h' tk hP ho st' hT hsz hk => ?_
    have hux : u = x' := by
      have : its[i]? = some x' := by simpa using hP
      rw [hu] at this; exact Option.some.inj this
    subst hux
    refine ⟨_, rfl, wpAny_letOwnedTupleGo_enum (s := { s with heap := h', toks := tk + 1 }) ho fun h'' he' sb => ?_⟩
    have hT2 : h''.get? s.heap.objs.size = some { cls := .type "tuple", data := .seq #[.int i tk, u] } := (sb.2 _ (Nat.ne_of_gt hel)).trans hT
    have new : ObjOk X.prog X.w (upd H s.heap.objs.size (.tup [.int (i : Nat), x])) h'' s.heap.objs.size (.tup [.int (i : Nat), x]) :=
      ⟨by show 2 ≤ sizeLine; decide, [.int i tk, u], .cons ⟨_, rfl⟩ (.cons ru .nil), ⟨_, hT2, rfl, _, rfl⟩⟩
    have I1 : L2.Inv X pins σ (upd H s.heap.objs.size (.tup [.int (i : Nat), x])) { s with heap := h'', toks := tk + 1 } :=
      I.turnedNew (ch := [e, it]) (fun b ob hb q => (sb.2 b (fun z => hb (by simp [z]))).trans (hk b ob (fun z => hb (by simp [z])) (fun z => hb (by simp [z])) q)) hf (Nat.le_refl _) new
    refine ⟨.ref s.heap.objs.size, _, I1, rfl, ⟨_, x, rfl, I.hok.fresh (Nat.le_refl _), rfl, fun ys hy => by rw [sq_inj I hy hq]; exact hx⟩, ⟨⟨u, ?_⟩, isIt_at st'.1 fun o q => (sb.2 it (Ne.symm hne)).trans q⟩, fun b hb => ?_⟩
    · have e1 : ((i + 1 : Nat) : Int) = (i : Int) + 1 := by omega
      rw [e1]; exact he'
    · have hb' : b < s.heap.objs.size := by
        have e' : b = e ∨ b = it := by simpa using hb
        rcases e' with z | z
        · rw [z]; exact hel
        · rw [z]; exact hil
      rw [upd_ne (Nat.ne_of_lt hb')]
      exact (hf b hb).1
  done := by
    intro X hP hw hK hc i pins s σ H E I hf st hg
    subst hP hw hK
    obtain ⟨⟨old, he⟩, hit⟩ := st
    obtain ⟨xs, hq, hx⟩ := hg
    obtain ⟨its, rv, p, hz⟩ := sq_get I hq
    obtain ⟨f0, f1, f2, f3, f4, f5⟩ := hf it (by simp)
    have hl := rv.length
    have hi : i = its.toArray.size := by simp; omega
    have st' : IsIt b s.heap it a its.toArray.size ∧ IsSq b s.heap a its.toArray := ⟨hi ▸ hit, p⟩
    exact wpAny_pyNext_enum_endD (draws (b := b) (show X.A.in1.handled = none from I.ok.hd hc) it a hai its.toArray) he st' fun h' eb => ⟨rfl, I.turned (t' := s.toks) (fun b o hb q => eb b o hb q) f0 f1 f3 f4 f5⟩
  self := fun A i s Q E st h => let ⟨⟨_, he⟩, _⟩ := st; wpAny_pyIter_enum he h
/-- the walk of enumerate(x) begins -/
theorem enum_it {b : Bool} {X : Cx} {pins : List (Addr × Obj)} {σ : L2.St} {H : Hp} {s : Shared} {a : Addr} {xs : List V} {elts : List Expr} {kk : Nat} {tpos : Pos} {R : It → Hp → Prop} (I : L2.Inv X pins σ H s) (hq : Sq b X.K H a xs) (q : R (ItE b X.K a) H) :
    wpAny (model X.prog X.w) X.A (PySem.call (.type "enumerate") [.ref a]) (fun v s1 => wpAny (model X.prog X.w) X.A (pyIter v) (PIE X pins σ (.Tuple elts kk tpos) R) X.xe s1) X.xe s := by
  obtain ⟨its, rv, p, hlt⟩ := sq_get I hq
  refine enum_begins1 (begins (b := b) a its.toArray) p fun h' he hit hsz hk => wpAny_pyIter_enum he ?_
  have I2 : L2.Inv X pins σ H { s with heap := h' } := I.kept (t' := s.toks) hk
  refine ⟨s.heap.objs.size + 1, [s.heap.objs.size + 1, s.heap.objs.size], _, _, H, rfl, I2, turn_enumA (b := b) a (s.heap.objs.size + 1) s.heap.objs.size (Nat.ne_of_lt hlt) (Nat.ne_of_lt (Nat.lt_succ_of_lt hlt)) (Nat.succ_ne_self _), ⟨⟨.none, he⟩, isIt_new hit⟩, fun b hb => ?_, q⟩
  have e' : b = s.heap.objs.size + 1 ∨ b = s.heap.objs.size := by simpa using hb
  have hle : s.heap.objs.size ≤ b := by
    rcases e' with z | z
    · rw [z]; exact Nat.le_add_right _ _
    · rw [z]; exact Nat.le_refl _
  exact I.fpOk hle (I.hok.fresh hle)

theorem ne_c {a b : Nat} (h : a ≠ b) : @Ne Addr a b := h
theorem nm2 {a b c : Nat} (h : a ≠ b) (h2 : a ≠ c) : ¬ (@List.instMembership Addr).mem [b, c] a := by show ¬ (a ∈ [b, c]); simp only [List.mem_cons, List.not_mem_nil, or_false, not_or]; exact ⟨h, h2⟩
theorem sep2 (n a1 a2 : Nat) (h1 : a1 < n) (h2 : a2 < n) : ZipSep2 (n + 4) (n + 2) (n + 3) n (n + 1) [n, a1] [n + 1, a2] where
  TIz := ne_c (by omega)
  TOz := ne_c (by omega)
  TITO := ne_c (by omega)
  TIi1 := ne_c (by omega)
  mem1 := List.mem_cons_self
  zf1 := nm2 (by omega) (by omega)
  Tf1 := nm2 (by omega) (by omega)
  TIi2 := ne_c (by omega)
  mem2 := List.mem_cons_self
  zf2 := nm2 (by omega) (by omega)
  Tf2 := nm2 (by omega) (by omega)
  sep1_2 := nm2 (by omega) (by omega)
  sep2_1 := nm2 (by omega) (by omega)
theorem sep3 (n a1 a2 a3 : Nat) (h1 : a1 < n) (h2 : a2 < n) (h3 : a3 < n) : ZipSep3 (n + 5) (n + 3) (n + 4) n (n + 1) (n + 2) [n, a1] [n + 1, a2] [n + 2, a3] := by
  constructor <;> first | exact List.mem_cons_self | exact ne_c (by omega) | exact nm2 (by omega) (by omega)
theorem in2 (n c : Nat) (h : (@List.instMembership Addr).mem [n + 4, n + 2, n + 3, n, n + 1] c) : n ≤ c := by
  replace h : c ∈ [n + 4, n + 2, n + 3, n, n + 1] := h
  simp only [List.mem_cons, List.not_mem_nil, or_false] at h; omega
theorem in3 (n c : Nat) (h : (@List.instMembership Addr).mem [n + 5, n + 3, n + 4, n, n + 1, n + 2] c) : n ≤ c := by
  replace h : c ∈ [n + 5, n + 3, n + 4, n, n + 1, n + 2] := h
  simp only [List.mem_cons, List.not_mem_nil, or_false] at h; omega
theorem ne_p (n a k : Nat) (h : a < n) : a ≠ n + k := by omega
theorem ne_q (n k : Nat) (h : k ≠ 0) : n ≠ n + k := by omega
theorem ne_r (n i k : Nat) (h : i ≠ k) : n + i ≠ n + k := by omega
/-! ### zip of two -/
def ItZ2 (b1 b2 : Bool) (K : PySem.W.Frag) (a1 a2 : Addr) : It :=
  ⟨fun i H => ∃ (xs ys : List V) (x y : V), Sq b1 K H a1 xs ∧ Sq b2 K H a2 ys ∧ xs[i]? = some x ∧ ys[i]? = some y,
    fun i H v H' => ∃ T x y, v = .ref T ∧ H T = none ∧ H' = upd H T (.tup [x, y]) ∧ (∀ xs, Sq b1 K H a1 xs → xs[i]? = some x) ∧ ∀ ys, Sq b2 K H a2 ys → ys[i]? = some y,
    fun i H => ∃ xs ys : List V, Sq b1 K H a1 xs ∧ Sq b2 K H a2 ys ∧ i ≤ xs.length ∧ i ≤ ys.length ∧ (i = xs.length ∨ i = ys.length)⟩
theorem turn_zip2 {b1 b2 : Bool} {P : Program} {w : World} {K : PySem.W.Frag} {elts : List Expr} {kk : Nat} {tpos : Pos} {a1 a2 z TI TO i1 i2 : Addr} (S : ZipSep2 z TI TO i1 i2 [i1, a1] [i2, a2]) (n1 : a1 ≠ i1) (n2 : a2 ≠ i2) :
    Turn P w K (.Tuple elts kk tpos) (ItZ2 b1 b2 K a1 a2) [z, TI, TO, i1, i2] z (fun i h => IsZip h z TI TO .none ∧ IsTupOf2 h TI (.ref i1) (.ref i2) ∧ (∃ x y, IsTupOf2 h TO x y) ∧ IsIt b1 h i1 a1 i ∧ IsIt b2 h i2 a2 i) where
  mem := by simp
  obj := fun i h st c hc => by
    obtain ⟨hz, hTI, ⟨x, y, hTO⟩, h1, h2⟩ := st
    have e' : c = z ∨ c = TI ∨ c = TO ∨ c = i1 ∨ c = i2 := by simpa using hc
    rcases e' with q | q | q | q | q
    · rw [q]; exact ⟨_, hz, fun v q => nomatch q⟩
    · rw [q]; exact ⟨_, hTI, fun v q => nomatch q⟩
    · rw [q]; exact ⟨_, hTO, fun v q => nomatch q⟩
    · rw [q]; exact isIt_obj h1
    · rw [q]; exact isIt_obj h2
  keep := fun i h h' st k => by
    obtain ⟨hz, hTI, ⟨x, y, hTO⟩, h1, h2⟩ := st
    exact ⟨k z (by simp) _ hz, k TI (by simp) _ hTI, ⟨x, y, k TO (by simp) _ hTO⟩, isIt_at h1 fun o q => k i1 (by simp) o q, isIt_at h2 fun o q => k i2 (by simp) o q⟩
  item := by
    intro X hP hw hK hc i pins s σ H E I hf st hg
    subst hP hw hK
    obtain ⟨hz, hTI, ⟨x0, y0, hTO⟩, h1, h2⟩ := st
    obtain ⟨xs, ys, x, y, hqx, hqy, hx, hy⟩ := hg
    obtain ⟨its, rv, p, _⟩ := sq_get I hqx
    obtain ⟨its2, rv2, p2, _⟩ := sq_get I hqy
    obtain ⟨u, hu, ru⟩ := rv.get hx
    obtain ⟨u2, hu2, ru2⟩ := rv2.get hy
    have hzl : z < s.heap.objs.size := Heap.lt_size hz
    have hl1 : i < its.toArray.size := by simpa using (List.getElem?_eq_some_iff.mp hu).1
    have hl2 : i < its2.toArray.size := by simpa using (List.getElem?_eq_some_iff.mp hu2).1
    refine wpAny_pyNext_zipD2_item S (draws (b := b1) (show X.A.in1.handled = none from I.ok.hd hc) i1 a1 n1 its.toArray) (draws (b := b2) (show X.A.in1.handled = none from I.ok.hd hc) i2 a2 n2 its2.toArray) hz hTI hTO ⟨h1, p⟩ ⟨h2, p2⟩ hl1 hl2
      fun v1 v2 h' tk hP1 hP2 z' TO' st1 st2 hT hsz hk => ?_
    have e1 : u = v1 := by
      have : its[i]? = some v1 := by simpa using hP1
      rw [hu] at this; exact Option.some.inj this
    have e2 : u2 = v2 := by
      have : its2[i]? = some v2 := by simpa using hP2
      rw [hu2] at this; exact Option.some.inj this
    subst e1 e2
    refine ⟨_, rfl, wpAny_letOwnedTupleGo_zip (s := { s with heap := h', toks := tk }) z' fun h'' z'' sb => ?_⟩
    have hT2 : h''.get? s.heap.objs.size = some { cls := .type "tuple", data := .seq #[u, u2] } := (sb.2 _ (Nat.ne_of_gt hzl)).trans hT
    have new : ObjOk X.prog X.w (upd H s.heap.objs.size (.tup [x, y])) h'' s.heap.objs.size (.tup [x, y]) :=
      ⟨by show 2 ≤ sizeLine; decide, [u, u2], .cons ru (.cons ru2 .nil), ⟨_, hT2, rfl, _, rfl⟩⟩
    have I1 : L2.Inv X pins σ (upd H s.heap.objs.size (.tup [x, y])) { s with heap := h'', toks := tk } :=
      I.turnedNew (ch := [z, TI, TO, i1, i2]) (fun c o hb q => (sb.2 c (fun q' => hb (by simp [q']))).trans (hk c o (fun q' => hb (by simp [q'])) (fun q' => hb (by simp [q'])) (fun q' => hb (by simp [q'])) (fun q' => hb (by simp [q'])) q)) hf (Nat.le_refl _) new
    refine ⟨.ref s.heap.objs.size, _, I1, rfl, ⟨_, x, y, rfl, I.hok.fresh (Nat.le_refl _), rfl, fun l hl => by rw [sq_inj I hl hqx]; exact hx, fun l hl => by rw [sq_inj I hl hqy]; exact hy⟩, ⟨z'', ?_, ⟨u, u2, ?_⟩, ?_, ?_⟩, fun c hcm => ?_⟩
    · exact (sb.2 _ S.TIz).trans (hk _ _ S.TIz S.TITO S.TIi1 S.TIi2 hTI)
    · exact (sb.2 _ S.TOz).trans TO'
    · exact isIt_at st1.1 fun o q => (sb.2 _ (Ne.symm S.zi1)).trans q
    · exact isIt_at st2.1 fun o q => (sb.2 _ (Ne.symm S.zi2)).trans q
    · have hlt : c < s.heap.objs.size := by
        have e' : c = z ∨ c = TI ∨ c = TO ∨ c = i1 ∨ c = i2 := by simpa using hcm
        rcases e' with q | q | q | q | q
        · rw [q]; exact hzl
        · rw [q]; exact Heap.lt_size hTI
        · rw [q]; exact Heap.lt_size hTO
        · rw [q]; obtain ⟨_, e1, _⟩ := isIt_obj h1; exact Heap.lt_size e1
        · rw [q]; obtain ⟨_, e2, _⟩ := isIt_obj h2; exact Heap.lt_size e2
      rw [upd_ne (Nat.ne_of_lt hlt)]
      exact (hf c hcm).1
  done := by
    intro X hP hw hK hc i pins s σ H E I hf st hg
    subst hP hw hK
    obtain ⟨hz, hTI, ⟨x0, y0, hTO⟩, h1, h2⟩ := st
    obtain ⟨xs, ys, hqx, hqy, g1, g2, hend⟩ := hg
    obtain ⟨its, rv, p, _⟩ := sq_get I hqx
    obtain ⟨its2, rv2, p2, _⟩ := sq_get I hqy
    have l1 := rv.length
    have l2 := rv2.length
    exact wpAny_pyNext_zipD2_end S (draws (b := b1) (show X.A.in1.handled = none from I.ok.hd hc) i1 a1 n1 its.toArray) (draws (b := b2) (show X.A.in1.handled = none from I.ok.hd hc) i2 a2 n2 its2.toArray) hz hTI hTO ⟨h1, p⟩ ⟨h2, p2⟩
      (by simp; omega) (by simp; omega) (by simp; omega) fun h' tk hk => ⟨rfl, I.turnedL (t' := tk) (ch := [z, TI, TO, i1, i2]) (fun c o hb q =>
      hk c o (fun q' => hb (by simp [q'])) (fun q' => hb (by simp [q'])) (fun q' => hb (by simp [q'])) (fun q' => hb (by simp [q'])) q) hf⟩
  self := fun A i s Q E st h => wpAny_pyIter_zip st.1 h
theorem zip2_it {b1 b2 : Bool} {X : Cx} {pins : List (Addr × Obj)} {σ : L2.St} {H : Hp} {s : Shared} {a1 a2 : Addr} {xs ys : List V} {elts : List Expr} {kk : Nat} {tpos : Pos} {R : It → Hp → Prop} (I : L2.Inv X pins σ H s) (hq : Sq b1 X.K H a1 xs) (hq2 : Sq b2 X.K H a2 ys) (q : R (ItZ2 b1 b2 X.K a1 a2) H) :
    wpAny (model X.prog X.w) X.A (PySem.call (.type "zip") [.ref a1, .ref a2]) (fun v s1 => wpAny (model X.prog X.w) X.A (pyIter v) (PIE X pins σ (.Tuple elts kk tpos) R) X.xe s1) X.xe s := by
  obtain ⟨its, rv, p, hlt⟩ := sq_get I hq
  obtain ⟨its2, rv2, p2, hlt2⟩ := sq_get I hq2
  refine zip_begins2 (begins (b := b1) a1 its.toArray) (begins (b := b2) a2 its2.toArray) p p2 fun h' hz hTI hTO h1 h2 hsz hk => wpAny_pyIter_zip hz ?_
  have I2 : L2.Inv X pins σ H { s with heap := h' } := I.kept (t' := s.toks) hk
  have S : ZipSep2 (s.heap.objs.size + 4) (s.heap.objs.size + 2) (s.heap.objs.size + 3) s.heap.objs.size (s.heap.objs.size + 1) [s.heap.objs.size, a1] [s.heap.objs.size + 1, a2] := sep2 _ _ _ hlt hlt2
  refine ⟨s.heap.objs.size + 4, [s.heap.objs.size + 4, s.heap.objs.size + 2, s.heap.objs.size + 3, s.heap.objs.size, s.heap.objs.size + 1], _, _, H, rfl, I2, turn_zip2 (b1 := b1) (b2 := b2) S (Nat.ne_of_lt hlt) (ne_p _ _ 1 hlt2), ⟨hz, hTI, ⟨_, _, hTO⟩, isIt_new h1, isIt_new h2⟩, fun c hcm => ?_, q⟩
  have hle : s.heap.objs.size ≤ c := in2 _ _ hcm
  exact I.fpOk hle (I.hok.fresh hle)

/-! ### zip of three -/
def ItZ3 (b1 b2 b3 : Bool) (K : PySem.W.Frag) (a1 a2 a3 : Addr) : It :=
  ⟨fun i H => ∃ (xs ys zs : List V) (x y u : V), Sq b1 K H a1 xs ∧ Sq b2 K H a2 ys ∧ Sq b3 K H a3 zs ∧ xs[i]? = some x ∧ ys[i]? = some y ∧ zs[i]? = some u,
    fun i H v H' => ∃ T x y u, v = .ref T ∧ H T = none ∧ H' = upd H T (.tup [x, y, u]) ∧ (∀ xs, Sq b1 K H a1 xs → xs[i]? = some x) ∧ (∀ ys, Sq b2 K H a2 ys → ys[i]? = some y) ∧ ∀ zs, Sq b3 K H a3 zs → zs[i]? = some u,
    fun i H => ∃ xs ys zs : List V, Sq b1 K H a1 xs ∧ Sq b2 K H a2 ys ∧ Sq b3 K H a3 zs ∧ i ≤ xs.length ∧ i ≤ ys.length ∧ i ≤ zs.length ∧ (i = xs.length ∨ i = ys.length ∨ i = zs.length)⟩
theorem turn_zip3 {b1 b2 b3 : Bool} {P : Program} {w : World} {K : PySem.W.Frag} {elts : List Expr} {kk : Nat} {tpos : Pos} {a1 a2 a3 z TI TO i1 i2 i3 : Addr} (S : ZipSep3 z TI TO i1 i2 i3 [i1, a1] [i2, a2] [i3, a3]) (n1 : a1 ≠ i1) (n2 : a2 ≠ i2) (n3 : a3 ≠ i3)
    (z1 : i1 ≠ z) (z2 : i2 ≠ z) (z3 : i3 ≠ z) :
    Turn P w K (.Tuple elts kk tpos) (ItZ3 b1 b2 b3 K a1 a2 a3) [z, TI, TO, i1, i2, i3] z (fun i h => IsZip h z TI TO .none ∧ IsTupOf3 h TI (.ref i1) (.ref i2) (.ref i3) ∧ (∃ x y u, IsTupOf3 h TO x y u) ∧ IsIt b1 h i1 a1 i ∧ IsIt b2 h i2 a2 i ∧ IsIt b3 h i3 a3 i) where
  mem := by simp
  obj := fun i h st c hc => by
    obtain ⟨hz, hTI, ⟨x, y, u, hTO⟩, h1, h2, h3⟩ := st
    have e' : c = z ∨ c = TI ∨ c = TO ∨ c = i1 ∨ c = i2 ∨ c = i3 := by simpa using hc
    rcases e' with q | q | q | q | q | q
    · rw [q]; exact ⟨_, hz, fun v q => nomatch q⟩
    · rw [q]; exact ⟨_, hTI, fun v q => nomatch q⟩
    · rw [q]; exact ⟨_, hTO, fun v q => nomatch q⟩
    · rw [q]; exact isIt_obj h1
    · rw [q]; exact isIt_obj h2
    · rw [q]; exact isIt_obj h3
  keep := fun i h h' st k => by
    obtain ⟨hz, hTI, ⟨x, y, u, hTO⟩, h1, h2, h3⟩ := st
    exact ⟨k z (by simp) _ hz, k TI (by simp) _ hTI, ⟨x, y, u, k TO (by simp) _ hTO⟩, isIt_at h1 fun o q => k i1 (by simp) o q, isIt_at h2 fun o q => k i2 (by simp) o q, isIt_at h3 fun o q => k i3 (by simp) o q⟩
  item := by
    intro X hP hw hK hc i pins s σ H E I hf st hg
    subst hP hw hK
    obtain ⟨hz, hTI, ⟨x0, y0, u0, hTO⟩, h1, h2, h3⟩ := st
    obtain ⟨xs, ys, zs, x, y, zz, hqx, hqy, hqz, hx, hy, hzz⟩ := hg
    obtain ⟨its, rv, p, _⟩ := sq_get I hqx
    obtain ⟨its2, rv2, p2, _⟩ := sq_get I hqy
    obtain ⟨its3, rv3, p3, _⟩ := sq_get I hqz
    obtain ⟨u, hu, ru⟩ := rv.get hx
    obtain ⟨u2, hu2, ru2⟩ := rv2.get hy
    obtain ⟨u3, hu3, ru3⟩ := rv3.get hzz
    have hzl : z < s.heap.objs.size := Heap.lt_size hz
    have hl1 : i < its.toArray.size := by simpa using (List.getElem?_eq_some_iff.mp hu).1
    have hl2 : i < its2.toArray.size := by simpa using (List.getElem?_eq_some_iff.mp hu2).1
    have hl3 : i < its3.toArray.size := by simpa using (List.getElem?_eq_some_iff.mp hu3).1
    refine wpAny_pyNext_zipD3_item S (draws (b := b1) (show X.A.in1.handled = none from I.ok.hd hc) i1 a1 n1 its.toArray) (draws (b := b2) (show X.A.in1.handled = none from I.ok.hd hc) i2 a2 n2 its2.toArray) (draws (b := b3) (show X.A.in1.handled = none from I.ok.hd hc) i3 a3 n3 its3.toArray) hz hTI hTO ⟨h1, p⟩ ⟨h2, p2⟩ ⟨h3, p3⟩ hl1 hl2 hl3
      fun v1 v2 v3 h' tk hP1 hP2 hP3 z' TO' st1 st2 st3 hT hsz hk => ?_
    have e1 : u = v1 := by
      have : its[i]? = some v1 := by simpa using hP1
      rw [hu] at this; exact Option.some.inj this
    have e2 : u2 = v2 := by
      have : its2[i]? = some v2 := by simpa using hP2
      rw [hu2] at this; exact Option.some.inj this
    have e3 : u3 = v3 := by
      have : its3[i]? = some v3 := by simpa using hP3
      rw [hu3] at this; exact Option.some.inj this
    subst e1 e2 e3
    refine ⟨_, rfl, wpAny_letOwnedTupleGo_zip (s := { s with heap := h', toks := tk }) z' fun h'' z'' sb => ?_⟩
    have hT2 : h''.get? s.heap.objs.size = some { cls := .type "tuple", data := .seq #[u, u2, u3] } := (sb.2 _ (Nat.ne_of_gt hzl)).trans hT
    have new : ObjOk X.prog X.w (upd H s.heap.objs.size (.tup [x, y, zz])) h'' s.heap.objs.size (.tup [x, y, zz]) :=
      ⟨by show 3 ≤ sizeLine; decide, [u, u2, u3], .cons ru (.cons ru2 (.cons ru3 .nil)), ⟨_, hT2, rfl, _, rfl⟩⟩
    have I1 : L2.Inv X pins σ (upd H s.heap.objs.size (.tup [x, y, zz])) { s with heap := h'', toks := tk } :=
      I.turnedNew (ch := [z, TI, TO, i1, i2, i3]) (fun c o hb q => (sb.2 c (fun q' => hb (by simp [q']))).trans (hk c o (fun q' => hb (by simp [q'])) (fun q' => hb (by simp [q'])) (fun q' => hb (by simp [q'])) (fun q' => hb (by simp [q'])) (fun q' => hb (by simp [q'])) q)) hf (Nat.le_refl _) new
    refine ⟨.ref s.heap.objs.size, _, I1, rfl, ⟨_, x, y, zz, rfl, I.hok.fresh (Nat.le_refl _), rfl, fun l hl => by rw [sq_inj I hl hqx]; exact hx, fun l hl => by rw [sq_inj I hl hqy]; exact hy, fun l hl => by rw [sq_inj I hl hqz]; exact hzz⟩, ⟨z'', ?_, ⟨u, u2, u3, ?_⟩, ?_, ?_, ?_⟩, fun c hcm => ?_⟩
    · exact (sb.2 _ S.TIz).trans (hk _ _ S.TIz S.TITO S.TIi1 S.TIi2 S.TIi3 hTI)
    · exact (sb.2 _ S.TOz).trans TO'
    · exact isIt_at st1.1 fun o q => (sb.2 _ z1).trans q
    · exact isIt_at st2.1 fun o q => (sb.2 _ z2).trans q
    · exact isIt_at st3.1 fun o q => (sb.2 _ z3).trans q
    · have hlt : c < s.heap.objs.size := by
        have e' : c = z ∨ c = TI ∨ c = TO ∨ c = i1 ∨ c = i2 ∨ c = i3 := by simpa using hcm
        rcases e' with q | q | q | q | q | q
        · rw [q]; exact hzl
        · rw [q]; exact Heap.lt_size hTI
        · rw [q]; exact Heap.lt_size hTO
        · rw [q]; obtain ⟨_, e1, _⟩ := isIt_obj h1; exact Heap.lt_size e1
        · rw [q]; obtain ⟨_, e2, _⟩ := isIt_obj h2; exact Heap.lt_size e2
        · rw [q]; obtain ⟨_, e2, _⟩ := isIt_obj h3; exact Heap.lt_size e2
      rw [upd_ne (Nat.ne_of_lt hlt)]
      exact (hf c hcm).1
  done := by
    intro X hP hw hK hc i pins s σ H E I hf st hg
    subst hP hw hK
    obtain ⟨hz, hTI, ⟨x0, y0, u0, hTO⟩, h1, h2, h3⟩ := st
    obtain ⟨xs, ys, zs, hqx, hqy, hqz, g1, g2, g3, hend⟩ := hg
    obtain ⟨its, rv, p, _⟩ := sq_get I hqx
    obtain ⟨its2, rv2, p2, _⟩ := sq_get I hqy
    obtain ⟨its3, rv3, p3, _⟩ := sq_get I hqz
    have l1 := rv.length
    have l2 := rv2.length
    have l3 := rv3.length
    exact wpAny_pyNext_zipD3_end S (draws (b := b1) (show X.A.in1.handled = none from I.ok.hd hc) i1 a1 n1 its.toArray) (draws (b := b2) (show X.A.in1.handled = none from I.ok.hd hc) i2 a2 n2 its2.toArray) (draws (b := b3) (show X.A.in1.handled = none from I.ok.hd hc) i3 a3 n3 its3.toArray) hz hTI hTO ⟨h1, p⟩ ⟨h2, p2⟩ ⟨h3, p3⟩
      (by simp; omega) (by simp; omega) (by simp; omega) (by simp; omega) fun h' tk hk => ⟨rfl, I.turnedL (t' := tk) (ch := [z, TI, TO, i1, i2, i3]) (fun c o hb q =>
      hk c o (fun q' => hb (by simp [q'])) (fun q' => hb (by simp [q'])) (fun q' => hb (by simp [q'])) (fun q' => hb (by simp [q'])) (fun q' => hb (by simp [q'])) q) hf⟩
  self := fun A i s Q E st h => wpAny_pyIter_zip st.1 h
theorem zip3_it {b1 b2 b3 : Bool} {X : Cx} {pins : List (Addr × Obj)} {σ : L2.St} {H : Hp} {s : Shared} {a1 a2 a3 : Addr} {xs ys zs : List V} {elts : List Expr} {kk : Nat} {tpos : Pos} {R : It → Hp → Prop} (I : L2.Inv X pins σ H s) (hq : Sq b1 X.K H a1 xs) (hq2 : Sq b2 X.K H a2 ys) (hq3 : Sq b3 X.K H a3 zs) (q : R (ItZ3 b1 b2 b3 X.K a1 a2 a3) H) :
    wpAny (model X.prog X.w) X.A (PySem.call (.type "zip") [.ref a1, .ref a2, .ref a3]) (fun v s1 => wpAny (model X.prog X.w) X.A (pyIter v) (PIE X pins σ (.Tuple elts kk tpos) R) X.xe s1) X.xe s := by
  obtain ⟨its, rv, p, hlt⟩ := sq_get I hq
  obtain ⟨its2, rv2, p2, hlt2⟩ := sq_get I hq2
  obtain ⟨its3, rv3, p3, hlt3⟩ := sq_get I hq3
  refine zip_begins3 (begins (b := b1) a1 its.toArray) (begins (b := b2) a2 its2.toArray) (begins (b := b3) a3 its3.toArray) p p2 p3 fun h' hz hTI hTO h1 h2 h3 hsz hk => wpAny_pyIter_zip hz ?_
  have I2 : L2.Inv X pins σ H { s with heap := h' } := I.kept (t' := s.toks) hk
  have S : ZipSep3 (s.heap.objs.size + 5) (s.heap.objs.size + 3) (s.heap.objs.size + 4) s.heap.objs.size (s.heap.objs.size + 1) (s.heap.objs.size + 2) [s.heap.objs.size, a1] [s.heap.objs.size + 1, a2] [s.heap.objs.size + 2, a3] := sep3 _ _ _ _ hlt hlt2 hlt3
  refine ⟨s.heap.objs.size + 5, [s.heap.objs.size + 5, s.heap.objs.size + 3, s.heap.objs.size + 4, s.heap.objs.size, s.heap.objs.size + 1, s.heap.objs.size + 2], _, _, H, rfl, I2, turn_zip3 (b1 := b1) (b2 := b2) (b3 := b3) S (Nat.ne_of_lt hlt) (ne_p _ _ 1 hlt2) (ne_p _ _ 2 hlt3) (ne_q _ 5 (by decide)) (ne_r _ 1 5 (by decide)) (ne_r _ 2 5 (by decide)), ⟨hz, hTI, ⟨_, _, _, hTO⟩, isIt_new h1, isIt_new h2, isIt_new h3⟩, fun c hcm => ?_, q⟩
  have hle : s.heap.objs.size ≤ c := in3 _ _ hcm
  exact I.fpOk hle (I.hok.fresh hle)
end MP
set_option autoImplicit false
set_option linter.all false
set_option maxRecDepth 10000
set_option maxHeartbeats 1000000
/-! MPm: what is walked, and targets. -/
namespace MP
open PySem PySem.Spec PyProof.Rows L2
section
variable (K : PySem.W.Frag) (T : Tab) (P : Prog)
/-- a walk gives the items ds while gd stands -/
def ItOk (J : It) (ds : List D) (gd : Gd) (w0 : Wd) (H0 : Hp) : Prop :=
  ∀ w H s, Le w0 w H0 H → SRel K T P w H s → stands gd s = true → J.stop ds.length H ∧
    ∀ (i : Nat) (d : D), ds[i]? = some d → J.go i H ∧ ∀ x H', J.yld i H x H' → ∃ w', Le w w' H H' ∧ SRel K T P w' H' s ∧ Rep K T P w' H' d x
abbrev rIt (w : Wd) (H : Hp) (p : List D × Gd) (J : It) : Prop := ItOk K T P J p.1 p.2 w H
/-- as MI -/
abbrev MI (X : Cx) (W : WX) (tg e : Expr) (f : Env → Sto → R (List D × Gd)) : Prop := PI X tg e (tG K T P (rIt K T P) f W)
end
theorem _root_.L2.PI.imp {X : Cx} {tg e : Expr} {t t' : TI} (h : PI X tg e t) (k : ∀ σ H R, t' σ H R → t σ H R) : PI X tg e t' := ⟨fun pins s σ H R I q => h.run pins s σ H R I (k σ H R q)⟩
section
variable {T : Tab} {P : Prog} {X : Cx} {W : WX} {tg a b c o e : Expr} {es : List Expr} {fa fb fc : Env → Sto → R D} {fl : Env → Sto → R (List D)} {pos p : Pos}
/-- a list or a tuple as it stands later -/
theorem sq_of {K : PySem.W.Frag} {w : Wd} {H : Hp} {s : Sto} {d : D} {x : V} {xs : List D} (S : SRel K T P w H s) (r : Rep K T P w H d x) (h : seqOf s d = some xs) : ∃ a b, x = .ref a ∧ (∃ vs, Sq b K H a vs ∧ Reps K T P w H xs vs) ∧
    ∀ w' H' s', Le w w' H H' → SRel K T P w' H' s' → stands (guardOf d xs) s' = true → ∃ vs, Sq b K H' a vs ∧ Reps K T P w' H' xs vs := by
  cases r with
  | tup f hh rr =>
    cases h
    exact ⟨_, false, rfl, ⟨_, SqT.of hh, rr⟩, fun w' H' s' l S' _ => ⟨_, SqT.of ((l.st _ f).trans hh), rr.mono l⟩⟩
  | lst f hh rr =>
    cases h
    exact ⟨_, true, rfl, ⟨_, SqL.of hh, rr⟩, fun w' H' s' l S' _ => ⟨_, SqL.of ((l.st _ f).trans hh), rr.mono l⟩⟩
  | scr q =>
    cases h
    refine ⟨_, true, rfl, ⟨_, scr_sq q, Reps.of_ints _⟩, fun w' H' s' l S' _ => ⟨_, scr_sq (w := w') (q.elim (fun z => .inl ⟨l.fz _ z.1, let ⟨o, h⟩ := z.2; ⟨o, (l.st _ z.1).trans h⟩⟩) .inr), Reps.of_ints _⟩⟩
  | ref hh =>
    rename_i i
    simp only [seqOf] at h
    split at h
    · rename_i ys hi
      cases h
      obtain ⟨_, vs, hv, rr⟩ := S.cell _ _ _ hi hh (fun z => nomatch z)
      refine ⟨_, true, rfl, ⟨_, SqL.of hv, rr⟩, fun w' H' s' l S' st => ?_⟩
      simp only [guardOf, stands, List.all_cons, List.all_nil, Bool.and_true, decide_eq_true_eq] at st
      obtain ⟨_, vs', hv', rr'⟩ := S'.cell _ _ _ st (l.get hh) (fun z => nomatch z)
      exact ⟨_, SqL.of hv', rr'⟩
    · cases h
  | _ => cases h
theorem seq_it {b : Bool} {pins : List (Addr × Obj)} {σ : L2.St} {H : Hp} {s : Shared} {a : Addr} {xs : List V} {R : It → Hp → Prop} (I : L2.Inv X pins σ H s) (hq : Sq b X.K H a xs) (q : ∀ J, (J = if b then Itl X.K a else Itt X.K a) → R J H) :
    wpAny (model X.prog X.w) X.A (pyIter (.ref a)) (PIE X pins σ tg R) X.xe s := by
  cases b with
  | true =>
    obtain ⟨its, rv, p, hz⟩ := I.list hq
    refine wpAny_pyIter_list p.isList ?_
    refine ⟨s.heap.objs.size, [s.heap.objs.size], _, _, H, rfl, I.kept (t' := s.toks) fun b o e => Heap.get?_push_of_some _ e, turn_list a _, ⟨_, Heap.get?_push_size _ rfl, rfl, rfl⟩, fun b hb => ?_, q _ rfl⟩
    have e : b = s.heap.objs.size := by simpa using hb
    subst e
    exact I.fpOk (Nat.le_refl _) (I.hok.fresh (Nat.le_refl _))
  | false =>
    obtain ⟨its, rv, p, hz⟩ := I.tuple hq
    refine wpAny_pyIter_tuple (show s.heap.IsTuple a its.toArray from p) ?_
    refine ⟨s.heap.objs.size, [s.heap.objs.size], _, _, H, rfl, I.kept (t' := s.toks) fun b o e => Heap.get?_push_of_some _ e, turn_tuple a _, ⟨_, Heap.get?_push_size _ rfl, rfl, rfl⟩, fun b hb => ?_, q _ rfl⟩
    have e : b = s.heap.objs.size := by simpa using hb
    subst e
    exact I.fpOk (Nat.le_refl _) (I.hok.fresh (Nat.le_refl _))
theorem itOk_seq {K : PySem.W.Frag} {w : Wd} {H : Hp} {a : Addr} {b : Bool} {ds : List D} {gd : Gd} (h : ∀ w' H' s', Le w w' H H' → SRel K T P w' H' s' → stands gd s' = true → ∃ vs, Sq b K H' a vs ∧ Reps K T P w' H' ds vs) :
    ItOk K T P (if b then Itl K a else Itt K a) ds gd w H := by
  intro w' H' s' l S' st
  obtain ⟨vs, hq, rr⟩ := h w' H' s' l S' st
  cases b with
  | true =>
    refine ⟨⟨vs, hq, by rw [rr.length]; exact Nat.le_refl _⟩, fun i d hd => ?_⟩
    obtain ⟨v, hv, rv⟩ := rr.get hd
    refine ⟨⟨vs, v, hq, hv⟩, fun x H'' y => ?_⟩
    obtain ⟨rfl, y⟩ := y
    have := y vs hq
    rw [hv] at this
    cases this
    exact ⟨w', Le.refl _ _, S', rv⟩
  | false =>
    refine ⟨⟨vs, hq, by rw [rr.length]; exact Nat.le_refl _⟩, fun i d hd => ?_⟩
    obtain ⟨v, hv, rv⟩ := rr.get hd
    refine ⟨⟨vs, v, hq, hv⟩, fun x H'' y => ?_⟩
    obtain ⟨rfl, y⟩ := y
    have := y vs hq
    rw [hv] at this
    cases this
    exact ⟨w', Le.refl _ _, S', rv⟩
def seqF (fa : Env → Sto → R D) : Env → Sto → R (List D × Gd) := fun env s => (fa env s).bind fun x s => match x with
    | .str xs => .ok (xs.map fun c => D.str [c], []) s
    | x => opt1 (seqOf s x) fun xs => .ok (xs, guardOf x xs) s
theorem itOk_str {K : PySem.W.Frag} {w : Wd} {H : Hp} (x : List Nat) : ItOk K T P (Its ⟨x.toArray⟩) (x.map fun c => D.str [c]) [] w H := by
  intro w' H' s' l S' st
  refine ⟨by show (⟨x.toArray⟩ : Str).cps.size ≤ _; simp, fun i d hd => ?_⟩
  rw [List.getElem?_map] at hd
  cases hx : x[i]? with
  | none => rw [hx] at hd; cases hd
  | some c =>
    rw [hx] at hd
    cases hd
    have hi := (List.getElem?_eq_some_iff.mp hx).1
    refine ⟨by show i < (⟨x.toArray⟩ : Str).cps.size; simpa using hi, fun y H'' q => ?_⟩
    obtain ⟨rfl, c', h1, rfl⟩ := q
    have : x[i]? = some c' := by simpa using h1
    rw [hx] at this
    cases this
    exact ⟨w', Le.refl _ _, S', .str [c]⟩
theorem mi_seq (ha : ME X.K T P X W a fa) : MI X.K T P X W tg a (seqF fa) := by
  refine ⟨fun pins s0 σ H RR I q => ?_⟩
  obtain ⟨env, s, w, E, S, o⟩ := q
  refine thn (ha.run pins s0 σ H _ I ⟨env, s, w, E, S, o.bind⟩) fun v s1 ⟨x, H1, I1, r1, q1⟩ => ?_
  obtain ⟨w1, d, s', l1, S1, rd, o1⟩ := q1
  have seq : Out X.K T P (rIt X.K T P) w1 H1 σ W RR (opt1 (seqOf s' d) fun xs => .ok (xs, guardOf d xs) s') → wpAny (model X.prog X.w) X.A (pyIter v) (PIE X pins σ tg RR) X.xe s1 := fun o1 => by
    cases hs : seqOf s' d with
    | none => rw [hs] at o1; exact o1.elim
    | some xs =>
      rw [hs] at o1
      obtain ⟨a, b, rfl, ⟨vs, hq, _⟩, later⟩ := sq_of S1 rd hs
      cases r1
      exact seq_it I1 hq fun J e => by subst e; exact o1.here S1 (itOk_seq later)
  cases rd with
  | str x =>
    obtain ⟨t, rfl⟩ := r1
    cases ha : (⟨x.toArray⟩ : Str).cps.all (· < 128)
    · exact wpAny_pyIter_wide ha (pi_one (tk := s1.toks) I1 _ (turn_str _ _ t "str_iterator" (.inr rfl)) ⟨_, Heap.get?_push_size _ rfl, rfl, rfl⟩ (o1.here S1 (itOk_str x)))
    · exact wpAny_pyIter_ascii ha (pi_one (tk := s1.toks) I1 _ (turn_str _ _ t "str_ascii_iterator" (.inl rfl)) ⟨_, Heap.get?_push_size _ rfl, rfl, rfl⟩ (o1.here S1 (itOk_str x)))
  | _ => first | exact seq o1 | exact o1.elim
theorem rangeD_get {lo : Int} {n i : Nat} {d : D} (h : (rangeD lo n)[i]? = some d) : i < n ∧ d = .int (lo + (i : Nat)) := by
  unfold rangeD at h
  rw [List.getElem?_map] at h
  cases e : (List.range n)[i]? with
  | none => rw [e] at h; cases h
  | some j =>
    rw [e] at h
    cases h
    obtain ⟨h1, h2⟩ := List.getElem?_eq_some_iff.mp e
    simp at h1 h2
    subst h2
    exact ⟨h1, rfl⟩
theorem itOk_range {K : PySem.W.Frag} {w : Wd} {H : Hp} (lo : Int) (n : Nat) : ItOk K T P (Itr lo n) (rangeD lo n) [] w H := by
  intro w' H' s' l S' st
  refine ⟨by show n ≤ _; simp [rangeD], fun i d hd => ?_⟩
  obtain ⟨h1, rfl⟩ := rangeD_get hd
  refine ⟨h1, fun x H'' y => ?_⟩
  obtain ⟨rfl, rfl⟩ := y
  exact ⟨w', Le.refl _ _, S', .int _⟩
theorem small_ok {i : Int} (h : smallI i = true) : -(2 ^ 62) ≤ i ∧ i < 2 ^ 62 := by
  unfold smallI at h
  simpa using h
def rangeF (fl : Env → Sto → R (List D)) : Env → Sto → R (List D × Gd) := fun env s => (fl env s).bind fun xs s => match xs with
    | [.int n] => if smallI n then .ok (rangeD 0 n.toNat, []) s else .no
    | [.int a, .int b] => if smallI a && smallI b then .ok (rangeD a (b - a).toNat, []) s else .no
    | _ => .no
theorem mi_range1 (hg : Gl X "range") (hm : X.mg "range" = none) (ha : MA X.K T P X W [a] fl) (hs : starEach [a] X.env = [(false, eval a X.env)]) (hl : ∀ env s xs s', fl env s = .ok xs s' → xs.length = 1) : MI X.K T P X W tg (.Call (.Name "range" p) [a] [] pos) (rangeF fl) := by
  refine (pi_range1 hg hm ha hs).imp fun σ H Q q => ?_
  obtain ⟨env, s, w, E, S, o⟩ := q
  refine ⟨env, s, w, E, S, ?_⟩
  simp only [rangeF] at o
  cases r : fl env s with
  | no => rw [r] at o; exact o
  | ex c fs s1 => rw [r] at o; exact o
  | ok ds s1 =>
    rw [r] at o
    intro xs w1 H1 l1 S1 r1
    simp only [MP.R.bind_ok] at o
    have hlen := hl _ _ _ _ r
    split at o
    · rename_i n
      obtain ⟨v, rfl, rv⟩ := r1.singleton
      cases rv
      split at o
      · rename_i h
        obtain ⟨h1, h2⟩ := small_ok h
        exact ⟨n, rfl, h1, h2, o _ w1 H1 l1 S1 (itOk_range 0 n.toNat)⟩
      · exact o.elim
    · cases hlen
    · exact o.elim
theorem mi_range2 (hg : Gl X "range") (hm : X.mg "range" = none) (ha : MA X.K T P X W [a, b] fl) (hs : starEach [a, b] X.env = [(false, eval a X.env), (false, eval b X.env)]) (hs2 : starEach [b] X.env = [(false, eval b X.env)]) (hl : ∀ env s xs s', fl env s = .ok xs s' → xs.length = 2) : MI X.K T P X W tg (.Call (.Name "range" p) [a, b] [] pos) (rangeF fl) := by
  refine (pi_range2 hg hm ha hs hs2).imp fun σ H Q q => ?_
  obtain ⟨env, s, w, E, S, o⟩ := q
  refine ⟨env, s, w, E, S, ?_⟩
  simp only [rangeF] at o
  cases r : fl env s with
  | no => rw [r] at o; exact o
  | ex c fs s1 => rw [r] at o; exact o
  | ok ds s1 =>
    rw [r] at o
    intro xs w1 H1 l1 S1 r1
    simp only [MP.R.bind_ok] at o
    have hlen := hl _ _ _ _ r
    split at o
    · cases hlen
    · rename_i n m
      obtain ⟨v, u, rfl, rv, ru⟩ := r1.two
      cases rv
      cases ru
      split at o
      · rename_i h
        rw [Bool.and_eq_true] at h
        obtain ⟨h1, h2⟩ := small_ok h.1
        obtain ⟨h3, h4⟩ := small_ok h.2
        exact ⟨n, m, rfl, ⟨h1, h2, h3, h4⟩, o _ w1 H1 l1 S1 (itOk_range n (m - n).toNat)⟩
      · exact o.elim
    · exact o.elim
/-! ### enumerate, zip, reversed -/
theorem enumD_get : ∀ {ds : List D} {n i : Nat} {d : D}, (enumD n ds)[i]? = some d → ∃ e, ds[i]? = some e ∧ d = .tup [.int ((n + i : Nat) : Int), e]
  | [], _, _, _, h => by simp [enumD] at h
  | x :: r, n, 0, d, h => by simp [enumD] at h; exact ⟨x, rfl, by rw [← h]; simp⟩
  | x :: r, n, i + 1, d, h => by
    simp only [enumD, List.getElem?_cons_succ] at h
    obtain ⟨e, h1, h2⟩ := enumD_get h
    exact ⟨e, by simpa using h1, by rw [h2]; simp; omega⟩
theorem enumD_len : ∀ (ds : List D) (n : Nat), (enumD n ds).length = ds.length
  | [], _ => rfl
  | x :: r, n => by simp [enumD, enumD_len r (n + 1)]
theorem itOk_enum {K : PySem.W.Frag} {w : Wd} {H : Hp} {a : Addr} {b : Bool} {ds : List D} {gd : Gd} (h : ∀ w' H' s', Le w w' H H' → SRel K T P w' H' s' → stands gd s' = true → ∃ vs, Sq b K H' a vs ∧ Reps K T P w' H' ds vs) :
    ItOk K T P (ItE b K a) (enumD 0 ds) gd w H := by
  intro w' H' s' l S' st
  obtain ⟨vs, hq, rr⟩ := h w' H' s' l S' st
  refine ⟨⟨vs, hq, by rw [enumD_len]; exact rr.length.symm⟩, fun i d hd => ?_⟩
  obtain ⟨e, he, rfl⟩ := enumD_get hd
  obtain ⟨v, hv, rv⟩ := rr.get he
  refine ⟨⟨vs, v, hq, hv⟩, fun x H'' y => ?_⟩
  obtain ⟨p, u, rfl, hp, rfl, y⟩ := y
  have := y vs hq
  rw [hv] at this
  cases this
  have l2 := le_ice (o := .tup [.int (i : Nat), v]) S' hp
  refine ⟨_, l2, S'.ice hp, .tup (.inr rfl) upd_same (.cons ?_ (.cons (rv.mono l2) .nil))⟩
  rw [Nat.zero_add]
  exact .int _
theorem mi_enum {elts : List Expr} {kk : Nat} {tpos : Pos} (hg : Gl X "enumerate") (hm : X.mg "enumerate" = none) (ha : ME X.K T P X W a fa) (hs : starEach [a] X.env = (false, eval a X.env) :: starEach [] X.env) :
    MI X.K T P X W (.Tuple elts kk tpos) (.Call (.Name "enumerate" p) [a] [] pos) (fun env s => (fa env s).bind fun x s => opt1 (seqOf s x) fun xs => .ok (enumD 0 xs, guardOf x xs) s) := by
  refine ⟨fun pins s0 σ H RR I q => ?_⟩
  obtain ⟨env, s, w, E, S, o⟩ := q
  refine Call_ (ld_blt I hg hm boot_enumerate (PyProof.Rows.callWith_type1 (args_cons (thn (ha.run pins s0 σ H _ I ⟨env, s, w, E, S, o.bind⟩) fun v s1 ⟨x, H1, I1, r1, q1⟩ => args_nil ?_) hs) hs rfl))
  obtain ⟨w1, d, s', l1, S1, rd, o1⟩ := q1
  cases e : seqOf s' d with
  | none => rw [e] at o1; exact o1.elim
  | some xs =>
    rw [e] at o1
    obtain ⟨a, b, rfl, ⟨vs, hq, _⟩, later⟩ := sq_of S1 rd e
    cases r1
    exact enum_it (b := b) I1 hq (o1.here S1 (itOk_enum later))

theorem stands_append {g g' : Gd} {s : Sto} : stands (g ++ g') s = (stands g s && stands g' s) := by unfold stands; rw [List.all_append]
def zipF (fl : Env → Sto → R (List D)) : Env → Sto → R (List D × Gd) := fun env s => (fl env s).bind fun vs s => opt1 (vs.mapM (seqOf s)) fun xss =>
    if xss.length = 2 ∨ xss.length = 3 then .ok (zipD xss, (vs.zip xss).flatMap fun p => guardOf p.1 p.2) s else .no
theorem zip_get {α β : Type} : ∀ {xs : List α} {ys : List β} {i : Nat} {p : α × β}, (xs.zip ys)[i]? = some p → xs[i]? = some p.1 ∧ ys[i]? = some p.2
  | [], _, _, _, h => by simp at h
  | x :: xs, [], _, _, h => by simp at h
  | x :: xs, y :: ys, 0, p, h => by simp at h; subst h; simp
  | x :: xs, y :: ys, i + 1, p, h => by
    simp only [List.zip_cons_cons, List.getElem?_cons_succ] at h ⊢
    exact zip_get h
theorem itOk_zip2 {K : PySem.W.Frag} {w : Wd} {H : Hp} {a1 a2 : Addr} {b1 b2 : Bool} {xs ys : List D} {g1 g2 : Gd} (h1 : ∀ w' H' s', Le w w' H H' → SRel K T P w' H' s' → stands g1 s' = true → ∃ vs, Sq b1 K H' a1 vs ∧ Reps K T P w' H' xs vs)
    (h2 : ∀ w' H' s', Le w w' H H' → SRel K T P w' H' s' → stands g2 s' = true → ∃ vs, Sq b2 K H' a2 vs ∧ Reps K T P w' H' ys vs) :
    ItOk K T P (ItZ2 b1 b2 K a1 a2) ((xs.zip ys).map fun p => D.tup [p.1, p.2]) (g1 ++ g2) w H := by
  intro w' H' s' l S' st
  rw [stands_append, Bool.and_eq_true] at st
  obtain ⟨vs, hq, rr⟩ := h1 w' H' s' l S' st.1
  obtain ⟨us, hq2, rr2⟩ := h2 w' H' s' l S' st.2
  have e1 := rr.length
  have e2 := rr2.length
  refine ⟨⟨vs, us, hq, hq2, by simp; omega, by simp; omega, by simp; omega⟩, fun i d hd => ?_⟩
  rw [List.getElem?_map] at hd
  cases e : (xs.zip ys)[i]? with
  | none => rw [e] at hd; cases hd
  | some p =>
    rw [e] at hd
    cases hd
    obtain ⟨q1, q2⟩ := zip_get e
    obtain ⟨v, hv, rv⟩ := rr.get q1
    obtain ⟨u, hu, ru⟩ := rr2.get q2
    refine ⟨⟨vs, us, v, u, hq, hq2, hv, hu⟩, fun x H'' y => ?_⟩
    obtain ⟨t, v', u', rfl, hp, rfl, y1, y2⟩ := y
    have z1 := y1 vs hq
    have z2 := y2 us hq2
    rw [hv] at z1
    rw [hu] at z2
    cases z1
    cases z2
    have l2 := le_ice (o := .tup [v, u]) S' hp
    exact ⟨_, l2, S'.ice hp, .tup (.inr rfl) upd_same (.cons (rv.mono l2) (.cons (ru.mono l2) .nil))⟩
theorem itOk_zip3 {K : PySem.W.Frag} {w : Wd} {H : Hp} {a1 a2 a3 : Addr} {b1 b2 b3 : Bool} {xs ys zs : List D} {g1 g2 g3 : Gd} (h1 : ∀ w' H' s', Le w w' H H' → SRel K T P w' H' s' → stands g1 s' = true → ∃ vs, Sq b1 K H' a1 vs ∧ Reps K T P w' H' xs vs)
    (h2 : ∀ w' H' s', Le w w' H H' → SRel K T P w' H' s' → stands g2 s' = true → ∃ vs, Sq b2 K H' a2 vs ∧ Reps K T P w' H' ys vs)
    (h3 : ∀ w' H' s', Le w w' H H' → SRel K T P w' H' s' → stands g3 s' = true → ∃ vs, Sq b3 K H' a3 vs ∧ Reps K T P w' H' zs vs) :
    ItOk K T P (ItZ3 b1 b2 b3 K a1 a2 a3) ((xs.zip (ys.zip zs)).map fun p => D.tup [p.1, p.2.1, p.2.2]) (g1 ++ (g2 ++ g3)) w H := by
  intro w' H' s' l S' st
  rw [stands_append, stands_append, Bool.and_eq_true, Bool.and_eq_true] at st
  obtain ⟨vs, hq, rr⟩ := h1 w' H' s' l S' st.1
  obtain ⟨us, hq2, rr2⟩ := h2 w' H' s' l S' st.2.1
  obtain ⟨ts, hq3, rr3⟩ := h3 w' H' s' l S' st.2.2
  have e1 := rr.length
  have e2 := rr2.length
  have e3 := rr3.length
  refine ⟨⟨vs, us, ts, hq, hq2, hq3, by simp; omega, by simp; omega, by simp; omega, by simp; omega⟩, fun i d hd => ?_⟩
  rw [List.getElem?_map] at hd
  cases e : (xs.zip (ys.zip zs))[i]? with
  | none => rw [e] at hd; cases hd
  | some p =>
    rw [e] at hd
    cases hd
    obtain ⟨q1, q2⟩ := zip_get e
    obtain ⟨q2, q3⟩ := zip_get q2
    obtain ⟨v, hv, rv⟩ := rr.get q1
    obtain ⟨u, hu, ru⟩ := rr2.get q2
    obtain ⟨t, ht, rt⟩ := rr3.get q3
    refine ⟨⟨vs, us, ts, v, u, t, hq, hq2, hq3, hv, hu, ht⟩, fun x H'' y => ?_⟩
    obtain ⟨tt, v', u', t', rfl, hp, rfl, y1, y2, y3⟩ := y
    have z1 := y1 vs hq
    have z2 := y2 us hq2
    have z3 := y3 ts hq3
    rw [hv] at z1
    rw [hu] at z2
    rw [ht] at z3
    cases z1
    cases z2
    cases z3
    have l2 := le_ice (o := .tup [v, u, t]) S' hp
    exact ⟨_, l2, S'.ice hp, .tup (.inr rfl) upd_same (.cons (rv.mono l2) (.cons (ru.mono l2) (.cons (rt.mono l2) .nil)))⟩
theorem mapM_two {f : D → Option (List D)} {x y : D} {r : List (List D)} (h : [x, y].mapM f = some r) : ∃ a b, f x = some a ∧ f y = some b ∧ r = [a, b] := by
  cases e1 : f x with
  | none => simp [List.mapM_cons, e1] at h
  | some a =>
    cases e2 : f y with
    | none => simp [List.mapM_cons, e1, e2] at h
    | some b => simp [List.mapM_cons, e1, e2] at h; exact ⟨a, b, rfl, rfl, h.symm⟩
theorem mapM_three {f : D → Option (List D)} {x y z : D} {r : List (List D)} (h : [x, y, z].mapM f = some r) : ∃ a b c, f x = some a ∧ f y = some b ∧ f z = some c ∧ r = [a, b, c] := by
  cases e1 : f x with
  | none => simp [List.mapM_cons, e1] at h
  | some a =>
    cases e2 : f y with
    | none => simp [List.mapM_cons, e1, e2] at h
    | some b =>
      cases e3 : f z with
      | none => simp [List.mapM_cons, e1, e2, e3] at h
      | some c => simp [List.mapM_cons, e1, e2, e3] at h; exact ⟨a, b, c, rfl, rfl, rfl, h.symm⟩
theorem len2 {α : Type} {l : List α} (h : l.length = 2) : ∃ a b, l = [a, b] := by
  match l, h with
  | [a, b], _ => exact ⟨a, b, rfl⟩
theorem len3 {α : Type} {l : List α} (h : l.length = 3) : ∃ a b c, l = [a, b, c] := by
  match l, h with
  | [a, b, c], _ => exact ⟨a, b, c, rfl⟩
theorem Reps.three {K : PySem.W.Frag} {w : Wd} {H : Hp} {d e f : D} {vs : List V} (h : Reps K T P w H [d, e, f] vs) : ∃ v u t, vs = [v, u, t] ∧ Rep K T P w H d v ∧ Rep K T P w H e u ∧ Rep K T P w H f t := by
  cases h with
  | cons h t =>
    obtain ⟨u, t', rfl, h', h''⟩ := t.two
    exact ⟨_, _, _, rfl, h, h', h''⟩
theorem mi_zip2 {elts : List Expr} {kk : Nat} {tpos : Pos} (hg : Gl X "zip") (hm : X.mg "zip" = none) (ha : MA X.K T P X W [a, b] fl) (hs : starEach [a, b] X.env = (false, eval a X.env) :: starEach [b] X.env) (hpl : (backTo pos (starEach [b] X.env)).any (·.1) = false)
    (hl : ∀ env s xs s', fl env s = .ok xs s' → xs.length = 2) : MI X.K T P X W (.Tuple elts kk tpos) (.Call (.Name "zip" p) [a, b] [] pos) (zipF fl) := by
  refine ⟨fun pins s0 σ H RR I q => ?_⟩
  obtain ⟨env, s, w, E, S, o⟩ := q
  cases r : fl env s with
  | no => simp only [zipF, r] at o; exact o.elim
  | ex c fs s1 =>
    simp only [zipF, r] at o
    refine Call_ (ld_blt I hg hm PyProof.Rows.boot_zip (PyProof.Rows.callWith_type1 (thn (ha.run pos pins s0 σ H (fun _ _ => False) I ⟨env, s, w, E, S, by rw [r]; exact o⟩) fun us s1 ⟨vs, H1, I1, r1, q1⟩ => q1.elim) hs hpl))
  | ok ds s1 =>
    simp only [zipF, r, MP.R.bind_ok] at o
    refine Call_ (ld_blt I hg hm PyProof.Rows.boot_zip (PyProof.Rows.callWith_type1 (thn (ha.run pos pins s0 σ H (fun vs H1 => ∃ w1, Le w w1 H H1 ∧ SRel X.K T P w1 H1 s1 ∧ Reps X.K T P w1 H1 ds vs) I ⟨env, s, w, E, S, by rw [r]; exact fun v w1 H1 l1 S1 r1 => ⟨w1, l1, S1, r1⟩⟩) fun us s2 ⟨vs, H1, I1, r1, w1, l1, S1, rd⟩ => ?_) hs hpl))
    obtain ⟨d, e, rfl⟩ := len2 (hl _ _ _ _ r)
    cases hmm : [d, e].mapM (seqOf s1) with
    | none => rw [hmm] at o; exact o.elim
    | some xss =>
      obtain ⟨xs, ys, h1, h2, rfl⟩ := mapM_two hmm
      rw [hmm] at o
      simp only [opt1_some, List.length_cons, List.length_nil, Nat.reduceAdd, true_or, if_true] at o
      obtain ⟨v, u, rfl, rv, ru⟩ := rd.two
      obtain ⟨a1, b1, rfl, ⟨_, hq, _⟩, lt1⟩ := sq_of S1 rv h1
      obtain ⟨a2, b2, rfl, ⟨_, hq2, _⟩, lt2⟩ := sq_of S1 ru h2
      cases r1 with
      | cons z1 zz =>
        cases zz with
        | cons z2 zz =>
          cases zz
          cases z1
          cases z2
          refine zip2_it (b1 := b1) (b2 := b2) I1 hq hq2 (o _ w1 H1 l1 S1 ?_)
          have := itOk_zip2 lt1 lt2
          show ItOk X.K T P _ (zipD [xs, ys]) (guardOf d xs ++ (guardOf e ys ++ [])) w1 H1
          rw [List.append_nil]
          exact this
theorem mi_zip3 {elts : List Expr} {kk : Nat} {tpos : Pos} (hg : Gl X "zip") (hm : X.mg "zip" = none) (ha : MA X.K T P X W [a, b, c] fl) (hs : starEach [a, b, c] X.env = (false, eval a X.env) :: starEach [b, c] X.env) (hpl : (backTo pos (starEach [b, c] X.env)).any (·.1) = false)
    (hl : ∀ env s xs s', fl env s = .ok xs s' → xs.length = 3) : MI X.K T P X W (.Tuple elts kk tpos) (.Call (.Name "zip" p) [a, b, c] [] pos) (zipF fl) := by
  refine ⟨fun pins s0 σ H RR I q => ?_⟩
  obtain ⟨env, s, w, E, S, o⟩ := q
  cases r : fl env s with
  | no => simp only [zipF, r] at o; exact o.elim
  | ex c fs s1 =>
    simp only [zipF, r] at o
    refine Call_ (ld_blt I hg hm PyProof.Rows.boot_zip (PyProof.Rows.callWith_type1 (thn (ha.run pos pins s0 σ H (fun _ _ => False) I ⟨env, s, w, E, S, by rw [r]; exact o⟩) fun us s1 ⟨vs, H1, I1, r1, q1⟩ => q1.elim) hs hpl))
  | ok ds s1 =>
    simp only [zipF, r, MP.R.bind_ok] at o
    refine Call_ (ld_blt I hg hm PyProof.Rows.boot_zip (PyProof.Rows.callWith_type1 (thn (ha.run pos pins s0 σ H (fun vs H1 => ∃ w1, Le w w1 H H1 ∧ SRel X.K T P w1 H1 s1 ∧ Reps X.K T P w1 H1 ds vs) I ⟨env, s, w, E, S, by rw [r]; exact fun v w1 H1 l1 S1 r1 => ⟨w1, l1, S1, r1⟩⟩) fun us s2 ⟨vs, H1, I1, r1, w1, l1, S1, rd⟩ => ?_) hs hpl))
    obtain ⟨d, e, f, rfl⟩ := len3 (hl _ _ _ _ r)
    cases hmm : [d, e, f].mapM (seqOf s1) with
    | none => rw [hmm] at o; exact o.elim
    | some xss =>
      obtain ⟨xs, ys, zs, h1, h2, h3, rfl⟩ := mapM_three hmm
      rw [hmm] at o
      simp only [opt1_some, List.length_cons, List.length_nil, Nat.reduceAdd, or_true, if_true] at o
      obtain ⟨v, u, t, rfl, rv, ru, rt⟩ := rd.three
      obtain ⟨a1, b1, rfl, ⟨_, hq, _⟩, lt1⟩ := sq_of S1 rv h1
      obtain ⟨a2, b2, rfl, ⟨_, hq2, _⟩, lt2⟩ := sq_of S1 ru h2
      obtain ⟨a3, b3, rfl, ⟨_, hq3, _⟩, lt3⟩ := sq_of S1 rt h3
      cases r1 with
      | cons z1 zz =>
        cases zz with
        | cons z2 zz =>
          cases zz with
          | cons z3 zz =>
            cases zz
            cases z1
            cases z2
            cases z3
            refine zip3_it (b1 := b1) (b2 := b2) (b3 := b3) I1 hq hq2 hq3 (o _ w1 H1 l1 S1 ?_)
            have := itOk_zip3 lt1 lt2 lt3
            show ItOk X.K T P _ (zipD [xs, ys, zs]) (guardOf d xs ++ (guardOf e ys ++ (guardOf f zs ++ []))) w1 H1
            rw [List.append_nil]
            exact this
/-- reversed -/
theorem itOk_rev {K : PySem.W.Frag} {w : Wd} {H : Hp} {a : Addr} {b : Bool} {ds : List D} {gd : Gd} (h : ∀ w' H' s', Le w w' H H' → SRel K T P w' H' s' → stands gd s' = true → ∃ vs, Sq b K H' a vs ∧ Reps K T P w' H' ds vs) :
    ItOk K T P (if b then Itv K a ds.length else RT.ItvT K a ds.length) ds.reverse gd w H := by
  intro w' H' s' l S' st
  obtain ⟨vs, hq, rr⟩ := h w' H' s' l S' st
  have get : ∀ {i : Nat} {d : D}, ds.reverse[i]? = some d → i < ds.length ∧ ∃ v, vs[ds.length - 1 - i]? = some v ∧ Rep K T P w' H' d v := fun {i d} hd => by
    have hi := (List.getElem?_eq_some_iff.mp hd).1
    rw [List.length_reverse] at hi
    rw [List.getElem?_reverse hi] at hd
    exact ⟨hi, rr.get hd⟩
  cases b with
  | true =>
    refine ⟨by show ds.length ≤ _; simp, fun i d hd => ?_⟩
    obtain ⟨hi, v, hv, rv⟩ := get hd
    refine ⟨⟨hi, vs, v, hq, hv⟩, fun x H'' y => ?_⟩
    obtain ⟨rfl, y⟩ := y
    have := y vs hq
    rw [hv] at this
    cases this
    exact ⟨w', Le.refl _ _, S', rv⟩
  | false =>
    refine ⟨by show ds.length ≤ _; simp, fun i d hd => ?_⟩
    obtain ⟨hi, v, hv, rv⟩ := get hd
    refine ⟨⟨hi, vs, v, hq, hv⟩, fun x H'' y => ?_⟩
    obtain ⟨rfl, y⟩ := y
    have := y vs hq
    rw [hv] at this
    cases this
    exact ⟨w', Le.refl _ _, S', rv⟩
theorem mi_rev (hg : Gl X "reversed") (hm : X.mg "reversed" = none) (ha : ME X.K T P X W a fa) (hs : starEach [a] X.env = (false, eval a X.env) :: starEach [] X.env) :
    MI X.K T P X W tg (.Call (.Name "reversed" p) [a] [] pos) (fun env s => (fa env s).bind fun x s => opt1 (seqOf s x) fun xs => .ok (xs.reverse, guardOf x xs) s) := by
  refine (RT.pi_revA hg hm ha hs).imp fun σ H Q q => ?_
  obtain ⟨env, s, w, E, S, o⟩ := q
  refine ⟨env, s, w, E, S, o.bind.mono fun x _ H1 _ q => ?_⟩
  obtain ⟨w1, d, s1, l1, S1, r1, o1⟩ := q
  cases e : seqOf s1 d with
  | none => rw [e] at o1; exact o1.elim
  | some xs =>
    rw [e] at o1
    obtain ⟨a, b, rfl, ⟨vs, hq, rr⟩, later⟩ := sq_of S1 r1 e
    have hl := rr.length
    cases b with
    | true => exact ⟨a, vs, rfl, .inl ⟨hq, by rw [← hl]; exact o1.here S1 (itOk_rev (b := true) later)⟩⟩
    | false => exact ⟨a, vs, rfl, .inr ⟨hq, by rw [← hl]; exact o1.here S1 (itOk_rev (b := false) later)⟩⟩
/-! ### targets -/
mutual
def slotsT : MP.T → List Nat
  | .name i => [i]
  | .tup ts => slotsTs ts
def slotsTs : List MP.T → List Nat
  | [] => []
  | t :: ts => slotsT t ++ slotsTs ts
end
/-- but for the slots the same -/
def SameSt (is : List Nat) (σ σ' : L2.St) : Prop := σ'.length = σ.length ∧ ∀ i, i ∉ is → σ'[i]? = σ[i]?
/-- a value stored -/
abbrev MG (K : PySem.W.Frag) (T : Tab) (P : Prog) (X : Cx) (tg : Expr) (t : MP.T) : Prop := PG X tg fun v σ H Q => ∃ env s w d env', ERel K T P w H env σ ∧ SRel K T P w H s ∧ Rep K T P w H d v ∧ asgT t d env = some env' ∧ ∀ σ', ERel K T P w H env' σ' → SameSt (slotsT t) σ σ' → Q σ' H
abbrev MGs (K : PySem.W.Frag) (T : Tab) (P : Prog) (X : Cx) (tg : List Expr) (t : List MP.T) : Prop := PGs X tg fun vs σ H Q => ∃ env s w ds env', ERel K T P w H env σ ∧ SRel K T P w H s ∧ Reps K T P w H ds vs ∧ asgTs t ds env = some env' ∧ ∀ σ', ERel K T P w H env' σ' → SameSt (slotsTs t) σ σ' → Q σ' H
theorem getE_set : ∀ (env : Env) (i j : Nat) (o : Option D) (d : D), getE (setE env i o) j = some d → (j = i ∧ o = some d) ∨ (j ≠ i ∧ getE env j = some d)
  | [], _, _, _, _, h => by simp [setE, getE] at h
  | x :: r, 0, 0, o, d, h => .inl ⟨rfl, h⟩
  | x :: r, 0, j + 1, o, d, h => .inr ⟨by omega, h⟩
  | x :: r, i + 1, 0, o, d, h => .inr ⟨by omega, h⟩
  | x :: r, i + 1, j + 1, o, d, h => by
    rcases getE_set r i j o d h with ⟨h1, h2⟩ | ⟨h1, h2⟩
    · exact .inl ⟨by omega, h2⟩
    · exact .inr ⟨by omega, h2⟩
theorem setE_len : ∀ (env : Env) (i : Nat) (o : Option D), (setE env i o).length = env.length
  | [], _, _ => rfl
  | x :: r, 0, _ => rfl
  | x :: r, i + 1, o => by simp [setE, setE_len r i o]
theorem getE_lt : ∀ {env : Env} {i : Nat} {d : D}, getE env i = some d → i < env.length
  | [], _, _, h => by simp [getE] at h
  | x :: r, 0, _, _ => by simp
  | x :: r, i + 1, d, h => by have := getE_lt (env := r) h; simp; omega
theorem ERel.set {K : PySem.W.Frag} {w : Wd} {H : Hp} {env : Env} {σ : L2.St} {d : D} {v : V} (E : ERel K T P w H env σ) (i : Nat) (r : Rep K T P w H d v) : ERel K T P w H (setE env i (some d)) (σ.set i (some v)) := by
  refine ⟨by rw [setE_len, List.length_set]; exact E.1, fun j e h => ?_⟩
  have hj := getE_lt h
  rw [setE_len, E.1] at hj
  rcases getE_set _ _ _ _ _ h with ⟨rfl, h2⟩ | ⟨h1, h2⟩
  · cases h2
    exact ⟨v, List.getElem?_set_self hj, r⟩
  · obtain ⟨u, h3, h4⟩ := E.2 j e h2
    exact ⟨u, by rw [List.getElem?_set_ne (Ne.symm h1)]; exact h3, h4⟩
theorem ERel.wipe1 {K : PySem.W.Frag} {w : Wd} {H : Hp} {env : Env} {σ : L2.St} (E : ERel K T P w H env σ) (i : Nat) : ERel K T P w H (setE env i none) σ := by
  refine ⟨by rw [setE_len]; exact E.1, fun j e h => ?_⟩
  rcases getE_set _ _ _ _ _ h with ⟨rfl, h2⟩ | ⟨h1, h2⟩
  · cases h2
  · exact E.2 j e h2
theorem ERel.set0 {K : PySem.W.Frag} {w : Wd} {H : Hp} {env : Env} {σ : L2.St} (E : ERel K T P w H env σ) (i : Nat) (o : Option V) : ERel K T P w H (setE env i none) (σ.set i o) := by
  refine ⟨by rw [setE_len, List.length_set]; exact E.1, fun j e h => ?_⟩
  rcases getE_set _ _ _ _ _ h with ⟨rfl, h2⟩ | ⟨h1, h2⟩
  · cases h2
  · obtain ⟨u, h3, h4⟩ := E.2 j e h2
    exact ⟨u, by rw [List.getElem?_set_ne (Ne.symm h1)]; exact h3, h4⟩
theorem mg_name {i : Nat} {x : Str} (hN : X.N.Nodup) (hi : X.N[i]? = some x) (hx : Loc X.env.scope x) (hf : X.fn x = true ∨ X.env.scope.names.lookup x = some .local) : MG X.K T P X (.Name x pos) (.name i) := by
  refine ⟨fun pins s σ H v u Q I r q => (pg_name hN hi hx hf).run pins s σ H v u Q I r ?_⟩
  obtain ⟨env, s, w, d, env', E, S, rd, ha, k⟩ := q
  simp only [asgT, Option.some.injEq] at ha
  subst ha
  exact k _ (E.set i rd) ⟨List.length_set, fun j hj => List.getElem?_set_ne fun e => hj (by simp [slotsT, e])⟩
theorem mgs_nil : MGs X.K T P X [] [] := by
  refine ⟨fun pins s σ H vs us Q I r q => pgs_nil.run pins s σ H vs us Q I r ?_⟩
  obtain ⟨env, s, w, ds, env', E, S, rd, ha, k⟩ := q
  cases ds with
  | nil =>
    cases rd
    cases ha
    exact ⟨rfl, k _ E ⟨rfl, fun _ _ => rfl⟩⟩
  | cons => cases ha
theorem mgs_cons {t : MP.T} {ts : List MP.T} (h1 : MG X.K T P X e t) (h2 : MGs X.K T P X es ts) (hs : (assignEach (e :: es) X.env).map (·.2) = assign e X.env :: (assignEach es X.env).map (·.2)) : MGs X.K T P X (e :: es) (t :: ts) := by
  refine ⟨fun pins s σ H vs us Q I r q => (pgs_cons h1 h2 hs).run pins s σ H vs us Q I r ?_⟩
  obtain ⟨env, s, w, ds, env', E, S, rd, ha, k⟩ := q
  cases rd with
  | nil => cases ha
  | cons rv rt =>
    rename_i d v ds vs
    simp only [asgTs] at ha
    cases e1 : asgT t d env with
    | none => rw [e1] at ha; cases ha
    | some env1 =>
      rw [e1] at ha
      exact ⟨v, vs, rfl, env, s, w, d, env1, E, S, rv, e1, fun σ1 E1 q1 => ⟨env1, s, w, ds, env', E1, S, rt, ha, fun σ2 E2 q2 => k σ2 E2 ⟨q2.1.trans q1.1, fun i hi => by
        simp only [slotsTs, List.mem_append, not_or] at hi
        rw [q2.2 i hi.2, q1.2 i hi.1]⟩⟩⟩
theorem mg_tup {ts : List MP.T} {k n : Nat} (hc : X.calm = true) (h : MGs X.K T P X es ts) (hn : (assignEach es X.env).length = n) (hl : ts.length = n) (hst : (assignEach es X.env).findIdx? (·.1) = none) (hlen : ∀ ts ds env env', asgTs ts ds env = some env' → ds.length = ts.length) : MG X.K T P X (.Tuple es k pos) (.tup ts) := by
  refine ⟨fun pins s σ H v u Q I r q => (pg_tup hc h hn hst).run pins s σ H v u Q I r ?_⟩
  obtain ⟨env, s, w, d, env', E, S, rd, ha, k⟩ := q
  cases rd with
  | tup f hh rr =>
    simp only [asgT] at ha
    refine ⟨_, _, rfl, SqT.of hh, ?_, env, s, w, _, env', E, S, rr, ha, k⟩
    rw [← rr.length, hlen _ _ _ _ ha, hl]
  | _ => simp [asgT] at ha
theorem asgTs_len : ∀ (ts : List MP.T) (ds : List D) (env env' : Env), asgTs ts ds env = some env' → ds.length = ts.length
  | [], [], _, _, _ => rfl
  | [], _ :: _, _, _, h => by simp [asgTs] at h
  | _ :: _, [], _, _, h => by simp [asgTs] at h
  | t :: ts, d :: ds, env, env', h => by
    simp only [asgTs] at h
    cases e : asgT t d env with
    | none => rw [e] at h; cases h
    | some env1 =>
      rw [e] at h
      simp [asgTs_len ts ds env1 env' h]
end
end MP
set_option autoImplicit false
set_option linter.all false
set_option maxRecDepth 10000
set_option maxHeartbeats 1000000
/-! MPn: comprehensions. -/
namespace MP
open PySem PySem.Spec PyProof.Rows L2
/-- without what is at p -/
def less (H : Hp) (p : Addr) : Hp := fun a => if a = p then none else H a
theorem less_same (H : Hp) (p : Addr) : less H p p = none := if_pos rfl
theorem less_ne {H : Hp} {p a : Addr} (h : a ≠ p) : less H p a = H a := if_neg h
theorem upd_less {H : Hp} {p : Addr} {o : HO} (h : H p = some o) : upd (less H p) p o = H := by
  funext a
  by_cases e : a = p
  · rw [e, upd_same, h]
  · rw [upd_ne e, less_ne e]
section
variable {K : PySem.W.Frag} {T : Tab} {P : Prog} {w w' : Wd} {H H' : Hp} {s : Sto}
theorem SRel.less {p : Addr} (S : SRel K T P w H s) (h1 : p ∉ w.mu) (h2 : ¬ w.fz p) : Lr w w H (less H p) ∧ SRel K T P w (less H p) s := by
  have l : Lr w w H (MP.less H p) := ⟨⟨[], by simp⟩, fun _ q => q, rfl, fun a q => less_ne fun e => h2 (e ▸ q)⟩
  refine ⟨l, S.len, fun i c a hi ha nd => ?_, S.inj, fun a q => ?_, fun a q => ?_⟩
  · obtain ⟨n, q⟩ := S.cell i c a hi ha nd
    exact ⟨n, q.mon l (less_ne fun e => h1 (e ▸ List.mem_of_getElem? ha))⟩
  · rw [less_ne fun (e : a = p) => h2 (e ▸ q)]; exact S.fz a q
  · rw [less_ne fun (e : a = p) => h1 (e ▸ q)]; exact S.all a q
theorem Le.less {p : Addr} (l : Le w w' H H') (h : H p = none) (h2 : ¬ w.fz p) : Le w w' H (less H' p) :=
  ⟨l.mu, l.fz, l.nf, l.pn, fun a q => (less_ne fun (e : a = p) => h2 (by rw [← e]; exact q)).trans (l.st a q), fun a q n => (less_ne fun (e : a = p) => q (by rw [e]; exact h)).trans (l.un a q n), fun a q => by
    rw [less_ne fun (e : a = p) => q (by rw [e]; exact h)]
    exact l.up a q⟩
theorem ERel.wipe {env : Env} {σ : L2.St} (E : ERel K T P w H env σ) : ∀ own : List Nat, ERel K T P w H (wipeE env own) (L2.wipe σ own)
  | [] => E
  | v :: vs => (ERel.wipe E vs).set0 v none
theorem SameSt.wipe {is : List Nat} {σ σ' : L2.St} (h : SameSt is σ σ') : ∀ {own : List Nat}, (∀ i ∈ is, i ∈ own) → ∀ i : Nat, (L2.wipe σ' own)[i]? = (L2.wipe σ own)[i]? := by
  have key : ∀ (own : List Nat) (τ : L2.St) (i : Nat), (L2.wipe τ own)[i]? = if i ∈ own then (if i < τ.length then some none else none) else τ[i]? := by
    intro own
    induction own with
    | nil => intro τ i; simp [L2.wipe]
    | cons v vs ih =>
      intro τ i
      simp only [L2.wipe]
      by_cases e : v = i
      · subst e
        by_cases hl : v < τ.length
        · rw [List.getElem?_set_self (by rw [L2.wipe_length]; exact hl)]; simp [hl]
        · rw [List.getElem?_eq_none (by rw [List.length_set, L2.wipe_length]; omega)]; simp [hl]
      · rw [List.getElem?_set_ne e, ih τ i]
        have : (i ∈ v :: vs) ↔ i ∈ vs := by simp [Ne.symm e]
        simp only [this]
  intro own hs i
  rw [key, key, h.1]
  split
  · rfl
  · rename_i hn
    exact h.2 i fun q => hn (hs i q)
theorem SameSt.wipe_eq {is own : List Nat} {σ σ' : L2.St} (h : SameSt is σ σ') (hs : ∀ i ∈ is, i ∈ own) : L2.wipe σ' own = L2.wipe σ own := List.ext_getElem? (h.wipe hs)
theorem wipe_wipe (σ : L2.St) (own : List Nat) : L2.wipe (L2.wipe σ own) own = L2.wipe σ own := by
  refine (SameSt.wipe_eq (is := own) ⟨L2.wipe_length σ own, fun i hi => ?_⟩ fun i h => h)
  induction own with
  | nil => rfl
  | cons v vs ih =>
    simp only [List.mem_cons, not_or] at hi
    simp only [L2.wipe]
    rw [List.getElem?_set_ne (Ne.symm hi.1)]
    exact ih hi.2
end
abbrev noW : WX := fun _ _ _ _ => False
section
variable {T : Tab} {P : Prog} {X : Cx} {W : WX} {elt tg iter : Expr} {ifs : List Expr} {scope : Scope} {own : List (Str × Nat)} {pos spos : Pos} {fi : Env → Sto → R (List D × Gd)} {fc fe : Env → Sto → R D} {t : MP.T} {m : Bool}
def stepF (own : List Nat) (t : MP.T) (fc fe : Env → Sto → R D) (env : Env) : D → Sto → R (Option D) := fun d s => opt1 (asgT t d (wipeE env own)) fun env' => (fc env' s).bind fun c s => opt1 (MP.truthy s c) fun b =>
      if b then (fe env' s).bind fun y s => .ok (some y) s else .ok none s
def compF (m : Bool) (own : List Nat) (t : MP.T) (fi : Env → Sto → R (List D × Gd)) (fc fe : Env → Sto → R D) : Env → Sto → R D := fun env s => (fi env s).bind fun p s =>
    (match compLoop (stepF own t fc fe env) p.2 p.1 s with
    | .ok ys s => if ys.length ≤ LINE then newL m ys s else .no
    | _ => .no)
/-- the tests' reading -/
abbrev tYesM (K : PySem.W.Frag) (T : Tab) (P : Prog) (fc : Env → Sto → R D) : TT := tG K T P rBool (tru fc) noW
theorem pts_nilM {X : Cx} : PTs X [] (tYesM X.K T P fun _ s => .ok (.bl true) s) := ⟨fun pins s0 σ H Q I q => pts_nil.run pins s0 σ H Q I (by
  obtain ⟨env, s, w, E, S, o⟩ := q
  exact o.here S rfl)⟩
theorem lc_out {σ : L2.St} {H : Hp} {Q : VK} (hsl : ∀ i ∈ slotsT t, i ∈ own.map (·.2)) (q : tG X.K T P (Rep X.K T P) (compF m (own.map (·.2)) t fi fc fe) W σ H Q) :
    tLc (tG X.K T P (rIt X.K T P) fi W) (fun v σ H Q => ∃ env s w d env', ERel X.K T P w H env σ ∧ SRel X.K T P w H s ∧ Rep X.K T P w H d v ∧ asgT t d env = some env' ∧ ∀ σ', ERel X.K T P w H env' σ' → SameSt (slotsT t) σ σ' → Q σ' H)
      (tYesM X.K T P fc) (tG X.K T P (Rep X.K T P) fe noW) (own.map (·.2)) σ H Q := by
  obtain ⟨env, s, w, E, S, o⟩ := q
  refine ⟨env, s, w, E, S, ?_⟩
  simp only [compF] at o
  cases hr : fi env s with
  | no => rw [hr] at o; exact o
  | ex c fs s1 => rw [hr] at o; exact o
  | ok p s1 =>
    rw [hr] at o
    simp only [MP.R.bind_ok] at o
    intro J w1 H1 l1 S1 hJ Dd hD
    cases hl : compLoop (stepF (own.map (·.2)) t fc fe env) p.2 p.1 s1 with
    | no => rw [hl] at o; exact o.elim
    | ex => rw [hl] at o; exact o.elim
    | ok ys sE =>
      rw [hl] at o
      dsimp only at o
      split at o
      case isFalse => exact o.elim
      rename_i hlen
      have E1 := E.mono l1
      have n1 := S1.out hD
      have n2 := S1.fresh hD
      refine ⟨fun i k H' => k = p.1.length - i ∧ i ≤ p.1.length ∧ ∃ w' s' ac acc rest, Le w1 w' H1 H' ∧ SRel X.K T P w' H' s' ∧ Dd ∉ w'.mu ∧ ¬ w'.fz Dd ∧ H' Dd = some (.lst acc) ∧ Reps X.K T P w' H' ac acc ∧
        compLoop (stepF (own.map (·.2)) t fc fe env) p.2 (p.1.drop i) s' = .ok rest sE ∧ ac ++ rest = ys, ⟨p.1.length, by simp, Nat.zero_le _, w1, s1, [], [], ys, (Le.refl w1 H1).aside hD n2, (S1.aside n1 n2).2, n1, n2, upd_same, .nil, by simpa using hl, rfl⟩, ?_⟩
      rintro i k H' ⟨rfl, hi, w', s', ac, acc, rest, l', S', d1, d2, hd, ra, hc, hy⟩
      by_cases hlt : i < p.1.length
      · right
        have hdrop : p.1.drop i = p.1[i] :: p.1.drop (i + 1) := List.drop_eq_getElem_cons hlt
        rw [hdrop] at hc
        simp only [compLoop] at hc
        split at hc
        case isFalse => cases hc
        rename_i hst
        obtain ⟨_, hgo⟩ := hJ w' H' s' l' S' hst
        obtain ⟨g1, g2⟩ := hgo i p.1[i] (List.getElem?_eq_getElem hlt)
        cases hstep : stepF (own.map (·.2)) t fc fe env p.1[i] s' with
        | no => rw [hstep] at hc; cases hc
        | ex => rw [hstep] at hc; cases hc
        | ok oy s2 =>
          rw [hstep] at hc
          dsimp only at hc
          cases hrest : compLoop (stepF (own.map (·.2)) t fc fe env) p.2 (p.1.drop (i + 1)) s2 with
          | no => rw [hrest] at hc; cases hc
          | ex => rw [hrest] at hc; cases hc
          | ok r2 s3 =>
            rw [hrest] at hc
            dsimp only at hc
            obtain ⟨hc1, hc2⟩ : consO oy r2 = rest ∧ s3 = sE := by
              injection hc with h1 h2; exact ⟨h1, h2⟩
            subst hc2
            refine ⟨g1, fun H2 => i + 1 ≤ p.1.length ∧ ∃ w' s' ac acc rest, Le w1 w' H1 H2 ∧ SRel X.K T P w' H2 s' ∧ Dd ∉ w'.mu ∧ ¬ w'.fz Dd ∧ H2 Dd = some (.lst acc) ∧ Reps X.K T P w' H2 ac acc ∧
              compLoop (stepF (own.map (·.2)) t fc fe env) p.2 (p.1.drop (i + 1)) s' = .ok rest s3 ∧ ac ++ rest = ys, fun H2 q => ⟨p.1.length - (i + 1), by omega, rfl, q⟩, fun x H2 y => ?_⟩
            obtain ⟨w2, l2, S2, r2'⟩ := g2 x H2 y
            obtain ⟨d3, d4, d5⟩ := l2.apart (by rw [hd]; exact fun z => nomatch z) d1 d2
            unfold stepF at hstep
            cases ha : asgT t p.1[i] (wipeE env (own.map (·.2))) with
            | none => rw [ha] at hstep; cases hstep
            | some env' =>
              rw [ha] at hstep
              simp only [opt1_some] at hstep
              refine ⟨wipeE env (own.map (·.2)), s', w2, p.1[i], env', ((E1.mono l').mono l2).wipe _, S2, r2', ha, fun σ2 E2 q2 => ⟨?_, env', s', w2, E2, S2, ?_⟩⟩
              · rw [q2.wipe_eq hsl, wipe_wipe]
              cases hf : fc env' s' with
              | no => rw [hf] at hstep; cases hstep
              | ex => rw [hf] at hstep; cases hstep
              | ok cv s4 =>
                rw [hf] at hstep
                simp only [MP.R.bind_ok] at hstep
                cases ht : MP.truthy s4 cv with
                | none => rw [ht] at hstep; cases hstep
                | some b =>
                  rw [ht] at hstep
                  simp only [opt1_some] at hstep
                  simp only [tru, hf, MP.R.bind_ok, ht, R.opt_some]
                  intro b' w3 H3 l3 S3 eb
                  subst eb
                  obtain ⟨d6, d7, d8⟩ := l3.apart (by rw [d5, hd]; exact fun z => nomatch z) d3 d4
                  cases b with
                  | false =>
                    rw [if_neg Bool.false_ne_true]
                    simp only [Bool.false_eq_true, if_false] at hstep
                    injection hstep with h1 h2
                    subst h1 h2
                    subst hc1
                    refine ⟨hlt, w3, s4, ac, acc, r2, (l'.trans l2).trans l3, S3, d6, d7, by rw [d8, d5, hd], (ra.mono l2).mono l3, hrest, hy⟩
                  | true =>
                    rw [if_pos rfl]
                    simp only [if_true] at hstep
                    refine ⟨env', s4, w3, E2.mono l3, S3, ?_⟩
                    cases hfe : fe env' s4 with
                    | no => rw [hfe] at hstep; cases hstep
                    | ex => rw [hfe] at hstep; cases hstep
                    | ok yd s5 =>
                      rw [hfe] at hstep
                      simp only [MP.R.bind_ok] at hstep
                      injection hstep with h1 h2
                      subst h1 h2
                      subst hc1
                      intro yv w4 H4 l4 S4 r4
                      obtain ⟨d9, d10, d11⟩ := l4.apart (by rw [d8, d5, hd]; exact fun z => nomatch z) d6 d7
                      have hacc : ac.length = acc.length := ra.length
                      refine ⟨acc, by rw [d11, d8, d5, hd], ?_, hlt, w4, s5, ac ++ [yd], acc ++ [yv], r2, ((((l'.trans l2).trans l3).trans l4).aside hD n2), (S4.aside d9 d10).2, d9, d10, upd_same,
                        ((((ra.mono l2).mono l3).mono l4).append (.cons r4 .nil)).mon (S4.aside d9 d10).1, hrest, by rw [← hy]; simp [consO]⟩
                      rw [← line_eq]
                      have : ys.length = ac.length + (r2.length + 1) := by rw [← hy]; simp [consO]
                      omega
      · left
        have e : i = p.1.length := by omega
        subst e
        rw [List.drop_length] at hc
        simp only [compLoop] at hc
        split at hc
        case isFalse => cases hc
        rename_i hst
        injection hc with h1 h2
        subst h1 h2
        rw [List.append_nil] at hy
        subst hy
        refine ⟨(hJ w' H' s' l' S' hst).1, ?_⟩
        obtain ⟨q1, q2⟩ := S'.less d1 d2
        have := out_newL (o.later ((l1.trans (l'.less hD n2)))) q2 (ra.mon q1) Dd (less_same H' Dd)
        rwa [upd_less hd] at this
/-- [elt for t in iter if c] -/
theorem me_lc (hc : X.calm = true) (hN : X.N.Nodup) (hi : MI X.K T P X W tg iter fi) (ok : BlkOk X.N X.env.scope scope own) (hsl : ∀ i ∈ slotsT t, i ∈ own.map (·.2))
    (hg : ∀ (s : Shared) (H : Hp) (C : Addr) (cl : List (Str × Addr)) (fp : List Addr), MG X.K T P (X.blk s H scope (compEnvC scope cl C X.env) fp) tg t)
    (ht : ∀ (s : Shared) (H : Hp) (C : Addr) (cl : List (Str × Addr)) (fp : List Addr), PTs (X.blk s H scope (compEnvC scope cl C X.env) fp) ifs (tYesM X.K T P fc))
    (he : ∀ (s : Shared) (H : Hp) (C : Addr) (cl : List (Str × Addr)) (fp : List Addr), ME X.K T P (X.blk s H scope (compEnvC scope cl C X.env) fp) noW elt fe) (hs : ∀ x, foldedSetIterable iter X.env x = pure x) :
    ME X.K T P X W (.ListComp elt [⟨tg, iter, ifs, 0⟩] scope pos) (compF m (own.map (·.2)) t fi fc fe) :=
  (pe_lc hc hN hi ok hg ht he hs).imp fun σ H Q q => lc_out hsl q
end
end MP
set_option autoImplicit false
set_option linter.all false
set_option maxRecDepth 10000
set_option maxHeartbeats 1000000
/-! MPo: statements. -/
namespace MP
open PySem PySem.Spec PyProof.Rows L2
section
variable (K : PySem.W.Frag) (T : Tab) (P : Prog)
def OutS (w : Wd) (H : Hp) (W : WX) (D : Ends) (r : SR) : Prop := match r with
  | .nx env s => ∀ σ' w' H', Le w w' H H' → SRel K T P w' H' s → ERel K T P w' H' env σ' → D.nx σ' H'
  | .brk env s => ∀ σ' w' H', Le w w' H H' → SRel K T P w' H' s → ERel K T P w' H' env σ' → D.bk σ' H'
  | .cnt env s => ∀ σ' w' H', Le w w' H H' → SRel K T P w' H' s → ERel K T P w' H' env σ' → D.ct σ' H'
  | .ret d s => ∀ v w' H', Le w w' H H' → SRel K T P w' H' s → Rep K T P w' H' d v → D.rt v H'
  | .ex c fs env s => ∀ cls dd σ' w' H', Le w w' H H' → SRel K T P w' H' s → ERel K T P w' H' env σ' → XR K T P w' H' c fs cls dd → W cls dd σ' H'
  | .no => False
def tS (f : Env → Sto → SR) (W : WX) : TS := fun D σ H => ∃ env s w, ERel K T P w H env σ ∧ SRel K T P w H s ∧ OutS K T P w H W D (f env s)
abbrev MS (X : Cx) (W : WX) (st : Stmt) (f : Env → Sto → SR) : Prop := PS X st (tS K T P f W)
abbrev MB (X : Cx) (W : WX) (sts : List Stmt) (f : Env → Sto → SR) : Prop := PSs X sts (tS K T P f W)
end
section
variable {K : PySem.W.Frag} {T : Tab} {P : Prog} {w w' : Wd} {H H' : Hp} {s : Sto} {σ : L2.St} {W : WX} {D : Ends} {env : Env}
theorem OutS.later {r : SR} (l : Le w w' H H') (h : OutS K T P w H W D r) : OutS K T P w' H' W D r := by
  cases r with
  | nx env s => exact fun σ2 w2 H2 l2 => h σ2 w2 H2 (l.trans l2)
  | brk env s => exact fun σ2 w2 H2 l2 => h σ2 w2 H2 (l.trans l2)
  | cnt env s => exact fun σ2 w2 H2 l2 => h σ2 w2 H2 (l.trans l2)
  | ret d s => exact fun σ2 w2 H2 l2 => h σ2 w2 H2 (l.trans l2)
  | ex c fs env s => exact fun a b σ2 w2 H2 l2 => h a b σ2 w2 H2 (l.trans l2)
  | no => exact h
/-- an expression within a statement -/
theorem OutS.sr {α β : Type} {rel : Wd → Hp → α → β → Prop} {r : R α} {k : α → Sto → SR} (E : ERel K T P w H env σ) (h : OutS K T P w H W D (r.sr env k)) :
    Out K T P rel w H σ W (fun v H' => ∃ w' d s', Le w w' H H' ∧ SRel K T P w' H' s' ∧ rel w' H' d v ∧ OutS K T P w' H' W D (k d s')) r := by
  cases r with
  | ok d s' => exact fun v w2 H2 l2 S2 r2 => ⟨w2, d, s', l2, S2, r2, h.later l2⟩
  | ex c fs s' => exact fun cls dd w2 H2 l2 S2 x => h cls dd σ w2 H2 l2 S2 (E.mono l2) x
  | no => exact h
theorem OutS.go {σ' : L2.St} {env' : Env} (h : OutS K T P w H W D (.nx env' s)) (S : SRel K T P w H s) (E : ERel K T P w H env' σ') : D.nx σ' H := h σ' w H (Le.refl w H) S E
end
section
variable {T : Tab} {P : Prog} {X : Cx} {W : WX} {st : Stmt} {sts ss : List Stmt} {tg a b c e : Expr} {f g : Env → Sto → SR} {fa fb fc fe : Env → Sto → R D} {fl : Env → Sto → R (List D)} {fi : Env → Sto → R (List D × Gd)} {pos p pos' tpos : Pos} {t : MP.T}
theorem mb_nil : MB X.K T P X W [] (fun env s => .nx env s) := pss_nil.imp fun D σ H q => by
  obtain ⟨env, s, w, E, S, o⟩ := q
  dsimp only at o
  exact o.go S E
theorem mb_cons (h1 : MS X.K T P X W st f) (h2 : MB X.K T P X W ss g) : MB X.K T P X W (st :: ss) (fun env s => (f env s).seq g) := (pss_cons h1 h2).imp fun D σ H q => by
  obtain ⟨env, s, w, E, S, o⟩ := q
  dsimp only at o
  refine ⟨env, s, w, E, S, ?_⟩
  cases r : f env s with
  | nx env1 s1 =>
    rw [r] at o
    exact fun σ2 w2 H2 l2 S2 E2 => ⟨env1, s1, w2, E2, S2, OutS.later l2 o⟩
  | _ => rw [r] at o; exact o
/-- a step that is none of the program's -/
theorem mb_ghost (h0 : ∀ env s env' s' w H σ, f env s = .nx env' s' → ERel X.K T P w H env σ → SRel X.K T P w H s → ∃ w', Le w w' H H ∧ ERel X.K T P w' H env' σ ∧ SRel X.K T P w' H s') (hn : ∀ env s, (∃ env' s', f env s = .nx env' s') ∨ f env s = .no) (h2 : MB X.K T P X W ss g) :
    MB X.K T P X W ss (fun env s => (f env s).seq g) := h2.imp fun D σ H q => by
  obtain ⟨env, s, w, E, S, o⟩ := q
  dsimp only at o
  rcases hn env s with ⟨env1, s1, r⟩ | r
  · rw [r] at o
    obtain ⟨w1, l1, E1, S1⟩ := h0 _ _ _ _ _ _ _ r E S
    exact ⟨env1, s1, w1, E1, S1, OutS.later l1 o⟩
  · rw [r] at o
    exact o.elim
theorem ghost_fgt {K : PySem.W.Frag} {w : Wd} {H : Hp} {σ : L2.St} : ∀ (is : List Nat) {env : Env}, ERel K T P w H env σ → ERel K T P w H (forgetE env is) σ
  | [], _, E => E
  | i :: is, env, E => ghost_fgt is (E.wipe1 i)
theorem mb_fgt (is : List Nat) (h2 : MB X.K T P X W ss g) : MB X.K T P X W ss (fun env s => (SR.nx (forgetE env is) s).seq g) :=
  mb_ghost (f := fun env s => .nx (forgetE env is) s) (fun env s env' s' w H σ h E S => by cases h; exact ⟨w, Le.refl _ _, ghost_fgt is E, S⟩) (fun env s => .inl ⟨_, _, rfl⟩) h2
def frzF (i : Nat) : Env → Sto → SR := fun env s => match getE env i with
    | some (.ref p) => match s[p]? with
      | some (.lst xs) => .nx (setE env i (some (.lst xs))) (s.set p .dead)
      | _ => .no
    | _ => .no
theorem mb_frz (i : Nat) (h2 : MB X.K T P X W ss g) : MB X.K T P X W ss (fun env s => (frzF i env s).seq g) := by
  refine mb_ghost (f := frzF i) (fun env s env' s' w H σ h E S => ?_) (fun env s => ?_) h2
  · unfold frzF at h
    split at h
    · rename_i p hp
      split at h
      · rename_i xs hx
        cases h
        obtain ⟨v, h1, h3⟩ := E.2 _ _ hp
        cases h3 with
        | ref hh =>
          obtain ⟨l, S', r'⟩ := S.kill hx hh
          refine ⟨_, l, ?_, S'⟩
          have E' := E.mono l
          refine ⟨by rw [setE_len]; exact E.1, fun j d hj => ?_⟩
          rcases getE_set _ _ _ _ _ hj with ⟨rfl, h2⟩ | ⟨_, h2⟩
          · cases h2
            exact ⟨_, h1, r'⟩
          · exact E'.2 j d h2
      · cases h
    · cases h
  · unfold frzF
    split
    · split
      · exact .inl ⟨_, _, rfl⟩
      · exact .inr rfl
    · exact .inr rfl
theorem ms_bad : MS X.K T P X W st (fun _ _ => .no) := ps_never.imp fun D σ H q => by
  obtain ⟨env, s, w, E, S, o⟩ := q
  dsimp only at o
  exact o
theorem mb_bad : MB X.K T P X W sts (fun _ _ => .no) := pss_never.imp fun D σ H q => by
  obtain ⟨env, s, w, E, S, o⟩ := q
  dsimp only at o
  exact o
theorem ms_pass : MS X.K T P X W (.Pass pos) (fun env s => .nx env s) := ps_pass.imp fun D σ H q => by
  obtain ⟨env, s, w, E, S, o⟩ := q
  dsimp only at o
  exact o.go S E
theorem ms_brk : MS X.K T P X W (.Break pos) (fun env s => .brk env s) := ps_break.imp fun D σ H q => by
  obtain ⟨env, s, w, E, S, o⟩ := q
  dsimp only at o
  exact o σ w H (Le.refl w H) S E
theorem ms_cnt : MS X.K T P X W (.Continue pos) (fun env s => .cnt env s) := ps_continue.imp fun D σ H q => by
  obtain ⟨env, s, w, E, S, o⟩ := q
  dsimp only at o
  exact o σ w H (Le.refl w H) S E
theorem ms_retN : MS X.K T P X W (.Return none pos) (fun _ s => .ret .non s) := ps_retN.imp fun D σ H q => by
  obtain ⟨env, s, w, E, S, o⟩ := q
  dsimp only at o
  exact o _ w H (Le.refl w H) S .non
theorem ms_ret (he : ME X.K T P X W e fe) : MS X.K T P X W (.Return (some e) pos) (fun env s => (fe env s).sr env fun d s => .ret d s) := (ps_ret he).imp fun D σ H q => by
  obtain ⟨env, s, w, E, S, o⟩ := q
  dsimp only at o
  refine ⟨env, s, w, E, S, (OutS.sr E o).mono fun v w1 H1 _ q => ?_⟩
  obtain ⟨w1, d, s1, l1, S1, r1, o1⟩ := q
  exact o1 v w1 H1 (Le.refl _ _) S1 r1
theorem ms_expr (he : ME X.K T P X W e fe) (hs : swapsWith e none pos.line X.env = pure false) : MS X.K T P X W (.Expr e pos) (fun env s => (fe env s).sr env fun _ s => .nx env s) := (ps_expr he hs).imp fun D σ H q => by
  obtain ⟨env, s, w, E, S, o⟩ := q
  dsimp only at o
  refine ⟨env, s, w, E, S, (OutS.sr E o).mono fun v w1 H1 _ q => ?_⟩
  obtain ⟨w1, d, s1, l1, S1, r1, o1⟩ := q
  exact o1.go S1 (E.mono l1)
theorem ms_asg (he : ME X.K T P X W e fe) (hg : MG X.K T P X tg t) (hs : swapsWithSole [tg] e pos.line X.env = pure false) (hw : swappedStores [tg] e X.env = pure none) (h1 : (assignEach [tg] X.env).map (·.2) = [assign tg X.env]) :
    MS X.K T P X W (.Assign [tg] e pos) (fun env s => (fe env s).sr env fun d s => opt2 (asgT t d env) fun env => .nx env s) := (ps_asg he hg hs hw h1).imp fun D σ H q => by
  obtain ⟨env, s, w, E, S, o⟩ := q
  dsimp only at o
  refine ⟨env, s, w, E, S, (OutS.sr E o).mono fun v w1 H1 _ q => ?_⟩
  obtain ⟨w1, d, s1, l1, S1, r1, o1⟩ := q
  cases ha : asgT t d env with
  | none => rw [ha] at o1; exact o1.elim
  | some env' =>
    rw [ha] at o1
    exact ⟨env, s1, w1, d, env', E.mono l1, S1, r1, ha, fun σ' E' _ => o1.go S1 E'⟩
/-- x = [elt for ..] -/
theorem ms_setLc {i : Nat} {y : Str} {py : Pos} {elt iter : Expr} {ifs : List Expr} {scope : Scope} {own : List (Str × Nat)} {m : Bool} (hc : X.calm = true) (hN : X.N.Nodup) (hy : X.N[i]? = some y) (hyl : X.env.scope.names.lookup y = some .local)
    (hsw : swapsWith (.ListComp elt [⟨tg, iter, ifs, 0⟩] scope pos) (some (.Name y py)) tpos.line X.env = pure true) (hi : MI X.K T P X W tg iter fi) (ok : BlkOk X.N X.env.scope scope own) (hsl : ∀ i ∈ slotsT t, i ∈ own.map (·.2))
    (hg : ∀ (s : Shared) (H : Hp) (C : Addr) (cl : List (Str × Addr)) (fp : List Addr), MG X.K T P (X.blk s H scope (compEnvC scope cl C X.env) fp) tg t)
    (ht : ∀ (s : Shared) (H : Hp) (C : Addr) (cl : List (Str × Addr)) (fp : List Addr), PTs (X.blk s H scope (compEnvC scope cl C X.env) fp) ifs (tYesM X.K T P fc))
    (he : ∀ (s : Shared) (H : Hp) (C : Addr) (cl : List (Str × Addr)) (fp : List Addr), ME X.K T P (X.blk s H scope (compEnvC scope cl C X.env) fp) noW elt fe) (hs : ∀ x, foldedSetIterable iter X.env x = pure x) :
    MS X.K T P X W (.Assign [.Name y py] (.ListComp elt [⟨tg, iter, ifs, 0⟩] scope pos) tpos) (fun env s => (compF m (own.map (·.2)) t fi fc fe env s).sr env fun d s => opt2 (asgT (.name i) d env) fun env => .nx env s) :=
  (ps_setLc hc hN hy hyl hsw hi ok hg ht he hs).imp fun D σ H q => by
  obtain ⟨env, s, w, E, S, o⟩ := q
  dsimp only at o
  refine lc_out hsl ⟨env, s, w, E, S, (OutS.sr E o).mono fun v w1 H1 _ q => ?_⟩
  obtain ⟨w1, d, s1, l1, S1, r1, o1⟩ := q
  exact o1.go S1 ((E.mono l1).set i r1)
theorem ms_if (hc : MT X.K T P X W c (tru fc)) (ha : MB X.K T P X W sts f) (hb : MB X.K T P X W ss g) : MS X.K T P X W (.If c sts ss pos) (fun env s => (fc env s).sr env fun x s => opt2 (MP.truthy s x) fun r => if r then f env s else g env s) := (ps_if hc ha hb).imp fun D σ H q => by
  obtain ⟨env, s, w, E, S, o⟩ := q
  dsimp only at o
  refine ⟨env, s, w, E, S, ?_⟩
  simp only [tru]
  cases r : fc env s with
  | no => rw [r] at o; exact o
  | ex c fs s1 => rw [r] at o; exact fun cls dd w2 H2 l2 S2 x => o cls dd σ w2 H2 l2 S2 (E.mono l2) x
  | ok d s1 =>
    rw [r] at o
    simp only [R.sr_ok, MP.R.bind_ok] at o ⊢
    cases z : MP.truthy s1 d with
    | none => rw [z] at o; exact o.elim
    | some k =>
      rw [z] at o
      intro v w1 H1 l1 S1 r1
      cases r1
      cases k with
      | true => rw [if_pos rfl]; exact ⟨env, s1, w1, E.mono l1, S1, OutS.later l1 o⟩
      | false => rw [if_neg Bool.false_ne_true]; exact ⟨env, s1, w1, E.mono l1, S1, OutS.later l1 o⟩
/-! ### loops -/
theorem ms_for (hp : PassesOwn (model X.prog X.w) X.A X.env X.xe) (hc : X.calm = true) (hi : MI X.K T P X W tg a fi) (hg : MG X.K T P X tg t) (hb : MB X.K T P X W sts f) (hs : ∀ x, foldedSetIterable a X.env x = pure x) :
    MS X.K T P X W (.For tg a sts [] pos) (fun env s => (fi env s).sr env fun p s => forLoop (fun d env s => opt2 (asgT t d env) fun env => f env s) p.2 p.1 env s) := (ps_for hp hc hi hg hb hs).imp fun D σ H q => by
  obtain ⟨env, s, w, E, S, o⟩ := q
  dsimp only at o
  refine ⟨env, s, w, E, S, (OutS.sr E o).mono fun J w1' H1 l1' q => ?_⟩
  obtain ⟨w1, pp, s1, l1, S1, hJ, o1⟩ := q
  obtain ⟨ds, gd⟩ := pp
  refine ⟨fun i m σ' H' => m = ds.length - i ∧ i ≤ ds.length ∧ ∃ w' s' env', Le w1 w' H1 H' ∧ SRel X.K T P w' H' s' ∧ ERel X.K T P w' H' env' σ' ∧ OutS X.K T P w' H' W D (forLoop (fun d env s => opt2 (asgT t d env) fun env => f env s) gd (ds.drop i) env' s'),
    ⟨ds.length, by simp, Nat.zero_le _, w1, s1, env, Le.refl _ _, S1, E.mono l1, o1⟩, ?_⟩
  rintro i m σ' H' ⟨rfl, hi, w', s', env', l', S', E', o'⟩
  by_cases hlt : i < ds.length
  · right
    rw [List.drop_eq_getElem_cons hlt] at o'
    simp only [forLoop] at o'
    split at o'
    case isFalse => exact o'.elim
    rename_i hst
    obtain ⟨_, hgo⟩ := hJ w' H' s' l' S' hst
    obtain ⟨g1, g2⟩ := hgo i ds[i] (List.getElem?_eq_getElem hlt)
    refine ⟨g1, fun σ2 H2 => i + 1 ≤ ds.length ∧ ∃ w2 s2 env2, Le w1 w2 H1 H2 ∧ SRel X.K T P w2 H2 s2 ∧ ERel X.K T P w2 H2 env2 σ2 ∧ OutS X.K T P w2 H2 W D (forLoop (fun d env s => opt2 (asgT t d env) fun env => f env s) gd (ds.drop (i + 1)) env2 s2),
      fun σ2 H2 q => ⟨ds.length - (i + 1), by omega, rfl, q⟩, fun x H2 y => ?_⟩
    obtain ⟨w2, l2, S2, r2⟩ := g2 x H2 y
    cases ha : asgT t ds[i] env' with
    | none => rw [ha] at o'; exact o'.elim
    | some env2 =>
      rw [ha] at o'
      simp only [opt2_some] at o'
      refine ⟨env', s', w2, ds[i], env2, E'.mono l2, S2, r2, ha, fun σ2 E2 _ => ⟨env2, s', w2, E2, S2, ?_⟩⟩
      have o2 := o'.later l2
      cases hf : f env2 s' with
      | nx env3 s3 =>
        rw [hf] at o2
        exact fun σ3 w3 H3 l3 S3 E3 => ⟨hlt, w3, s3, env3, (l'.trans l2).trans l3, S3, E3, OutS.later l3 o2⟩
      | cnt env3 s3 =>
        rw [hf] at o2
        exact fun σ3 w3 H3 l3 S3 E3 => ⟨hlt, w3, s3, env3, (l'.trans l2).trans l3, S3, E3, OutS.later l3 o2⟩
      | brk env3 s3 => rw [hf] at o2; exact o2
      | ret d s3 => rw [hf] at o2; exact o2
      | ex c fs env3 s3 => rw [hf] at o2; exact o2
      | no => rw [hf] at o2; exact o2
  · left
    have e : i = ds.length := by omega
    subst e
    rw [List.drop_length] at o'
    simp only [forLoop] at o'
    split at o'
    case isFalse => exact o'.elim
    rename_i hst
    exact ⟨(hJ w' H' s' l' S' hst).1, o'.go S' E'⟩
theorem ms_while (n : Nat) (hp : PassesOwn (model X.prog X.w) X.A X.env X.xe) (hc : MT X.K T P X W c (tru fc)) (hb : MB X.K T P X W sts f) : MS X.K T P X W (.While c sts [] pos) (whileLoop (tru fc) f n) := (ps_while hp hc hb).imp fun D σ H q => by
  obtain ⟨env, s, w, E, S, o⟩ := q
  refine ⟨fun m σ' H' => ∃ w' s' env', SRel X.K T P w' H' s' ∧ ERel X.K T P w' H' env' σ' ∧ OutS X.K T P w' H' W D (whileLoop (tru fc) f m env' s'), ⟨n, w, s, env, S, E, o⟩, ?_⟩
  rintro m σ' H' ⟨w', s', env', S', E', o'⟩
  cases m with
  | zero => exact o'.elim
  | succ m =>
    simp only [whileLoop] at o'
    refine ⟨env', s', w', E', S', (OutS.sr E' o').mono fun b w1' H1 l1' q => ?_⟩
    obtain ⟨w1, b', s1, l1, S1, eb, o1⟩ := q
    have eb : b' = b := eb
    subst eb
    cases b' with
    | true =>
      rw [if_pos rfl] at o1 ⊢
      refine ⟨fun σ2 H2 => ∃ w2 s2 env2, SRel X.K T P w2 H2 s2 ∧ ERel X.K T P w2 H2 env2 σ2 ∧ OutS X.K T P w2 H2 W D (whileLoop (tru fc) f m env2 s2), fun σ2 H2 q => ⟨m, Nat.lt_succ_self m, q⟩, env', s1, w1, E'.mono l1, S1, ?_⟩
      cases hf : f env' s1 with
      | nx env3 s3 =>
        rw [hf] at o1
        exact fun σ3 w3 H3 l3 S3 E3 => ⟨w3, s3, env3, S3, E3, OutS.later l3 o1⟩
      | cnt env3 s3 =>
        rw [hf] at o1
        exact fun σ3 w3 H3 l3 S3 E3 => ⟨w3, s3, env3, S3, E3, OutS.later l3 o1⟩
      | brk env3 s3 => rw [hf] at o1; exact o1
      | ret d s3 => rw [hf] at o1; exact o1
      | ex c fs env3 s3 => rw [hf] at o1; exact o1
      | no => rw [hf] at o1; exact o1
    | false =>
      rw [if_neg Bool.false_ne_true] at o1 ⊢
      exact o1.go S1 (E'.mono l1)
end
end MP
set_option autoImplicit false
set_option linter.all false
set_option maxRecDepth 10000
set_option maxHeartbeats 1000000
/-! MPp: what a call lets go; calls, instances made. -/
namespace MP
open PySem PySem.Spec PyProof.Rows L2
mutual
def D.under (n : Nat) : D → Bool
  | .ref i => decide (i < n)
  | .tup xs => D.unders n xs
  | .lst xs => D.unders n xs
  | .rcd _ xs => D.unders n xs
  | .exc _ xs => D.unders n xs
  | _ => true
def D.unders (n : Nat) : List D → Bool
  | [] => true
  | x :: xs => D.under n x && D.unders n xs
end
mutual
theorem D.free_under (n : Nat) : ∀ d : D, d.free = true → d.under n = true
  | .ref i, h => by simp [D.free] at h
  | .tup xs, h => by simp only [D.free] at h; simp only [D.under]; exact D.frees_under n xs h
  | .lst xs, h => by simp only [D.free] at h; simp only [D.under]; exact D.frees_under n xs h
  | .rcd _ xs, h => by simp only [D.free] at h; simp only [D.under]; exact D.frees_under n xs h
  | .exc _ xs, h => by simp [D.free] at h
  | .non, _ => by simp [D.under]
  | .bl _, _ => by simp [D.under]
  | .int _, _ => by simp [D.under]
  | .str _, _ => by simp [D.under]
  | .scr _, _ => by simp [D.under]
theorem D.frees_under (n : Nat) : ∀ ds : List D, D.frees ds = true → D.unders n ds = true
  | [], _ => by simp [D.unders]
  | x :: xs, h => by
    simp only [D.frees, Bool.and_eq_true] at h
    simp only [D.unders, Bool.and_eq_true]
    exact ⟨D.free_under n x h.1, D.frees_under n xs h.2⟩
end
/-- the world with the first n cells alone, more that stands for good -/
def Wd.cut (w : Wd) (n : Nat) (q : Addr → Prop) : Wd := { w with mu := w.mu.take n, fz := fun a => w.fz a ∨ q a }
section
variable {K : PySem.W.Frag} {T : Tab} {P : Prog} {w w' : Wd} {H H' : Hp} {s s' : Sto} {n : Nat} {q : Addr → Prop}
mutual
theorem Rep.under : ∀ {d : D} {v : V}, Rep K T P w H d v → d.under w.mu.length = true
  | _, _, .non => by simp [D.under]
  | _, _, .bl b => by simp [D.under]
  | _, _, .int i => by simp [D.under]
  | _, _, .str x => by simp [D.under]
  | _, _, .tup f h r => by simp only [D.under]; exact Reps.under r
  | _, _, .lst f h r => by simp only [D.under]; exact Reps.under r
  | _, _, .scr q => by simp [D.under]
  | _, _, .rcd f hc hx hl h r => by simp only [D.under]; exact Reps.under r
  | _, _, .ref h => by simp only [D.under, decide_eq_true_eq]; exact (List.getElem?_eq_some_iff.mp h).1
  | _, _, .exc0 h hc hd => by simp [D.under, D.unders]
  | _, _, .exc1 h hc hd fd hk hf hx r => by simp only [D.under, D.unders, Bool.and_true]; exact Rep.under r
theorem Reps.under : ∀ {ds : List D} {vs : List V}, Reps K T P w H ds vs → D.unders w.mu.length ds = true
  | _, _, .nil => by simp [D.unders]
  | _, _, .cons h t => by simp only [D.unders, Bool.and_eq_true]; exact ⟨Rep.under h, Reps.under t⟩
end
mutual
theorem Rep.cut : ∀ {d : D} {v : V}, Rep K T P w H d v → d.under n = true → Rep K T P (w.cut n q) H d v
  | _, _, .non, _ => .non
  | _, _, .bl b, _ => .bl b
  | _, _, .int i, _ => .int i
  | _, _, .str x, _ => .str x
  | _, _, .tup f h r, b => .tup (.inl f) h (Reps.cut' r (by simpa only [D.under] using b))
  | _, _, .lst f h r, b => .lst (.inl f) h (Reps.cut' r (by simpa only [D.under] using b))
  | _, _, .scr q, _ => .scr (q.elim (fun z => .inl ⟨.inl z.1, z.2⟩) .inr)
  | _, _, .rcd f hc hx hl h r, b => .rcd (.inl f) hc hx hl h (Reps.cut' r (by simpa only [D.under] using b))
  | _, _, .ref h, b => by
    simp only [D.under, decide_eq_true_eq] at b
    refine .ref ?_
    show (w.mu.take n)[_]? = _
    rw [List.getElem?_take, if_pos b]
    exact h
  | _, _, .exc0 h hc hd, _ => .exc0 h hc hd
  | _, _, .exc1 h hc hd fd hk hf hx r, b => .exc1 h hc hd (.inl fd) hk hf hx (Rep.cut r (by simpa only [D.under, D.unders, Bool.and_true] using b))
theorem Reps.cut' : ∀ {ds : List D} {vs : List V}, Reps K T P w H ds vs → D.unders n ds = true → Reps K T P (w.cut n q) H ds vs
  | _, _, .nil, _ => .nil
  | _, _, .cons h t, b => by
    simp only [D.unders, Bool.and_eq_true] at b
    exact .cons (Rep.cut h b.1) (Reps.cut' t b.2)
end
def Cell.under (n : Nat) : Cell → Bool
  | .lst xs => D.unders n xs
  | .dct kvs => kvs.all fun p => p.2.under n
  | .ins _ fs => fs.all fun p => p.2.under n
  | .dead => true
theorem KvR.under : ∀ {ds : List (D × D)} {vs : List (Key × V)}, KvR K T P w H ds vs → (ds.all fun p => p.2.under w.mu.length) = true
  | _, _, .nil => rfl
  | _, _, .cons hk h t => by simp only [List.all_cons, Bool.and_eq_true]; exact ⟨h.under, KvR.under t⟩
theorem FsR.under : ∀ {ds : List (Nat × D)} {vs : List (Str × V)}, FsR K T P w H ds vs → (ds.all fun p => p.2.under w.mu.length) = true
  | _, _, .nil => rfl
  | _, _, .cons h t => by simp only [List.all_cons, Bool.and_eq_true]; exact ⟨h.under, FsR.under t⟩
theorem KvR.cut : ∀ {ds : List (D × D)} {vs : List (Key × V)}, KvR K T P w H ds vs → (ds.all fun p => p.2.under n) = true → KvR K T P (w.cut n q) H ds vs
  | _, _, .nil, _ => .nil
  | _, _, .cons hk h t, b => by
    simp only [List.all_cons, Bool.and_eq_true] at b
    exact .cons hk (h.cut b.1) (KvR.cut t b.2)
theorem FsR.cut : ∀ {ds : List (Nat × D)} {vs : List (Str × V)}, FsR K T P w H ds vs → (ds.all fun p => p.2.under n) = true → FsR K T P (w.cut n q) H ds vs
  | _, _, .nil, _ => .nil
  | _, _, .cons h t, b => by
    simp only [List.all_cons, Bool.and_eq_true] at b
    exact .cons (h.cut b.1) (FsR.cut t b.2)
theorem CellR.under {a : Addr} {c : Cell} (h : CellR K T P w H a c) : c.under w.mu.length = true := by
  cases c with
  | lst xs => obtain ⟨vs, _, h2⟩ := h; exact h2.under
  | dct xs => obtain ⟨vs, _, h2⟩ := h; exact h2.under
  | ins c xs => obtain ⟨_, vs, _, _, h2, _⟩ := h; exact h2.under
  | dead => rfl
theorem CellR.cut {a : Addr} {c : Cell} (h : CellR K T P w H a c) (b : c.under n = true) : CellR K T P (w.cut n q) H a c := by
  cases c with
  | lst xs => obtain ⟨vs, h1, h2⟩ := h; exact ⟨vs, h1, h2.cut' b⟩
  | dct xs => obtain ⟨vs, h1, h2⟩ := h; exact ⟨vs, h1, h2.cut b⟩
  | ins c xs => obtain ⟨dx, vs, k, h1, h2, h3⟩ := h; exact ⟨dx, vs, k, h1, h2.cut b, h3⟩
  | dead => trivial
theorem Cell.free_under {c : Cell} (n : Nat) (h : c.free = true) : c.under n = true := by
  cases c with
  | lst xs => exact D.frees_under n xs h
  | dct kvs =>
    simp only [Cell.free, List.all_eq_true] at h
    simp only [Cell.under, List.all_eq_true]
    intro p hp
    have := h p hp
    rw [Bool.and_eq_true] at this
    exact D.free_under n _ this.2
  | ins c fs =>
    have h : D.frees (fs.map (·.2)) = true := h
    show (fs.all fun p => p.2.under n) = true
    induction fs with
    | nil => rfl
    | cons p r ih =>
      simp only [List.map_cons, D.frees, Bool.and_eq_true] at h
      simp only [List.all_cons, Bool.and_eq_true]
      exact ⟨D.free_under n _ h.1, ih h.2 h.2⟩
  | dead => rfl
/-- what holds no cell behind n -/
theorem gc_under (S : SRel K T P w H s) (g : gcOk s s' = true) {i : Nat} {c : Cell} (hi : i < s.length) (h : s'[i]? = some c) : c.under s.length = true := by
  unfold gcOk at g
  simp only [Bool.and_eq_true, List.all_eq_true, List.mem_range, Bool.or_eq_true, decide_eq_true_eq] at g
  rcases g.2 i hi with e | e
  · rw [e] at h
    obtain ⟨a, ha⟩ := S.addr h
    by_cases hd : c = .dead
    · subst hd; rfl
    · have := (S.cell i c a h ha hd).2.under
      rwa [S.len] at this
  · rw [h] at e
    exact Cell.free_under _ e
theorem gc_len (g : gcOk s s' = true) : s.length ≤ s'.length := by
  unfold gcOk at g
  simp only [Bool.and_eq_true, decide_eq_true_eq] at g
  exact g.1
/-- a call's end: the callee's cells are gone; q: addresses of such cells, told to stand for good -/
theorem cut_ok (S : SRel K T P w H s) (l : Le w w' H H') (S' : SRel K T P w' H' s') (g : gcOk s s' = true) (hq : ∀ a, q a → ∃ i c, s.length ≤ i ∧ s'[i]? = some c ∧ c ≠ .dead ∧ w'.mu[i]? = some a) :
    Le w (w'.cut s.length q) H H' ∧ SRel K T P (w'.cut s.length q) H' (s'.take s.length) := by
  obtain ⟨t, e, hf⟩ := l.mu
  have hlen : w.mu.length = s.length := S.len
  have em : w'.mu.take s.length = w.mu := by rw [e, ← hlen, List.take_left]
  have old : ∀ {i : Nat} {c : Cell} {a : Addr}, (s'.take s.length)[i]? = some c → (w'.mu.take s.length)[i]? = some a → i < s.length ∧ s'[i]? = some c ∧ w'.mu[i]? = some a := fun {i c a} h1 h2 => by
    rw [List.getElem?_take] at h1 h2
    split at h1
    · rename_i hi
      rw [if_pos hi] at h2
      exact ⟨hi, h1, h2⟩
    · cases h1
  refine ⟨⟨⟨[], by show w'.mu.take s.length = _; rw [em, List.append_nil], fun _ h => by cases h⟩, fun a h => .inl (l.fz a h), fun a h => ?_, l.pn, l.st, l.un, l.up⟩, ?_, fun i c a h1 h2 nd => ?_, fun i j c c' a h1 h2 n1 n2 m1 m2 => ?_, fun a h => ?_, fun a h => ?_⟩
  · rcases h with h | h
    · exact l.nf a h
    · obtain ⟨i, c, hi, _, _, ha⟩ := hq a h
      right; left
      rw [e, List.getElem?_append_right (by omega)] at ha
      exact hf a (List.mem_of_getElem? ha)
  · show (w'.mu.take s.length).length = (s'.take s.length).length
    rw [List.length_take, List.length_take, S'.len]
  · obtain ⟨hi, h1', h2'⟩ := old h1 h2
    obtain ⟨n, r⟩ := S'.cell i c a h1' h2' nd
    refine ⟨fun z => z.elim n fun z => ?_, r.cut (gc_under S g hi h1')⟩
    obtain ⟨j, c', hj, hc', nd', ha⟩ := hq a z
    have := S'.inj i j c c' a h1' hc' nd nd' h2' ha
    omega
  · obtain ⟨hi, h1', h2'⟩ := old h1 m1
    obtain ⟨hj, h3', h4'⟩ := old h2 m2
    exact S'.inj i j c c' a h1' h3' n1 n2 h2' h4'
  · rcases h with h | h
    · exact S'.fz a h
    · obtain ⟨i, c, hi, hc, nd, ha⟩ := hq a h
      obtain ⟨o, ho⟩ := S'.tracked hc ha nd
      rw [ho]
      exact fun z => nomatch z
  · exact S'.all a (List.mem_of_mem_take h)
/-- deep: the callee's own lists stand for good -/
def deepQ (w : Wd) (s : Sto) (n : Nat) (a : Addr) : Prop := ∃ i xs, n ≤ i ∧ s[i]? = some (.lst xs) ∧ w.mu[i]? = some a
theorem mapM_cons_some {α β : Type} {f : α → Option β} {x : α} {xs : List α} {r : List β} (h : (x :: xs).mapM f = some r) : ∃ y ys, f x = some y ∧ xs.mapM f = some ys ∧ r = y :: ys := by
  rw [List.mapM_cons] at h
  cases e1 : f x with
  | none => simp [e1] at h
  | some a =>
    cases e2 : xs.mapM f with
    | none => simp [e1, e2] at h
    | some b => simp [e1, e2] at h; exact ⟨a, b, rfl, rfl, h.symm⟩
theorem deeps_ok {f : D → Option D} (h : ∀ {d e : D} {v : V}, Rep K T P w H d v → f d = some e → Rep K T P (w.cut n q) H e v) : ∀ {ds es : List D} {vs : List V}, Reps K T P w H ds vs → ds.mapM f = some es → Reps K T P (w.cut n q) H es vs
  | _, _, _, .nil, e => by simp at e; subst e; exact .nil
  | _, _, _, .cons r t, e => by
    obtain ⟨y, ys, h1, h2, rfl⟩ := mapM_cons_some e
    exact .cons (h r h1) (deeps_ok h t h2)
theorem deep_ok (S : SRel K T P w H s) : ∀ (k : Nat) {d e : D} {v : V}, Rep K T P w H d v → deep s n k d = some e → Rep K T P (w.cut n (deepQ w s n)) H e v
  | 0, d, e, v, r, h => by
    cases r <;> simp [deep] at h <;> subst h <;> first | exact .non | exact .bl _ | exact .int _ | exact .str _
  | k + 1, d, e, v, r, h => by
    have ih := fun {d e v} => @deep_ok S k d e v
    cases r with
    | non => simp [deep] at h; subst h; exact .non
    | bl b => simp [deep] at h; subst h; exact .bl _
    | int i => simp [deep] at h; subst h; exact .int _
    | str x => simp [deep] at h; subst h; exact .str _
    | tup f hh rr =>
      simp only [deep, Option.map_eq_some_iff] at h
      obtain ⟨xs, h1, rfl⟩ := h
      exact .tup (.inl f) hh (deeps_ok ih rr h1)
    | lst f hh rr =>
      simp only [deep, Option.map_eq_some_iff] at h
      obtain ⟨xs, h1, rfl⟩ := h
      exact .lst (.inl f) hh (deeps_ok ih rr h1)
    | scr q => simp [deep] at h
    | rcd f hc hx hl hh rr =>
      simp only [deep, Option.map_eq_some_iff] at h
      obtain ⟨xs, h1, rfl⟩ := h
      have hl2 : ∀ {xs ys : List D}, xs.mapM (deep s n k) = some ys → xs.length = ys.length := fun {xs} => by
        induction xs with
        | nil => intro ys h; simp at h; subst h; rfl
        | cons x xs ih2 =>
          intro ys h
          obtain ⟨y, zs, _, h2, rfl⟩ := mapM_cons_some h
          simp [ih2 h2]
      exact .rcd (.inl f) hc hx (hl.trans (hl2 h1)) hh (deeps_ok ih rr h1)
    | ref hh =>
      rename_i i
      simp only [deep] at h
      split at h
      · rename_i hi
        cases h
        refine .ref ?_
        show (w.mu.take n)[i]? = _
        rw [List.getElem?_take, if_pos hi]
        exact hh
      · rename_i hi
        split at h
        · rename_i xs hx
          simp only [Option.map_eq_some_iff] at h
          obtain ⟨ys, h1, rfl⟩ := h
          obtain ⟨_, vs, hv, rr⟩ := S.cell _ _ _ hx hh (fun z => nomatch z)
          exact .lst (.inr ⟨i, xs, Nat.le_of_not_lt hi, hx, hh⟩) hv (deeps_ok ih rr h1)
        · cases h
    | exc0 => simp [deep] at h
    | exc1 => simp [deep] at h
end
section
variable {K : PySem.W.Frag} {T : Tab} {P : Prog} {w w' : Wd} {H H' : Hp} {s s' : Sto} {σ : L2.St} {W : WX} {Q : VK}
theorem fin_ok {m : Nat} {d : D} {v : V} (S : SRel K T P w H s) (l : Le w w' H H') (S' : SRel K T P w' H' s') (r : Rep K T P w' H' d v) (o : Out K T P (Rep K T P) w H σ W Q (fin m s d s')) : Q v H' := by
  unfold fin at o
  split at o
  · exact o v w' H' l S' r
  · split at o
    case isFalse => exact o.elim
    rename_i g
    split at o
    · rename_i hf
      obtain ⟨l2, S2⟩ := cut_ok (q := fun _ => False) S l S' g (fun _ h => h.elim)
      exact o v _ H' l2 S2 (r.cut (D.free_under _ _ hf))
    · split at o
      · unfold finM at o
        split at o
        · rename_i k hfr
          split at o
          · rename_i c hk
            split at o
            case isFalse => exact o.elim
            rename_i hc
            simp only [Bool.and_eq_true, decide_eq_true_eq] at hc
            cases r with
            | ref hh =>
              rename_i a
              obtain ⟨l2, S2⟩ := cut_ok (q := fun _ => False) S l S' g (fun _ h => h.elim)
              obtain ⟨t, e, hfresh⟩ := l.mu
              have hlen : w.mu.length = s.length := S.len
              have hat : H a = none := by
                rw [e, List.getElem?_append_right (by omega)] at hh
                exact hfresh a (List.mem_of_getElem? hh)
              have hmu : (w'.cut s.length fun _ => False).mu = w.mu := by
                show w'.mu.take s.length = _
                rw [e, ← hlen, List.take_left]
              have hgl := gc_len g
              have htake : (s'.take s.length).length = s.length := by rw [List.length_take]; omega
              -- the cell moved to the end
              refine o (.ref a) ((w'.cut s.length fun _ => False).new a) H' ⟨⟨[a], by show (w'.cut s.length fun _ => False).mu ++ [a] = _; rw [hmu], fun x hx => by rw [List.mem_singleton.mp hx]; exact hat⟩, l2.fz, l2.nf, l2.pn, l2.st, l2.un, l2.up⟩ ?_ (.ref ?_)
              · have hcell : c ≠ .dead → ¬ w'.fz a ∧ CellR K T P w' H' a c := fun nd => S'.cell k c a hk hh nd
                have lr : Lr (w'.cut s.length fun _ => False) ((w'.cut s.length fun _ => False).new a) H' H' := ⟨⟨[a], rfl⟩, fun _ h => h, rfl, fun _ _ => rfl⟩
                have idx : ∀ {i : Nat} {c' : Cell} {b : Addr}, (s'.take s.length ++ [c])[i]? = some c' → ((w'.cut s.length fun _ => False).mu ++ [a])[i]? = some b → (i < s.length ∧ s'[i]? = some c' ∧ w'.mu[i]? = some b) ∨ (i = s.length ∧ c' = c ∧ b = a) := fun {i c' b} h1 h2 => by
                  by_cases hi : i < s.length
                  · left
                    rw [List.getElem?_append_left (by omega), List.getElem?_take, if_pos hi] at h1
                    have : (w'.mu.take s.length).length = s.length := by rw [List.length_take, S'.len]; omega
                    rw [show (w'.cut s.length fun _ => False).mu = w'.mu.take s.length from rfl, List.getElem?_append_left (by omega), List.getElem?_take, if_pos hi] at h2
                    exact ⟨hi, h1, h2⟩
                  · right
                    have z := (List.getElem?_eq_some_iff.mp h1).1
                    simp at z
                    have z' : i = s.length := by omega
                    subst z'
                    rw [List.getElem?_append_right (by omega), htake] at h1
                    rw [hmu, List.getElem?_append_right (by omega), hlen] at h2
                    simp at h1 h2
                    exact ⟨rfl, h1.symm, h2.symm⟩
                refine ⟨?_, fun i c' b h1 h2 nd => ?_, fun i j c1 c2 b h1 h2 n1 n2 m1 m2 => ?_, S2.fz, fun b hb => ?_⟩
                · show ((w'.cut s.length fun _ => False).mu ++ [a]).length = _
                  rw [hmu]
                  simp [htake, hlen]
                · rcases idx h1 h2 with ⟨hi, q1, q2⟩ | ⟨rfl, rfl, rfl⟩
                  · obtain ⟨n1, q3⟩ := S'.cell i c' b q1 q2 nd
                    exact ⟨fun z => z.elim n1 id, (q3.cut (gc_under S g hi q1)).mon lr rfl⟩
                  · obtain ⟨n1, q3⟩ := hcell nd
                    exact ⟨fun z => z.elim n1 id, (q3.cut (Cell.free_under _ hc.2)).mon lr rfl⟩
                · rcases idx h1 m1 with ⟨hi, q1, q2⟩ | ⟨ei, ec, eb⟩ <;> rcases idx h2 m2 with ⟨hj, q3, q4⟩ | ⟨ej, ec', eb'⟩
                  · exact S'.inj i j c1 c2 b q1 q3 n1 n2 q2 q4
                  · subst ec' eb'
                    have := S'.inj i k c1 c2 b q1 hk n1 n2 q2 hh
                    omega
                  · subst ec eb
                    have := S'.inj j k c2 c1 b q3 hk n2 n1 q4 hh
                    omega
                  · omega
                · rcases List.mem_append.mp hb with hb | hb
                  · exact S2.all b hb
                  · rw [List.mem_singleton.mp hb]
                    exact S'.all a (List.mem_of_getElem? hh)
              · show ((w'.cut s.length fun _ => False).mu ++ [a])[s.length]? = some a
                rw [hmu, ← hlen]
                simp
          · exact o.elim
        · exact o.elim
      · unfold finF at o
        split at o
        · rename_i d' hd
          obtain ⟨l2, S2⟩ := cut_ok (q := deepQ w' s' s.length) S l S' g (fun a ⟨i, xs, h1, h2, h3⟩ => ⟨i, _, h1, h2, fun z => (nomatch z), h3⟩)
          exact o v _ H' l2 S2 (deep_ok S' 20 r hd)
        · exact o.elim
theorem finX_ok {c : Nat} {fs : List D} {cls : Value} {dd : Option Addr} (S : SRel K T P w H s) (l : Le w w' H H') (S' : SRel K T P w' H' s') (r : XR K T P w' H' c fs cls dd) (o : Out K T P (Rep K T P) w H σ W Q (finX s c fs s')) : W cls dd σ H' := by
  unfold finX at o
  split at o
  case isFalse => exact o.elim
  rename_i g
  simp only [Bool.and_eq_true] at g
  obtain ⟨l2, S2⟩ := cut_ok (q := fun _ => False) S l S' g.1 (fun _ h => h.elim)
  refine o cls dd _ H' l2 S2 ?_
  obtain ⟨h1, h | ⟨x, v, d, k, f, rfl, e2, e3, e4, e5, e6, e7⟩⟩ := r
  · exact ⟨h1, .inl h⟩
  · refine ⟨h1, .inr ⟨x, v, d, k, f, rfl, e2, .inl e3, e4, e5, e6, e7.cut (D.free_under _ _ ?_)⟩⟩
    simpa [D.frees] using g.2
end
/-! ### a def's promise -/
/-- what a def promises: np its parameters, F what it does -/
def spF (K : PySem.W.Frag) (T : Tab) (P : Prog) (np : Nat) (F : List D → Sto → R D) : Sp := fun vs H Q E => ∃ ds s w, Reps K T P w H ds vs ∧ SRel K T P w H s ∧ ds.length = np ∧ Out K T P (Rep K T P) w H [] (fun c d _ H => E c d H) Q (F ds s)
theorem start_get {N : List Str} {vs : List V} {i : Nat} : (L2.start N vs)[i]? = if i < vs.length then (vs[i]?).map some else if i < vs.length + (N.length - vs.length) then some none else none := by
  unfold L2.start
  by_cases h : i < vs.length
  · rw [if_pos h, List.getElem?_append_left (by simpa using h), List.getElem?_map]
  · rw [if_neg h, List.getElem?_append_right (by simpa using h), List.getElem?_replicate]
    simp only [List.length_map]
    by_cases h2 : i < vs.length + (N.length - vs.length)
    · rw [if_pos h2, if_pos (by omega)]
    · rw [if_neg h2, if_neg (by omega)]
theorem getE_app {n : Nat} : ∀ {ds : List D} {i : Nat} {d : D}, getE (ds.map some ++ List.replicate n none) i = some d → ds[i]? = some d
  | [], i, d, h => by
    exfalso
    simp only [List.map_nil, List.nil_append] at h
    induction n generalizing i with
    | zero => simp [getE] at h
    | succ n ih =>
      rw [List.replicate_succ] at h
      cases i with
      | zero => simp [getE] at h
      | succ i => exact ih i (by simpa [getE] using h)
  | x :: xs, 0, d, h => by simpa [getE] using h
  | x :: xs, i + 1, d, h => by
    simp only [List.map_cons, List.cons_append, getE] at h
    simpa using getE_app h
theorem erel_start {K : PySem.W.Frag} {T : Tab} {P : Prog} {w : Wd} {H : Hp} {ds : List D} {vs : List V} {N : List Str} {ns : Nat} (r : Reps K T P w H ds vs) (h : N.length = ns) (hl : ds.length ≤ ns) : ERel K T P w H (ds.map some ++ List.replicate (ns - ds.length) none) (L2.start N vs) := by
  have e := r.length
  refine ⟨by unfold L2.start; simp [e, h], fun i d hd => ?_⟩
  obtain ⟨v, hv, rv⟩ := r.get (getE_app hd)
  refine ⟨v, ?_, rv⟩
  rw [start_get, if_pos (List.getElem?_eq_some_iff.mp hv).1, hv]
  rfl
end MP
set_option autoImplicit false
set_option linter.all false
set_option maxRecDepth 10000
set_option maxHeartbeats 1000000
/-! MPq: stores, calls, instances made. -/
namespace MP
open PySem PySem.Spec PyProof.Rows L2
section
variable {T : Tab} {P : Prog} {X : Cx} {W : WX} {st : Stmt} {a b c o e : Expr} {es : List Expr} {fa fb fc fo fe : Env → Sto → R D} {fl : Env → Sto → R (List D)} {pos p pos' tpos : Pos} {g : G}
/-! ### a[i] = e -/
theorem ms_seti (ho : ME X.K T P X W a fa) (hi : ME X.K T P X W b fb) (he : ME X.K T P X W e fe) (ha : ∀ v, assign (.Subscript a b pos') X.env v = (do
      let ov ← holding [v] (eval a X.env)
      let iv ← holding [v, ov] (eval b X.env)
      standAt pos'
      holding [v, ov, iv] (setItem ov iv v)
      release [v, ov, iv] [])) (hs : swapsWithSole [.Subscript a b pos'] e pos.line X.env = pure false) (hw : swappedStores [.Subscript a b pos'] e X.env = pure none) (h1 : (assignEach [.Subscript a b pos'] X.env).map (·.2) = [assign (.Subscript a b pos') X.env]) :
    MS X.K T P X W (.Assign [.Subscript a b pos'] e pos) (fun env s => (fe env s).sr env fun v s => (fa env s).sr env fun o s => (fb env s).sr env fun k s => opt2 (setI s o k v) fun s => .nx env s) := (ps_asg he (pg_sub ho hi set_list ha) hs hw h1).imp fun D σ H q => by
  obtain ⟨env, s, w, E, S, o⟩ := q
  dsimp only at o
  refine ⟨env, s, w, E, S, (OutS.sr E o).mono fun v w1 H1 _ q => ?_⟩
  obtain ⟨w1, d, s1, l1, S1, r1, o1⟩ := q
  have E1 := E.mono l1
  refine ⟨env, s1, w1, E1, S1, (OutS.sr E1 o1).mono fun x _ H2 _ q => ?_⟩
  obtain ⟨w2, d2, s2, l2, S2, r2, o2⟩ := q
  have E2 := E1.mono l2
  refine ⟨env, s2, w2, E2, S2, (OutS.sr E2 o2).mono fun y _ H3 _ q => ?_⟩
  obtain ⟨w3, d3, s3, l3, S3, r3, o3⟩ := q
  have E3 := E2.mono l3
  have r2' := r2.mono l3
  have r1' := (r1.mono l2).mono l3
  cases z : setI s3 d2 d3 d with
  | none => rw [z] at o3; exact o3.elim
  | some s4 =>
    rw [z] at o3
    simp only [opt2_some] at o3
    unfold setI at z
    split at z
    · rename_i p
      split at z
      · rename_i xs k hp
        cases r3
        cases hj : MP.ixN xs.length k with
        | none => rw [hj] at z; cases z
        | some j =>
          rw [hj] at z
          cases z
          cases r2' with
          | ref hh =>
            obtain ⟨_, vs, hv, rr⟩ := S3.cell _ _ _ hp hh (fun z => nomatch z)
            have lp := le_put (o := .lst (vs.set j v)) S3 hp hh (fun z => nomatch z)
            refine ⟨_, vs, k, j, rfl, rfl, hv, by rw [← rr.length]; exact hj, o3 σ w3 _ lp (S3.put hp hh (fun z => nomatch z) (fun z => nomatch z) ⟨_, upd_same, (rr.set r1' j).mono lp⟩) (E3.mono lp)⟩
      · cases z
    · cases z
/-! ### o.f = e -/
theorem putF_keys {f : Nat} {v : D} : ∀ {fs : List (Nat × D)}, ∀ p ∈ putF f v fs, p.1 = f ∨ ∃ q ∈ fs, q.1 = p.1
  | [], p, hp => by simp [putF] at hp; subst hp; exact .inl rfl
  | (a, w) :: r, p, hp => by
    simp only [putF] at hp
    split at hp
    · rcases List.mem_cons.mp hp with rfl | hp
      · exact .inr ⟨(a, w), List.mem_cons_self, rfl⟩
      · exact .inr ⟨p, List.mem_cons_of_mem _ hp, rfl⟩
    · rcases List.mem_cons.mp hp with rfl | hp
      · exact .inr ⟨(a, w), List.mem_cons_self, rfl⟩
      · rcases putF_keys p hp with h | ⟨q, h1, h2⟩
        · exact .inl h
        · exact .inr ⟨q, List.mem_cons_of_mem _ h1, h2⟩
theorem FsR.put {K : PySem.W.Frag} {w : Wd} {H : Hp} {f : Nat} {d : D} {v : V} (rv : Rep K T P w H d v) : ∀ {fs : List (Nat × D)} {gs : List (Str × V)}, FsR K T P w H fs gs → (∀ p ∈ fs, T.anm f = T.anm p.1 → f = p.1) → FsR K T P w H (putF f d fs) (L2.putF (T.anm f) v gs)
  | _, _, .nil, _ => .cons rv .nil
  | _, _, .cons (f := n) (e := e) (v := u) r t, hi => by
    simp only [putF, L2.putF]
    by_cases e1 : n = f
    · subst e1
      rw [if_pos rfl, if_pos rfl]
      exact .cons rv t
    · rw [if_neg e1, if_neg fun z => e1 (hi _ List.mem_cons_self z.symm).symm]
      exact .cons r (FsR.put rv t fun p hp => hi p (List.mem_cons_of_mem _ hp))
theorem FsR.len {K : PySem.W.Frag} {w : Wd} {H : Hp} : ∀ {fs : List (Nat × D)} {gs : List (Str × V)}, FsR K T P w H fs gs → fs.length = gs.length
  | _, _, .nil => rfl
  | _, _, .cons r t => by simp [FsR.len t]
theorem ms_setf {f : Nat} (O : TabOk X.K T P) (hg : g.cls = P.cls) (ho : ME X.K T P X W a fa) (he : ME X.K T P X W e fe) (hs : swapsWith e (some (.Attribute a (T.anm f) pos')) pos.line X.env = pure false) :
    MS X.K T P X W (.Assign [.Attribute a (T.anm f) pos'] e pos) (fun env s => (fe env s).sr env fun v s => (fa env s).sr env fun x s => opt2 (setFl g s x f v) fun s => .nx env s) := (ps_fld ho he hs).imp fun D σ H q => by
  obtain ⟨env, s, w, E, S, o⟩ := q
  dsimp only at o
  refine ⟨env, s, w, E, S, (OutS.sr E o).mono fun v w1 H1 _ q => ?_⟩
  obtain ⟨w1, d, s1, l1, S1, r1, o1⟩ := q
  have E1 := E.mono l1
  refine ⟨env, s1, w1, E1, S1, (OutS.sr E1 o1).mono fun x _ H2 _ q => ?_⟩
  obtain ⟨w2, d2, s2, l2, S2, r2, o2⟩ := q
  have E2 := E1.mono l2
  have r1' := r1.mono l2
  cases z : setFl g s2 d2 f d with
  | none => rw [z] at o2; exact o2.elim
  | some s3 =>
    rw [z] at o2
    simp only [opt2_some] at o2
    unfold setFl at z
    rw [hg] at z
    split at z
    · rename_i p
      split at z
      · rename_i c fs hp
        split at z
        · rename_i k hk
          split at z
          · rename_i hm
            cases z
            cases r2 with
            | ref hh =>
              obtain ⟨_, dx, gs, k', h1, h2, h3, hx, h4⟩ := S2.cell _ _ _ hp hh (fun z => nomatch z)
              rw [hk] at h3
              cases h3
              have F := O.inst _ _ hk hx
              have inj : ∀ p ∈ fs, T.anm f = T.anm p.1 → f = p.1 := fun p hp z => O.anm _ _ _ _ hk hm.1 (h4 p hp) z
              have lp := le_put (o := .ins (ca X.K T c) dx (L2.putF (T.anm f) v gs)) S2 hp hh (fun z => nomatch z)
              refine ⟨_, _, dx, gs, rfl, h1, F.cl, F.no _ hm.1, by rw [← h2.len]; omega, o2 σ w2 _ lp (S2.put hp hh (fun z => nomatch z) (fun z => nomatch z) ⟨dx, _, k, upd_same, (h2.put r1' inj).mono lp, hk, hx, fun p hp => ?_⟩) (E2.mono lp)⟩
              rcases putF_keys p hp with q | ⟨q, q1, q2⟩
              · rw [q]; exact hm.1
              · rw [← q2]; exact h4 q q1
          · cases z
        · cases z
      · cases z
    · cases z
/-! ### x op= e -/
theorem ms_aug {i : Nat} {x : Str} {o : BOp} {op : Operator} (hop : OpR X (inplaceOp op) fun x y H Q => ∃ i j z, x = .int i ∧ y = .int j ∧ binop [] o (.int i) (.int j) = some (.int z) ∧ Q (.int z) H) (hN : X.N.Nodup) (hi : X.N[i]? = some x) (hx : Loc X.env.scope x) (he : ME X.K T P X W e fe) (hf : X.fn x = true ∨ X.env.scope.names.lookup x = some .local) :
    MS X.K T P X W (.AugAssign (.Name x pos') op e pos) (fun env s => opt2 (getE env i) fun x => (fe env s).sr env fun y s => if augOk x y then opt2 (binop s o x y) fun z => .nx (setE env i (some z)) s else .no) := (ps_aug hN hi hx he hop hf).imp fun D σ H q => by
  obtain ⟨env, s, w, E, S, o'⟩ := q
  dsimp only at o'
  cases hv : getE env i with
  | none => rw [hv] at o'; exact o'.elim
  | some d =>
    rw [hv] at o'
    simp only [opt2_some] at o'
    obtain ⟨v, h1, rv⟩ := E.2 i d hv
    refine ⟨v, h1, env, s, w, E, S, (OutS.sr E o').mono fun y w1 H1 _ q => ?_⟩
    obtain ⟨w1, d2, s1, l1, S1, r1, o1⟩ := q
    split at o1
    · rename_i hok
      cases d with
      | int m =>
        cases d2 with
        | int n =>
          have rv' := rv.mono l1
          cases rv'
          cases r1
          have hb : binop s1 o (.int m) (.int n) = binop [] o (.int m) (.int n) := by cases o <;> rfl
          rw [hb] at o1
          cases z : binop [] o (.int m) (.int n) with
          | none => rw [z] at o1; exact o1.elim
          | some zz =>
            rw [z] at o1
            simp only [opt2_some] at o1
            have : ∃ k, zz = .int k := by
              cases o <;> simp only [binop] at z
              all_goals first | exact ⟨_, (Option.some.inj z).symm⟩ | (split at z <;> first | exact ⟨_, (Option.some.inj z).symm⟩ | cases z)
            obtain ⟨k, rfl⟩ := this
            exact ⟨m, n, k, rfl, rfl, z, o1.go S1 ((E.mono l1).set i (.int k))⟩
        | _ => simp [augOk] at hok
      | _ => simp [augOk] at hok
    · exact o1.elim
theorem aug_add : OpR X (inplaceOp .Add) fun x y H Q => ∃ i j z, x = .int i ∧ y = .int j ∧ binop [] .add (.int i) (.int j) = some (.int z) ∧ Q (.int z) H := fun pins s σ H x y v u Q I rx ry ⟨i, j, z, h1, h2, h3, q⟩ => iop_add pins s σ H x y v u Q I rx ry ⟨i, j, h1, h2, by cases h3; exact q⟩
theorem aug_sub : OpR X (inplaceOp .Sub) fun x y H Q => ∃ i j z, x = .int i ∧ y = .int j ∧ binop [] .sub (.int i) (.int j) = some (.int z) ∧ Q (.int z) H := fun pins s σ H x y v u Q I rx ry ⟨i, j, z, h1, h2, h3, q⟩ => iop_sub pins s σ H x y v u Q I rx ry ⟨i, j, h1, h2, by cases h3; exact q⟩
/-! ### calls -/
theorem out_spF {w : Wd} {H : Hp} {σ : L2.St} {Q : VK} {r : R D} (h : Out X.K T P (Rep X.K T P) w H σ W Q r) : Out X.K T P (Rep X.K T P) w H [] (fun c d _ H => WE W σ c d H) Q r := by cases r <;> exact h
theorem me_callF {k np : Nat} {f : Addr} {fd : FuncData} {ps : List Str} {x : Str} {F : List D → Sto → R D} (hF : FnOk X.prog X.w X.K X.mg X.base (L2.CX X.prog X.w) k f fd ps (spF X.K T P np F)) (tk : Takes X W) (hr : Room k X.A) (hg : Gl X x) (hm : X.mg x = some (.ref f)) (hk : PySem.W.keepIn X.K (.ref f) = true) (hb : Binds X.K fd ps [])
    (ha : MA X.K T P X W (e :: es) fl) (hl : ∀ env s xs s', fl env s = .ok xs s' → xs.length = np) (hdb : (x == ("__debug__" : Str)) = false) (he : starEach (e :: es) X.env = (false, eval e X.env) :: starEach es X.env) (hpl : (backTo pos (starEach es X.env)).any (·.1) = false) :
    ME X.K T P X W (.Call (.Name x p) (e :: es) [] pos) (fun env s => (fl env s).bind fun xs s => F xs s) := by
  refine (pe_callSD hF hr hg hm hk hb .nil (passAt tk) ha hdb he hpl).imp fun σ H Q q => ?_
  obtain ⟨env, s, w, E, S, o⟩ := q
  refine ⟨env, s, w, E, S, ?_⟩
  dsimp only at o
  cases r : fl env s with
  | no => rw [r] at o; exact o
  | ex c fs s1 => rw [r] at o; exact o
  | ok ds s1 =>
    rw [r] at o
    intro xs w1 H1 l1 S1 r1
    exact ⟨ds, s1, w1, by rw [List.append_nil]; exact r1, S1, hl _ _ _ _ r, out_spF (Out.later l1 o)⟩
/-! ### an instance made -/
theorem run_makeS {CX : CXT} {k : Nat} {f C : Addr} {fd : FuncData} {ps : List Str} {sp : Sp} {E : XK} {pins : List (Addr × Obj)} {σ : L2.St} {H : Hp} {s : Shared} {Q : VK} {us : List Value} {vs : List V} (M : Mk X.K C f) (F : FnOk X.prog X.w X.K X.mg X.base CX k f fd ps sp) (hr : Room (k + 1) X.A) (hb : Binds X.K fd ps [])
    (hx : PassesAt CX X σ E) (I : L2.Inv X pins σ H s) (r : Vals vs us)
    (h : ∀ x dx, H x = none → H dx = none → dx ≠ x → sp (.ref x :: vs) (upd (upd H dx (.own x)) x (.ins C dx [])) (fun v H2 => v = .non ∧ Q (.ref x) H2) E) :
    wpAny (model X.prog X.w) X.A (PySem.call (.ref C) us) (EP X pins σ Q) X.xe s := by
  have hq := h (s.heap.objs.size + 1) s.heap.objs.size (I.hok.fresh (Nat.le_succ _)) (I.hok.fresh (Nat.le_refl _)) (Nat.ne_of_lt (Nat.lt_succ_self _))
  have I2 := Inv.made (C := C) I
  have r2 : Vals (V.ref (s.heap.objs.size + 1) :: vs) (Value.ref (s.heap.objs.size + 1) :: (us ++ [])) := .cons rfl (by rw [List.append_nil]; exact r)
  have hl : (Value.ref (s.heap.objs.size + 1) :: us ++ []).length = ps.length := by
    have e := r2.length
    rw [F.len _ _ _ _ hq] at e
    exact e.symm
  refine wpAny_call (make_map (f := f) I.kIn M.makes M.init (beq_iff_eq.mp M.fn) (codeAny_mono (F.run _ X.stack _ _ ⟨Value.ref (s.heap.objs.size + 1) :: us, []⟩ (Value.ref (s.heap.objs.size + 1) :: (us ++ [])) _ _ E (hr.make C us [])
    (I2.env0.make C us []) (by have z := hb _ (Value.ref (s.heap.objs.size + 1) :: us) I2.kIn hl; rw [List.cons_append] at z; exact z) r2 hq) fun r s' hq' => ?_))
  cases r with
  | error e => exact hx pins _ _ e s' I2 hq'
  | ok fl =>
    cases fl with
    | ret u =>
      obtain ⟨v, H', I3, rv, ev, q3⟩ := I2.after hq'
      subst ev
      exact ⟨rv, ⟨V.ref (s.heap.objs.size + 1), H', I3, rfl, q3⟩⟩
    | next => exact False.elim hq'
    | brk => exact False.elim hq'
    | cont => exact False.elim hq'
theorem recOf_ok {K : PySem.W.Frag} {w : Wd} {H : Hp} {k : Cls} : ∀ {fs : List (Nat × D)} {gs : List (Str × V)}, FsR K T P w H fs gs → ∃ vs, gs = ((fs.map (·.1)).map T.anm).zip vs ∧ Reps K T P w H (fs.map (·.2)) vs
  | _, _, .nil => ⟨[], rfl, .nil⟩
  | _, _, .cons r t => by
    obtain ⟨vs, h1, h2⟩ := recOf_ok (k := k) t
    exact ⟨_ :: vs, by simp [h1], .cons r h2⟩
theorem frees_mem : ∀ {ds : List D}, D.frees ds = true → ∀ n, D.unders n ds = true
  | ds, h, n => D.frees_under n ds h
/-- what makeD says, of the new instance -/
theorem out_make {f c : Nat} {k : Cls} {vs : List D} {w1 : Wd} {H1 : Hp} {σ : L2.St} {Q : VK} {s1 : Sto} (hg : g.cls = P.cls) (hk : P.cls c = some k) (hi : k.init = some f) (hx : k.exn = false) (S1 : SRel X.K T P w1 H1 s1) (o : Out X.K T P (Rep X.K T P) w1 H1 σ W Q (makeD g c vs s1)) (x dx : Addr) (h1 : H1 x = none) (h2 : H1 dx = none) (h3 : dx ≠ x) :
    ∃ w2, Le w1 w2 H1 (upd (upd H1 dx (.own x)) x (.ins (ca X.K T c) dx [])) ∧ SRel X.K T P w2 (upd (upd H1 dx (.own x)) x (.ins (ca X.K T c) dx [])) (s1 ++ [.ins c []]) ∧ Rep X.K T P w2 (upd (upd H1 dx (.own x)) x (.ins (ca X.K T c) dx [])) (.ref s1.length) (.ref x) ∧
      Out X.K T P (Rep X.K T P) w2 (upd (upd H1 dx (.own x)) x (.ins (ca X.K T c) dx [])) [] (fun c d _ H => WE W σ c d H) (fun v H2 => v = .non ∧ Q (.ref x) H2) (g.call f (.ref s1.length :: vs) (s1 ++ [.ins c []])) := by
  have nd1 := S1.out h2
  have nd2 := S1.fresh h2
  have S1' := (S1.aside (o := .own x) nd1 nd2).2
  have l1' : Le w1 w1 H1 (upd H1 dx (.own x)) := (Le.refl w1 H1).aside h2 nd2
  have hx1 : upd H1 dx (.own x) x = none := by rw [upd_ne (Ne.symm h3)]; exact h1
  have l2 := le_new (o := .ins (ca X.K T c) dx []) S1' hx1
  have S2 : SRel X.K T P (w1.new x) (upd (upd H1 dx (.own x)) x (.ins (ca X.K T c) dx [])) (s1 ++ [.ins c []]) := S1'.new hx1 (fun z => nomatch z) ⟨dx, [], k, upd_same, .nil, hk, hx, fun p hp => by cases hp⟩
  have hmu : (w1.new x).mu[s1.length]? = some x := by
    show (w1.mu ++ [x])[s1.length]? = some x
    rw [← S1.len]
    simp
  refine ⟨w1.new x, l1'.trans l2, S2, .ref hmu, ?_⟩
  have l := l1'.trans l2
  unfold makeD at o
  rw [hg, hk] at o
  simp only [hx, Bool.false_eq_true, if_false, hi] at o
  cases r : g.call f (.ref s1.length :: vs) (s1 ++ [.ins c []]) with
  | no => rw [r] at o; exact o
  | ex e fs s' =>
    rw [r] at o
    dsimp only at o
    split at o
    case isFalse => exact o.elim
    rename_i hq
    intro cls dd w' H' l' S' xr
    have hl2 : Le w1 w' H1 H' := l.trans l'
    have g0 : gcOk s1 s' = true := by
      unfold gcOk
      have hlen : s1.length ≤ s'.length := by
        have := congrArg List.length hq.1
        rw [List.length_take] at this
        omega
      simp only [Bool.and_eq_true, decide_eq_true_eq, List.all_eq_true, List.mem_range, Bool.or_eq_true]
      refine ⟨hlen, fun i hi => .inl ?_⟩
      rw [← hq.1, List.getElem?_take, if_pos hi]
    obtain ⟨l3, S3⟩ := cut_ok (q := fun _ => False) S1 hl2 S' g0 (fun _ h => h.elim)
    rw [hq.1] at S3
    refine o cls dd _ H' l3 S3 ?_
    obtain ⟨h1, h | ⟨x, v, d, k, f, rfl, e2, e3, e4, e5, e6, e7⟩⟩ := xr
    · exact ⟨h1, .inl h⟩
    · exact ⟨h1, .inr ⟨x, v, d, k, f, rfl, e2, .inl e3, e4, e5, e6, e7.cut (D.free_under _ _ (by simpa [D.frees] using hq.2))⟩⟩
  | ok d s' =>
    rw [r] at o
    cases d with
    | non =>
      simp only at o
      intro v w' H' l' S' rv
      cases rv
      refine ⟨rfl, ?_⟩
      have hl2 : Le w1 w' H1 H' := l.trans l'
      have hmu' : w'.mu[s1.length]? = some x := l'.get hmu
      split at o
      · split at o
        · rename_i c' fs hfs
          split at o
          · rename_i hc
            obtain ⟨rfl, hs'⟩ := hc
            cases hrec : recOf k fs with
            | none => rw [hrec] at o; exact o.elim
            | some ds =>
              rw [hrec] at o
              dsimp only at o
              split at o
              case isFalse => exact o.elim
              rename_i hfr
              unfold recOf at hrec
              split at hrec
              case isFalse => cases hrec
              rename_i hkeys
              cases hrec
              have g0 : gcOk s1 s' = true := by
                unfold gcOk
                simp only [Bool.and_eq_true, decide_eq_true_eq, List.all_eq_true, List.mem_range, Bool.or_eq_true]
                refine ⟨by rw [hs']; simp, fun i hi => .inl ?_⟩
                rw [hs', List.getElem?_append_left hi]
              obtain ⟨_, dx', gs, k', q1, q2, q3, _, _⟩ := S'.cell _ _ _ hfs hmu' (fun z => nomatch z)
              obtain ⟨l3, S3⟩ := cut_ok (q := fun a => a = x) S1 hl2 S' g0 (fun a h => ⟨s1.length, _, Nat.le_refl _, hfs, fun z => (nomatch z), by rw [h]; exact hmu'⟩)
              have et : s'.take s1.length = s1 := by rw [hs']; simp
              rw [et] at S3
              obtain ⟨us, rfl, ru⟩ := recOf_ok (k := k) q2
              rw [hkeys] at q1
              refine o _ _ H' l3 S3 (.rcd (.inr rfl) hk hx (by rw [← hkeys]; simp) q1 (ru.cut' (D.frees_under _ _ hfr)))
          · exact o.elim
        · exact o.elim
      · exact o _ w' H' hl2 S' (.ref hmu')
    | _ => exact o.elim
theorem me_make {k np f c : Nat} {fA : Addr} {fd : FuncData} {ps : List Str} {x : Str} {kc : Cls} (hg' : g.cls = P.cls) (hk' : P.cls c = some kc) (hi : kc.init = some f) (hxn : kc.exn = false) (M : Mk X.K (ca X.K T c) fA) (hF : FnOk X.prog X.w X.K X.mg X.base (L2.CX X.prog X.w) k fA fd ps (spF X.K T P np (g.call f))) (tk : Takes X W) (hr : Room (k + 1) X.A) (hg : Gl X x) (hm : X.mg x = some (.ref (ca X.K T c))) (hb : Binds X.K fd ps [])
    (ha : MA X.K T P X W (e :: es) fl) (hl : ∀ env s xs s', fl env s = .ok xs s' → xs.length + 1 = np) (hdb : (x == ("__debug__" : Str)) = false) (he : starEach (e :: es) X.env = (false, eval e X.env) :: starEach es X.env) (hpl : (backTo pos (starEach es X.env)).any (·.1) = false) :
    ME X.K T P X W (.Call (.Name x p) (e :: es) [] pos) (fun env s => (fl env s).bind fun xs s => makeD g c xs s) := by
  refine ⟨fun pins s0 σ H Q I q => ?_⟩
  obtain ⟨env, s, w, E, S, o⟩ := q
  dsimp only at o
  refine wpAny_Call_Name_kw (ld_glob I hg hm ?_ hdb)
  cases r : fl env s with
  | no => rw [r] at o; exact o.elim
  | ex c fs s1 =>
    rw [r] at o
    refine PySem.W.callWith_K (h₀ := X.base) I.ok.mod.kin M.kp (thn (ha.run pos pins s0 σ H (fun _ _ => False) I ⟨env, s, w, E, S, by rw [r]; exact o⟩) fun us s1 ⟨vs, H1, I1, r, q⟩ => q.elim) he hpl
  | ok ds s1 =>
    rw [r] at o
    simp only [MP.R.bind_ok] at o
    refine PySem.W.callWith_K (h₀ := X.base) I.ok.mod.kin M.kp (thn (ha.run pos pins s0 σ H (fun vs H1 => ∃ w1, Le w w1 H H1 ∧ SRel X.K T P w1 H1 s1 ∧ Reps X.K T P w1 H1 ds vs) I ⟨env, s, w, E, S, by rw [r]; exact fun v w1 H1 l1 S1 r1 => ⟨w1, l1, S1, r1⟩⟩) fun us s2 ⟨vs, H1, I1, rv, w1, l1, S1, rd⟩ => ⟨I1.kIn, ?_⟩) he hpl
    refine run_makeS M hF hr hb (passAt tk σ) I1 rv fun x dx h1 h2 h3 => ?_
    obtain ⟨w2, l2, S2, r2, o2⟩ := out_make hg' hk' hi hxn S1 (Out.later l1 o) x dx h1 h2 h3
    exact ⟨.ref s1.length :: ds, _, w2, .cons r2 (rd.mono l2), S2, by simp; exact hl _ _ _ _ r, o2⟩
end
end MP
set_option autoImplicit false
set_option linter.all false
set_option maxRecDepth 10000
set_option maxHeartbeats 1000000
/-! MPq1: exceptions: made and raised. -/
namespace MP
open PySem PySem.Spec PyProof.Rows L2
/-! ### values without an exception -/
mutual
def D.nox : D → Bool
  | .exc _ _ => false
  | .tup xs => D.noxs xs
  | .lst xs => D.noxs xs
  | .rcd _ xs => D.noxs xs
  | _ => true
def D.noxs : List D → Bool
  | [] => true
  | x :: xs => D.nox x && D.noxs xs
end
def Cell.nox : Cell → Bool
  | .lst xs => D.noxs xs
  | .dct kvs => kvs.all fun p => p.2.nox
  | .ins _ fs => fs.all fun p => p.2.nox
  | .dead => true
def Tab.sw (T : Tab) (pn : List (Addr × Obj)) : Tab := { T with pn := pn }
section
variable {K : PySem.W.Frag} {T : Tab} {P : Prog} {w w' : Wd} {H H' : Hp} {s : Sto} {pn : List (Addr × Obj)}
mutual
theorem Rep.nox (hT : T.pn = []) : ∀ {d : D} {v : V}, Rep K T P w H d v → d.nox = true
  | _, _, .non => rfl
  | _, _, .bl b => rfl
  | _, _, .int i => rfl
  | _, _, .str x => rfl
  | _, _, .tup f h r => Reps.nox hT r
  | _, _, .lst f h r => Reps.nox hT r
  | _, _, .scr q => rfl
  | _, _, .rcd f hc hx hl h r => Reps.nox hT r
  | _, _, .ref h => rfl
  | _, _, .exc0 h hc hd => by rw [hT] at h; cases h
  | _, _, .exc1 h hc hd fd hk hf hx r => by rw [hT] at h; cases h
theorem Reps.nox (hT : T.pn = []) : ∀ {ds : List D} {vs : List V}, Reps K T P w H ds vs → D.noxs ds = true
  | _, _, .nil => rfl
  | _, _, .cons h t => by simp only [D.noxs, Rep.nox hT h, Reps.nox hT t, Bool.and_self]
end
mutual
theorem Rep.sw : ∀ {d : D} {v : V}, d.nox = true → Rep K T P w H d v → Rep K (T.sw pn) P w H d v
  | _, _, _, .non => .non
  | _, _, _, .bl b => .bl b
  | _, _, _, .int i => .int i
  | _, _, _, .str x => .str x
  | _, _, n, .tup f h r => .tup f h (Reps.sw n r)
  | _, _, n, .lst f h r => .lst f h (Reps.sw n r)
  | _, _, _, .scr q => .scr q
  | _, _, n, .rcd f hc hx hl h r => .rcd (T := T.sw pn) f hc hx hl h (Reps.sw n r)
  | _, _, _, .ref h => .ref h
  | _, _, n, .exc0 h hc hd => by cases n
  | _, _, n, .exc1 h hc hd fd hk hf hx r => by cases n
theorem Reps.sw : ∀ {ds : List D} {vs : List V}, D.noxs ds = true → Reps K T P w H ds vs → Reps K (T.sw pn) P w H ds vs
  | _, _, _, .nil => .nil
  | _, _, n, .cons h t => by
    simp only [D.noxs, Bool.and_eq_true] at n
    exact .cons (Rep.sw n.1 h) (Reps.sw n.2 t)
end
theorem KvR.sw : ∀ {ds : List (D × D)} {vs : List (Key × V)}, (ds.all fun p => p.2.nox) = true → KvR K T P w H ds vs → KvR K (T.sw pn) P w H ds vs
  | _, _, _, .nil => .nil
  | _, _, n, .cons hk h t => by
    simp only [List.all_cons, Bool.and_eq_true] at n
    exact .cons hk (h.sw n.1) (KvR.sw n.2 t)
theorem FsR.sw : ∀ {ds : List (Nat × D)} {vs : List (Str × V)}, (ds.all fun p => p.2.nox) = true → FsR K T P w H ds vs → FsR K (T.sw pn) P w H ds vs
  | _, _, _, .nil => .nil
  | _, _, n, .cons h t => by
    simp only [List.all_cons, Bool.and_eq_true] at n
    exact .cons (T := T.sw pn) (h.sw n.1) (FsR.sw n.2 t)
theorem KvR.nox (hT : T.pn = []) : ∀ {ds : List (D × D)} {vs : List (Key × V)}, KvR K T P w H ds vs → (ds.all fun p => p.2.nox) = true
  | _, _, .nil => rfl
  | _, _, .cons hk h t => by simp only [List.all_cons, h.nox hT, KvR.nox hT t, Bool.and_self]
theorem FsR.nox (hT : T.pn = []) : ∀ {ds : List (Nat × D)} {vs : List (Str × V)}, FsR K T P w H ds vs → (ds.all fun p => p.2.nox) = true
  | _, _, .nil => rfl
  | _, _, .cons h t => by simp only [List.all_cons, h.nox hT, FsR.nox hT t, Bool.and_self]
theorem CellR.sw {a : Addr} {c : Cell} (n : c.nox = true) (h : CellR K T P w H a c) : CellR K (T.sw pn) P w H a c := by
  cases c with
  | lst xs => obtain ⟨vs, h1, h2⟩ := h; exact ⟨vs, h1, h2.sw n⟩
  | dct kvs => obtain ⟨vs, h1, h2⟩ := h; exact ⟨vs, h1, h2.sw n⟩
  | ins c fs => obtain ⟨dx, vs, k, h1, h2, h3⟩ := h; exact ⟨dx, vs, k, h1, h2.sw n, h3⟩
  | dead => trivial
theorem SRel.nox (hT : T.pn = []) (S : SRel K T P w H s) : ∀ c ∈ s, c.nox = true := fun c hc => by
  obtain ⟨i, hi⟩ := List.getElem?_of_mem hc
  by_cases e : c = .dead
  · rw [e]; rfl
  obtain ⟨a, ha⟩ := S.addr hi
  have q := (S.cell i c a hi ha e).2
  cases c with
  | lst xs => obtain ⟨vs, h1, h2⟩ := q; exact h2.nox hT
  | dct kvs => obtain ⟨vs, h1, h2⟩ := q; exact h2.nox hT
  | ins c fs => obtain ⟨dx, vs, k, h1, h2, h3⟩ := q; exact h2.nox hT
  | dead => rfl
theorem SRel.sw (n : ∀ c ∈ s, c.nox = true) (S : SRel K T P w H s) : SRel K (T.sw pn) P w H s :=
  ⟨S.len, fun i c a h1 h2 nd => ⟨(S.cell i c a h1 h2 nd).1, (S.cell i c a h1 h2 nd).2.sw (n c (List.mem_of_getElem? h1))⟩, S.inj, S.fz, S.all⟩
theorem ERel.sw {env : Env} {σ : L2.St} (n : ∀ i d, getE env i = some d → d.nox = true) (E : ERel K T P w H env σ) : ERel K (T.sw pn) P w H env σ :=
  ⟨E.1, fun i d h => let ⟨v, h1, h2⟩ := E.2 i d h; ⟨v, h1, h2.sw (n i d h)⟩⟩
theorem ERel.nox (hT : T.pn = []) {env : Env} {σ : L2.St} (E : ERel K T P w H env σ) : ∀ i d, getE env i = some d → d.nox = true := fun i d h => by
  obtain ⟨v, _, h2⟩ := E.2 i d h
  exact h2.nox hT
theorem sw_back (hT : T.pn = []) : (T.sw pn).sw [] = T := by
  cases T
  cases hT
  rfl
end
/-! ### what the top says of exceptions -/
structure XTab (K : PySem.W.Frag) (T : Tab) (P : Prog) : Prop where
  oex : ∀ c k f, P.cls c = some k → k.exn = true → k.flds = [f] → OexC K (ca K T c) ∧ PySem.W.findIn K (.ref (ca K T c)) (T.anm f) = some none
  own : ∀ c k, P.cls c = some k → k.exn = true → k.flds = [] → PySem.W.excIn K (ca K T c) He.veBase "ValueError.__new__" = true ∧ PySem.W.keepIn K (.ref (ca K T c)) = true
  sub : ∀ c k, P.cls c = some k → k.exn = true → PySem.W.subIn K (.ref (ca K T c)) (.type "BaseException") = some true ∧ PySem.W.typeIn K (.ref (ca K T c)) = some (.type "type")
  xf : ∀ c k, P.cls c = some k → k.exn = true → XfC K (ca K T c) ∧ ExcC K (ca K T c)
  exm : ∀ c k c' k', P.cls c = some k → k.exn = true → P.cls c' = some k' → k'.exn = true → PySem.W.exmOne K (.ref (ca K T c)) (.ref (ca K T c')) = some (P.sub c c') ∧ PySem.W.kitOne K (.ref (ca K T c)) (.ref (ca K T c')) = some (P.sub c c')
  val : ∀ c k, P.cls c = some k → k.exn = true → PySem.W.kitOne K (.ref (ca K T c)) (.type "ValueError") = some true
/-- what the __init__ of an exception of one field promises -/
def spI (C : Addr) (f : Str) : Sp := fun vs H Q E => ∃ a y, vs = [V.ref a, y] ∧ H a = some (exo a C none) ∧ ∀ d, H d = none → d ≠ a → Q .non (upd (upd H d (exd d [(f, y)])) a (exo a C (some d)))
section
variable {T : Tab} {P : Prog} {X : Cx} {W : WX} {pos p pos' : Pos} {es : List Expr} {e : Expr} {fl : Env → Sto → R (List D)}
/-- the end of a raise: the exception's dict stands for good -/
theorem xr_new {w : Wd} {H : Hp} {s : Sto} {c : Nat} {k : Cls} {f : Nat} {x : D} {v : V} {d : Addr} (S : SRel X.K T P w H s) (hk : P.cls c = some k) (hf : k.flds = [f]) (hd : H d = none) (r : Rep X.K T P w H x v) :
    Le w (w.ice d) H (upd H d (.xd [(T.anm f, v)])) ∧ SRel X.K T P (w.ice d) (upd H d (.xd [(T.anm f, v)])) s ∧ XR X.K T P (w.ice d) (upd H d (.xd [(T.anm f, v)])) c [x] (.ref (ca X.K T c)) (some d) := by
  have l := le_ice (o := .xd [(T.anm f, v)]) S hd
  exact ⟨l, S.ice hd, rfl, .inr ⟨x, v, d, k, f, rfl, rfl, .inr rfl, hk, hf, upd_same, r.mono l⟩⟩
theorem ms_raise1 {k c f : Nat} {kc : Cls} {x : Str} {fI : Addr} {fd : FuncData} {ps : List Str} (O : XTab X.K T P) (hk : P.cls c = some kc) (hx : kc.exn = true) (hf : kc.flds = [f]) (hc : X.calm = true) (tk : Takes X W)
    (iC : PySem.W.findIn X.K (.ref (ca X.K T c)) "__init__" = some (some (.ref fI))) (tI : PySem.W.typeIn X.K (.ref fI) = some (.type "function")) (F1 : FnOk X.prog X.w X.K X.mg X.base (L2.CX X.prog X.w) k fI fd ps (spI (ca X.K T c) (T.anm f))) (hr : Room (k + 1) X.A) (hb : Binds X.K fd ps [])
    (hg : Gl X x) (hm : X.mg x = some (.ref (ca X.K T c))) (ha : MA X.K T P X W [e] fl) (hl : ∀ env s xs s', fl env s = .ok xs s' → xs.length = 1) (hdb : (x == ("__debug__" : Str)) = false) (he : starEach [e] X.env = (false, eval e X.env) :: starEach [] X.env) :
    MS X.K T P X W (.Raise (some (.Call (.Name x p) [e] [] pos)) none pos') (fun env s => (fl env s).sr env fun vs s => .ex c vs env s) := by
  have hp : Passes (L2.CX X.prog X.w) X (fun _ _ _ => False) := fun pins σ H s e s' I z => by
    obtain ⟨_, _, _, _, _, _, _, _, _, _, _, _, z⟩ := z
    exact z.elim
  refine (ps_raise hc tk (pmk_oex (O.oex _ _ _ hk hx hf).1 iC tI F1 hr hb .nil hp hg hm ha hdb he rfl)).imp fun D σ H q => ?_
  obtain ⟨env, s, w, E, S, o⟩ := q
  dsimp only at o
  refine ⟨env, s, w, E, S, ?_⟩
  cases r : fl env s with
  | no => rw [r] at o; exact o
  | ex c' fs s1 => rw [r] at o; exact fun cls dd w2 H2 l2 S2 x => o cls dd σ w2 H2 l2 S2 (E.mono l2) x
  | ok ds s1 =>
    rw [r] at o
    simp only [R.sr_ok] at o
    intro vs w1 H1 l1 S1 r1
    have h1 := hl _ _ _ _ r
    match ds, h1, r1 with
    | [d], _, .cons (v := v) rv .nil =>
      refine ⟨(show 1 ≤ 1000 by omega), fun a ha => ⟨a, v, rfl, upd_same, fun d' hd hne => ⟨rfl, d', _, upd_same, by rw [upd_ne hne, upd_same], ?_, ?_⟩⟩⟩
      · by_cases q : d' = a
        · exact absurd q hne
        · rwa [upd_ne q] at hd
      · have hd1 : H1 d' = none := by rwa [upd_ne hne] at hd
        have eH : upd (del (upd (upd (upd H1 a (exo a (ca X.K T c) none)) d' (exd d' [(T.anm f, v)])) a (exo a (ca X.K T c) (some d'))) a) d' (.xd [(T.anm f, v)]) = upd H1 d' (.xd [(T.anm f, v)]) := by
          funext b
          by_cases h1 : b = d'
          · rw [h1, upd_same, upd_same]
          · rw [upd_ne h1, upd_ne h1]
            by_cases h2 : b = a
            · rw [h2, del_same, ha]
            · rw [del_ne h2, upd_ne h2, upd_ne h1, upd_ne h2]
        rw [eH]
        obtain ⟨l2, S2, xr⟩ := xr_new S1 hk hf hd1 rv
        exact o _ _ σ _ _ (l1.trans l2) S2 ((E.mono l1).mono l2) xr
theorem ms_raise0 {c : Nat} {kc : Cls} {x : Str} (O : XTab X.K T P) (hk : P.cls c = some kc) (hx : kc.exn = true) (hf : kc.flds = []) (hc : X.calm = true) (tk : Takes X W) (hg : Gl X x) (hm : X.mg x = some (.ref (ca X.K T c))) (hdb : (x == ("__debug__" : Str)) = false) :
    MS X.K T P X W (.Raise (some (.Call (.Name x p) [] [] pos)) none pos') (fun env s => .ex c [] env s) := by
  obtain ⟨q1, q2⟩ := O.own _ _ hk hx hf
  obtain ⟨q3, q4⟩ := O.sub _ _ hk hx
  have mk : PMk X (.Call (.Name x p) [] [] pos) (fun _ H Q => Q (.ref (ca X.K T c)) none H) := by
    intro pins s σ H Q I h
    refine wpAny_Call_Name_kw (ld_glob I hg hm ?_ hdb)
    refine PySem.W.callWith_K0 I.kIn q2 ?_
    obtain ⟨bm, N, nm, qn, bs, hd, sn, sb, ab, col, dd, k0, k1, k2, k3, k5, mN, hC, hN, hni, tl⟩ := exc_obj I.kIn q1
    exact wpAny_call_exc_subT PySem.F.excBase_ValueError tl hC hN hni (fun h' e hm => mk_of I hm (raises_own q3 q4) h (I.hok.gone hm.new)) (Nat.zero_le _)
  refine (ps_raise hc tk mk).imp fun D σ H q => ?_
  obtain ⟨env, s, w, E, S, o⟩ := q
  exact o _ _ σ w H (Le.refl w H) S E ⟨rfl, .inl ⟨rfl, rfl⟩⟩
end
end MP
set_option autoImplicit false
set_option linter.all false
set_option maxRecDepth 10000
set_option maxHeartbeats 1000000
/-! MPq2: try with several clauses, with and without a name. -/
namespace MP
open PySem PySem.Spec PyProof.Rows L2
/-- the ends behind a suite whose name goes -/
def wrapD (o : Option Nat) (D : Ends) : Ends := match o with
  | none => D
  | some i => { nx := fun σ H => D.nx (σ.set i none) H, rt := D.rt, bk := fun σ H => D.bk (σ.set i none) H, ct := fun σ H => D.ct (σ.set i none) H }
def bindS (o : Option Nat) (a : Addr) (σ : L2.St) : L2.St := match o with
  | none => σ
  | some i => σ.set i (some (.ref a))
abbrev HdT := Value × (Option Nat × (Addr → Obj → Value → Option Addr → TS))
/-- what the clauses wish of an exception -/
def wMix (K : PySem.W.Frag) (Wo : WX) (D : Ends) : List HdT → WX
  | [] => Wo
  | (c, o, ts) :: r => fun cls d σ H => ∃ b, PySem.W.exmOne K cls c = some b ∧ (b = true → ∀ a oe, Zc cls d oe → (∃ vs, oe.data = .fields vs) → H a = none → ts a oe cls d (wrapD o D) (bindS o a σ) H) ∧ (b = false → wMix K Wo D r cls d σ H)
def nmOk (X : Cx) : Option Nat → Option Str → Prop
  | none, none => True
  | some i, some n => X.N[i]? = some n ∧ X.env.kindOf n = some .local
  | _, _ => False
inductive HdsM (X : Cx) : List ExceptHandler → List HdT → Prop
  | nil : HdsM X [] []
  | cons {x : Str} {c : Value} {o : Option Nat} {no : Option Str} {ts : Addr → Obj → Value → Option Addr → TS} {st : Stmt} {sts : List Stmt} {np p' : Pos} {hds : List ExceptHandler} {l : List HdT} (hc : Names X x c) (hn : nmOk X o no)
      (hsu : ∀ (a : Addr) (oe : Obj) (cls : Value) (d : Option Addr) (pn : List (Addr × Obj)), Zc cls d oe → (∃ vs, oe.data = .fields vs) → PSs (X.suite a ((a, oe) :: pn)) (st :: sts) (ts a oe cls d)) (r : HdsM X hds l) :
      HdsM X (.ExceptHandler (some (.Name x np)) no (st :: sts) p' :: hds) ((c, o, ts) :: l)
section
variable {X : Cx} {body : List Stmt} {h0 : ExceptHandler} {hds : List ExceptHandler} {l : List HdT} {pos : Pos} {tb : WX → TS} {Wo : WX}
theorem try_mix (hs : X.stack = X.env :: X.outer) (hf : X.env.frame = some X.env.locals) (hN : X.N.Nodup) (tk : Takes X Wo)
    (hb : ∀ (W : WX) (pn : List (Addr × Obj)) (xe : Value → Shared → Prop), Takes (X.tr pn xe) W → PassesOwn (model X.prog X.w) X.A X.env xe → PSs (X.tr pn xe) body (tb W))
    (hh : HdsM X (h0 :: hds) l) : PS X (.Try body (h0 :: hds) [] [] pos) (fun D σ H => tb (wMix X.K Wo D l) D σ H) := by
  refine ⟨fun pins s σ H D I hyp => wpAny_Try_except ?_⟩
  have okX := I.ok
  have hfr : X.A.frames = some (X.env :: X.outer) := by rw [okX.frames, hs]
  have key : ∀ (u : Value) (t : Shared), XE (X.tr (X.pn ++ pins) fun _ _ => True) (wMix X.K Wo D l) u t → wpAny (model X.prog X.w) X.A (noteFrame u X.env) (fun _ t2 => wpAny (model X.prog X.w) X.A (setFlight u none) (fun _ t3 => wpAny (model X.prog X.w) X.A (handleBy u X.env (h0 :: hds)) (SP X pins D) X.xe t3) X.xe t2) X.xe t := by
    intro u t xx
    obtain ⟨e, G, s1, ps, σ1, H1, C, dd, rfl, J0, inG, ups, sk, free, osq, brs, want⟩ := xx
    have J1 : Inv X pins σ1 H1 s1 := Inv.ofTry (xe := fun _ _ => True) J0 okX
    have sk' : Sky G (X.env :: X.outer) e (Zc C dd) X.env.locals t.heap := by rw [← hs]; exact sk
    refine Sky.land Zc.steady hfr hf sk' fun g3 f3 u3 => ?_
    have J3 : Inv X pins σ1 H1 { t with heap := g3 } := J1.landed inG f3.1 (ups.trans u3) osq brs
    obtain ⟨o3, v3, at3, z3, d3⟩ := f3.there
    have off : e ∉ frs (X.env :: X.outer) := fun hm => by
      obtain ⟨_, q, hq, nq⟩ := f3.2.2.1.mem hm
      rw [at3] at hq
      cases hq
      exact nq _ d3
    have offL : e ≠ X.env.locals := fun z => off (List.mem_filterMap.mpr ⟨X.env, List.mem_cons_self, by rw [hf, z]⟩)
    have offF : e ∉ X.fs := fun hm => by
      obtain ⟨n, hn, q⟩ := List.mem_filterMap.mp hm
      exact off (List.mem_filterMap.mpr ⟨n, List.mem_cons_of_mem _ hn, q⟩)
    have S3 := J3.suite at3 d3 free offL offF
    have LT : PySem.W.Looks (model X.prog X.w) g3 (typeOf (.ref e)) C := fun A Q E s k q => wpAny_typeOf_ref (k _ _ at3) (by rw [z3.1]; exact q)
    have main : ∀ {hs' : List ExceptHandler} {l' : List HdT}, HdsM X hs' l' → wMix X.K Wo D l' C dd σ1 H1 → wpAny (model X.prog X.w) X.A (handleBy (.ref e) X.env hs') (SP X pins D) X.xe { t with heap := g3 } := by
      intro hs' l' hk
      induction hk with
      | nil =>
        intro w
        refine wpAny_handleBy_nil ?_
        obtain ⟨_, _, _, ob, fv, tr, _, _, atb, _, fd, f1, _⟩ := id f3
        unfold PySem.passOn
        refine wpAny_bind (wpAny_field atb fd f1 ?_)
        rw [if_neg (show ¬ ((Value.ref tr == Value.none) = true) from by simp)]
        have leave : wpAny (model X.prog X.w) X.A (setFlight (.ref e) X.env.frame) (fun _ t4 => wpAny (model X.prog X.w) X.A (throw (.ref e) : Sem Flow) (SP X pins D) X.xe t4) X.xe { t with heap := g3 } := by
          rw [hf]
          exact HandSPX.setFlight_upZ f3 fun g4 held u4 => wpAny_throw (tk _ _ ⟨e, G, s1, pins, σ1, H1, C, dd, rfl, J1, inG, (ups.trans u3).trans u4, .inr (.inr (by rw [hs]; exact held)), free, osq, brs, w⟩)
        first
          | exact wpAny_bind (wpAny_pure (wpAny_bind leave))
          | exact wpAny_bind leave
      | @cons x c o no ts st sts np p' hds2 l2 hc hn hsu r ih =>
        intro w
        obtain ⟨b, isb, yes, no_⟩ := w
        have LM := PySem.W.exm_one (M := model X.prog X.w) (J3.kIn) LT isb
        refine wpAny_handleBy_cons (codeAny_handlers_test ?_) (by intro q; cases q)
        have look : ∀ {Q : Value → Shared → Prop} {E : Value → Shared → Prop}, Q c { t with heap := g3 } → wpAny (model X.prog X.w) (X.A.mark (some (.ref e))) (eval (.Name x np) X.env) Q E { t with heap := g3 } := by
          intro Q E q
          obtain ⟨hg, hdb, hm | ⟨hm, hv, hnn⟩⟩ := hc
          · exact ld_glob (X := X.suite e ((e, o3) :: (X.pn ++ pins))) S3 hg hm q hdb
          · exact ld_blt (X := X.suite e ((e, o3) :: (X.pn ++ pins))) S3 hg hm hv q hnn hdb
        refine look (LM.here ?_)
        cases b with
        | false => exact ih (no_ rfl)
        | true =>
          cases o with
          | none =>
            cases no with
            | some _ => exact hn.elim
            | none =>
              refine codeAny_handlers_suite (HandSPX.lands_againZ f3 fun g4 f4 u4 => ?_)
              have J4 : Inv X pins σ1 H1 { t with heap := g4 } := J1.landed inG f4.1 ((ups.trans u3).trans u4) osq brs
              obtain ⟨o4, v4, at4, z4, d4⟩ := f4.there
              have S4 := J4.suite at4 d4 free offL offF
              refine wpAny_mono ((hsu e o4 C dd (X.pn ++ pins) z4 ⟨_, d4⟩).run [] _ σ1 H1 _ S4 (yes rfl e o4 z4 ⟨_, d4⟩ free)) (fun fl t6 sp => ?_) (fun _ _ z => False.elim z)
              cases fl with
              | ret u =>
                obtain ⟨y, σ6, H6, S6, r6, q6⟩ := sp
                exact ⟨y, σ6, H6, S6.unsuite okX, r6, q6⟩
              | next =>
                obtain ⟨σ6, H6, S6, q6⟩ := sp
                exact ⟨σ6, H6, S6.unsuite okX, q6⟩
              | brk =>
                obtain ⟨σ6, H6, S6, q6⟩ := sp
                exact ⟨σ6, H6, S6.unsuite okX, q6⟩
              | cont =>
                obtain ⟨σ6, H6, S6, q6⟩ := sp
                exact ⟨σ6, H6, S6.unsuite okX, q6⟩
          | some i =>
            cases no with
            | none => exact hn.elim
            | some n =>
              obtain ⟨hi, hln⟩ := hn
              refine codeAny_handlers_suite_as (HandSPX.lands_againZ f3 fun g4 f4 u4 => ?_)
              have J4 : Inv X pins σ1 H1 { t with heap := g4 } := J1.landed inG f4.1 ((ups.trans u3).trans u4) osq brs
              obtain ⟨o4, v4, at4, z4, d4⟩ := f4.there
              have S4 := J4.suite at4 d4 free offL offF
              refine store_ok (X := X.suite e ((e, o4) :: (X.pn ++ pins))) (v := .ref e) S4 hN hi (.inl hln) rfl (fun t5 S5 => ?_) (.inr hln)
              refine wpAny_mono ((hsu e o4 C dd (X.pn ++ pins) z4 ⟨_, d4⟩).run [] t5 _ H1 _ S5 (yes rfl e o4 z4 ⟨_, d4⟩ free)) (fun fl t6 sp => ?_) (fun _ _ z => False.elim z)
              have back : ∀ {σ6 : L2.St} {H6 : Hp} {Q : Shared → Prop}, Inv (X.suite e ((e, o4) :: (X.pn ++ pins))) [] σ6 H6 t6 → (∀ t7, Inv X pins (σ6.set i none) H6 t7 → Q t7) →
                  wpAny (model X.prog X.w) X.A (do bindName X.env n .none; unbindBehindTheSuite X.env n p') (fun _ t7 => Q t7) X.xe t6 := fun {σ6 H6 Q} S6 hq => gone_ok (S6.unsuite okX) hN hi hln hq
              cases fl with
              | ret u =>
                obtain ⟨y, σ6, H6, S6, r6, q6⟩ := sp
                exact back S6 fun t7 J7 => ⟨y, _, H6, J7, r6, q6⟩
              | next =>
                obtain ⟨σ6, H6, S6, q6⟩ := sp
                exact back S6 fun t7 J7 => ⟨_, H6, J7, q6⟩
              | brk =>
                obtain ⟨σ6, H6, S6, q6⟩ := sp
                exact back S6 fun t7 J7 => ⟨_, H6, J7, q6⟩
              | cont =>
                obtain ⟨σ6, H6, S6, q6⟩ := sp
                exact back S6 fun t7 J7 => ⟨_, H6, J7, q6⟩
    exact main hh want
  refine wpAny_mono ((hb (wMix X.K Wo D l) (X.pn ++ pins) (fun u t => wpAny (model X.prog X.w) X.A (noteFrame u X.env) (fun _ t2 => wpAny (model X.prog X.w) X.A (setFlight u none) (fun _ t3 => wpAny (model X.prog X.w) X.A (handleBy u X.env (h0 :: hds)) (SP X pins D) X.xe t3) X.xe t2) X.xe t) (fun u t xx => key u t ?_) PassesOwn.looking).run [] s σ H D (I.toTry _) hyp) (fun fl t1 sp => ?_) (fun _ _ z => z)
  · obtain ⟨e, G, s1, ps, σ1, H1, C, dd, q1, J0, rest⟩ := xx
    exact ⟨e, G, s1, [], σ1, H1, C, dd, q1, Inv.toTry (Inv.ofTry J0 okX) _, rest⟩
  · cases fl with
    | next =>
      obtain ⟨σ1, H1, J, q⟩ := sp
      exact wpAny_execs_nil ⟨σ1, H1, J.ofTry okX, q⟩
    | ret u =>
      obtain ⟨y, σ1, H1, J, r, q⟩ := sp
      exact ⟨y, σ1, H1, J.ofTry okX, r, q⟩
    | brk =>
      obtain ⟨σ1, H1, J, q⟩ := sp
      exact ⟨σ1, H1, J.ofTry okX, q⟩
    | cont =>
      obtain ⟨σ1, H1, J, q⟩ := sp
      exact ⟨σ1, H1, J.ofTry okX, q⟩
end
end MP
set_option autoImplicit false
set_option linter.all false
set_option maxRecDepth 10000
set_option maxHeartbeats 1000000
/-! MPq3: dicts. -/
namespace MP
open PySem PySem.Spec PyProof.Rows L2
section
variable {K : PySem.W.Frag} {T : Tab} {P : Prog} {w w' : Wd} {H H' : Hp} {s : Sto}
theorem key_inj {a b : D} {k : Key} (h : keyD a = some k) (h' : keyD b = some k) : a = b := by
  cases a <;> cases b <;> simp [keyD] at h h' <;> subst h <;> simp at h'
  · rw [h']
  · rw [h']
theorem key_ok {d : D} (h : keyOk d = true) : ∃ k, keyD d = some k := by cases d <;> first | exact ⟨_, rfl⟩ | cases h
theorem key_rep {d : D} {k : Key} {v : V} (h : keyD d = some k) (r : Rep K T P w H d v) : v = kV k := by
  cases d <;> simp [keyD] at h <;> subst h <;> cases r <;> rfl
theorem KvR.look {d : D} {k : Key} (hk : keyD d = some k) : ∀ {ds : List (D × D)} {ks : List (Key × V)}, KvR K T P w H ds ks → (∀ e, lookD d ds = some e → ∃ v, valV ks k = some v ∧ Rep K T P w H e v) ∧ (lookD d ds = none → valV ks k = none)
  | _, _, .nil => ⟨fun e h => by simp [lookD] at h, fun _ => rfl⟩
  | _, _, .cons (d := a) (e := e0) (k := k0) (v := v0) hk0 h t => by
    obtain ⟨h1, h2⟩ := KvR.look hk t
    by_cases q : a = d
    · subst q
      have e1 : k0 = k := by rw [hk] at hk0; cases hk0; rfl
      refine ⟨fun e h3 => ?_, fun h3 => ?_⟩
      · have h3 : (if a = a then some e0 else lookD a _) = some e := h3
        rw [if_pos rfl] at h3
        cases h3
        exact ⟨v0, valV_pos e1, h⟩
      · simp [lookD] at h3
    · have e1 : ¬ k0 = k := fun z => q (key_inj (z ▸ hk0) hk)
      refine ⟨fun e h3 => ?_, fun h3 => ?_⟩
      · simp only [lookD, if_neg q] at h3
        rw [valV_neg e1]
        exact h1 e h3
      · simp only [lookD, if_neg q] at h3
        rw [valV_neg e1]
        exact h2 h3
theorem KvR.any {d : D} {k : Key} (hk : keyD d = some k) : ∀ {ds : List (D × D)} {ks : List (Key × V)}, KvR K T P w H ds ks → (ds.any fun p => decide (p.1 = d)) = (ks.any fun p => decide (p.1 = k))
  | _, _, .nil => rfl
  | _, _, .cons (d := a) (k := k0) hk0 h t => by
    simp only [List.any_cons, KvR.any hk t]
    congr 1
    by_cases q : a = d
    · subst q
      have e1 : k0 = k := by rw [hk] at hk0; cases hk0; rfl
      simp [e1]
    · have e1 : ¬ k0 = k := fun z => q (key_inj (z ▸ hk0) hk)
      simp [q, e1]
theorem KvR.map {d e : D} {k : Key} {v : V} (hk : keyD d = some k) (r : Rep K T P w H e v) : ∀ {ds : List (D × D)} {ks : List (Key × V)}, KvR K T P w H ds ks → KvR K T P w H (ds.map fun p => if p.1 = d then (p.1, e) else p) (ks.map fun p => if p.1 = k then (p.1, v) else p)
  | _, _, .nil => .nil
  | _, _, .cons (d := a) (k := k0) hk0 h t => by
    simp only [List.map_cons]
    by_cases q : a = d
    · subst q
      have e1 : k0 = k := by rw [hk] at hk0; cases hk0; rfl
      rw [if_pos rfl, if_pos e1]
      exact .cons hk0 r (KvR.map hk r t)
    · have e1 : ¬ k0 = k := fun z => q (key_inj (z ▸ hk0) hk)
      rw [if_neg q, if_neg e1]
      exact .cons hk0 h (KvR.map hk r t)
theorem KvR.app : ∀ {ds es : List (D × D)} {ks js : List (Key × V)}, KvR K T P w H ds ks → KvR K T P w H es js → KvR K T P w H (ds ++ es) (ks ++ js)
  | _, _, _, _, .nil, q => q
  | _, _, _, _, .cons hk h t, q => .cons hk h (KvR.app t q)
theorem KvR.put {d e : D} {k : Key} {v : V} {ds : List (D × D)} {ks : List (Key × V)} (hk : keyD d = some k) (r : Rep K T P w H e v) (q : KvR K T P w H ds ks) : KvR K T P w H (putD d e ds) (putK ks k v) := by
  unfold putD putK
  rw [KvR.any hk q]
  split
  · exact KvR.map hk r q
  · exact KvR.app q (.cons hk r .nil)
theorem KvR.len : ∀ {ds : List (D × D)} {ks : List (Key × V)}, KvR K T P w H ds ks → ds.length = ks.length
  | _, _, .nil => rfl
  | _, _, .cons hk h t => by simp [KvR.len t]
theorem dctOf_ok {d : D} {x : V} {kvs : List (D × D)} (S : SRel K T P w H s) (r : Rep K T P w H d x) (h : dctOf s d = some kvs) : ∃ i a ks, d = .ref i ∧ x = .ref a ∧ s[i]? = some (.dct kvs) ∧ w.mu[i]? = some a ∧ H a = some (.dK ks) ∧ KvR K T P w H kvs ks := by
  unfold dctOf at h
  split at h
  · rename_i i
    split at h
    · rename_i kvs' hi
      cases h
      cases r with
      | ref hh =>
        obtain ⟨_, ks, h1, h2⟩ := S.cell _ _ _ hi hh (fun z => nomatch z)
        exact ⟨i, _, ks, rfl, rfl, hi, hh, h1, h2⟩
    · cases h
  · cases h
/-- a thing that was none of ours becomes a cell -/
theorem SRel.adopt {p : Addr} {o : HO} {c : Cell} (S : SRel K T P w H s) (h1 : p ∉ w.mu) (h2 : ¬ w.fz p) (hc : c ≠ .dead) (hcell : CellR K T P (w.new p) (upd H p o) p c) : SRel K T P (w.new p) (upd H p o) (s ++ [c]) := by
  have lr : Lr w (w.new p) H (upd H p o) := ⟨⟨[p], rfl⟩, fun _ q => q, rfl, fun a q => upd_ne fun e => h2 (e ▸ q)⟩
  have idx : ∀ {i : Nat} {c' : Cell} {b : Addr}, (s ++ [c])[i]? = some c' → (w.mu ++ [p])[i]? = some b → (i < s.length ∧ s[i]? = some c' ∧ w.mu[i]? = some b) ∨ (i = s.length ∧ c' = c ∧ b = p) := fun {i c' b} q1 q2 => by
    have hl := S.len
    by_cases hi : i < s.length
    · rw [List.getElem?_append_left hi] at q1
      rw [List.getElem?_append_left (by omega)] at q2
      exact .inl ⟨hi, q1, q2⟩
    · have z := (List.getElem?_eq_some_iff.mp q1).1
      simp at z
      have z' : i = s.length := by omega
      subst z'
      rw [List.getElem?_append_right (by omega)] at q1 q2
      simp [hl] at q1 q2
      exact .inr ⟨rfl, q1.symm, q2.symm⟩
  refine ⟨by simp [Wd.new, S.len], fun i c' b q1 q2 nd => ?_, fun i j c1 c2 b q1 q2 n1 n2 m1 m2 => ?_, fun b q => upd_some (S.fz b q), fun b q => ?_⟩
  · rcases idx q1 q2 with ⟨hi, e1, e2⟩ | ⟨rfl, rfl, rfl⟩
    · obtain ⟨n, z⟩ := S.cell i c' b e1 e2 nd
      exact ⟨n, z.mon lr (upd_ne fun e => h1 (e ▸ List.mem_of_getElem? e2))⟩
    · exact ⟨h2, hcell⟩
  · rcases idx q1 m1 with ⟨hi, e1, e2⟩ | ⟨hi, ec, eb⟩ <;> rcases idx q2 m2 with ⟨hj, e3, e4⟩ | ⟨hj, ec', eb'⟩
    · exact S.inj i j c1 c2 b e1 e3 n1 n2 e2 e4
    · subst eb'; exact absurd (List.mem_of_getElem? e2) h1
    · subst eb; exact absurd (List.mem_of_getElem? e4) h1
    · omega
  · rcases List.mem_append.mp q with q | q
    · exact upd_some (S.all b q)
    · rw [List.mem_singleton.mp q, upd_same]; exact fun z => nomatch z
end
section
variable {T : Tab} {P : Prog} {X : Cx} {W : WX} {a b e : Expr} {fa fb fe : Env → Sto → R D} {pos pos' : Pos}
theorem me_dget (hu : X.A.units + 1 < cLine) (ha : ME X.K T P X W a fa) (hb : ME X.K T P X W b fb) (hs : NoSl b) : ME X.K T P X W (.Subscript a b pos) (fun env s => (fa env s).bind fun x s => (fb env s).bind fun y s => .opt (dgetD s x y) s) := by
  refine (pe_dget hu ha hb hs).imp fun σ H Q q => ?_
  obtain ⟨env, s, w, E, S, o⟩ := q
  refine ⟨env, s, w, E, S, o.bind.mono fun x _ H1 _ q => ?_⟩
  obtain ⟨w1, d, s1, l1, S1, r1, o1⟩ := q
  refine ⟨env, s1, w1, E.mono l1, S1, o1.bind.mono fun y _ H2 _ q => ?_⟩
  obtain ⟨w2, d2, s2, l2, S2, r2, o2⟩ := q
  cases z : dgetD s2 d d2 with
  | none => rw [z] at o2; exact o2.elim
  | some u =>
    rw [z] at o2
    unfold dgetD at z
    split at z
    · rename_i kvs hk
      split at z
      · rename_i hok
        obtain ⟨i, p, ks, rfl, rfl, h1, h2, h3, h4⟩ := dctOf_ok S2 (r1.mono l2) hk
        obtain ⟨k, hkk⟩ := key_ok hok
        obtain ⟨v, h5, h6⟩ := (KvR.look hkk h4).1 u z
        have ey := key_rep hkk r2
        subst ey
        exact ⟨p, v, rfl, by have := DGet.k (k := k) h3; rw [h5] at this; exact this, o2.here S2 h6⟩
      · cases z
    · cases z
theorem ms_dput (hu : X.A.units + 1 < cLine) (ha : ME X.K T P X W a fa) (hb : ME X.K T P X W b fb) (he : ME X.K T P X W e fe) (hs : swapsWith e (some (.Subscript a b pos')) pos.line X.env = pure false) :
    MS X.K T P X W (.Assign [.Subscript a b pos'] e pos) (fun env s => (fe env s).sr env fun v s => (fa env s).sr env fun o s => (fb env s).sr env fun y s => opt2 (dputD s o y v) fun s => .nx env s) := (ps_dput hu ha hb he hs).imp fun De σ H q => by
  obtain ⟨env, s, w, E, S, o⟩ := q
  dsimp only at o
  refine ⟨env, s, w, E, S, (OutS.sr E o).mono fun v w1 H1 _ q => ?_⟩
  obtain ⟨w1, d, s1, l1, S1, r1, o1⟩ := q
  have E1 := E.mono l1
  refine ⟨env, s1, w1, E1, S1, (OutS.sr E1 o1).mono fun x _ H2 _ q => ?_⟩
  obtain ⟨w2, d2, s2, l2, S2, r2, o2⟩ := q
  have E2 := E1.mono l2
  refine ⟨env, s2, w2, E2, S2, (OutS.sr E2 o2).mono fun y _ H3 _ q => ?_⟩
  obtain ⟨w3, d3, s3, l3, S3, r3, o3⟩ := q
  have E3 := E2.mono l3
  have r2' := r2.mono l3
  have r1' := (r1.mono l2).mono l3
  cases z : dputD s3 d2 d3 d with
  | none => rw [z] at o3; exact o3.elim
  | some s4 =>
    rw [z] at o3
    simp only [opt2_some] at o3
    unfold dputD at z
    split at z
    · rename_i p
      split at z
      · rename_i kvs hp
        split at z
        · rename_i hok
          cases z
          simp only [Bool.and_eq_true, decide_eq_true_eq] at hok
          cases r2' with
          | ref hh =>
            obtain ⟨_, ks, hv, rr⟩ := S3.cell _ _ _ hp hh (fun z => nomatch z)
            obtain ⟨k, hkk⟩ := key_ok hok.1
            have ey := key_rep hkk r3
            subst ey
            have lp := le_put (o := .dK (putK ks k v)) S3 hp hh (fun z => nomatch z)
            have hlen : ks.length < sizeLine := by rw [← rr.len, ← line_eq]; exact hok.2
            exact ⟨_, _, rfl, DPut.k hv hlen, o3 σ w3 _ lp (S3.put hp hh (fun z => nomatch z) (fun z => nomatch z) ⟨_, upd_same, (rr.put hkk r1').mono lp⟩) (E3.mono lp)⟩
        · cases z
      · cases z
    · cases z
/-- k in d, k not in d -/
theorem din_ok {w : Wd} {H : Hp} {s : Sto} {d y : D} {x v : V} {r : Bool} (S : SRel X.K T P w H s) (r1 : Rep X.K T P w H d x) (r2 : Rep X.K T P w H y v) (h : dinD s d y = some r) : ∃ a o, x = .ref a ∧ DGet H a v o ∧ o.isSome = r := by
  unfold dinD at h
  split at h
  · rename_i kvs hk
    split at h
    · rename_i hok
      obtain ⟨i, p, ks, rfl, rfl, h1, h2, h3, h4⟩ := dctOf_ok S r1 hk
      obtain ⟨k, hkk⟩ := key_ok hok
      have ey := key_rep hkk r2
      subst ey
      refine ⟨p, _, rfl, DGet.k (k := k) h3, ?_⟩
      cases h
      cases z : lookD y kvs with
      | none => rw [(KvR.look hkk h4).2 z]; rfl
      | some u => obtain ⟨v, h5, _⟩ := (KvR.look hkk h4).1 u z; rw [h5]; rfl
    · cases h
  · cases h
/-! ### displays -/
abbrev FE' := Env → Sto → R D
def trsOf (K : PySem.W.Frag) (T : Tab) (P : Prog) (W : WX) : List V → List FE' → List (TE × TE)
  | k :: ks, f :: fs => (tC k, tG K T P (Rep K T P) f W) :: trsOf K T P W ks fs
  | _, _ => []
def listF' : List FE' → Env → Sto → R (List D)
  | [], _, s => .ok [] s
  | f :: fs, env, s => (f env s).bind fun x s => (listF' fs env s).bind fun xs s => .ok (x :: xs) s
theorem pairs_ok {K : PySem.W.Frag} {σ : L2.St} {env : Env} : ∀ (ks : List V) (fs : List FE') {s : Sto} {w : Wd} {H : Hp} {Q : List (V × V) → Hp → Prop}, ks.length = fs.length → ERel K T P w H env σ → SRel K T P w H s → Out K T P (Reps K T P) w H σ W (fun vs H' => Q (ks.zip vs) H') (listF' fs env s) → tPairs (trsOf K T P W ks fs) σ H Q
  | [], [], s, w, H, Q, _, E, S, o => o [] w H (Le.refl w H) S .nil
  | [], _ :: _, _, _, _, _, h, _, _, _ => by cases h
  | _ :: _, [], _, _, _, _, h, _, _, _ => by cases h
  | k :: ks, f :: fs, s, w, H, Q, h, E, S, o => by
    show tG K T P (Rep K T P) f W σ H _
    simp only [listF'] at o
    refine ⟨env, s, w, E, S, o.bind.mono fun y _ H1 _ q => ?_⟩
    obtain ⟨w1, d, s1, l1, S1, r1, o1⟩ := q
    refine pairs_ok ks fs (by simpa using h) (E.mono l1) S1 (o1.bind.mono fun vs _ H2 _ q => ?_)
    obtain ⟨w2, ds, s2, l2, S2, r2, o2⟩ := q
    exact o2 (y :: vs) w2 H2 (Le.refl _ _) S2 (.cons (r1.mono l2) r2)
theorem merge_ok {K : PySem.W.Frag} {w : Wd} {H : Hp} : ∀ (ks : List D) (ys : List D) (kk : List Key) (vs : List V) (acc : List (D × D)) (acc' : List (Key × V)), ks.map keyD = kk.map some → ks.length = ys.length → Reps K T P w H ys vs → KvR K T P w H acc acc' →
    KvR K T P w H ((ks.zip ys).foldl (fun acc p => putD p.1 p.2 acc) acc) (mergeK acc' (kk.zip vs))
  | [], _, [], _, _, _, _, _, _, q => by simpa [mergeK] using q
  | [], _, _ :: _, _, _, _, h, _, _, _ => by cases h
  | _ :: _, _, [], _, _, _, h, _, _, _ => by cases h
  | _ :: _, [], _ :: _, _, _, _, _, h, _, _ => by cases h
  | k :: ks, y :: ys, kk :: kks, _, acc, acc', h, hl, .cons (v := v) (vs := vs) r rs, q => by
    simp only [List.map_cons, List.cons.injEq] at h
    exact merge_ok ks ys kks vs _ _ h.2 (by simpa using hl) rs (q.put h.1 r)
theorem out_bind0 {α β γ δ : Type} {K : PySem.W.Frag} {rel : Wd → Hp → α → β → Prop} {rel2 : Wd → Hp → γ → δ → Prop} {w w0 : Wd} {H H0 : Hp} {σ : L2.St} {Q : δ → Hp → Prop} {r : R α} {k : α → Sto → R γ} (l0 : Le w w0 H H0) (h : Out K T P rel2 w H σ W Q (r.bind k)) :
    Out K T P rel w0 H0 σ W (fun v H' => ∃ w' d s', Le w0 w' H0 H' ∧ SRel K T P w' H' s' ∧ rel w' H' d v ∧ Out K T P rel2 w H σ W Q (k d s')) r := by
  cases r with
  | ok d s' => exact fun v w2 H2 l2 S2 r2 => ⟨w2, d, s', l2, S2, r2, h⟩
  | ex c fs s' => exact Out.later (rel := rel2) (Q := Q) (r := (.ex c fs s' : R γ)) l0 h
  | no => exact h
theorem me_disp {ks : List D} {kk : List Key} {keys : List (Option Expr)} {values : List Expr} {fs : List FE'} (hp : PPs X pos keys values (trsOf X.K T P W (kk.map kV) fs)) (hk : ks.map keyD = kk.map some) (hall : keys.all (·.isSome) = true) (hl : keys.length = values.length) (h0 : keys ≠ []) (h15 : keys.length ≤ 15) (hkl : ks.length = keys.length) (hfl : fs.length = ks.length) :
    ME X.K T P X W (.Dict keys values pos) (fun env s => (listF' fs env s).bind fun ys s => if ks.all keyOk && decide (ks.length = ys.length) then .ok (.ref s.length) (s ++ [.dct ((ks.zip ys).foldl (fun acc p => putD p.1 p.2 acc) [])]) else .no) := by
  have hkk : kk.length = ks.length := by have := congrArg List.length hk; simpa using this.symm
  refine (pe_disp hp hall hl h0 h15).imp fun σ H Q q => ?_
  obtain ⟨env, s, w, E, S, o⟩ := q
  dsimp only at o
  intro p hpn
  have n1 := S.out hpn
  have n2 := S.fresh hpn
  obtain ⟨lr, S'⟩ := S.aside (o := .dK []) n1 n2
  have l0 : Le w w H (upd H p (.dK [])) := (Le.refl w H).aside hpn n2
  refine pairs_ok (kk.map kV) fs (by simp [hkk, hfl]) (E.mon lr) S' ((out_bind0 (rel := Reps X.K T P) l0 o).mono fun vs _ H2 _ q => ?_)
  obtain ⟨w2, ys, s2, l2, S2, r2, o2⟩ := q
  obtain ⟨m1, m2, m3⟩ := l2.apart (p := p) (by rw [upd_same]; exact fun z => nomatch z) n1 n2
  rw [upd_same] at m3
  split at o2
  case isFalse => exact o2.elim
  rename_i hok
  simp only [Bool.and_eq_true, decide_eq_true_eq] at hok
  have hv : kk.length = vs.length := by rw [← r2.length, ← hok.2, hkk]
  refine ⟨m3, kk.zip vs, by rw [List.zip_map_left]; rfl, by rw [List.length_zip]; omega, ?_⟩
  have lr2 : Lr w2 (w2.new p) H2 (upd H2 p (.dK (mergeK [] (kk.zip vs)))) := ⟨⟨[p], rfl⟩, fun _ q => q, rfl, fun a q => upd_ne fun e => m2 (e ▸ q)⟩
  have cell := (merge_ok ks ys kk vs [] [] hk hok.2 r2 .nil).mon lr2
  have hne : ∀ {a : Addr}, H a ≠ none → a ≠ p := fun h e => h (e ▸ hpn)
  refine o2 (.ref p) (w2.new p) _ ⟨?_, fun a h => l2.fz a h, fun a h => ?_, l2.pn, fun a h => ?_, fun a h1 h2 => ?_, fun a h1 => ?_⟩ (S2.adopt m1 m2 (fun z => nomatch z) ⟨_, upd_same, cell⟩) (.ref ?_)
  · obtain ⟨t, e, g⟩ := l2.mu
    refine ⟨t ++ [p], by show w2.mu ++ [p] = _; rw [e, List.append_assoc], fun a h => ?_⟩
    rcases List.mem_append.mp h with h | h
    · have z := g a h
      by_cases q : a = p
      · rw [q]; exact hpn
      · rwa [upd_ne q] at z
    · rw [List.mem_singleton.mp h]; exact hpn
  · rcases l2.nf a h with h | h | h
    · exact .inl h
    · by_cases q : a = p
      · exact .inr (.inl (q ▸ hpn))
      · rw [upd_ne q] at h; exact .inr (.inl h)
    · exact .inr (.inr h)
  · have q : a ≠ p := fun e => n2 (e ▸ h)
    rw [upd_ne q, l2.st a h, upd_ne q]
  · have q := hne h1
    rw [upd_ne q, l2.un a (by rw [upd_ne q]; exact h1) h2, upd_ne q]
  · have q := hne h1
    rw [upd_ne q]
    exact l2.up a (by rw [upd_ne q]; exact h1)
  · show (w2.mu ++ [p])[s2.length]? = some p
    rw [← S2.len]
    simp
end
end MP
set_option autoImplicit false
set_option linter.all false
set_option maxRecDepth 10000
set_option maxHeartbeats 1000000
/-! MPr: the checker: the program's text against the small language. -/
namespace MP
open PySem PySem.Spec PyProof.Rows L2
/-- where an expression stands -/
structure Ck where
  N : List Str
  sc : Scope
  fn : Option Scope
def bnames : List Str := ["len", "abs", "max", "min", "int", "bool", "str", "dict", "tuple", "list", "sum", "any", "all", "sorted", "isinstance", "range", "enumerate", "zip", "reversed", "ValueError"]
def Ck.gl (ck : Ck) (x : Str) : Bool := decide (ck.sc.names.lookup x = some .globalImplicit) && !(x == ("__debug__" : Str))
def visK : Option NameKind → Bool
  | some .local => true
  | some .cell => true
  | some .free => true
  | _ => false
def Ck.vis (ck : Ck) (i : Nat) (x : Str) : Bool := decide (ck.N[i]? = some x) && (visK (ck.sc.names.lookup x) && (!(x == ("__debug__" : Str)) && !(x == ("__classdict__" : Str))))
def Ck.loc (ck : Ck) (i : Nat) (x : Str) : Bool := decide (ck.N[i]? = some x) && (decide (ck.sc.names.lookup x = some .local) || (decide (ck.sc.names.lookup x = some .cell) && (match ck.fn with
  | none => true
  | some s0 => s0.names.lookup x == some .cell)))
def nStar : Expr → Bool
  | .Starred .. => false
  | _ => true
def nSlice : Expr → Bool
  | .Slice .. => false
  | _ => true
def nSet : Expr → Bool
  | .Set .. => false
  | _ => true
def nCall : Expr → Bool
  | .Call .. => false
  | _ => true
def nTup : Expr → Bool
  | .Tuple .. => false
  | _ => true
def nComp : Expr → Bool
  | .ListComp .. => false
  | .SetComp .. => false
  | .DictComp .. => false
  | _ => true
def isTup : Expr → Bool
  | .Tuple .. => true
  | _ => false
def litEq : D → Const → Bool
  | .non, .none => true
  | .bl a, .bool b => a == b
  | .int i, .int j => i == j
  | .str x, .str s => decide (s = ⟨x.toArray⟩)
  | _, _ => false
def opEq : BOp → Operator → Bool
  | .add, .Add => true
  | .sub, .Sub => true
  | .mul, .Mult => true
  | .fdiv, .FloorDiv => true
  | .mod, .Mod => true
  | .pow, .Pow => true
  | _, _ => false
def cmpEq : COp → CmpOp → Bool
  | .eq, .Eq => true
  | .ne, .NotEq => true
  | .lt, .Lt => true
  | .le, .LtE => true
  | .gt, .Gt => true
  | .ge, .GtE => true
  | .is, .Is => true
  | .isnot, .IsNot => true
  | .isin, .In => true
  | .notin, .NotIn => true
  | _, _ => false
/-- the built-in's name, the number of its arguments -/
def biName : Bi → String × Nat
  | .len => ("len", 1)
  | .abs => ("abs", 1)
  | .max2 => ("max", 2)
  | .min2 => ("min", 2)
  | .toInt => ("int", 1)
  | .toTup => ("tuple", 1)
  | .sum => ("sum", 1)
  | .any => ("any", 1)
  | .all => ("all", 1)
  | .maxL => ("max", 1)
  | .minL => ("min", 1)
/-! ### an except suite: i is the place of the exception's name -/
section
variable (T : Tab) (P : Prog)
def exnC (c : Nat) : Bool := match P.cls c with
  | some k => k.exn
  | none => false
mutual
def chkX (i : Nat) : E → Ck → Expr → Bool
  | .lit d, _, x => match x with
    | .Constant c _ _ => litEq d c
    | _ => false
  | .var j, ck, x => match x with
    | .Name n _ => !(j == i) && ck.vis j n
    | _ => false
  | .xfld j f, ck, x => match x with
    | .Attribute (.Name n _) m _ => (j == i) && (ck.vis j n && decide (m = T.anm f))
    | _ => false
  | .xisi j ty, ck, x => match x with
    | .Call (.Name m _) [.Name n _, .Name tn _] [] _ => (ck.gl m && decide (m = Str.ofString "isinstance")) && (((j == i) && ck.vis j n) && (ck.gl tn && (match ty with
      | .cls c => decide (tn = T.cnm c) && exnC P c
      | .val => decide (tn = Str.ofString "ValueError")
      | _ => false)))
    | _ => false
  | .tup es, ck, x => match x with
    | .Tuple xs _ _ => decide (es.length ≤ 1000) && (xs.all nStar && chkXs i es ck xs)
    | _ => false
  | .not a, ck, x => match x with
    | .UnaryOp op l _ => decide (op = .Not) && chkX i a ck l
    | _ => false
  | .and es, ck, x => match x with
    | .BoolOp op xs _ => decide (op = .And) && (!es.isEmpty && chkXs i es ck xs)
    | _ => false
  | .or es, ck, x => match x with
    | .BoolOp op xs _ => decide (op = .Or) && (!es.isEmpty && chkXs i es ck xs)
    | _ => false
  | .cmp o a b, ck, x => match x with
    | .Compare l [op] [r] _ => cmpEq o op && (nSet r && (chkX i a ck l && chkX i b ck r))
    | _ => false
  | _, _, _ => false
def chkXs (i : Nat) : List E → Ck → List Expr → Bool
  | [], _, xs => match xs with
    | [] => true
    | _ => false
  | e :: es, ck, xs => match xs with
    | x :: xs => chkX i e ck x && chkXs i es ck xs
    | _ => false
end
def nComp1 : Expr → Bool
  | .ListComp .. => false
  | .SetComp .. => false
  | .DictComp .. => false
  | _ => true
def chkXS (i : Nat) : S → Ck → Stmt → Bool
  | .asg (.name j) e, ck, s => match s with
    | .Assign [.Name y _] x _ => !(j == i) && (ck.loc j y && (nComp1 x && chkX T P i e ck x))
    | _ => false
  | .ret e, ck, s => match s with
    | .Return (some x) _ => chkX T P i e ck x
    | _ => false
  | .pass, _, s => match s with
    | .Pass _ => true
    | _ => false
  | _, _, _ => false
def chkXB (i : Nat) : List S → Ck → List Stmt → Bool
  | [], _, ss => ss.isEmpty
  | st :: r, ck, ss => match ss with
    | s :: ss => chkXS T P i st ck s && chkXB i r ck ss
    | _ => false
def chkH : List Hd → Ck → List ExceptHandler → Bool
  | [], _, hs => hs.isEmpty
  | .mk c slot body :: r, ck, hs => match hs with
    | .ExceptHandler (some (.Name x _)) no (st :: sts) _ :: hs => (ck.gl x && (decide (x = T.cnm c) && exnC P c)) && (((match slot, no with
      | none, none => true
      | some i, some n => decide (ck.N[i]? = some n) && decide (ck.sc.names.lookup n = some .local)
      | _, _ => false) && chkXB T P (slot.getD 100000) body ck (st :: sts)) && chkH r ck hs)
    | _ => false
def raiseOk (c n : Nat) : Bool := match P.cls c with
  | some k => k.exn && (match k.flds with
    | [] => n == 0
    | [_] => n == 1
    | _ => false)
  | none => false
end
/-- methods of lists with one argument -/
def bm1 : Bm → Option String
  | .append => some "append"
  | .popAt => some "pop"
  | .index => some "index"
  | _ => none
def keysC : List D → List (Option Expr) → Bool
  | [], xs => xs.isEmpty
  | k :: ks, xs => match xs with
    | some (.Constant c _ _) :: xs => (keyOk k && litEq k c) && keysC ks xs
    | _ => false
section
variable (T : Tab) (P : Prog) (top : Nat → Bool)
def tyEq (t : Ty) (x : Str) : Bool := match t with
  | .val => false
  | .cls c => decide (x = T.cnm c) && (P.cls c).isSome
  | t => decide (x = (Str.ofString (tyName t)))
def callOk (f n : Nat) (x : Str) : Bool := top f && (decide (x = T.fnm f) && (match P.fn f with
  | some fn => decide (n = fn.np) && (decide (0 < n) && fn.dfl.isEmpty)
  | none => false))
def makeOk (c n : Nat) (x : Str) : Bool := decide (x = T.cnm c) && (match P.cls c with
  | some k => !k.exn && (match k.init with
    | some f => (match P.fn f with
      | some fn => decide (n + 1 = fn.np) && (decide (0 < n) && fn.dfl.isEmpty)
      | none => false)
    | none => false)
  | none => false)
mutual
def chkT : MP.T → Ck → Expr → Bool
  | .name i, ck, x => match x with
    | .Name n _ => ck.loc i n
    | _ => false
  | .tup ts, ck, x => match x with
    | .Tuple xs _ _ => chkTs ts ck xs
    | _ => false
def chkTs : List MP.T → Ck → List Expr → Bool
  | [], _, xs => match xs with
    | [] => true
    | _ => false
  | t :: ts, ck, xs => match xs with
    | x :: xs => chkT t ck x && chkTs ts ck xs
    | _ => false
end
def ownN (ck : Ck) (own : List Nat) : List (Str × Nat) := own.map fun i => (ck.N.getD i "", i)
def Ck.blk (ck : Ck) (scope : Scope) : Ck := ⟨ck.N, relS scope ck.sc, some scope⟩
mutual
/-- t: as a test -/
def chk (t : Bool) : E → Ck → Expr → Bool
  | .bad, _, _ => true
  | .var i, ck, x => match x with
    | .Name n _ => ck.vis i n
    | _ => false
  | .lit d, _, x => match x with
    | .Constant c _ _ => litEq d c
    | _ => false
  | .glob i, ck, x => match x with
    | .Name n _ => ck.gl n && (decide (n = T.gnm i) && (P.glob i).isSome)
    | _ => false
  | .bin o a b, ck, x => match x with
    | .BinOp l op r _ => opEq o op && (chk false a ck l && chk false b ck r)
    | _ => false
  | .neg a, ck, x => match x with
    | .UnaryOp op l _ => decide (op = .USub) && chk false a ck l
    | _ => false
  | .cmp o a b, ck, x => match x with
    | .Compare l [op] [r] _ => cmpEq o op && (nSet r && (chk false a ck l && chk false b ck r))
    | _ => false
  | .chain o o' a b c, ck, x => match x with
    | .Compare l [op, op'] [r, r'] _ => (cmpEq o op && cmpEq o' op') && (nSet r' && (chk false a ck l && (chk false b ck r && chk false c ck r')))
    | _ => false
  | .and es, ck, x => match x with
    | .BoolOp op xs _ => decide (op = .And) && (!es.isEmpty && chks t es ck xs)
    | _ => false
  | .or es, ck, x => match x with
    | .BoolOp op xs _ => decide (op = .Or) && (!es.isEmpty && chks t es ck xs)
    | _ => false
  | .not a, ck, x => match x with
    | .UnaryOp op l _ => decide (op = .Not) && chk t a ck l
    | _ => false
  | .ite c a b, ck, x => match x with
    | .IfExp c' a' b' _ => !t && (chk true c ck c' && (chk false a ck a' && chk false b ck b'))
    | _ => false
  | .tup es, ck, x => match x with
    | .Tuple xs _ _ => decide (es.length ≤ 1000) && (xs.all nStar && chks false es ck xs)
    | _ => false
  | .lst _ es, ck, x => match x with
    | .List xs _ => decide (es.length ≤ 1000) && (xs.all nStar && chks false es ck xs)
    | _ => false
  | .dct ks vs, ck, x => match x with
    | .Dict [] [] _ => ks.isEmpty && vs.isEmpty
    | .Dict keys values _ => (decide (ks.length = vs.length) && decide (ks.length ≤ 15)) && ((!ks.isEmpty && keysC ks keys) && chks false vs ck values)
    | _ => false
  | .dget a b, ck, x => match x with
    | .Subscript l r _ => nSlice r && (chk false a ck l && chk false b ck r)
    | _ => false
  | .idx a b, ck, x => match x with
    | .Subscript l r _ => nSlice r && (chk false a ck l && chk false b ck r)
    | _ => false
  | .slc _ a lo hi, ck, x => match x with
    | .Subscript l (.Slice lo' hi' none _) _ => chk false a ck l && (chkO lo ck lo' && chkO hi ck hi')
    | _ => false
  | .fld a f, ck, x => match x with
    | .Attribute l n _ => decide (n = T.anm f) && (nCall l && chk false a ck l)
    | _ => false
  | .call f es, ck, x => match x with
    | .Call (.Name n _) xs [] _ => ck.gl n && (callOk T P top f es.length n && (xs.all nStar && chks false es ck xs))
    | _ => false
  | .make c es, ck, x => match x with
    | .Call (.Name n _) xs [] _ => ck.gl n && (makeOk T P c es.length n && (xs.all nStar && chks false es ck xs))
    | _ => false
  | .bi b es, ck, x => match x with
    | .Call (.Name n _) xs [] _ => ck.gl n && ((decide (n = Str.ofString (biName b).1) && decide (es.length = (biName b).2)) && (xs.all nStar && chks false es ck xs))
    | _ => false
  | .li b _ a, ck, x => match x with
    | .Call (.Name n _) [l] [] _ => ck.gl n && ((decide (b = .toList) && decide (n = Str.ofString "list")) && (nStar l && chk false a ck l))
    | _ => false
  | .bm b a es, ck, x => match x with
    | .Call (.Attribute l n ap) [r] [] cp => ((bm1 b).isSome && (decide (es.length = 1) && decide (n = Str.ofString ((bm1 b).getD "")))) && ((ap.endLine == cp.line) && (nCall l && (nStar r && (chk false a ck l && chks false es ck [r]))))
    | .Call (.Attribute l n ap) [] [] cp => (decide (b = .pop) && (decide (es.length = 0) && decide (n = Str.ofString "pop"))) && ((ap.endLine == cp.line) && (nCall l && chk false a ck l))
    | _ => false
  | .isi a ts, ck, x => match x with
    | .Call (.Name n _) [l, .Name tn _] [] _ => ck.gl n && (decide (n = Str.ofString "isinstance") && (ck.gl tn && (nStar l && (chk false a ck l && (match ts with
      | [ty] => tyEq T P ty tn
      | _ => false)))))
    | _ => false
  | .comp _ own elt tg it ifs, ck, x => match x with
    | .ListComp elt' [⟨tg', iter, ifs', as⟩] scope _ => (decide (as = 0) && (blkC ck.N ck.sc scope (ownN ck own) && ((slotsT tg).all (fun i => own.contains i) && chkT tg (ck.blk scope) tg'))) &&
      (chkI it ck tg' iter && (chk false elt (ck.blk scope) elt' && (match ifs' with
        | [] => ifs.isEmpty
        | [c] => decide (ifs.length = 1) && chks true ifs (ck.blk scope) [c]
        | _ => false)))
    | _ => false
  | _, _, _ => false
def chks (t : Bool) : List E → Ck → List Expr → Bool
  | [], _, xs => match xs with
    | [] => true
    | _ => false
  | e :: es, ck, xs => match xs with
    | x :: xs => chk t e ck x && chks t es ck xs
    | _ => false
def chkO : Option E → Ck → Option Expr → Bool
  | none, _, x => match x with
    | none => true
    | _ => false
  | some e, ck, x => match x with
    | some x => chk false e ck x
    | _ => false
def chkI : I → Ck → Expr → Expr → Bool
  | .seq e, ck, _, x => nSet x && chk false e ck x
  | .range es, ck, _, x => match x with
    | .Call (.Name n _) xs [] _ => (ck.gl n && decide (n = Str.ofString "range")) && ((decide (es.length = 1) || decide (es.length = 2)) && (xs.all nStar && chks false es ck xs))
    | _ => false
  | .enum e, ck, tg, x => match x with
    | .Call (.Name n _) [l] [] _ => isTup tg && ((ck.gl n && decide (n = Str.ofString "enumerate")) && (nStar l && chk false e ck l))
    | _ => false
  | .zip es, ck, tg, x => match x with
    | .Call (.Name n _) xs [] _ => isTup tg && ((ck.gl n && decide (n = Str.ofString "zip")) && ((decide (es.length = 2) || decide (es.length = 3)) && (xs.all nStar && chks false es ck xs)))
    | _ => false
  | .rev e, ck, _, x => match x with
    | .Call (.Name n _) [l] [] _ => (ck.gl n && decide (n = Str.ofString "reversed")) && (nStar l && chk false e ck l)
    | _ => false
end
/-- x = [..] as an own kind of statement -/
def swapC (ck : Ck) (y : Str) (py : Pos) (scope : Scope) (lp : Pos) : Bool := decide (ck.sc.names.lookup y = some .local) && ((py.line == lp.line) && !(scope.names.any fun (n, k) => n == y && (k == .local || k == .cell)))
def asgC (ck : Ck) (tg x : Expr) : Bool := match x with
  | .ListComp _ _ _ _ => (match tg with
    | .Name y _ => !decide (ck.sc.names.lookup y = some .local)
    | _ => true)
  | x => nComp x && (!isTup tg || nTup x)
def isCompE : E → Bool
  | .comp .. => true
  | _ => false
mutual
def chkS : S → Ck → Stmt → Bool
  | .bad, _, _ => true
  | .expr e, ck, s => match s with
    | .Expr x _ => nComp x && chk T P top false e ck x
    | _ => false
  | .asg t e, ck, s => match s with
    | .Assign [tg] x _ => chkT t ck tg && (chk T P top false e ck x && (asgC ck tg x || (match tg, x, t with
      | .Name y py, .ListComp _ _ scope lp, .name _ => isCompE e && swapC ck y py scope lp
      | _, _, _ => false)))
    | _ => false
  | .seti a i e, ck, s => match s with
    | .Assign [.Subscript l r _] x _ => nSlice r && (chk T P top false a ck l && (chk T P top false i ck r && chk T P top false e ck x))
    | _ => false
  | .dput a k e, ck, s => match s with
    | .Assign [.Subscript l r _] x _ => nSlice r && (chk T P top false a ck l && (chk T P top false k ck r && chk T P top false e ck x))
    | _ => false
  | .setf o f e, ck, s => match s with
    | .Assign [.Attribute l n _] x _ => decide (n = T.anm f) && (chk T P top false o ck l && chk T P top false e ck x)
    | _ => false
  | .aug i o e, ck, s => match s with
    | .AugAssign (.Name n _) op x _ => ck.loc i n && ((decide (o = .add) || decide (o = .sub)) && (opEq o op && chk T P top false e ck x))
    | _ => false
  | .ret e, ck, s => match s with
    | .Return (some x) _ => chk T P top false e ck x
    | _ => false
  | .retN, _, s => match s with
    | .Return none _ => true
    | _ => false
  | .ife c a b, ck, s => match s with
    | .If c' a' b' _ => chk T P top true c ck c' && (chkB a ck a' && chkB b ck b')
    | _ => false
  | .forS t it body, ck, s => match s with
    | .For tg x ss [] _ => nSet x && (chkT t ck tg && (chkI T P top it ck tg x && chkB body ck ss))
    | _ => false
  | .whileS c body, ck, s => match s with
    | .While c' ss [] _ => chk T P top true c ck c' && chkB body ck ss
    | _ => false
  | .brk, _, s => match s with
    | .Break _ => true
    | _ => false
  | .cnt, _, s => match s with
    | .Continue _ => true
    | _ => false
  | .pass, _, s => match s with
    | .Pass _ => true
    | _ => false
  | .raise c es, ck, s => match s with
    | .Raise (some (.Call (.Name n _) xs [] _)) none _ => (ck.gl n && decide (n = T.cnm c)) && (raiseOk P c es.length && (xs.all nStar && chks T P top false es ck xs))
    | _ => false
  | .tryS body hs, ck, s => match s with
    | .Try ss (h :: hs') [] [] _ => ck.fn.isNone && (chkB body ck ss && chkH T P hs ck (h :: hs'))
    | _ => false
  | _, _, _ => false
def chkB : List S → Ck → List Stmt → Bool
  | [], _, ss => match ss with
    | [] => true
    | _ => false
  | .bad :: _, _, _ => true
  | .fgt _ :: r, ck, ss => chkB r ck ss
  | .frz _ :: r, ck, ss => chkB r ck ss
  | st :: r, ck, ss => match ss with
    | s :: ss => chkS st ck s && chkB r ck ss
    | _ => false
end
end
end MP
set_option autoImplicit false
set_option linter.all false
set_option maxRecDepth 10000
set_option maxHeartbeats 4000000
/-! MPs: what the checker passes does what the small language says. -/
namespace MP
open PySem PySem.Spec PyProof.Rows L2
/-- what a def's body sees of the text -/
structure Gctx (prog : Program) (w : World) (K : PySem.W.Frag) (mg : Str → Option Value) (base : Heap) (A : Around) (T : Tab) (P : Prog) (top : Nat → Bool) (k : Nat) (g : G) : Prop where
  tab : TabOk K T P
  fre : ∀ x ∈ bnames, mg x = none
  gint : ∀ i d, P.glob i = some d → ∃ v t, d = .int v ∧ mg (T.gnm i) = some (.int v t)
  room : Room (k + 1) A
  fns : ∀ f fn, P.fn f = some fn → top f = true → fn.dfl = [] → ∃ a fd ps, mg (T.fnm f) = some (.ref a) ∧ PySem.W.keepIn K (.ref a) = true ∧ Binds K fd ps [] ∧ FnOk prog w K mg base (L2.CX prog w) k a fd ps (spF K T P fn.np (g.call f))
  mks : ∀ c kc f fn, P.cls c = some kc → kc.exn = false → kc.init = some f → P.fn f = some fn → fn.dfl = [] → ∃ a fd ps, Mk K (ca K T c) a ∧ Binds K fd ps [] ∧ FnOk prog w K mg base (L2.CX prog w) k a fd ps (spF K T P fn.np (g.call f))
  clsG : ∀ c kc, P.cls c = some kc → mg (T.cnm c) = some (.ref (ca K T c))
  gc : g.cls = P.cls
  gs : g.sub = P.sub
  gg : g.glob = P.glob
  gn : ∀ f fn, P.fn f = some fn → g.np f = fn.np ∧ g.dfl f = fn.dfl
  xt : XTab K T P
  xini : ∀ c kc f, P.cls c = some kc → kc.exn = true → kc.flds = [f] → ∃ fI fd ps, PySem.W.findIn K (.ref (ca K T c)) "__init__" = some (some (.ref fI)) ∧ PySem.W.typeIn K (.ref fI) = some (.type "function") ∧ Binds K fd ps [] ∧ FnOk prog w K mg base (L2.CX prog w) k fI fd ps (spI (ca K T c) (T.anm f))
structure Ctx (X : Cx) (ck : Ck) : Prop where
  N : X.N = ck.N
  nd : X.N.Nodup
  sc : X.env.scope = ck.sc
  fn : ∀ x, (match ck.fn with
    | none => true
    | some s0 => s0.names.lookup x == some .cell) = true → X.fn x = true
  calm : X.calm = true
  hp : PassesOwn (model X.prog X.w) X.A X.env X.xe
  fk : X.env.scope.kind = .function
  st : ck.fn = none → X.stack = X.env :: X.outer ∧ X.env.frame = some X.env.locals
abbrev FE := Env → Sto → R D
/-- expressions one by one -/
inductive MEs (K : PySem.W.Frag) (T : Tab) (P : Prog) (X : Cx) (W : WX) : List FE → List Expr → Prop
  | nil : MEs K T P X W [] []
  | cons {f : FE} {fs : List FE} {x : Expr} {xs : List Expr} (h : ME K T P X W x f) (t : MEs K T P X W fs xs) : MEs K T P X W (f :: fs) (x :: xs)
inductive MTs (K : PySem.W.Frag) (T : Tab) (P : Prog) (X : Cx) (W : WX) : List FE → List Expr → Prop
  | nil : MTs K T P X W [] []
  | cons {f : FE} {fs : List FE} {x : Expr} {xs : List Expr} (h : MT K T P X W x (tru f)) (t : MTs K T P X W fs xs) : MTs K T P X W (f :: fs) (x :: xs)
def listF : List FE → Env → Sto → R (List D)
  | [], _, s => .ok [] s
  | f :: fs, env, s => (f env s).bind fun x s => (listF fs env s).bind fun xs s => .ok (x :: xs) s
theorem evEs_list (g : G) : ∀ es : List E, evEs g es = listF (es.map (evE g))
  | [] => rfl
  | e :: es => by
    funext env s
    simp only [evEs, List.map_cons, listF, evEs_list g es]
theorem evAnd_list (g : G) : ∀ es : List E, evAnd g es = andF (es.map (evE g))
  | [] => rfl
  | [e] => rfl
  | e :: e' :: es => by
    funext env s
    simp only [evAnd, List.map_cons, andF]
    rw [evAnd_list g (e' :: es)]
    rfl
theorem evOr_list (g : G) : ∀ es : List E, evOr g es = orF (es.map (evE g))
  | [] => rfl
  | [e] => rfl
  | e :: e' :: es => by
    funext env s
    simp only [evOr, List.map_cons, orF]
    rw [evOr_list g (e' :: es)]
    rfl
theorem listF_len : ∀ (fs : List FE) (env : Env) (s : Sto) (xs : List D) (s' : Sto), listF fs env s = .ok xs s' → xs.length = fs.length
  | [], _, _, _, _, h => by cases h; rfl
  | f :: fs, env, s, xs, s', h => by
    simp only [listF] at h
    cases e1 : f env s with
    | ok x s1 =>
      rw [e1] at h
      simp only [MP.R.bind_ok] at h
      cases e2 : listF fs env s1 with
      | ok ys s2 =>
        rw [e2] at h
        simp only [MP.R.bind_ok] at h
        cases h
        simp [listF_len fs env s1 ys _ e2]
      | ex => rw [e2] at h; cases h
      | no => rw [e2] at h; cases h
    | ex => rw [e1] at h; cases h
    | no => rw [e1] at h; cases h
theorem evEs_len (g : G) {es : List E} {env : Env} {s : Sto} {xs : List D} {s' : Sto} (h : evEs g es env s = .ok xs s') : xs.length = es.length := by
  rw [evEs_list] at h
  rw [listF_len _ _ _ _ _ h, List.length_map]
section
variable {T : Tab} {P : Prog} {X : Cx} {W : WX} {env : PySem.Env} {pos : Pos} {top : Nat → Bool} {k : Nat} {g : G}
theorem star_cons {x : Expr} {xs : List Expr} (h : nStar x = true) : starEach (x :: xs) env = (false, eval x env) :: starEach xs env := by
  cases x <;> first | rfl | cases h
theorem star_any {pos : Pos} {env : PySem.Env} : ∀ {xs : List Expr}, xs.all nStar = true → (backTo pos (starEach xs env)).any (·.1) = false
  | [], _ => rfl
  | x :: xs, h => by
    simp only [List.all_cons, Bool.and_eq_true] at h
    rw [star_cons h.1]
    have := star_any (pos := pos) (env := env) (xs := xs) h.2
    simp only [backTo, List.map_cons, List.any_cons, Bool.false_or] at this ⊢
    exact this
theorem ma_of : ∀ {fs : List FE} {xs : List Expr}, MEs X.K T P X W fs xs → xs.all nStar = true → MA X.K T P X W xs (listF fs)
  | _, _, .nil, _ => ma_nil
  | _, _, .cons h t, hs => by
    simp only [List.all_cons, Bool.and_eq_true] at hs
    exact ma_cons h (ma_of t hs.2) (star_cons hs.1)
theorem and_of {pos : Pos} : ∀ {fs : List FE} {xs : List Expr}, MEs X.K T P X W fs xs → fs ≠ [] → ME X.K T P X W (.BoolOp .And xs pos) (andF fs)
  | _, _, .nil, h => absurd rfl h
  | _, _, .cons h .nil, _ => me_and1 h
  | _, _, .cons h (.cons h' t), _ => me_and h (and_of (.cons h' t) (by simp))
theorem or_of {pos : Pos} : ∀ {fs : List FE} {xs : List Expr}, MEs X.K T P X W fs xs → fs ≠ [] → ME X.K T P X W (.BoolOp .Or xs pos) (orF fs)
  | _, _, .nil, h => absurd rfl h
  | _, _, .cons h .nil, _ => me_or1 h
  | _, _, .cons h (.cons h' t), _ => me_or h (or_of (.cons h' t) (by simp))
theorem andT_of {pos : Pos} : ∀ {fs : List FE} {xs : List Expr}, MTs X.K T P X W fs xs → fs ≠ [] → MW X.K T P X W (.BoolOp .And xs pos) (tru (andF fs))
  | _, _, .nil, h => absurd rfl h
  | _, _, .cons h .nil, _ => mw_and1 h
  | _, _, .cons h (.cons h' t), _ => mw_and h (andT_of (.cons h' t) (by simp))
theorem orT_of {pos : Pos} : ∀ {fs : List FE} {xs : List Expr}, MTs X.K T P X W fs xs → fs ≠ [] → MW X.K T P X W (.BoolOp .Or xs pos) (tru (orF fs))
  | _, _, .nil, h => absurd rfl h
  | _, _, .cons h .nil, _ => mw_or1 h
  | _, _, .cons h (.cons h' t), _ => mw_or h (orT_of (.cons h' t) (by simp))
theorem me_bad {x : Expr} : ME X.K T P X W x (fun _ _ => .no) := ⟨fun pins s σ H Q I q => by
  obtain ⟨env, s, w, E, S, o⟩ := q
  exact o.elim⟩
theorem mt_bad {x : Expr} : MT X.K T P X W x (tru fun _ _ => .no) := ⟨fun pins s σ H Q I q => by
  obtain ⟨env, s, w, E, S, o⟩ := q
  exact o.elim⟩
theorem base_of {x : Expr} {f : Str} (h : nCall x = true) : attributeBase x f env (eval x env) = eval x env := by
  cases x <;> first | rfl | cases h
theorem mark_of {op : CmpOp} {x : Expr} (h : nSet x = true) : behindInMarks op x = false := by
  cases x <;> first | rfl | cases h
theorem ix_of {x : Expr} (h : nSlice x = true) : PlainIx x := by
  cases x <;> first | exact fun _ _ => rfl | cases h
theorem set_of {x : Expr} (h : nSet x = true) : ∀ v, foldedSetIterable x env v = pure v := by
  cases x <;> first | exact fun _ => rfl | cases h
/-- generic comparisons -/
theorem cmp_ok {o : COp} {op : CmpOp} (hu : X.A.units + 64 < cLine) (h : cmpEq o op = true) : OpM T P X (compareOp op) (fun s x y => (cmpop s o x y).map D.bl) := by
  cases o <;> cases op <;> first | cases h | skip
  · exact op_eqM hu
  · exact op_neM hu
  · exact op_ltM hu
  · exact op_intM op_le (fun s a b r h => by simp only [cmpop] at h; split at h <;> first | (cases h; exact ⟨_, _, rfl, rfl, rfl⟩) | cases h)
  · exact op_intM op_gt (fun s a b r h => by simp only [cmpop] at h; split at h <;> first | (cases h; exact ⟨_, _, rfl, rfl, rfl⟩) | cases h)
  · exact op_intM op_ge (fun s a b r h => by simp only [cmpop] at h; split at h <;> first | (cases h; exact ⟨_, _, rfl, rfl, rfl⟩) | cases h)
  · exact op_isM
  · exact op_isnotM
  · exact op_inM
  · exact op_notinM
theorem opr {P : Prop} {b c : Bool} (h : (b && c) = true) : b = true ∧ c = true := by simpa using h
variable {ck : Ck}
theorem ctx_gl {x : Str} (C : Ctx X ck) (h : ck.gl x = true) : Gl X x ∧ (x == ("__debug__" : Str)) = false := by
  unfold Ck.gl at h
  simp only [Bool.and_eq_true, decide_eq_true_eq, Bool.not_eq_true'] at h
  refine ⟨?_, h.2⟩
  show X.env.scope.names.lookup x = _
  rw [C.sc]
  exact h.1
theorem ctx_vis {x : Str} {i : Nat} (C : Ctx X ck) (h : ck.vis i x = true) : X.N[i]? = some x ∧ Vis X.env.scope x ∧ (x == ("__debug__" : Str)) = false ∧ (x == ("__classdict__" : Str)) = false := by
  unfold Ck.vis at h
  simp only [Bool.and_eq_true, decide_eq_true_eq, Bool.not_eq_true'] at h
  refine ⟨by rw [C.N]; exact h.1, ?_, h.2.2.1, h.2.2.2⟩
  unfold Vis
  rw [C.sc]
  have := h.2.1
  revert this
  cases ck.sc.names.lookup x with
  | none => intro z; cases z
  | some k => cases k <;> first | (intro _; simp; done) | (intro z; cases z)
theorem ctx_loc {x : Str} {i : Nat} (C : Ctx X ck) (h : ck.loc i x = true) : X.N[i]? = some x ∧ Loc X.env.scope x ∧ (X.fn x = true ∨ X.env.scope.names.lookup x = some .local) := by
  unfold Ck.loc at h
  simp only [Bool.and_eq_true, decide_eq_true_eq, Bool.or_eq_true] at h
  unfold L2.Loc
  rw [C.N, C.sc]
  rcases h.2 with q | ⟨q1, q2⟩
  · exact ⟨h.1, .inl q, .inr q⟩
  · exact ⟨h.1, .inr q1, .inl (C.fn x q2)⟩
theorem ctx_free {x : Str} (G : Gctx X.prog X.w X.K X.mg X.base X.A T P top k g) (h : x ∈ bnames) : X.mg x = none := G.fre x h
/-! ### targets -/
mutual
theorem sndT (C : Ctx X ck) : ∀ (t : MP.T) (x : Expr), MP.chkT t ck x = true → MG X.K T P X x t
  | .name i, x, h => by
    cases x <;> simp only [MP.chkT] at h <;> first | cases h | skip
    obtain ⟨h1, h2, h3⟩ := ctx_loc C h
    exact mg_name C.nd h1 h2 h3
  | .tup ts, x, h => by
    cases x <;> simp only [MP.chkT] at h <;> first | cases h | skip
    rename_i xs k pos
    obtain ⟨h1, h2, h3⟩ := sndTs C ts xs h
    exact mg_tup C.calm h1 rfl h2 h3 asgTs_len
theorem sndTs (C : Ctx X ck) : ∀ (ts : List MP.T) (xs : List Expr), MP.chkTs ts ck xs = true → MGs X.K T P X xs ts ∧ ts.length = (assignEach xs X.env).length ∧ (assignEach xs X.env).findIdx? (·.1) = none
  | [], xs, h => by
    cases xs with
    | nil => exact ⟨mgs_nil, rfl, rfl⟩
    | cons => simp [MP.chkTs] at h
  | t :: ts, xs, h => by
    cases xs with
    | nil => simp [MP.chkTs] at h
    | cons x xs =>
      simp only [MP.chkTs, Bool.and_eq_true] at h
      have ht := sndT C t x h.1
      obtain ⟨h1, h2, h3⟩ := sndTs C ts xs h.2
      have hs : assignEach (x :: xs) X.env = (false, assign x X.env) :: assignEach xs X.env := by
        have hx := h.1
        cases x <;> first | rfl | (cases t <;> simp [MP.chkT] at hx)
      refine ⟨mgs_cons ht h1 (by rw [hs]; rfl), by rw [hs]; simp [h2], ?_⟩
      rw [hs, List.findIdx?_cons, h3]
      rfl
end
/-! ### a block's context -/
theorem ctx_blk {scope : Scope} {own : List (Str × Nat)} (C : Ctx X ck) (ok : BlkOk X.N X.env.scope scope own) (s : Shared) (H : Hp) (Ca : Addr) (cl : List (Str × Addr)) (fp : List Addr) : Ctx (X.blk s H scope (compEnvC scope cl Ca X.env) fp) (ck.blk scope) where
  N := C.N
  nd := C.nd
  sc := by
    show relabel scope X.env = relS scope ck.sc
    rw [← C.sc]
    rfl
  fn := fun x h => h
  calm := C.calm
  hp := PassesOwn.never
  fk := ok.kind
  st := fun h => nomatch h
/-- what a comprehension's check gives -/
structure CompOk (K : PySem.W.Frag) (T : Tab) (P : Prog) (X : Cx) (W : WX) (scope : Scope) (own : List (Str × Nat)) (tg iter elt : Expr) (ifs : List Expr) (t : MP.T) (fi : Env → Sto → R (List D × Gd)) (fc fe : FE) : Prop where
  ok : BlkOk X.N X.env.scope scope own
  sl : ∀ i ∈ slotsT t, i ∈ own.map (·.2)
  it : MI K T P X W tg iter fi
  tg : ∀ (s : Shared) (H : Hp) (C : Addr) (cl : List (Str × Addr)) (fp : List Addr), MG K T P (X.blk s H scope (compEnvC scope cl C X.env) fp) tg t
  ifs : ∀ (s : Shared) (H : Hp) (C : Addr) (cl : List (Str × Addr)) (fp : List Addr), PTs (X.blk s H scope (compEnvC scope cl C X.env) fp) ifs (tYesM K T P fc)
  elt : ∀ (s : Shared) (H : Hp) (C : Addr) (cl : List (Str × Addr)) (fp : List Addr), ME K T P (X.blk s H scope (compEnvC scope cl C X.env) fp) noW elt fe
  fs : ∀ x, foldedSetIterable iter X.env x = pure x
theorem own_map (ck : Ck) (own : List Nat) : (ownN ck own).map (·.2) = own := by
  unfold ownN
  rw [List.map_map]
  exact List.map_id own
end
section
variable {T : Tab} {P : Prog} {top : Nat → Bool} {k : Nat} {g : G}
def Both (K : PySem.W.Frag) (T : Tab) (P : Prog) (X : Cx) (W : WX) (t : Bool) (x : Expr) (f : FE) : Prop := if t then MT K T P X W x (tru f) else ME K T P X W x f
theorem both_of {X : Cx} {W : WX} {t : Bool} {x : Expr} {f : FE} (h : ME X.K T P X W x f) (he : ∀ whole, isTrue x X.env whole = (do let v ← whole; standAt x.pos; holding [v] (PySem.truthy v))) : Both X.K T P X W t x f := by
  cases t with
  | false => exact h
  | true => exact mt_of h he
theorem both_f {X : Cx} {W : WX} {x : Expr} {f : FE} (h : Both X.K T P X W false x f) : ME X.K T P X W x f := h
theorem both_t {X : Cx} {W : WX} {x : Expr} {f : FE} (h : Both X.K T P X W true x f) : MT X.K T P X W x (tru f) := h
end
end MP
set_option autoImplicit false
set_option linter.all false
set_option maxRecDepth 10000
set_option maxHeartbeats 8000000
/-! MPt: expressions: the checker's word is kept. -/
namespace MP
open PySem PySem.Spec PyProof.Rows L2
section
variable {T : Tab} {P : Prog} {top : Nat → Bool} {k : Nat} {g : G}
theorem lit_ok {X : Cx} {W : WX} {d : D} {c : Const} {j : Nat} {pos : Pos} (h : litEq d c = true) : ME X.K T P X W (.Constant c j pos) (fun _ s => .ok d s) := by
  cases d <;> cases c <;> simp only [litEq] at h <;> first | cases h | skip
  · exact me_non
  · rw [eq_of_beq h]; exact me_bl
  · rw [eq_of_beq h]; exact me_int
  · rw [of_decide_eq_true h]; exact me_str
theorem opb_ok {X : Cx} {o : BOp} {op : Operator} (h : opEq o op = true) : OpM T P X (binaryOp op) (fun s x y => binop s o x y) := by
  have := op_binop (T := T) (P := P) (X := X) o
  cases o <;> cases op <;> first | exact this | cases h
theorem bn (x : Str) (h : bnames.contains x = true) : x ∈ bnames := by simpa using h
/-- a built-in function of the list, called -/
theorem bi_ok {X : Cx} {W : WX} {A : Around} (hc : X.calm = true) (b : Bi) {n : Str} {p pos : Pos} {xs : List Expr} {fl : Env → Sto → R (List D)} (hn : n = Str.ofString (biName b).1) (hg : Gl X n) (hm : X.mg n = none) (ha : MA X.K T P X W xs fl) (hs : xs.all nStar = true)
    (hl : ∀ env s xs s', fl env s = .ok xs s' → xs.length = (biName b).2) (hx : xs.length = (biName b).2) :
    ME X.K T P X W (.Call (.Name n p) xs [] pos) (fun env s => (fl env s).bind fun xs s => .opt (bfn s b xs) s) := by
  subst hn
  match xs, hx with
  | [], hx => cases b <;> cases hx
  | e :: es, hx =>
    have hs' := hs
    simp only [List.all_cons, Bool.and_eq_true] at hs'
    have st := star_cons (env := X.env) (xs := es) hs'.1
    have an := star_any (pos := pos) (env := X.env) hs'.2
    have fin : ∀ {f : Env → Sto → R D} {f' : Env → Sto → R D}, ME X.K T P X W (.Call (.Name (Str.ofString (biName b).1) p) (e :: es) [] pos) f → f = f' → ME X.K T P X W (.Call (.Name (Str.ofString (biName b).1) p) (e :: es) [] pos) f' := fun h e => e ▸ h
    have eqn : ∀ {kf : Sto → List D → R D}, (∀ s ds, ds.length = (biName b).2 → kf s ds = .opt (bfn s b ds) s) → (fun env s => (fl env s).bind fun xs s => kf s xs) = (fun env s => (fl env s).bind fun xs s => R.opt (bfn s b xs) s) := fun {kf} h => by
      funext env s
      cases r : fl env s with
      | ok ds s1 => simp only [MP.R.bind_ok]; exact h s1 ds (hl _ _ _ _ r)
      | ex => rfl
      | no => rfl
    cases b with
    | len =>
      refine fin (me_callB cm_len (fun s ds c fs s' => by split <;> first | exact opt_ne | exact fun z => nomatch z) hg hm (by decide +kernel) ha (by decide) (by decide) st an) (eqn fun s ds h => ?_)
      match ds, h with
      | [d], _ => rfl
    | abs =>
      refine fin (me_callB cm_abs (fun s ds c fs s' => by split <;> first | exact opt_ne | exact fun z => nomatch z) hg hm (by decide +kernel) ha (by decide) (by decide) st an) (eqn fun s ds h => ?_)
      match ds, h with
      | [d], _ => cases d <;> rfl
    | max2 =>
      refine fin (me_callB (cm_max2 hc) (fun s ds c fs s' => by split <;> first | exact opt_ne | exact fun z => nomatch z) hg hm (by decide +kernel) ha (by decide) (by decide) st an) (eqn fun s ds h => ?_)
      match ds, h with
      | [d, e], _ => cases d <;> cases e <;> rfl
    | min2 =>
      refine fin (me_callB (cm_min2 hc) (fun s ds c fs s' => by split <;> first | exact opt_ne | exact fun z => nomatch z) hg hm (by decide +kernel) ha (by decide) (by decide) st an) (eqn fun s ds h => ?_)
      match ds, h with
      | [d, e], _ => cases d <;> cases e <;> rfl
    | toInt =>
      refine fin (me_callTy cm_int (fun s ds c fs s' => by split <;> first | exact opt_ne | exact fun z => nomatch z) hg hm (by decide +kernel) ha (by decide) (by decide) st an) (eqn fun s ds h => ?_)
      match ds, h with
      | [d], _ => cases d <;> rfl
    | toTup =>
      refine fin (me_callTy cm_tuple (fun s ds c fs s' => by
        split
        · rename_i d
          cases seqOf s d <;> exact fun z => nomatch z
        · exact fun z => nomatch z) hg hm (by decide +kernel) ha (by decide) (by decide) st an) (eqn fun s ds h => ?_)
      match ds, h with
      | [d], _ => simp only [bfn]; cases seqOf s d <;> rfl
    | sum =>
      refine fin (me_callB (cm_sum hc) (fun s ds c fs s' => by split <;> first | exact opt_ne | exact fun z => nomatch z) hg hm (by decide +kernel) ha (by decide) (by decide) st an) (eqn fun s ds h => ?_)
      match ds, h with
      | [d], _ => rfl
    | any =>
      refine fin (me_callB (cm_any hc) (fun s ds c fs s' => by split <;> first | exact opt_ne | exact fun z => nomatch z) hg hm (by decide +kernel) ha (by decide) (by decide) st an) (eqn fun s ds h => ?_)
      match ds, h with
      | [d], _ => rfl
    | all =>
      refine fin (me_callB (cm_all hc) (fun s ds c fs s' => by split <;> first | exact opt_ne | exact fun z => nomatch z) hg hm (by decide +kernel) ha (by decide) (by decide) st an) (eqn fun s ds h => ?_)
      match ds, h with
      | [d], _ => rfl
    | maxL =>
      refine fin (me_callB (cm_max hc) (fun s ds c fs s' => by split <;> first | exact opt_ne | exact fun z => nomatch z) hg hm (by decide +kernel) ha (by decide) (by decide) st an) (eqn fun s ds h => ?_)
      match ds, h with
      | [d], _ => rfl
    | minL =>
      refine fin (me_callB (cm_min hc) (fun s ds c fs s' => by split <;> first | exact opt_ne | exact fun z => nomatch z) hg hm (by decide +kernel) ha (by decide) (by decide) st an) (eqn fun s ds h => ?_)
      match ds, h with
      | [d], _ => rfl
end
end MP
set_option autoImplicit false
set_option linter.all false
set_option maxRecDepth 10000
set_option maxHeartbeats 1000000
/-! MPu: expressions: the checker's word is kept. -/
namespace MP
open PySem PySem.Spec PyProof.Rows L2
section
variable {T : Tab} {P : Prog} {top : Nat → Bool} {k : Nat} {g : G}
theorem both_cong {K : PySem.W.Frag} {X : Cx} {W : WX} {t : Bool} {x : Expr} {f f' : FE} (h : Both K T P X W t x f) (e : ∀ env s, f env s = f' env s) : Both K T P X W t x f' := by
  have : f = f' := funext fun env => funext fun s => e env s
  exact this ▸ h
theorem me_cong {K : PySem.W.Frag} {X : Cx} {W : WX} {x : Expr} {f f' : FE} (h : ME K T P X W x f) (e : ∀ env s, f env s = f' env s) : ME K T P X W x f' := by
  have : f = f' := funext fun env => funext fun s => e env s
  exact this ▸ h
theorem mi_cong {K : PySem.W.Frag} {X : Cx} {W : WX} {tg x : Expr} {f f' : Env → Sto → R (List D × Gd)} (h : MI K T P X W tg x f) (e : ∀ env s, f env s = f' env s) : MI K T P X W tg x f' := by
  have : f = f' := funext fun env => funext fun s => e env s
  exact this ▸ h
theorem tyEq_ok {X : Cx} {ck : Ck} {ty : Ty} {tn : Str} {p : Pos} (C : Ctx X ck) (Gc : Gctx X.prog X.w X.K X.mg X.base X.A T P top k g) (hg : ck.gl tn = true) (h : tyEq T P ty tn = true) :
    PE X (.Name tn p) (tC (tyVV X.K T ty)) ∧ ∀ c, ty = .cls c → ∃ k, P.cls c = some k := by
  obtain ⟨h1, h2⟩ := ctx_gl C hg
  cases ty with
  | val => cases h
  | cls c =>
    simp only [tyEq, Bool.and_eq_true, decide_eq_true_eq] at h
    obtain ⟨rfl, hc⟩ := h
    obtain ⟨kc, hk⟩ := Option.isSome_iff_exists.mp hc
    exact ⟨pe_glob h1 (Gc.clsG _ _ hk) rfl h2, fun c' e => by cases e; exact ⟨kc, hk⟩⟩
  | _ =>
    have h := of_decide_eq_true (show decide (tn = _) = true from h)
    subst h
    exact ⟨pe_bltn h1 (Gc.fre _ (bn _ (by decide))) (by decide +kernel) rfl (by decide) h2, fun c' e => nomatch e⟩
theorem chks_len {t : Bool} {ck : Ck} : ∀ {es : List E} {xs : List Expr}, chks T P top t es ck xs = true → xs.length = es.length
  | [], [], _ => rfl
  | [], _ :: _, h => by simp [chks] at h
  | _ :: _, [], h => by simp [chks] at h
  | e :: es, x :: xs, h => by
    simp only [chks, Bool.and_eq_true] at h
    simp [chks_len h.2]
theorem takes_no {X : Cx} : Takes X noW := fun _ _ ⟨_, _, _, _, _, _, _, _, _, _, _, _, _, _, _, _, w⟩ => w.elim
theorem units_ok {X : Cx} (Gc : Gctx X.prog X.w X.K X.mg X.base X.A T P top k g) : X.A.units + 64 < cLine := by have := Gc.room.un; omega
theorem fill_nil {np : Nat} (xs : List D) : fill np xs [] = xs := by unfold fill; simp
end
section
variable (T : Tab) (P : Prog) (top : Nat → Bool) (k : Nat) (g : G)
def SE (e : E) : Prop := ∀ (X : Cx) (ck : Ck) (W : WX), Ctx X ck → Gctx X.prog X.w X.K X.mg X.base X.A T P top k g → Takes X W → ∀ (t : Bool) (x : Expr), chk T P top t e ck x = true → Both X.K T P X W t x (evE g e)
def SEs (es : List E) : Prop := ∀ (X : Cx) (ck : Ck) (W : WX), Ctx X ck → Gctx X.prog X.w X.K X.mg X.base X.A T P top k g → Takes X W → ∀ (xs : List Expr), chks T P top false es ck xs = true → MEs X.K T P X W (es.map (evE g)) xs
def STs (es : List E) : Prop := ∀ (X : Cx) (ck : Ck) (W : WX), Ctx X ck → Gctx X.prog X.w X.K X.mg X.base X.A T P top k g → Takes X W → ∀ (xs : List Expr), chks T P top true es ck xs = true → MTs X.K T P X W (es.map (evE g)) xs
def SO (e : Option E) : Prop := ∀ (X : Cx) (ck : Ck) (W : WX), Ctx X ck → Gctx X.prog X.w X.K X.mg X.base X.A T P top k g → Takes X W → ∀ (x : Option Expr), chkO T P top e ck x = true → MO X.K T P X W x (evO g e)
def SI (it : I) : Prop := ∀ (X : Cx) (ck : Ck) (W : WX), Ctx X ck → Gctx X.prog X.w X.K X.mg X.base X.A T P top k g → Takes X W → ∀ (tg x : Expr), chkI T P top it ck tg x = true → MI X.K T P X W tg x (evI g it) ∧ ∀ v, foldedSetIterable x X.env v = pure v
end
section
variable {T : Tab} {P : Prog} {top : Nat → Bool} {k : Nat} {g : G}
theorem sEs_nil : SEs T P top k g [] := fun X ck W C Gc tk xs h => by
  cases xs with
  | nil => exact .nil
  | cons => simp [chks] at h
theorem sEs_cons {e : E} {es : List E} (h1 : SE T P top k g e) (h2 : SEs T P top k g es) : SEs T P top k g (e :: es) := fun X ck W C Gc tk xs h => by
  cases xs with
  | nil => simp [chks] at h
  | cons x xs =>
    simp only [chks, Bool.and_eq_true] at h
    exact .cons (both_f (h1 X ck W C Gc tk false x h.1)) (h2 X ck W C Gc tk xs h.2)
theorem sTs_nil : STs T P top k g [] := fun X ck W C Gc tk xs h => by
  cases xs with
  | nil => exact .nil
  | cons => simp [chks] at h
theorem sTs_cons {e : E} {es : List E} (h1 : SE T P top k g e) (h2 : STs T P top k g es) : STs T P top k g (e :: es) := fun X ck W C Gc tk xs h => by
  cases xs with
  | nil => simp [chks] at h
  | cons x xs =>
    simp only [chks, Bool.and_eq_true] at h
    exact .cons (both_t (h1 X ck W C Gc tk true x h.1)) (h2 X ck W C Gc tk xs h.2)
theorem sO_none : SO T P top k g none := fun X ck W C Gc tk x h => by
  cases x with
  | none => exact mo_none
  | some => simp [chkO] at h
theorem sO_some {e : E} (h1 : SE T P top k g e) : SO T P top k g (some e) := fun X ck W C Gc tk x h => by
  cases x with
  | none => simp [chkO] at h
  | some x =>
    simp only [chkO] at h
    exact mo_some (both_f (h1 X ck W C Gc tk false x h))
theorem sE_bad   : SE T P top k g (.bad) := by
  intro X ck W C Gc tk t x h
  refine both_cong (f := fun _ _ => .no) ?_ fun env s => by rw [evE]
  cases t with
  | false => exact me_bad
  | true => exact mt_bad
theorem sE_var (i : Nat)  : SE T P top k g (.var i) := by
  intro X ck W C Gc tk t x h
  simp only [chk] at h
  split at h
  · obtain ⟨h1, h2, h3, h4⟩ := ctx_vis C h
    exact both_cong (both_of (me_var h1 h2 h3 h4) fun _ => rfl) fun env s => by rw [evE]
  · cases h
theorem sE_lit (d : D)  : SE T P top k g (.lit d) := by
  intro X ck W C Gc tk t x h
  simp only [chk] at h
  split at h
  · exact both_cong (both_of (lit_ok h) fun _ => rfl) fun env s => by rw [evE]
  · cases h
theorem sE_glob (i : Nat)  : SE T P top k g (.glob i) := by
  intro X ck W C Gc tk t x h
  simp only [chk] at h
  split at h
  · simp only [Bool.and_eq_true, decide_eq_true_eq] at h
    obtain ⟨h1, rfl, h3⟩ := h
    obtain ⟨d, hd⟩ := Option.isSome_iff_exists.mp h3
    obtain ⟨v, tt, rfl, hm⟩ := Gc.gint _ _ hd
    obtain ⟨q1, q2⟩ := ctx_gl C h1
    exact both_cong (both_of (me_glob q1 hm q2) fun _ => rfl) fun env s => by rw [evE, Gc.gg, hd]; rfl
  · cases h
theorem sE_bin (o : BOp) (a b : E) (i_a : SE T P top k g a) (i_b : SE T P top k g b) : SE T P top k g (.bin o a b) := by
  intro X ck W C Gc tk t x h
  simp only [chk] at h
  split at h
  · simp only [Bool.and_eq_true] at h
    obtain ⟨h1, h2, h3⟩ := h
    exact both_cong (both_of (me_op2 (opb_ok h1) (both_f (i_a X ck W C Gc tk false _ h2)) (both_f (i_b X ck W C Gc tk false _ h3))) fun _ => rfl) fun env s => by rw [evE]
  · cases h
theorem sE_neg (a : E) (i_a : SE T P top k g a) : SE T P top k g (.neg a) := by
  intro X ck W C Gc tk t x h
  simp only [chk] at h
  split at h
  · simp only [Bool.and_eq_true, decide_eq_true_eq] at h
    obtain ⟨rfl, h2⟩ := h
    exact both_cong (both_of (me_neg (both_f (i_a X ck W C Gc tk false _ h2))) fun _ => rfl) fun env s => by rw [evE] <;> rfl
  · cases h
theorem sE_cmp (o : COp) (a b : E) (i_a : SE T P top k g a) (i_b : SE T P top k g b) : SE T P top k g (.cmp o a b) := by
  intro X ck W C Gc tk t x h
  simp only [chk] at h
  split at h
  · simp only [Bool.and_eq_true] at h
    obtain ⟨h1, h2, h3, h4⟩ := h
    have ha := both_f (i_a X ck W C Gc tk false _ h3)
    have hb := both_f (i_b X ck W C Gc tk false _ h4)
    refine both_cong (f := fun env s => (evE g a env s).bind fun x s => (evE g b env s).bind fun y s => .opt ((cmpop s o x y).map D.bl) s) ?_ fun env s => by rw [evE]
    cases t with
    | false => exact me_cmp2 (cmp_ok (units_ok Gc) h1) (mark_of h2) ha hb
    | true => exact mt_cmp2 (cmp_ok (units_ok Gc) h1) (mark_of h2) ha hb
  · cases h
theorem sE_chain (o o' : COp) (a b c : E) (i_a : SE T P top k g a) (i_b : SE T P top k g b) (i_c : SE T P top k g c) : SE T P top k g (.chain o o' a b c) := by
  intro X ck W C Gc tk t x h
  simp only [chk] at h
  split at h
  · simp only [Bool.and_eq_true] at h
    obtain ⟨⟨h1, h1'⟩, h2, h3, h4, h5⟩ := h
    have ha := both_f (i_a X ck W C Gc tk false _ h3)
    have hb := both_f (i_b X ck W C Gc tk false _ h4)
    have hc := both_f (i_c X ck W C Gc tk false _ h5)
    refine both_cong (f := chF (fun s => cmpop s o) (fun s => cmpop s o') (evE g a) (evE g b) (evE g c)) ?_ fun env s => by rw [evE]; rfl
    cases t with
    | false => exact me_chain (cmp_ok (units_ok Gc) h1) (cmp_ok (units_ok Gc) h1') ha hb hc (mark_of h2)
    | true => exact mt_chain (cmp_ok (units_ok Gc) h1) (cmp_ok (units_ok Gc) h1') ha hb hc (mark_of h2)
  · cases h
theorem sE_and (es : List E) (is_es : SEs T P top k g es) (it_es : STs T P top k g es) : SE T P top k g (.and es) := by
  intro X ck W C Gc tk t x h
  simp only [chk] at h
  split at h
  · simp only [Bool.and_eq_true, decide_eq_true_eq, Bool.not_eq_true'] at h
    obtain ⟨rfl, h2, h3⟩ := h
    have ne : es.map (evE g) ≠ [] := by cases es <;> simp at h2 ⊢
    refine both_cong (f := andF (es.map (evE g))) ?_ fun env s => by rw [evE, evAnd_list]
    cases t with
    | false => exact and_of (is_es X ck W C Gc tk _ h3) ne
    | true => exact (andT_of (it_es X ck W C Gc tk _ h3) ne).pt
  · cases h
theorem sE_or (es : List E) (is_es : SEs T P top k g es) (it_es : STs T P top k g es) : SE T P top k g (.or es) := by
  intro X ck W C Gc tk t x h
  simp only [chk] at h
  split at h
  · simp only [Bool.and_eq_true, decide_eq_true_eq, Bool.not_eq_true'] at h
    obtain ⟨rfl, h2, h3⟩ := h
    have ne : es.map (evE g) ≠ [] := by cases es <;> simp at h2 ⊢
    refine both_cong (f := orF (es.map (evE g))) ?_ fun env s => by rw [evE, evOr_list]
    cases t with
    | false => exact or_of (is_es X ck W C Gc tk _ h3) ne
    | true => exact (orT_of (it_es X ck W C Gc tk _ h3) ne).pt
  · cases h
theorem sE_not (a : E) (i_a : SE T P top k g a) : SE T P top k g (.not a) := by
  intro X ck W C Gc tk t x h
  simp only [chk] at h
  split at h
  · simp only [Bool.and_eq_true, decide_eq_true_eq] at h
    obtain ⟨rfl, h2⟩ := h
    refine both_cong (f := nt (evE g a)) ?_ fun env s => by rw [evE]; rfl
    have ha := i_a X ck W C Gc tk t _ h2
    cases t with
    | false => exact me_not (both_f ha)
    | true => exact mt_not (both_t ha)
  · cases h
theorem sE_ite (c a b : E) (i_c : SE T P top k g c) (i_a : SE T P top k g a) (i_b : SE T P top k g b) : SE T P top k g (.ite c a b) := by
  intro X ck W C Gc tk t x h
  simp only [chk] at h
  split at h
  · simp only [Bool.and_eq_true, Bool.not_eq_true'] at h
    obtain ⟨rfl, h1, h2, h3⟩ := h
    refine both_cong (f := fun env s => (evE g c env s).bind fun x s => opt1 (MP.truthy s x) fun r => if r then evE g a env s else evE g b env s) ?_ fun env s => by rw [evE]
    exact me_ite (both_t (i_c X ck W C Gc tk true _ h1)) (both_f (i_a X ck W C Gc tk false _ h2)) (both_f (i_b X ck W C Gc tk false _ h3))
  · cases h
theorem sE_tup (es : List E) (is_es : SEs T P top k g es) : SE T P top k g (.tup es) := by
  intro X ck W C Gc tk t x h
  simp only [chk] at h
  split at h
  · simp only [Bool.and_eq_true, decide_eq_true_eq] at h
    obtain ⟨h1, h2, h3⟩ := h
    have hm := ma_of (is_es X ck W C Gc tk _ h3) h2
    rw [← evEs_list] at hm
    exact both_cong (both_of (me_tup hm fun env s xs s' e => by rw [evEs_len g e]; exact h1) fun _ => rfl) fun env s => by rw [evE]
  · cases h
theorem sE_lst (m : Bool) (es : List E) (is_es : SEs T P top k g es) : SE T P top k g (.lst m es) := by
  intro X ck W C Gc tk t x h
  simp only [chk] at h
  split at h
  · simp only [Bool.and_eq_true, decide_eq_true_eq] at h
    obtain ⟨h1, h2, h3⟩ := h
    have hm := ma_of (is_es X ck W C Gc tk _ h3) h2
    rw [← evEs_list] at hm
    exact both_cong (both_of (me_lst (m := m) hm fun env s xs s' e => by rw [evEs_len g e]; exact h1) fun _ => rfl) fun env s => by rw [evE]
  · cases h
theorem pps_of {X : Cx} {W : WX} {pos : Pos} : ∀ {ks : List D} {keys : List (Option Expr)} {fs : List FE} {values : List Expr}, keysC ks keys = true → MEs X.K T P X W fs values → fs.length = ks.length →
    ∃ kk : List Key, ks.map keyD = kk.map some ∧ PPs X pos keys values (trsOf X.K T P W (kk.map kV) fs) ∧ keys.all (·.isSome) = true ∧ keys.length = ks.length ∧ values.length = ks.length
  | [], keys, fs, values, hk, hm, hl => by
    simp only [keysC, List.isEmpty_iff] at hk
    subst hk
    cases hm with
    | nil => exact ⟨[], rfl, pps_nil, rfl, rfl, rfl⟩
    | cons => cases hl
  | k0 :: ks, keys, fs, values, hk, hm, hl => by
    simp only [keysC] at hk
    split at hk
    · rename_i c j p keys'
      simp only [Bool.and_eq_true] at hk
      obtain ⟨⟨h1, h2⟩, h3⟩ := hk
      cases hm with
      | nil => cases hl
      | cons h t =>
        obtain ⟨kk, q1, q2, q3, q4, q5⟩ := pps_of h3 t (by simpa using hl)
        obtain ⟨ky, hky⟩ := key_ok h1
        have hp : PE X (.Constant c j p) (tC (kV ky)) := by
          cases k0 <;> simp only [keyOk] at h1 <;> first | (cases h1; done) | skip
          · cases c <;> simp only [litEq] at h2 <;> first | (cases h2; done) | skip
            simp only [keyD, Option.some.injEq] at hky
            subst hky
            rw [← eq_of_beq h2]
            exact pe_int
          · cases c <;> simp only [litEq] at h2 <;> first | (cases h2; done) | skip
            simp only [keyD, Option.some.injEq] at hky
            subst hky
            rw [of_decide_eq_true h2]
            exact pe_str
        refine ⟨ky :: kk, by simp [hky, q1], pps_cons hp h q2, ?_, by simp [q4], by simp [q5]⟩
        simp [q3]
    · cases hk
theorem listF_eq : ∀ fs : List FE, listF fs = listF' fs
  | [] => rfl
  | f :: fs => by
    funext env s
    simp only [listF, listF', listF_eq fs]
theorem sE_dct (ks : List D) (vs : List E) (iv : SEs T P top k g vs) : SE T P top k g (.dct ks vs) := by
  intro X ck W C Gc tk t x h
  simp only [chk] at h
  split at h
  · simp only [Bool.and_eq_true, List.isEmpty_iff] at h
    obtain ⟨rfl, rfl⟩ := h
    exact both_cong (both_of me_dct0 fun _ => rfl) fun env s => by rw [evE]; simp [evEs]
  · rename_i keys values pos _
    simp only [Bool.and_eq_true, decide_eq_true_eq, Bool.not_eq_true'] at h
    obtain ⟨⟨h1, h2⟩, ⟨h3, h4⟩, h5⟩ := h
    obtain ⟨kk, q1, q2, q3, q4, q5⟩ := pps_of (pos := pos) h4 (iv X ck W C Gc tk _ h5) (by rw [List.length_map, h1])
    have hne : keys ≠ [] := fun e => by
      rw [e] at q4
      cases ks with
      | nil => cases h3
      | cons => cases q4
    refine both_cong (both_of (me_disp q2 q1 q3 (by omega) hne (by omega) q4.symm (by rw [List.length_map, h1])) fun _ => rfl) fun env s => ?_
    rw [evE, evEs_list, listF_eq]
  · cases h
theorem sE_dget (a b : E) (i_a : SE T P top k g a) (i_b : SE T P top k g b) : SE T P top k g (.dget a b) := by
  intro X ck W C Gc tk t x h
  simp only [chk] at h
  split at h
  · simp only [Bool.and_eq_true] at h
    obtain ⟨h1, h2, h3⟩ := h
    have hu := units_ok Gc
    exact both_cong (both_of (me_dget (by omega) (both_f (i_a X ck W C Gc tk false _ h2)) (both_f (i_b X ck W C Gc tk false _ h3)) (ix_of h1)) fun _ => rfl) fun env s => by rw [evE]
  · cases h
theorem sE_idx (a b : E) (i_a : SE T P top k g a) (i_b : SE T P top k g b) : SE T P top k g (.idx a b) := by
  intro X ck W C Gc tk t x h
  simp only [chk] at h
  split at h
  · simp only [Bool.and_eq_true] at h
    obtain ⟨h1, h2, h3⟩ := h
    exact both_cong (both_of (me_idx (both_f (i_a X ck W C Gc tk false _ h2)) (both_f (i_b X ck W C Gc tk false _ h3)) (ix_of h1)) fun _ => rfl) fun env s => by rw [evE]
  · cases h
theorem sE_slc (m : Bool) (a : E) (lo hi : Option E) (i_a : SE T P top k g a) (io_lo : SO T P top k g lo) (io_hi : SO T P top k g hi) : SE T P top k g (.slc m a lo hi) := by
  intro X ck W C Gc tk t x h
  simp only [chk] at h
  split at h
  · simp only [Bool.and_eq_true] at h
    obtain ⟨h1, h2, h3⟩ := h
    exact both_cong (both_of (me_slc (m := m) (both_f (i_a X ck W C Gc tk false _ h1)) (io_lo X ck W C Gc tk _ h2) (io_hi X ck W C Gc tk _ h3)) fun _ => rfl) fun env s => by rw [evE]
  · cases h
theorem sE_fld (a : E) (f : Nat) (i_a : SE T P top k g a) : SE T P top k g (.fld a f) := by
  intro X ck W C Gc tk t x h
  simp only [chk] at h
  split at h
  · simp only [Bool.and_eq_true, decide_eq_true_eq] at h
    obtain ⟨rfl, h1, h2⟩ := h
    refine both_cong (both_of (me_fld (g := g) Gc.tab Gc.gc (both_f (i_a X ck W C Gc tk false _ h2)) ?_) fun _ => rfl) fun env s => by rw [evE]
    exact base_of h1
  · cases h
theorem sE_call (f : Nat) (es : List E) (is_es : SEs T P top k g es) : SE T P top k g (.call f es) := by
  intro X ck W C Gc tk t x h
  simp only [chk] at h
  split at h
  · rename_i n p xs pos
    simp only [Bool.and_eq_true, callOk, decide_eq_true_eq] at h
    obtain ⟨h1, ⟨h2, rfl, h4⟩, h5, h6⟩ := h
    split at h4
    · rename_i fn hfn
      simp only [Bool.and_eq_true, decide_eq_true_eq, List.isEmpty_iff] at h4
      obtain ⟨q1, q2, q3⟩ := h4
      obtain ⟨a, fd, ps, r1, r2, r3, r4⟩ := Gc.fns _ _ hfn h2 q3
      obtain ⟨g1, g2⟩ := ctx_gl C h1
      obtain ⟨e1, e2⟩ := Gc.gn _ _ hfn
      have hm := ma_of (is_es X ck W C Gc tk _ h6) h5
      rw [← evEs_list] at hm
      cases xs with
      | nil =>
        cases es with
        | nil => exact absurd q2 (by simp)
        | cons => simp [chks] at h6
      | cons y ys =>
        have h5' := h5
        simp only [List.all_cons, Bool.and_eq_true] at h5'
        exact both_cong (both_of (me_callF r4 tk (Gc.room.mono (Nat.le_succ _)) g1 r1 r2 r3 hm (fun env s xs s' e => by rw [evEs_len g e]; exact q1) g2 (star_cons h5'.1) (star_any h5'.2)) fun _ => rfl) fun env s => by rw [evE, e2, q3]; simp only [fill_nil]
    · cases h4
  · cases h
theorem sE_make (c : Nat) (es : List E) (is_es : SEs T P top k g es) : SE T P top k g (.make c es) := by
  intro X ck W C Gc tk t x h
  simp only [chk] at h
  split at h
  · rename_i n p xs pos
    simp only [Bool.and_eq_true, makeOk, decide_eq_true_eq] at h
    obtain ⟨h1, ⟨rfl, h4⟩, h5, h6⟩ := h
    split at h4
    · rename_i kc hkc
      simp only [Bool.and_eq_true, Bool.not_eq_true'] at h4
      obtain ⟨hx, h4⟩ := h4
      split at h4
      · rename_i f hf
        split at h4
        · rename_i fn hfn
          simp only [Bool.and_eq_true, decide_eq_true_eq, List.isEmpty_iff] at h4
          obtain ⟨q1, q2, q3⟩ := h4
          obtain ⟨a, fd, ps, r1, r3, r4⟩ := Gc.mks _ _ _ _ hkc hx hf hfn q3
          obtain ⟨g1, g2⟩ := ctx_gl C h1
          have hm := ma_of (is_es X ck W C Gc tk _ h6) h5
          rw [← evEs_list] at hm
          cases xs with
          | nil =>
            cases es with
            | nil => simp at q2
            | cons => simp [chks] at h6
          | cons y ys =>
            have h5' := h5
            simp only [List.all_cons, Bool.and_eq_true] at h5'
            exact both_cong (both_of (me_make (g := g) Gc.gc hkc hf hx r1 r4 tk Gc.room g1 (Gc.clsG _ _ hkc) r3 hm (fun env s xs s' e => by rw [evEs_len g e]; exact q1) g2 (star_cons h5'.1) (star_any h5'.2)) fun _ => rfl) fun env s => by rw [evE]
        · cases h4
      · cases h4
    · cases h4
  · cases h
theorem sE_bi (b : Bi) (es : List E) (is_es : SEs T P top k g es) : SE T P top k g (.bi b es) := by
  intro X ck W C Gc tk t x h
  simp only [chk] at h
  split at h
  · rename_i n p xs pos
    simp only [Bool.and_eq_true, decide_eq_true_eq] at h
    obtain ⟨h1, ⟨hn, hl⟩, h5, h6⟩ := h
    obtain ⟨g1, g2⟩ := ctx_gl C h1
    have hM := is_es X ck W C Gc tk _ h6
    have hm := ma_of hM h5
    rw [← evEs_list] at hm
    have hfree : X.mg n = none := Gc.fre _ (by rw [hn]; cases b <;> exact bn _ (by decide))
    have hlen : xs.length = (biName b).2 := by
      rw [← hl]
      exact chks_len h6
    exact both_cong (both_of (bi_ok (A := X.A) C.calm b hn g1 hfree hm h5 (fun env s xs s' e => by rw [evEs_len g e]; exact hl) hlen) fun _ => rfl) fun env s => by rw [evE]
  · cases h
theorem sE_li (b : Li) (m : Bool) (a : E) (i_a : SE T P top k g a) : SE T P top k g (.li b m a) := by
  intro X ck W C Gc tk t x h
  simp only [chk] at h
  split at h
  · simp only [Bool.and_eq_true, decide_eq_true_eq] at h
    obtain ⟨h1, ⟨rfl, rfl⟩, h5, h6⟩ := h
    obtain ⟨g1, g2⟩ := ctx_gl C h1
    rename_i p l pos
    have ha := both_f (i_a X ck W C Gc tk false _ h6)
    have hm : MA X.K T P X W [l] (listF [evE g a]) := ma_of (.cons ha .nil) (by simp [h5])
    have := me_callTy (x := Str.ofString "list") (pos := pos) (p := p) (cm_list (m := m)) (fun s ds c fs s' => by
      split
      · rename_i d
        cases seqOf s d with
        | none => exact fun z => nomatch z
        | some xs => exact newL_ne
      · exact fun z => nomatch z) g1 (Gc.fre _ (bn _ (by decide))) (by decide +kernel) hm (by decide) (by decide) (star_cons h5) rfl
    refine both_cong (both_of this fun _ => rfl) fun env s => ?_
    rw [evE]
    simp only [listF, MP.R.bind_assoc, MP.R.bind_ok, lfn]
  · cases h
theorem sE_bm (b : Bm) (a : E) (es : List E) (i_a : SE T P top k g a) (is_es : SEs T P top k g es) : SE T P top k g (.bm b a es) := by
  intro X ck W C Gc tk t x h
  simp only [chk] at h
  split at h
  · simp only [Bool.and_eq_true, decide_eq_true_eq] at h
    obtain ⟨⟨hb, hl, rfl⟩, h1, h2, h3, h4, h5⟩ := h
    rename_i l ap r cp
    have ha := both_f (i_a X ck W C Gc tk false _ h4)
    have hm := ma_of (is_es X ck W C Gc tk _ h5) (by simp [h3])
    rw [← evEs_list] at hm
    have hfew : ((backTo cp (starEach [r] X.env)).all (fun x => !x.1) && (backToKw cp (keywordEach [] X.env)).all (fun x => x.1.isSome) && decide (([r] : List Expr).length + ([] : List Keyword).length + (if ([] : List Keyword).isEmpty then 0 else 1) < 30)) = true := by rw [star_cons h3]; rfl
    cases b <;> first | (cases hb; done) | skip
    · exact both_cong (both_of (me_bm (name := "append") PySem.F.slot_list_append PySem.F.type_list_append md_append ha hm (base_of h2) hfew h1 (star_cons h3) rfl) fun _ => rfl) fun env s => by rw [evE]
    · exact both_cong (both_of (me_bm (name := "pop") PySem.F.slot_list_pop PySem.F.type_list_pop md_popAt ha hm (base_of h2) hfew h1 (star_cons h3) rfl) fun _ => rfl) fun env s => by rw [evE]
    · exact both_cong (both_of (me_bm (name := "index") PySem.F.slot_list_index PySem.F.type_list_index md_index ha hm (base_of h2) hfew h1 (star_cons h3) rfl) fun _ => rfl) fun env s => by rw [evE]
  · simp only [Bool.and_eq_true, decide_eq_true_eq] at h
    obtain ⟨⟨rfl, hl, rfl⟩, h1, h2, h4⟩ := h
    rename_i l ap cp
    have ha := both_f (i_a X ck W C Gc tk false _ h4)
    match es, hl with
    | [], _ => exact both_cong (both_of (me_bm0 (name := "pop") PySem.F.slot_list_pop PySem.F.type_list_pop md_pop ha (base_of h2) h1) fun _ => rfl) fun env s => by rw [evE]; simp only [evEs]
  · cases h
theorem sE_isi (a : E) (ts : List Ty) (i_a : SE T P top k g a) : SE T P top k g (.isi a ts) := by
  intro X ck W C Gc tk t x h
  simp only [chk] at h
  split at h
  · simp only [Bool.and_eq_true, decide_eq_true_eq] at h
    obtain ⟨h1, rfl, h2, h3, h4, h5⟩ := h
    split at h5
    · rename_i ty
      obtain ⟨g1, g2⟩ := ctx_gl C h1
      obtain ⟨q1, q2⟩ := tyEq_ok C Gc h2 h5
      have ha := both_f (i_a X ck W C Gc tk false _ h4)
      refine both_cong (both_of (me_isi (g := g) Gc.tab Gc.gs q2 ha q1 g1 (Gc.fre _ (bn _ (by decide))) (star_cons h3) rfl rfl) fun _ => rfl) fun env s => ?_
      rw [evE]
      congr 1
      funext x s
      simp only [tyAny]
      cases tyIs g s x ty with
      | none => rfl
      | some b => cases b <;> rfl
    · cases h5
  · cases h
theorem sE_comp (m : Bool) (own : List Nat) (elt : E) (tg : MP.T) (it : I) (ifs : List E) (i_elt : SE T P top k g elt) (ii_it : SI T P top k g it) (it_ifs : STs T P top k g ifs) : SE T P top k g (.comp m own elt tg it ifs) := by
  intro X ck W C Gc tk t x h
  simp only [chk] at h
  split at h
  · rename_i elt' tg' iter ifs' as scope pos
    simp only [Bool.and_eq_true, decide_eq_true_eq] at h
    obtain ⟨⟨rfl, h2, h3, h4⟩, h5, h6, h7⟩ := h
    have ok : BlkOk X.N X.env.scope scope (ownN ck own) := by rw [C.N, C.sc]; exact blkOk_by h2
    have hI := ii_it X ck W C Gc tk tg' iter h5
    have hsl : ∀ i ∈ slotsT tg, i ∈ (ownN ck own).map (·.2) := by
      rw [own_map]
      simpa [List.all_eq_true] using h3
    refine both_cong (both_of (me_lc (m := m) (t := tg) (fc := evAnd g ifs) (fe := evE g elt) C.calm C.nd hI.1 ok hsl (fun s H Ca cl fp => sndT (ctx_blk C ok s H Ca cl fp) tg tg' h4) (fun s H Ca cl fp => ?_) (fun s H Ca cl fp => both_f (i_elt _ (ck.blk scope) noW (ctx_blk C ok s H Ca cl fp) Gc takes_no false _ h6)) hI.2) fun _ => rfl) fun env s => ?_
    · cases ifs' with
      | nil =>
        cases ifs with
        | nil => exact pts_nilM
        | cons => simp at h7
      | cons c cs =>
        cases cs with
        | nil =>
          simp only [Bool.and_eq_true, decide_eq_true_eq] at h7
          have q := it_ifs _ (ck.blk scope) noW (ctx_blk C ok s H Ca cl fp) Gc takes_no _ h7.2
          match ifs, h7, q with
          | [f], _, .cons q1 .nil => exact pts_one q1
        | cons => cases h7
    · rw [evE, own_map]
      rfl
  · cases h
theorem sI_seq (e : E) (i_e : SE T P top k g e) : SI T P top k g (.seq e) := by
  intro X ck W C Gc tk tg x h
  simp only [chkI, Bool.and_eq_true] at h
  exact ⟨mi_cong (mi_seq (both_f (i_e X ck W C Gc tk false x h.2))) fun env s => by rw [evI]; rfl, set_of h.1⟩
theorem sI_range (es : List E) (is_es : SEs T P top k g es) : SI T P top k g (.range es) := by
  intro X ck W C Gc tk tg x h
  simp only [chkI] at h
  split at h
  · simp only [Bool.and_eq_true, decide_eq_true_eq, Bool.or_eq_true] at h
    obtain ⟨⟨h1, rfl⟩, hl, h5, h6⟩ := h
    obtain ⟨g1, g2⟩ := ctx_gl C h1
    refine ⟨?_, fun _ => rfl⟩
    have hm := ma_of (is_es X ck W C Gc tk _ h6) h5
    rw [← evEs_list] at hm
    have hlen := chks_len h6
    rename_i p xs pos
    refine mi_cong (f := rangeF (evEs g es)) ?_ fun env s => by rw [evI]; rfl
    rcases hl with hl | hl
    · obtain ⟨a, rfl⟩ := List.length_eq_one_iff.mp (hlen.trans hl)
      exact mi_range1 g1 (Gc.fre _ (bn _ (by decide))) hm (star_cons (by simpa using h5)) fun env s xs s' e => by rw [evEs_len g e]; exact hl
    · obtain ⟨a, b, rfl⟩ := len2 (hlen.trans hl)
      simp only [List.all_cons, List.all_nil, Bool.and_true, Bool.and_eq_true] at h5
      exact mi_range2 g1 (Gc.fre _ (bn _ (by decide))) hm (by rw [star_cons h5.1, star_cons h5.2]; rfl) (star_cons h5.2) fun env s xs s' e => by rw [evEs_len g e]; exact hl
  · cases h
theorem sI_enum (e : E) (i_e : SE T P top k g e) : SI T P top k g (.enum e) := by
  intro X ck W C Gc tk tg x h
  simp only [chkI] at h
  split at h
  · simp only [Bool.and_eq_true, decide_eq_true_eq] at h
    obtain ⟨ht, ⟨h1, rfl⟩, h5, h6⟩ := h
    obtain ⟨g1, g2⟩ := ctx_gl C h1
    refine ⟨?_, fun _ => rfl⟩
    cases tg <;> simp only [isTup] at ht <;> first | (cases ht; done) | skip
    exact mi_cong (mi_enum g1 (Gc.fre _ (bn _ (by decide))) (both_f (i_e X ck W C Gc tk false _ h6)) (star_cons h5)) fun env s => by rw [evI]
  · cases h
theorem sI_zip (es : List E) (is_es : SEs T P top k g es) : SI T P top k g (.zip es) := by
  intro X ck W C Gc tk tg x h
  simp only [chkI] at h
  split at h
  · simp only [Bool.and_eq_true, decide_eq_true_eq, Bool.or_eq_true] at h
    obtain ⟨ht, ⟨h1, rfl⟩, hl, h5, h6⟩ := h
    obtain ⟨g1, g2⟩ := ctx_gl C h1
    refine ⟨?_, fun _ => rfl⟩
    have hm := ma_of (is_es X ck W C Gc tk _ h6) h5
    rw [← evEs_list] at hm
    have hlen := chks_len h6
    rename_i p xs pos
    cases tg <;> simp only [isTup] at ht <;> first | (cases ht; done) | skip
    refine mi_cong (f := zipF (evEs g es)) ?_ fun env s => by rw [evI]; rfl
    have h5' := h5
    rcases hl with hl | hl
    · obtain ⟨a, b, rfl⟩ := len2 (hlen.trans hl)
      simp only [List.all_cons, List.all_nil, Bool.and_true, Bool.and_eq_true] at h5
      exact mi_zip2 g1 (Gc.fre _ (bn _ (by decide))) hm (star_cons h5.1) (star_any (by simp [h5.2])) fun env s xs s' e => by rw [evEs_len g e]; exact hl
    · obtain ⟨a, b, c, rfl⟩ := len3 (hlen.trans hl)
      simp only [List.all_cons, List.all_nil, Bool.and_true, Bool.and_eq_true] at h5
      exact mi_zip3 g1 (Gc.fre _ (bn _ (by decide))) hm (star_cons h5.1) (star_any (by simp [h5.2.1, h5.2.2])) fun env s xs s' e => by rw [evEs_len g e]; exact hl
  · cases h
theorem sI_rev (e : E) (i_e : SE T P top k g e) : SI T P top k g (.rev e) := by
  intro X ck W C Gc tk tg x h
  simp only [chkI] at h
  split at h
  · simp only [Bool.and_eq_true, decide_eq_true_eq] at h
    obtain ⟨⟨h1, rfl⟩, h5, h6⟩ := h
    obtain ⟨g1, g2⟩ := ctx_gl C h1
    exact ⟨mi_cong (mi_rev g1 (Gc.fre _ (bn _ (by decide))) (both_f (i_e X ck W C Gc tk false _ h6)) (star_cons h5)) fun env s => by rw [evI], fun _ => rfl⟩
  · cases h
end
end MP
set_option autoImplicit false
set_option linter.all false
set_option maxRecDepth 10000
set_option maxHeartbeats 2000000
/-! MPu1: what stands in an except suite. -/
namespace MP
open PySem PySem.Spec PyProof.Rows L2
section
variable {T : Tab} {P : Prog} {top : Nat → Bool} {k : Nat} {g : G}
theorem me_xfld {X0 : Cx} {a : Addr} {oe : Obj} {pn : List (Addr × Obj)} {i f : Nat} {n : Str} {p p2 : Pos} (O : XTab X0.K T P) (hg : g.cls = P.cls) (hf : ∃ vs, oe.data = .fields vs)
    (hN : X0.N[i]? = some n) (hv : Vis X0.env.scope n) (hd : (n == ("__debug__" : Str)) = false) (hcd : (n == ("__classdict__" : Str)) = false) :
    ME X0.K (T.sw [(a, oe)]) P (X0.suite a ((a, oe) :: pn)) noW (.Attribute (.Name n p) (T.anm f) p2) (fun env s => opt1 (getE env i) fun x => .opt (xfield g x f) s) := by
  refine ⟨fun pins s σ H Q I q => ?_⟩
  obtain ⟨env, s1, w, E, S, o⟩ := q
  dsimp only at o
  cases hv1 : getE env i with
  | none => rw [hv1] at o; exact o.elim
  | some d =>
    rw [hv1] at o
    simp only [opt1_some] at o
    obtain ⟨v, h1, r⟩ := E.2 i d hv1
    cases r with
    | @exc1 a' dd c kc f' x v' oe' h hc hdd fd hk hfl hxd rx =>
      have hp : (a', oe') = (a, oe) := List.mem_singleton.mp (show (a', oe') ∈ [(a, oe)] from h)
      cases hp
      simp only [xfield, hg, hk] at o
      by_cases e : kc.exn = true ∧ kc.flds = [f]
      · rw [if_pos e] at o
        obtain ⟨kx, e⟩ := e
        have ef : f' = f := by rw [e] at hfl; cases hfl; rfl
        subst ef
        have T1 := (O.xf _ _ hk kx).1
        have T2 := (O.oex _ _ _ hk kx e).2
        exact (pe_xf (oe := oe) (d := some dd) T1 T2 ⟨hc, hdd⟩ hf (pe_var (X := X0.suite a ((a, oe) :: pn)) hN hv hd hcd)).run pins s σ H Q I ⟨_, h1, rfl, rfl, dd, _, v', rfl, hxd, (by show (match T.anm f' == T.anm f' with | true => some v' | false => none) = some v'; rw [beq_self_eq_true]), o.here S rx⟩
      · rw [if_neg e] at o
        exact o.elim
    | _ => simp only [xfield] at o; exact o.elim
theorem exnG_ok {c : Nat} (hg : g.cls = P.cls) (h : exnG g c = true) : ∃ k, P.cls c = some k ∧ k.exn = true := by
  unfold exnG at h
  rw [hg] at h
  split at h
  · rename_i k hk
    exact ⟨k, hk, h⟩
  · cases h
theorem me_xisi {X0 : Cx} {a : Addr} {oe : Obj} {pn : List (Addr × Obj)} {i : Nat} {n : Str} {p p1 p2 : Pos} {cE : Expr} {cV : V} {cv : Value} {ty : Ty} (O : XTab X0.K T P) (hg : g.cls = P.cls) (hf : ∃ vs, oe.data = .fields vs)
    (hN : X0.N[i]? = some n) (hv : Vis X0.env.scope n) (hd : (n == ("__debug__" : Str)) = false) (hcd : (n == ("__classdict__" : Str)) = false) (hc : PE (X0.suite a ((a, oe) :: pn)) cE (tC cV)) (hcv : ∀ u, RelV cV u → u = cv)
    (hk : ∀ c k b, P.cls c = some k → k.exn = true → xis g (.exc c []) ty = some b → PySem.W.kitOne X0.K (.ref (ca X0.K T c)) cv = some b) (hgl : Gl X0 "isinstance") (hm : X0.mg "isinstance" = none)
    (he : starEach [.Name n p, cE] X0.env = (false, eval (.Name n p) X0.env) :: starEach [cE] X0.env) (he2 : starEach [cE] X0.env = (false, eval cE X0.env) :: starEach [] X0.env) (hpl : (backTo p2 (starEach [cE] X0.env)).any (·.1) = false) :
    ME X0.K (T.sw [(a, oe)]) P (X0.suite a ((a, oe) :: pn)) noW (.Call (.Name "isinstance" p1) [.Name n p, cE] [] p2) (fun env s => opt1 (getE env i) fun x => .opt ((xis g x ty).map D.bl) s) := by
  refine ⟨fun pins s σ H Q I q => ?_⟩
  obtain ⟨env, s1, w, E, S, o⟩ := q
  dsimp only at o
  cases hv1 : getE env i with
  | none => rw [hv1] at o; exact o.elim
  | some d =>
    rw [hv1] at o
    simp only [opt1_some] at o
    obtain ⟨v, h1, r⟩ := E.2 i d hv1
    cases hb : xis g d ty with
    | none => rw [hb] at o; exact o.elim
    | some b =>
      rw [hb] at o
      simp only [Option.map_some, R.opt_some] at o
      cases r with
      | @exc0 a' c oe' h hcl hdd =>
        have hp : (a', oe') = (a, oe) := List.mem_singleton.mp (show (a', oe') ∈ [(a, oe)] from h)
        cases hp
        have hx : exnG g c = true := by
          cases ty <;> simp only [xis] at hb <;> first | (cases hb; done) | (split at hb <;> first | assumption | cases hb)
        obtain ⟨kc, hkc, hkx⟩ := exnG_ok hg hx
        have T1 := (O.xf _ _ hkc hkx).2
        have q1 := hk c kc b hkc hkx hb
        exact (pe_callB (X := X0.suite a ((a, oe) :: pn)) (call_isE (X := X0) (oe := oe) (pn := pn) T1 ⟨hcl, hdd⟩ hf) hgl hm (by decide +kernel) (pa_cons (pe_var (X := X0.suite a ((a, oe) :: pn)) hN hv hd hcd) (pa_cons hc pa_nil he2) he) (by decide) (by decide) he hpl).run pins s σ H Q I ⟨_, h1, cV, cv, b, rfl, hcv, q1, o.here S (.bl b)⟩
      | _ => cases ty <;> simp only [xis] at hb <;> cases hb
section
variable {X : Cx} {ck : Ck} {a : Addr} {oe : Obj} {pn : List (Addr × Obj)}
mutual
theorem sndX (C : Ctx X ck) (Gc : Gctx X.prog X.w X.K X.mg X.base X.A T P top k g) (hd : ∃ vs, oe.data = .fields vs) (i : Nat) : ∀ (e : E) (x : Expr), chkX T P i e ck x = true → ME X.K (T.sw [(a, oe)]) P (X.suite a ((a, oe) :: pn)) noW x (evE g e)
  | .lit d, x, h => by
    simp only [chkX] at h
    split at h
    · exact me_cong (lit_ok (X := X.suite a ((a, oe) :: pn)) h) fun env s => by rw [evE]
    · cases h
  | .var j, x, h => by
    simp only [chkX] at h
    split at h
    · simp only [Bool.and_eq_true] at h
      obtain ⟨h1, h2, h3, h4⟩ := ctx_vis C h.2
      exact me_cong (me_var (X := X.suite a ((a, oe) :: pn)) h1 h2 h3 h4) fun env s => by rw [evE]
    · cases h
  | .xfld j f, x, h => by
    simp only [chkX] at h
    split at h
    · simp only [Bool.and_eq_true, beq_iff_eq, decide_eq_true_eq] at h
      obtain ⟨rfl, hv, rfl⟩ := h
      obtain ⟨h1, h2, h3, h4⟩ := ctx_vis C hv
      exact me_cong (me_xfld Gc.xt Gc.gc hd h1 h2 h3 h4) fun env s => by rw [evE]
    · cases h
  | .xisi j ty, x, h => by
    simp only [chkX] at h
    split at h
    · simp only [Bool.and_eq_true, beq_iff_eq, decide_eq_true_eq] at h
      obtain ⟨⟨hm, rfl⟩, ⟨rfl, hv⟩, ht, hty⟩ := h
      obtain ⟨h1, h2, h3, h4⟩ := ctx_vis C hv
      obtain ⟨g1, g2⟩ := ctx_gl C hm
      obtain ⟨t1, t2⟩ := ctx_gl C ht
      cases ty with
      | cls c =>
        simp only [Bool.and_eq_true, decide_eq_true_eq] at hty
        obtain ⟨rfl, hx⟩ := hty
        obtain ⟨kc, hkc, hkx⟩ : ∃ k, P.cls c = some k ∧ k.exn = true := by
          unfold exnC at hx
          split at hx
          · rename_i k hk; exact ⟨k, hk, hx⟩
          · cases hx
        exact me_cong (me_xisi (g := g) (ty := .cls c) (cV := .ref (ca X.K T c)) (cv := .ref (ca X.K T c)) Gc.xt Gc.gc hd h1 h2 h3 h4 (pe_glob (X := X.suite a ((a, oe) :: pn)) t1 (Gc.clsG _ _ hkc) rfl t2) (fun u r => r) (fun c' k' b hk' hx' hb => by
          have hb : (if exnG g c' = true then some (g.sub c' c) else none) = some b := hb
          by_cases q : exnG g c' = true
          · rw [if_pos q, Gc.gs] at hb
            rw [← hb]
            exact (Gc.xt.exm _ _ _ _ hk' hx' hkc hkx).2
          · rw [if_neg q] at hb; cases hb) g1 (Gc.fre _ (bn _ (by decide))) rfl rfl rfl) fun env s => by rw [evE]
      | val =>
        simp only [decide_eq_true_eq] at hty
        subst hty
        exact me_cong (me_xisi (g := g) (ty := .val) (cV := .ty "ValueError") (cv := .type "ValueError") Gc.xt Gc.gc hd h1 h2 h3 h4 (pe_bltn (X := X.suite a ((a, oe) :: pn)) t1 (Gc.fre _ (bn _ (by decide))) (by decide +kernel) rfl (by decide) t2) (fun u r => r) (fun c' k' b hk' hx' hb => by
          have hb : (if exnG g c' = true then some true else none) = some b := hb
          by_cases q : exnG g c' = true
          · rw [if_pos q] at hb
            rw [← hb]
            exact Gc.xt.val _ _ hk' hx'
          · rw [if_neg q] at hb; cases hb) g1 (Gc.fre _ (bn _ (by decide))) rfl rfl rfl) fun env s => by rw [evE]
      | _ => cases hty
    · cases h
  | .tup es, x, h => by
    simp only [chkX] at h
    split at h
    · simp only [Bool.and_eq_true, decide_eq_true_eq] at h
      obtain ⟨h1, h2, h3⟩ := h
      have hm := ma_of (X := X.suite a ((a, oe) :: pn)) (sndXs C Gc hd i es _ h3) h2
      rw [← evEs_list] at hm
      exact me_cong (me_tup hm fun env s xs s' e => by rw [evEs_len g e]; exact h1) fun env s => by rw [evE]
    · cases h
  | .not b, x, h => by
    simp only [chkX] at h
    split at h
    · simp only [Bool.and_eq_true, decide_eq_true_eq] at h
      obtain ⟨rfl, h2⟩ := h
      exact me_cong (me_not (X := X.suite a ((a, oe) :: pn)) (sndX C Gc hd i b _ h2)) fun env s => by rw [evE]; rfl
    · cases h
  | .and es, x, h => by
    simp only [chkX] at h
    split at h
    · simp only [Bool.and_eq_true, decide_eq_true_eq, Bool.not_eq_true'] at h
      obtain ⟨rfl, h2, h3⟩ := h
      have ne : es.map (evE g) ≠ [] := by cases es <;> simp at h2 ⊢
      exact me_cong (and_of (X := X.suite a ((a, oe) :: pn)) (sndXs C Gc hd i es _ h3) ne) fun env s => by rw [evE, evAnd_list]
    · cases h
  | .or es, x, h => by
    simp only [chkX] at h
    split at h
    · simp only [Bool.and_eq_true, decide_eq_true_eq, Bool.not_eq_true'] at h
      obtain ⟨rfl, h2, h3⟩ := h
      have ne : es.map (evE g) ≠ [] := by cases es <;> simp at h2 ⊢
      exact me_cong (or_of (X := X.suite a ((a, oe) :: pn)) (sndXs C Gc hd i es _ h3) ne) fun env s => by rw [evE, evOr_list]
    · cases h
  | .cmp o b c, x, h => by
    simp only [chkX] at h
    split at h
    · simp only [Bool.and_eq_true] at h
      obtain ⟨h1, h2, h3, h4⟩ := h
      have hu0 : X.A.units + 64 < cLine := units_ok Gc
      have hu : (X.suite a ((a, oe) :: pn)).A.units + 64 < cLine := hu0
      exact me_cong (me_cmp2 (X := X.suite a ((a, oe) :: pn)) (cmp_ok hu h1) (mark_of h2) (sndX C Gc hd i b _ h3) (sndX C Gc hd i c _ h4)) fun env s => by rw [evE]
    · cases h
  | .bad, _, h => by simp [chkX] at h
  | .glob _, _, h => by simp [chkX] at h
  | .bin .., _, h => by simp [chkX] at h
  | .neg .., _, h => by simp [chkX] at h
  | .chain .., _, h => by simp [chkX] at h
  | .ite .., _, h => by simp [chkX] at h
  | .lst .., _, h => by simp [chkX] at h
  | .dct .., _, h => by simp [chkX] at h
  | .setdef .., _, h => by simp [chkX] at h
  | .idx .., _, h => by simp [chkX] at h
  | .slc .., _, h => by simp [chkX] at h
  | .fld .., _, h => by simp [chkX] at h
  | .call .., _, h => by simp [chkX] at h
  | .callK .., _, h => by simp [chkX] at h
  | .meth .., _, h => by simp [chkX] at h
  | .make .., _, h => by simp [chkX] at h
  | .bi .., _, h => by simp [chkX] at h
  | .li .., _, h => by simp [chkX] at h
  | .bm .., _, h => by simp [chkX] at h
  | .isi .., _, h => by simp [chkX] at h
  | .dget .., _, h => by simp [chkX] at h
  | .din .., _, h => by simp [chkX] at h
  | .comp .., _, h => by simp [chkX] at h
  | .comp2 .., _, h => by simp [chkX] at h
theorem sndXs (C : Ctx X ck) (Gc : Gctx X.prog X.w X.K X.mg X.base X.A T P top k g) (hd : ∃ vs, oe.data = .fields vs) (i : Nat) : ∀ (es : List E) (xs : List Expr), chkXs T P i es ck xs = true → MEs X.K (T.sw [(a, oe)]) P (X.suite a ((a, oe) :: pn)) noW (es.map (evE g)) xs
  | [], xs, h => by
    cases xs with
    | nil => exact .nil
    | cons => simp [chkXs] at h
  | e :: es, xs, h => by
    cases xs with
    | nil => simp [chkXs] at h
    | cons x xs =>
      simp only [chkXs, Bool.and_eq_true] at h
      exact .cons (sndX C Gc hd i e x h.1) (sndXs C Gc hd i es xs h.2)
end
end
/-! ### no exception is kept -/
section
variable {i : Nat} {env : Env} {s : Sto} {ck : Ck}
/-- a value without an exception, the store as it was -/
def OkX (s : Sto) : R D → Prop
  | .ok d s' => d.nox = true ∧ s' = s
  | .ex .. => False
  | .no => True
def OkXs (s : Sto) : R (List D) → Prop
  | .ok d s' => D.noxs d = true ∧ s' = s
  | .ex .. => False
  | .no => True
theorem okX_opt {o : Option D} (h : ∀ d, o = some d → d.nox = true) : OkX s (.opt o s) := by
  cases o with
  | none => trivial
  | some d => exact ⟨h d rfl, rfl⟩
theorem okX_bind {r : R D} {f : D → Sto → R D} (h : OkX s r) (hf : ∀ d, d.nox = true → OkX s (f d s)) : OkX s (r.bind f) := by
  cases r with
  | ok d s' => obtain ⟨h1, rfl⟩ := h; exact hf d h1
  | ex => exact h.elim
  | no => trivial
theorem okX_opt1 {α : Type} {o : Option α} {f : α → R D} (hf : ∀ a, OkX s (f a)) : OkX s (opt1 o f) := by
  cases o with
  | none => trivial
  | some a => exact hf a
structure EnvX (i : Nat) (env : Env) : Prop where
  other : ∀ j d, j ≠ i → getE env j = some d → d.nox = true
  here : ∀ c fs, getE env i = some (.exc c fs) → D.noxs fs = true
mutual
theorem noxE (g : G) (hE : EnvX i env) : ∀ (e : E) (x : Expr), chkX T P i e ck x = true → OkX s (evE g e env s)
  | .lit d, x, h => by
    simp only [chkX] at h
    split at h
    · rw [evE]
      refine ⟨?_, rfl⟩
      cases d <;> first | rfl | (rename_i c _ _; cases c <;> cases h)
    · cases h
  | .var j, x, h => by
    simp only [chkX] at h
    split at h
    · simp only [Bool.and_eq_true, Bool.not_eq_true', beq_eq_false_iff_ne] at h
      rw [evE]
      exact okX_opt fun d hd => hE.other j d h.1 hd
    · cases h
  | .xfld j f, x, h => by
    simp only [chkX] at h
    split at h
    · simp only [Bool.and_eq_true, beq_iff_eq] at h
      obtain ⟨rfl, _⟩ := h
      rw [evE]
      cases hv : getE env j with
      | none => trivial
      | some d =>
        refine okX_opt fun y hy => ?_
        unfold xfield at hy
        split at hy
        · rename_i c x
          have := hE.here c [x] hv
          simp only [D.noxs, Bool.and_true] at this
          split at hy
          · split at hy
            · cases hy; exact this
            · cases hy
          · cases hy
        · cases hy
    · cases h
  | .xisi j ty, x, h => by
    rw [evE]
    exact okX_opt1 fun d => okX_opt fun y hy => by
      rw [Option.map_eq_some_iff] at hy
      obtain ⟨b, _, rfl⟩ := hy
      rfl
  | .tup es, x, h => by
    simp only [chkX] at h
    split at h
    · simp only [Bool.and_eq_true] at h
      have ih := noxEs g hE es _ h.2.2
      rw [evE]
      cases r : evEs g es env s with
      | ok xs s' => rw [r] at ih; exact ih
      | ex => rw [r] at ih; exact ih.elim
      | no => trivial
    · cases h
  | .not b, x, h => by
    simp only [chkX] at h
    split at h
    · simp only [Bool.and_eq_true] at h
      rw [evE]
      exact okX_bind (noxE g hE b _ h.2) fun d _ => okX_opt fun y hy => by
        rw [Option.map_eq_some_iff] at hy
        obtain ⟨b, _, rfl⟩ := hy
        rfl
    · cases h
  | .and es, x, h => by
    simp only [chkX] at h
    split at h
    · simp only [Bool.and_eq_true] at h
      rw [evE]
      exact noxAnd g hE es _ h.2.2
    · cases h
  | .or es, x, h => by
    simp only [chkX] at h
    split at h
    · simp only [Bool.and_eq_true] at h
      rw [evE]
      exact noxOr g hE es _ h.2.2
    · cases h
  | .cmp o b c, x, h => by
    simp only [chkX] at h
    split at h
    · simp only [Bool.and_eq_true] at h
      rw [evE]
      exact okX_bind (noxE g hE b _ h.2.2.1) fun d _ => okX_bind (noxE g hE c _ h.2.2.2) fun d' _ => okX_opt fun y hy => by
        rw [Option.map_eq_some_iff] at hy
        obtain ⟨b, _, rfl⟩ := hy
        rfl
    · cases h
  | .bad, _, h => by simp [chkX] at h
  | .glob _, _, h => by simp [chkX] at h
  | .bin .., _, h => by simp [chkX] at h
  | .neg .., _, h => by simp [chkX] at h
  | .chain .., _, h => by simp [chkX] at h
  | .ite .., _, h => by simp [chkX] at h
  | .lst .., _, h => by simp [chkX] at h
  | .dct .., _, h => by simp [chkX] at h
  | .setdef .., _, h => by simp [chkX] at h
  | .idx .., _, h => by simp [chkX] at h
  | .slc .., _, h => by simp [chkX] at h
  | .fld .., _, h => by simp [chkX] at h
  | .call .., _, h => by simp [chkX] at h
  | .callK .., _, h => by simp [chkX] at h
  | .meth .., _, h => by simp [chkX] at h
  | .make .., _, h => by simp [chkX] at h
  | .bi .., _, h => by simp [chkX] at h
  | .li .., _, h => by simp [chkX] at h
  | .bm .., _, h => by simp [chkX] at h
  | .isi .., _, h => by simp [chkX] at h
  | .dget .., _, h => by simp [chkX] at h
  | .din .., _, h => by simp [chkX] at h
  | .comp .., _, h => by simp [chkX] at h
  | .comp2 .., _, h => by simp [chkX] at h
theorem noxEs (g : G) (hE : EnvX i env) : ∀ (es : List E) (xs : List Expr), chkXs T P i es ck xs = true → OkXs s (evEs g es env s)
  | [], xs, h => by rw [evEs]; exact ⟨rfl, rfl⟩
  | e :: es, xs, h => by
    cases xs with
    | nil => simp [chkXs] at h
    | cons x xs =>
      simp only [chkXs, Bool.and_eq_true] at h
      have h1 := noxE g hE e x h.1
      have h2 := noxEs g hE es xs h.2
      rw [evEs]
      cases r : evE g e env s with
      | ok d s' =>
        rw [r] at h1
        obtain ⟨h3, e⟩ := h1
        simp only [R.bind_ok]
        rw [e]
        cases r2 : evEs g es env s with
        | ok ds s2 => rw [r2] at h2; exact ⟨by simp only [D.noxs, h3, h2.1, Bool.and_self], h2.2⟩
        | ex => rw [r2] at h2; exact h2.elim
        | no => trivial
      | ex => rw [r] at h1; exact h1.elim
      | no => trivial
theorem noxAnd (g : G) (hE : EnvX i env) : ∀ (es : List E) (xs : List Expr), chkXs T P i es ck xs = true → OkX s (evAnd g es env s)
  | [], xs, h => by rw [evAnd]; exact ⟨rfl, rfl⟩
  | [e], xs, h => by
    cases xs with
    | nil => simp [chkXs] at h
    | cons x xs =>
      simp only [chkXs, Bool.and_eq_true] at h
      rw [evAnd]
      exact noxE g hE e x h.1
  | e :: e' :: es, xs, h => by
    cases xs with
    | nil => simp [chkXs] at h
    | cons x xs =>
      rw [chkXs, Bool.and_eq_true] at h
      rw [evAnd]
      · refine okX_bind (noxE g hE e x h.1) fun d hd => okX_opt1 fun b => ?_
        split
        · exact noxAnd g hE (e' :: es) xs h.2
        · exact ⟨hd, rfl⟩
      · intro h; cases h
theorem noxOr (g : G) (hE : EnvX i env) : ∀ (es : List E) (xs : List Expr), chkXs T P i es ck xs = true → OkX s (evOr g es env s)
  | [], xs, h => by rw [evOr]; exact ⟨rfl, rfl⟩
  | [e], xs, h => by
    cases xs with
    | nil => simp [chkXs] at h
    | cons x xs =>
      simp only [chkXs, Bool.and_eq_true] at h
      rw [evOr]
      exact noxE g hE e x h.1
  | e :: e' :: es, xs, h => by
    cases xs with
    | nil => simp [chkXs] at h
    | cons x xs =>
      rw [chkXs, Bool.and_eq_true] at h
      rw [evOr]
      · refine okX_bind (noxE g hE e x h.1) fun d hd => okX_opt1 fun b => ?_
        split
        · exact ⟨hd, rfl⟩
        · exact noxOr g hE (e' :: es) xs h.2
      · intro h; cases h
end
end
end
end MP
set_option autoImplicit false
set_option linter.all false
set_option maxRecDepth 10000
set_option maxHeartbeats 1000000
/-! MPv: expressions: the induction. -/
namespace MP
open PySem PySem.Spec PyProof.Rows L2
section
variable (T : Tab) (P : Prog) (top : Nat → Bool) (k : Nat) (g : G)
mutual
theorem sndE : ∀ e : E, SE T P top k g e
  | .bad => sE_bad 
  | .var i => sE_var i 
  | .lit d => sE_lit d 
  | .glob i => sE_glob i 
  | .bin o a b => sE_bin o a b (sndE a) (sndE b)
  | .neg a => sE_neg a (sndE a)
  | .cmp o a b => sE_cmp o a b (sndE a) (sndE b)
  | .chain o o' a b c => sE_chain o o' a b c (sndE a) (sndE b) (sndE c)
  | .and es => sE_and es (sndEs es) (sndTs2 es)
  | .or es => sE_or es (sndEs es) (sndTs2 es)
  | .not a => sE_not a (sndE a)
  | .ite c a b => sE_ite c a b (sndE c) (sndE a) (sndE b)
  | .tup es => sE_tup es (sndEs es)
  | .lst m es => sE_lst m es (sndEs es)
  | .dct ks vs => sE_dct ks vs (sndEs vs)
  | .idx a b => sE_idx a b (sndE a) (sndE b)
  | .slc m a lo hi => sE_slc m a lo hi (sndE a) (sndO lo) (sndO hi)
  | .fld a f => sE_fld a f (sndE a)
  | .call f es => sE_call f es (sndEs es)
  | .make c es => sE_make c es (sndEs es)
  | .bi b es => sE_bi b es (sndEs es)
  | .li b m a => sE_li b m a (sndE a)
  | .bm b a es => sE_bm b a es (sndE a) (sndEs es)
  | .isi a ts => sE_isi a ts (sndE a)
  | .comp m own elt tg it ifs => sE_comp m own elt tg it ifs (sndE elt) (sndI it) (sndTs2 ifs)
  | .setdef .. => fun X ck W C Gc tk t x h => by simp [chk] at h
  | .callK .. => fun X ck W C Gc tk t x h => by simp [chk] at h
  | .meth .. => fun X ck W C Gc tk t x h => by simp [chk] at h
  | .xfld .. => fun X ck W C Gc tk t x h => by simp [chk] at h
  | .xisi .. => fun X ck W C Gc tk t x h => by simp [chk] at h
  | .dget a b => sE_dget a b (sndE a) (sndE b)
  | .din .. => fun X ck W C Gc tk t x h => by simp [chk] at h
  | .comp2 .. => fun X ck W C Gc tk t x h => by simp [chk] at h
theorem sndEs : ∀ es : List E, SEs T P top k g es
  | [] => sEs_nil
  | e :: es => sEs_cons (sndE e) (sndEs es)
theorem sndTs2 : ∀ es : List E, STs T P top k g es
  | [] => sTs_nil
  | e :: es => sTs_cons (sndE e) (sndTs2 es)
theorem sndO : ∀ e : Option E, SO T P top k g e
  | none => sO_none
  | some e => sO_some (sndE e)
theorem sndI : ∀ it : I, SI T P top k g it
  | .seq e => sI_seq e (sndE e)
  | .range es => sI_range es (sndEs es)
  | .enum e => sI_enum e (sndE e)
  | .zip es => sI_zip es (sndEs es)
  | .rev e => sI_rev e (sndE e)
end
end
end MP
set_option autoImplicit false
set_option linter.all false
set_option maxRecDepth 10000
set_option maxHeartbeats 1000000
/-! MPw: statements: the checker's word is kept. -/
namespace MP
open PySem PySem.Spec PyProof.Rows L2
section
variable (T : Tab) (P : Prog) (top : Nat → Bool) (k : Nat) (g : G)
def SS (st : S) : Prop := ∀ (X : Cx) (ck : Ck) (W : WX), Ctx X ck → Gctx X.prog X.w X.K X.mg X.base X.A T P top k g → Takes X W → ∀ (s : Stmt), chkS T P top st ck s = true → MS X.K T P X W s (exS g st)
def SB (sts : List S) : Prop := ∀ (X : Cx) (ck : Ck) (W : WX), Ctx X ck → Gctx X.prog X.w X.K X.mg X.base X.A T P top k g → Takes X W → ∀ (ss : List Stmt), chkB T P top sts ck ss = true → MB X.K T P X W ss (exB g sts)
end
section
variable {T : Tab} {P : Prog} {top : Nat → Bool} {k : Nat} {g : G}
theorem ms_cong {K : PySem.W.Frag} {X : Cx} {W : WX} {x : Stmt} {f f' : Env → Sto → SR} (h : MS K T P X W x f) (e : ∀ env s, f env s = f' env s) : MS K T P X W x f' := by
  have : f = f' := funext fun env => funext fun s => e env s
  exact this ▸ h
theorem mb_cong {K : PySem.W.Frag} {X : Cx} {W : WX} {x : List Stmt} {f f' : Env → Sto → SR} (h : MB K T P X W x f) (e : ∀ env s, f env s = f' env s) : MB K T P X W x f' := by
  have : f = f' := funext fun env => funext fun s => e env s
  exact this ▸ h
theorem sw_none {x : Expr} {l : Nat} {env : PySem.Env} (h : nComp x = true) : swapsWith x none l env = pure false := by
  cases x <;> first | rfl | cases h
theorem sw_some {x tg : Expr} {l : Nat} {env : PySem.Env} (h : nComp x = true) : swapsWith x (some tg) l env = pure false := by
  cases x <;> first | rfl | cases h
theorem sw_lc {elt : Expr} {gs : List Comprehension} {scope : Scope} {pos py : Pos} {y : Str} {l : Nat} {env : PySem.Env} (hy : env.scope.names.lookup y ≠ some .local) : swapsWith (.ListComp elt gs scope pos) (some (.Name y py)) l env = pure false := by
  have ky : (env.kindOf y == some .local) = false := by
    have : env.kindOf y = env.scope.names.lookup y := rfl
    rw [this]
    exact beq_eq_false_iff_ne.mpr hy
  unfold swapsWith
  simp only [ky, Bool.and_false, Bool.false_and]
theorem asgC_ok {X : Cx} {ck : Ck} (C : Ctx X ck) {tg x : Expr} {t : MP.T} {l : Nat} (h : asgC ck tg x = true) (ht : MP.chkT t ck tg = true) :
    swapsWithSole [tg] x l X.env = pure false ∧ swappedStores [tg] x X.env = pure none ∧ (assignEach [tg] X.env).map (·.2) = [assign tg X.env] := by
  have h1 : (assignEach [tg] X.env).map (·.2) = [assign tg X.env] := by
    cases tg <;> first | rfl | (cases t <;> simp [MP.chkT] at ht)
  have hT : (∃ y p, tg = .Name y p) ∨ isTup tg = true := by
    cases t <;> cases tg <;> simp [MP.chkT] at ht <;> first | exact .inl ⟨_, _, rfl⟩ | exact .inr rfl
  unfold asgC at h
  split at h
  · rename_i elt gs scope lp
    split at h
    · rename_i y py
      simp only [Bool.not_eq_true', decide_eq_false_iff_not] at h
      exact ⟨sw_lc (l := l) (by rw [C.sc]; exact h), rfl, h1⟩
    · rename_i hn
      refine ⟨?_, ?_, h1⟩
      · rcases hT with ⟨y, p, rfl⟩ | hT
        · exact absurd rfl (hn y p)
        · cases tg <;> first | rfl | cases hT
      · cases tg <;> rfl
  · rename_i hn
    simp only [Bool.and_eq_true, Bool.or_eq_true, Bool.not_eq_true'] at h
    refine ⟨sw_some h.1, ?_, h1⟩
    rcases hT with ⟨y, p, rfl⟩ | hT
    · cases x <;> rfl
    · rcases h.2 with q | q
      · rw [hT] at q; cases q
      · cases x <;> first | (cases q; done) | (cases tg <;> first | rfl | cases hT)
theorem sS_bad : SS T P top k g .bad := fun X ck W C Gc tk s h => ms_cong ms_bad fun env s => by rw [exS]
theorem sS_expr (e : E) (ie : SE T P top k g e) : SS T P top k g (.expr e) := by
  intro X ck W C Gc tk s h
  simp only [chkS] at h
  split at h
  · simp only [Bool.and_eq_true] at h
    exact ms_cong (ms_expr (both_f (ie X ck W C Gc tk false _ h.2)) (sw_none h.1)) fun env s => by rw [exS]
  · cases h
theorem sS_asgLc (m : Bool) (own : List Nat) (elt : E) (t : MP.T) (it : I) (ifs : List E) (i : Nat) (ie : SE T P top k g elt) (ii : SI T P top k g it) (iT : STs T P top k g ifs) {X : Cx} {ck : Ck} {W : WX} (C : Ctx X ck) (Gc : Gctx X.prog X.w X.K X.mg X.base X.A T P top k g) (tk : Takes X W) {y : Str} {py lp tpos : Pos} {elt' : Expr} {gs : List Comprehension} {scope : Scope}
    (h : chk T P top false (.comp m own elt t it ifs) ck (.ListComp elt' gs scope lp) = true) (hi : ck.loc i y = true) (hs : swapC ck y py scope lp = true) :
    MS X.K T P X W (.Assign [.Name y py] (.ListComp elt' gs scope lp) tpos) (exS g (.asg (.name i) (.comp m own elt t it ifs))) := by
  simp only [chk] at h
  split at h
  · rename_i elt2 tg' iter ifs' as scope2 pos2 heq
    cases heq
    simp only [Bool.and_eq_true, decide_eq_true_eq] at h
    obtain ⟨⟨rfl, h2, h3, h4⟩, h5, h6, h7⟩ := h
    have ok : BlkOk X.N X.env.scope scope (ownN ck own) := by rw [C.N, C.sc]; exact blkOk_by h2
    have hI := ii X ck W C Gc tk tg' iter h5
    have hsl : ∀ i ∈ slotsT t, i ∈ (ownN ck own).map (·.2) := by
      rw [own_map]
      simpa [List.all_eq_true] using h3
    unfold swapC at hs
    simp only [Bool.and_eq_true, decide_eq_true_eq, Bool.not_eq_true'] at hs
    obtain ⟨q1, q2, q3⟩ := ctx_loc C hi
    have hyl : X.env.scope.names.lookup y = some .local := by rw [C.sc]; exact hs.1
    refine ms_cong (ms_setLc (m := m) (t := t) (fc := evAnd g ifs) (fe := evE g elt) C.calm C.nd q1 hyl (sw_true C.fk hyl hs.2.1 hs.2.2) hI.1 ok hsl (fun s H Ca cl fp => sndT (ctx_blk C ok s H Ca cl fp) t tg' h4) (fun s H Ca cl fp => ?_) (fun s H Ca cl fp => both_f (ie _ (ck.blk scope) noW (ctx_blk C ok s H Ca cl fp) Gc takes_no false _ h6)) hI.2) fun env s => ?_
    · cases ifs' with
      | nil =>
        cases ifs with
        | nil => exact pts_nilM
        | cons => simp at h7
      | cons c cs =>
        cases cs with
        | nil =>
          simp only [Bool.and_eq_true, decide_eq_true_eq] at h7
          have q := iT _ (ck.blk scope) noW (ctx_blk C ok s H Ca cl fp) Gc takes_no _ h7.2
          match ifs, h7, q with
          | [f], _, .cons q1 .nil => exact pts_one q1
        | cons => cases h7
    · rw [exS, evE, own_map]
      rfl
  · cases h
theorem sS_asg (t : MP.T) (e : E) : SS T P top k g (.asg t e) := by
  intro X ck W C Gc tk s h
  simp only [chkS] at h
  split at h
  · rename_i tg x pos
    simp only [Bool.and_eq_true, Bool.or_eq_true] at h
    obtain ⟨h1, h2, h3 | h3⟩ := h
    · obtain ⟨q1, q2, q3⟩ := asgC_ok (l := pos.line) C h3 h1
      exact ms_cong (ms_asg (both_f (sndE T P top k g e X ck W C Gc tk false _ h2)) (sndT C t tg h1) q1 q2 q3) fun env s => by rw [exS]
    · split at h3
      · rename_i y py elt' gs scope lp i
        simp only [Bool.and_eq_true] at h3
        cases e <;> simp only [isCompE] at h3 <;> first | (cases h3.1; done) | skip
        simp only [MP.chkT] at h1
        exact sS_asgLc _ _ _ _ _ _ i (sndE T P top k g _) (sndI T P top k g _) (sndTs2 T P top k g _) C Gc tk h2 h1 h3.2
      · cases h3
  · cases h
theorem sS_seti (a i e : E) : SS T P top k g (.seti a i e) := by
  intro X ck W C Gc tk s h
  simp only [chkS] at h
  split at h
  · rename_i l r p' x pos
    simp only [Bool.and_eq_true] at h
    obtain ⟨h1, h2, h3, h4⟩ := h
    refine ms_cong (ms_seti (both_f (sndE T P top k g a X ck W C Gc tk false _ h2)) (both_f (sndE T P top k g i X ck W C Gc tk false _ h3)) (both_f (sndE T P top k g e X ck W C Gc tk false _ h4)) ?_ ?_ ?_ rfl) fun env s => by rw [exS]
    · cases r <;> first | (intro v; rfl) | cases h1
    · cases x <;> rfl
    · cases x <;> rfl
  · cases h
theorem sS_dput (a i e : E) : SS T P top k g (.dput a i e) := by
  intro X ck W C Gc tk s h
  simp only [chkS] at h
  split at h
  · rename_i l r p' x pos
    simp only [Bool.and_eq_true] at h
    obtain ⟨h1, h2, h3, h4⟩ := h
    have hu := units_ok Gc
    refine ms_cong (ms_dput (by omega) (both_f (sndE T P top k g a X ck W C Gc tk false _ h2)) (both_f (sndE T P top k g i X ck W C Gc tk false _ h3)) (both_f (sndE T P top k g e X ck W C Gc tk false _ h4)) ?_) fun env s => by rw [exS]
    cases x <;> rfl
  · cases h
theorem sS_setf (o : E) (f : Nat) (e : E) : SS T P top k g (.setf o f e) := by
  intro X ck W C Gc tk s h
  simp only [chkS] at h
  split at h
  · rename_i l n p' x pos
    simp only [Bool.and_eq_true, decide_eq_true_eq] at h
    obtain ⟨rfl, h2, h3⟩ := h
    refine ms_cong (ms_setf (g := g) Gc.tab Gc.gc (both_f (sndE T P top k g o X ck W C Gc tk false _ h2)) (both_f (sndE T P top k g e X ck W C Gc tk false _ h3)) ?_) fun env s => by rw [exS]
    cases x <;> rfl
  · cases h
theorem sS_aug (i : Nat) (o : BOp) (e : E) : SS T P top k g (.aug i o e) := by
  intro X ck W C Gc tk s h
  simp only [chkS] at h
  split at h
  · rename_i n p' op x pos
    simp only [Bool.and_eq_true, Bool.or_eq_true, decide_eq_true_eq] at h
    obtain ⟨h1, h2, h3, h4⟩ := h
    obtain ⟨q1, q2, q3⟩ := ctx_loc C h1
    have he := both_f (sndE T P top k g e X ck W C Gc tk false _ h4)
    rcases h2 with rfl | rfl
    · cases op <;> first | (cases h3; done) | skip
      exact ms_cong (ms_aug aug_add C.nd q1 q2 he q3) fun env s => by rw [exS]
    · cases op <;> first | (cases h3; done) | skip
      exact ms_cong (ms_aug aug_sub C.nd q1 q2 he q3) fun env s => by rw [exS]
  · cases h
theorem sS_ret (e : E) : SS T P top k g (.ret e) := by
  intro X ck W C Gc tk s h
  simp only [chkS] at h
  split at h
  · exact ms_cong (ms_ret (both_f (sndE T P top k g e X ck W C Gc tk false _ h))) fun env s => by rw [exS]
  · cases h
theorem sS_retN : SS T P top k g .retN := by
  intro X ck W C Gc tk s h
  simp only [chkS] at h
  split at h
  · exact ms_cong ms_retN fun env s => by rw [exS]
  · cases h
theorem sS_brk : SS T P top k g .brk := by
  intro X ck W C Gc tk s h
  simp only [chkS] at h
  split at h
  · exact ms_cong ms_brk fun env s => by rw [exS]
  · cases h
theorem sS_cnt : SS T P top k g .cnt := by
  intro X ck W C Gc tk s h
  simp only [chkS] at h
  split at h
  · exact ms_cong ms_cnt fun env s => by rw [exS]
  · cases h
theorem sS_pass : SS T P top k g .pass := by
  intro X ck W C Gc tk s h
  simp only [chkS] at h
  split at h
  · exact ms_cong ms_pass fun env s => by rw [exS]
  · cases h
theorem sS_ife (c : E) (a b : List S) (ia : SB T P top k g a) (ib : SB T P top k g b) : SS T P top k g (.ife c a b) := by
  intro X ck W C Gc tk s h
  simp only [chkS] at h
  split at h
  · simp only [Bool.and_eq_true] at h
    obtain ⟨h1, h2, h3⟩ := h
    exact ms_cong (ms_if (both_t (sndE T P top k g c X ck W C Gc tk true _ h1)) (ia X ck W C Gc tk _ h2) (ib X ck W C Gc tk _ h3)) fun env s => by rw [exS]
  · cases h
theorem sS_for (t : MP.T) (it : I) (body : List S) (ib : SB T P top k g body) : SS T P top k g (.forS t it body) := by
  intro X ck W C Gc tk s h
  simp only [chkS] at h
  split at h
  · simp only [Bool.and_eq_true] at h
    obtain ⟨h1, h2, h3, h4⟩ := h
    have hI := sndI T P top k g it X ck W C Gc tk _ _ h3
    exact ms_cong (ms_for C.hp C.calm hI.1 (sndT C t _ h2) (ib X ck W C Gc tk _ h4) hI.2) fun env s => by rw [exS]
  · cases h
theorem sS_while (c : E) (body : List S) (ib : SB T P top k g body) : SS T P top k g (.whileS c body) := by
  intro X ck W C Gc tk s h
  simp only [chkS] at h
  split at h
  · simp only [Bool.and_eq_true] at h
    exact ms_cong (ms_while WFUEL C.hp (both_t (sndE T P top k g c X ck W C Gc tk true _ h.1)) (ib X ck W C Gc tk _ h.2)) fun env s => by rw [exS]; rfl
  · cases h
theorem chks_len2 {t : Bool} {ck : Ck} {es : List E} {xs : List Expr} (h : chks T P top t es ck xs = true) : xs.length = es.length := chks_len h
theorem sS_raise (c : Nat) (es : List E) : SS T P top k g (.raise c es) := by
  intro X ck W C Gc tk s h
  simp only [chkS] at h
  split at h
  · rename_i n p xs pos pos'
    simp only [Bool.and_eq_true, decide_eq_true_eq] at h
    obtain ⟨⟨h1, rfl⟩, h2, h3, h4⟩ := h
    obtain ⟨g1, g2⟩ := ctx_gl C h1
    have hlen := chks_len h4
    unfold raiseOk at h2
    split at h2
    case h_2 => cases h2
    rename_i kc hk
    rw [Bool.and_eq_true] at h2
    obtain ⟨hx, h2⟩ := h2
    have hm := ma_of (sndEs T P top k g es X ck W C Gc tk _ h4) h3
    rw [← evEs_list] at hm
    split at h2
    · rename_i hf
      rw [beq_iff_eq] at h2
      match es, xs, h2, hlen with
      | [], [], _, _ => exact ms_cong (ms_raise0 Gc.xt hk hx hf C.calm tk g1 (Gc.clsG _ _ hk) g2) fun env s => by rw [exS, evEs]; rfl
    · rename_i f hf
      rw [beq_iff_eq] at h2
      match es, xs, h2, hlen, hm, h3 with
      | [e], [x], _, _, hm, h3 =>
        obtain ⟨fI, fd, ps, q1, q2, q3, q4⟩ := Gc.xini _ _ _ hk hx hf
        simp only [List.all_cons, Bool.and_eq_true] at h3
        exact ms_cong (ms_raise1 Gc.xt hk hx hf C.calm tk q1 q2 q4 Gc.room q3 g1 (Gc.clsG _ _ hk) hm (fun env s xs s' e => evEs_len g e) g2 (star_cons h3.1)) fun env s => by rw [exS]
    · cases h2
  · cases h
/-! ### except suites -/
section
variable {X : Cx} {ck : Ck} {a : Addr} {oe : Obj} {pn : List (Addr × Obj)}
theorem sndXS (C : Ctx X ck) (Gc : Gctx X.prog X.w X.K X.mg X.base X.A T P top k g) (hd : ∃ vs, oe.data = .fields vs) (i : Nat) (st : S) (s : Stmt) (h : chkXS T P i st ck s = true) : MS X.K (T.sw [(a, oe)]) P (X.suite a ((a, oe) :: pn)) noW s (exS g st) := by
  cases st <;> simp only [chkXS] at h <;> first | (cases h; done) | skip
  case asg t e =>
    cases t <;> simp only at h <;> first | (cases h; done) | skip
    rename_i j
    split at h
    · rename_i y py x pos
      simp only [Bool.and_eq_true] at h
      obtain ⟨_, h1, h2, h3⟩ := h
      obtain ⟨q1, q2, q3⟩ := ctx_loc C h1
      have hn : nComp x = true := by cases x <;> first | rfl | cases h2
      have hg : MG X.K (T.sw [(a, oe)]) P (X.suite a ((a, oe) :: pn)) (.Name y py) (.name j) := mg_name (X := X.suite a ((a, oe) :: pn)) C.nd q1 q2 q3
      refine ms_cong (ms_asg (X := X.suite a ((a, oe) :: pn)) (sndX C Gc hd i e x h3) hg (by have z := sw_some (tg := .Name y py) (l := pos.line) (env := X.env) hn; exact z) ?_ rfl) fun env s => by rw [exS]
      cases x <;> rfl
    · cases h
  case ret e =>
    split at h
    · exact ms_cong (ms_ret (X := X.suite a ((a, oe) :: pn)) (sndX C Gc hd i e _ h)) fun env s => by rw [exS]
    · cases h
  case pass =>
    split at h
    · exact ms_cong (ms_pass (X := X.suite a ((a, oe) :: pn))) fun env s => by rw [exS]
    · cases h
theorem sndXB (C : Ctx X ck) (Gc : Gctx X.prog X.w X.K X.mg X.base X.A T P top k g) (hd : ∃ vs, oe.data = .fields vs) (i : Nat) : ∀ (sts : List S) (ss : List Stmt), chkXB T P i sts ck ss = true → MB X.K (T.sw [(a, oe)]) P (X.suite a ((a, oe) :: pn)) noW ss (exB g sts)
  | [], ss, h => by
    cases ss with
    | nil => exact mb_cong (mb_nil (X := X.suite a ((a, oe) :: pn))) fun env s => by rw [exB]
    | cons => simp [chkXB] at h
  | st :: r, ss, h => by
    cases ss with
    | nil => simp [chkXB] at h
    | cons s ss =>
      simp only [chkXB, Bool.and_eq_true] at h
      exact mb_cong (mb_cons (X := X.suite a ((a, oe) :: pn)) (sndXS C Gc hd i st s h.1) (sndXB C Gc hd i r ss h.2)) fun env s => by rw [exB]
end
/-! ### what a suite leaves -/
def OkS (i : Nat) (env : Env) (s : Sto) : SR → Prop
  | .nx env' s' => s' = s ∧ (∀ j d, j ≠ i → getE env' j = some d → d.nox = true) ∧ getE env' i = getE env i
  | .ret d s' => s' = s ∧ d.nox = true
  | .no => True
  | _ => False
theorem getE_setE_ne : ∀ (env : Env) (i j : Nat) (d : Option D), i ≠ j → getE (setE env i d) j = getE env j
  | [], _, _, _, _ => rfl
  | x :: r, 0, 0, _, h => absurd rfl h
  | x :: r, 0, j + 1, _, _ => rfl
  | x :: r, i + 1, 0, _, _ => rfl
  | x :: r, i + 1, j + 1, d, h => by
    show getE (setE r i d) j = getE r j
    exact getE_setE_ne r i j d fun e => h (by rw [e])
theorem noxS {i : Nat} {ck : Ck} (st : S) (s0 : Stmt) (h : chkXS T P i st ck s0 = true) {env : Env} {s : Sto} (hE : EnvX i env) : OkS i env s (exS g st env s) := by
  cases st <;> simp only [chkXS] at h <;> first | (cases h; done) | skip
  case asg t e =>
    cases t <;> simp only at h <;> first | (cases h; done) | skip
    rename_i j
    split at h
    · simp only [Bool.and_eq_true, Bool.not_eq_true', beq_eq_false_iff_ne] at h
      obtain ⟨hj, _, _, h3⟩ := h
      have q := noxE (T := T) (P := P) (s := s) g hE e _ h3
      rw [exS]
      cases r : evE g e env s with
      | ok d s' =>
        rw [r] at q
        obtain ⟨h1, rfl⟩ := q
        simp only [R.sr_ok, asgT, opt2_some]
        refine ⟨rfl, fun l d' hl hd' => ?_, getE_setE_ne _ _ _ _ hj⟩
        rcases getE_set _ _ _ _ _ hd' with ⟨_, h2⟩ | ⟨_, h2⟩
        · cases h2; exact h1
        · exact hE.other l d' hl h2
      | ex => rw [r] at q; exact q.elim
      | no => trivial
    · cases h
  case ret e =>
    split at h
    · have q := noxE (T := T) (P := P) (s := s) g hE e _ h
      rw [exS]
      cases r : evE g e env s with
      | ok d s' => rw [r] at q; exact ⟨q.2, q.1⟩
      | ex => rw [r] at q; exact q.elim
      | no => trivial
    · cases h
  case pass =>
    rw [exS]
    exact ⟨rfl, fun j d hj hd => hE.other j d hj hd, rfl⟩
theorem noxB {i : Nat} {ck : Ck} : ∀ (sts : List S) (ss : List Stmt), chkXB T P i sts ck ss = true → ∀ {env : Env} {s : Sto}, EnvX i env → OkS i env s (exB g sts env s)
  | [], ss, h, env, s, hE => by
    rw [exB]
    exact ⟨rfl, fun j d hj hd => hE.other j d hj hd, rfl⟩
  | st :: r, ss, h, env, s, hE => by
    cases ss with
    | nil => simp [chkXB] at h
    | cons s0 ss =>
      simp only [chkXB, Bool.and_eq_true] at h
      have q := noxS (T := T) (P := P) (g := g) st s0 h.1 (s := s) hE
      rw [exB]
      cases z : exS g st env s with
      | nx env' s' =>
        rw [z] at q
        obtain ⟨rfl, q1, q2⟩ := q
        have ih := noxB r ss h.2 (env := env') (s := s') ⟨q1, fun c fs e => hE.here c fs (by rw [← q2]; exact e)⟩
        simp only [SR.seq_nx]
        cases z2 : exB g r env' s' with
        | nx env2 s2 => rw [z2] at ih; exact ⟨ih.1, ih.2.1, ih.2.2.trans q2⟩
        | ret => rw [z2] at ih; exact ih
        | no => trivial
        | brk => rw [z2] at ih; exact ih
        | cnt => rw [z2] at ih; exact ih
        | ex => rw [z2] at ih; exact ih
      | ret => rw [z] at q; exact q
      | no => trivial
      | brk => rw [z] at q; exact q.elim
      | cnt => rw [z] at q; exact q.elim
      | ex => rw [z] at q; exact q.elim
/-- the suite's ends, without the exception -/
theorem out_suite {K : PySem.W.Frag} {w : Wd} {H : Hp} {W : WX} {De : Ends} {slot : Option Nat} {env : Env} {s : Sto} {r : SR} {pn : List (Addr × Obj)} (hT : T.pn = []) (S : SRel K T P w H s) (hn : slot = none → ∀ d, getE env 100000 = some d → d.nox = true)
    (q : OkS (slot.getD 100000) env s r) (o : OutS K T P w H W De (r.gone slot)) : OutS K (T.sw pn) P w H noW (wrapD slot De) r := by
  have nS := S.nox hT
  cases r with
  | no => exact o
  | brk => exact q.elim
  | cnt => exact q.elim
  | ex => exact q.elim
  | ret d s' =>
    obtain ⟨rfl, hd⟩ := q
    have o' : OutS K T P w H W De (.ret d s') := by cases slot <;> exact o
    intro v w' H' l S' rv
    have S2 : SRel K T P w' H' s' := by rw [← sw_back (pn := pn) hT]; exact S'.sw nS
    have r2 : Rep K T P w' H' d v := by rw [← sw_back (pn := pn) hT]; exact rv.sw hd
    have z := o' v w' H' l S2 r2
    cases slot <;> exact z
  | nx env' s' =>
    obtain ⟨rfl, q1, q2⟩ := q
    cases slot with
    | none =>
      intro σ' w' H' l S' E'
      have nE : ∀ j d, getE env' j = some d → d.nox = true := fun j d hd => by
        by_cases e : j = 100000
        · subst e; exact hn rfl d (by rw [← show getE env' 100000 = getE env 100000 from q2]; exact hd)
        · exact q1 j d e hd
      have S2 : SRel K T P w' H' s' := by rw [← sw_back (pn := pn) hT]; exact S'.sw nS
      have E2 : ERel K T P w' H' env' σ' := by rw [← sw_back (pn := pn) hT]; exact E'.sw nE
      exact o σ' w' H' l S2 E2
    | some i =>
      intro σ' w' H' l S' E'
      have S2 : SRel K T P w' H' s' := by rw [← sw_back (pn := pn) hT]; exact S'.sw nS
      refine o (σ'.set i none) w' H' l S2 ⟨by rw [setE_len, List.length_set]; exact E'.1, fun j d hd => ?_⟩
      rcases getE_set _ _ _ _ _ hd with ⟨_, h2⟩ | ⟨hj, h2⟩
      · cases h2
      · obtain ⟨v, h3, h4⟩ := E'.2 j d h2
        refine ⟨v, by rw [List.getElem?_set_ne (Ne.symm hj)]; exact h3, ?_⟩
        rw [← sw_back (pn := pn) hT]
        exact h4.sw (q1 j d hj h2)
/-- the clauses' data -/
def hdsL (K : PySem.W.Frag) (T : Tab) (P : Prog) (g : G) : List Hd → List HdT
  | [] => []
  | .mk c slot body :: r => (.ref (ca K T c), slot, fun a oe cls d => tS K (T.sw [(a, oe)]) P (exB g body) noW) :: hdsL K T P g r
theorem hds_ok {X : Cx} {ck : Ck} (C : Ctx X ck) (Gc : Gctx X.prog X.w X.K X.mg X.base X.A T P top k g) : ∀ (hs : List Hd) (hs' : List ExceptHandler), chkH T P hs ck hs' = true → HdsM X hs' (hdsL X.K T P g hs)
  | [], hs', h => by
    cases hs' with
    | nil => exact .nil
    | cons => simp [chkH] at h
  | .mk c slot body :: r, hs', h => by
      simp only [chkH] at h
      split at h
      · rename_i x px no st sts p' hs2
        simp only [Bool.and_eq_true, decide_eq_true_eq] at h
        obtain ⟨⟨h1, rfl, h2⟩, ⟨h3, h4⟩, h5⟩ := h
        obtain ⟨g1, g2⟩ := ctx_gl C h1
        obtain ⟨kc, hk, hx⟩ : ∃ k, P.cls c = some k ∧ k.exn = true := by
          unfold exnC at h2
          split at h2
          · rename_i k hk; exact ⟨k, hk, h2⟩
          · cases h2
        refine .cons ⟨g1, g2, .inl (Gc.clsG _ _ hk)⟩ ?_ (fun a oe cls d pn hz hd => sndXB C Gc hd (slot.getD 100000) body (st :: sts) h4) (hds_ok C Gc r hs2 h5)
        cases slot <;> cases no <;> simp only at h3 <;> first | trivial | (cases h3; done) | skip
        simp only [Bool.and_eq_true, decide_eq_true_eq] at h3
        refine ⟨by rw [C.N]; exact h3.1, ?_⟩
        show X.env.scope.names.lookup _ = _
        rw [C.sc]
        exact h3.2
      · cases h
theorem mix_ok {X : Cx} {ck : Ck} {W : WX} {De : Ends} (C : Ctx X ck) (Gc : Gctx X.prog X.w X.K X.mg X.base X.A T P top k g) (hT : T.pn = []) {c : Nat} {fs : List D} {env : Env} {s : Sto} {w : Wd} {H : Hp} {σ : L2.St} {cls : Value} {dd : Option Addr} (hc : exnG g c = true) (S : SRel X.K T P w H s) (E : ERel X.K T P w H env σ) (xr : XR X.K T P w H c fs cls dd) :
    ∀ (hs : List Hd) (hs' : List ExceptHandler), chkH T P hs ck hs' = true → OutS X.K T P w H W De (exH g hs c fs env s) → wMix X.K W De (hdsL X.K T P g hs) cls dd σ H
  | [], hs', _, o => by
    simp only [exH] at o
    exact o cls dd σ w H (Le.refl w H) S E xr
  | .mk kk slot body :: r, hs', h, o => by
      simp only [chkH] at h
      split at h
      case h_2 => cases h
      rename_i x px no st sts p' hs2
      simp only [Bool.and_eq_true, decide_eq_true_eq] at h
      obtain ⟨⟨h1, rfl, h2⟩, ⟨h3, h4⟩, h5⟩ := h
      obtain ⟨kc, hk, hx⟩ : ∃ k, P.cls kk = some k ∧ k.exn = true := by
        unfold exnC at h2
        split at h2
        · rename_i k hk; exact ⟨k, hk, h2⟩
        · cases h2
      obtain ⟨k0, hk0, hx0⟩ := exnG_ok Gc.gc hc
      have ecls : cls = .ref (ca X.K T c) := xr.1
      simp only [exH] at o
      refine ⟨P.sub c kk, by rw [ecls]; exact (Gc.xt.exm _ _ _ _ hk0 hx0 hk hx).1, fun hb a oe hz hd hfree => ?_, fun hb => ?_⟩
      · rw [if_pos (by rw [Gc.gs]; exact hb)] at o
        have nE := E.nox hT
        have E1 : ERel X.K (T.sw [(a, oe)]) P w H env σ := E.sw nE
        have S1 : SRel X.K (T.sw [(a, oe)]) P w H s := S.sw (S.nox hT)
        cases slot with
        | none =>
          have q := noxB (T := T) (P := P) (g := g) body (st :: sts) h4 (env := env) (s := s) ⟨fun j d _ hd => nE j d hd, fun c fs e => by have := nE _ _ e; cases this⟩
          exact ⟨env, s, w, E1, S1, out_suite hT S (fun _ d hd => nE _ d hd) q o⟩
        | some i =>
          have nfs : D.noxs fs = true := by
            obtain ⟨_, ⟨rfl, _⟩ | ⟨y, v, d, k1, f, rfl, _, _, _, _, _, rv⟩⟩ := xr
            · rfl
            · simp only [D.noxs, rv.nox hT, Bool.and_self]
          have rX : Rep X.K (T.sw [(a, oe)]) P w H (.exc c fs) (.ref a) := by
            obtain ⟨e1, ⟨rfl, rfl⟩ | ⟨y, v, d, k1, f, rfl, rfl, e2, e3, e4, e5, rv⟩⟩ := xr
            · exact .exc0 (oe := oe) (List.mem_singleton.mpr rfl) (hz.1.trans e1) hz.2
            · exact .exc1 (T := T.sw [(a, oe)]) (oe := oe) (List.mem_singleton.mpr rfl) (hz.1.trans e1) hz.2 e2 e3 e4 e5 (rv.sw (rv.nox hT))
          have EX : EnvX i (setE env i (some (.exc c fs))) := ⟨fun j d hj hd => by
            rw [getE_setE_ne _ _ _ _ (Ne.symm hj)] at hd
            exact nE j d hd, fun c' fs' e => by
              rcases getE_set _ _ _ _ _ e with ⟨_, h7⟩ | ⟨h7, _⟩
              · cases h7; exact nfs
              · exact absurd rfl h7⟩
          have q := noxB (T := T) (P := P) (g := g) body (st :: sts) h4 (env := setE env i (some (.exc c fs))) (s := s) EX
          exact ⟨_, s, w, E1.set i rX, S1, out_suite hT S (fun e => nomatch e) q o⟩
      · rw [if_neg (by rw [Gc.gs, hb]; exact Bool.false_ne_true)] at o
        exact mix_ok C Gc hT hc S E xr r hs2 h5 o
theorem sS_try (body : List S) (hs : List Hd) (ib : SB T P top k g body) : SS T P top k g (.tryS body hs) := by
  intro X ck W C Gc tk s h
  simp only [chkS] at h
  split at h
  · rename_i ss h0 hs' pos
    simp only [Bool.and_eq_true, Option.isNone_iff_eq_none] at h
    obtain ⟨hfn, h1, h2⟩ := h
    obtain ⟨st1, st2⟩ := C.st hfn
    have hT := Gc.tab.pn
    refine (try_mix (tb := fun W' => tS X.K T P (exB g body) W') st1 st2 C.nd tk (fun W' pn xe tk' hp' => ib (X.tr pn xe) ck W' ⟨C.N, C.nd, C.sc, C.fn, C.calm, hp', C.fk, C.st⟩ Gc tk' ss h1) (hds_ok C Gc hs (h0 :: hs') h2)).imp fun D σ H q => ?_
    obtain ⟨env, s, w, E, S, o⟩ := q
    rw [exS] at o
    refine ⟨env, s, w, E, S, ?_⟩
    cases r : exB g body env s with
    | nx env' s' => rw [r] at o; exact o
    | ret d s' => rw [r] at o; exact o
    | brk env' s' => rw [r] at o; exact o
    | cnt env' s' => rw [r] at o; exact o
    | no => rw [r] at o; exact o
    | ex c fs env' s' =>
      rw [r] at o
      dsimp only at o
      split at o
      case isFalse => exact o.elim
      rename_i hc
      intro cls dd σ' w' H' l S' E' xr
      exact mix_ok C Gc hT hc S' E' xr hs (h0 :: hs') h2 (OutS.later l o)
  · cases h
theorem sB_nil : SB T P top k g [] := by
  intro X ck W C Gc tk ss h
  cases ss with
  | nil => exact mb_cong mb_nil fun env s => by rw [exB]
  | cons => simp [chkB] at h
theorem sB_cons (st : S) (r : List S) (h1 : SS T P top k g st) (h2 : SB T P top k g r) : SB T P top k g (st :: r) := by
  intro X ck W C Gc tk ss h
  cases st
  case bad => exact mb_cong mb_bad fun env s => by rw [exB, exS]; rfl
  case fgt is => exact mb_cong (mb_fgt is (h2 X ck W C Gc tk ss (by simpa only [chkB] using h))) fun env s => by rw [exB, exS]
  case frz i => exact mb_cong (mb_frz i (h2 X ck W C Gc tk ss (by simpa only [chkB] using h))) fun env s => by rw [exB, exS]; rfl
  all_goals
    cases ss with
    | nil => simp [chkB] at h
    | cons s ss =>
      simp only [chkB, Bool.and_eq_true] at h
      exact mb_cong (mb_cons (h1 X ck W C Gc tk s h.1) (h2 X ck W C Gc tk ss h.2)) fun env s => by rw [exB]
variable (T P top k g)
mutual
theorem sndS : ∀ st : S, SS T P top k g st
  | .bad => sS_bad
  | .expr e => sS_expr e (sndE T P top k g e)
  | .asg t e => sS_asg t e
  | .seti a i e => sS_seti a i e
  | .setf o f e => sS_setf o f e
  | .aug i o e => sS_aug i o e
  | .ret e => sS_ret e
  | .retN => sS_retN
  | .ife c a b => sS_ife c a b (sndB a) (sndB b)
  | .forS t it body => sS_for t it body (sndB body)
  | .whileS c body => sS_while c body (sndB body)
  | .brk => sS_brk
  | .cnt => sS_cnt
  | .pass => sS_pass
  | .dput a i e => sS_dput a i e
  | .daug .. => fun X ck W C Gc tk s h => by simp [chkS] at h
  | .augi .. => fun X ck W C Gc tk s h => by simp [chkS] at h
  | .augf .. => fun X ck W C Gc tk s h => by simp [chkS] at h
  | .par .. => fun X ck W C Gc tk s h => by simp [chkS] at h
  | .raise c es => sS_raise c es
  | .tryS body hs => sS_try body hs (sndB body)
  | .fgt .. => fun X ck W C Gc tk s h => by simp [chkS] at h
  | .frz .. => fun X ck W C Gc tk s h => by simp [chkS] at h
theorem sndB : ∀ sts : List S, SB T P top k g sts
  | [] => sB_nil
  | st :: r => sB_cons st r (sndS st) (sndB r)
end
end
end MP
set_option autoImplicit false
set_option linter.all false
set_option maxRecDepth 10000
set_option maxHeartbeats 1000000
/-! MPx: the defs of a text, all of them. -/
namespace MP
open PySem PySem.Spec PyProof.Rows L2
/-- a def's datum: the head's, its names, its parameters -/
structure FnD where
  d : He.DefD
  N : List Str
  ps : List Str
def lcK : Option NameKind → Bool
  | some .local => true
  | some .cell => true
  | _ => false
def fsC (N ps : List Str) (sc : Scope) : Bool := (decide (sc.kind = .function) && (!sc.isCoroutine && !sc.isGenerator)) && ((decide N.Nodup && decide (N.take ps.length = ps)) && ((ps.all fun x => lcK (sc.names.lookup x)) && sc.names.all fun y => decide (y.2 ≠ .free)))
theorem fsC_ok {N ps : List Str} {sc : Scope} (h : fsC N ps sc = true) : FnScope N ps sc := by
  unfold fsC at h
  simp only [Bool.and_eq_true, decide_eq_true_eq, Bool.not_eq_true', List.all_eq_true] at h
  obtain ⟨⟨h1, h2, h3⟩, ⟨h4, h5⟩, h6, h7⟩ := h
  refine ⟨h1, h2, h3, h4, h5, fun x hx => ?_, h7⟩
  have := h6 x hx
  revert this
  cases sc.names.lookup x with
  | none => intro z; cases z
  | some k => cases k <;> first | (intro _; simp; done) | (intro z; cases z)
section
variable (T : Tab) (P : Prog) (top : Nat → Bool)
def fnC (fn : Fn) (r : FnD) : Bool := (fsC r.N r.ps r.d.scope && (decide (r.N.length = fn.ns) && (decide (r.ps.length = fn.np) && decide (fn.np ≤ fn.ns)))) && ((fn.dfl.isEmpty && (r.d.dfl.isEmpty && r.d.kwd.isEmpty)) && chkB T P top fn.body ⟨r.N, r.d.scope, none⟩ r.d.body)
/-- how it binds -/
def Bd (r : FnD) : Prop := ∀ (kV doc pm : Value) (an : Option Addr) (cdv ct : Value) (us : List Value), us.length = r.ps.length → bindArgs (PySem.W.fnOf r.d.name r.d.qual r.d.params r.d.body r.d.scope .none kV doc pm an cdv ct) ⟨us, []⟩ = pure (r.ps.zip us)
/-- the __init__ of an exception of one field -/
def xinC (nm : Str) (r : FnD) : Bool := (fsC r.N r.ps r.d.scope && (r.d.dfl.isEmpty && r.d.kwd.isEmpty)) && (decide (r.ps.length = 2) && (match r.d.body with
  | [.Assign [.Attribute (.Name x _) n _] (.Name y _) _] => decide (n = nm) && ((⟨r.N, r.d.scope, none⟩ : Ck).vis 0 x && (⟨r.N, r.d.scope, none⟩ : Ck).vis 1 y)
  | _ => false))
structure Txt (K : PySem.W.Frag) (mg : Str → Option Value) (fd : Nat → Option FnD) : Prop where
  tab : TabOk K T P
  fre : ∀ x ∈ bnames, mg x = none
  gint : ∀ i d, P.glob i = some d → ∃ v t, d = .int v ∧ mg (T.gnm i) = some (.int v t)
  clsG : ∀ c kc, P.cls c = some kc → mg (T.cnm c) = some (.ref (ca K T c))
  def_ : ∀ f fn, P.fn f = some fn → ∃ r fdd, fd f = some r ∧ fnC T P top fn r = true ∧ Bd r ∧ FunD K r.d.name r.d.qual r.d.params r.d.body r.d.scope (r.d.dvs K) (r.d.kws K) (He.fAd K r.d.at_) fdd
  glo : ∀ f fn r, P.fn f = some fn → top f = true → fd f = some r → mg (T.fnm f) = some (.ref (He.fAd K r.d.at_))
  mks : ∀ c kc f fn r, P.cls c = some kc → kc.exn = false → kc.init = some f → P.fn f = some fn → fd f = some r → Mk K (ca K T c) (He.fAd K r.d.at_)
  xt : XTab K T P
  xin : ∀ c kc f, P.cls c = some kc → kc.exn = true → kc.flds = [f] → ∃ r fdd, xinC (T.anm f) r = true ∧ Bd r ∧ FunD K r.d.name r.d.qual r.d.params r.d.body r.d.scope (r.d.dvs K) (r.d.kws K) (He.fAd K r.d.at_) fdd ∧
    PySem.W.findIn K (.ref (ca K T c)) "__init__" = some (some (.ref (He.fAd K r.d.at_))) ∧ PySem.W.typeIn K (.ref (He.fAd K r.d.at_)) = some (.type "function")
end
section
variable {T : Tab} {P : Prog} {top : Nat → Bool} {prog : Program} {w : World} {K : PySem.W.Frag} {mg : Str → Option Value} {base : Heap} {fd : Nat → Option FnD}
theorem call_succ (j f : Nat) (ds : List D) (s : Sto) (fn : Fn) (h : P.fn f = some fn) : MP.call P (j + 1) f ds s = runFn (genv P (MP.call P j)) fn ds s := by
  simp only [MP.call, h]
theorem xin_ok {r : FnD} {fdd : FuncData} {C : Addr} {f : Str} (O : OexC K C) (hno : PySem.W.findIn K (.ref C) f = some none) (h : xinC f r = true) (F : FunD K r.d.name r.d.qual r.d.params r.d.body r.d.scope (r.d.dvs K) (r.d.kws K) (He.fAd K r.d.at_) fdd) (h3 : Bd r) :
    L2.Binds K fdd r.ps [] ∧ FnOk prog w K mg base (L2.CX prog w) 1 (He.fAd K r.d.at_) fdd r.ps (spI C f) := by
  unfold xinC at h
  simp only [Bool.and_eq_true, decide_eq_true_eq, List.isEmpty_iff] at h
  obtain ⟨⟨hS, hd, hk⟩, hp, hb⟩ := h
  have F0 : FunD K r.d.name r.d.qual r.d.params r.d.body r.d.scope [] (r.d.kws K) (He.fAd K r.d.at_) fdd := by
    have : r.d.dvs K = [] := by unfold He.DefD.dvs; rw [hd]; rfl
    rw [← this]; exact F
  have Sc := fsC_ok hS
  refine ⟨F0.bindsN h3, F0.ok Sc (fun vs H Q E h => ?_) fun cdv A outer s H vs Q E hr h => ?_⟩
  · obtain ⟨a, y, rfl, _⟩ := h
    rw [hp]
    rfl
  · split at hb
    case h_2 => cases hb
    rename_i x px n pn y py pos heq
    rw [heq]
    simp only [Bool.and_eq_true, decide_eq_true_eq] at hb
    obtain ⟨rfl, hx, hy⟩ := hb
    have C0 : Ctx (cxOf (L2.CX prog w) prog w K mg base r.N r.d.qual r.d.scope (He.fAd K r.d.at_) cdv A outer s H E) ⟨r.N, r.d.scope, none⟩ := ⟨rfl, Sc.nd, rfl, fun _ _ => rfl, rfl, passes_of rfl, Sc.kind, fun _ => ⟨rfl, rfl⟩⟩
    obtain ⟨x1, x2, x3, x4⟩ := ctx_vis C0 hx
    obtain ⟨y1, y2, y3, y4⟩ := ctx_vis C0 hy
    obtain ⟨a, v, rfl, ha, hq⟩ := h
    refine ⟨_, pss_cons (ps_ost (pe_var x1 x2 x3 x4) (pe_var y1 y2 y3 y4)) pss_nil, ?_⟩
    have l0 : (L2.start r.N [V.ref a, v])[0]? = some (some (.ref a)) := by rw [start_get, if_pos (by simp)]; rfl
    have l1 : (L2.start r.N [V.ref a, v])[1]? = some (some v) := by rw [start_get, if_pos (by simp)]; rfl
    exact ⟨v, l1, .ref a, l0, a, C, rfl, O, hno, .inl ⟨ha, fun d hd hne => hq d hd hne⟩⟩
theorem all_ok (X : Txt T P top K mg fd) : ∀ j f fn, P.fn f = some fn → ∃ r fdd, fd f = some r ∧ PySem.W.keepIn K (.ref (He.fAd K r.d.at_)) = true ∧ L2.Binds K fdd r.ps [] ∧ (∀ (s : Shared) (us : List Value), us.length = r.ps.length → BindsTo s fdd ⟨us, []⟩ (r.ps.zip us)) ∧ FunD K r.d.name r.d.qual r.d.params r.d.body r.d.scope (r.d.dvs K) (r.d.kws K) (He.fAd K r.d.at_) fdd ∧ FnOk prog w K mg base (L2.CX prog w) (2 * j + 2) (He.fAd K r.d.at_) fdd r.ps (spF K T P fn.np (MP.call P j f))
  | 0, f, fn, hf => by
    obtain ⟨r, fdd, h1, h2, h3, F⟩ := X.def_ f fn hf
    have hc := h2
    unfold fnC at hc
    simp only [Bool.and_eq_true, decide_eq_true_eq, List.isEmpty_iff] at hc
    obtain ⟨⟨hS, _, hps, _⟩, ⟨_, hd, hk⟩, _⟩ := hc
    have F0 : FunD K r.d.name r.d.qual r.d.params r.d.body r.d.scope [] (r.d.kws K) (He.fAd K r.d.at_) fdd := by
      have : r.d.dvs K = [] := by unfold He.DefD.dvs; rw [hd]; rfl
      rw [← this]; exact F
    exact ⟨r, fdd, h1, F.kp, F0.bindsN h3, fun s us hl => F0.bindsA h3 s us hl, F, ⟨fun vs H Q E h => by obtain ⟨ds, s, w, _, _, _, o⟩ := h; exact o.elim, fun A outer s H args us vs Q E _ _ _ _ h => by obtain ⟨ds, s, w, _, _, _, o⟩ := h; exact o.elim⟩⟩
  | j + 1, f, fn, hf => by
    obtain ⟨r, fdd, h1, h2, h3, F⟩ := X.def_ f fn hf
    have hc := h2
    unfold fnC at hc
    simp only [Bool.and_eq_true, decide_eq_true_eq, List.isEmpty_iff] at hc
    obtain ⟨⟨hS, hN, hps, hle⟩, ⟨hdf, hd, hk⟩, hb⟩ := hc
    have F0 : FunD K r.d.name r.d.qual r.d.params r.d.body r.d.scope [] (r.d.kws K) (He.fAd K r.d.at_) fdd := by
      have : r.d.dvs K = [] := by unfold He.DefD.dvs; rw [hd]; rfl
      rw [← this]; exact F
    have Sc := fsC_ok hS
    refine ⟨r, fdd, h1, F.kp, F0.bindsN h3, fun s us hl => F0.bindsA h3 s us hl, F, ?_⟩
    have e2 : 2 * (j + 1) + 2 = (2 * j + 2 + 1) + 1 := by omega
    rw [e2]
    refine F0.ok Sc (fun vs H Q E h => ?_) (fun cdv A outer s H vs Q E hr h => ?_)
    · obtain ⟨ds, s, w, rr, _, hl, _⟩ := h
      rw [← rr.length, hl, hps]
    · obtain ⟨ds, s1, w1, rr, S1, hl, o⟩ := h
      refine ⟨tS K T P (exB (genv P (MP.call P j)) fn.body) (fun c d _ H => E c d H), ?_, ?_⟩
      · have C : Ctx (cxOf (L2.CX prog w) prog w K mg base r.N r.d.qual r.d.scope (He.fAd K r.d.at_) cdv A outer s H E) ⟨r.N, r.d.scope, none⟩ := ⟨rfl, Sc.nd, rfl, fun _ _ => rfl, rfl, passes_of rfl, Sc.kind, fun _ => ⟨rfl, rfl⟩⟩
        have Gc : Gctx prog w K mg base (cxOf (L2.CX prog w) prog w K mg base r.N r.d.qual r.d.scope (He.fAd K r.d.at_) cdv A outer s H E).A T P top (2 * j + 2) (genv P (MP.call P j)) := by
          refine ⟨X.tab, X.fre, X.gint, hr, fun f' fn' hf' ht hd' => ?_, fun c kc f' fn' hc hx hi hf' hd' => ?_, X.clsG, rfl, rfl, rfl, fun f' fn' hf' => ?_, X.xt, fun c kc f hk hx hf => ?_⟩
          · obtain ⟨r', fdd', q1, q2, q3, _, _, q4⟩ := all_ok X j f' fn' hf'
            exact ⟨_, fdd', r'.ps, X.glo f' fn' r' hf' ht q1, q2, q3, q4⟩
          · obtain ⟨r', fdd', q1, q2, q3, _, _, q4⟩ := all_ok X j f' fn' hf'
            exact ⟨_, fdd', r'.ps, X.mks c kc f' fn' r' hc hx hi hf' q1, q3, q4⟩
          · simp [genv, hf']
          · obtain ⟨r', fdd', q1, q2, q3, q4, q5⟩ := X.xin c kc f hk hx hf
            obtain ⟨o1, o2⟩ := X.xt.oex c kc f hk hx hf
            obtain ⟨p1, p2⟩ := xin_ok (prog := prog) (w := w) (mg := mg) (base := base) o1 o2 q1 q3 q2
            exact ⟨_, fdd', r'.ps, q4, q5, p1, p2.mono (by omega)⟩
        have tk : Takes (cxOf (L2.CX prog w) prog w K mg base r.N r.d.qual r.d.scope (He.fAd K r.d.at_) cdv A outer s H E) (fun c d _ H => E c d H) := takes_of rfl rfl rfl rfl
        exact sndB T P top (2 * j + 2) (genv P (MP.call P j)) fn.body _ ⟨r.N, r.d.scope, none⟩ _ C Gc tk r.d.body hb
      · refine ⟨ds.map some ++ List.replicate (fn.ns - fn.np) none, s1, w1, ?_, S1, ?_⟩
        · rw [← hl]
          exact erel_start rr hN (by omega)
        · rw [call_succ j f ds s1 fn hf] at o
          unfold runFn at o
          rw [if_pos hl] at o
          cases hx : exB (genv P (MP.call P j)) fn.body (ds.map some ++ List.replicate (fn.ns - fn.np) none) s1 with
          | nx env' s' => rw [hx] at o; exact fun σ' w' H' l S' E' => fin_ok S1 l S' .non o
          | ret d s' => rw [hx] at o; exact fun v w' H' l S' rv => fin_ok S1 l S' rv o
          | ex c fs env' s' => rw [hx] at o; exact fun cls dd σ' w' H' l S' E' xr => finX_ok (W := fun c d _ H => E c d H) (σ := []) S1 l S' xr o
          | brk => rw [hx] at o; exact o.elim
          | cnt => rw [hx] at o; exact o.elim
          | no => rw [hx] at o; exact o.elim
/-- the law's promise at the script -/
theorem law_sp {n J LAW : Nat} (h : ∀ ns : List Int, ns.length ≤ n → ∃ s', MP.call P J LAW [.scr ns] [] = .ok (.bl true) s') (H : Hp) (a : Addr) (ns : List Int) (hl : ns.length ≤ n) (hO : Only H) (hS : SqL K H a (ns.map V.int)) :
    spF K T P 1 (MP.call P J LAW) [.ref a] H (fun v _ => v = .bl true) fun _ _ _ => False := by
  obtain ⟨s', hs⟩ := h ns hl
  have fin : ∀ w0 : Wd, SRel K T P w0 H [] → Rep K T P w0 H (.scr ns) (.ref a) → spF K T P 1 (MP.call P J LAW) [.ref a] H (fun v _ => v = .bl true) fun _ _ _ => False := fun w0 S r => by
    refine ⟨[.scr ns], [], w0, .cons r .nil, S, rfl, ?_⟩
    rw [hs]
    intro v w' H' _ _ rv
    cases rv
    rfl
  have srel : ∀ q : Addr → Prop, (∀ b, q b → H b ≠ none) → SRel K T P ⟨[], q, []⟩ H [] := fun q hq => ⟨rfl, fun i c a h => by simp at h, fun i j c c' a h => by simp at h, hq, fun a h => by cases h⟩
  rcases hS with hS | hS
  · rcases hS with hS | ⟨o, hS⟩
    · rcases hO a with z | ⟨o, xs, z⟩ <;> rw [hS] at z <;> cases z
    · refine fin ⟨[], fun b => b = a, []⟩ (srel _ fun b hb => ?_) (.scr (.inl ⟨rfl, o, hS⟩))
      rw [hb, hS]
      exact fun z => nomatch z
  · exact fin ⟨[], fun _ => False, []⟩ (srel _ fun b hb => hb.elim) (.scr (.inr hS))
theorem funD_uniq {x qual : Str} {params : Arguments} {body : List Stmt} {scope : Scope} {dvs : List V} {kws : List (Str × V)} {f : Addr} {fd fd' : FuncData} (F : FunD K x qual params body scope dvs kws f fd) (F' : FunD K x qual params body scope dvs kws f fd') : fd = fd' := by
  obtain ⟨_, _, _, _, _, _, _, _, _, _, _, lk, _⟩ := F.ex
  obtain ⟨_, _, _, _, _, _, _, _, _, _, _, lk', _⟩ := F'.ex
  rw [lk] at lk'
  injection lk' with e
  injection e with _ _ e _
  injection e
/-- what a call may let out, in any World -/
def CXw (prog : Program) : CXT := fun outer H s E u s' => ∃ w, L2.CX prog w outer H s E u s'
theorem fnOk_cx {CX CX' : CXT} {k : Nat} {f : Addr} {fd : FuncData} {ps : List Str} {sp : Sp} (F : FnOk prog w K mg base CX k f fd ps sp) (h : ∀ outer H s E u s', CX outer H s E u s' → CX' outer H s E u s') : FnOk prog w K mg base CX' k f fd ps sp :=
  ⟨F.len, fun A outer s H args us vs Q E hr e0 hb r hsp => codeAny_mono (F.run A outer s H args us vs Q E hr e0 hb r hsp) fun r s' hq => by
    cases r with
    | ok fl => cases fl <;> exact hq
    | error e => exact h _ _ _ _ _ _ hq⟩
theorem law_F {h : Heap} {fa : Addr} (KX : K.In h) (X : Txt T P top K mg fd) {LAW J n : Nat} {fn : Fn} {r : FnD} {x : Str} (hf : P.fn LAW = some fn) (hr : fd LAW = some r) (hps : r.ps = [x]) (hnp : fn.np = 1) (hfa : He.fAd K r.d.at_ = fa)
    (hl : ∀ ns : List Int, ns.length ≤ n → ∃ s', MP.call P J LAW [.scr ns] [] = .ok (.bl true) s') :
    ∃ (K : PySem.W.Frag) (fdd : FuncData) (sp : Sp), K.In h ∧ (∀ (s : Shared) (u : Value), BindsTo s fdd ⟨[u], []⟩ [(x, u)]) ∧
      (∀ (H : Hp) (a : Addr) (ns : List Int), ns.length ≤ n → Only H → SqL K H a (ns.map V.int) → sp [.ref a] H (fun v _ => v = .bl true) fun _ _ _ => False) ∧
      ∀ base : Heap, K.In base → base.Ns mainGlobals mg → FnOk prog w K mg base (CXw prog) (2 * J + 2) fa fdd [x] sp := by
  obtain ⟨r0, fdd, q1, _, _, q3, q4, _⟩ := all_ok (prog := prog) (w := w) (base := h) X J LAW fn hf
  rw [hr] at q1
  cases q1
  refine ⟨K, fdd, spF K T P 1 (MP.call P J LAW), KX, fun s u => ?_, fun H a ns h1 hO hS => law_sp hl H a ns h1 hO hS, fun base _ _ => ?_⟩
  · have := q3 s [u] (by rw [hps]; rfl)
    rw [hps] at this
    exact this
  · obtain ⟨r1, fdd', p1, _, _, _, p4, p5⟩ := all_ok (prog := prog) (w := w) (base := base) X J LAW fn hf
    rw [hr] at p1
    cases p1
    have e := funD_uniq q4 p4
    subst e
    rw [hps, hnp, hfa] at p5
    exact fnOk_cx p5 fun outer H s E u s' z => ⟨w, z⟩
end
end MP
set_option autoImplicit false
set_option linter.all false
set_option maxRecDepth 10000
set_option maxHeartbeats 1000000
/-! MPy: the head: what is read of the top's heap. -/
namespace MP
open PySem PySem.Spec PyProof.Rows L2
def tyNs : List String := ["NoneType", "int", "bool", "str", "tuple", "list", "dict"]
def tyNs2 : List String := ["int", "bool", "str", "tuple", "list", "dict"]
section
variable (K : PySem.W.Frag) (T : Tab) (P : Prog)
def instC (c : Nat) (k : Cls) : Bool := k.exn || ((He.Fa.cls (T.cnm c)).ok K && ((k.flds.all fun f => (He.Fa.noat (T.cnm c) (T.anm f)).ok K) && ((He.eqO (PySem.W.findIn K (.ref (ca K T c)) "__class__") (some (some (.builtin "object.__class__"))) &&
  He.eqO (PySem.W.specialIn K (.builtin "object.__class__") "__get__") (some (some (.builtin "getset_descriptor.__get__")))) && (decide (PySem.W.takesIn K (.builtin "object.__class__") = some true) && decide (PySem.W.mroIn K (ca K T c) (.type "object") = some true)))))
def kit1C (c : Nat) : Bool := tyNs.all fun t => decide (PySem.W.kitOne K (.type t) (.ref (ca K T c)) = some false)
def kit2C (c : Nat) (k : Cls) : Bool := k.exn || tyNs2.all fun t => decide (PySem.W.kitOne K (.ref (ca K T c)) (.type t) = some false)
def kit3C (cl : List (Nat × Cls)) (c : Nat) (k : Cls) : Bool := k.exn || cl.all fun p => decide (PySem.W.kitOne K (.ref (ca K T c)) (.ref (ca K T p.1)) = some (P.sub c p.1))
def clsC (cl : List (Nat × Cls)) : Bool := cl.all fun p => instC K T p.1 p.2 && (kit1C K T p.1 && (kit2C K T p.1 p.2 && kit3C K T P cl p.1 p.2))
def anmC (cl : List (Nat × Cls)) : Bool := cl.all fun p => p.2.flds.all fun f => p.2.flds.all fun g => decide (T.anm f = T.anm g → f = g)
end
section
variable {K : PySem.W.Frag} {T : Tab} {P : Prog}
theorem lookup_mem {α : Type} : ∀ {cl : List (Nat × α)} {c : Nat} {k : α}, cl.lookup c = some k → (c, k) ∈ cl
  | [], _, _, h => by cases h
  | (a, b) :: r, c, k, h => by
    rw [List.lookup_cons] at h
    cases e : c == a with
    | true =>
      rw [e] at h
      cases h
      rw [eq_of_beq e]
      exact List.mem_cons_self
    | false =>
      rw [e] at h
      exact List.mem_cons_of_mem _ (lookup_mem h)
theorem tab_of {cl : List (Nat × Cls)} (hP : P.cls = fun c => cl.lookup c) (h : clsC K T P cl = true) (ha : anmC T cl = true) (hpn : T.pn = []) : TabOk K T P := by
  have at_ : ∀ c k, P.cls c = some k → (instC K T c k = true ∧ kit1C K T c = true ∧ kit2C K T c k = true ∧ kit3C K T P cl c k = true) ∧ (c, k) ∈ cl := fun c k e => by
    rw [hP] at e
    have m := lookup_mem e
    have := List.all_eq_true.mp h _ m
    simp only [Bool.and_eq_true] at this
    exact ⟨⟨this.1, this.2.1, this.2.2.1, this.2.2.2⟩, m⟩
  refine ⟨hpn, fun c k e hx => ?_, fun c k f g e hf hg z => ?_, fun c k t e ht => ?_, fun c k t e hx ht => ?_, fun c k c' k' e hx e' => ?_⟩
  · obtain ⟨⟨h1, _⟩, _⟩ := at_ c k e
    unfold instC at h1
    rw [hx] at h1
    simp only [Bool.false_or, Bool.and_eq_true, decide_eq_true_eq, List.all_eq_true] at h1
    obtain ⟨h1, h2, ⟨h3, h4⟩, h5, h6⟩ := h1
    exact ⟨He.cls_ok h1, fun f hf => He.noat_ok (h2 f hf), He.eqO_ok h3, He.eqO_ok h4, h5, h6⟩
  · obtain ⟨_, m⟩ := at_ c k e
    have := List.all_eq_true.mp (List.all_eq_true.mp (List.all_eq_true.mp ha _ m) f hf) g hg
    exact of_decide_eq_true this z
  · obtain ⟨⟨_, h2, _⟩, _⟩ := at_ c k e
    exact of_decide_eq_true (List.all_eq_true.mp h2 t ht)
  · obtain ⟨⟨_, _, h3, _⟩, _⟩ := at_ c k e
    unfold kit2C at h3
    rw [hx, Bool.false_or] at h3
    exact of_decide_eq_true (List.all_eq_true.mp h3 t ht)
  · obtain ⟨⟨_, _, _, h4⟩, _⟩ := at_ c k e
    obtain ⟨_, m⟩ := at_ c' k' e'
    unfold kit3C at h4
    rw [hx, Bool.false_or] at h4
    exact of_decide_eq_true (List.all_eq_true.mp h4 _ m)
end
/-! ### exceptions -/
def oexB (K : PySem.W.Frag) (C : Addr) : Bool := (match K.lookup C with
  | some ⟨.type "type", _, .cls cd, sl⟩ => (match cd.mro, sl.toList with
    | .ref c :: bm, [_, _, _, _, some (.builtin n), _] => (decide (c = C) && decide (n = "ValueError.__new__")) && ((cd.hasDict && !cd.hasDel) && PySem.HandSPX.refsVE bm)
    | _, _ => false)
  | _ => false) && ((decide (PySem.W.findIn K (.ref C) "__setattr__" = some (some (.builtin "object.__setattr__"))) && decide (PySem.W.subIn K (.ref C) (.type "BaseException") = some true)) && (decide (PySem.W.typeIn K (.ref C) = some (.type "type")) && PySem.W.keepIn K (.ref C)))
theorem oexB_ok {K : PySem.W.Frag} {C : Addr} (h : oexB K C = true) : OexC K C := by
  unfold oexB at h
  simp only [Bool.and_eq_true, decide_eq_true_eq] at h
  obtain ⟨h1, ⟨h2, h3⟩, h4, h5⟩ := h
  refine ⟨?_, h2, h3, h4, h5⟩
  split at h1
  · rename_i dd cd sl ho
    split at h1
    · rename_i c bm k0 k1 k2 k3 n k5 hm hs
      simp only [Bool.and_eq_true, decide_eq_true_eq, Bool.not_eq_true'] at h1
      obtain ⟨⟨rfl, rfl⟩, ⟨hd, hdel⟩, hv⟩ := h1
      obtain ⟨nm, bs, mro, ns, qn, hdict, sn, sub, ab, col, del⟩ := cd
      dsimp only at hm hd hdel
      subst hm hd hdel
      obtain ⟨l⟩ := sl
      simp only at hs
      subst hs
      exact ⟨nm, qn, ns, bs, bm, sn, sub, ab, col, dd, k0, k1, k2, k3, k5, ho, hv⟩
    · cases h1
  · cases h1
section
variable (K : PySem.W.Frag) (T : Tab) (P : Prog)
def exn1C (c : Nat) (k : Cls) : Bool := ((match k.flds with
  | [] => PySem.W.excIn K (ca K T c) He.veBase "ValueError.__new__" && PySem.W.keepIn K (.ref (ca K T c))
  | [f] => oexB K (ca K T c) && decide (PySem.W.findIn K (.ref (ca K T c)) (T.anm f) = some none)
  | _ => false) && (decide (PySem.W.subIn K (.ref (ca K T c)) (.type "BaseException") = some true) && decide (PySem.W.typeIn K (.ref (ca K T c)) = some (.type "type")))) &&
  ((xfB K (ca K T c) && ((decide (PySem.W.findIn K (.ref (ca K T c)) "__class__" = some (some (.builtin "object.__class__"))) && decide (PySem.W.specialIn K (.builtin "object.__class__") "__get__" = some (some (.builtin "getset_descriptor.__get__")))) &&
    (decide (PySem.W.takesIn K (.builtin "object.__class__") = some true) && decide (PySem.W.mroIn K (ca K T c) (.type "object") = some true)))) && decide (PySem.W.kitOne K (.ref (ca K T c)) (.type "ValueError") = some true))
def exn2C (c c' : Nat) : Bool := decide (PySem.W.exmOne K (.ref (ca K T c)) (.ref (ca K T c')) = some (P.sub c c')) && decide (PySem.W.kitOne K (.ref (ca K T c)) (.ref (ca K T c')) = some (P.sub c c'))
def exnsC (cl : List (Nat × Cls)) : Bool := cl.all fun p => !p.2.exn || (exn1C K T p.1 p.2 && cl.all fun q => !q.2.exn || exn2C K T P p.1 q.1)
end
theorem xtab_of {K : PySem.W.Frag} {T : Tab} {P : Prog} {cl : List (Nat × Cls)} (hP : P.cls = fun c => cl.lookup c) (h : exnsC K T P cl = true) : XTab K T P := by
  have at_ : ∀ c k, P.cls c = some k → k.exn = true → exn1C K T c k = true ∧ (∀ c' k', P.cls c' = some k' → k'.exn = true → exn2C K T P c c' = true) := fun c k e hx => by
    rw [hP] at e
    have q := List.all_eq_true.mp h _ (lookup_mem e)
    rw [hx] at q
    simp only [Bool.not_true, Bool.false_or, Bool.and_eq_true] at q
    refine ⟨q.1, fun c' k' e' hx' => ?_⟩
    rw [hP] at e'
    have q2 := List.all_eq_true.mp q.2 _ (lookup_mem e')
    rw [hx'] at q2
    simpa using q2
  refine ⟨fun c k f e hx hf => ?_, fun c k e hx hf => ?_, fun c k e hx => ?_, fun c k e hx => ?_, fun c k c' k' e hx e' hx' => ?_, fun c k e hx => ?_⟩
  · have q := (at_ c k e hx).1
    unfold exn1C at q
    rw [hf] at q
    simp only [Bool.and_eq_true, decide_eq_true_eq] at q
    exact ⟨oexB_ok q.1.1.1, q.1.1.2⟩
  · have q := (at_ c k e hx).1
    unfold exn1C at q
    rw [hf] at q
    simp only [Bool.and_eq_true, decide_eq_true_eq] at q
    exact q.1.1
  · have q := (at_ c k e hx).1
    unfold exn1C at q
    simp only [Bool.and_eq_true, decide_eq_true_eq] at q
    exact q.1.2
  · have q := (at_ c k e hx).1
    unfold exn1C at q
    simp only [Bool.and_eq_true, decide_eq_true_eq] at q
    obtain ⟨_, ⟨q1, ⟨q2, q3⟩, q4, q5⟩, _⟩ := q
    have X := xfB_ok q1
    exact ⟨X, ⟨X.ga, X.gg, X.exC, X.hdC, q2, q3, q4, q5⟩⟩
  · have q := (at_ c k e hx).2 c' k' e' hx'
    unfold exn2C at q
    simp only [Bool.and_eq_true, decide_eq_true_eq] at q
    exact q
  · have q := (at_ c k e hx).1
    unfold exn1C at q
    simp only [Bool.and_eq_true, decide_eq_true_eq] at q
    exact q.2.2
/-- the head's hook with one more question -/
def hookM (n : Nat) (fa : List He.Fa) (fn : List He.DefD) (ex : PySem.W.Frag → Bool) : PySem.W.Hook where
  α := Bool × He.AlD
  obs := fun s => (ex (He.frG s.heap.get? (He.asD s.heap.get? n)), He.obsDG n fa fn s.heap.get?)
  val := fun _ => (true, He.valD fn)
  says := fun _ h => ∃ K : PySem.W.Frag, K.In h ∧ (He.SaysD fa fn K ∧ ex K = true)
  of := fun _ _ e => ⟨_, He.frG_in, congrArg Prod.snd e, congrArg Prod.fst e⟩
  keeps := fun _ _ _ ⟨K, hK, c⟩ k => ⟨K, PySem.W.Frag.In.keeps hK k, c⟩
def obsM (n : Nat) (fa : List He.Fa) (fn : List He.DefD) (ex : PySem.W.Frag → Bool) (g : Addr → Option Obj) : Bool × He.AlD := (ex (He.frG g (He.asD g n)), He.obsDG n fa fn g)
theorem obsM_eq {n : Nat} {fa : List He.Fa} {fn : List He.DefD} {ex : PySem.W.Frag → Bool} {g : Addr → Option Obj} {s : Shared} (h : ∀ a, g a = s.heap.get? a) : obsM n fa fn ex g = (hookM n fa fn ex).obs s := by
  have e : g = s.heap.get? := funext h
  rw [e] <;> rfl
theorem law_at {K : PySem.W.Frag} {mg : Str → Option Value} {fa : Addr} {x : Str} (z : mg x = some (.ref (He.ga K x))) (h : mg x = some (.ref fa)) : He.fAd K (x, none) = fa := by
  rw [z] at h
  injection h with h
  injection h
end MP
set_option autoImplicit false
set_option linter.all false
set_option maxRecDepth 10000
set_option maxHeartbeats 1000000
/-! SX: the small language, run by simp: one equation for each form (loops and comprehensions aside). -/
namespace MP
section
variable (g : G) (env : Env) (s : Sto)
@[simp] theorem ev_var (i : Nat) : evE g (.var i) env s = .opt (getE env i) s := by rw [evE]
@[simp] theorem ev_lit (d : D) : evE g (.lit d) env s = .ok d s := by rw [evE]
@[simp] theorem ev_glob (i : Nat) : evE g (.glob i) env s = .opt (g.glob i) s := by rw [evE]
@[simp] theorem ev_bin (o : BOp) (a b : E) : evE g (.bin o a b) env s = (evE g a env s).bind fun x s => (evE g b env s).bind fun y s => .opt (binop s o x y) s := by rw [evE]
theorem ev_neg' (a : E) : evE g (.neg a) env s = (evE g a env s).bind fun x s => match x with
    | .int i => .ok (.int (-i)) s
    | _ => .no := by rw [evE] <;> rfl
@[simp] theorem ev_cmp (o : COp) (a b : E) : evE g (.cmp o a b) env s = (evE g a env s).bind fun x s => (evE g b env s).bind fun y s => .opt ((cmpop s o x y).map D.bl) s := by rw [evE]
@[simp] theorem ev_chain (o o' : COp) (a b c : E) : evE g (.chain o o' a b c) env s = (evE g a env s).bind fun x s => (evE g b env s).bind fun y s => opt1 (cmpop s o x y) fun r =>
    if r then (evE g c env s).bind fun z s => .opt ((cmpop s o' y z).map D.bl) s else .ok (.bl false) s := by rw [evE]
@[simp] theorem ev_and (es : List E) : evE g (.and es) env s = evAnd g es env s := by rw [evE]
@[simp] theorem ev_or (es : List E) : evE g (.or es) env s = evOr g es env s := by rw [evE]
@[simp] theorem ev_not (a : E) : evE g (.not a) env s = (evE g a env s).bind fun x s => .opt ((truthy s x).map fun b => D.bl (!b)) s := by rw [evE]
@[simp] theorem ev_ite (c a b : E) : evE g (.ite c a b) env s = (evE g c env s).bind fun x s => opt1 (truthy s x) fun r => if r then evE g a env s else evE g b env s := by rw [evE]
@[simp] theorem ev_tup (es : List E) : evE g (.tup es) env s = (evEs g es env s).bind fun xs s => .ok (.tup xs) s := by rw [evE]
@[simp] theorem ev_lst (m : Bool) (es : List E) : evE g (.lst m es) env s = (evEs g es env s).bind fun xs s => newL m xs s := by rw [evE]
@[simp] theorem ev_dct0 : evE g (.dct [] []) env s = .ok (.ref s.length) (s ++ [.dct []]) := by rw [evE]; simp [evEs]
@[simp] theorem ev_idx (a b : E) : evE g (.idx a b) env s = (evE g a env s).bind fun x s => (evE g b env s).bind fun y s => .opt (indexS s x y) s := by rw [evE]
@[simp] theorem ev_slc (m : Bool) (a : E) (lo hi : Option E) : evE g (.slc m a lo hi) env s = (evE g a env s).bind fun x s => (evO g lo env s).bind fun l s => (evO g hi env s).bind fun h s => slF m x l h s := by rw [evE]
@[simp] theorem ev_fld (a : E) (f : Nat) : evE g (.fld a f) env s = (evE g a env s).bind fun x s => .opt (field g s x f) s := by rw [evE]
@[simp] theorem ev_call (f : Nat) (es : List E) : evE g (.call f es) env s = (evEs g es env s).bind fun xs s => g.call f (fill (g.np f) xs (g.dfl f)) s := by rw [evE]
@[simp] theorem ev_make (c : Nat) (es : List E) : evE g (.make c es) env s = (evEs g es env s).bind fun xs s => makeD g c xs s := by rw [evE]
@[simp] theorem ev_bi (b : Bi) (es : List E) : evE g (.bi b es) env s = (evEs g es env s).bind fun xs s => .opt (bfn s b xs) s := by rw [evE]
@[simp] theorem ev_li (b : Li) (m : Bool) (a : E) : evE g (.li b m a) env s = (evE g a env s).bind fun x s => opt1 (lfn s b x) fun xs => newL m xs s := by rw [evE]
@[simp] theorem ev_bm (b : Bm) (a : E) (es : List E) : evE g (.bm b a es) env s = (evE g a env s).bind fun x s => if (lstOf s x).isSome then (evEs g es env s).bind fun xs s => bmf s b x xs else .no := by rw [evE]
@[simp] theorem ev_isi (a : E) (t : Ty) : evE g (.isi a [t]) env s = (evE g a env s).bind fun x s => .opt ((tyIs g s x t).map D.bl) s := by
  rw [evE]
  congr 1
  funext x s
  simp only [tyAny]
  cases tyIs g s x t with
  | none => rfl
  | some b => cases b <;> rfl
@[simp] theorem evs_nil : evEs g [] env s = .ok [] s := by rw [evEs]
@[simp] theorem evs_cons (e : E) (es : List E) : evEs g (e :: es) env s = (evE g e env s).bind fun x s => (evEs g es env s).bind fun xs s => .ok (x :: xs) s := by rw [evEs]
@[simp] theorem evo_none : evO g none env s = .ok none s := by rw [evO]
theorem evo_some (e : E) : evO g (some e) env s = (evE g e env s).bind fun x s => match x with
    | .int i => .ok (some i) s
    | _ => .no := by rw [evO] <;> rfl
@[simp] theorem evand_nil : evAnd g [] env s = .ok (.bl true) s := by rw [evAnd]
@[simp] theorem evand_one (e : E) : evAnd g [e] env s = evE g e env s := by rw [evAnd]
@[simp] theorem evand_cons (e e' : E) (es : List E) : evAnd g (e :: e' :: es) env s = (evE g e env s).bind fun x s => opt1 (truthy s x) fun b => if b then evAnd g (e' :: es) env s else .ok x s := by rw [evAnd]; intro h; cases h
@[simp] theorem evor_one (e : E) : evOr g [e] env s = evE g e env s := by rw [evOr]
@[simp] theorem evor_cons (e e' : E) (es : List E) : evOr g (e :: e' :: es) env s = (evE g e env s).bind fun x s => opt1 (truthy s x) fun b => if b then .ok x s else evOr g (e' :: es) env s := by rw [evOr]; intro h; cases h
/-! ### statements -/
@[simp] theorem ex_expr (e : E) : exS g (.expr e) env s = (evE g e env s).sr env fun _ s => .nx env s := by rw [exS]
@[simp] theorem ex_asg (t : MP.T) (e : E) : exS g (.asg t e) env s = (evE g e env s).sr env fun d s => opt2 (asgT t d env) fun env => .nx env s := by rw [exS]
@[simp] theorem ex_seti (a i e : E) : exS g (.seti a i e) env s = (evE g e env s).sr env fun v s => (evE g a env s).sr env fun o s => (evE g i env s).sr env fun k s => opt2 (setI s o k v) fun s => .nx env s := by rw [exS]
@[simp] theorem ex_setf (o : E) (f : Nat) (e : E) : exS g (.setf o f e) env s = (evE g e env s).sr env fun v s => (evE g o env s).sr env fun x s => opt2 (setFl g s x f v) fun s => .nx env s := by rw [exS]
@[simp] theorem ex_ret (e : E) : exS g (.ret e) env s = (evE g e env s).sr env fun d s => .ret d s := by rw [exS]
@[simp] theorem ex_retN : exS g .retN env s = .ret .non s := by rw [exS]
@[simp] theorem ex_ife (c : E) (a b : List S) : exS g (.ife c a b) env s = (evE g c env s).sr env fun x s => opt2 (truthy s x) fun r => if r then exB g a env s else exB g b env s := by rw [exS]
@[simp] theorem ex_brk : exS g .brk env s = .brk env s := by rw [exS]
@[simp] theorem ex_cnt : exS g .cnt env s = .cnt env s := by rw [exS]
@[simp] theorem ex_pass : exS g .pass env s = .nx env s := by rw [exS]
@[simp] theorem ex_nil : exB g [] env s = .nx env s := by rw [exB]
@[simp] theorem ex_cons (st : S) (r : List S) : exB g (st :: r) env s = (exS g st env s).seq fun env s => exB g r env s := by rw [exB]
end
@[simp] theorem asg_name (i : Nat) (d : D) (env : Env) : asgT (.name i) d env = some (setE env i (some d)) := by rw [asgT]
@[simp] theorem asg_tup (ts : List MP.T) (ds : List D) (env : Env) : asgT (.tup ts) (.tup ds) env = asgTs ts ds env := by rw [asgT]
@[simp] theorem asgs_nil (env : Env) : asgTs [] [] env = some env := by rw [asgTs]
@[simp] theorem asgs_cons (t : MP.T) (ts : List MP.T) (d : D) (ds : List D) (env : Env) : asgTs (t :: ts) (d :: ds) env = (asgT t d env).bind (asgTs ts ds) := by rw [asgTs]
@[simp] theorem getE_z (x : Option D) (r : Env) : getE (x :: r) 0 = x := rfl
@[simp] theorem getE_s (x : Option D) (r : Env) (n : Nat) : getE (x :: r) (n + 1) = getE r n := rfl
@[simp] theorem setE_z (x d : Option D) (r : Env) : setE (x :: r) 0 d = d :: r := rfl
@[simp] theorem setE_s (x d : Option D) (r : Env) (n : Nat) : setE (x :: r) (n + 1) d = x :: setE r n d := rfl
@[simp] theorem wipe_nil (env : Env) : wipeE env [] = env := rfl
@[simp] theorem wipe_cons (env : Env) (v : Nat) (vs : List Nat) : wipeE env (v :: vs) = setE (wipeE env vs) v none := rfl
@[simp] theorem newL_f (xs : List D) (s : Sto) : newL false xs s = .ok (.lst xs) s := rfl
@[simp] theorem newL_t (xs : List D) (s : Sto) : newL true xs s = .ok (.ref s.length) (s ++ [.lst xs]) := rfl
@[simp] theorem truthy_bl (s : Sto) (b : Bool) : truthy s (.bl b) = some b := rfl
@[simp] theorem truthy_int (s : Sto) (b : Int) : truthy s (.int b) = some (b != 0) := rfl
@[simp] theorem cmp_eq_int (s : Sto) (a b : Int) : cmpop s .eq (.int a) (.int b) = some (decide (a = b)) := by simp [cmpop, eqD, dataOf, eqv]; by_cases h : a = b <;> simp [h]
@[simp] theorem cmp_ne_int (s : Sto) (a b : Int) : cmpop s .ne (.int a) (.int b) = some (!decide (a = b)) := by simp [cmpop, eqD, dataOf, eqv]; by_cases h : a = b <;> simp [h]
@[simp] theorem cmp_eq_bl (s : Sto) (a b : Bool) : cmpop s .eq (.bl a) (.bl b) = some (a == b) := by simp [cmpop, eqD, dataOf, eqv]
@[simp] theorem cmp_ne_bl (s : Sto) (a b : Bool) : cmpop s .ne (.bl a) (.bl b) = some (!(a == b)) := by simp [cmpop, eqD, dataOf, eqv]
@[simp] theorem cmp_lt_int (s : Sto) (a b : Int) : cmpop s .lt (.int a) (.int b) = some (decide (a < b)) := by simp [cmpop, ltD, dataOf, ltv]
@[simp] theorem cmp_gt_int (s : Sto) (a b : Int) : cmpop s .gt (.int a) (.int b) = some (decide (b < a)) := rfl
@[simp] theorem cmp_le_int (s : Sto) (a b : Int) : cmpop s .le (.int a) (.int b) = some (decide (a ≤ b)) := rfl
@[simp] theorem cmp_ge_int (s : Sto) (a b : Int) : cmpop s .ge (.int a) (.int b) = some (decide (b ≤ a)) := rfl
@[simp] theorem bin_add_int (s : Sto) (a b : Int) : binop s .add (.int a) (.int b) = some (.int (a + b)) := rfl
@[simp] theorem bin_sub_int (s : Sto) (a b : Int) : binop s .sub (.int a) (.int b) = some (.int (a - b)) := rfl
theorem bin_mul_int (s : Sto) (a b : Int) (h : mulOk a b = true) : binop s .mul (.int a) (.int b) = some (.int (a * b)) := by simp [binop, h]
theorem bin_mod_int (s : Sto) (a b : Int) (h : 0 < b) : binop s .mod (.int a) (.int b) = some (.int (a % b)) := by simp [binop, h]
theorem bin_fdiv_int (s : Sto) (a b : Int) (h : 0 < b) (h2 : b < 1073741824) : binop s .fdiv (.int a) (.int b) = some (.int (a / b)) := by simp [binop, h, h2]
@[simp] theorem bfn_int (s : Sto) (a : Int) : bfn s .toInt [.int a] = some (.int a) := rfl
@[simp] theorem bfn_int_bl (s : Sto) (b : Bool) : bfn s .toInt [.bl b] = some (.int (if b then 1 else 0)) := rfl
@[simp] theorem bfn_abs (s : Sto) (a : Int) : bfn s .abs [.int a] = some (.int (if a < 0 then -a else a)) := rfl
@[simp] theorem bfn_max2 (s : Sto) (a b : Int) : bfn s .max2 [.int a, .int b] = some (.int (if b > a then b else a)) := rfl
@[simp] theorem bfn_min2 (s : Sto) (a b : Int) : bfn s .min2 [.int a, .int b] = some (.int (if b < a then b else a)) := rfl
theorem mulOk_l {a b : Int} (h1 : -(2 ^ 64) < a) (h2 : a < 2 ^ 64) : mulOk a b = true := by unfold mulOk; simp; omega
theorem mulOk_r {a b : Int} (h1 : -(2 ^ 64) < b) (h2 : b < 2 ^ 64) : mulOk a b = true := by unfold mulOk; simp; omega
/-! ### a call's end -/
theorem gcOk_rfl (s : Sto) : gcOk s s = true := by
  unfold gcOk
  simp
theorem fin_same {m : Nat} {s : Sto} {d : D} (hm : m = 0 ∨ m = 1) (h : d.free = true) : fin m s d s = .ok d s := by
  unfold fin
  rw [if_neg (by omega), if_pos (gcOk_rfl s), if_pos h, List.take_length]
@[simp] theorem fin0_bl (s : Sto) (b : Bool) : fin 0 s (.bl b) s = .ok (.bl b) s := fin_same (.inl rfl) (by simp [D.free])
@[simp] theorem fin0_int (s : Sto) (b : Int) : fin 0 s (.int b) s = .ok (.int b) s := fin_same (.inl rfl) (by simp [D.free])
@[simp] theorem fin0_non (s : Sto) : fin 0 s .non s = .ok .non s := fin_same (.inl rfl) (by simp [D.free])
/-- only cells with nothing but free values were written -/
theorem gcOk_set {s : Sto} {i : Nat} {c : Cell} (h : c.free = true) : gcOk s (s.set i c) = true := by
  unfold gcOk
  simp only [List.length_set, Nat.le_refl, decide_true, Bool.true_and, List.all_eq_true, List.mem_range, Bool.or_eq_true, decide_eq_true_eq]
  intro j hj
  by_cases e : i = j
  · subst e
    right
    rw [List.getElem?_set_self hj]
    exact h
  · left
    rw [List.getElem?_set_ne e]
theorem frees_ints (ns : List Int) : D.frees (ns.map D.int) = true := by
  induction ns with
  | nil => rfl
  | cons n ns ih => simp [D.frees, D.free, ih]
/-! ### loops -/
theorem stands_of {s : Sto} {d : D} {xs : List D} (h : seqOf s d = some xs) : stands (guardOf d xs) s = true := by
  cases d with
  | ref i =>
    simp only [seqOf] at h
    split at h
    · rename_i ys hi
      cases h
      simp [guardOf, stands, hi]
    · cases h
  | _ => rfl
theorem ev_comp {g : G} {m : Bool} {own : List Nat} {elt : E} {t : MP.T} {it : I} {ifs : List E} {env : Env} {s s' s'' : Sto} {ds ys : List D} {gd : Gd} (hi : evI g it env s = .ok (ds, gd) s') (hc : compLoop (stepF own t (evAnd g ifs) (evE g elt) env) gd ds s' = .ok ys s'') (hl : ys.length ≤ LINE) :
    evE g (.comp m own elt t it ifs) env s = newL m ys s'' := by
  have : evE g (.comp m own elt t it ifs) env s = compF m own t (evI g it) (evAnd g ifs) (evE g elt) env s := by rw [evE]; rfl
  rw [this]
  unfold compF
  rw [hi]
  simp only [R.bind_ok]
  rw [hc]
  simp only [hl, if_true]
theorem comp_map {step : D → Sto → R (Option D)} {g : Gd} {s : Sto} {f : D → D} (hg : stands g s = true) : ∀ {ds : List D}, (∀ d ∈ ds, step d s = .ok (some (f d)) s) → compLoop step g ds s = .ok (ds.map f) s
  | [], _ => by simp [compLoop, hg]
  | d :: ds, h => by
    simp only [compLoop, hg, if_true]
    rw [h d List.mem_cons_self]
    simp only
    rw [comp_map hg fun e he => h e (List.mem_cons_of_mem _ he)]
    rfl
/-- a comprehension whose elements change nothing -/
theorem ev_comp_map {g : G} {own : List Nat} {elt : E} {t : MP.T} {it : I} {env : Env} {s : Sto} {ds : List D} {gd : Gd} {m : Bool} (f : D → D) (hi : evI g it env s = .ok (ds, gd) s) (hg : stands gd s = true) (hl : ds.length ≤ LINE)
    (h : ∀ d ∈ ds, ∃ env', asgT t d (wipeE env own) = some env' ∧ evE g elt env' s = .ok (f d) s) : evE g (.comp m own elt t it []) env s = newL m (ds.map f) s := by
  refine ev_comp hi (comp_map hg fun d hd => ?_) (by rw [List.length_map]; exact hl)
  obtain ⟨env', h1, h2⟩ := h d hd
  simp [stepF, h1, h2]
/-- one turn of a for -/
def bodyF (g : G) (t : MP.T) (body : List S) : D → Env → Sto → SR := fun d env s => opt2 (asgT t d env) fun env => exB g body env s
theorem ex_for {g : G} {t : MP.T} {it : I} {body : List S} {env : Env} {s s' : Sto} {ds : List D} {gd : Gd} (hi : evI g it env s = .ok (ds, gd) s') :
    exS g (.forS t it body) env s = forLoop (bodyF g t body) gd ds env s' := by
  rw [exS, hi]
  rfl
theorem for_nil {step : D → Env → Sto → SR} {gd : Gd} {env : Env} {s : Sto} (h : stands gd s = true) : forLoop step gd [] env s = .nx env s := by simp [forLoop, h]
theorem for_nx {step : D → Env → Sto → SR} {gd : Gd} {d : D} {ds : List D} {env env' : Env} {s s' : Sto} (h : stands gd s = true) (hs : step d env s = .nx env' s') : forLoop step gd (d :: ds) env s = forLoop step gd ds env' s' := by simp [forLoop, h, hs]
theorem for_ret {step : D → Env → Sto → SR} {gd : Gd} {d v : D} {ds : List D} {env : Env} {s s' : Sto} (h : stands gd s = true) (hs : step d env s = .ret v s') : forLoop step gd (d :: ds) env s = .ret v s' := by simp [forLoop, h, hs]
@[simp] theorem intsOf_map : ∀ ns : List Int, intsOf (ns.map D.int) = some ns
  | [] => rfl
  | n :: ns => by simp [intsOf, intsOf_map ns]
@[simp] theorem blsOf_map : ∀ ns : List Bool, blsOf (ns.map D.bl) = some ns
  | [] => rfl
  | n :: ns => by simp [blsOf, blsOf_map ns]
theorem evI_seq {g : G} {e : E} {env : Env} {s s' : Sto} {d : D} {xs : List D} (h : evE g e env s = .ok d s') (hx : seqOf s' d = some xs) : evI g (.seq e) env s = .ok (xs, guardOf d xs) s' := by
  rw [evI, h]
  cases d with
  | str x => simp [seqOf] at hx
  | _ => simp only [R.bind_ok, hx, opt1_some]
theorem evI_zip2 {g : G} {a b : E} {env : Env} {s s1 s2 : Sto} {d1 d2 : D} {xs ys : List D} (h1 : evE g a env s = .ok d1 s1) (h2 : evE g b env s1 = .ok d2 s2) (hx : seqOf s2 d1 = some xs) (hy : seqOf s2 d2 = some ys) :
    evI g (.zip [a, b]) env s = .ok ((xs.zip ys).map fun p => D.tup [p.1, p.2], guardOf d1 xs ++ guardOf d2 ys) s2 := by
  rw [evI]
  simp [h1, h2, hx, hy, zipD]
theorem evI_range1 {g : G} {a : E} {env : Env} {s s1 : Sto} {n : Int} (h1 : evE g a env s = .ok (.int n) s1) (h : smallI n = true) : evI g (.range [a]) env s = .ok (rangeD 0 n.toNat, []) s1 := by
  rw [evI]
  simp [h1, h]
end MP
set_option autoImplicit false
set_option linter.all false
set_option maxRecDepth 10000
set_option maxHeartbeats 1000000
/-! SY: running functions of any text; steps, loops. -/
namespace MP
/-- no defaults -/
def Nd (P : Prog) : Prop := ∀ f fn, P.fn f = some fn → fn.dfl = []
section
variable {P : Prog}
theorem fillP (h : Nd P) (c : Nat → List D → Sto → R D) (f n : Nat) (xs : List D) : fill n xs ((genv P c).dfl f) = xs := by
  have : (genv P c).dfl f = [] := by
    show (match P.fn f with | some x => x.dfl | none => []) = []
    cases e : P.fn f with
    | none => rfl
    | some x => exact h f x e
  rw [this, fill_nil]
@[simp] theorem gg_call (c : Nat → List D → Sto → R D) (f : Nat) : (genv P c).call f = c f := rfl
@[simp] theorem gg_glob (c : Nat → List D → Sto → R D) (f : Nat) : (genv P c).glob f = P.glob f := rfl
@[simp] theorem gg_cls (c : Nat → List D → Sto → R D) (f : Nat) : (genv P c).cls f = P.cls f := rfl
@[simp] theorem gg_sub (c : Nat → List D → Sto → R D) (f h : Nat) : (genv P c).sub f h = P.sub f h := rfl
theorem call_run {k f : Nat} {fn : Fn} {ds : List D} {s : Sto} (h : P.fn f = some fn) : MP.call P (k + 1) f ds s = runFn (genv P (MP.call P k)) fn ds s := by
  simp only [MP.call, h]
theorem run_ret {g : G} {f : Fn} {args : List D} {s s' : Sto} {v : D} (hl : args.length = f.np) (h : exB g f.body (args.map some ++ List.replicate (f.ns - f.np) none) s = .ret v s') : runFn g f args s = fin f.mode s v s' := by
  unfold runFn
  rw [if_pos hl, h]
theorem run_nx {g : G} {f : Fn} {args : List D} {s s' : Sto} {env : Env} (hl : args.length = f.np) (h : exB g f.body (args.map some ++ List.replicate (f.ns - f.np) none) s = .nx env s') : runFn g f args s = fin f.mode s .non s' := by
  unfold runFn
  rw [if_pos hl, h]
theorem run_ex {g : G} {f : Fn} {args fs : List D} {s s' : Sto} {env : Env} {c : Nat} (hl : args.length = f.np) (h : exB g f.body (args.map some ++ List.replicate (f.ns - f.np) none) s = .ex c fs env s') : runFn g f args s = finX s c fs s' := by
  unfold runFn
  rw [if_pos hl, h]
theorem finX_same {s : Sto} {c : Nat} {fs : List D} (h : D.frees fs = true) : finX s c fs s = .ex c fs s := by
  unfold finX
  rw [gcOk_rfl, h]
  simp
end
section
variable {g : G} {st : S} {r : List S} {env env' : Env} {s s' : Sto} {v : D} {z : SR}
theorem nx (h : exS g st env s = .nx env' s') (h2 : exB g r env' s' = z) : exB g (st :: r) env s = z := by rw [ex_cons, h]; exact h2
theorem rt (h : exS g st env s = .ret v s') : exB g (st :: r) env s = .ret v s' := by rw [ex_cons, h]; rfl
theorem rx {c : Nat} {fs : List D} (h : exS g st env s = .ex c fs env' s') : exB g (st :: r) env s = .ex c fs env' s' := by rw [ex_cons, h]; rfl
theorem exB_nx (h : exS g st env s = .nx env' s') : exB g (st :: r) env s = exB g r env' s' := by simp [h]
theorem exB_ret (h : exS g st env s = .ret v s') : exB g (st :: r) env s = .ret v s' := by simp [h]
theorem nxE (h : exS g st env s = .nx env' s') (h2 : ∃ t, exB g r env' s' = .ret v t) : ∃ t, exB g (st :: r) env s = .ret v t := by
  obtain ⟨t, h2⟩ := h2
  exact ⟨t, nx h h2⟩
theorem nxR (h : exS g st env s = .ret v s') : ∃ t, exB g (st :: r) env s = .ret v t := ⟨s', rt h⟩
@[simp] theorem ex_raise (c : Nat) (es : List E) : exS g (.raise c es) env s = (evEs g es env s).sr env fun vs s => .ex c vs env s := by rw [exS]
@[simp] theorem ex_aug (i : Nat) (o : BOp) (e : E) : exS g (.aug i o e) env s = opt2 (getE env i) fun x => (evE g e env s).sr env fun y s => if augOk x y then opt2 (binop s o x y) fun z => .nx (setE env i (some z)) s else .no := by rw [exS]
@[simp] theorem ex_dput (a k e : E) : exS g (.dput a k e) env s = (evE g e env s).sr env fun v s => (evE g a env s).sr env fun o s => (evE g k env s).sr env fun y s => opt2 (dputD s o y v) fun s => .nx env s := by rw [exS]
@[simp] theorem ev_dget (a k : E) : evE g (.dget a k) env s = (evE g a env s).bind fun x s => (evE g k env s).bind fun y s => .opt (dgetD s x y) s := by rw [evE]
theorem ex_try_ok {body : List S} {hs : List Hd} (h : exB g body env s = .nx env' s') : exS g (.tryS body hs) env s = .nx env' s' := by rw [exS, h]
theorem ex_try_ret {body : List S} {hs : List Hd} (h : exB g body env s = .ret v s') : exS g (.tryS body hs) env s = .ret v s' := by rw [exS, h]
theorem ex_try_ex {body : List S} {hs : List Hd} {c : Nat} {fs : List D} (h : exB g body env s = .ex c fs env' s') (hc : exnG g c = true) : exS g (.tryS body hs) env s = exH g hs c fs env' s' := by rw [exS, h]; simp [hc]
theorem exh_hit {k c : Nat} {slot : Option Nat} {body : List S} {hs : List Hd} {fs : List D} (h : g.sub c k = true) : exH g (.mk k slot body :: hs) c fs env s = (exB g body (match slot with | some i => setE env i (some (.exc c fs)) | none => env) s).gone slot := by
  simp only [exH, h, if_true] <;> rfl
theorem exh_miss {k c : Nat} {slot : Option Nat} {body : List S} {hs : List Hd} {fs : List D} (h : g.sub c k = false) : exH g (.mk k slot body :: hs) c fs env s = exH g hs c fs env s := by
  simp only [exH, h, Bool.false_eq_true, if_false]
@[simp] theorem ev_xfld (i f : Nat) : evE g (.xfld i f) env s = opt1 (getE env i) fun x => .opt (xfield g x f) s := by rw [evE]
@[simp] theorem ev_xisi (i : Nat) (t : Ty) : evE g (.xisi i t) env s = opt1 (getE env i) fun x => .opt ((xis g x t).map D.bl) s := by rw [evE]
end
/-! ### loops -/
/-- a loop that ends at the first item of a kind -/
theorem for_until {step : D → Env → Sto → SR} {gd : Gd} {s : Sto} {I : Env → Prop} (c : D → Bool) (v : D) (hst : stands gd s = true) : ∀ {xs : List D}, (∀ x ∈ xs, ∀ env, I env → (c x = true → step x env s = .ret v s) ∧ (c x = false → ∃ env', I env' ∧ step x env s = .nx env' s)) → ∀ {env : Env}, I env →
    (xs.any c = true → forLoop step gd xs env s = .ret v s) ∧ (xs.any c = false → ∃ env', I env' ∧ forLoop step gd xs env s = .nx env' s)
  | [], _, env, hi => ⟨fun h => by simp at h, fun _ => ⟨env, hi, for_nil hst⟩⟩
  | x :: xs, h, env, hi => by
    obtain ⟨h1, h2⟩ := h x List.mem_cons_self env hi
    cases hx : c x with
    | true => exact ⟨fun _ => for_ret hst (h1 hx), fun z => by simp [hx] at z⟩
    | false =>
      obtain ⟨env', hi', he⟩ := h2 hx
      obtain ⟨q1, q2⟩ := for_until (xs := xs) c v hst (fun y hy => h y (List.mem_cons_of_mem _ hy)) hi'
      rw [for_nx hst he]
      simp only [List.any_cons, hx, Bool.false_or]
      exact ⟨q1, q2⟩
/-! ### kinds -/
def Ty1 (s : Sto) : D → Prop
  | .scr _ => False
  | .exc _ _ => False
  | .ref i => ∃ c, s[i]? = some c ∧ c ≠ .dead
  | _ => True
def Ty2 (s : Sto) (d : D) : Prop := Ty1 s d ∧ ∀ xs, d = .tup xs → ∀ x ∈ xs, Ty1 s x
def isIntD : D → Bool
  | .int _ => true
  | _ => false
def isBlD : D → Bool
  | .bl _ => true
  | _ => false
def isTupD : D → Bool
  | .tup _ => true
  | _ => false
theorem ty_int {g : G} {s : Sto} {d : D} (h : Ty1 s d) : tyIs g s d .int = some (isIntD d || isBlD d) := by
  cases d <;> simp only [Ty1] at h <;> first | (exact absurd h id) | rfl | skip
  obtain ⟨c, h, hd⟩ := h
  cases c <;> simp [tyIs, h, isIntD, isBlD] <;> first | rfl | exact absurd rfl hd
theorem ty_bool {g : G} {s : Sto} {d : D} (h : Ty1 s d) : tyIs g s d .bool = some (isBlD d) := by
  cases d <;> simp only [Ty1] at h <;> first | (exact absurd h id) | rfl | skip
  obtain ⟨c, h, hd⟩ := h
  cases c <;> simp [tyIs, h, isIntD, isBlD] <;> first | rfl | exact absurd rfl hd
theorem ty_tup {g : G} {s : Sto} {d : D} (h : Ty1 s d) : tyIs g s d .tuple = some (isTupD d) := by
  cases d <;> simp only [Ty1] at h <;> first | (exact absurd h id) | rfl | skip
  obtain ⟨c, h, hd⟩ := h
  cases c <;> simp [tyIs, h, isTupD] <;> first | rfl | exact absurd rfl hd
theorem len_tup (s : Sto) (xs : List D) : bfn s .len [.tup xs] = some (.int xs.length) := rfl
theorem isTup_of {d : D} (h : isTupD d = true) : ∃ xs, d = .tup xs := by cases d <;> first | exact ⟨_, rfl⟩ | cases h
theorem isnot_non (s : Sto) (d : D) : cmpop s .isnot d .non = some (!decide (d = .non)) := rfl
theorem is_non (s : Sto) (d : D) : cmpop s .is d .non = some (decide (d = .non)) := rfl
end MP
set_option autoImplicit false
set_option linter.all false
set_option maxRecDepth 10000
set_option maxHeartbeats 2000000
/-! SL1: bags: what is a bag, sums. -/
namespace MP
/-- isinstance(x, int) and not isinstance(x, bool) -/
def wholeF : Fn := ⟨1, 1, [], 0, [.ret (.and [.isi (.var 0) [.int], .not (.isi (.var 0) [.bool])])]⟩
section
variable {P : Prog}
theorem whole_fn {k f : Nat} (hf : P.fn f = some wholeF) (d : D) (s : Sto) (h : Ty1 s d) : MP.call P (k + 1) f [d] s = .ok (.bl (isIntD d)) s := by
  rw [call_run hf]
  have h1 := ty_int (g := genv P (MP.call P k)) h
  have h2 := ty_bool (g := genv P (MP.call P k)) h
  refine (run_ret (s' := s) (v := .bl (isIntD d)) rfl ?_).trans (fin0_bl s _)
  show exB _ [_] [some d] s = _
  cases d <;> simp only [isIntD, isBlD, Bool.or_false, Bool.or_true, Bool.or_self] at h1 h2 <;> exact rt (by simp [h1, h2, isIntD])
def nnD : D → Bool
  | .int i => decide (0 ≤ i)
  | _ => false
/-- a tuple of g integers from 0 on -/
def isBagD (g : Int) : D → Bool
  | .tup xs => decide ((xs.length : Int) = g) && xs.all nnD
  | _ => false
def isBagF : Fn := ⟨2, 3, [], 0,
  [.ife (.or [.not (.isi (.var 1) [.tuple]), .cmp .ne (.bi .len [.var 1]) (.var 0)]) [.ret (.lit (.bl false))] [], .forS (.name 2) (.seq (.var 1)) [.ife (.or [.not (.call 0 [.var 2]), .cmp .lt (.var 2) (.lit (.int 0))]) [.ret (.lit (.bl false))] []], .ret (.lit (.bl true))]⟩
theorem isBag_fn (nd : Nd P) {k f : Nat} (h0 : P.fn 0 = some wholeF) (hf : P.fn f = some isBagF) (g : Int) (d : D) (s : Sto) (h : Ty2 s d) : MP.call P (k + 2) f [.int g, d] s = .ok (.bl (isBagD g d)) s := by
  rw [call_run hf]
  have hty := ty_tup (g := genv P (MP.call P (k + 1))) h.1
  have fin : ∀ b, exB (genv P (MP.call P (k + 1))) isBagF.body [some (.int g), some d, none] s = .ret (.bl b) s → isBagD g d = b → runFn (genv P (MP.call P (k + 1))) isBagF [.int g, d] s = .ok (.bl (isBagD g d)) s := fun b hb e => by
    rw [e]
    exact (run_ret rfl hb).trans (fin0_bl s b)
  by_cases hA : isTupD d = true
  case neg =>
    have hA : isTupD d = false := by simpa using hA
    rw [hA] at hty
    exact fin false (rt (by simp [hty])) (by cases d <;> first | rfl | cases hA)
  obtain ⟨xs, rfl⟩ := isTup_of hA
  rw [hA] at hty
  by_cases hl : (xs.length : Int) = g
  case neg => exact fin false (rt (by simp [hty, len_tup, hl])) (by simp [isBagD, hl])
  have hit : evI (genv P (MP.call P (k + 1))) (.seq (.var 1)) [some (.int g), some (.tup xs), none] s = .ok (xs, []) s := evI_seq (d := .tup xs) (by simp) rfl
  have lp := for_until (step := bodyF (genv P (MP.call P (k + 1))) (.name 2) [.ife (.or [.not (.call 0 [.var 2]), .cmp .lt (.var 2) (.lit (.int 0))]) [.ret (.lit (.bl false))] []]) (gd := []) (s := s) (I := fun env => ∃ x, env = [some (.int g), some (.tup xs), x]) (fun x => !nnD x) (.bl false) (by rfl) (xs := xs) (fun x hx env ⟨y, he⟩ => by
    subst he
    have hw := whole_fn (k := k) h0 x s (h.2 xs rfl x hx)
    cases x with
    | int i =>
      simp only [isIntD] at hw
      by_cases hi : i < 0
      · exact ⟨fun _ => by simp [bodyF, fillP nd, hw, hi], fun z => by simp [nnD] at z; omega⟩
      · exact ⟨fun z => by simp [nnD] at z; omega, fun _ => ⟨_, ⟨_, rfl⟩, by simp [bodyF, fillP nd, hw, hi]; rfl⟩⟩
    | _ => exact ⟨fun _ => by simp only [isIntD] at hw; simp [bodyF, fillP nd, hw], fun z => by simp [nnD] at z⟩) (env := [some (.int g), some (.tup xs), none]) ⟨none, rfl⟩
  have hv : isBagD g (.tup xs) = !(xs.any fun x => !nnD x) := by simp [isBagD, hl, List.any_eq_not_all_not]
  refine fin (!(xs.any fun x => !nnD x)) (nx (env' := [some (.int g), some (.tup xs), none]) (s' := s) (by simp [hty, len_tup, hl]) ?_) hv
  cases ha : xs.any fun x => !nnD x with
  | true => exact rt ((ex_for hit).trans (lp.1 ha))
  | false =>
    obtain ⟨env', ⟨y, rfl⟩, he⟩ := lp.2 ha
    exact nx ((ex_for hit).trans he) (rt (by simp))
def isSomeBagF : Fn := ⟨1, 1, [], 0, [.ret (.and [.isi (.var 0) [.tuple], .chain .le .le (.lit (.int 1)) (.bi .len [.var 0]) (.glob 0), .call 1 [.bi .len [.var 0], .var 0]])]⟩
def lenD' : D → Int
  | .tup xs => xs.length
  | _ => 0
def isSomeD (d : D) : Bool := decide (1 ≤ lenD' d) && (decide (lenD' d ≤ 5) && isBagD (lenD' d) d)
structure BagsP (P : Prog) : Prop where
  nd : Nd P
  g0 : P.glob 0 = some (.int 5)
  h0 : P.fn 0 = some wholeF
  h1 : P.fn 1 = some isBagF
theorem isSome_fn (B : BagsP P) {k f : Nat} (hf : P.fn f = some isSomeBagF) (d : D) (s : Sto) (h : Ty2 s d) : MP.call P (k + 3) f [d] s = .ok (.bl (isSomeD d)) s := by
  rw [call_run hf]
  have hty := ty_tup (g := genv P (MP.call P (k + 2))) h.1
  refine (run_ret (s' := s) (v := .bl (isSomeD d)) rfl (rt ?_)).trans (fin0_bl s _)
  by_cases hA : isTupD d = true
  case neg =>
    have hA : isTupD d = false := by simpa using hA
    rw [hA] at hty
    have e : isSomeD d = false := by cases d <;> first | rfl | cases hA
    simp [hty, e]
  obtain ⟨xs, rfl⟩ := isTup_of hA
  rw [hA] at hty
  have hb := isBag_fn (k := k) B.nd B.h0 B.h1 (xs.length : Int) (.tup xs) s h
  by_cases h1 : (1 : Int) ≤ xs.length
  · by_cases h5 : (xs.length : Int) ≤ 5
    · simp [hty, len_tup, h1, h5, B.g0, fillP B.nd, hb, isSomeD, lenD']
    · simp [hty, len_tup, h1, h5, B.g0, isSomeD, lenD']
  · simp [hty, len_tup, h1, isSomeD, lenD']
def addD : D → D
  | .tup [.int a, .int b] => .int (a + b)
  | _ => .non
def addI (xs ys : List Int) : List Int := (xs.zip ys).map fun p => p.1 + p.2
def requireTwoF : Fn := ⟨2, 2, [], 0,
  [.ife (.not (.call 21 [.var 0])) [.raise 4 [.lit (.str [111, 110, 101])]] [], .ife (.not (.call 1 [.bi .len [.var 0], .var 1])) [.raise 4 [.lit (.str [111, 116, 104, 101, 114])]] []]⟩
def bagD (b : List Int) : D := .tup (b.map D.int)
theorem bag_ty (s : Sto) (b : List Int) : Ty2 s (bagD b) := ⟨trivial, fun xs e x hx => by
  cases e
  obtain ⟨i, _, rfl⟩ := List.mem_map.mp hx
  exact trivial⟩
theorem isBagD_bag {b : List Int} (h : ∀ r ∈ b, 0 ≤ r) : isBagD (b.length : Int) (bagD b) = true := by
  simp only [isBagD, bagD, List.length_map, decide_true, Bool.true_and, List.all_eq_true]
  intro x hx
  obtain ⟨i, hi, rfl⟩ := List.mem_map.mp hx
  simpa [nnD] using h i hi
theorem isSome_bag {b : List Int} (h : ∀ r ∈ b, 0 ≤ r) (h1 : 1 ≤ b.length) (h5 : b.length ≤ 5) : isSomeD (bagD b) = true := by
  have e : lenD' (bagD b) = (b.length : Int) := by simp [lenD', bagD]
  have g1 : (1 : Int) ≤ b.length := by omega
  have g5 : (b.length : Int) ≤ 5 := by omega
  unfold isSomeD
  rw [e, isBagD_bag h]
  simp [g1, g5]
theorem require_fn (B : BagsP P) {k f : Nat} (h21 : P.fn 21 = some isSomeBagF) (hf : P.fn f = some requireTwoF) (a b : List Int) (s : Sto) (ha : ∀ r ∈ a, 0 ≤ r) (hb : ∀ r ∈ b, 0 ≤ r) (h1 : 1 ≤ a.length) (h5 : a.length ≤ 5) (hl : b.length = a.length) : MP.call P (k + 4) f [bagD a, bagD b] s = .ok .non s := by
  rw [call_run hf]
  have q1 := isSome_fn (k := k) B h21 (bagD a) s (bag_ty s a)
  have q2 := isBag_fn (k := k + 1) B.nd B.h0 B.h1 (a.length : Int) (bagD b) s (bag_ty s b)
  rw [isSome_bag ha h1 h5] at q1
  rw [← hl, isBagD_bag hb, hl] at q2
  have hlen : bfn s .len [bagD a] = some (.int a.length) := by simp [bagD, len_tup]
  refine (run_nx (s' := s) (env := [some (bagD a), some (bagD b)]) rfl ?_).trans (fin0_non s)
  exact nx (by simp [fillP B.nd, q1]; exact ⟨rfl, rfl⟩) (nx (env' := [some (bagD a), some (bagD b)]) (s' := s) (by simp [fillP B.nd, hlen, q2]; rfl) (ex_nil _ _ _))
def plusF : Fn := ⟨2, 4, [], 0, [.expr (.call 22 [.var 0, .var 1]), .ret (.bi .toTup [.comp false [2, 3] (.bin .add (.var 2) (.var 3)) (.tup [.name 2, .name 3]) (.zip [.var 0, .var 1]) []])]⟩
theorem plus_fn (B : BagsP P) {k f : Nat} (h21 : P.fn 21 = some isSomeBagF) (h22 : P.fn 22 = some requireTwoF) (hf : P.fn f = some plusF) (a b : List Int) (s : Sto) (ha : ∀ r ∈ a, 0 ≤ r) (hb : ∀ r ∈ b, 0 ≤ r) (h1 : 1 ≤ a.length) (h5 : a.length ≤ 5) (hl : b.length = a.length) : MP.call P (k + 5) f [bagD a, bagD b] s = .ok (bagD (addI a b)) s := by
  rw [call_run hf]
  have q1 := require_fn (k := k) B h21 h22 a b s ha hb h1 h5 hl
  have hc : evE (genv P (MP.call P (k + 4))) (.comp false [2, 3] (.bin .add (.var 2) (.var 3)) (.tup [.name 2, .name 3]) (.zip [.var 0, .var 1]) []) [some (bagD a), some (bagD b), none, none] s = .ok (.lst ((addI a b).map D.int)) s := by
    have e : (addI a b).map D.int = ((((a.map D.int).zip (b.map D.int)).map fun p => D.tup [p.1, p.2])).map addD := by
      rw [addI, List.zip_map, List.map_map, List.map_map, List.map_map]
      rfl
    rw [e]
    refine (ev_comp_map addD (evI_zip2 (d1 := bagD a) (d2 := bagD b) (s1 := s) (s2 := s) (by simp) (by simp) rfl rfl) (by rfl) ?_ (fun d hd => ?_)).trans (newL_f _ _)
    · rw [List.length_map, List.length_zip, List.length_map]
      show _ ≤ 16777216
      omega
    · obtain ⟨⟨a', b'⟩, hp, rfl⟩ := List.mem_map.mp hd
      obtain ⟨p1, p2⟩ := List.of_mem_zip hp
      obtain ⟨x, _, rfl⟩ := List.mem_map.mp p1
      obtain ⟨y, _, rfl⟩ := List.mem_map.mp p2
      exact ⟨_, by simp; rfl, by simp [addD]⟩
  refine (run_ret (s' := s) (v := bagD (addI a b)) rfl (show exB _ _ [some (bagD a), some (bagD b), none, none] s = _ from nx (by simp [fillP B.nd, q1]; exact ⟨rfl, rfl⟩) (rt ?_))).trans (fin_same (.inl rfl) (by simp only [bagD, D.free]; exact frees_ints _))
  rw [ex_ret, ev_bi, evs_cons, hc]
  simp [bfn, seqOf, bagD]
end
end MP
set_option autoImplicit false
set_option linter.all false
set_option maxRecDepth 10000
set_option maxHeartbeats 4000000
/-! SL2: draws whose state is a dict. -/
namespace MP
theorem dget_set {s : Sto} {p : Nat} {kvs : List (D × D)} (k : D) (hp : p < s.length) (hk : keyOk k = true) : dgetD (s.set p (.dct kvs)) (.ref p) k = lookD k kvs := by simp [dgetD, dctOf, hp, hk]
theorem dput_set {s : Sto} {p : Nat} {kvs : List (D × D)} (k v : D) (hp : p < s.length) (hk : keyOk k = true) (hl : kvs.length < LINE) : dputD (s.set p (.dct kvs)) (.ref p) k v = some (s.set p (.dct (putD k v kvs))) := by simp [dputD, hp, hk, hl]
theorem set_at {s : Sto} {p : Nat} {c : Cell} (h : s[p]? = some c) : s.set p c = s := by
  apply List.ext_getElem?
  intro i
  by_cases e : p = i
  · subst e
    rw [List.getElem?_set_self (List.getElem?_eq_some_iff.mp h).1, h]
  · rw [List.getElem?_set_ne e]
theorem fin_set {s : Sto} {p : Nat} {c : Cell} {r : D} (hc : c.free = true) (hr : r.free = true) : fin 0 s r (s.set p c) = .ok r (s.set p c) := by
  unfold fin
  rw [if_neg (by decide), if_pos (gcOk_set hc), if_pos hr]
  congr 1
  have : (s.set p c).length = s.length := List.length_set
  rw [← this, List.take_length]
theorem gcOk_app {s s' : Sto} {cs : List Cell} (g : gcOk s s' = true) : gcOk s (s' ++ cs) = true := by
  have hl := gc_len g
  unfold gcOk at g ⊢
  simp only [Bool.and_eq_true, List.all_eq_true, List.mem_range, Bool.or_eq_true, decide_eq_true_eq] at g ⊢
  refine ⟨by rw [List.length_append]; omega, fun i hi => ?_⟩
  rw [List.getElem?_append_left (by omega)]
  exact g.2 i hi
/-- a new cell handed back -/
theorem fin1_new {s s' : Sto} {c : Cell} (g : gcOk s s' = true) (hl : s'.length = s.length) (hc : c.free = true) : fin 1 s (.ref s.length) (s' ++ [c]) = .ok (.ref s.length) (s' ++ [c]) := by
  unfold fin
  rw [if_neg (by decide), if_pos (gcOk_app g), if_neg (by simp [D.free]), if_pos rfl]
  unfold finM
  dsimp only
  have h1 : (s' ++ [c])[s.length]? = some c := by rw [← hl]; simp
  rw [h1]
  simp only [Nat.le_refl, decide_true, Bool.true_and, hc, if_true]
  rw [← hl]
  simp
abbrev kCells : D := .str [99, 101, 108, 108, 115]
abbrev kPlace : D := .str [112, 108, 97, 99, 101]
abbrev kRest : D := .str [114, 101, 115, 116]
abbrev kMixed : D := .str [109, 105, 120, 101, 100]
abbrev kCount : D := .str [99, 111, 117, 110, 116]
/-- a state of draws -/
def stK (cs : List Int) (i r m c : Int) : Cell := .dct [(kCells, .lst (cs.map D.int)), (kPlace, .int i), (kRest, .int r), (kMixed, .int m), (kCount, .int c)]
theorem stK_free (cs : List Int) (i r m c : Int) : (stK cs i r m c).free = true := by simp [stK, Cell.free, D.frees, D.free, frees_ints]
def StK (c : Cell) : Prop := ∃ cs i r m k, c = stK cs i r m k ∧ (∀ x ∈ cs, 0 ≤ x) ∧ 0 ≤ i ∧ 0 ≤ r
def drawF : Fn := ⟨2, 4, [], 0,
  [.ife (.and [.cmp .eq (.dget (.var 0) (.lit (.str [114, 101, 115, 116]))) (.lit (.int 0)), .cmp .lt (.dget (.var 0) (.lit (.str [112, 108, 97, 99, 101]))) (.bi .len [.dget (.var 0) (.lit (.str [99, 101, 108, 108, 115]))])]) [.asg (.name 2) (.idx (.dget (.var 0) (.lit (.str [99, 101, 108, 108, 115]))) (.dget (.var 0) (.lit (.str [112, 108, 97, 99, 101])))), .dput (.var 0) (.lit (.str [112, 108, 97, 99, 101])) (.bin .add (.dget (.var 0) (.lit (.str [112, 108, 97, 99, 101]))) (.lit (.int 1))), .dput (.var 0) (.lit (.str [109, 105, 120, 101, 100])) (.bin .mod (.bi .toInt [.bin .add (.bin .add (.bin .mul (.dget (.var 0) (.lit (.str [109, 105, 120, 101, 100]))) (.lit (.int 1000003))) (.var 2)) (.lit (.int 1))]) (.lit (.int 2147483629))), .ife (.cmp .ge (.var 2) (.bin .pow (.lit (.int 10)) (.lit (.int 18)))) [.dput (.var 0) (.lit (.str [114, 101, 115, 116])) (.var 2)] []] [], .ife (.cmp .gt (.dget (.var 0) (.lit (.str [114, 101, 115, 116]))) (.lit (.int 0))) [.asg (.name 3) (.bin .mod (.bi .toInt [.dget (.var 0) (.lit (.str [114, 101, 115, 116]))]) (.var 1)), .dput (.var 0) (.lit (.str [114, 101, 115, 116])) (.bin .fdiv (.dget (.var 0) (.lit (.str [114, 101, 115, 116]))) (.var 1)), .ret (.var 3)] [], .dput (.var 0) (.lit (.str [99, 111, 117, 110, 116])) (.bin .add (.dget (.var 0) (.lit (.str [99, 111, 117, 110, 116]))) (.lit (.int 1))), .asg (.name 3) (.bin .mod (.bin .mul (.bi .toInt [.bin .add (.bin .add (.dget (.var 0) (.lit (.str [109, 105, 120, 101, 100]))) (.bin .mul (.lit (.int 7919)) (.dget (.var 0) (.lit (.str [99, 111, 117, 110, 116]))))) (.lit (.int 1))]) (.lit (.int 48271))) (.lit (.int 2147483647))), .asg (.name 3) (.bin .mod (.bi .toInt [.bin .mul (.var 3) (.bin .add (.bin .fdiv (.var 3) (.lit (.int 1009))) (.lit (.int 69621)))]) (.lit (.int 2147483647))), .asg (.name 3) (.bin .mod (.bi .toInt [.bin .mul (.var 3) (.bin .add (.bin .fdiv (.var 3) (.lit (.int 2003))) (.lit (.int 40692)))]) (.lit (.int 2147483399))), .ret (.bin .mod (.bi .toInt [.bin .fdiv (.var 3) (.lit (.int 16))]) (.var 1))]⟩
section
variable {s : Sto} {p : Nat} {cs : List Int} {i r m c : Int} (hp : s[p]? = some (stK cs i r m c))
include hp
theorem gK : dctOf s (.ref p) = some [(kCells, .lst (cs.map D.int)), (kPlace, .int i), (kRest, .int r), (kMixed, .int m), (kCount, .int c)] := by simp [dctOf, hp, stK]
theorem g_cells : dgetD s (.ref p) kCells = some (.lst (cs.map D.int)) := by simp [dgetD, gK hp, keyOk, lookD]
theorem g_place : dgetD s (.ref p) kPlace = some (.int i) := by simp [dgetD, gK hp, keyOk, lookD]
theorem g_rest : dgetD s (.ref p) kRest = some (.int r) := by simp [dgetD, gK hp, keyOk, lookD]
theorem g_mixed : dgetD s (.ref p) kMixed = some (.int m) := by simp [dgetD, gK hp, keyOk, lookD]
theorem g_count : dgetD s (.ref p) kCount = some (.int c) := by simp [dgetD, gK hp, keyOk, lookD]
theorem p_place (v : Int) : dputD s (.ref p) kPlace (.int v) = some (s.set p (stK cs v r m c)) := by simp [dputD, hp, stK, keyOk, putD, LINE]
theorem p_rest (v : Int) : dputD s (.ref p) kRest (.int v) = some (s.set p (stK cs i v m c)) := by simp [dputD, hp, stK, keyOk, putD, LINE]
theorem p_mixed (v : Int) : dputD s (.ref p) kMixed (.int v) = some (s.set p (stK cs i r v c)) := by simp [dputD, hp, stK, keyOk, putD, LINE]
theorem p_count (v : Int) : dputD s (.ref p) kCount (.int v) = some (s.set p (stK cs i r m v)) := by simp [dputD, hp, stK, keyOk, putD, LINE]
theorem hp_set {c' : Cell} : (s.set p c')[p]? = some c' := List.getElem?_set_self (List.getElem?_eq_some_iff.mp hp).1
end
theorem pow18 (s : Sto) : binop s .pow (.int 10) (.int 18) = some (.int (10 ^ 18)) := by simp [binop, powOk]
section
variable {P : Prog}
theorem draw_tail {k : Nat} {s : Sto} {p : Nat} {cs : List Int} {i r m c L : Int} (x2 : Option D) (hp : s[p]? = some (stK cs i r m c)) (h3 : 0 ≤ r) (hL : 0 < L) (hL2 : L < 1073741824) :
    ∃ x r' c', exB (genv P (MP.call P k)) (drawF.body.drop 1) [some (.ref p), some (.int L), x2, none] s = .ret (.int x) (s.set p (stK cs i r' m c')) ∧ 0 ≤ r' ∧ 0 ≤ x ∧ x < L := by
  show ∃ x r' c', exB _ [_, _, _, _, _, _] _ _ = _ ∧ _
  by_cases hr : 0 < r
  · refine ⟨r % L, r / L, c, rt ?_, Int.ediv_nonneg h3 (by omega), Int.emod_nonneg _ (by omega), Int.emod_lt_of_pos _ hL⟩
    simp [g_rest hp, hr, bin_mod_int _ _ _ hL, bin_fdiv_int _ _ _ hL hL2, p_rest hp]
  · have m1 : ∀ x, mulOk 7919 x = true := fun x => mulOk_l (by decide) (by decide)
    have m2 : ∀ x, mulOk x 48271 = true := fun x => mulOk_r (by decide) (by decide)
    have m3 : ∀ a b : Int, mulOk (a % 2147483647) b = true := fun a b => mulOk_l (by omega) (by omega)
    have hs := hp_set (c' := stK cs i r m (c + 1)) hp
    obtain ⟨y, hy⟩ : ∃ y, y = (m + 7919 * (c + 1) + 1) * 48271 % 2147483647 := ⟨_, rfl⟩
    obtain ⟨z, hz⟩ : ∃ z, z = y * (y / 1009 + 69621) % 2147483647 := ⟨_, rfl⟩
    obtain ⟨u, hu⟩ : ∃ u, u = z * (z / 2003 + 40692) % 2147483399 := ⟨_, rfl⟩
    have my : ∀ b, mulOk y b = true := fun b => by rw [hy]; exact m3 _ _
    have mz : ∀ b, mulOk z b = true := fun b => by rw [hz]; exact m3 _ _
    refine ⟨u / 16 % L, r, c + 1, ?_, h3, Int.emod_nonneg _ (by omega), Int.emod_lt_of_pos _ hL⟩
    refine nx (env' := [some (.ref p), some (.int L), x2, none]) (s' := s) (by simp [g_rest hp, hr]) ?_
    refine nx (env' := [some (.ref p), some (.int L), x2, none]) (s' := s.set p (stK cs i r m (c + 1))) (by simp [g_count hp, p_count hp]) ?_
    refine nx (env' := [some (.ref p), some (.int L), x2, some (.int y)]) (s' := s.set p (stK cs i r m (c + 1))) (by simp [g_mixed hs, g_count hs, bin_mul_int, bin_mod_int, m1, m2, hy]) ?_
    refine nx (env' := [some (.ref p), some (.int L), x2, some (.int z)]) (s' := s.set p (stK cs i r m (c + 1))) (by simp [bin_mul_int, bin_mod_int, bin_fdiv_int, my, hz]) ?_
    refine nx (env' := [some (.ref p), some (.int L), x2, some (.int u)]) (s' := s.set p (stK cs i r m (c + 1))) (by simp [bin_mul_int, bin_mod_int, bin_fdiv_int, mz, hu]) ?_
    exact rt (by simp [bin_mod_int _ _ _ hL, bin_fdiv_int])
theorem draw_fn {k f : Nat} (hf : P.fn f = some drawF) (s : Sto) (p : Nat) (c : Cell) (hc : StK c) (hp : s[p]? = some c) (L : Int) (hL : 0 < L) (hL2 : L < 1073741824) :
    ∃ r c', MP.call P (k + 1) f [.ref p, .int L] s = .ok (.int r) (s.set p c') ∧ StK c' ∧ 0 ≤ r ∧ r < L := by
  obtain ⟨cs, i, r, m, ct, rfl, h1, h2, h3⟩ := hc
  rw [call_run hf]
  have fin : ∀ (s1 : Sto) (x2 : Option D) (cs' : List Int) (i' r' m' c' : Int), exS (genv P (MP.call P k)) (drawF.body.headD .pass) [some (.ref p), some (.int L), none, none] s = .nx [some (.ref p), some (.int L), x2, none] s1 → s1[p]? = some (stK cs' i' r' m' c') → (∀ c', s1.set p c' = s.set p c') → (∀ y ∈ cs', 0 ≤ y) → 0 ≤ i' → 0 ≤ r' →
      ∃ r c', runFn (genv P (MP.call P k)) drawF [.ref p, .int L] s = .ok (.int r) (s.set p c') ∧ StK c' ∧ 0 ≤ r ∧ r < L := fun s1 x2 cs' i' r' m' c' hb hp1 hs a1 a2 a3 => by
    obtain ⟨x, r2, c2, q1, q2, q3, q4⟩ := draw_tail (P := P) (k := k) x2 hp1 a3 hL hL2
    rw [hs] at q1
    exact ⟨x, _, (run_ret rfl (nx hb q1)).trans (fin_set (stK_free _ _ _ _ _) rfl), ⟨cs', i', r2, m', c2, rfl, a1, a2, q2⟩, q3, q4⟩
  have hlen : bfn s .len [.lst (cs.map D.int)] = some (.int cs.length) := by simp [bfn, lenD, seqOf]
  by_cases hA : r = 0 ∧ i < cs.length
  · obtain ⟨rfl, hi⟩ := hA
    have hin : i.toNat < cs.length := by omega
    obtain ⟨x, hx⟩ : ∃ x, cs[i.toNat]? = some x := ⟨_, List.getElem?_eq_getElem hin⟩
    have hx0 := h1 x (List.mem_of_getElem? hx)
    have ix : indexS s (.lst (cs.map D.int)) (.int i) = some (.int x) := by simp only [indexS, seqOf, atI, ixN, List.length_map, if_pos h2, if_pos hi, Option.bind_some, List.getElem?_map, hx, Option.map_some]
    have s1 := hp_set (c' := stK cs (i + 1) 0 m ct) hp
    obtain ⟨y, hy⟩ : ∃ y, y = (m * 1000003 + x + 1) % 2147483629 := ⟨_, rfl⟩
    have s2 := hp_set (c' := stK cs (i + 1) 0 y ct) hp
    have mm : mulOk m 1000003 = true := mulOk_r (by decide) (by decide)
    have p2 := p_mixed s1 y
    rw [List.set_set] at p2
    have p3 := p_rest s2 x
    rw [List.set_set] at p3
    by_cases hb : (1000000000000000000 : Int) ≤ x
    · refine fin (s.set p (stK cs (i + 1) x y ct)) (some (.int x)) cs (i + 1) x y ct ?_ (hp_set hp) (fun _ => List.set_set ..) h1 (by omega) hx0
      simp [drawF, g_rest hp, g_place hp, g_cells hp, hlen, hi, ix, p_place hp, g_mixed s1, bin_mul_int, mm, bin_mod_int, ← hy, p2, pow18, hb, p3]
    · refine fin (s.set p (stK cs (i + 1) 0 y ct)) (some (.int x)) cs (i + 1) 0 y ct ?_ (hp_set hp) (fun _ => List.set_set ..) h1 (by omega) (Int.le_refl _)
      simp [drawF, g_rest hp, g_place hp, g_cells hp, hlen, hi, ix, p_place hp, g_mixed s1, bin_mul_int, mm, bin_mod_int, ← hy, p2, pow18, hb]
  · refine fin s none cs i r m ct ?_ hp (fun _ => rfl) h1 h2 h3
    by_cases hr : r = 0
    · have hi : ¬ i < cs.length := fun z => hA ⟨hr, z⟩
      simp [drawF, g_rest hp, g_place hp, g_cells hp, hlen, hr, hi]
    · simp [drawF, g_rest hp, hr]
def drawsF : Fn := ⟨1, 2, [], 1,
  [.ret (.dct [.str [99, 101, 108, 108, 115], .str [112, 108, 97, 99, 101], .str [114, 101, 115, 116], .str [109, 105, 120, 101, 100], .str [99, 111, 117, 110, 116]] [.comp false [1] (.bi .abs [.bi .toInt [.var 1]]) (.name 1) (.seq (.slc false (.var 0) none (some (.lit (.int 63))))) [], .lit (.int 0), .lit (.int 0), .lit (.int 0), .lit (.int 0)])]⟩
def absD : D → D
  | .int a => .int (if a < 0 then -a else a)
  | _ => .non
theorem draws_fn {k f : Nat} (hf : P.fn f = some drawsF) (s : Sto) (ns : List Int) (hl : ns.length ≤ 63) : ∃ c, MP.call P (k + 1) f [.scr ns] s = .ok (.ref s.length) (s ++ [c]) ∧ StK c := by
  rw [call_run hf]
  have hsl : evE (genv P (MP.call P k)) (.slc false (.var 0) none (some (.lit (.int 63)))) [some (.scr ns), none] s = .ok (.lst (ns.map D.int)) s := by
    have e : cut (ns.map D.int) none (some 63) = ns.map D.int := by
      simp only [cut, sIx, List.length_map]
      rw [List.take_of_length_le (by simp; omega)]
      rfl
    simp [evo_some, slF, seqOf, e]
  have hc : evE (genv P (MP.call P k)) (.comp false [1] (.bi .abs [.bi .toInt [.var 1]]) (.name 1) (.seq (.slc false (.var 0) none (some (.lit (.int 63))))) []) [some (.scr ns), none] s = .ok (.lst ((ns.map fun a => if a < 0 then -a else a).map D.int)) s := by
    have e : (ns.map fun a => if a < 0 then -a else a).map D.int = (ns.map D.int).map absD := by rw [List.map_map, List.map_map]; rfl
    rw [e]
    refine (ev_comp_map absD (evI_seq hsl rfl) (by rfl) (by rw [List.length_map]; show _ ≤ 16777216; omega) (fun d hd => ?_)).trans (newL_f _ _)
    obtain ⟨x, _, rfl⟩ := List.mem_map.mp hd
    exact ⟨_, by simp; rfl, by simp [absD]⟩
  refine ⟨stK (ns.map fun a => if a < 0 then -a else a) 0 0 0 0, (run_ret (s' := s ++ [stK (ns.map fun a => if a < 0 then -a else a) 0 0 0 0]) (v := .ref s.length) rfl (show exB _ _ [some (.scr ns), none] s = _ from rt ?_)).trans (fin1_new (gcOk_rfl s) rfl (stK_free _ _ _ _ _)), ⟨_, 0, 0, 0, 0, rfl, fun x hx => ?_, Int.le_refl _, Int.le_refl _⟩⟩
  · rw [ex_ret, evE, evs_cons, hc]
    simp [keyOk, putD, stK]
  · obtain ⟨a, _, rfl⟩ := List.mem_map.mp hx
    split <;> omega
end
end MP
set_option autoImplicit false
set_option linter.all false
set_option maxRecDepth 10000
set_option maxHeartbeats 2000000
/-! SL3: weights: what are weights, the worth of a bag. -/
namespace MP
def wD : D → Bool
  | .non => true
  | .int _ => true
  | _ => false
def isWD (g : Int) : D → Bool
  | .tup xs => decide ((xs.length : Int) = g) && xs.all wD
  | _ => false
def isWeightsF : Fn := ⟨2, 3, [], 0,
  [.ife (.or [.not (.isi (.var 1) [.tuple]), .cmp .ne (.bi .len [.var 1]) (.var 0)]) [.ret (.lit (.bl false))] [], .forS (.name 2) (.seq (.var 1)) [.ife (.and [.cmp .isnot (.var 2) (.lit .non), .or [.not (.isi (.var 2) [.int]), .isi (.var 2) [.bool]]]) [.ret (.lit (.bl false))] []], .ret (.lit (.bl true))]⟩
/-- the worth; none: some of a good that is given up -/
def worthL : List D → List Int → Int → Option Int
  | w :: ws, b :: bs, acc => if 0 < b then (match w with
    | .int i => worthL ws bs (acc + i * b)
    | _ => none) else worthL ws bs acc
  | _, _, acc => some acc
def optD : Option Int → D
  | some i => .int i
  | none => .non
abbrev bdyAug : List S := [.ife (.cmp .gt (.var 4) (.lit (.int 0))) [.ife (.cmp .is (.var 3) (.lit .non)) [.ret (.lit .non)] [], .aug 2 .add (.bin .mul (.var 3) (.var 4))] []]
abbrev bdySet : List S := [.ife (.cmp .gt (.var 4) (.lit (.int 0))) [.ife (.cmp .is (.var 3) (.lit .non)) [.ret (.lit .non)] [], .asg (.name 2) (.bin .add (.var 2) (.bin .mul (.var 3) (.var 4)))] []]
def worthOfF : Fn := ⟨2, 5, [], 0, [.asg (.name 2) (.lit (.int 0)), .forS (.tup [.name 3, .name 4]) (.zip [.var 0, .var 1]) bdyAug, .ret (.var 2)]⟩
def worthSetF : Fn := ⟨2, 5, [], 0, [.asg (.name 2) (.lit (.int 0)), .forS (.tup [.name 3, .name 4]) (.zip [.var 0, .var 1]) bdySet, .ret (.var 2)]⟩
def sml (bs : List Int) : Prop := ∀ b ∈ bs, -(2 ^ 60) < b ∧ b < 2 ^ 60
section
variable {P : Prog}
theorem isWeights_fn {k f : Nat} (hf : P.fn f = some isWeightsF) (g : Int) (d : D) (s : Sto) (h : Ty2 s d) : MP.call P (k + 1) f [.int g, d] s = .ok (.bl (isWD g d)) s := by
  rw [call_run hf]
  have hty := ty_tup (g := genv P (MP.call P k)) h.1
  have fin : ∀ b, exB (genv P (MP.call P k)) isWeightsF.body [some (.int g), some d, none] s = .ret (.bl b) s → isWD g d = b → runFn (genv P (MP.call P k)) isWeightsF [.int g, d] s = .ok (.bl (isWD g d)) s := fun b hb e => by
    rw [e]
    exact (run_ret rfl hb).trans (fin0_bl s b)
  by_cases hA : isTupD d = true
  case neg =>
    have hA : isTupD d = false := by simpa using hA
    rw [hA] at hty
    exact fin false (rt (by simp [hty])) (by cases d <;> first | rfl | cases hA)
  obtain ⟨xs, rfl⟩ := isTup_of hA
  rw [hA] at hty
  by_cases hl : (xs.length : Int) = g
  case neg => exact fin false (rt (by simp [hty, len_tup, hl])) (by simp [isWD, hl])
  have hit : evI (genv P (MP.call P k)) (.seq (.var 1)) [some (.int g), some (.tup xs), none] s = .ok (xs, []) s := evI_seq (d := .tup xs) (by simp) rfl
  have lp := for_until (step := bodyF (genv P (MP.call P k)) (.name 2) [.ife (.and [.cmp .isnot (.var 2) (.lit .non), .or [.not (.isi (.var 2) [.int]), .isi (.var 2) [.bool]]]) [.ret (.lit (.bl false))] []]) (gd := []) (s := s) (I := fun env => ∃ x, env = [some (.int g), some (.tup xs), x]) (fun x => !wD x) (.bl false) (by rfl) (xs := xs) (fun x hx env ⟨y, he⟩ => by
    subst he
    have q1 := ty_int (g := genv P (MP.call P k)) (h.2 xs rfl x hx)
    have q2 := ty_bool (g := genv P (MP.call P k)) (h.2 xs rfl x hx)
    refine ⟨fun z => ?_, fun z => ?_⟩
    · cases x <;> simp only [isIntD, isBlD, Bool.or_false, Bool.or_true, Bool.or_self] at q1 q2 <;> first | (simp [wD] at z; done) | simp [bodyF, isnot_non, q1, q2]
    · refine ⟨[some (.int g), some (.tup xs), some x], ⟨_, rfl⟩, ?_⟩
      cases x <;> simp only [isIntD, isBlD, Bool.or_false, Bool.or_true, Bool.or_self] at q1 q2 <;> first | (simp [wD] at z; done) | simp [bodyF, isnot_non, q1, q2]) (env := [some (.int g), some (.tup xs), none]) ⟨none, rfl⟩
  have hv : isWD g (.tup xs) = !(xs.any fun x => !wD x) := by simp [isWD, hl, List.any_eq_not_all_not]
  refine fin (!(xs.any fun x => !wD x)) (nx (env' := [some (.int g), some (.tup xs), none]) (s' := s) (by simp [hty, len_tup, hl]) ?_) hv
  cases ha : xs.any fun x => !wD x with
  | true => exact rt ((ex_for hit).trans (lp.1 ha))
  | false =>
    obtain ⟨env', ⟨y, rfl⟩, he⟩ := lp.2 ha
    exact nx ((ex_for hit).trans he) (rt (by simp))
theorem worth_loop (g : G) (body : List S) (hb : body = bdyAug ∨ body = bdySet) (d1 d2 : D) (s : Sto) : ∀ (ws : List D) (bs : List Int) (acc : Int) (x y : Option D), (∀ w ∈ ws, wD w = true) → sml bs →
    (∀ a, worthL ws bs acc = some a → ∃ x' y', forLoop (bodyF g (.tup [.name 3, .name 4]) body) [] ((ws.zip (bs.map D.int)).map fun p => D.tup [p.1, p.2]) [some d1, some d2, some (.int acc), x, y] s = .nx [some d1, some d2, some (.int a), x', y'] s) ∧
    (worthL ws bs acc = none → forLoop (bodyF g (.tup [.name 3, .name 4]) body) [] ((ws.zip (bs.map D.int)).map fun p => D.tup [p.1, p.2]) [some d1, some d2, some (.int acc), x, y] s = .ret .non s)
  | [], _, acc, x, y, _, _ => ⟨fun a h => by simp [worthL] at h; subst h; exact ⟨x, y, for_nil (by rfl)⟩, fun h => by simp [worthL] at h⟩
  | _ :: _, [], acc, x, y, _, _ => ⟨fun a h => by simp [worthL] at h; subst h; exact ⟨x, y, for_nil (by rfl)⟩, fun h => by simp [worthL] at h⟩
  | w :: ws, b :: bs, acc, x, y, hw, hs => by
    have hw0 := hw w List.mem_cons_self
    have hs0 := hs b List.mem_cons_self
    have ih := fun acc x y => worth_loop g body hb d1 d2 s ws bs acc x y (fun v h => hw v (List.mem_cons_of_mem _ h)) (fun v h => hs v (List.mem_cons_of_mem _ h))
    simp only [List.map_cons, List.zip_cons_cons]
    by_cases h0 : 0 < b
    · cases w with
      | int i =>
        have m := mulOk_r (a := i) (b := b) (by omega) (by omega)
        have step : bodyF g (.tup [.name 3, .name 4]) body (.tup [.int i, .int b]) [some d1, some d2, some (.int acc), x, y] s = .nx [some d1, some d2, some (.int (acc + i * b)), some (.int i), some (.int b)] s := by
          rcases hb with rfl | rfl <;> simp [bodyF, h0, is_non, bin_mul_int, m, augOk]
        rw [for_nx (by rfl) step]
        simp only [worthL, h0, if_true]
        exact ih _ _ _
      | non =>
        have step : bodyF g (.tup [.name 3, .name 4]) body (.tup [.non, .int b]) [some d1, some d2, some (.int acc), x, y] s = .ret .non s := by
          rcases hb with rfl | rfl <;> simp [bodyF, h0, is_non]
        rw [for_ret (by rfl) step]
        simp [worthL, h0]
      | _ => cases hw0
    · have step : bodyF g (.tup [.name 3, .name 4]) body (.tup [w, .int b]) [some d1, some d2, some (.int acc), x, y] s = .nx [some d1, some d2, some (.int acc), some w, some (.int b)] s := by
        rcases hb with rfl | rfl <;> simp [bodyF, h0]
      rw [for_nx (by rfl) step]
      simp only [worthL, h0, if_false]
      exact ih _ _ _
theorem worthOf_fn {k f : Nat} {fn : Fn} (hfn : fn = worthOfF ∨ fn = worthSetF) (hf : P.fn f = some fn) (ws : List D) (bs : List Int) (s : Sto) (hw : ∀ w ∈ ws, wD w = true) (hs : sml bs) : MP.call P (k + 1) f [.tup ws, bagD bs] s = .ok (optD (worthL ws bs 0)) s := by
  rw [call_run hf]
  have hi : evI (genv P (MP.call P k)) (.zip [.var 0, .var 1]) [some (.tup ws), some (bagD bs), some (.int 0), none, none] s = .ok ((ws.zip (bs.map D.int)).map (fun p => D.tup [p.1, p.2]), []) s := evI_zip2 (d1 := .tup ws) (d2 := bagD bs) (s1 := s) (s2 := s) (by simp) (by simp) rfl rfl
  have key : ∀ body, (body = bdyAug ∨ body = bdySet) → exB (genv P (MP.call P k)) [.asg (.name 2) (.lit (.int 0)), .forS (.tup [.name 3, .name 4]) (.zip [.var 0, .var 1]) body, .ret (.var 2)] [some (.tup ws), some (bagD bs), none, none, none] s = .ret (optD (worthL ws bs 0)) s := fun body hb => by
    obtain ⟨l1, l2⟩ := worth_loop (genv P (MP.call P k)) body hb (.tup ws) (bagD bs) s ws bs 0 none none hw hs
    refine nx (env' := [some (.tup ws), some (bagD bs), some (.int 0), none, none]) (s' := s) (by simp) ?_
    cases h : worthL ws bs 0 with
    | none => exact rt ((ex_for hi).trans (l2 h))
    | some a =>
      obtain ⟨x', y', e⟩ := l1 a h
      exact nx ((ex_for hi).trans e) (rt (by simp [optD]))
  have hfree : (optD (worthL ws bs 0)).free = true := by cases worthL ws bs 0 <;> rfl
  rcases hfn with rfl | rfl
  · exact (run_ret rfl (key bdyAug (.inl rfl))).trans (fin_same (.inl rfl) hfree)
  · exact (run_ret rfl (key bdySet (.inr rfl))).trans (fin_same (.inl rfl) hfree)
/-- weights that worth takes -/
def okW (d : D) : Bool := decide (1 ≤ lenD' d) && (decide (lenD' d ≤ 5) && isWD (lenD' d) d)
def worthF : Fn := ⟨2, 2, [], 0,
  [.ife (.or [.not (.isi (.var 0) [.tuple]), .not (.chain .le .le (.lit (.int 1)) (.bi .len [.var 0]) (.lit (.int 5))), .not (.call 24 [.bi .len [.var 0], .var 0])]) [.raise 5 []] [], .ife (.not (.call 1 [.bi .len [.var 0], .var 1])) [.raise 4 [.lit (.str [98, 97, 103])]] [], .ret (.call 25 [.var 0, .var 1])]⟩
theorem bag_of {g : Int} {d : D} (h : isBagD g d = true) : ∃ bs : List Int, d = bagD bs ∧ (∀ b ∈ bs, 0 ≤ b) ∧ (bs.length : Int) = g := by
  cases d <;> simp only [isBagD] at h <;> first | (cases h; done) | skip
  rename_i xs
  simp only [Bool.and_eq_true, decide_eq_true_eq, List.all_eq_true] at h
  have : ∀ ys : List D, (∀ y ∈ ys, nnD y = true) → ∃ bs : List Int, ys = bs.map D.int ∧ ∀ b ∈ bs, 0 ≤ b := fun ys => by
    induction ys with
    | nil => intro _; exact ⟨[], rfl, fun b hb => by cases hb⟩
    | cons y ys ih =>
      intro hy
      obtain ⟨bs, rfl, h2⟩ := ih fun z hz => hy z (List.mem_cons_of_mem _ hz)
      have h1 := hy y List.mem_cons_self
      cases y <;> simp only [nnD] at h1 <;> first | (cases h1; done) | skip
      rename_i i
      exact ⟨i :: bs, rfl, fun b hb => by
        rcases List.mem_cons.mp hb with rfl | hb
        · simpa using h1
        · exact h2 b hb⟩
  obtain ⟨bs, rfl, h2⟩ := this xs h.2
  exact ⟨bs, rfl, h2, by rw [← h.1, List.length_map]⟩
structure WeightsP (P : Prog) : Prop where
  b : BagsP P
  h24 : P.fn 24 = some isWeightsF
  h25 : P.fn 25 = some worthOfF
theorem okW_of {d : D} (h : okW d = true) : ∃ ws, d = .tup ws ∧ (∀ w ∈ ws, wD w = true) ∧ 1 ≤ ws.length ∧ ws.length ≤ 5 := by
  unfold okW at h
  simp only [Bool.and_eq_true, decide_eq_true_eq] at h
  obtain ⟨h1, h2, h3⟩ := h
  cases d <;> simp only [isWD] at h3 <;> first | (cases h3; done) | skip
  rename_i xs
  simp only [Bool.and_eq_true, List.all_eq_true] at h3
  simp only [lenD'] at h1 h2
  exact ⟨xs, rfl, h3.2, by omega, by omega⟩
theorem worth_bad {k f : Nat} (W : WeightsP P) (hf : P.fn f = some worthF) (d1 d2 : D) (s : Sto) (t1 : Ty2 s d1) (h : okW d1 = false) : MP.call P (k + 3) f [d1, d2] s = .ex 5 [] s := by
  rw [call_run hf]
  have hty := ty_tup (g := genv P (MP.call P (k + 2))) t1.1
  refine (run_ex (s' := s) (env := [some d1, some d2]) rfl (show exB _ (_ :: _) [some d1, some d2] s = _ from rx ?_)).trans (finX_same rfl)
  by_cases hA : isTupD d1 = true
  case neg =>
    have hA : isTupD d1 = false := by simpa using hA
    rw [hA] at hty
    simp [hty]
  obtain ⟨xs, rfl⟩ := isTup_of hA
  rw [hA] at hty
  have q := isWeights_fn (k := k + 1) W.h24 (xs.length : Int) (.tup xs) s t1
  have h' : okW (.tup xs) = (decide ((1 : Int) ≤ xs.length) && (decide ((xs.length : Int) ≤ 5) && isWD (xs.length : Int) (.tup xs))) := rfl
  rw [h'] at h
  by_cases h1 : (1 : Int) ≤ xs.length
  · by_cases h5 : (xs.length : Int) ≤ 5
    · simp only [h1, h5, decide_true, Bool.true_and] at h
      rw [h] at q
      simp [hty, len_tup, h1, h5, fillP W.b.nd, q]
    · simp [hty, len_tup, h1, h5]
  · simp [hty, len_tup, h1]
theorem worth_bag {k f : Nat} (W : WeightsP P) (hf : P.fn f = some worthF) (d1 d2 : D) (s : Sto) (t1 : Ty2 s d1) (t2 : Ty2 s d2) (h : okW d1 = true) (h2 : isBagD (lenD' d1) d2 = false) : MP.call P (k + 3) f [d1, d2] s = .ex 4 [.str [98, 97, 103]] s := by
  rw [call_run hf]
  have hty := ty_tup (g := genv P (MP.call P (k + 2))) t1.1
  obtain ⟨xs, rfl, h3, h4, h5⟩ := okW_of h
  have hw : isWD (xs.length : Int) (.tup xs) = true := by simpa [isWD, List.all_eq_true] using h3
  have q := isWeights_fn (k := k + 1) W.h24 (xs.length : Int) (.tup xs) s t1
  have q2 := isBag_fn (k := k) W.b.nd W.b.h0 W.b.h1 (xs.length : Int) d2 s t2
  have g1 : (1 : Int) ≤ xs.length := by omega
  have g5 : (xs.length : Int) ≤ 5 := by omega
  rw [hw] at q
  rw [show isBagD (xs.length : Int) d2 = false from h2] at q2
  refine (run_ex (s' := s) (env := [some (.tup xs), some d2]) rfl (nx (env' := [some (.tup xs), some d2]) (s' := s) ?_ (rx ?_))).trans (finX_same rfl)
  · simp [show tyIs (genv P (MP.call P (k + 2))) s (.tup xs) .tuple = some true from rfl, len_tup, g1, g5, fillP W.b.nd, q]; rfl
  · simp [len_tup, fillP W.b.nd, q2]
theorem worth_good {k f : Nat} (W : WeightsP P) (hf : P.fn f = some worthF) (ws : List D) (bs : List Int) (s : Sto) (hw : ∀ w ∈ ws, wD w = true) (h1 : 1 ≤ ws.length) (h5 : ws.length ≤ 5) (hl : bs.length = ws.length) (h0 : ∀ b ∈ bs, 0 ≤ b) (hs : sml bs) : MP.call P (k + 3) f [.tup ws, bagD bs] s = .ok (optD (worthL ws bs 0)) s := by
  rw [call_run hf]
  have t1 : Ty2 s (.tup ws) := ⟨trivial, fun xs e x hx => by
    cases e
    have := hw x hx
    cases x <;> first | trivial | cases this⟩
  have hwd : isWD (ws.length : Int) (.tup ws) = true := by simpa [isWD, List.all_eq_true] using hw
  have q := isWeights_fn (k := k + 1) W.h24 (ws.length : Int) (.tup ws) s t1
  have q2 := isBag_fn (k := k) W.b.nd W.b.h0 W.b.h1 (ws.length : Int) (bagD bs) s (bag_ty s bs)
  have q3 := worthOf_fn (k := k + 1) (.inl rfl) W.h25 ws bs s hw hs
  have g1 : (1 : Int) ≤ ws.length := by omega
  have g5 : (ws.length : Int) ≤ 5 := by omega
  rw [hwd] at q
  rw [← hl, isBagD_bag h0, hl] at q2
  have hfree : (optD (worthL ws bs 0)).free = true := by cases worthL ws bs 0 <;> rfl
  refine (run_ret (s' := s) (v := optD (worthL ws bs 0)) rfl (nx (env' := [some (.tup ws), some (bagD bs)]) (s' := s) ?_ (nx (env' := [some (.tup ws), some (bagD bs)]) (s' := s) ?_ (rt ?_)))).trans (fin_same (.inl rfl) hfree)
  · simp [show tyIs (genv P (MP.call P (k + 2))) s (.tup ws) .tuple = some true from rfl, len_tup, g1, g5, fillP W.b.nd, q]; rfl
  · simp [len_tup, fillP W.b.nd, q2]
  · simp [fillP W.b.nd, q3]
end
end MP
set_option autoImplicit false
set_option linter.all false
set_option maxRecDepth 10000
set_option maxHeartbeats 2000000
/-! SL4: markets made. -/
namespace MP
def isPairF : Fn := ⟨2, 2, [], 0, [.ret (.and [.isi (.var 1) [.tuple], .cmp .eq (.bi .len [.var 1]) (.lit (.int 2)), .call 1 [.var 0, .idx (.var 1) (.lit (.int 0))], .call 1 [.var 0, .idx (.var 1) (.lit (.int 1))]])]⟩
def mkInitF : Fn := ⟨3, 5, [], 0,
  [.ife (.or [.not (.call 0 [.var 1]), .not (.chain .le .le (.lit (.int 1)) (.var 1) (.glob 0))]) [.raise 1 [.var 1]] [], .ife (.or [.not (.isi (.var 2) [.tuple]), .cmp .gt (.bi .len [.var 2]) (.glob 1)]) [.raise 2 [.neg (.lit (.int 1))]] [], .forS (.tup [.name 3, .name 4]) (.enum (.var 2)) [.ife (.not (.call 2 [.var 1, .var 4])) [.raise 2 [.var 3]] []], .setf (.var 0) 0 (.var 1), .setf (.var 0) 2 (.var 2)]⟩
def trD (tr : List (List Int × List Int)) : D := .tup (tr.map fun p => .tup [bagD p.1, bagD p.2])
def mkD (gd : Int) (tr : List (List Int × List Int)) : D := .rcd 3 [.int gd, trD tr]
/-- a pair of bags of gd goods -/
def PairOk (gd : Int) (p : List Int × List Int) : Prop := ((p.1.length : Int) = gd ∧ ∀ r ∈ p.1, 0 ≤ r) ∧ ((p.2.length : Int) = gd ∧ ∀ r ∈ p.2, 0 ≤ r)
structure MarketP (P : Prog) : Prop where
  b : BagsP P
  g1 : P.glob 1 = some (.int 8)
  h2 : P.fn 2 = some isPairF
  h20 : P.fn 20 = some mkInitF
  c3 : P.cls 3 = some ⟨false, [0, 2], some 20, true, []⟩
theorem evI_enum {g : G} {e : E} {env : Env} {s s' : Sto} {d : D} {xs : List D} (h : evE g e env s = .ok d s') (hx : seqOf s' d = some xs) : evI g (.enum e) env s = .ok (enumD 0 xs, guardOf d xs) s' := by
  rw [evI, h]
  simp only [R.bind_ok, hx, opt1_some]
theorem bag_free (b : List Int) : (bagD b).free = true := by simp only [bagD, D.free]; exact frees_ints b
theorem tr_free : ∀ tr : List (List Int × List Int), D.frees (tr.map fun p => D.tup [bagD p.1, bagD p.2]) = true
  | [] => rfl
  | p :: tr => by simp [D.frees, D.free, bag_free, tr_free tr]
theorem mk_free (gd : Int) (tr : List (List Int × List Int)) : (mkD gd tr).free = true := by simp [mkD, trD, D.free, D.frees, tr_free]
theorem fin0_set_last {s : Sto} {c c' : Cell} {r : D} (hc : c'.free = true) (hr : r.free = true) : fin 0 (s ++ [c]) r (s ++ [c']) = .ok r (s ++ [c']) := by
  have e : s ++ [c'] = (s ++ [c]).set s.length c' := by simp
  rw [e]
  exact fin_set hc hr
section
variable {P : Prog}
theorem isPair_fn (M : MarketP P) (k : Nat) (gd : Int) (p : List Int × List Int) (s : Sto) (h : PairOk gd p) : MP.call P (k + 3) 2 [.int gd, .tup [bagD p.1, bagD p.2]] s = .ok (.bl true) s := by
  obtain ⟨⟨h1, h2⟩, h3, h4⟩ := h
  rw [call_run M.h2]
  have q1 := isBag_fn (k := k) M.b.nd M.b.h0 M.b.h1 gd (bagD p.1) s (bag_ty s _)
  have q2 := isBag_fn (k := k) M.b.nd M.b.h0 M.b.h1 gd (bagD p.2) s (bag_ty s _)
  rw [← h1, isBagD_bag h2, h1] at q1
  rw [← h3, isBagD_bag h4, h3] at q2
  have hty : tyIs (genv P (MP.call P (k + 2))) s (.tup [bagD p.1, bagD p.2]) .tuple = some true := rfl
  have i0 : indexS s (.tup [bagD p.1, bagD p.2]) (.int 0) = some (bagD p.1) := rfl
  have i1 : indexS s (.tup [bagD p.1, bagD p.2]) (.int 1) = some (bagD p.2) := rfl
  refine (run_ret (s' := s) (v := .bl true) rfl (show exB _ (_ :: _) [some (.int gd), some (.tup [bagD p.1, bagD p.2])] s = _ from rt ?_)).trans (fin0_bl s true)
  simp [hty, len_tup, i0, i1, fillP M.b.nd, q1, q2]
theorem pair_loop (M : MarketP P) (k : Nat) (gd : Int) (m tD : D) (s : Sto) : ∀ (tr : List (List Int × List Int)) (n : Nat) (x y : Option D), (∀ p ∈ tr, PairOk gd p) →
    ∃ x' y', forLoop (bodyF (genv P (MP.call P (k + 3))) (.tup [.name 3, .name 4]) [.ife (.not (.call 2 [.var 1, .var 4])) [.raise 2 [.var 3]] []]) [] (enumD n (tr.map fun p => D.tup [bagD p.1, bagD p.2])) [some m, some (.int gd), some tD, x, y] s = .nx [some m, some (.int gd), some tD, x', y'] s
  | [], n, x, y, _ => ⟨x, y, for_nil (by rfl)⟩
  | p :: tr, n, x, y, h => by
    have hi := isPair_fn M k gd p s (h p List.mem_cons_self)
    obtain ⟨x', y', ih⟩ := pair_loop M k gd m tD s tr (n + 1) (some (.int n)) (some (.tup [bagD p.1, bagD p.2])) fun q hq => h q (List.mem_cons_of_mem _ hq)
    exact ⟨x', y', by rw [List.map_cons, enumD, for_nx (by rfl) (env' := [some m, some (.int gd), some tD, some (.int n), some (.tup [bagD p.1, bagD p.2])]) (s' := s) (by simp [bodyF, fillP M.b.nd, hi]), ih]⟩
theorem mkInit_fn (M : MarketP P) (k : Nat) (gd : Int) (tr : List (List Int × List Int)) (s : Sto) (hg : 1 ≤ gd) (hg5 : gd ≤ 5) (hl : tr.length ≤ 8) (h : ∀ p ∈ tr, PairOk gd p) :
    MP.call P (k + 4) 20 [.ref s.length, .int gd, trD tr] (s ++ [.ins 3 []]) = .ok .non (s ++ [.ins 3 [(0, .int gd), (2, trD tr)]]) := by
  rw [call_run M.h20]
  have q0 := whole_fn (k := k + 2) M.b.h0 (.int gd) (s ++ [.ins 3 []]) trivial
  simp only [isIntD] at q0
  have hty : tyIs (genv P (MP.call P (k + 3))) (s ++ [.ins 3 []]) (trD tr) .tuple = some true := rfl
  have hlen : bfn (s ++ [.ins 3 []]) .len [trD tr] = some (.int tr.length) := by simp [trD, len_tup]
  have hn : ¬ (8 : Int) < tr.length := by omega
  obtain ⟨x', y', hf⟩ := pair_loop M k gd (.ref s.length) (trD tr) (s ++ [.ins 3 []]) tr 0 none none h
  have hit : evI (genv P (MP.call P (k + 3))) (.enum (.var 2)) [some (.ref s.length), some (.int gd), some (trD tr), none, none] (s ++ [.ins 3 []]) = .ok (enumD 0 (tr.map fun p => D.tup [bagD p.1, bagD p.2]), []) (s ++ [.ins 3 []]) := evI_enum (d := trD tr) (by simp) rfl
  have b3 := (ex_for (t := .tup [.name 3, .name 4]) (body := [.ife (.not (.call 2 [.var 1, .var 4])) [.raise 2 [.var 3]] []]) hit).trans hf
  have s1 : setFl (genv P (MP.call P (k + 3))) (s ++ [.ins 3 []]) (.ref s.length) 0 (.int gd) = some (s ++ [.ins 3 [(0, .int gd)]]) := by simp [setFl, M.c3, putF]
  have s2 : setFl (genv P (MP.call P (k + 3))) (s ++ [.ins 3 [(0, .int gd)]]) (.ref s.length) 2 (trD tr) = some (s ++ [.ins 3 [(0, .int gd), (2, trD tr)]]) := by simp [setFl, M.c3, putF]
  refine (run_nx (s' := s ++ [Cell.ins 3 [(0, .int gd), (2, trD tr)]]) (env := [some (.ref s.length), some (.int gd), some (trD tr), x', y']) rfl (show exB _ (_ :: _) [some (.ref s.length), some (.int gd), some (trD tr), none, none] _ = _ from ?_)).trans (fin0_set_last (c := .ins 3 []) (c' := .ins 3 [(0, .int gd), (2, trD tr)]) (r := .non) (by simp [Cell.free, D.frees, D.free, trD, tr_free]) rfl)
  refine nx (env' := [some (.ref s.length), some (.int gd), some (trD tr), none, none]) (s' := s ++ [.ins 3 []]) (by simp [fillP M.b.nd, q0, M.b.g0, hg, hg5]) ?_
  refine nx (env' := [some (.ref s.length), some (.int gd), some (trD tr), none, none]) (s' := s ++ [.ins 3 []]) (by simp [hty, hlen, M.g1, hn]) ?_
  refine nx b3 ?_
  refine nx (env' := [some (.ref s.length), some (.int gd), some (trD tr), x', y']) (s' := s ++ [.ins 3 [(0, .int gd)]]) (by simp [s1]) ?_
  refine nx (env' := [some (.ref s.length), some (.int gd), some (trD tr), x', y']) (s' := s ++ [.ins 3 [(0, .int gd), (2, trD tr)]]) (by simp [s2]) ?_
  rw [ex_nil]
theorem market_fn (M : MarketP P) (k : Nat) (gd : Int) (tr : List (List Int × List Int)) (s : Sto) (hg : 1 ≤ gd) (hg5 : gd ≤ 5) (hl : tr.length ≤ 8) (h : ∀ p ∈ tr, PairOk gd p) :
    makeD (genv P (MP.call P (k + 4))) 3 [.int gd, trD tr] s = .ok (mkD gd tr) s := by
  have hi := mkInit_fn M k gd tr s hg hg5 hl h
  unfold makeD
  simp only [gg_cls, M.c3, Bool.false_eq_true, if_false, gg_call, hi]
  simp [recOf, D.frees, D.free, trD, tr_free, mkD]
end
end MP
set_option autoImplicit false
set_option linter.all false
set_option maxRecDepth 10000
set_option maxHeartbeats 2000000
/-! SL5: what is drawn (state of draws at 0, anything behind). -/
namespace MP
section
variable {P : Prog}
theorem draw0 (h28 : P.fn 28 = some drawF) (k : Nat) (c : Cell) (r : Sto) (hc : StK c) (L : Int) (hL : 0 < L) (hL2 : L < 1073741824) : ∃ v c', MP.call P (k + 1) 28 [.ref 0, .int L] (c :: r) = .ok (.int v) (c' :: r) ∧ StK c' ∧ 0 ≤ v ∧ v < L := by
  obtain ⟨v, c', h1, h2⟩ := draw_fn (P := P) (k := k) (f := 28) h28 (c :: r) 0 c hc rfl L hL hL2
  exact ⟨v, c', h1, h2⟩
/-- a comprehension of draws -/
theorem drawn_loop {step : D → Sto → R (Option D)} {r : Sto} {Pr : D → Prop} (h : ∀ d c, StK c → ∃ v c', step d (c :: r) = .ok (some v) (c' :: r) ∧ StK c' ∧ Pr v) : ∀ (ds : List D) (c : Cell), StK c →
    ∃ vs c', compLoop step [] ds (c :: r) = .ok vs (c' :: r) ∧ StK c' ∧ vs.length = ds.length ∧ ∀ v ∈ vs, Pr v
  | [], c, hc => ⟨[], c, by simp [compLoop, stands], hc, rfl, fun v h => by cases h⟩
  | d :: ds, c, hc => by
    obtain ⟨v, c1, h1, h2, h3⟩ := h d c hc
    obtain ⟨vs, c2, h4, h5, h6, h7⟩ := drawn_loop h ds c1 h2
    refine ⟨v :: vs, c2, by simp [compLoop, stands, h1, h4, consO], h5, by simp [h6], fun x hx => ?_⟩
    rcases List.mem_cons.mp hx with rfl | hx
    · exact h3
    · exact h7 x hx
theorem drawn_comp {g : G} {m : Bool} {i : Nat} {elt : E} {env : Env} {c : Cell} {r : Sto} {n : Int} {y : E} {Pr : D → Prop} (hc : StK c) (hn : evE g y env (c :: r) = .ok (.int n) (c :: r)) (h0 : 0 ≤ n) (h1 : n ≤ 1000)
    (h : ∀ d c, StK c → ∃ v c', evE g elt (setE (setE env i none) i (some d)) (c :: r) = .ok v (c' :: r) ∧ StK c' ∧ Pr v) :
    ∃ vs c', evE g (.comp m [i] elt (.name i) (.range [y]) []) env (c :: r) = newL m vs (c' :: r) ∧ StK c' ∧ vs.length = n.toNat ∧ ∀ v ∈ vs, Pr v := by
  obtain ⟨vs, c', h2, h3, h4, h5⟩ := drawn_loop (step := stepF [i] (.name i) (evAnd g []) (evE g elt) env) (Pr := Pr) (r := r) (fun d c hc => by
    obtain ⟨v, c', q1, q2⟩ := h d c hc
    exact ⟨v, c', by simp [stepF, q1], q2⟩) (rangeD 0 n.toNat) c hc
  have hl : vs.length = n.toNat := by rw [h4]; simp [rangeD]
  exact ⟨vs, c', ev_comp (evI_range1 hn (by unfold smallI; simp; omega)) h2 (by rw [hl]; show _ ≤ 16777216; omega), h3, hl, h5⟩
def In1 (lo hi : Int) (d : D) : Prop := ∃ i, d = .int i ∧ lo ≤ i ∧ i < hi
theorem in1_ints {lo hi : Int} : ∀ {vs : List D}, (∀ v ∈ vs, In1 lo hi v) → ∃ bs : List Int, vs = bs.map D.int ∧ ∀ b ∈ bs, lo ≤ b ∧ b < hi
  | [], _ => ⟨[], rfl, fun b h => by cases h⟩
  | v :: vs, h => by
    obtain ⟨i, rfl, h1⟩ := h v List.mem_cons_self
    obtain ⟨bs, rfl, h2⟩ := in1_ints fun w hw => h w (List.mem_cons_of_mem _ hw)
    exact ⟨i :: bs, rfl, fun b hb => by
      rcases List.mem_cons.mp hb with rfl | hb
      · exact h1
      · exact h2 b hb⟩
theorem stK_f {c : Cell} (h : StK c) : c.free = true := by
  obtain ⟨_, _, _, _, _, rfl, _⟩ := h
  exact stK_free _ _ _ _ _
theorem frees_of {xs : List D} (h : ∀ x ∈ xs, x.free = true) : D.frees xs = true := by
  induction xs with
  | nil => rfl
  | cons x xs ih => simp only [D.frees, h x List.mem_cons_self, ih fun y hy => h y (List.mem_cons_of_mem _ hy), Bool.and_self]
theorem fin0_head {c c' : Cell} {r cs : Sto} {d : D} (hc : c'.free = true) (hd : d.free = true) : fin 0 (c :: r) d (c' :: r ++ cs) = .ok d (c' :: r) := by
  unfold fin
  have g1 : gcOk (c :: r) (c' :: r) = true := gcOk_set (s := c :: r) (i := 0) hc
  rw [if_neg (by decide), if_pos (gcOk_app g1), if_pos hd]
  simp
end
theorem ife_t {g : G} {c : E} {a b : List S} {env : Env} {s s' : Sto} {z : SR} (h : evE g c env s = .ok (.bl true) s') (h2 : exB g a env s' = z) : exS g (.ife c a b) env s = z := by
  rw [ex_ife, h]; exact h2
theorem ife_f {g : G} {c : E} {a b : List S} {env : Env} {s s' : Sto} {z : SR} (h : evE g c env s = .ok (.bl false) s') (h2 : exB g b env s' = z) : exS g (.ife c a b) env s = z := by
  rw [ex_ife, h]; exact h2
theorem ex_one {g : G} {st : S} {env : Env} {s : Sto} {z : SR} (h : exS g st env s = z) : exB g [st] env s = z := by
  rw [ex_cons, h]
  cases z <;> rfl
theorem cut_take {α : Type} (xs : List α) (i : Int) (h0 : 0 ≤ i) (h1 : i ≤ xs.length) : cut xs none (some i) = xs.take i.toNat := by
  have : ¬ i < 0 := by omega
  simp only [cut, sIx, this, if_false, List.drop_zero, Nat.sub_zero]
  rw [Nat.min_eq_left (by omega)]
theorem cut_drop {α : Type} (xs : List α) (i : Int) (h0 : 0 ≤ i) (h1 : i ≤ xs.length) : cut xs (some i) none = xs.drop i.toNat := by
  have : ¬ i < 0 := by omega
  simp only [cut, sIx, this, if_false]
  rw [Nat.min_eq_left (by omega), List.take_of_length_le (by simp)]
theorem bin_add_tup (s : Sto) (x y : List D) (h : x.length + y.length ≤ 1000) : binop s .add (.tup x) (.tup y) = some (.tup (x ++ y)) := by
  have : x.length + y.length ≤ LINE := Nat.le_trans h (by decide)
  simp only [binop, this, if_true]
theorem ix_ok {s : Sto} {d : D} {xs : List D} {i : Int} (h : seqOf s d = some xs) (h0 : 0 ≤ i) (h1 : i < xs.length) : ∃ x, xs[i.toNat]? = some x ∧ indexS s d (.int i) = some x := by
  have hi : i.toNat < xs.length := by omega
  exact ⟨xs[i.toNat], List.getElem?_eq_getElem hi, by simp only [indexS, h, atI, ixN, if_pos h0, if_pos h1, Option.bind_some, List.getElem?_eq_getElem hi]⟩
theorem ix_ints {s : Sto} {d : D} {xs : List Int} {i : Int} (h : seqOf s d = some (xs.map D.int)) (h0 : 0 ≤ i) (h1 : i < xs.length) : ∃ x, xs[i.toNat]? = some x ∧ indexS s d (.int i) = some (.int x) := by
  have hi : i.toNat < xs.length := by omega
  obtain ⟨y, q1, q2⟩ := ix_ok h h0 (by simpa using h1)
  rw [List.getElem?_map, List.getElem?_eq_getElem hi] at q1
  cases q1
  exact ⟨xs[i.toNat], List.getElem?_eq_getElem hi, q2⟩
end MP
set_option autoImplicit false
set_option linter.all false
set_option maxRecDepth 100000
set_option maxHeartbeats 4000000
namespace Lk45
open PySem MP
def tc (n : Nat) : Str := (([(0, "BarterError"), (1, "BadGoods"), (2, "BadTrade"), (3, "Market"), (4, "BadBag"), (5, "BadWeights")] : List (Nat × Str)).lookup n).getD ""
def ta (n : Nat) : Str := (([(0, "goods"), (1, "index"), (2, "trades"), (3, "part"), (4, "many"), (5, "move"), (6, "what"), (7, "size"), (8, "number"), (9, "most"), (10, "limit"), (11, "good"), (12, "dealer"), (13, "line"), (14, "cost"), (15, "bounds"), (16, "kinds"), (17, "ends"), (18, "market"), (19, "standing"), (20, "earlier"), (21, "bags"), (22, "steps"), (23, "past"), (24, "before"), (25, "entered"), (26, "numbers")] : List (Nat × Str)).lookup n).getD ""
def tf (n : Nat) : Str := (([(0, "is_integer"), (1, "is_bag"), (2, "is_pair_of_bags"), (19, "law"), (24, "is_weights"), (25, "worth_of"), (26, "worth"), (27, "_law_draws"), (28, "_law_draw"), (29, "_law_integer"), (30, "_law_worth"), (35, "is_kept"), (36, "_law_keeps"), (37, "_law_stepped"), (38, "_law_any"), (39, "_law_hidden"), (40, "_law_even"), (41, "_law_wide"), (42, "_law_touched"), (43, "_law_filled"), (44, "_law_changed")] : List (Nat × Str)).lookup n).getD ""
def tg (n : Nat) : Str := (([(0, "MOST_GOODS"), (1, "MOST_TRADES")] : List (Nat × Str)).lookup n).getD ""
def T : Tab := ⟨tc, ta, tf, tg, []⟩
def f0 : Fn := ⟨1, 1, [], 0,
  [.ret (.and [.isi (.var 0) [.int], .not (.isi (.var 0) [.bool])])]⟩
def f1 : Fn := ⟨2, 3, [], 0,
  [.ife (.or [.not (.isi (.var 1) [.tuple]), .cmp .ne (.bi .len [.var 1]) (.var 0)]) [.ret (.lit (.bl false))] [], .forS (.name 2) (.seq (.var 1)) [.ife (.or [.not (.call 0 [.var 2]), .cmp .lt (.var 2) (.lit (.int 0))]) [.ret (.lit (.bl false))] []], .ret (.lit (.bl true))]⟩
def f24 : Fn := ⟨2, 3, [], 0,
  [.ife (.or [.not (.isi (.var 1) [.tuple]), .cmp .ne (.bi .len [.var 1]) (.var 0)]) [.ret (.lit (.bl false))] [], .forS (.name 2) (.seq (.var 1)) [.ife (.and [.cmp .isnot (.var 2) (.lit .non), .or [.not (.isi (.var 2) [.int]), .isi (.var 2) [.bool]]]) [.ret (.lit (.bl false))] []], .ret (.lit (.bl true))]⟩
def f25 : Fn := ⟨2, 5, [], 0,
  [.asg (.name 2) (.lit (.int 0)), .forS (.tup [.name 3, .name 4]) (.zip [.var 0, .var 1]) [.ife (.cmp .gt (.var 4) (.lit (.int 0))) [.ife (.cmp .is (.var 3) (.lit .non)) [.ret (.lit .non)] [], .aug 2 .add (.bin .mul (.var 3) (.var 4))] []], .ret (.var 2)]⟩
def f26 : Fn := ⟨2, 2, [], 0,
  [.ife (.or [.not (.isi (.var 0) [.tuple]), .not (.chain .le .le (.lit (.int 1)) (.bi .len [.var 0]) (.lit (.int 5))), .not (.call 24 [.bi .len [.var 0], .var 0])]) [.raise 5 []] [], .ife (.not (.call 1 [.bi .len [.var 0], .var 1])) [.raise 4 [.lit (.str [98, 97, 103])]] [], .ret (.call 25 [.var 0, .var 1])]⟩
def f35 : Fn := ⟨2, 4, [], 0,
  [.ife (.not (.call 24 [.fld (.var 0) 0, .var 1])) [.ret (.lit (.bl false))] [], .forS (.tup [.name 2, .name 3]) (.seq (.fld (.var 0) 2)) [.ife (.cmp .ne (.call 25 [.var 1, .var 2]) (.call 25 [.var 1, .var 3])) [.ret (.lit (.bl false))] []], .ret (.lit (.bl true))]⟩
def f2 : Fn := ⟨2, 2, [], 0,
  [.ret (.and [.isi (.var 1) [.tuple], .cmp .eq (.bi .len [.var 1]) (.lit (.int 2)), .call 1 [.var 0, .idx (.var 1) (.lit (.int 0))], .call 1 [.var 0, .idx (.var 1) (.lit (.int 1))]])]⟩
def f27 : Fn := ⟨1, 2, [], 1,
  [.ret (.dct [.str [99, 101, 108, 108, 115], .str [112, 108, 97, 99, 101], .str [114, 101, 115, 116], .str [109, 105, 120, 101, 100], .str [99, 111, 117, 110, 116]] [.comp false [1] (.bi .abs [.bi .toInt [.var 1]]) (.name 1) (.seq (.slc false (.var 0) none (some (.lit (.int 63))))) [], .lit (.int 0), .lit (.int 0), .lit (.int 0), .lit (.int 0)])]⟩
def f28 : Fn := ⟨2, 4, [], 0,
  [.ife (.and [.cmp .eq (.dget (.var 0) (.lit (.str [114, 101, 115, 116]))) (.lit (.int 0)), .cmp .lt (.dget (.var 0) (.lit (.str [112, 108, 97, 99, 101]))) (.bi .len [.dget (.var 0) (.lit (.str [99, 101, 108, 108, 115]))])]) [.asg (.name 2) (.idx (.dget (.var 0) (.lit (.str [99, 101, 108, 108, 115]))) (.dget (.var 0) (.lit (.str [112, 108, 97, 99, 101])))), .dput (.var 0) (.lit (.str [112, 108, 97, 99, 101])) (.bin .add (.dget (.var 0) (.lit (.str [112, 108, 97, 99, 101]))) (.lit (.int 1))), .dput (.var 0) (.lit (.str [109, 105, 120, 101, 100])) (.bin .mod (.bi .toInt [.bin .add (.bin .add (.bin .mul (.dget (.var 0) (.lit (.str [109, 105, 120, 101, 100]))) (.lit (.int 1000003))) (.var 2)) (.lit (.int 1))]) (.lit (.int 2147483629))), .ife (.cmp .ge (.var 2) (.bin .pow (.lit (.int 10)) (.lit (.int 18)))) [.dput (.var 0) (.lit (.str [114, 101, 115, 116])) (.var 2)] []] [], .ife (.cmp .gt (.dget (.var 0) (.lit (.str [114, 101, 115, 116]))) (.lit (.int 0))) [.asg (.name 3) (.bin .mod (.bi .toInt [.dget (.var 0) (.lit (.str [114, 101, 115, 116]))]) (.var 1)), .dput (.var 0) (.lit (.str [114, 101, 115, 116])) (.bin .fdiv (.dget (.var 0) (.lit (.str [114, 101, 115, 116]))) (.var 1)), .ret (.var 3)] [], .dput (.var 0) (.lit (.str [99, 111, 117, 110, 116])) (.bin .add (.dget (.var 0) (.lit (.str [99, 111, 117, 110, 116]))) (.lit (.int 1))), .asg (.name 3) (.bin .mod (.bin .mul (.bi .toInt [.bin .add (.bin .add (.dget (.var 0) (.lit (.str [109, 105, 120, 101, 100]))) (.bin .mul (.lit (.int 7919)) (.dget (.var 0) (.lit (.str [99, 111, 117, 110, 116]))))) (.lit (.int 1))]) (.lit (.int 48271))) (.lit (.int 2147483647))), .asg (.name 3) (.bin .mod (.bi .toInt [.bin .mul (.var 3) (.bin .add (.bin .fdiv (.var 3) (.lit (.int 1009))) (.lit (.int 69621)))]) (.lit (.int 2147483647))), .asg (.name 3) (.bin .mod (.bi .toInt [.bin .mul (.var 3) (.bin .add (.bin .fdiv (.var 3) (.lit (.int 2003))) (.lit (.int 40692)))]) (.lit (.int 2147483399))), .ret (.bin .mod (.bi .toInt [.bin .fdiv (.var 3) (.lit (.int 16))]) (.var 1))]⟩
def f29 : Fn := ⟨1, 1, [], 0,
  [.ret (.and [.isi (.var 0) [.int], .not (.isi (.var 0) [.bool])])]⟩
def f30 : Fn := ⟨2, 5, [], 0,
  [.asg (.name 2) (.lit (.int 0)), .forS (.tup [.name 3, .name 4]) (.zip [.var 0, .var 1]) [.ife (.cmp .gt (.var 4) (.lit (.int 0))) [.ife (.cmp .is (.var 3) (.lit .non)) [.ret (.lit .non)] [], .asg (.name 2) (.bin .add (.var 2) (.bin .mul (.var 3) (.var 4)))] []], .ret (.var 2)]⟩
def f36 : Fn := ⟨3, 6, [], 0,
  [.ife (.or [.not (.isi (.var 2) [.tuple]), .cmp .ne (.bi .len [.var 2]) (.var 0)]) [.ret (.lit (.bl false))] [], .forS (.name 3) (.seq (.var 2)) [.ife (.and [.cmp .isnot (.var 3) (.lit .non), .not (.call 29 [.var 3])]) [.ret (.lit (.bl false))] []], .forS (.tup [.name 4, .name 5]) (.seq (.var 1)) [.ife (.cmp .ne (.call 30 [.var 2, .var 4]) (.call 30 [.var 2, .var 5])) [.ret (.lit (.bl false))] []], .ret (.lit (.bl true))]⟩
def f37 : Fn := ⟨4, 11, [], 0,
  [.forS (.name 4) (.range [.var 3]) [.ife (.cmp .gt (.bi .len [.var 1]) (.lit (.int 0))) [.asg (.name 5) (.idx (.var 1) (.call 28 [.var 0, .bi .len [.var 1]])), .asg (.name 6) (.call 28 [.var 0, .lit (.int 2)]), .asg (.name 7) (.comp false [8, 9] (.bin .sub (.var 8) (.var 9)) (.tup [.name 8, .name 9]) (.zip [.var 2, .idx (.var 5) (.var 6)]) []), .ife (.cmp .ge (.bi .minL [.var 7]) (.lit (.int 0))) [.asg (.name 7) (.comp false [8, 10] (.bin .add (.var 8) (.var 10)) (.tup [.name 8, .name 10]) (.zip [.var 7, .idx (.var 5) (.bin .sub (.lit (.int 1)) (.var 6))]) []), .ife (.cmp .le (.bi .maxL [.var 7]) (.lit (.int 12))) [.asg (.name 2) (.bi .toTup [.var 7])] []] []] []], .ret (.var 2)]⟩
def f38 : Fn := ⟨3, 4, [], 0,
  [.ret (.bi .toTup [.comp false [3] (.bi .max2 [.lit (.int 0), .bin .sub (.call 28 [.var 0, .bin .add (.var 2) (.lit (.int 5))]) (.lit (.int 4))]) (.name 3) (.range [.var 1]) []])]⟩
def f39 : Fn := ⟨2, 3, [], 0,
  [.ife (.cmp .eq (.call 28 [.var 0, .lit (.int 3)]) (.lit (.int 0))) [.ret (.comp false [2] (.bin .sub (.call 28 [.var 0, .lit (.int 6)]) (.lit (.int 2))) (.name 2) (.range [.var 1]) [])] [], .ret (.comp false [2] (.bin .add (.lit (.int 1)) (.call 28 [.var 0, .lit (.int 3)])) (.name 2) (.range [.var 1]) [])]⟩
def f40 : Fn := ⟨2, 8, [], 0,
  [.asg (.name 2) (.bi .len [.var 1]), .asg (.name 3) (.call 28 [.var 0, .lit (.int 2)]), .asg (.name 4) (.call 28 [.var 0, .var 2]), .asg (.name 5) (.bin .mod (.bi .toInt [.bin .add (.bin .add (.var 4) (.lit (.int 1))) (.call 28 [.var 0, .bi .max2 [.lit (.int 1), .bin .sub (.var 2) (.lit (.int 1))]])]) (.var 2)), .asg (.name 6) (.li .toList true (.call 38 [.var 0, .var 2, .lit (.int 9)])), .asg (.name 7) (.li .toList true (.var 6)), .ife (.cmp .eq (.idx (.var 1) (.var 4)) (.lit (.int 0))) [.seti (.var 6) (.var 4) (.bin .add (.bin .add (.idx (.var 6) (.var 4)) (.lit (.int 1))) (.call 28 [.var 0, .lit (.int 3)]))] [.ife (.cmp .gt (.bin .mul (.idx (.var 1) (.var 4)) (.idx (.var 1) (.var 5))) (.lit (.int 0))) [.seti (.var 6) (.var 4) (.bin .add (.idx (.var 6) (.var 4)) (.bi .abs [.idx (.var 1) (.var 5)])), .seti (.var 7) (.var 5) (.bin .add (.idx (.var 7) (.var 5)) (.bi .abs [.idx (.var 1) (.var 4)]))] [.seti (.var 6) (.var 4) (.bin .add (.idx (.var 6) (.var 4)) (.bi .abs [.idx (.var 1) (.var 5)])), .seti (.var 6) (.var 5) (.bin .add (.idx (.var 6) (.var 5)) (.bi .abs [.idx (.var 1) (.var 4)]))]], .ife (.cmp .eq (.var 3) (.lit (.int 1))) [.ret (.tup [.bi .toTup [.var 7], .bi .toTup [.var 6]])] [], .ret (.tup [.bi .toTup [.var 6], .bi .toTup [.var 7]])]⟩
def f41 : Fn := ⟨2, 8, [], 0,
  [.asg (.name 2) (.call 28 [.var 0, .lit (.int 4)]), .asg (.name 3) (.bin .add (.lit (.int 1)) (.call 28 [.var 0, .lit (.int 5)])), .asg (.name 4) (.lit (.int 12)), .ife (.and [.var 1, .cmp .gt (.var 3) (.lit (.int 2))]) [.asg (.name 4) (.ite (.cmp .eq (.var 3) (.lit (.int 3))) (.lit (.int 4)) (.lit (.int 2)))] [], .asg (.name 5) (.lst false []), .ife (.cmp .gt (.var 2) (.lit (.int 0))) [.asg (.name 6) (.call 39 [.var 0, .var 3]), .asg (.name 5) (.comp false [7] (.call 40 [.var 0, .var 6]) (.name 7) (.range [.call 28 [.var 0, .lit (.int 8)]]) [])] [], .ife (.or [.cmp .eq (.var 2) (.lit (.int 0)), .cmp .eq (.var 2) (.lit (.int 3))]) [.forS (.name 7) (.range [.bin .add (.lit (.int 1)) (.bin .mul (.lit (.int 3)) (.bi .toInt [.cmp .eq (.var 2) (.lit (.int 0))]))]) [.ife (.or [.cmp .eq (.var 7) (.lit (.int 0)), .cmp .eq (.call 28 [.var 0, .lit (.int 2)]) (.lit (.int 1))]) [.expr (.bm .append (.var 5) [.tup [.call 38 [.var 0, .var 3, .var 4], .call 38 [.var 0, .var 3, .var 4]]])] []]] [], .ret (.tup [.var 3, .var 5])]⟩
def f42 : Fn := ⟨2, 4, [], 0,
  [.ret (.bi .any [.comp false [2, 3] (.and [.var 2, .cmp .gt (.var 3) (.lit (.int 0))]) (.tup [.name 2, .name 3]) (.zip [.var 0, .var 1]) []])]⟩
def f43 : Fn := ⟨3, 8, [], 0,
  [.ife (.cmp .eq (.call 42 [.var 0, .var 1]) (.call 42 [.var 0, .var 2])) [.ret (.tup [.var 1, .var 2])] [], .asg (.name 3) (.bm .index (.var 0) [.lit (.bl true)]), .asg (.name 4) (.bi .toTup [.comp false [5] (.ite (.cmp .eq (.var 5) (.var 3)) (.lit (.int 1)) (.lit (.int 0))) (.name 5) (.range [.bi .len [.var 0]]) []]), .ife (.call 42 [.var 0, .var 1]) [.ret (.tup [.var 1, .bi .toTup [.comp false [6, 7] (.bin .add (.var 6) (.var 7)) (.tup [.name 6, .name 7]) (.zip [.var 2, .var 4]) []]])] [], .ret (.tup [.bi .toTup [.comp false [6, 7] (.bin .add (.var 6) (.var 7)) (.tup [.name 6, .name 7]) (.zip [.var 1, .var 4]) []], .var 2])]⟩
def f44 : Fn := ⟨2, 6, [], 0,
  [.asg (.name 2) (.call 28 [.var 0, .lit (.int 12)]), .asg (.name 3) (.call 28 [.var 0, .bi .len [.var 1]]), .ife (.cmp .eq (.var 2) (.lit (.int 0))) [.ret (.li .toList false (.var 1))] [], .ife (.cmp .eq (.var 2) (.lit (.int 1))) [.ret (.bin .add (.var 1) (.tup [.lit (.int 0)]))] [], .ife (.cmp .eq (.var 2) (.lit (.int 2))) [.ret (.slc false (.var 1) (some (.lit (.int 1))) none)] [], .ife (.cmp .eq (.var 2) (.lit (.int 3))) [.ret (.bi .toTup [.comp false [5] (.bin .sub (.call 28 [.var 0, .lit (.int 7)]) (.lit (.int 3))) (.name 5) (.seq (.var 1)) []])] [], .ife (.cmp .eq (.var 2) (.lit (.int 4))) [.ret (.bi .toTup [.comp false [5] (.ite (.cmp .is (.var 5) (.lit .non)) (.lit .non) (.bin .mul (.neg (.lit (.int 3))) (.var 5))) (.name 5) (.seq (.var 1)) []])] [], .ife (.cmp .eq (.var 2) (.lit (.int 5))) [.ret (.lit .non)] [], .asg (.name 4) (.idx (.var 1) (.var 3)), .ife (.cmp .lt (.var 2) (.lit (.int 8))) [.asg (.name 4) (.ite (.cmp .is (.var 4) (.lit .non)) (.lit (.int 1)) (.bin .sub (.bin .add (.var 4) (.bin .mul (.lit (.int 2)) (.var 2))) (.lit (.int 13))))] [.ife (.cmp .lt (.var 2) (.lit (.int 11))) [.asg (.name 4) (.idx (.lst false [.lit .non, .lit (.int 0), .lit (.bl true)]) (.bin .sub (.var 2) (.lit (.int 8))))] [.asg (.name 4) (.tup [.lit (.int 1)])]], .ret (.bin .add (.bin .add (.slc false (.var 1) none (some (.var 3))) (.tup [.var 4])) (.slc false (.var 1) (some (.bin .add (.var 3) (.lit (.int 1)))) none))]⟩
def f19 : Fn := ⟨1, 22, [], 0,
  [.asg (.name 1) (.call 27 [.var 0]), .asg (.name 2) (.bin .add (.lit (.int 1)) (.call 28 [.var 1, .lit (.int 5)])), .asg (.name 3) (.cmp .gt (.call 28 [.var 1, .lit (.int 4)]) (.lit (.int 0))), .asg (.name 4) (.bin .mul (.lst false [.lit (.bl false)]) (.var 2)), .ife (.cmp .eq (.call 28 [.var 1, .lit (.int 2)]) (.lit (.int 1))) [.asg (.name 4) (.comp false [19] (.cmp .eq (.call 28 [.var 1, .lit (.int 3)]) (.lit (.int 1))) (.name 19) (.range [.var 2]) [])] [], .asg (.name 5) (.call 39 [.var 1, .var 2]), .asg (.name 6) (.lst true []), .forS (.name 7) (.range [.call 28 [.var 1, .lit (.int 7)]]) [.asg (.tup [.name 8, .name 9]) (.call 40 [.var 1, .var 5]), .expr (.bm .append (.var 6) [.call 43 [.var 4, .var 8, .var 9]])], .ife (.not (.var 3)) [.expr (.bm .append (.var 6) [.tup [.call 38 [.var 1, .var 2, .lit (.int 12)], .call 38 [.var 1, .var 2, .lit (.int 12)]]])] [], .asg (.name 10) (.make 3 [.var 2, .bi .toTup [.var 6]]), .asg (.name 11) (.bi .toTup [.comp false [20, 21] (.ite (.var 20) (.lit .non) (.var 21)) (.tup [.name 20, .name 21]) (.zip [.var 4, .var 5]) []]), .ife (.and [.var 3, .cmp .isnot (.call 35 [.var 10, .var 11]) (.lit (.bl true))]) [.ret (.lit (.bl false))] [], .forS (.name 12) (.range [.lit (.int 3)]) [.asg (.name 13) (.var 11), .ife (.cmp .gt (.var 12) (.lit (.int 0))) [.asg (.name 13) (.call 44 [.var 1, .var 11])] [], .asg (.name 14) (.call 36 [.var 2, .var 6, .var 13]), .asg (.name 15) (.call 35 [.var 10, .var 13]), .ife (.or [.not (.isi (.var 15) [.bool]), .cmp .ne (.var 15) (.var 14)]) [.ret (.lit (.bl false))] [], .ife (.var 14) [.asg (.name 16) (.call 38 [.var 1, .var 2, .lit (.int 8)]), .forS (.name 17) (.range [.lit (.int 6)]) [.asg (.name 18) (.call 37 [.var 1, .var 6, .var 16, .lit (.int 1)]), .ife (.cmp .ne (.call 26 [.var 13, .var 18]) (.call 26 [.var 13, .var 16])) [.ret (.lit (.bl false))] [], .asg (.name 16) (.var 18)]] []], .ret (.cmp .eq (.call 35 [.var 10, .var 11]) (.call 36 [.var 2, .var 6, .var 11]))]⟩
def f20 : Fn := ⟨3, 5, [], 0,
  [.ife (.or [.not (.call 0 [.var 1]), .not (.chain .le .le (.lit (.int 1)) (.var 1) (.glob 0))]) [.raise 1 [.var 1]] [], .ife (.or [.not (.isi (.var 2) [.tuple]), .cmp .gt (.bi .len [.var 2]) (.glob 1)]) [.raise 2 [.neg (.lit (.int 1))]] [], .forS (.tup [.name 3, .name 4]) (.enum (.var 2)) [.ife (.not (.call 2 [.var 1, .var 4])) [.raise 2 [.var 3]] []], .setf (.var 0) 0 (.var 1), .setf (.var 0) 2 (.var 2)]⟩
def fnL : List (Nat × Fn) := [(0, f0), (1, f1), (24, f24), (25, f25), (26, f26), (35, f35), (2, f2), (27, f27), (28, f28), (29, f29), (30, f30), (36, f36), (37, f37), (38, f38), (39, f39), (40, f40), (41, f41), (42, f42), (43, f43), (44, f44), (19, f19), (20, f20)]
def clsL : List (Nat × Cls) := [(0, ⟨true, [], none, true, []⟩), (4, ⟨true, [3], none, true, []⟩), (1, ⟨true, [0], none, true, []⟩), (2, ⟨true, [1], none, true, []⟩), (5, ⟨true, [], none, true, []⟩), (3, ⟨false, [0, 2], some 20, true, []⟩)]
def P : Prog := ⟨fun f => fnL.lookup f, fun c => clsL.lookup c, fun c d => ([(0, 0), (4, 4), (4, 0), (1, 1), (1, 0), (2, 2), (2, 0), (5, 5), (5, 0), (3, 3)] : List (Nat × Nat)).contains (c, d), fun i => ([(0, .int 5), (1, .int 8)] : List (Nat × D)).lookup i⟩
def isTop (f : Nat) : Bool := ([0, 1, 24, 25, 26, 35, 2, 27, 28, 29, 30, 36, 37, 38, 39, 40, 41, 42, 43, 44, 19] : List Nat).contains f
end Lk45
set_option autoImplicit false
set_option linter.all false
set_option maxRecDepth 10000
set_option maxHeartbeats 4000000
/-! S45a: k45: what is drawn: bags, hidden weights, even trades. -/
namespace MP
def dotI (ws bs : List Int) : Int := ((ws.zip bs).map fun p => p.1 * p.2).sum
theorem dotI_cons (w b : Int) (ws bs : List Int) : dotI (w :: ws) (b :: bs) = w * b + dotI ws bs := by simp [dotI]
theorem dot_set : ∀ (h l : List Int) (i : Nat) (w x a : Int), h.length = l.length → h[i]? = some w → l[i]? = some x → dotI h (l.set i (x + a)) = dotI h l + w * a
  | [], _, i, w, x, a, _, hw, _ => by simp at hw
  | _ :: _, [], i, w, x, a, hl, _, _ => by simp at hl
  | v :: h, y :: l, 0, w, x, a, hl, hw, hx => by
    simp at hw hx
    subst hw hx
    rw [List.set_cons_zero, dotI_cons, dotI_cons, Int.mul_add]
    omega
  | v :: h, y :: l, i + 1, w, x, a, hl, hw, hx => by
    rw [List.set_cons_succ, dotI_cons, dotI_cons, dot_set h l i w x a (by simpa using hl) (by simpa using hw) (by simpa using hx)]
    omega
theorem seqA {s : Sto} {n : Nat} (hn : n = s.length) (a b : List D) : seqOf (s ++ [.lst a, .lst b]) (.ref n) = some a := by subst hn; simp [seqOf]
theorem seqB {s : Sto} {n : Nat} (hn : n = s.length) (a b : List D) : seqOf (s ++ [.lst a, .lst b]) (.ref (n + 1)) = some b := by subst hn; simp [seqOf]
theorem setA {s : Sto} {n i : Nat} {j : Int} {a b : List D} (v : D) (hn : n = s.length) (hi : ixN a.length j = some i) : setI (s ++ [.lst a, .lst b]) (.ref n) (.int j) v = some (s ++ [.lst (a.set i v), .lst b]) := by
  subst hn; simp [setI, hi]
theorem setB {s : Sto} {n i : Nat} {j : Int} {a b : List D} (v : D) (hn : n = s.length) (hi : ixN b.length j = some i) : setI (s ++ [.lst a, .lst b]) (.ref (n + 1)) (.int j) v = some (s ++ [.lst a, .lst (b.set i v)]) := by
  subst hn; simp [setI, hi]
end MP
namespace Lk45
open MP
theorem nd : Nd P := by
  have all : ∀ p ∈ fnL, p.2.dfl = [] := by decide
  intro f fn h
  exact all (f, fn) (lookup_mem (show fnL.lookup f = some fn from h))
theorem bp : BagsP P := ⟨nd, rfl, rfl, rfl⟩
theorem wp : WeightsP P := ⟨bp, rfl, rfl⟩
theorem mp : MarketP P := ⟨bp, rfl, rfl, rfl, rfl⟩
theorem draw (k : Nat) (c : Cell) (r : Sto) (hc : StK c) (L : Int) (hL : 0 < L) (hL2 : L < 1073741824) : ∃ v c', MP.call P (k + 1) 28 [.ref 0, .int L] (c :: r) = .ok (.int v) (c' :: r) ∧ StK c' ∧ 0 ≤ v ∧ v < L := draw0 (P := P) rfl k c r hc L hL hL2
/-- a bag with numbers to top -/
def BagOk (n : Nat) (top : Int) (bs : List Int) : Prop := bs.length = n ∧ ∀ b ∈ bs, 0 ≤ b ∧ b ≤ top
theorem any_fn (k : Nat) (c : Cell) (r : Sto) (hc : StK c) (g top : Int) (h1 : 0 ≤ g) (h5 : g ≤ 5) (t0 : 0 ≤ top) (t1 : top ≤ 100) : ∃ bs c', MP.call P (k + 2) 38 [.ref 0, .int g, .int top] (c :: r) = .ok (bagD bs) (c' :: r) ∧ StK c' ∧ BagOk g.toNat top bs := by
  obtain ⟨vs, c', e, h2, h3, h4⟩ := drawn_comp (g := genv P (MP.call P (k + 1))) (m := false) (i := 3) (r := r) (elt := .bi .max2 [.lit (.int 0), .bin .sub (.call 28 [.var 0, .bin .add (.var 2) (.lit (.int 5))]) (.lit (.int 4))]) (env := [some (.ref 0), some (.int g), some (.int top), none]) (y := .var 1) (n := g) (Pr := In1 0 (top + 1)) hc (by simp) h1 (by omega) (fun d c hc => by
    obtain ⟨v, c1, q1, q2, q3, q4⟩ := draw k c r hc (top + 5) (by omega) (by omega)
    exact ⟨.int (if v - 4 > 0 then v - 4 else 0), c1, by simp [fillP nd, q1], q2, _, rfl, by split <;> omega, by split <;> omega⟩)
  obtain ⟨bs, rfl, h5⟩ := in1_ints h4
  rw [newL_f] at e
  rw [call_run (fn := f38) rfl]
  refine ⟨bs, c', (run_ret (s' := c' :: r) (v := bagD bs) rfl (show exB _ (_ :: _) [some (.ref 0), some (.int g), some (.int top), none] (c :: r) = _ from rt ?_)).trans (fin_set (s := c :: r) (p := 0) (stK_f h2) (bag_free bs)), h2, by simpa using h3, fun b hb => by have := h5 b hb; omega⟩
  rw [ex_ret, ev_bi, evs_cons, e]
  simp [bfn, seqOf, bagD]
theorem hidden_fn (k : Nat) (c : Cell) (r : Sto) (hc : StK c) (g : Int) (h1 : 0 ≤ g) (h5 : g ≤ 5) : ∃ (hs : List Int) (c' : Cell), MP.call P (k + 2) 39 [.ref 0, .int g] (c :: r) = .ok (.lst (hs.map D.int)) (c' :: r) ∧ StK c' ∧ hs.length = g.toNat ∧ ∀ w ∈ hs, -2 ≤ w ∧ w < 4 := by
  rw [call_run (fn := f39) rfl]
  obtain ⟨v, c1, q1, hc1, v0, v1⟩ := draw k c r hc 3 (by decide) (by decide)
  have fin : ∀ (elt : E) (st : List S) (lo hi : Int), (∀ d c, StK c → ∃ v c', evE (genv P (MP.call P (k + 1))) elt (setE (setE [some (.ref 0), some (.int g), none] 2 none) 2 (some d)) (c :: r) = .ok v (c' :: r) ∧ StK c' ∧ In1 (-2) 4 v) →
      (∀ vs c', evE (genv P (MP.call P (k + 1))) (.comp false [2] elt (.name 2) (.range [.var 1]) []) [some (.ref 0), some (.int g), none] (c1 :: r) = .ok (.lst vs) (c' :: r) → exB (genv P (MP.call P (k + 1))) f39.body [some (.ref 0), some (.int g), none] (c :: r) = .ret (.lst vs) (c' :: r)) →
      ∃ (hs : List Int) (c' : Cell), runFn (genv P (MP.call P (k + 1))) f39 [.ref 0, .int g] (c :: r) = .ok (.lst (hs.map D.int)) (c' :: r) ∧ StK c' ∧ hs.length = g.toNat ∧ ∀ w ∈ hs, -2 ≤ w ∧ w < 4 := fun elt st lo hi he hb => by
    obtain ⟨vs, c', e, h2, h3, h4⟩ := drawn_comp (g := genv P (MP.call P (k + 1))) (m := false) (i := 2) (r := r) (elt := elt) (env := [some (.ref 0), some (.int g), none]) (y := .var 1) (n := g) (Pr := In1 (-2) 4) hc1 (by simp) h1 (by omega) he
    obtain ⟨hs, rfl, h5⟩ := in1_ints h4
    rw [newL_f] at e
    exact ⟨hs, c', (run_ret rfl (hb _ _ e)).trans (fin_set (s := c :: r) (p := 0) (stK_f h2) (by simp only [D.free]; exact frees_ints _)), h2, by simpa using h3, h5⟩
  by_cases hv : v = 0
  · refine fin (.bin .sub (.call 28 [.var 0, .lit (.int 6)]) (.lit (.int 2))) [] 0 0 (fun d c hc => ?_) (fun vs c' e => ?_)
    · obtain ⟨u, c2, p1, p2, p3, p4⟩ := draw k c r hc 6 (by decide) (by decide)
      exact ⟨.int (u - 2), c2, by simp [fillP nd, p1], p2, _, rfl, by omega, by omega⟩
    · refine rt ?_
      simp only [ex_ife, ev_cmp, ev_call, gg_call, fillP nd, evs_cons, evs_nil, ev_var, ev_lit, getE_z, getE_s, R.opt_some, R.bind_ok, q1, cmp_eq_int, hv, decide_true, Option.map_some, R.sr_ok, truthy_bl, opt2_some, if_true, ex_cons, ex_ret, e, SR.seq_ret]
  · refine fin (.bin .add (.lit (.int 1)) (.call 28 [.var 0, .lit (.int 3)])) [] 0 0 (fun d c hc => ?_) (fun vs c' e => ?_)
    · obtain ⟨u, c2, p1, p2, p3, p4⟩ := draw k c r hc 3 (by decide) (by decide)
      exact ⟨.int (1 + u), c2, by simp [fillP nd, p1], p2, _, rfl, by omega, by omega⟩
    · refine nx (env' := [some (.ref 0), some (.int g), none]) (s' := c1 :: r) (by simp [fillP nd, q1, hv]) (rt ?_)
      rw [ex_ret, e]
      rfl
/-- an even trade by hidden weights -/
def Even (h l r : List Int) : Prop := l.length = h.length ∧ r.length = h.length ∧ (∀ b ∈ l, 0 ≤ b ∧ b ≤ 40) ∧ (∀ b ∈ r, 0 ≤ b ∧ b ≤ 40) ∧ dotI h l = dotI h r
theorem Even.symm {h l r : List Int} (e : Even h l r) : Even h r l := ⟨e.2.1, e.1, e.2.2.2.1, e.2.2.1, e.2.2.2.2.symm⟩
theorem mem_set {l : List Int} {top a : Int} {i : Nat} {x : Int} (h : ∀ b ∈ l, 0 ≤ b ∧ b ≤ top) (hx : l[i]? = some x) (a0 : 0 ≤ a) (t : Int) (ht : top + a ≤ t) : ∀ b ∈ l.set i (x + a), 0 ≤ b ∧ b ≤ t := fun b hb => by
  rcases List.mem_or_eq_of_mem_set hb with q | rfl
  · have := h b q; omega
  · have := h x (List.mem_of_getElem? hx); omega
theorem even_math (h l : List Int) (i j : Nat) (w u x y : Int) (a : Int) (ha0 : 0 ≤ a) (ha : a ≤ 3) (hl : l.length = h.length) (hb : ∀ b ∈ l, 0 ≤ b ∧ b ≤ 9) (hh : ∀ v ∈ h, -2 ≤ v ∧ v < 4) (hw : h[i]? = some w) (hu : h[j]? = some u) (hx : l[i]? = some x) (hy : l[j]? = some y) :
    (w = 0 → Even h (l.set i (x + a)) l) ∧ (0 < w * u → Even h (l.set i (x + (if u < 0 then -u else u))) (l.set j (y + (if w < 0 then -w else w)))) ∧
    (¬ 0 < w * u → w ≠ 0 → ∀ z, (l.set i (x + (if u < 0 then -u else u)))[j]? = some z → Even h ((l.set i (x + (if u < 0 then -u else u))).set j (z + (if w < 0 then -w else w))) l) := by
  have bw := hh w (List.mem_of_getElem? hw)
  have bu := hh u (List.mem_of_getElem? hu)
  have d1 := fun a => dot_set h l i w x a hl.symm hw hx
  have d2 := fun a => dot_set h l j u y a hl.symm hu hy
  have up : ∀ b ∈ l, 0 ≤ b ∧ b ≤ 40 := fun b q => by have := hb b q; omega
  have cw : w = -2 ∨ w = -1 ∨ w = 0 ∨ w = 1 ∨ w = 2 ∨ w = 3 := by omega
  have cu : u = -2 ∨ u = -1 ∨ u = 0 ∨ u = 1 ∨ u = 2 ∨ u = 3 := by omega
  refine ⟨fun h0 => ⟨by simp [hl], hl, mem_set hb hx ha0 40 (by omega), up, by rw [d1, h0]; omega⟩, fun hp => ⟨by simp [hl], by simp [hl], mem_set hb hx (by split <;> omega) 40 (by split <;> omega), mem_set hb hy (by split <;> omega) 40 (by split <;> omega), ?_⟩, fun hn h0 z hz => ?_⟩
  · rw [d1, d2]
    rcases cw with rfl | rfl | rfl | rfl | rfl | rfl <;> rcases cu with rfl | rfl | rfl | rfl | rfl | rfl <;> first | (exfalso; revert hp; decide) | (simp; done) | (simp; omega)
  · have l1 : (l.set i (x + (if u < 0 then -u else u))).length = h.length := by simp [hl]
    have b1 : ∀ b ∈ l.set i (x + (if u < 0 then -u else u)), 0 ≤ b ∧ b ≤ 20 := mem_set hb hx (by split <;> omega) 20 (by split <;> omega)
    refine ⟨by simp [hl], hl, mem_set b1 hz (by split <;> omega) 40 (by split <;> omega), up, ?_⟩
    rw [dot_set h _ j u z _ l1.symm hu hz, d1]
    rcases cw with rfl | rfl | rfl | rfl | rfl | rfl <;> rcases cu with rfl | rfl | rfl | rfl | rfl | rfl <;> first | (exfalso; revert hn; decide) | (exfalso; exact h0 rfl) | (simp; done) | (simp; omega)
end Lk45
set_option autoImplicit false
set_option linter.all false
set_option maxRecDepth 10000
set_option maxHeartbeats 4000000
/-! S45b: k45: even trades, filled ones. -/
namespace Lk45
open MP
theorem ixN_nat {n : Nat} {i : Int} (h0 : 0 ≤ i) (h1 : i < n) : ixN n i = some i.toNat := by unfold ixN; rw [if_pos h0, if_pos h1]
theorem setm (xs : List Int) (i : Nat) (v : Int) : (xs.map D.int).set i (.int v) = (xs.set i v).map D.int := by rw [List.map_set]
abbrev evTail : List S := [.ife (.cmp .eq (.var 3) (.lit (.int 1))) [.ret (.tup [.bi .toTup [.var 7], .bi .toTup [.var 6]])] [], .ret (.tup [.bi .toTup [.var 6], .bi .toTup [.var 7]])]
theorem even_fn (k : Nat) (c : Cell) (r : Sto) (hc : StK c) (h : List Int) (h1 : 1 ≤ h.length) (h5 : h.length ≤ 5) (hh : ∀ v ∈ h, -2 ≤ v ∧ v < 4) :
    ∃ l t c', MP.call P (k + 3) 40 [.ref 0, .lst (h.map D.int)] (c :: r) = .ok (.tup [bagD l, bagD t]) (c' :: r) ∧ StK c' ∧ Even h l t := by
  rw [call_run (fn := f40) rfl]
  obtain ⟨g, hg⟩ : ∃ g : Int, g = h.length := ⟨_, rfl⟩
  obtain ⟨fl, c1, q1, hc1, fl0, fl1⟩ := draw (k + 1) c r hc 2 (by decide) (by decide)
  obtain ⟨fi, c2, q2, hc2, fi0, fi1⟩ := draw (k + 1) c1 r hc1 g (by omega) (by omega)
  obtain ⟨m, hm⟩ : ∃ m : Int, m = (if g - 1 > 1 then g - 1 else 1) := ⟨_, rfl⟩
  obtain ⟨e, c3, q3, hc3, e0, e1⟩ := draw (k + 1) c2 r hc2 m (by rw [hm]; split <;> omega) (by rw [hm]; split <;> omega)
  obtain ⟨se, hse⟩ : ∃ se, se = (fi + 1 + e) % g := ⟨_, rfl⟩
  have hgp : (0 : Int) < g := by omega
  have se0 : 0 ≤ se := by rw [hse]; exact Int.emod_nonneg _ (by omega)
  have se1 : se < g := by rw [hse]; exact Int.emod_lt_of_pos _ hgp
  obtain ⟨l, c4, q4, hc4, ll, lb⟩ := any_fn k c3 r hc3 g 9 (by omega) (by omega) (by decide) (by decide)
  have ll : l.length = h.length := by omega
  have hlen : ∀ s, bfn s .len [.lst (h.map D.int)] = some (.int g) := fun s => by rw [hg]; simp [bfn, lenD, seqOf]
  obtain ⟨w, hw, iw⟩ := ix_ints (s := c4 :: r ++ [.lst (l.map D.int), .lst (l.map D.int)]) (d := .lst (h.map D.int)) (xs := h) rfl fi0 (by omega)
  obtain ⟨u, hu, iu⟩ := ix_ints (s := c4 :: r ++ [.lst (l.map D.int), .lst (l.map D.int)]) (d := .lst (h.map D.int)) (xs := h) rfl se0 (by omega)
  have iw' : ∀ s, indexS s (.lst (h.map D.int)) (.int fi) = some (.int w) := fun s => iw
  have iu' : ∀ s, indexS s (.lst (h.map D.int)) (.int se) = some (.int u) := fun s => iu
  obtain ⟨x, hx⟩ : ∃ x, l[fi.toNat]? = some x := ⟨_, List.getElem?_eq_getElem (by omega)⟩
  obtain ⟨y, hy⟩ : ∃ y, l[se.toNat]? = some y := ⟨_, List.getElem?_eq_getElem (by omega)⟩
  have bw := hh w (List.mem_of_getElem? hw)
  have hn : r.length + 1 = (c4 :: r).length := rfl
  have sq4 : lfn (c4 :: r) .toList (bagD l) = some (l.map D.int) := rfl
  have sqA : ∀ (c : Cell) (a b : List D), lfn (c :: r ++ [.lst a]) .toList (.ref (r.length + 1)) = some a := fun c a b => by simp [lfn, seqOf]
  -- behind the two lists
  have fin : ∀ (cz : Cell) (L T : List Int), StK cz → (Even h L T) → exB (genv P (MP.call P (k + 2))) (f40.body.drop 6) [some (.ref 0), some (.lst (h.map D.int)), some (.int g), some (.int fl), some (.int fi), some (.int se), some (.ref (r.length + 1)), some (.ref (r.length + 2))] (c4 :: r ++ [.lst (l.map D.int), .lst (l.map D.int)]) = exB (genv P (MP.call P (k + 2))) evTail [some (.ref 0), some (.lst (h.map D.int)), some (.int g), some (.int fl), some (.int fi), some (.int se), some (.ref (r.length + 1)), some (.ref (r.length + 2))] (cz :: r ++ [.lst (L.map D.int), .lst (T.map D.int)]) →
      ∃ l t c', runFn (genv P (MP.call P (k + 2))) f40 [.ref 0, .lst (h.map D.int)] (c :: r) = .ok (.tup [bagD l, bagD t]) (c' :: r) ∧ StK c' ∧ Even h l t := fun cz L T hcz hev hb => by
    have sA : seqOf (cz :: r ++ [.lst (L.map D.int), .lst (T.map D.int)]) (.ref (r.length + 1)) = some (L.map D.int) := seqA (s := cz :: r) rfl _ _
    have sB : seqOf (cz :: r ++ [.lst (L.map D.int), .lst (T.map D.int)]) (.ref (r.length + 2)) = some (T.map D.int) := seqB (s := cz :: r) (n := r.length + 1) rfl _ _
    have body : ∀ v, exB (genv P (MP.call P (k + 2))) evTail [some (.ref 0), some (.lst (h.map D.int)), some (.int g), some (.int fl), some (.int fi), some (.int se), some (.ref (r.length + 1)), some (.ref (r.length + 2))] (cz :: r ++ [.lst (L.map D.int), .lst (T.map D.int)]) = .ret v (cz :: r ++ [.lst (L.map D.int), .lst (T.map D.int)]) → v.free = true →
        runFn (genv P (MP.call P (k + 2))) f40 [.ref 0, .lst (h.map D.int)] (c :: r) = .ok v (cz :: r) := fun v hv hf => by
      refine (run_ret (s' := cz :: r ++ [.lst (L.map D.int), .lst (T.map D.int)]) (v := v) rfl (show exB _ (_ :: _ :: _ :: _ :: _ :: _ :: f40.body.drop 6) [some (.ref 0), some (.lst (h.map D.int)), none, none, none, none, none, none] (c :: r) = _ from ?_)).trans (fin0_head (stK_f hcz) hf)
      refine nx (env' := [some (.ref 0), some (.lst (h.map D.int)), some (.int g), none, none, none, none, none]) (s' := c :: r) (by simp [hlen]) ?_
      refine nx (env' := [some (.ref 0), some (.lst (h.map D.int)), some (.int g), some (.int fl), none, none, none, none]) (s' := c1 :: r) (by simp [fillP nd, q1]) ?_
      refine nx (env' := [some (.ref 0), some (.lst (h.map D.int)), some (.int g), some (.int fl), some (.int fi), none, none, none]) (s' := c2 :: r) (by simp [fillP nd, q2]) ?_
      refine nx (env' := [some (.ref 0), some (.lst (h.map D.int)), some (.int g), some (.int fl), some (.int fi), some (.int se), none, none]) (s' := c3 :: r) (by simp [fillP nd, ← hm, q3, bin_mod_int _ _ _ hgp, hse]) ?_
      refine nx (env' := [some (.ref 0), some (.lst (h.map D.int)), some (.int g), some (.int fl), some (.int fi), some (.int se), some (.ref (r.length + 1)), none]) (s' := c4 :: r ++ [.lst (l.map D.int)]) (by simp only [ex_asg, ev_li, ev_call, evs_cons, evs_nil, ev_var, ev_lit, getE_z, getE_s, R.opt_some, R.bind_ok, gg_call, fillP nd, q4, sq4, opt1_some, newL_t, R.sr_ok, asg_name, setE_z, setE_s, opt2_some, List.length_cons]) ?_
      refine nx (env' := [some (.ref 0), some (.lst (h.map D.int)), some (.int g), some (.int fl), some (.int fi), some (.int se), some (.ref (r.length + 1)), some (.ref (r.length + 2))]) (s' := c4 :: r ++ [.lst (l.map D.int), .lst (l.map D.int)]) ?_ (hb.trans hv)
      have := sqA c4 (l.map D.int) []
      simp only [List.cons_append] at this
      simp [this]
    by_cases hf : fl = 1
    · exact ⟨T, L, cz, body (.tup [bagD T, bagD L]) (by rw [show evTail = _ :: _ from rfl]; exact rt (by simp only [List.cons_append] at sA sB; simp [hf, bfn, sA, sB, bagD])) (by simp [D.free, D.frees, bag_free]), hcz, hev.symm⟩
    · refine ⟨L, T, cz, body (.tup [bagD L, bagD T]) (nx (env' := [some (.ref 0), some (.lst (h.map D.int)), some (.int g), some (.int fl), some (.int fi), some (.int se), some (.ref (r.length + 1)), some (.ref (r.length + 2))]) (s' := cz :: r ++ [.lst (L.map D.int), .lst (T.map D.int)]) (by simp [hf]) (rt ?_)) (by simp [D.free, D.frees, bag_free]), hcz, hev⟩
      simp only [List.cons_append] at sA sB
      simp [bfn, sA, sB, bagD]
  have ixA : ∀ (cz : Cell) (L T : List Int) (j : Int) (z : Int), 0 ≤ j → j < L.length → L[j.toNat]? = some z → indexS (cz :: r ++ [.lst (L.map D.int), .lst (T.map D.int)]) (.ref (r.length + 1)) (.int j) = some (.int z) := fun cz L T j z j0 j1 hz => by
    simp only [indexS, seqA (s := cz :: r) (n := r.length + 1) rfl, atI, List.length_map, ixN_nat j0 j1, Option.bind_some, List.getElem?_map, hz, Option.map_some]
  have ixB : ∀ (cz : Cell) (L T : List Int) (j : Int) (z : Int), 0 ≤ j → j < T.length → T[j.toNat]? = some z → indexS (cz :: r ++ [.lst (L.map D.int), .lst (T.map D.int)]) (.ref (r.length + 2)) (.int j) = some (.int z) := fun cz L T j z j0 j1 hz => by
    simp only [indexS, show r.length + 2 = r.length + 1 + 1 from rfl, seqB (s := cz :: r) (n := r.length + 1) rfl, atI, List.length_map, ixN_nat j0 j1, Option.bind_some, List.getElem?_map, hz, Option.map_some]
  have stA : ∀ (cz : Cell) (L T : List Int) (j v : Int), 0 ≤ j → j < L.length → setI (cz :: r ++ [.lst (L.map D.int), .lst (T.map D.int)]) (.ref (r.length + 1)) (.int j) (.int v) = some (cz :: r ++ [.lst ((L.set j.toNat v).map D.int), .lst (T.map D.int)]) := fun cz L T j v j0 j1 => by
    rw [setA (s := cz :: r) (n := r.length + 1) (i := j.toNat) (.int v) rfl (by rw [List.length_map]; exact ixN_nat j0 j1), setm]
  have stB : ∀ (cz : Cell) (L T : List Int) (j v : Int), 0 ≤ j → j < T.length → setI (cz :: r ++ [.lst (L.map D.int), .lst (T.map D.int)]) (.ref (r.length + 2)) (.int j) (.int v) = some (cz :: r ++ [.lst (L.map D.int), .lst ((T.set j.toNat v).map D.int)]) := fun cz L T j v j0 j1 => by
    rw [show r.length + 2 = r.length + 1 + 1 from rfl, setB (s := cz :: r) (n := r.length + 1) (i := j.toNat) (.int v) rfl (by rw [List.length_map]; exact ixN_nat j0 j1), setm]
  have fl1 : fi < l.length := by omega
  have sl1 : se < l.length := by omega
  have mwu : mulOk w u = true := mulOk_l (by omega) (by omega)
  simp only [List.cons_append] at ixA ixB stA stB fin
  by_cases w0 : w = 0
  · obtain ⟨d, c5, q5, hc5, d0, d1⟩ := draw (k + 1) c4 (r ++ [.lst (l.map D.int), .lst (l.map D.int)]) hc4 3 (by decide) (by decide)
    obtain ⟨m1, _, _⟩ := even_math h l fi.toNat se.toNat w u x y (1 + d) (by omega) (by omega) ll lb hh hw hu hx hy
    refine fin c5 (l.set fi.toNat (x + (1 + d))) l hc5 (m1 w0) (exB_nx (ife_t (s' := c4 :: (r ++ [.lst (l.map D.int), .lst (l.map D.int)])) (by simp [iw', w0]) (ex_one ?_)))
    simp [ixA _ _ _ _ _ fi0 fl1 hx, fillP nd, q5, stA _ _ _ _ _ fi0 fl1, Int.add_assoc, -List.map_set]
  · by_cases hwu : 0 < w * u
    · obtain ⟨_, m2, _⟩ := even_math h l fi.toNat se.toNat w u x y 0 (by omega) (by omega) ll lb hh hw hu hx hy
      refine fin c4 _ _ hc4 (m2 hwu) (exB_nx (ife_f (s' := c4 :: (r ++ [.lst (l.map D.int), .lst (l.map D.int)])) (by simp [iw', w0]) (ex_one (ife_t (s' := c4 :: (r ++ [.lst (l.map D.int), .lst (l.map D.int)])) (by simp [iw', iu', bin_mul_int, mwu, hwu]) ?_))))
      refine nx (env' := [some (.ref 0), some (.lst (h.map D.int)), some (.int g), some (.int fl), some (.int fi), some (.int se), some (.ref (r.length + 1)), some (.ref (r.length + 2))]) (s' := c4 :: (r ++ [.lst ((l.set fi.toNat (x + (if u < 0 then -u else u))).map D.int), .lst (l.map D.int)])) (by simp [iu', ixA _ _ _ _ _ fi0 fl1 hx, stA _ _ _ _ _ fi0 fl1, -List.map_set]) ?_
      exact ex_one (by simp [iw', ixB _ _ _ _ _ se0 sl1 hy, stB _ _ _ _ _ se0 sl1, -List.map_set])
    · obtain ⟨z, hz⟩ : ∃ z, (l.set fi.toNat (x + (if u < 0 then -u else u)))[se.toNat]? = some z := ⟨_, List.getElem?_eq_getElem (by simp; omega)⟩
      obtain ⟨_, _, m3⟩ := even_math h l fi.toNat se.toNat w u x y 0 (by omega) (by omega) ll lb hh hw hu hx hy
      have l1 : se < (l.set fi.toNat (x + (if u < 0 then -u else u))).length := by simp; omega
      have i2 := ixA c4 _ (l) se z se0 l1 hz
      have s2 := stA c4 (l.set fi.toNat (x + (if u < 0 then -u else u))) l se (z + (if w < 0 then -w else w)) se0 l1
      refine fin c4 _ _ hc4 (m3 hwu w0 z hz) (exB_nx (ife_f (s' := c4 :: (r ++ [.lst (l.map D.int), .lst (l.map D.int)])) (by simp [iw', w0]) (ex_one (ife_f (s' := c4 :: (r ++ [.lst (l.map D.int), .lst (l.map D.int)])) (by simp [iw', iu', bin_mul_int, mwu, hwu]) ?_))))
      refine nx (env' := [some (.ref 0), some (.lst (h.map D.int)), some (.int g), some (.int fl), some (.int fi), some (.int se), some (.ref (r.length + 1)), some (.ref (r.length + 2))]) (s' := c4 :: (r ++ [.lst ((l.set fi.toNat (x + (if u < 0 then -u else u))).map D.int), .lst (l.map D.int)])) (by simp [iu', ixA _ _ _ _ _ fi0 fl1 hx, stA _ _ _ _ _ fi0 fl1, -List.map_set]) ?_
      exact ex_one (by simp [iw', i2, s2, -List.map_set])
end Lk45
set_option autoImplicit false
set_option linter.all false
set_option maxRecDepth 10000
set_option maxHeartbeats 4000000
/-! S45c: k45: trades filled, weights kept. -/
namespace MP
/-- some of a flagged good -/
def touchB (fl : List Bool) (b : List Int) : Bool := (fl.zip b).any fun p => p.1 && decide (0 < p.2)
def touchD : D → D
  | .tup [.bl f, .int n] => .bl (f && decide (0 < n))
  | _ => .non
def wtsOf (fl : List Bool) (h : List Int) : List D := (fl.zip h).map fun p => if p.1 then .non else .int p.2
theorem touch_cons (f : Bool) (x : Int) (fl : List Bool) (b : List Int) : touchB (f :: fl) (x :: b) = ((f && decide (0 < x)) || touchB fl b) := by simp [touchB]
theorem worth_accW (ws : List D) (bs : List Int) (acc : Int) : worthL ws bs acc = (worthL ws bs 0).map fun x => acc + x := by
  induction ws generalizing bs acc with
  | nil => simp [worthL]
  | cons w ws ih =>
    cases bs with
    | nil => simp [worthL]
    | cons b bs =>
      simp only [worthL]
      split
      · cases w with
        | int i =>
          simp only
          rw [ih bs (acc + i * b), ih bs (0 + i * b), Option.map_map]
          congr 1
          funext x
          simp only [Function.comp]
          omega
        | _ => rfl
      · exact ih bs acc
theorem worth_wts : ∀ (fl : List Bool) (h b : List Int), fl.length = h.length → b.length = h.length → (∀ x ∈ b, 0 ≤ x) → worthL (wtsOf fl h) b 0 = if touchB fl b then none else some (dotI h b)
  | [], [], [], _, _, _ => by simp [worthL, touchB, dotI]
  | [], _ :: _, _, h1, _, _ => by simp at h1
  | _ :: _, [], _, h1, _, _ => by simp at h1
  | f :: fl, v :: h, [], _, h2, _ => by simp at h2
  | [], [], _ :: _, _, h2, _ => by simp at h2
  | f :: fl, v :: h, x :: b, h1, h2, h3 => by
    have ih := worth_wts fl h b (by simpa using h1) (by simpa using h2) fun y hy => h3 y (List.mem_cons_of_mem _ hy)
    have x0 := h3 x List.mem_cons_self
    have e : wtsOf (f :: fl) (v :: h) = (if f then .non else .int v) :: wtsOf fl h := by simp [wtsOf]
    rw [e, touch_cons, dotI_cons]
    simp only [worthL]
    by_cases hx : 0 < x
    · cases f with
      | true => simp [hx]
      | false =>
        simp only [hx, if_true, Bool.false_eq_true, if_false, Bool.false_and, Bool.false_or]
        rw [worth_accW, ih]
        split <;> simp
    · have ex : x = 0 := by omega
      subst ex
      simp only [hx, if_false, decide_false, Bool.and_false, Bool.false_or, Int.mul_zero, Int.zero_add]
      rw [ih]
theorem touch_comp {g : G} {s : Sto} {fl : List Bool} {b : List Int} (hl : fl.length ≤ 1000) :
    evE g (.comp false [2, 3] (.and [.var 2, .cmp .gt (.var 3) (.lit (.int 0))]) (.tup [.name 2, .name 3]) (.zip [.var 0, .var 1]) []) [some (.lst (fl.map D.bl)), some (bagD b), none, none] s = .ok (.lst (((fl.zip b).map fun p => p.1 && decide (0 < p.2)).map D.bl)) s := by
  have e : ((fl.zip b).map fun p => p.1 && decide (0 < p.2)).map D.bl = (((fl.map D.bl).zip (b.map D.int)).map fun p => D.tup [p.1, p.2]).map touchD := by
    rw [List.zip_map, List.map_map, List.map_map, List.map_map]
    rfl
  rw [e]
  refine (ev_comp_map touchD (evI_zip2 (d1 := .lst (fl.map D.bl)) (d2 := bagD b) (s1 := s) (s2 := s) (by simp) (by simp) rfl rfl) (by rfl) ?_ (fun d hd => ?_)).trans (newL_f _ _)
  · rw [List.length_map, List.length_zip, List.length_map]
    show _ ≤ 16777216
    omega
  · obtain ⟨⟨a', b'⟩, hp, rfl⟩ := List.mem_map.mp hd
    obtain ⟨p1, p2⟩ := List.of_mem_zip hp
    obtain ⟨x, _, rfl⟩ := List.mem_map.mp p1
    obtain ⟨y, _, rfl⟩ := List.mem_map.mp p2
    refine ⟨[some (.lst (fl.map D.bl)), some (bagD b), some (.bl x), some (.int y)], by simp, ?_⟩
    cases x <;> simp [touchD]
theorem touch_mem {fl : List Bool} {b : List Int} (h : touchB fl b = true) : fl.any id = true := by
  unfold touchB at h
  rw [List.any_eq_true] at h ⊢
  obtain ⟨⟨f, x⟩, hp, hq⟩ := h
  simp only [Bool.and_eq_true] at hq
  exact ⟨f, (List.of_mem_zip hp).1, hq.1⟩
theorem findI_bl : ∀ (fl : List Bool) (n : Nat), fl.any id = true → ∃ j, findI (.bl true) n (fl.map D.bl) = some (n + j) ∧ fl[j]? = some true
  | [], _, h => by simp at h
  | f :: fl, n, h => by
    cases f with
    | true => exact ⟨0, by simp [findI, eqv], rfl⟩
    | false =>
      obtain ⟨j, h1, h2⟩ := findI_bl fl (n + 1) (by simpa using h)
      exact ⟨j + 1, by simp [findI, eqv, h1]; omega, by simpa using h2⟩
def unitI (n j : Nat) : List Int := (List.range n).map fun i => if i = j then 1 else 0
theorem touch_unit {fl : List Bool} {b : List Int} {j : Nat} (h : fl[j]? = some true) (hl : b.length = fl.length) (hb : ∀ x ∈ b, 0 ≤ x) : touchB fl (addI b (unitI fl.length j)) = true := by
  have hj := (List.getElem?_eq_some_iff.mp h).1
  unfold touchB
  rw [List.any_eq_true]
  obtain ⟨x, hx⟩ : ∃ x, b[j]? = some x := ⟨_, List.getElem?_eq_getElem (by omega)⟩
  have hu : (unitI fl.length j)[j]? = some 1 := by simp [unitI, hj]
  have ha : (addI b (unitI fl.length j))[j]? = some (x + 1) := by
    unfold addI
    rw [List.getElem?_map, (List.getElem?_zip_eq_some (z := (x, 1))).mpr ⟨hx, hu⟩]
    rfl
  refine ⟨(true, x + 1), List.mem_of_getElem? (i := j) (List.getElem?_zip_eq_some (z := (true, x + 1)) |>.mpr ⟨h, ha⟩), ?_⟩
  have := hb x (List.mem_of_getElem? hx)
  simp
  omega
theorem addI_len' {a b : List Int} (h : a.length = b.length) : (addI a b).length = a.length := by simp [addI, h]
theorem addI_bd {a b : List Int} {L M : Int} (ha : ∀ x ∈ a, 0 ≤ x ∧ x ≤ L) (hb : ∀ x ∈ b, 0 ≤ x ∧ x ≤ M) : ∀ x ∈ addI a b, 0 ≤ x ∧ x ≤ L + M := fun x hx => by
  obtain ⟨⟨y, z⟩, hp, rfl⟩ := List.mem_map.mp hx
  obtain ⟨h1, h2⟩ := List.of_mem_zip hp
  have := ha y h1
  have := hb z h2
  constructor <;> (simp only; omega)
theorem unit_bd (n j : Nat) : ∀ x ∈ unitI n j, 0 ≤ x ∧ x ≤ 1 := fun x hx => by
  obtain ⟨i, _, rfl⟩ := List.mem_map.mp hx
  split <;> omega
/-- elementwise, as the text does it -/
theorem zip_comp {g : G} {env : Env} {s : Sto} {x y : E} {d1 d2 : D} {i j : Nat} {o : BOp} (op : Int → Int → Int) (a b : List Int) (h1 : evE g x env s = .ok d1 s) (h2 : evE g y env s = .ok d2 s) (q1 : seqOf s d1 = some (a.map D.int)) (q2 : seqOf s d2 = some (b.map D.int)) (hl : a.length ≤ 1000)
    (he : ∀ u v : D, ∃ env', asgT (.tup [.name i, .name j]) (.tup [u, v]) (wipeE env [i, j]) = some env' ∧ getE env' i = some u ∧ getE env' j = some v) (ho : ∀ u v, binop s o (.int u) (.int v) = some (.int (op u v))) :
    evE g (.comp false [i, j] (.bin o (.var i) (.var j)) (.tup [.name i, .name j]) (.zip [x, y]) []) env s = .ok (.lst (((a.zip b).map fun p => op p.1 p.2).map D.int)) s := by
  let f : D → D := fun d => match d with
    | .tup [.int u, .int v] => .int (op u v)
    | _ => .non
  have e : ((a.zip b).map fun p => op p.1 p.2).map D.int = (((a.map D.int).zip (b.map D.int)).map fun p => D.tup [p.1, p.2]).map f := by
    rw [List.zip_map, List.map_map, List.map_map, List.map_map]
    rfl
  rw [e]
  refine (ev_comp_map f (evI_zip2 (d1 := d1) (d2 := d2) (s1 := s) (s2 := s) h1 h2 q1 q2) (by rw [stands_append, stands_of q1, stands_of q2]; rfl) ?_ (fun d hd => ?_)).trans (newL_f _ _)
  · rw [List.length_map, List.length_zip, List.length_map]
    show _ ≤ 16777216
    omega
  · obtain ⟨⟨a', b'⟩, hp, rfl⟩ := List.mem_map.mp hd
    obtain ⟨p1, p2⟩ := List.of_mem_zip hp
    obtain ⟨u, _, rfl⟩ := List.mem_map.mp p1
    obtain ⟨v, _, rfl⟩ := List.mem_map.mp p2
    obtain ⟨env', z1, z2, z3⟩ := he (.int u) (.int v)
    exact ⟨env', z1, by simp [z2, z3, ho]; rfl⟩
end MP
namespace Lk45
open MP
theorem touched_fn (k : Nat) (fl : List Bool) (b : List Int) (s : Sto) (hl : fl.length ≤ 1000) : MP.call P (k + 1) 42 [.lst (fl.map D.bl), bagD b] s = .ok (.bl (touchB fl b)) s := by
  rw [call_run (fn := f42) rfl]
  have hc := touch_comp (g := genv P (MP.call P k)) (s := s) (fl := fl) (b := b) hl
  refine (run_ret (s' := s) (v := .bl (touchB fl b)) rfl (show exB _ (_ :: _) [some (.lst (fl.map D.bl)), some (bagD b), none, none] s = _ from rt ?_)).trans (fin0_bl s _)
  rw [ex_ret, ev_bi, evs_cons, hc]
  simp only [R.bind_ok, evs_nil, bfn, lstOf, Option.bind_some, blsOf_map, Option.map_some, R.opt_some, R.sr_ok, touchB, List.any_map]
  rfl
/-- a trade that weights keep, to be filled or not -/
def Kept (fl : List Bool) (h l r : List Int) : Prop := l.length = h.length ∧ r.length = h.length ∧ (∀ b ∈ l, 0 ≤ b ∧ b ≤ 41) ∧ (∀ b ∈ r, 0 ≤ b ∧ b ≤ 41) ∧ worthL (wtsOf fl h) l 0 = worthL (wtsOf fl h) r 0
theorem filled_fn (k : Nat) (fl : List Bool) (h l r : List Int) (s : Sto) (hf : fl.length = h.length) (h5 : h.length ≤ 5) (he : Even h l r) : ∃ l' r', MP.call P (k + 2) 43 [.lst (fl.map D.bl), bagD l, bagD r] s = .ok (.tup [bagD l', bagD r']) s ∧ Kept fl h l' r' := by
  obtain ⟨e1, e2, e3, e4, e5⟩ := he
  have t1 := touched_fn k fl l s (by omega)
  have t2 := touched_fn k fl r s (by omega)
  rw [call_run (fn := f43) rfl]
  have n1 : ∀ x ∈ l, 0 ≤ x := fun x hx => (e3 x hx).1
  have n2 : ∀ x ∈ r, 0 ≤ x := fun x hx => (e4 x hx).1
  have wl := worth_wts fl h l hf e1 n1
  have wr := worth_wts fl h r hf e2 n2
  have fin : ∀ (l' r' : List Int), exB (genv P (MP.call P (k + 1))) f43.body [some (.lst (fl.map D.bl)), some (bagD l), some (bagD r), none, none, none, none, none] s = .ret (.tup [bagD l', bagD r']) s → Kept fl h l' r' →
      ∃ l' r', runFn (genv P (MP.call P (k + 1))) f43 [.lst (fl.map D.bl), bagD l, bagD r] s = .ok (.tup [bagD l', bagD r']) s ∧ Kept fl h l' r' := fun l' r' hb hk =>
    ⟨l', r', (run_ret rfl hb).trans (fin_same (.inl rfl) (by simp [D.free, D.frees, bag_free])), hk⟩
  by_cases ht : touchB fl l = touchB fl r
  · refine fin l r (rt (by simp [fillP nd, t1, t2, ht])) ⟨e1, e2, fun b hb => by have := e3 b hb; omega, fun b hb => by have := e4 b hb; omega, ?_⟩
    rw [wl, wr, ht, e5]
  · have hany : fl.any id = true := by
      cases hl : touchB fl l with
      | true => exact touch_mem hl
      | false =>
        cases hr : touchB fl r with
        | true => exact touch_mem hr
        | false => exact absurd (hl.trans hr.symm) ht
    obtain ⟨j, hj1, hj2⟩ := findI_bl fl 0 hany
    rw [Nat.zero_add] at hj1
    have hix : bmf s .index (.lst (fl.map D.bl)) [.bl true] = .ok (.int j) s := by
      have hfl : (fl.map D.bl).all flat = true := by simp [List.all_eq_true, flat]
      simp [bmf, lstOf, flat, hfl, hj1]
    obtain ⟨gI, hgI⟩ : ∃ g : Int, g = fl.length := ⟨_, rfl⟩
    have hlen : bfn s .len [.lst (fl.map D.bl)] = some (.int gI) := by rw [hgI]; simp [bfn, lenD, seqOf]
    have hun : evE (genv P (MP.call P (k + 1))) (.comp false [5] (.ite (.cmp .eq (.var 5) (.var 3)) (.lit (.int 1)) (.lit (.int 0))) (.name 5) (.range [.bi .len [.var 0]]) []) [some (.lst (fl.map D.bl)), some (bagD l), some (bagD r), some (.int j), none, none, none, none] s = .ok (.lst ((unitI fl.length j).map D.int)) s := by
      let f : D → D := fun d => match d with
        | .int i => if i = j then .int 1 else .int 0
        | _ => .non
      have e : (unitI fl.length j).map D.int = (rangeD 0 gI.toNat).map f := by
        have e0 : gI.toNat = fl.length := by omega
        rw [e0]
        simp only [unitI, rangeD, List.map_map]
        congr 1
        funext i
        simp only [Function.comp, f, Int.zero_add]
        by_cases hi : i = j
        · simp [hi]
        · have : ¬ (i : Int) = j := by omega
          simp [hi, this]
      rw [e]
      refine (ev_comp_map f (evI_range1 (by simp [hlen]) (by unfold smallI; simp; omega)) (by rfl) (by simp [rangeD]; show _ ≤ 16777216; omega) (fun d hd => ?_)).trans (newL_f _ _)
      simp only [rangeD, List.mem_map] at hd
      obtain ⟨i, _, rfl⟩ := hd
      refine ⟨_, by simp; rfl, ?_⟩
      by_cases hi : (0 + (i : Int)) = j
      · simp only [f, hi, if_true]; simp; omega
      · simp only [f, hi, if_false]; simp; omega
    have ul : (unitI fl.length j).length = fl.length := by simp [unitI]
    obtain ⟨U, hU⟩ : ∃ U, U = unitI fl.length j := ⟨_, rfl⟩
    have ub := unit_bd fl.length j
    rw [← hU] at hun ul ub
    have cz : ∀ (b : List Int) (x : E), b.length = h.length → evE (genv P (MP.call P (k + 1))) x [some (.lst (fl.map D.bl)), some (bagD l), some (bagD r), some (.int j), some (bagD U), none, none, none] s = .ok (bagD b) s → evE (genv P (MP.call P (k + 1))) (.comp false [6, 7] (.bin .add (.var 6) (.var 7)) (.tup [.name 6, .name 7]) (.zip [x, .var 4]) []) [some (.lst (fl.map D.bl)), some (bagD l), some (bagD r), some (.int j), some (bagD U), none, none, none] s = .ok (.lst ((addI b U).map D.int)) s := fun b x hb hx =>
      zip_comp (d1 := bagD b) (d2 := bagD U) (fun u v => u + v) b U hx (by simp) rfl rfl (by omega) (fun u v => ⟨_, by simp; rfl, by simp, by simp⟩) (fun u v => rfl)
    have head : ∀ z, exB (genv P (MP.call P (k + 1))) (f43.body.drop 3) [some (.lst (fl.map D.bl)), some (bagD l), some (bagD r), some (.int j), some (bagD U), none, none, none] s = z → exB (genv P (MP.call P (k + 1))) f43.body [some (.lst (fl.map D.bl)), some (bagD l), some (bagD r), none, none, none, none, none] s = z := fun z hz => by
      show exB _ (_ :: _ :: _ :: f43.body.drop 3) _ _ = _
      refine nx (env' := [some (.lst (fl.map D.bl)), some (bagD l), some (bagD r), none, none, none, none, none]) (s' := s) (by simp [fillP nd, t1, t2, ht]) ?_
      refine nx (env' := [some (.lst (fl.map D.bl)), some (bagD l), some (bagD r), some (.int j), none, none, none, none]) (s' := s) (by simp [lstOf, hix]) ?_
      refine nx (env' := [some (.lst (fl.map D.bl)), some (bagD l), some (bagD r), some (.int j), some (bagD U), none, none, none]) (s' := s) ?_ hz
      rw [ex_asg, ev_bi, evs_cons, hun]
      simp [bfn, seqOf, bagD]
    cases htl : touchB fl l with
    | true =>
      have tu := touch_unit (b := r) hj2 (by omega) n2
      rw [← hU] at tu
      have bd := addI_bd (L := 40) (M := 1) e4 ub
      have len := addI_len' (a := r) (b := U) (by omega)
      refine fin l (addI r U) (head _ (rt ?_)) ⟨e1, by omega, fun b hb => by have := e3 b hb; omega, fun b hb => by have := bd b hb; omega, ?_⟩
      · have c2 := cz r (.var 2) e2 (by simp)
        refine ife_t (s' := s) (by simp [fillP nd, t1, htl]) (rt ?_)
        simp only [ex_ret, ev_tup, evs_cons, evs_nil, ev_var, getE_z, getE_s, R.opt_some, R.bind_ok, ev_bi, c2]
        simp [bfn, seqOf, bagD]
      · rw [wl, worth_wts fl h (addI r U) hf (by omega) fun x hx => (bd x hx).1, htl, tu]
        rfl
    | false =>
      have htr : touchB fl r = true := by
        cases hr : touchB fl r with
        | true => rfl
        | false => exact absurd (htl.trans hr.symm) ht
      have tu := touch_unit (b := l) hj2 (by omega) n1
      rw [← hU] at tu
      have bd := addI_bd (L := 40) (M := 1) e3 ub
      have len := addI_len' (a := l) (b := U) (by omega)
      refine fin (addI l U) r (head _ (nx (env' := [some (.lst (fl.map D.bl)), some (bagD l), some (bagD r), some (.int j), some (bagD U), none, none, none]) (s' := s) (ife_f (s' := s) (by simp [fillP nd, t1, htl]) (ex_nil _ _ _)) (rt ?_))) ⟨by omega, e2, fun b hb => by have := bd b hb; omega, fun b hb => by have := e4 b hb; omega, ?_⟩
      · have c2 := cz l (.var 1) e1 (by simp)
        simp only [ex_ret, ev_tup, evs_cons, evs_nil, ev_var, getE_z, getE_s, R.opt_some, R.bind_ok, ev_bi, c2]
        simp [bfn, seqOf, bagD]
      · rw [wr, worth_wts fl h (addI l U) hf (by omega) fun x hx => (bd x hx).1, htr, tu]
        rfl
end Lk45
set_option autoImplicit false
set_option linter.all false
set_option maxRecDepth 10000
set_option maxHeartbeats 4000000
/-! S45d: k45: weights kept by trades. -/
namespace MP
def prD (p : List Int × List Int) : D := .tup [bagD p.1, bagD p.2]
/-- a trade that weights do not keep -/
def offT (ws : List D) : D → Bool
  | .tup [.tup xs, .tup ys] => match intsOf xs, intsOf ys with
    | some a, some b => !decide (worthL ws a 0 = worthL ws b 0)
    | _, _ => false
  | _ => false
theorem off_pr (ws : List D) (p : List Int × List Int) : offT ws (prD p) = !decide (worthL ws p.1 0 = worthL ws p.2 0) := by simp [offT, prD, bagD]
def keptB (tr : List (List Int × List Int)) : D → Bool
  | .tup ws => tr.all fun p => decide (worthL ws p.1 0 = worthL ws p.2 0)
  | _ => true
theorem off_any (ws : List D) (tr : List (List Int × List Int)) : (tr.map prD).any (offT ws) = !keptB tr (.tup ws) := by
  rw [List.any_map, keptB, List.any_eq_not_all_not]
  congr 2
  funext p
  simp [off_pr]
theorem ne_opt (s : Sto) (a b : Option Int) : cmpop s .ne (optD a) (optD b) = some (!decide (a = b)) := by
  cases a <;> cases b <;> simp [cmpop, eqD, dataOf, optD, eqv]
  rename_i x y
  by_cases h : x = y <;> simp [h]
theorem isWD_tup {g : Int} {d : D} (h : isWD g d = true) : ∃ ws, d = .tup ws ∧ (ws.length : Int) = g ∧ ∀ w ∈ ws, wD w = true := by
  cases d <;> simp only [isWD] at h <;> first | (cases h; done) | skip
  rename_i xs
  simp only [Bool.and_eq_true, decide_eq_true_eq, List.all_eq_true] at h
  exact ⟨xs, rfl, h.1, h.2⟩
end MP
namespace Lk45
open MP
abbrev SmlT (tr : List (List Int × List Int)) : Prop := ∀ p ∈ tr, sml p.1 ∧ sml p.2
theorem kept_fn (k : Nat) (gd : Int) (tr : List (List Int × List Int)) (d : D) (s : Sto) (hd : Ty2 s d) (hs : SmlT tr) : MP.call P (k + 2) 35 [.rcd 3 [.int gd, .tup (tr.map prD)], d] s = .ok (.bl (isWD gd d && keptB tr d)) s := by
  rw [call_run (fn := f35) rfl]
  have hw := isWeights_fn (P := P) (k := k) (f := 24) rfl gd d s hd
  have hf0 : field (genv P (MP.call P (k + 1))) s (.rcd 3 [.int gd, .tup (tr.map prD)]) 0 = some (.int gd) := rfl
  have hf2 : field (genv P (MP.call P (k + 1))) s (.rcd 3 [.int gd, .tup (tr.map prD)]) 2 = some (.tup (tr.map prD)) := rfl
  have fin : ∀ b, exB (genv P (MP.call P (k + 1))) f35.body [some (.rcd 3 [.int gd, .tup (tr.map prD)]), some d, none, none] s = .ret (.bl b) s → (isWD gd d && keptB tr d) = b → runFn (genv P (MP.call P (k + 1))) f35 [.rcd 3 [.int gd, .tup (tr.map prD)], d] s = .ok (.bl (isWD gd d && keptB tr d)) s := fun b hb e => by
    rw [e]
    exact (run_ret rfl hb).trans (fin0_bl s b)
  cases h : isWD gd d with
  | false =>
    rw [h] at hw fin
    exact fin false (rt (by simp [hf0, fillP nd, hw])) rfl
  | true =>
    rw [h] at hw fin
    obtain ⟨ws, rfl, hl, hws⟩ := isWD_tup h
    have hit : evI (genv P (MP.call P (k + 1))) (.seq (.fld (.var 0) 2)) [some (.rcd 3 [.int gd, .tup (tr.map prD)]), some (.tup ws), none, none] s = .ok (tr.map prD, []) s := evI_seq (d := .tup (tr.map prD)) (by simp [hf2]) rfl
    have lp := for_until (step := bodyF (genv P (MP.call P (k + 1))) (.tup [.name 2, .name 3]) [.ife (.cmp .ne (.call 25 [.var 1, .var 2]) (.call 25 [.var 1, .var 3])) [.ret (.lit (.bl false))] []]) (gd := []) (s := s) (I := fun env => ∃ x y, env = [some (.rcd 3 [.int gd, .tup (tr.map prD)]), some (.tup ws), x, y]) (offT ws) (.bl false) (by rfl) (xs := tr.map prD) (fun z hz env ⟨x, y, he⟩ => by
      subst he
      obtain ⟨p, hp, rfl⟩ := List.mem_map.mp hz
      have q1 := worthOf_fn (P := P) (k := k) (f := 25) (.inl rfl) rfl ws p.1 s hws (hs p hp).1
      have q2 := worthOf_fn (P := P) (k := k) (f := 25) (.inl rfl) rfl ws p.2 s hws (hs p hp).2
      rw [off_pr]
      refine ⟨fun c => ?_, fun c => ⟨[some (.rcd 3 [.int gd, .tup (tr.map prD)]), some (.tup ws), some (bagD p.1), some (bagD p.2)], ⟨_, _, rfl⟩, ?_⟩⟩
      · simp [bodyF, prD, fillP nd, q1, q2, ne_opt] at c ⊢
        simp [c]
      · simp [bodyF, prD, fillP nd, q1, q2, ne_opt] at c ⊢
        simp [c]) (env := [some (.rcd 3 [.int gd, .tup (tr.map prD)]), some (.tup ws), none, none]) ⟨none, none, rfl⟩
    rw [off_any] at lp
    refine fin (keptB tr (.tup ws)) (nx (env' := [some (.rcd 3 [.int gd, .tup (tr.map prD)]), some (.tup ws), none, none]) (s' := s) (by simp [hf0, fillP nd, hw]) ?_) rfl
    cases ha : keptB tr (.tup ws) with
    | false => exact rt ((ex_for hit).trans (lp.1 (by simp [ha])))
    | true =>
      obtain ⟨env', ⟨x, y, rfl⟩, he⟩ := lp.2 (by simp [ha])
      exact nx ((ex_for hit).trans he) (rt (by simp))
theorem keeps_fn (k : Nat) (gd : Int) (tr : List (List Int × List Int)) (t d : D) (s : Sto) (ht : seqOf s t = some (tr.map prD)) (hstr : ∀ x, t ≠ .str x) (hd : Ty2 s d) (hs : SmlT tr) : MP.call P (k + 2) 36 [.int gd, t, d] s = .ok (.bl (isWD gd d && keptB tr d)) s := by
  rw [call_run (fn := f36) rfl]
  have hty := ty_tup (g := genv P (MP.call P (k + 1))) hd.1
  have fin : ∀ b, exB (genv P (MP.call P (k + 1))) f36.body [some (.int gd), some t, some d, none, none, none] s = .ret (.bl b) s → (isWD gd d && keptB tr d) = b → runFn (genv P (MP.call P (k + 1))) f36 [.int gd, t, d] s = .ok (.bl (isWD gd d && keptB tr d)) s := fun b hb e => by
    rw [e]
    exact (run_ret rfl hb).trans (fin0_bl s b)
  by_cases hA : isTupD d = true
  case neg =>
    have hA : isTupD d = false := by simpa using hA
    rw [hA] at hty
    exact fin false (rt (by simp [hty])) (by cases d <;> first | rfl | cases hA)
  obtain ⟨ws, rfl⟩ := isTup_of hA
  rw [hA] at hty
  by_cases hl : (ws.length : Int) = gd
  case neg => exact fin false (rt (by simp [hty, len_tup, hl])) (by simp [isWD, hl])
  have hit1 : evI (genv P (MP.call P (k + 1))) (.seq (.var 2)) [some (.int gd), some t, some (.tup ws), none, none, none] s = .ok (ws, []) s := evI_seq (d := .tup ws) (by simp) rfl
  have lp1 := for_until (step := bodyF (genv P (MP.call P (k + 1))) (.name 3) [.ife (.and [.cmp .isnot (.var 3) (.lit .non), .not (.call 29 [.var 3])]) [.ret (.lit (.bl false))] []]) (gd := []) (s := s) (I := fun env => ∃ x, env = [some (.int gd), some t, some (.tup ws), x, none, none]) (fun x => !wD x) (.bl false) (by rfl) (xs := ws) (fun z hz env ⟨x, he⟩ => by
    subst he
    have q := whole_fn (P := P) (k := k) (f := 29) rfl z s (hd.2 ws rfl z hz)
    refine ⟨fun c => ?_, fun c => ⟨[some (.int gd), some t, some (.tup ws), some z, none, none], ⟨_, rfl⟩, ?_⟩⟩
    · cases z <;> simp only [isIntD] at q <;> first | (simp [wD] at c; done) | simp [bodyF, isnot_non, fillP nd, q]
    · cases z <;> simp only [isIntD] at q <;> first | (simp [wD] at c; done) | simp [bodyF, isnot_non, fillP nd, q]) (env := [some (.int gd), some t, some (.tup ws), none, none, none]) ⟨none, rfl⟩
  have hv : isWD gd (.tup ws) = !(ws.any fun x => !wD x) := by simp [isWD, hl, List.any_eq_not_all_not]
  have n0 : ∀ {z}, exB (genv P (MP.call P (k + 1))) (f36.body.drop 1) [some (.int gd), some t, some (.tup ws), none, none, none] s = z → exB (genv P (MP.call P (k + 1))) f36.body [some (.int gd), some t, some (.tup ws), none, none, none] s = z := fun hz => by
    show exB _ (_ :: f36.body.drop 1) _ _ = _
    exact nx (env' := [some (.int gd), some t, some (.tup ws), none, none, none]) (s' := s) (by simp [hty, len_tup, hl]) hz
  cases ha : ws.any fun x => !wD x with
  | true =>
    refine fin false (n0 (rt ((ex_for hit1).trans (lp1.1 ha)))) (by rw [hv, ha]; rfl)
  | false =>
    obtain ⟨env', ⟨x0, rfl⟩, he⟩ := lp1.2 ha
    have hws : ∀ w ∈ ws, wD w = true := fun w hw => by
      have := (List.any_eq_false.mp ha) w hw
      simpa using this
    have hit : evI (genv P (MP.call P (k + 1))) (.seq (.var 1)) [some (.int gd), some t, some (.tup ws), x0, none, none] s = .ok (tr.map prD, guardOf t (tr.map prD)) s := evI_seq (d := t) (by simp) ht
    have lp := for_until (step := bodyF (genv P (MP.call P (k + 1))) (.tup [.name 4, .name 5]) [.ife (.cmp .ne (.call 30 [.var 2, .var 4]) (.call 30 [.var 2, .var 5])) [.ret (.lit (.bl false))] []]) (gd := guardOf t (tr.map prD)) (s := s) (I := fun env => ∃ x y, env = [some (.int gd), some t, some (.tup ws), x0, x, y]) (offT ws) (.bl false) (stands_of ht) (xs := tr.map prD) (fun z hz env ⟨x, y, he⟩ => by
      subst he
      obtain ⟨p, hp, rfl⟩ := List.mem_map.mp hz
      have q1 := worthOf_fn (P := P) (k := k) (f := 30) (.inr rfl) rfl ws p.1 s hws (hs p hp).1
      have q2 := worthOf_fn (P := P) (k := k) (f := 30) (.inr rfl) rfl ws p.2 s hws (hs p hp).2
      rw [off_pr]
      refine ⟨fun c => ?_, fun c => ⟨[some (.int gd), some t, some (.tup ws), x0, some (bagD p.1), some (bagD p.2)], ⟨_, _, rfl⟩, ?_⟩⟩
      · simp [bodyF, prD, fillP nd, q1, q2, ne_opt] at c ⊢
        simp [c]
      · simp [bodyF, prD, fillP nd, q1, q2, ne_opt] at c ⊢
        simp [c]) (env := [some (.int gd), some t, some (.tup ws), x0, none, none]) ⟨none, none, rfl⟩
    rw [off_any] at lp
    have hiw : isWD gd (.tup ws) = true := by rw [hv, ha]; rfl
    rw [hiw] at fin ⊢
    refine fin (keptB tr (.tup ws)) (n0 (nx ((ex_for hit1).trans he) ?_)) rfl
    cases hb : keptB tr (.tup ws) with
    | false => exact rt ((ex_for hit).trans (lp.1 (by simp [hb])))
    | true =>
      obtain ⟨env', ⟨x, y, rfl⟩, he⟩ := lp.2 (by simp [hb])
      exact nx ((ex_for hit).trans he) (rt (by simp))
end Lk45
set_option autoImplicit false
set_option linter.all false
set_option maxRecDepth 10000
set_option maxHeartbeats 4000000
/-! S45e: k45: steps. -/
namespace MP
def lin (f : D → Int) : List D → List Int → Int
  | w :: ws, b :: bs => f w * b + lin f ws bs
  | _, _ => 0
def stepB (b x y : List Int) : List Int := (((b.zip x).map fun p => p.1 - p.2).zip y).map fun p => p.1 + p.2
theorem lin_step (f : D → Int) : ∀ (ws : List D) (b x y : List Int), x.length = b.length → y.length = b.length → lin f ws (stepB b x y) = lin f ws b - lin f ws x + lin f ws y
  | [], _, _, _, _, _ => by simp [lin]
  | w :: ws, [], [], [], _, _ => by simp [lin, stepB]
  | w :: ws, b :: bs, x :: xs, y :: ys, h1, h2 => by
    have ih := lin_step f ws bs xs ys (by simpa using h1) (by simpa using h2)
    have e : stepB (b :: bs) (x :: xs) (y :: ys) = (b - x + y) :: stepB bs xs ys := by simp [stepB]
    rw [e]
    simp only [lin]
    rw [ih, Int.mul_add, Int.mul_sub]
    omega
  | _ :: _, [], _ :: _, _, h, _ => by simp at h
  | _ :: _, [], [], _ :: _, _, h => by simp at h
  | _ :: _, _ :: _, [], _, h, _ => by simp at h
  | _ :: _, _ :: _, _ :: _, [], _, h => by simp at h
theorem lin_sub (f : D → Int) : ∀ (ws : List D) (b x : List Int), x.length = b.length → lin f ws ((b.zip x).map fun p => p.1 - p.2) = lin f ws b - lin f ws x
  | [], _, _, _ => by simp [lin]
  | w :: ws, [], [], _ => by simp [lin]
  | w :: ws, b :: bs, x :: xs, h1 => by
    have ih := lin_sub f ws bs xs (by simpa using h1)
    simp only [List.zip_cons_cons, List.map_cons, lin]
    rw [ih, Int.mul_sub]
    omega
  | _ :: _, [], _ :: _, h => by simp at h
  | _ :: _, _ :: _, [], h => by simp at h
theorem lin_nn (f : D → Int) (hf : ∀ d, 0 ≤ f d) : ∀ (ws : List D) (b : List Int), (∀ v ∈ b, 0 ≤ v) → 0 ≤ lin f ws b
  | [], _, _ => by simp [lin]
  | _ :: _, [], _ => by simp [lin]
  | w :: ws, b :: bs, h => by
    have ih := lin_nn f hf ws bs fun v hv => h v (List.mem_cons_of_mem _ hv)
    have := Int.mul_nonneg (hf w) (h b List.mem_cons_self)
    simp only [lin]
    omega
def fN : D → Int
  | .int _ => 0
  | _ => 1
def fV : D → Int
  | .int i => i
  | _ => 0
theorem fN_nn (d : D) : 0 ≤ fN d := by cases d <;> simp [fN]
theorem worth_lin : ∀ (ws : List D) (b : List Int) (acc : Int), (∀ v ∈ b, 0 ≤ v) → worthL ws b acc = if 0 < lin fN ws b then none else some (acc + lin fV ws b)
  | [], _, acc, _ => by simp [worthL, lin]
  | _ :: _, [], acc, _ => by simp [worthL, lin]
  | w :: ws, b :: bs, acc, h => by
    have hb := fun v hv => h v (List.mem_cons_of_mem b hv)
    have b0 := h b List.mem_cons_self
    have ih := fun acc => worth_lin ws bs acc hb
    have nn := lin_nn fN fN_nn ws bs hb
    simp only [worthL, lin]
    by_cases h0 : 0 < b
    · rw [if_pos h0]
      cases w with
      | int i =>
        simp only [fN, fV, Int.zero_mul, Int.zero_add]
        rw [ih, Int.add_assoc]
      | _ =>
        simp only [fN, Int.one_mul]
        rw [if_pos (by omega)]
    · have : b = 0 := by omega
      subst this
      rw [if_neg h0, ih]
      simp
/-- a step that weights keep keeps the worth -/
theorem worth_step (ws : List D) (b x y : List Int) (h1 : x.length = b.length) (h2 : y.length = b.length) (hb : ∀ v ∈ b, 0 ≤ v) (hx : ∀ v ∈ x, 0 ≤ v) (hy : ∀ v ∈ y, 0 ≤ v) (hd : ∀ v ∈ (b.zip x).map fun p => p.1 - p.2, 0 ≤ v) (hs : ∀ v ∈ stepB b x y, 0 ≤ v)
    (e : worthL ws x 0 = worthL ws y 0) : worthL ws (stepB b x y) 0 = worthL ws b 0 := by
  rw [worth_lin ws x 0 hx, worth_lin ws y 0 hy] at e
  rw [worth_lin ws _ 0 hs, worth_lin ws b 0 hb]
  have l1 := lin_step fN ws b x y h1 h2
  have l2 := lin_step fV ws b x y h1 h2
  have l3 := lin_sub fN ws b x h1
  have n1 := lin_nn fN fN_nn ws _ hd
  have n2 := lin_nn fN fN_nn ws x hx
  have n3 := lin_nn fN fN_nn ws y hy
  have n4 := lin_nn fN fN_nn ws b hb
  by_cases c1 : 0 < lin fN ws x
  · rw [if_pos c1] at e
    by_cases c2 : 0 < lin fN ws y
    · rw [if_pos (by omega), if_pos (by omega)]
    · rw [if_neg c2] at e; cases e
  · rw [if_neg c1] at e
    by_cases c2 : 0 < lin fN ws y
    · rw [if_pos c2] at e; cases e
    · rw [if_neg c2] at e
      simp only [Option.some.injEq] at e
      have : lin fN ws (stepB b x y) = lin fN ws b := by omega
      rw [this]
      split
      · rfl
      · congr 1; omega
theorem minI_le : ∀ (ns : List Int) (n : Int), minI n ns ≤ n ∧ ∀ v ∈ ns, minI n ns ≤ v
  | [], n => ⟨by simp [minI], fun v h => by cases h⟩
  | m :: ns, n => by
    have ih := minI_le ns (if m < n then m else n)
    have i1 : (if m < n then m else n) ≤ n ∧ (if m < n then m else n) ≤ m := by split <;> omega
    simp only [minI]
    refine ⟨by omega, fun v hv => ?_⟩
    rcases List.mem_cons.mp hv with rfl | hv
    · omega
    · exact ih.2 v hv
theorem maxI_ge : ∀ (ns : List Int) (n : Int), n ≤ maxI n ns ∧ ∀ v ∈ ns, v ≤ maxI n ns
  | [], n => ⟨by simp [maxI], fun v h => by cases h⟩
  | m :: ns, n => by
    have ih := maxI_ge ns (if n < m then m else n)
    have i1 : n ≤ (if n < m then m else n) ∧ m ≤ (if n < m then m else n) := by split <;> omega
    simp only [maxI]
    refine ⟨by omega, fun v hv => ?_⟩
    rcases List.mem_cons.mp hv with rfl | hv
    · omega
    · exact ih.2 v hv
theorem min_ok (s : Sto) (l : List Int) (h : l ≠ []) : ∃ m, bfn s .minL [.lst (l.map D.int)] = some (.int m) ∧ ∀ v ∈ l, m ≤ v := by
  cases l with
  | nil => exact absurd rfl h
  | cons n ns =>
    refine ⟨minI n ns, ?_, fun v hv => ?_⟩
    · have := intsOf_map (n :: ns)
      simp only [bfn, lstOf, Option.bind_some, this]
    · rcases List.mem_cons.mp hv with rfl | hv
      · exact (minI_le ns _).1
      · exact (minI_le ns _).2 v hv
theorem max_ok (s : Sto) (l : List Int) (h : l ≠ []) : ∃ m, bfn s .maxL [.lst (l.map D.int)] = some (.int m) ∧ ∀ v ∈ l, v ≤ m := by
  cases l with
  | nil => exact absurd rfl h
  | cons n ns =>
    refine ⟨maxI n ns, ?_, fun v hv => ?_⟩
    · have := intsOf_map (n :: ns)
      simp only [bfn, lstOf, Option.bind_some, this]
    · rcases List.mem_cons.mp hv with rfl | hv
      · exact (maxI_ge ns _).1
      · exact (maxI_ge ns _).2 v hv
end MP
namespace Lk45
open MP
/-- a bag, or the bag after one trade -/
def Stp (tr : List (List Int × List Int)) (b b' : List Int) : Prop := b' = b ∨ ∃ p ∈ tr, ∃ x y, ((x = p.1 ∧ y = p.2) ∨ (x = p.2 ∧ y = p.1)) ∧ b' = stepB b x y ∧ (∀ v ∈ (b.zip x).map fun p => p.1 - p.2, 0 ≤ v) ∧ ∀ v ∈ b', v ≤ 12
theorem stepped_fn (k : Nat) (c : Cell) (r : Sto) (hc : StK c) (tr : List (List Int × List Int)) (b : List Int) (ht : ∀ c, seqOf (c :: r) (.ref 1) = some (tr.map prD)) (hl : tr.length ≤ 1000) (hb : 1 ≤ b.length) (h5 : b.length ≤ 5) (hp : ∀ p ∈ tr, p.1.length = b.length ∧ p.2.length = b.length) :
    ∃ b' c', MP.call P (k + 2) 37 [.ref 0, .ref 1, bagD b, .int 1] (c :: r) = .ok (bagD b') (c' :: r) ∧ StK c' ∧ Stp tr b b' := by
  rw [call_run (fn := f37) rfl]
  obtain ⟨n, hn⟩ : ∃ n : Int, n = tr.length := ⟨_, rfl⟩
  have hlen : ∀ c, bfn (c :: r) .len [.ref 1] = some (.int n) := fun c => by rw [hn]; simp [bfn, lenD, ht]
  have hit : ∀ env, getE env 3 = some (.int 1) → evI (genv P (MP.call P (k + 1))) (.range [.var 3]) env (c :: r) = .ok ([.int 0], []) (c :: r) := fun env he => evI_range1 (n := 1) (by simp [he]) (by decide)
  -- one turn, then the return
  have fin : ∀ (b' : List Int) (c' : Cell) (env' : Env), StK c' → Stp tr b b' → getE env' 2 = some (bagD b') → bodyF (genv P (MP.call P (k + 1))) (.name 4) [.ife (.cmp .gt (.bi .len [.var 1]) (.lit (.int 0))) [.asg (.name 5) (.idx (.var 1) (.call 28 [.var 0, .bi .len [.var 1]])), .asg (.name 6) (.call 28 [.var 0, .lit (.int 2)]), .asg (.name 7) (.comp false [8, 9] (.bin .sub (.var 8) (.var 9)) (.tup [.name 8, .name 9]) (.zip [.var 2, .idx (.var 5) (.var 6)]) []), .ife (.cmp .ge (.bi .minL [.var 7]) (.lit (.int 0))) [.asg (.name 7) (.comp false [8, 10] (.bin .add (.var 8) (.var 10)) (.tup [.name 8, .name 10]) (.zip [.var 7, .idx (.var 5) (.bin .sub (.lit (.int 1)) (.var 6))]) []), .ife (.cmp .le (.bi .maxL [.var 7]) (.lit (.int 12))) [.asg (.name 2) (.bi .toTup [.var 7])] []] []] []] (.int 0) [some (.ref 0), some (.ref 1), some (bagD b), some (.int 1), none, none, none, none, none, none, none] (c :: r) = .nx env' (c' :: r) →
      ∃ b' c', runFn (genv P (MP.call P (k + 1))) f37 [.ref 0, .ref 1, bagD b, .int 1] (c :: r) = .ok (bagD b') (c' :: r) ∧ StK c' ∧ Stp tr b b' := fun b' c' env' h1 h2 h3 h4 => by
    refine ⟨b', c', (run_ret (s' := c' :: r) (v := bagD b') rfl (show exB _ (_ :: _) [some (.ref 0), some (.ref 1), some (bagD b), some (.int 1), none, none, none, none, none, none, none] (c :: r) = _ from ?_)).trans (fin_set (s := c :: r) (p := 0) (stK_f h1) (bag_free b')), h1, h2⟩
    refine nx (env' := env') (s' := c' :: r) ((ex_for (hit _ rfl)).trans ?_) (rt (by simp [h3]))
    rw [for_nx (by rfl) h4, for_nil (by rfl)]
  by_cases h0 : 0 < n
  case neg =>
    exact fin b c [some (.ref 0), some (.ref 1), some (bagD b), some (.int 1), some (.int 0), none, none, none, none, none, none] hc (.inl rfl) rfl (by simp [bodyF, hlen, h0])
  obtain ⟨ti, c1, q1, hc1, t0, t1⟩ := draw k c r hc n h0 (by omega)
  obtain ⟨si, c2, q2, hc2, s0, s1⟩ := draw k c1 r hc1 2 (by decide) (by decide)
  obtain ⟨z, hz, ix⟩ := ix_ok (ht c1) t0 (by rw [List.length_map]; omega)
  rw [List.getElem?_map] at hz
  obtain ⟨p, hp', rfl⟩ : ∃ p, tr[ti.toNat]? = some p ∧ z = prD p := by
    cases hq : tr[ti.toNat]? with
    | none => rw [hq] at hz; cases hz
    | some p => rw [hq] at hz; cases hz; exact ⟨p, rfl, rfl⟩
  have pm := List.mem_of_getElem? hp'
  obtain ⟨p1, p2⟩ := hp p pm
  obtain ⟨x, y, hxy, ix1, ix2⟩ : ∃ x y, ((x = p.1 ∧ y = p.2) ∨ (x = p.2 ∧ y = p.1)) ∧ indexS (c2 :: r) (prD p) (.int si) = some (bagD x) ∧ indexS (c2 :: r) (prD p) (.int (1 - si)) = some (bagD y) := by
    have : si = 0 ∨ si = 1 := by omega
    rcases this with rfl | rfl
    · exact ⟨p.1, p.2, .inl ⟨rfl, rfl⟩, rfl, rfl⟩
    · exact ⟨p.2, p.1, .inr ⟨rfl, rfl⟩, rfl, rfl⟩
  have lx : x.length = b.length := by rcases hxy with ⟨rfl, rfl⟩ | ⟨rfl, rfl⟩ <;> assumption
  have ly : y.length = b.length := by rcases hxy with ⟨rfl, rfl⟩ | ⟨rfl, rfl⟩ <;> assumption
  obtain ⟨u, hu⟩ : ∃ u, u = (b.zip x).map fun p => p.1 - p.2 := ⟨_, rfl⟩
  have lu : u.length = b.length := by rw [hu]; simp [lx]
  obtain ⟨mn, m1, m2⟩ := min_ok (c2 :: r) u (by rintro rfl; simp at lu; omega)
  obtain ⟨v, hv⟩ : ∃ v, v = (u.zip y).map fun p => p.1 + p.2 := ⟨_, rfl⟩
  have hv' : v = stepB b x y := by rw [hv, hu]; rfl
  have lv : v.length = b.length := by rw [hv]; simp [lu, ly]
  obtain ⟨mx, n1, n2⟩ := max_ok (c2 :: r) v (by rintro rfl; simp at lv; omega)
  have e1 := zip_comp (g := genv P (MP.call P (k + 1))) (s := c2 :: r) (env := [some (.ref 0), some (.ref 1), some (bagD b), some (.int 1), some (.int 0), some (prD p), some (.int si), none, none, none, none]) (x := .var 2) (y := .idx (.var 5) (.var 6)) (d1 := bagD b) (d2 := bagD x) (i := 8) (j := 9) (o := .sub) (fun u v => u - v) b x (by simp) (by simp [ix1]) rfl rfl (by omega) (fun u v => ⟨_, by simp; rfl, by simp, by simp⟩) (fun u v => rfl)
  rw [← hu] at e1
  have e2 := zip_comp (g := genv P (MP.call P (k + 1))) (s := c2 :: r) (env := [some (.ref 0), some (.ref 1), some (bagD b), some (.int 1), some (.int 0), some (prD p), some (.int si), some (.lst (u.map D.int)), none, none, none]) (x := .var 7) (y := .idx (.var 5) (.bin .sub (.lit (.int 1)) (.var 6))) (d1 := .lst (u.map D.int)) (d2 := bagD y) (i := 8) (j := 10) (o := .add) (fun u v => u + v) u y (by simp) (by simp [ix2]) rfl rfl (by omega) (fun u v => ⟨_, by simp; rfl, by simp, by simp⟩) (fun u v => rfl)
  rw [← hv] at e2
  have body : ∀ env' z, exS (genv P (MP.call P (k + 1))) (.ife (.cmp .ge (.bi .minL [.var 7]) (.lit (.int 0))) [.asg (.name 7) (.comp false [8, 10] (.bin .add (.var 8) (.var 10)) (.tup [.name 8, .name 10]) (.zip [.var 7, .idx (.var 5) (.bin .sub (.lit (.int 1)) (.var 6))]) []), .ife (.cmp .le (.bi .maxL [.var 7]) (.lit (.int 12))) [.asg (.name 2) (.bi .toTup [.var 7])] []] []) [some (.ref 0), some (.ref 1), some (bagD b), some (.int 1), some (.int 0), some (prD p), some (.int si), some (.lst (u.map D.int)), none, none, none] (c2 :: r) = .nx env' z →
      bodyF (genv P (MP.call P (k + 1))) (.name 4) [.ife (.cmp .gt (.bi .len [.var 1]) (.lit (.int 0))) [.asg (.name 5) (.idx (.var 1) (.call 28 [.var 0, .bi .len [.var 1]])), .asg (.name 6) (.call 28 [.var 0, .lit (.int 2)]), .asg (.name 7) (.comp false [8, 9] (.bin .sub (.var 8) (.var 9)) (.tup [.name 8, .name 9]) (.zip [.var 2, .idx (.var 5) (.var 6)]) []), .ife (.cmp .ge (.bi .minL [.var 7]) (.lit (.int 0))) [.asg (.name 7) (.comp false [8, 10] (.bin .add (.var 8) (.var 10)) (.tup [.name 8, .name 10]) (.zip [.var 7, .idx (.var 5) (.bin .sub (.lit (.int 1)) (.var 6))]) []), .ife (.cmp .le (.bi .maxL [.var 7]) (.lit (.int 12))) [.asg (.name 2) (.bi .toTup [.var 7])] []] []] []] (.int 0) [some (.ref 0), some (.ref 1), some (bagD b), some (.int 1), none, none, none, none, none, none, none] (c :: r) = .nx env' z := fun env' z hz => by
    show opt2 (some _) _ = _
    refine ex_one (ife_t (s' := c :: r) (by simp [hlen, h0]) ?_)
    refine nx (env' := [some (.ref 0), some (.ref 1), some (bagD b), some (.int 1), some (.int 0), some (prD p), none, none, none, none, none]) (s' := c1 :: r) (by simp [fillP nd, hlen, q1, ix]) ?_
    refine nx (env' := [some (.ref 0), some (.ref 1), some (bagD b), some (.int 1), some (.int 0), some (prD p), some (.int si), none, none, none, none]) (s' := c2 :: r) (by simp [fillP nd, q2]) ?_
    refine nx (env' := [some (.ref 0), some (.ref 1), some (bagD b), some (.int 1), some (.int 0), some (prD p), some (.int si), some (.lst (u.map D.int)), none, none, none]) (s' := c2 :: r) (by rw [ex_asg, e1]; simp) ?_
    exact ex_one hz
  by_cases g1 : 0 ≤ mn
  case neg =>
    refine fin b c2 _ hc2 (.inl rfl) ?_ (body _ _ (ife_f (s' := c2 :: r) (by simp [m1, g1]) (ex_nil _ _ _)))
    rfl
  by_cases g2 : mx ≤ 12
  · refine fin v c2 [some (.ref 0), some (.ref 1), some (bagD v), some (.int 1), some (.int 0), some (prD p), some (.int si), some (.lst (v.map D.int)), none, none, none] hc2 (.inr ⟨p, pm, x, y, hxy, hv', fun w hw => ?_, fun w hw => ?_⟩) rfl (body _ _ (ife_t (s' := c2 :: r) (by simp [m1, g1]) ?_))
    · rw [← hu] at hw; have := m2 w hw; omega
    · have := n2 w hw; omega
    · refine nx (env' := [some (.ref 0), some (.ref 1), some (bagD b), some (.int 1), some (.int 0), some (prD p), some (.int si), some (.lst (v.map D.int)), none, none, none]) (s' := c2 :: r) (by rw [ex_asg, e2]; simp) ?_
      exact ex_one (ife_t (s' := c2 :: r) (by simp [n1, g2]) (ex_one (by simp [bfn, seqOf, bagD])))
  · refine fin b c2 [some (.ref 0), some (.ref 1), some (bagD b), some (.int 1), some (.int 0), some (prD p), some (.int si), some (.lst (v.map D.int)), none, none, none] hc2 (.inl rfl) rfl (body _ _ (ife_t (s' := c2 :: r) (by simp [m1, g1]) ?_))
    refine nx (env' := [some (.ref 0), some (.ref 1), some (bagD b), some (.int 1), some (.int 0), some (prD p), some (.int si), some (.lst (v.map D.int)), none, none, none]) (s' := c2 :: r) (by rw [ex_asg, e2]; simp) ?_
    exact ex_one (ife_f (s' := c2 :: r) (by simp [n1, g2]) (ex_nil _ _ _))
end Lk45
set_option autoImplicit false
set_option linter.all false
set_option maxRecDepth 10000
set_option maxHeartbeats 4000000
/-! S45f: k45: weights changed. -/
namespace MP
/-- whole, none, true, (1,) -/
def plB : D → Bool
  | .non => true
  | .int _ => true
  | .bl _ => true
  | .tup [.int _] => true
  | _ => false
theorem pl_f {d : D} (h : plB d = true) : d.free = true ∧ ∀ s, Ty1 s d := by
  unfold plB at h
  split at h <;> first | exact ⟨rfl, fun s => trivial⟩ | (cases h; done)
theorem pl_w {d : D} (h : wD d = true) : plB d = true := by cases d <;> first | rfl | cases h
/-- a thing free of cells whose kind can be asked -/
def Thg (d : D) : Prop := d.free = true ∧ ∀ s, Ty2 s d
theorem thg_tup {xs : List D} (h : ∀ x ∈ xs, plB x = true) : Thg (.tup xs) := ⟨by simp only [D.free]; exact frees_of fun x hx => (pl_f (h x hx)).1, fun s => ⟨trivial, fun ys e x hx => by cases e; exact (pl_f (h x hx)).2 s⟩⟩
end MP
namespace Lk45
open MP
theorem changed_fn (k : Nat) (c : Cell) (r : Sto) (hc : StK c) (ws : List D) (h1 : 1 ≤ ws.length) (h5 : ws.length ≤ 5) (hw : ∀ w ∈ ws, wD w = true) : ∃ d c', MP.call P (k + 2) 44 [.ref 0, .tup ws] (c :: r) = .ok d (c' :: r) ∧ StK c' ∧ Thg d := by
  rw [call_run (fn := f44) rfl]
  obtain ⟨kd, c1, q1, hc1, k0, k1⟩ := draw k c r hc 12 (by decide) (by decide)
  obtain ⟨pl, c2, q2, hc2, p0, p1⟩ := draw k c1 r hc1 (ws.length : Int) (by omega) (by omega)
  obtain ⟨g, hg⟩ : ∃ g : Int, g = ws.length := ⟨_, rfl⟩
  have hlen : ∀ s, bfn s .len [.tup ws] = some (.int g) := fun s => by rw [hg]; rfl
  rw [← hg] at q2 p1
  have hpl := fun w hw' => pl_w (hw w hw')
  have fin : ∀ (d : D) (c3 : Cell), StK c3 → exB (genv P (MP.call P (k + 1))) (f44.body.drop 2) [some (.ref 0), some (.tup ws), some (.int kd), some (.int pl), none, none] (c2 :: r) = .ret d (c3 :: r) → Thg d →
      ∃ d c', runFn (genv P (MP.call P (k + 1))) f44 [.ref 0, .tup ws] (c :: r) = .ok d (c' :: r) ∧ StK c' ∧ Thg d := fun d c3 hc3 hb hf => by
    refine ⟨d, c3, (run_ret (s' := c3 :: r) (v := d) rfl (show exB _ (_ :: _ :: f44.body.drop 2) [some (.ref 0), some (.tup ws), none, none, none, none] (c :: r) = _ from ?_)).trans (fin_set (s := c :: r) (p := 0) (stK_f hc3) hf.1), hc3, hf⟩
    refine nx (env' := [some (.ref 0), some (.tup ws), some (.int kd), none, none, none]) (s' := c1 :: r) (by simp [fillP nd, q1]) ?_
    exact nx (env' := [some (.ref 0), some (.tup ws), some (.int kd), some (.int pl), none, none]) (s' := c2 :: r) (by simp [fillP nd, hlen, q2]) hb
  have hk : kd = 0 ∨ kd = 1 ∨ kd = 2 ∨ kd = 3 ∨ kd = 4 ∨ kd = 5 ∨ 6 ≤ kd := by omega
  rcases hk with rfl | rfl | rfl | rfl | rfl | rfl | hk
  · exact fin (.lst ws) c2 hc2 (by simp [f44, lfn, seqOf]) ⟨(thg_tup hpl).1, fun s => ⟨trivial, fun xs e => by cases e⟩⟩
  · have a1 := bin_add_tup (c2 :: r) ws [.int 0] (by simp; omega)
    refine fin (.tup (ws ++ [.int 0])) c2 hc2 (by simp [f44, a1]) (thg_tup fun x hx => ?_)
    rcases List.mem_append.mp hx with h | h
    · exact hpl x h
    · rw [List.mem_singleton.mp h]; rfl
  · have a1 := cut_drop ws 1 (by decide) (by omega)
    exact fin (.tup (ws.drop 1)) c2 hc2 (by simp [f44, evo_some, slF, a1, -List.drop_one]) (thg_tup fun x hx => hpl x (List.mem_of_mem_drop hx))
  · obtain ⟨vs, c3, e1, hc3, l3, v3⟩ := drawn_loop (step := stepF [5] (.name 5) (evAnd (genv P (MP.call P (k + 1))) []) (evE (genv P (MP.call P (k + 1))) (.bin .sub (.call 28 [.var 0, .lit (.int 7)]) (.lit (.int 3)))) [some (.ref 0), some (.tup ws), some (.int 3), some (.int pl), none, none]) (r := r) (Pr := fun d => plB d = true) (fun d c hc => by
      obtain ⟨v, c', z1, z2, _, _⟩ := draw k c r hc 7 (by decide) (by decide)
      exact ⟨.int (v - 3), c', by simp [stepF, fillP nd, z1], z2, rfl⟩) ws c2 hc2
    have e := ev_comp (m := false) (evI_seq (g := genv P (MP.call P (k + 1))) (e := .var 1) (env := [some (.ref 0), some (.tup ws), some (.int 3), some (.int pl), none, none]) (d := .tup ws) (s := c2 :: r) (s' := c2 :: r) (by simp) rfl) e1 (by rw [l3]; show _ ≤ 16777216; omega)
    refine fin (.tup vs) c3 hc3 ?_ (thg_tup v3)
    show exB _ (_ :: _ :: _ :: _ :: _) _ _ = _
    refine nx (env' := [some (.ref 0), some (.tup ws), some (.int 3), some (.int pl), none, none]) (s' := c2 :: r) (by simp) ?_
    refine nx (env' := [some (.ref 0), some (.tup ws), some (.int 3), some (.int pl), none, none]) (s' := c2 :: r) (by simp) ?_
    refine nx (env' := [some (.ref 0), some (.tup ws), some (.int 3), some (.int pl), none, none]) (s' := c2 :: r) (by simp) ?_
    refine rt (ife_t (s' := c2 :: r) (by simp) (rt ?_))
    rw [ex_ret, ev_bi, evs_cons, e]
    simp [bfn, seqOf]
  · let f : D → D := fun d => match d with
      | .int i => .int (-3 * i)
      | _ => .non
    have e := ev_comp_map (m := false) (g := genv P (MP.call P (k + 1))) (own := [5]) (elt := .ite (.cmp .is (.var 5) (.lit .non)) (.lit .non) (.bin .mul (.neg (.lit (.int 3))) (.var 5))) (t := .name 5) f (evI_seq (e := .var 1) (env := [some (.ref 0), some (.tup ws), some (.int 4), some (.int pl), none, none]) (d := .tup ws) (s := c2 :: r) (s' := c2 :: r) (by simp) rfl) (by rfl) (by show _ ≤ 16777216; omega) (fun d hd => by
      refine ⟨[some (.ref 0), some (.tup ws), some (.int 4), some (.int pl), none, some d], by simp, ?_⟩
      have hwd := hw d hd
      cases d <;> first | (cases hwd; done) | skip
      · simp [is_non, f]
      · rename_i i
        have m : mulOk (-3) i = true := mulOk_l (by decide) (by decide)
        simp [is_non, f, ev_neg', bin_mul_int, m])
    refine fin (.tup (ws.map f)) c2 hc2 ?_ (thg_tup fun x hx => by
      obtain ⟨w, hw', rfl⟩ := List.mem_map.mp hx
      have hwd := hw w hw'
      cases w <;> first | (cases hwd; done) | rfl)
    show exB _ (_ :: _ :: _ :: _ :: _ :: _) _ _ = _
    refine nx (env' := [some (.ref 0), some (.tup ws), some (.int 4), some (.int pl), none, none]) (s' := c2 :: r) (by simp) ?_
    refine nx (env' := [some (.ref 0), some (.tup ws), some (.int 4), some (.int pl), none, none]) (s' := c2 :: r) (by simp) ?_
    refine nx (env' := [some (.ref 0), some (.tup ws), some (.int 4), some (.int pl), none, none]) (s' := c2 :: r) (by simp) ?_
    refine nx (env' := [some (.ref 0), some (.tup ws), some (.int 4), some (.int pl), none, none]) (s' := c2 :: r) (by simp) ?_
    refine rt (ife_t (s' := c2 :: r) (by simp) (rt ?_))
    rw [ex_ret, ev_bi, evs_cons, e]
    simp [bfn, seqOf]
  · exact fin .non c2 hc2 (by simp [f44]) ⟨rfl, fun s => ⟨trivial, fun xs e => by cases e⟩⟩
  · have n0 : ¬ kd = 0 := by omega
    have n1 : ¬ kd = 1 := by omega
    have n2 : ¬ kd = 2 := by omega
    have n3 : ¬ kd = 3 := by omega
    have n4 : ¬ kd = 4 := by omega
    have n5 : ¬ kd = 5 := by omega
    obtain ⟨w, hw1, hix⟩ := ix_ok (s := c2 :: r) (d := .tup ws) (xs := ws) (i := pl) rfl p0 (by omega)
    have hwd := hw w (List.mem_of_getElem? hw1)
    obtain ⟨z, hz, est⟩ : ∃ z, plB z = true ∧ exS (genv P (MP.call P (k + 1))) (.ife (.cmp .lt (.var 2) (.lit (.int 8))) [.asg (.name 4) (.ite (.cmp .is (.var 4) (.lit .non)) (.lit (.int 1)) (.bin .sub (.bin .add (.var 4) (.bin .mul (.lit (.int 2)) (.var 2))) (.lit (.int 13))))] [.ife (.cmp .lt (.var 2) (.lit (.int 11))) [.asg (.name 4) (.idx (.lst false [.lit .non, .lit (.int 0), .lit (.bl true)]) (.bin .sub (.var 2) (.lit (.int 8))))] [.asg (.name 4) (.tup [.lit (.int 1)])]]) [some (.ref 0), some (.tup ws), some (.int kd), some (.int pl), some w, none] (c2 :: r) = .nx [some (.ref 0), some (.tup ws), some (.int kd), some (.int pl), some z, none] (c2 :: r) := by
      by_cases k8 : kd < 8
      · have m : mulOk 2 kd = true := mulOk_l (by decide) (by decide)
        cases w with
        | non => exact ⟨.int 1, rfl, by simp [k8, is_non]⟩
        | int i => exact ⟨.int (i + 2 * kd - 13), rfl, by simp [k8, is_non, bin_mul_int, m]⟩
        | _ => cases hwd
      · by_cases k11 : kd < 11
        · obtain ⟨z, hz, hi⟩ : ∃ z, plB z = true ∧ indexS (c2 :: r) (.lst [.non, .int 0, .bl true]) (.int (kd - 8)) = some z := by
            have : kd = 8 ∨ kd = 9 ∨ kd = 10 := by omega
            rcases this with rfl | rfl | rfl <;> exact ⟨_, rfl, rfl⟩
          exact ⟨z, hz, by simp [k8, k11, hi]⟩
        · exact ⟨.tup [.int 1], rfl, by simp [k8, k11]⟩
    have a0 := cut_take ws pl p0 (by omega)
    have a1 := cut_drop ws (pl + 1) (by omega) (by omega)
    have b1 := bin_add_tup (c2 :: r) (ws.take pl.toNat) [z] (by simp; omega)
    have b2 := bin_add_tup (c2 :: r) (ws.take pl.toNat ++ [z]) (ws.drop (pl + 1).toNat) (by simp; omega)
    refine fin (.tup (ws.take pl.toNat ++ [z] ++ ws.drop (pl + 1).toNat)) c2 hc2 ?_ (thg_tup fun x hx => ?_)
    · show exB _ (_ :: _ :: _ :: _ :: _ :: _ :: _ :: _ :: [_]) _ _ = _
      refine nx (env' := [some (.ref 0), some (.tup ws), some (.int kd), some (.int pl), none, none]) (s' := c2 :: r) (by simp [n0]) ?_
      refine nx (env' := [some (.ref 0), some (.tup ws), some (.int kd), some (.int pl), none, none]) (s' := c2 :: r) (by simp [n1]) ?_
      refine nx (env' := [some (.ref 0), some (.tup ws), some (.int kd), some (.int pl), none, none]) (s' := c2 :: r) (by simp [n2]) ?_
      refine nx (env' := [some (.ref 0), some (.tup ws), some (.int kd), some (.int pl), none, none]) (s' := c2 :: r) (by simp [n3]) ?_
      refine nx (env' := [some (.ref 0), some (.tup ws), some (.int kd), some (.int pl), none, none]) (s' := c2 :: r) (by simp [n4]) ?_
      refine nx (env' := [some (.ref 0), some (.tup ws), some (.int kd), some (.int pl), none, none]) (s' := c2 :: r) (by simp [n5]) ?_
      refine nx (env' := [some (.ref 0), some (.tup ws), some (.int kd), some (.int pl), some w, none]) (s' := c2 :: r) (by simp [hix]) ?_
      refine nx est (rt ?_)
      simp only [ex_ret, ev_bin, ev_slc, ev_var, getE_z, getE_s, R.opt_some, R.bind_ok, evo_none, evo_some, slF, a0, a1, ev_tup, evs_cons, evs_nil, ev_lit, bin_add_int, b1, b2, R.sr_ok]
    · rcases List.mem_append.mp hx with h | h
      · rcases List.mem_append.mp h with h | h
        · exact hpl x (List.mem_of_mem_take h)
        · rw [List.mem_singleton.mp h]; exact hz
      · exact hpl x (List.mem_of_mem_drop h)
end Lk45
set_option autoImplicit false
set_option linter.all false
set_option maxRecDepth 10000
set_option maxHeartbeats 4000000
/-! S45g: k45: the law's loops. -/
namespace Lk45
open MP
theorem app1 (c : Cell) (xs : List D) (v : D) (h : xs.length ≤ 1000) : bmf [c, .lst xs] .append (.ref 1) [v] = .ok .non [c, .lst (xs ++ [v])] := by
  have : xs.length < LINE := Nat.lt_of_le_of_lt h (by decide)
  simp [bmf, bmf0, this]
theorem trades_loop (nn : List Int) (g : Int) (su : Bool) (fl : List Bool) (h : List Int) (hf : fl.length = h.length) (h1 : 1 ≤ h.length) (h5 : h.length ≤ 5) (hh : ∀ v ∈ h, -2 ≤ v ∧ v < 4) : ∀ (ds : List D) (c : Cell) (tr : List (List Int × List Int)) (x y z : Option D), StK c → (∀ p ∈ tr, Kept fl h p.1 p.2) → tr.length + ds.length ≤ 100 →
    ∃ (c' : Cell) (tr' : List (List Int × List Int)) (x' y' z' : Option D), forLoop (bodyF (genv P (MP.call P 11)) (.name 7) [.asg (.tup [.name 8, .name 9]) (.call 40 [.var 1, .var 5]), .expr (.bm .append (.var 6) [.call 43 [.var 4, .var 8, .var 9]])]) [] ds [some (.scr nn), some (.ref 0), some (.int g), some (.bl su), some (.lst (fl.map D.bl)), some (.lst (h.map D.int)), some (.ref 1), x, y, z, none, none, none, none, none, none, none, none, none, none, none, none] [c, .lst (tr.map prD)] = .nx [some (.scr nn), some (.ref 0), some (.int g), some (.bl su), some (.lst (fl.map D.bl)), some (.lst (h.map D.int)), some (.ref 1), x', y', z', none, none, none, none, none, none, none, none, none, none, none, none] [c', .lst (tr'.map prD)] ∧ StK c' ∧ (∀ p ∈ tr', Kept fl h p.1 p.2) ∧ tr'.length = tr.length + ds.length
  | [], c, tr, x, y, z, hc, hk, _ => ⟨c, tr, x, y, z, for_nil (by rfl), hc, hk, rfl⟩
  | d :: ds, c, tr, x, y, z, hc, hk, hl => by
    simp only [List.length_cons] at hl
    obtain ⟨l, t, c1, q1, hc1, he⟩ := even_fn 8 c [.lst (tr.map prD)] hc h h1 h5 hh
    obtain ⟨l', t', q2, hk'⟩ := filled_fn 9 fl h l t [c1, .lst (tr.map prD)] hf h5 he
    have a := app1 c1 (tr.map prD) (.tup [bagD l', bagD t']) (by rw [List.length_map]; omega)
    have e : tr.map prD ++ [.tup [bagD l', bagD t']] = (tr ++ [(l', t')]).map prD := by simp [prD]
    rw [e] at a
    have step : bodyF (genv P (MP.call P 11)) (.name 7) [.asg (.tup [.name 8, .name 9]) (.call 40 [.var 1, .var 5]), .expr (.bm .append (.var 6) [.call 43 [.var 4, .var 8, .var 9]])] d [some (.scr nn), some (.ref 0), some (.int g), some (.bl su), some (.lst (fl.map D.bl)), some (.lst (h.map D.int)), some (.ref 1), x, y, z, none, none, none, none, none, none, none, none, none, none, none, none] [c, .lst (tr.map prD)] = .nx [some (.scr nn), some (.ref 0), some (.int g), some (.bl su), some (.lst (fl.map D.bl)), some (.lst (h.map D.int)), some (.ref 1), some d, some (bagD l), some (bagD t), none, none, none, none, none, none, none, none, none, none, none, none] [c1, .lst ((tr ++ [(l', t')]).map prD)] := by
      show opt2 (some _) _ = _
      refine nx (env' := [some (.scr nn), some (.ref 0), some (.int g), some (.bl su), some (.lst (fl.map D.bl)), some (.lst (h.map D.int)), some (.ref 1), some d, some (bagD l), some (bagD t), none, none, none, none, none, none, none, none, none, none, none, none]) (s' := [c1, .lst (tr.map prD)]) (by simp [fillP nd, q1]) ?_
      refine ex_one ?_
      simp [fillP nd, q2, lstOf, a, -List.map_append]
    rw [for_nx (by rfl) step]
    obtain ⟨c', tr', x', y', z', i1, i2, i3, i4⟩ := trades_loop nn g su fl h hf h1 h5 hh ds c1 (tr ++ [(l', t')]) (some d) (some (bagD l)) (some (bagD t)) hc1 (fun p hp => by
      rcases List.mem_append.mp hp with hp | hp
      · exact hk p hp
      · rw [List.mem_singleton.mp hp]; exact hk') (by simp; omega)
    exact ⟨c', tr', x', y', z', i1, i2, i3, by rw [i4]; simp; omega⟩
theorem stp_ok {tr : List (List Int × List Int)} {g : Int} (hp : ∀ p ∈ tr, ((p.1.length : Int) = g ∧ ∀ v ∈ p.1, 0 ≤ v ∧ v ≤ 41) ∧ ((p.2.length : Int) = g ∧ ∀ v ∈ p.2, 0 ≤ v ∧ v ≤ 41)) {wt : List D} (hkt : keptB tr (.tup wt) = true) {b b' : List Int} (lb : (b.length : Int) = g) (hb : ∀ v ∈ b, 0 ≤ v ∧ v ≤ 12) (hst : Stp tr b b') :
    (b'.length : Int) = g ∧ (∀ v ∈ b', 0 ≤ v ∧ v ≤ 12) ∧ worthL wt b' 0 = worthL wt b 0 := by
  rcases hst with rfl | ⟨p, pm, x, y, hxy, rfl, hd, hm⟩
  · exact ⟨lb, hb, rfl⟩
  · obtain ⟨⟨p1, p2⟩, p3, p4⟩ := hp p pm
    have hk : worthL wt p.1 0 = worthL wt p.2 0 := by
      have := List.all_eq_true.mp hkt p pm
      simpa using this
    obtain ⟨lx, nx', ly, ny, e⟩ : ((x.length : Int) = g) ∧ (∀ v ∈ x, 0 ≤ v) ∧ ((y.length : Int) = g) ∧ (∀ v ∈ y, 0 ≤ v) ∧ worthL wt x 0 = worthL wt y 0 := by
      rcases hxy with ⟨rfl, rfl⟩ | ⟨rfl, rfl⟩
      · exact ⟨p1, fun v hv => (p2 v hv).1, p3, fun v hv => (p4 v hv).1, hk⟩
      · exact ⟨p3, fun v hv => (p4 v hv).1, p1, fun v hv => (p2 v hv).1, hk.symm⟩
    have hs : ∀ v ∈ stepB b x y, 0 ≤ v := fun v hv => by
      obtain ⟨⟨u, w⟩, hz, rfl⟩ := List.mem_map.mp hv
      obtain ⟨z1, z2⟩ := List.of_mem_zip hz
      have := hd u z1
      have := ny w z2
      show 0 ≤ u + w
      omega
    have ls : (stepB b x y).length = b.length := by
      simp only [stepB, List.length_map, List.length_zip]
      omega
    exact ⟨by rw [ls]; exact lb, fun v hv => ⟨hs v hv, hm v hv⟩, worth_step wt b x y (by omega) (by omega) (fun v hv => (hb v hv).1) nx' ny hd hs e⟩
theorem steps_loop (nn : List Int) (g : Int) (su : Bool) (fl : List Bool) (h : List Int) (x7 x8 x9 : Option D) (tr : List (List Int × List Int)) (ws : List D) (hl : tr.length ≤ 100) (g1 : 1 ≤ g) (g5 : g ≤ 5) (hp : ∀ p ∈ tr, ((p.1.length : Int) = g ∧ ∀ v ∈ p.1, 0 ≤ v ∧ v ≤ 41) ∧ ((p.2.length : Int) = g ∧ ∀ v ∈ p.2, 0 ≤ v ∧ v ≤ 41)) (wt : List D) (lw : (wt.length : Int) = g) (hw : ∀ w ∈ wt, wD w = true) (hkt : keptB tr (.tup wt) = true) (a12 a15 : Option D) : ∀ (ds : List D) (c : Cell) (b : List Int) (a17 a18 : Option D), StK c → (b.length : Int) = g → (∀ v ∈ b, 0 ≤ v ∧ v ≤ 12) →
    ∃ c' b' b17 b18, forLoop (bodyF (genv P (MP.call P 11)) (.name 17) [.asg (.name 18) (.call 37 [.var 1, .var 6, .var 16, .lit (.int 1)]), .ife (.cmp .ne (.call 26 [.var 13, .var 18]) (.call 26 [.var 13, .var 16])) [.ret (.lit (.bl false))] [], .asg (.name 16) (.var 18)]) [] ds [some (.scr nn), some (.ref 0), some (.int g), some (.bl su), some (.lst (fl.map D.bl)), some (.lst (h.map D.int)), some (.ref 1), x7, x8, x9, some (.rcd 3 [.int g, .tup (tr.map prD)]), some (.tup ws), a12, some (.tup wt), some (.bl true), a15, some (bagD b), a17, a18, none, none, none] [c, .lst (tr.map prD)] = .nx [some (.scr nn), some (.ref 0), some (.int g), some (.bl su), some (.lst (fl.map D.bl)), some (.lst (h.map D.int)), some (.ref 1), x7, x8, x9, some (.rcd 3 [.int g, .tup (tr.map prD)]), some (.tup ws), a12, some (.tup wt), some (.bl true), a15, some (bagD b'), b17, b18, none, none, none] [c', .lst (tr.map prD)] ∧ StK c'
  | [], c, b, a17, a18, hc, _, _ => ⟨c, b, a17, a18, for_nil (by rfl), hc⟩
  | d :: ds, c, b, a17, a18, hc, lb, hb => by
    obtain ⟨b1, c1, q1, hc1, hst⟩ := stepped_fn 9 c [.lst (tr.map prD)] hc tr b (fun c => rfl) (by omega) (by omega) (by omega) (fun p hp' => by
      obtain ⟨⟨p1, _⟩, p3, _⟩ := hp p hp'
      exact ⟨by omega, by omega⟩)
    obtain ⟨lb1, hb1, hwo⟩ := stp_ok hp hkt lb hb hst
    have w1 := worth_good (P := P) (k := 8) (f := 26) wp rfl wt b1 [c1, .lst (tr.map prD)] hw (by omega) (by omega) (by omega) (fun v hv => (hb1 v hv).1) (fun v hv => by have := hb1 v hv; omega)
    have w2 := worth_good (P := P) (k := 8) (f := 26) wp rfl wt b [c1, .lst (tr.map prD)] hw (by omega) (by omega) (by omega) (fun v hv => (hb v hv).1) (fun v hv => by have := hb v hv; omega)
    rw [hwo] at w1
    have step : bodyF (genv P (MP.call P 11)) (.name 17) [.asg (.name 18) (.call 37 [.var 1, .var 6, .var 16, .lit (.int 1)]), .ife (.cmp .ne (.call 26 [.var 13, .var 18]) (.call 26 [.var 13, .var 16])) [.ret (.lit (.bl false))] [], .asg (.name 16) (.var 18)] d [some (.scr nn), some (.ref 0), some (.int g), some (.bl su), some (.lst (fl.map D.bl)), some (.lst (h.map D.int)), some (.ref 1), x7, x8, x9, some (.rcd 3 [.int g, .tup (tr.map prD)]), some (.tup ws), a12, some (.tup wt), some (.bl true), a15, some (bagD b), a17, a18, none, none, none] [c, .lst (tr.map prD)] = .nx [some (.scr nn), some (.ref 0), some (.int g), some (.bl su), some (.lst (fl.map D.bl)), some (.lst (h.map D.int)), some (.ref 1), x7, x8, x9, some (.rcd 3 [.int g, .tup (tr.map prD)]), some (.tup ws), a12, some (.tup wt), some (.bl true), a15, some (bagD b1), some d, some (bagD b1), none, none, none] [c1, .lst (tr.map prD)] := by
      show opt2 (some _) _ = _
      refine nx (env' := [some (.scr nn), some (.ref 0), some (.int g), some (.bl su), some (.lst (fl.map D.bl)), some (.lst (h.map D.int)), some (.ref 1), x7, x8, x9, some (.rcd 3 [.int g, .tup (tr.map prD)]), some (.tup ws), a12, some (.tup wt), some (.bl true), a15, some (bagD b), some d, some (bagD b1), none, none, none]) (s' := [c1, .lst (tr.map prD)]) (by simp [fillP nd, q1]) ?_
      refine nx (env' := [some (.scr nn), some (.ref 0), some (.int g), some (.bl su), some (.lst (fl.map D.bl)), some (.lst (h.map D.int)), some (.ref 1), x7, x8, x9, some (.rcd 3 [.int g, .tup (tr.map prD)]), some (.tup ws), a12, some (.tup wt), some (.bl true), a15, some (bagD b), some d, some (bagD b1), none, none, none]) (s' := [c1, .lst (tr.map prD)]) (by simp [fillP nd, w1, w2, ne_opt]) ?_
      exact ex_one (by simp)
    rw [for_nx (by rfl) step]
    exact steps_loop nn g su fl h x7 x8 x9 tr ws hl g1 g5 hp wt lw hw hkt a12 a15 ds c1 b1 (some d) (some (bagD b1)) hc1 lb1 hb1
theorem one_turn (nn : List Int) (g : Int) (su : Bool) (fl : List Bool) (h : List Int) (x7 x8 x9 : Option D) (tr : List (List Int × List Int)) (ws : List D) (hl : tr.length ≤ 100) (g1 : 1 ≤ g) (g5 : g ≤ 5) (hp : ∀ p ∈ tr, ((p.1.length : Int) = g ∧ ∀ v ∈ p.1, 0 ≤ v ∧ v ≤ 41) ∧ ((p.2.length : Int) = g ∧ ∀ v ∈ p.2, 0 ≤ v ∧ v ≤ 41)) (lw : (ws.length : Int) = g) (hw : ∀ w ∈ ws, wD w = true) (d : Int) (c : Cell) (a12 a13 a14 a15 a16 a17 a18 : Option D) (hc : StK c) :
    ∃ c' b12 b13 b14 b15 b16 b17 b18, bodyF (genv P (MP.call P 11)) (.name 12) [.asg (.name 13) (.var 11), .ife (.cmp .gt (.var 12) (.lit (.int 0))) [.asg (.name 13) (.call 44 [.var 1, .var 11])] [], .asg (.name 14) (.call 36 [.var 2, .var 6, .var 13]), .asg (.name 15) (.call 35 [.var 10, .var 13]), .ife (.or [.not (.isi (.var 15) [.bool]), .cmp .ne (.var 15) (.var 14)]) [.ret (.lit (.bl false))] [], .ife (.var 14) [.asg (.name 16) (.call 38 [.var 1, .var 2, .lit (.int 8)]), .forS (.name 17) (.range [.lit (.int 6)]) [.asg (.name 18) (.call 37 [.var 1, .var 6, .var 16, .lit (.int 1)]), .ife (.cmp .ne (.call 26 [.var 13, .var 18]) (.call 26 [.var 13, .var 16])) [.ret (.lit (.bl false))] [], .asg (.name 16) (.var 18)]] []] (.int d) [some (.scr nn), some (.ref 0), some (.int g), some (.bl su), some (.lst (fl.map D.bl)), some (.lst (h.map D.int)), some (.ref 1), x7, x8, x9, some (.rcd 3 [.int g, .tup (tr.map prD)]), some (.tup ws), a12, a13, a14, a15, a16, a17, a18, none, none, none] [c, .lst (tr.map prD)] = .nx [some (.scr nn), some (.ref 0), some (.int g), some (.bl su), some (.lst (fl.map D.bl)), some (.lst (h.map D.int)), some (.ref 1), x7, x8, x9, some (.rcd 3 [.int g, .tup (tr.map prD)]), some (.tup ws), b12, b13, b14, b15, b16, b17, b18, none, none, none] [c', .lst (tr.map prD)] ∧ StK c' := by
  have hpl := fun w hw' => pl_w (hw w hw')
  have sm : SmlT tr := fun p hp' => by
    obtain ⟨⟨_, p2⟩, _, p4⟩ := hp p hp'
    exact ⟨fun v hv => by have := p2 v hv; omega, fun v hv => by have := p4 v hv; omega⟩
  obtain ⟨t, c1, hc1, ht, e1⟩ : ∃ t c1, StK c1 ∧ Thg t ∧ exS (genv P (MP.call P 11)) (.ife (.cmp .gt (.var 12) (.lit (.int 0))) [.asg (.name 13) (.call 44 [.var 1, .var 11])] []) [some (.scr nn), some (.ref 0), some (.int g), some (.bl su), some (.lst (fl.map D.bl)), some (.lst (h.map D.int)), some (.ref 1), x7, x8, x9, some (.rcd 3 [.int g, .tup (tr.map prD)]), some (.tup ws), some (.int d), some (.tup ws), a14, a15, a16, a17, a18, none, none, none] [c, .lst (tr.map prD)] = .nx [some (.scr nn), some (.ref 0), some (.int g), some (.bl su), some (.lst (fl.map D.bl)), some (.lst (h.map D.int)), some (.ref 1), x7, x8, x9, some (.rcd 3 [.int g, .tup (tr.map prD)]), some (.tup ws), some (.int d), some t, a14, a15, a16, a17, a18, none, none, none] [c1, .lst (tr.map prD)] := by
    by_cases hd : 0 < d
    · obtain ⟨t, c1, q1, hc1, ht⟩ := changed_fn 9 c [.lst (tr.map prD)] hc ws (by omega) (by omega) hw
      exact ⟨t, c1, hc1, ht, ife_t (s' := [c, .lst (tr.map prD)]) (by simp [hd]) (ex_one (by simp [fillP nd, q1]))⟩
    · exact ⟨.tup ws, c, hc, thg_tup hpl, ife_f (s' := [c, .lst (tr.map prD)]) (by simp [hd]) (ex_nil _ _ _)⟩
  have ty := ht.2 [c1, .lst (tr.map prD)]
  have k1 := keeps_fn 9 g tr (.ref 1) t [c1, .lst (tr.map prD)] rfl (fun x e => by cases e) ty sm
  have k2 := kept_fn 9 g tr t [c1, .lst (tr.map prD)] ty sm
  obtain ⟨kb, hkb⟩ : ∃ kb, kb = (isWD g t && keptB tr t) := ⟨_, rfl⟩
  rw [← hkb] at k1 k2
  have main : ∀ {c' : Cell} {env' : Env}, exS (genv P (MP.call P 11)) (.ife (.var 14) [.asg (.name 16) (.call 38 [.var 1, .var 2, .lit (.int 8)]), .forS (.name 17) (.range [.lit (.int 6)]) [.asg (.name 18) (.call 37 [.var 1, .var 6, .var 16, .lit (.int 1)]), .ife (.cmp .ne (.call 26 [.var 13, .var 18]) (.call 26 [.var 13, .var 16])) [.ret (.lit (.bl false))] [], .asg (.name 16) (.var 18)]] []) [some (.scr nn), some (.ref 0), some (.int g), some (.bl su), some (.lst (fl.map D.bl)), some (.lst (h.map D.int)), some (.ref 1), x7, x8, x9, some (.rcd 3 [.int g, .tup (tr.map prD)]), some (.tup ws), some (.int d), some t, some (.bl kb), some (.bl kb), a16, a17, a18, none, none, none] [c1, .lst (tr.map prD)] = .nx env' [c', .lst (tr.map prD)] →
      bodyF (genv P (MP.call P 11)) (.name 12) [.asg (.name 13) (.var 11), .ife (.cmp .gt (.var 12) (.lit (.int 0))) [.asg (.name 13) (.call 44 [.var 1, .var 11])] [], .asg (.name 14) (.call 36 [.var 2, .var 6, .var 13]), .asg (.name 15) (.call 35 [.var 10, .var 13]), .ife (.or [.not (.isi (.var 15) [.bool]), .cmp .ne (.var 15) (.var 14)]) [.ret (.lit (.bl false))] [], .ife (.var 14) [.asg (.name 16) (.call 38 [.var 1, .var 2, .lit (.int 8)]), .forS (.name 17) (.range [.lit (.int 6)]) [.asg (.name 18) (.call 37 [.var 1, .var 6, .var 16, .lit (.int 1)]), .ife (.cmp .ne (.call 26 [.var 13, .var 18]) (.call 26 [.var 13, .var 16])) [.ret (.lit (.bl false))] [], .asg (.name 16) (.var 18)]] []] (.int d) [some (.scr nn), some (.ref 0), some (.int g), some (.bl su), some (.lst (fl.map D.bl)), some (.lst (h.map D.int)), some (.ref 1), x7, x8, x9, some (.rcd 3 [.int g, .tup (tr.map prD)]), some (.tup ws), a12, a13, a14, a15, a16, a17, a18, none, none, none] [c, .lst (tr.map prD)] = .nx env' [c', .lst (tr.map prD)] := fun hz => by
    show opt2 (some _) _ = _
    refine nx (env' := [some (.scr nn), some (.ref 0), some (.int g), some (.bl su), some (.lst (fl.map D.bl)), some (.lst (h.map D.int)), some (.ref 1), x7, x8, x9, some (.rcd 3 [.int g, .tup (tr.map prD)]), some (.tup ws), some (.int d), some (.tup ws), a14, a15, a16, a17, a18, none, none, none]) (s' := [c, .lst (tr.map prD)]) (by simp) ?_
    refine nx e1 ?_
    refine nx (env' := [some (.scr nn), some (.ref 0), some (.int g), some (.bl su), some (.lst (fl.map D.bl)), some (.lst (h.map D.int)), some (.ref 1), x7, x8, x9, some (.rcd 3 [.int g, .tup (tr.map prD)]), some (.tup ws), some (.int d), some t, some (.bl kb), a15, a16, a17, a18, none, none, none]) (s' := [c1, .lst (tr.map prD)]) (by simp [fillP nd, k1]) ?_
    refine nx (env' := [some (.scr nn), some (.ref 0), some (.int g), some (.bl su), some (.lst (fl.map D.bl)), some (.lst (h.map D.int)), some (.ref 1), x7, x8, x9, some (.rcd 3 [.int g, .tup (tr.map prD)]), some (.tup ws), some (.int d), some t, some (.bl kb), some (.bl kb), a16, a17, a18, none, none, none]) (s' := [c1, .lst (tr.map prD)]) (by simp [fillP nd, k2]) ?_
    refine nx (env' := [some (.scr nn), some (.ref 0), some (.int g), some (.bl su), some (.lst (fl.map D.bl)), some (.lst (h.map D.int)), some (.ref 1), x7, x8, x9, some (.rcd 3 [.int g, .tup (tr.map prD)]), some (.tup ws), some (.int d), some t, some (.bl kb), some (.bl kb), a16, a17, a18, none, none, none]) (s' := [c1, .lst (tr.map prD)]) (by simp [show tyIs (genv P (MP.call P 11)) [c1, .lst (tr.map prD)] (.bl kb) .bool = some true from rfl]) ?_
    exact ex_one hz
  cases kb with
  | false => exact ⟨c1, _, _, _, _, _, _, _, main (ife_f (s' := [c1, .lst (tr.map prD)]) (by simp) (ex_nil _ _ _)), hc1⟩
  | true =>
    have hkb := hkb.symm
    rw [Bool.and_eq_true] at hkb
    obtain ⟨wt, rfl, lt, hwt⟩ := isWD_tup hkb.1
    obtain ⟨b, c2, q2, hc2, hb⟩ := any_fn 9 c1 [.lst (tr.map prD)] hc1 g 8 (by omega) g5 (by decide) (by decide)
    obtain ⟨c3, b3, b17, b18, q3, hc3⟩ := steps_loop nn g su fl h x7 x8 x9 tr ws hl g1 g5 hp wt lt hwt hkb.2 (some (.int d)) (some (.bl true)) (rangeD 0 6) c2 b a17 a18 hc2 (by have := hb.1; omega) (fun v hv => by have := hb.2 v hv; omega)
    refine ⟨c3, some (.int d), some (.tup wt), some (.bl true), some (.bl true), some (bagD b3), b17, b18, main (ife_t (s' := [c1, .lst (tr.map prD)]) (by simp) ?_), hc3⟩
    refine nx (env' := [some (.scr nn), some (.ref 0), some (.int g), some (.bl su), some (.lst (fl.map D.bl)), some (.lst (h.map D.int)), some (.ref 1), x7, x8, x9, some (.rcd 3 [.int g, .tup (tr.map prD)]), some (.tup ws), some (.int d), some (.tup wt), some (.bl true), some (.bl true), some (bagD b), a17, a18, none, none, none]) (s' := [c2, .lst (tr.map prD)]) (by simp [fillP nd, q2]) (ex_one ((ex_for (evI_range1 (n := 6) (by simp) (by decide))).trans q3))
theorem turns_loop (nn : List Int) (g : Int) (su : Bool) (fl : List Bool) (h : List Int) (x7 x8 x9 : Option D) (tr : List (List Int × List Int)) (ws : List D) (hl : tr.length ≤ 100) (g1 : 1 ≤ g) (g5 : g ≤ 5) (hp : ∀ p ∈ tr, ((p.1.length : Int) = g ∧ ∀ v ∈ p.1, 0 ≤ v ∧ v ≤ 41) ∧ ((p.2.length : Int) = g ∧ ∀ v ∈ p.2, 0 ≤ v ∧ v ≤ 41)) (lw : (ws.length : Int) = g) (hw : ∀ w ∈ ws, wD w = true) : ∀ (ds : List Int) (c : Cell) (a12 a13 a14 a15 a16 a17 a18 : Option D), StK c →
    ∃ c' b12 b13 b14 b15 b16 b17 b18, forLoop (bodyF (genv P (MP.call P 11)) (.name 12) [.asg (.name 13) (.var 11), .ife (.cmp .gt (.var 12) (.lit (.int 0))) [.asg (.name 13) (.call 44 [.var 1, .var 11])] [], .asg (.name 14) (.call 36 [.var 2, .var 6, .var 13]), .asg (.name 15) (.call 35 [.var 10, .var 13]), .ife (.or [.not (.isi (.var 15) [.bool]), .cmp .ne (.var 15) (.var 14)]) [.ret (.lit (.bl false))] [], .ife (.var 14) [.asg (.name 16) (.call 38 [.var 1, .var 2, .lit (.int 8)]), .forS (.name 17) (.range [.lit (.int 6)]) [.asg (.name 18) (.call 37 [.var 1, .var 6, .var 16, .lit (.int 1)]), .ife (.cmp .ne (.call 26 [.var 13, .var 18]) (.call 26 [.var 13, .var 16])) [.ret (.lit (.bl false))] [], .asg (.name 16) (.var 18)]] []]) [] (ds.map D.int) [some (.scr nn), some (.ref 0), some (.int g), some (.bl su), some (.lst (fl.map D.bl)), some (.lst (h.map D.int)), some (.ref 1), x7, x8, x9, some (.rcd 3 [.int g, .tup (tr.map prD)]), some (.tup ws), a12, a13, a14, a15, a16, a17, a18, none, none, none] [c, .lst (tr.map prD)] = .nx [some (.scr nn), some (.ref 0), some (.int g), some (.bl su), some (.lst (fl.map D.bl)), some (.lst (h.map D.int)), some (.ref 1), x7, x8, x9, some (.rcd 3 [.int g, .tup (tr.map prD)]), some (.tup ws), b12, b13, b14, b15, b16, b17, b18, none, none, none] [c', .lst (tr.map prD)] ∧ StK c'
  | [], c, a12, a13, a14, a15, a16, a17, a18, hc => ⟨c, a12, a13, a14, a15, a16, a17, a18, for_nil (by rfl), hc⟩
  | d :: ds, c, a12, a13, a14, a15, a16, a17, a18, hc => by
    obtain ⟨c1, b12, b13, b14, b15, b16, b17, b18, e1, hc1⟩ := one_turn nn g su fl h x7 x8 x9 tr ws hl g1 g5 hp lw hw d c a12 a13 a14 a15 a16 a17 a18 hc
    rw [List.map_cons, for_nx (by rfl) e1]
    exact turns_loop nn g su fl h x7 x8 x9 tr ws hl g1 g5 hp lw hw ds c1 b12 b13 b14 b15 b16 b17 b18 hc1
end Lk45
set_option autoImplicit false
set_option linter.all false
set_option maxRecDepth 10000
set_option maxHeartbeats 4000000
/-! S45h: k45: the law. -/
namespace MP
theorem bls_of {vs : List D} : (∀ v ∈ vs, ∃ b, v = D.bl b) → ∃ fl : List Bool, vs = fl.map D.bl := by
  induction vs with
  | nil => exact fun _ => ⟨[], rfl⟩
  | cons v vs ih =>
    intro h
    obtain ⟨b, rfl⟩ := h v List.mem_cons_self
    obtain ⟨fl, rfl⟩ := ih fun w hw => h w (List.mem_cons_of_mem _ hw)
    exact ⟨b :: fl, rfl⟩
theorem rep_bl (b : Bool) (n : Nat) : (List.replicate n [D.bl b]).flatten = (List.replicate n b).map D.bl := by
  induction n with
  | zero => rfl
  | succ n ih => simp [List.replicate_succ, ih]
end MP
namespace Lk45
open MP
theorem wts_len {fl : List Bool} {h : List Int} (hf : fl.length = h.length) : (wtsOf fl h).length = h.length := by simp [wtsOf, hf]
theorem wts_wD (fl : List Bool) (h : List Int) : ∀ w ∈ wtsOf fl h, wD w = true := fun w hw => by
  obtain ⟨p, _, rfl⟩ := List.mem_map.mp hw
  split <;> rfl
theorem flags (nn : List Int) (g : Int) (su : Bool) (g1 : 1 ≤ g) (g5 : g ≤ 5) (c : Cell) (hc : StK c) : ∃ (fl : List Bool) (c' : Cell), StK c' ∧ fl.length = g.toNat ∧ exS (genv P (MP.call P 11)) (.ife (.cmp .eq (.call 28 [.var 1, .lit (.int 2)]) (.lit (.int 1))) [.asg (.name 4) (.comp false [19] (.cmp .eq (.call 28 [.var 1, .lit (.int 3)]) (.lit (.int 1))) (.name 19) (.range [.var 2]) [])] []) [some (.scr nn), some (.ref 0), some (.int g), some (.bl su), some (.lst ((List.replicate g.toNat false).map D.bl)), none, none, none, none, none, none, none, none, none, none, none, none, none, none, none, none, none] [c] = .nx [some (.scr nn), some (.ref 0), some (.int g), some (.bl su), some (.lst (fl.map D.bl)), none, none, none, none, none, none, none, none, none, none, none, none, none, none, none, none, none] [c'] := by
  obtain ⟨v, c1, q1, hc1, _, _⟩ := draw 10 c [] hc 2 (by decide) (by decide)
  by_cases hv : v = 1
  · obtain ⟨vs, c2, e2, hc2, l2, p2⟩ := drawn_comp (g := genv P (MP.call P 11)) (m := false) (i := 19) (r := []) (elt := .cmp .eq (.call 28 [.var 1, .lit (.int 3)]) (.lit (.int 1))) (env := [some (.scr nn), some (.ref 0), some (.int g), some (.bl su), some (.lst ((List.replicate g.toNat false).map D.bl)), none, none, none, none, none, none, none, none, none, none, none, none, none, none, none, none, none]) (y := .var 2) (n := g) (Pr := fun d => ∃ b, d = .bl b) hc1 (by simp) (by omega) (by omega) (fun d c hc => by
      obtain ⟨v, c', z1, z2, _, _⟩ := draw 10 c [] hc 3 (by decide) (by decide)
      exact ⟨.bl (decide (v = 1)), c', by simp [fillP nd, z1], z2, _, rfl⟩)
    obtain ⟨fl, rfl⟩ := bls_of p2
    rw [newL_f] at e2
    exact ⟨fl, c2, hc2, by simpa using l2, ife_t (s' := [c1]) (by simp [fillP nd, q1, hv]) (ex_one (by rw [ex_asg, e2]; simp))⟩
  · exact ⟨List.replicate g.toNat false, c1, hc1, by simp, ife_f (s' := [c1]) (by simp [fillP nd, q1, hv]) (ex_nil _ _ _)⟩
theorem wts_comp (s : Sto) (fl : List Bool) (h : List Int) (env : Env) (h4 : getE env 4 = some (.lst (fl.map D.bl))) (h5 : getE env 5 = some (.lst (h.map D.int))) (hl : fl.length ≤ 1000) (he : ∀ u v : D, ∃ env', asgT (.tup [.name 20, .name 21]) (.tup [u, v]) (wipeE env [20, 21]) = some env' ∧ getE env' 20 = some u ∧ getE env' 21 = some v) :
    evE (genv P (MP.call P 11)) (.comp false [20, 21] (.ite (.var 20) (.lit .non) (.var 21)) (.tup [.name 20, .name 21]) (.zip [.var 4, .var 5]) []) env s = .ok (.lst (wtsOf fl h)) s := by
  let f : D → D := fun d => match d with
    | .tup [.bl b, .int n] => if b then .non else .int n
    | _ => .non
  have e : wtsOf fl h = (((fl.map D.bl).zip (h.map D.int)).map fun p => D.tup [p.1, p.2]).map f := by
    rw [List.zip_map, List.map_map, List.map_map]
    rfl
  rw [e]
  refine (ev_comp_map f (evI_zip2 (d1 := .lst (fl.map D.bl)) (d2 := .lst (h.map D.int)) (s1 := s) (s2 := s) (by simp [h4]) (by simp [h5]) rfl rfl) (by rfl) ?_ (fun d hd => ?_)).trans (newL_f _ _)
  · rw [List.length_map, List.length_zip, List.length_map]
    show _ ≤ 16777216
    omega
  · obtain ⟨⟨a', b'⟩, hp, rfl⟩ := List.mem_map.mp hd
    obtain ⟨p1, p2⟩ := List.of_mem_zip hp
    obtain ⟨x, _, rfl⟩ := List.mem_map.mp p1
    obtain ⟨y, _, rfl⟩ := List.mem_map.mp p2
    obtain ⟨env', z1, z2, z3⟩ := he (.bl x) (.int y)
    exact ⟨env', z1, by cases x <;> simp [z2, z3, f]⟩
/-- the trades drawn -/
def TrOk (g : Int) (tr : List (List Int × List Int)) : Prop := ∀ p ∈ tr, ((p.1.length : Int) = g ∧ ∀ v ∈ p.1, 0 ≤ v ∧ v ≤ 41) ∧ ((p.2.length : Int) = g ∧ ∀ v ∈ p.2, 0 ≤ v ∧ v ≤ 41)
theorem last_trade (nn : List Int) (g : Int) (su : Bool) (fl : List Bool) (h : List Int) (g1 : 1 ≤ g) (g5 : g ≤ 5) (hg : (h.length : Int) = g) (x7 x8 x9 : Option D) (c : Cell) (hc : StK c) (tr : List (List Int × List Int)) (hk : ∀ p ∈ tr, Kept fl h p.1 p.2) (hl : tr.length ≤ 6) :
    ∃ (tr2 : List (List Int × List Int)) (c' : Cell), StK c' ∧ tr2.length ≤ 7 ∧ TrOk g tr2 ∧ (su = true → keptB tr2 (.tup (wtsOf fl h)) = true) ∧ exS (genv P (MP.call P 11)) (.ife (.not (.var 3)) [.expr (.bm .append (.var 6) [.tup [.call 38 [.var 1, .var 2, .lit (.int 12)], .call 38 [.var 1, .var 2, .lit (.int 12)]]])] []) [some (.scr nn), some (.ref 0), some (.int g), some (.bl su), some (.lst (fl.map D.bl)), some (.lst (h.map D.int)), some (.ref 1), x7, x8, x9, none, none, none, none, none, none, none, none, none, none, none, none] [c, .lst (tr.map prD)] = .nx [some (.scr nn), some (.ref 0), some (.int g), some (.bl su), some (.lst (fl.map D.bl)), some (.lst (h.map D.int)), some (.ref 1), x7, x8, x9, none, none, none, none, none, none, none, none, none, none, none, none] [c', .lst (tr2.map prD)] := by
  have ok : TrOk g tr := fun p hp => by
    obtain ⟨k1, k2, k3, k4, _⟩ := hk p hp
    exact ⟨⟨by omega, k3⟩, by omega, k4⟩
  cases su with
  | true =>
    refine ⟨tr, c, hc, by omega, ok, fun _ => ?_, ife_f (s' := [c, .lst (tr.map prD)]) (by simp) (ex_nil _ _ _)⟩
    rw [keptB, List.all_eq_true]
    intro p hp
    simpa using (hk p hp).2.2.2.2
  | false =>
    obtain ⟨ba, c1, q1, hc1, l1, b1⟩ := any_fn 9 c [.lst (tr.map prD)] hc g 12 (by omega) g5 (by decide) (by decide)
    obtain ⟨bb, c2, q2, hc2, l2, b2⟩ := any_fn 9 c1 [.lst (tr.map prD)] hc1 g 12 (by omega) g5 (by decide) (by decide)
    have a := app1 c2 (tr.map prD) (.tup [bagD ba, bagD bb]) (by rw [List.length_map]; omega)
    have e : tr.map prD ++ [.tup [bagD ba, bagD bb]] = (tr ++ [(ba, bb)]).map prD := by simp [prD]
    rw [e] at a
    refine ⟨tr ++ [(ba, bb)], c2, hc2, by simp; omega, fun p hp => ?_, (fun z => by cases z), ife_t (s' := [c, .lst (tr.map prD)]) (by simp) (ex_one (by simp [fillP nd, q1, q2, lstOf, a, -List.map_append]))⟩
    rcases List.mem_append.mp hp with hp | hp
    · exact ok p hp
    · rw [List.mem_singleton.mp hp]
      exact ⟨⟨by simp only; omega, fun v hv => by have := b1 v hv; omega⟩, by simp only; omega, fun v hv => by have := b2 v hv; omega⟩
theorem holds : ∀ nn : List Int, nn.length ≤ 63 → ∃ s, MP.call P 12 19 [.scr nn] [] = .ok (.bl true) s := by
  intro nn hnn
  suffices h : ∃ t, exB (genv P (MP.call P 11)) f19.body (some (.scr nn) :: List.replicate 21 none) [] = .ret (.bl true) t by
    obtain ⟨t, h⟩ := h
    refine ⟨[], ?_⟩
    rw [call_run (fn := f19) rfl]
    refine (run_ret (f := f19) rfl h).trans ?_
    simp [fin, f19, gcOk, D.free]
  obtain ⟨c0, e0, hc0⟩ := draws_fn (P := P) (k := 10) (f := 27) rfl [] nn hnn
  simp only [List.length_nil, List.nil_append] at e0
  show ∃ t, exB (genv P (MP.call P 11)) (_ :: _) [some (.scr nn), none, none, none, none, none, none, none, none, none, none, none, none, none, none, none, none, none, none, none, none, none] _ = _
  refine nxE (env' := [some (.scr nn), some (.ref 0), none, none, none, none, none, none, none, none, none, none, none, none, none, none, none, none, none, none, none, none]) (s' := [c0]) (by simp [fillP nd, e0]) ?_
  obtain ⟨g', c1, q1, hc1, g0, g4⟩ := draw 10 c0 [] hc0 5 (by decide) (by decide)
  obtain ⟨g, hg⟩ : ∃ g, g = 1 + g' := ⟨_, rfl⟩
  refine nxE (env' := [some (.scr nn), some (.ref 0), some (.int g), none, none, none, none, none, none, none, none, none, none, none, none, none, none, none, none, none, none, none]) (s' := [c1]) (by simp [fillP nd, q1, hg]) ?_
  obtain ⟨u, c2, q2, hc2, _, _⟩ := draw 10 c1 [] hc1 4 (by decide) (by decide)
  obtain ⟨su, hsu⟩ : ∃ su : Bool, su = decide (0 < u) := ⟨_, rfl⟩
  refine nxE (env' := [some (.scr nn), some (.ref 0), some (.int g), some (.bl su), none, none, none, none, none, none, none, none, none, none, none, none, none, none, none, none, none, none]) (s' := [c2]) (by simp [fillP nd, q2, hsu]) ?_
  have g1 : 1 ≤ g := by omega
  have g5 : g ≤ 5 := by omega
  have m4 : binop [c2] .mul (.lst [.bl false]) (.int g) = some (.lst ((List.replicate g.toNat false).map D.bl)) := by
    have z1 : (0 : Int) ≤ g := by omega
    have z2 : g ≤ 1000000 := by omega
    have z3 : [D.bl false].length * g.toNat ≤ LINE := by show 1 * g.toNat ≤ 16777216; omega
    simp only [binop, lstOf, z1, z2, z3, decide_true, Bool.and_self, if_true, repD, rep_bl]
  refine nxE (env' := [some (.scr nn), some (.ref 0), some (.int g), some (.bl su), some (.lst ((List.replicate g.toNat false).map D.bl)), none, none, none, none, none, none, none, none, none, none, none, none, none, none, none, none, none]) (s' := [c2]) (by simp only [ex_asg, ev_bin, ev_lst, evs_cons, evs_nil, ev_lit, R.bind_ok, newL_f, ev_var, getE_z, getE_s, R.opt_some, m4, R.sr_ok, asg_name, setE_s, setE_z, opt2_some]) ?_
  obtain ⟨fl, c3, hc3, lf, q3⟩ := flags nn g su g1 g5 c2 hc2
  refine nxE q3 ?_
  obtain ⟨h, c4, q4, hc4, lh, hh⟩ := hidden_fn 9 c3 [] hc3 g (by omega) g5
  refine nxE (env' := [some (.scr nn), some (.ref 0), some (.int g), some (.bl su), some (.lst (fl.map D.bl)), some (.lst (h.map D.int)), none, none, none, none, none, none, none, none, none, none, none, none, none, none, none, none]) (s' := [c4]) (by simp [fillP nd, q4]) ?_
  refine nxE (env' := [some (.scr nn), some (.ref 0), some (.int g), some (.bl su), some (.lst (fl.map D.bl)), some (.lst (h.map D.int)), some (.ref 1), none, none, none, none, none, none, none, none, none, none, none, none, none, none, none]) (s' := [c4, .lst []]) (by simp) ?_
  obtain ⟨n, c5, q5, hc5, n0, n1⟩ := draw 10 c4 [.lst []] hc4 7 (by decide) (by decide)
  have hf : fl.length = h.length := by omega
  obtain ⟨c6, tr, x7, x8, x9, q6, hc6, hk, ltr⟩ := trades_loop nn g su fl h hf (by omega) (by omega) hh (rangeD 0 n.toNat) c5 [] none none none hc5 (fun p hp => by cases hp) (by simp [rangeD]; omega)
  refine nxE ((ex_for (evI_range1 (n := n) (s1 := [c5, .lst []]) (by simp [fillP nd, q5]) (by unfold smallI; simp; omega))).trans q6) ?_
  obtain ⟨tr2, c7, hc7, l7, tok, hkt, q7⟩ := last_trade nn g su fl h g1 g5 (by omega) x7 x8 x9 c6 hc6 tr hk (by rw [ltr]; simp [rangeD]; omega)
  refine nxE q7 ?_
  have mkt := market_fn mp 7 g tr2 [c7, .lst (tr2.map prD)] g1 g5 (by omega) (fun p hp => by
    obtain ⟨⟨z1, z2⟩, z3, z4⟩ := tok p hp
    exact ⟨⟨z1, fun v hv => (z2 v hv).1⟩, z3, fun v hv => (z4 v hv).1⟩)
  have mkt : makeD (genv P (MP.call P 11)) 3 [.int g, .tup (tr2.map prD)] [c7, .lst (tr2.map prD)] = .ok (.rcd 3 [.int g, .tup (tr2.map prD)]) [c7, .lst (tr2.map prD)] := mkt
  have tt : bfn [c7, .lst (tr2.map prD)] .toTup [.ref 1] = some (.tup (tr2.map prD)) := by simp [bfn, seqOf]
  refine nxE (env' := [some (.scr nn), some (.ref 0), some (.int g), some (.bl su), some (.lst (fl.map D.bl)), some (.lst (h.map D.int)), some (.ref 1), x7, x8, x9, some (.rcd 3 [.int g, .tup (tr2.map prD)]), none, none, none, none, none, none, none, none, none, none, none]) (s' := [c7, .lst (tr2.map prD)]) (by simp [tt, mkt]) ?_
  have wc := wts_comp [c7, .lst (tr2.map prD)] fl h [some (.scr nn), some (.ref 0), some (.int g), some (.bl su), some (.lst (fl.map D.bl)), some (.lst (h.map D.int)), some (.ref 1), x7, x8, x9, some (.rcd 3 [.int g, .tup (tr2.map prD)]), none, none, none, none, none, none, none, none, none, none, none] (by rfl) (by rfl) (by omega) (fun u v => ⟨_, by simp; rfl, by simp, by simp⟩)
  refine nxE (env' := [some (.scr nn), some (.ref 0), some (.int g), some (.bl su), some (.lst (fl.map D.bl)), some (.lst (h.map D.int)), some (.ref 1), x7, x8, x9, some (.rcd 3 [.int g, .tup (tr2.map prD)]), some (.tup (wtsOf fl h)), none, none, none, none, none, none, none, none, none, none]) (s' := [c7, .lst (tr2.map prD)]) (by rw [ex_asg, ev_bi, evs_cons, wc]; simp [bfn, seqOf]) ?_
  have wl := wts_len hf
  have wd := wts_wD fl h
  have sm : SmlT tr2 := fun p hp' => by
    obtain ⟨⟨_, p2⟩, _, p4⟩ := tok p hp'
    exact ⟨fun v hv => by have := p2 v hv; omega, fun v hv => by have := p4 v hv; omega⟩
  have thg := thg_tup (xs := wtsOf fl h) fun w hw => pl_w (wd w hw)
  have k2 := fun c => kept_fn 9 g tr2 (.tup (wtsOf fl h)) [c, .lst (tr2.map prD)] (thg.2 _) sm
  have k1 := fun c => keeps_fn 9 g tr2 (.ref 1) (.tup (wtsOf fl h)) [c, .lst (tr2.map prD)] rfl (fun x e => by cases e) (thg.2 _) sm
  have hwd : isWD g (.tup (wtsOf fl h)) = true := by
    have : ((wtsOf fl h).length : Int) = g := by omega
    simpa [isWD, this, List.all_eq_true] using wd
  rw [hwd, Bool.true_and] at k1 k2
  obtain ⟨kb, hkb⟩ : ∃ kb, kb = keptB tr2 (.tup (wtsOf fl h)) := ⟨_, rfl⟩
  rw [← hkb] at k1 k2 hkt
  refine nxE (env' := [some (.scr nn), some (.ref 0), some (.int g), some (.bl su), some (.lst (fl.map D.bl)), some (.lst (h.map D.int)), some (.ref 1), x7, x8, x9, some (.rcd 3 [.int g, .tup (tr2.map prD)]), some (.tup (wtsOf fl h)), none, none, none, none, none, none, none, none, none, none]) (s' := [c7, .lst (tr2.map prD)]) ?_ ?_
  · cases su with
    | false => simp
    | true =>
      have hkt := hkt rfl
      subst hkt
      have i1 : ∀ s, cmpop s .isnot (.bl true) (.bl true) = some false := fun s => rfl
      simp [fillP nd, k2, i1]
  obtain ⟨c8, b12, b13, b14, b15, b16, b17, b18, q8, hc8⟩ := turns_loop nn g su fl h x7 x8 x9 tr2 (wtsOf fl h) (by omega) g1 g5 tok (by omega) wd [0, 1, 2] c7 none none none none none none none hc7
  refine nxE ((ex_for (evI_range1 (n := 3) (s1 := [c7, .lst (tr2.map prD)]) (by simp) (by decide))).trans q8) ?_
  exact nxR (s' := [c8, .lst (tr2.map prD)]) (by simp [fillP nd, k1, k2])
end Lk45
set_option autoImplicit false
set_option linter.all false
set_option maxRecDepth 100000
set_option maxHeartbeats 0
set_option Elab.async false
namespace Lk45
open PySem PySem.Spec PyProof.Rows L2 MP
def top (i : Nat) : Stmt := PySem.Challenge.pw_barterback_k45_weights_kept_or_not.main.body.getD i (.Pass ⟨0, 0, 0, 0⟩)
def xd0 : He.DefD := ⟨("is_integer", none), "is_integer", "is_integer", defArgs (top 8), defBody (top 8), defScope (top 8), [], []⟩
def xr0 : FnD := ⟨xd0, ["thing"], ["thing"]⟩
theorem xb0 : Bd xr0 := fun _ _ _ _ _ _ us hl => match us, hl with | [_], _ => rfl
theorem xc0 : fnC T P isTop f0 xr0 = true := by decide +kernel
def xd1 : He.DefD := ⟨("is_bag", none), "is_bag", "is_bag", defArgs (top 9), defBody (top 9), defScope (top 9), [], []⟩
def xr1 : FnD := ⟨xd1, ["goods", "thing", "number"], ["goods", "thing"]⟩
theorem xb1 : Bd xr1 := fun _ _ _ _ _ _ us hl => match us, hl with | [_, _], _ => rfl
theorem xc1 : fnC T P isTop f1 xr1 = true := by decide +kernel
def xd24 : He.DefD := ⟨("is_weights", none), "is_weights", "is_weights", defArgs (top 11), defBody (top 11), defScope (top 11), [], []⟩
def xr24 : FnD := ⟨xd24, ["goods", "thing", "weight"], ["goods", "thing"]⟩
theorem xb24 : Bd xr24 := fun _ _ _ _ _ _ us hl => match us, hl with | [_, _], _ => rfl
theorem xc24 : fnC T P isTop f24 xr24 = true := by decide +kernel
def xd25 : He.DefD := ⟨("worth_of", none), "worth_of", "worth_of", defArgs (top 12), defBody (top 12), defScope (top 12), [], []⟩
def xr25 : FnD := ⟨xd25, ["weights", "bag", "total", "weight", "number"], ["weights", "bag"]⟩
theorem xb25 : Bd xr25 := fun _ _ _ _ _ _ us hl => match us, hl with | [_, _], _ => rfl
theorem xc25 : fnC T P isTop f25 xr25 = true := by decide +kernel
def xd26 : He.DefD := ⟨("worth", none), "worth", "worth", defArgs (top 13), defBody (top 13), defScope (top 13), [], []⟩
def xr26 : FnD := ⟨xd26, ["weights", "bag"], ["weights", "bag"]⟩
theorem xb26 : Bd xr26 := fun _ _ _ _ _ _ us hl => match us, hl with | [_, _], _ => rfl
theorem xc26 : fnC T P isTop f26 xr26 = true := by decide +kernel
def xd35 : He.DefD := ⟨("is_kept", none), "is_kept", "is_kept", defArgs (top 14), defBody (top 14), defScope (top 14), [], []⟩
def xr35 : FnD := ⟨xd35, ["market", "thing", "left", "right"], ["market", "thing"]⟩
theorem xb35 : Bd xr35 := fun _ _ _ _ _ _ us hl => match us, hl with | [_, _], _ => rfl
theorem xc35 : fnC T P isTop f35 xr35 = true := by decide +kernel
def xd2 : He.DefD := ⟨("is_pair_of_bags", none), "is_pair_of_bags", "is_pair_of_bags", defArgs (top 17), defBody (top 17), defScope (top 17), [], []⟩
def xr2 : FnD := ⟨xd2, ["goods", "thing"], ["goods", "thing"]⟩
theorem xb2 : Bd xr2 := fun _ _ _ _ _ _ us hl => match us, hl with | [_, _], _ => rfl
theorem xc2 : fnC T P isTop f2 xr2 = true := by decide +kernel
def xd27 : He.DefD := ⟨("_law_draws", none), "_law_draws", "_law_draws", defArgs (top 20), defBody (top 20), defScope (top 20), [], []⟩
def xr27 : FnD := ⟨xd27, ["_law_script", "_law_cell"], ["_law_script"]⟩
theorem xb27 : Bd xr27 := fun _ _ _ _ _ _ us hl => match us, hl with | [_], _ => rfl
theorem xc27 : fnC T P isTop f27 xr27 = true := by decide +kernel
def xd28 : He.DefD := ⟨("_law_draw", none), "_law_draw", "_law_draw", defArgs (top 21), defBody (top 21), defScope (top 21), [], []⟩
def xr28 : FnD := ⟨xd28, ["_law_draws_here", "_law_many", "_law_cell", "_law_number"], ["_law_draws_here", "_law_many"]⟩
theorem xb28 : Bd xr28 := fun _ _ _ _ _ _ us hl => match us, hl with | [_, _], _ => rfl
theorem xc28 : fnC T P isTop f28 xr28 = true := by decide +kernel
def xd29 : He.DefD := ⟨("_law_integer", none), "_law_integer", "_law_integer", defArgs (top 22), defBody (top 22), defScope (top 22), [], []⟩
def xr29 : FnD := ⟨xd29, ["_law_thing"], ["_law_thing"]⟩
theorem xb29 : Bd xr29 := fun _ _ _ _ _ _ us hl => match us, hl with | [_], _ => rfl
theorem xc29 : fnC T P isTop f29 xr29 = true := by decide +kernel
def xd30 : He.DefD := ⟨("_law_worth", none), "_law_worth", "_law_worth", defArgs (top 23), defBody (top 23), defScope (top 23), [], []⟩
def xr30 : FnD := ⟨xd30, ["_law_weights", "_law_bag", "_law_total", "_law_weight", "_law_number"], ["_law_weights", "_law_bag"]⟩
theorem xb30 : Bd xr30 := fun _ _ _ _ _ _ us hl => match us, hl with | [_, _], _ => rfl
theorem xc30 : fnC T P isTop f30 xr30 = true := by decide +kernel
def xd36 : He.DefD := ⟨("_law_keeps", none), "_law_keeps", "_law_keeps", defArgs (top 24), defBody (top 24), defScope (top 24), [], []⟩
def xr36 : FnD := ⟨xd36, ["_law_goods", "_law_trades", "_law_weights", "_law_weight", "_law_left", "_law_right"], ["_law_goods", "_law_trades", "_law_weights"]⟩
theorem xb36 : Bd xr36 := fun _ _ _ _ _ _ us hl => match us, hl with | [_, _, _], _ => rfl
theorem xc36 : fnC T P isTop f36 xr36 = true := by decide +kernel
def xd37 : He.DefD := ⟨("_law_stepped", none), "_law_stepped", "_law_stepped", defArgs (top 25), defBody (top 25), defScope (top 25), [], []⟩
def xr37 : FnD := ⟨xd37, ["_law_draws_here", "_law_trades", "_law_bag", "_law_steps", "_law_step", "_law_trade", "_law_side", "_law_held", "_law_number", "_law_given", "_law_taken"], ["_law_draws_here", "_law_trades", "_law_bag", "_law_steps"]⟩
theorem xb37 : Bd xr37 := fun _ _ _ _ _ _ us hl => match us, hl with | [_, _, _, _], _ => rfl
theorem xc37 : fnC T P isTop f37 xr37 = true := by decide +kernel
def xd38 : He.DefD := ⟨("_law_any", none), "_law_any", "_law_any", defArgs (top 26), defBody (top 26), defScope (top 26), [], []⟩
def xr38 : FnD := ⟨xd38, ["_law_draws_here", "_law_goods", "_law_top", "_law_good"], ["_law_draws_here", "_law_goods", "_law_top"]⟩
theorem xb38 : Bd xr38 := fun _ _ _ _ _ _ us hl => match us, hl with | [_, _, _], _ => rfl
theorem xc38 : fnC T P isTop f38 xr38 = true := by decide +kernel
def xd39 : He.DefD := ⟨("_law_hidden", none), "_law_hidden", "_law_hidden", defArgs (top 27), defBody (top 27), defScope (top 27), [], []⟩
def xr39 : FnD := ⟨xd39, ["_law_draws_here", "_law_goods", "_law_good"], ["_law_draws_here", "_law_goods"]⟩
theorem xb39 : Bd xr39 := fun _ _ _ _ _ _ us hl => match us, hl with | [_, _], _ => rfl
theorem xc39 : fnC T P isTop f39 xr39 = true := by decide +kernel
def xd40 : He.DefD := ⟨("_law_even", none), "_law_even", "_law_even", defArgs (top 28), defBody (top 28), defScope (top 28), [], []⟩
def xr40 : FnD := ⟨xd40, ["_law_draws_here", "_law_hidden_here", "_law_goods", "_law_flip", "_law_first", "_law_second", "_law_left", "_law_right"], ["_law_draws_here", "_law_hidden_here"]⟩
theorem xb40 : Bd xr40 := fun _ _ _ _ _ _ us hl => match us, hl with | [_, _], _ => rfl
theorem xc40 : fnC T P isTop f40 xr40 = true := by decide +kernel
def xd41 : He.DefD := ⟨("_law_wide", none), "_law_wide", "_law_wide", defArgs (top 29), defBody (top 29), defScope (top 29), [], []⟩
def xr41 : FnD := ⟨xd41, ["_law_draws_here", "_law_short", "_law_family", "_law_goods", "_law_top", "_law_trades", "_law_hidden_here", "_law_place"], ["_law_draws_here", "_law_short"]⟩
theorem xb41 : Bd xr41 := fun _ _ _ _ _ _ us hl => match us, hl with | [_, _], _ => rfl
theorem xc41 : fnC T P isTop f41 xr41 = true := by decide +kernel
def xd42 : He.DefD := ⟨("_law_touched", none), "_law_touched", "_law_touched", defArgs (top 30), defBody (top 30), defScope (top 30), [], []⟩
def xr42 : FnD := ⟨xd42, ["_law_flags", "_law_bag", "_law_flag", "_law_number"], ["_law_flags", "_law_bag"]⟩
theorem xb42 : Bd xr42 := fun _ _ _ _ _ _ us hl => match us, hl with | [_, _], _ => rfl
theorem xc42 : fnC T P isTop f42 xr42 = true := by decide +kernel
def xd43 : He.DefD := ⟨("_law_filled", none), "_law_filled", "_law_filled", defArgs (top 31), defBody (top 31), defScope (top 31), [], []⟩
def xr43 : FnD := ⟨xd43, ["_law_flags", "_law_left", "_law_right", "_law_good", "_law_unit", "_law_place", "_law_x", "_law_y"], ["_law_flags", "_law_left", "_law_right"]⟩
theorem xb43 : Bd xr43 := fun _ _ _ _ _ _ us hl => match us, hl with | [_, _, _], _ => rfl
theorem xc43 : fnC T P isTop f43 xr43 = true := by decide +kernel
def xd44 : He.DefD := ⟨("_law_changed", none), "_law_changed", "_law_changed", defArgs (top 32), defBody (top 32), defScope (top 32), [], []⟩
def xr44 : FnD := ⟨xd44, ["_law_draws_here", "_law_weights", "_law_kind", "_law_place", "_law_item", "_law_weight"], ["_law_draws_here", "_law_weights"]⟩
theorem xb44 : Bd xr44 := fun _ _ _ _ _ _ us hl => match us, hl with | [_, _], _ => rfl
theorem xc44 : fnC T P isTop f44 xr44 = true := by decide +kernel
def xd19 : He.DefD := ⟨("law", none), "law", "law", defArgs (top 33), defBody (top 33), defScope (top 33), [], []⟩
def xr19 : FnD := ⟨xd19, ["_law_script", "_law_draws_here", "_law_goods", "_law_sure", "_law_flags", "_law_hidden_here", "_law_trades", "_law_place", "_law_left", "_law_right", "_law_market", "_law_weights", "_law_turn", "_law_thing", "_law_due", "_law_told", "_law_bag", "_law_step", "_law_held", "_law_good", "_law_flag", "_law_number"], ["_law_script"]⟩
theorem xb19 : Bd xr19 := fun _ _ _ _ _ _ us hl => match us, hl with | [_], _ => rfl
theorem xc19 : fnC T P isTop f19 xr19 = true := by decide +kernel
def xd20 : He.DefD := ⟨("Market", some "__init__"), "__init__", "Market.__init__", defArgs (inClass (top 18) 0), defBody (inClass (top 18) 0), defScope (inClass (top 18) 0), [], []⟩
def xr20 : FnD := ⟨xd20, ["self", "goods", "trades", "index", "trade"], ["self", "goods", "trades"]⟩
theorem xb20 : Bd xr20 := fun _ _ _ _ _ _ us hl => match us, hl with | [_, _, _], _ => rfl
theorem xc20 : fnC T P isTop f20 xr20 = true := by decide +kernel
def xde4 : He.DefD := ⟨("BadBag", some "__init__"), "__init__", "BadBag.__init__", defArgs (inClass (top 2) 0), defBody (inClass (top 2) 0), defScope (inClass (top 2) 0), [], []⟩
def xre4 : FnD := ⟨xde4, ["self", "part"], ["self", "part"]⟩
theorem xbe4 : Bd xre4 := fun _ _ _ _ _ _ us hl => match us, hl with | [_, _], _ => rfl
theorem xce4 : xinC (T.anm 3) xre4 = true := by decide +kernel
def xde1 : He.DefD := ⟨("BadGoods", some "__init__"), "__init__", "BadGoods.__init__", defArgs (inClass (top 3) 0), defBody (inClass (top 3) 0), defScope (inClass (top 3) 0), [], []⟩
def xre1 : FnD := ⟨xde1, ["self", "goods"], ["self", "goods"]⟩
theorem xbe1 : Bd xre1 := fun _ _ _ _ _ _ us hl => match us, hl with | [_, _], _ => rfl
theorem xce1 : xinC (T.anm 0) xre1 = true := by decide +kernel
def xde2 : He.DefD := ⟨("BadTrade", some "__init__"), "__init__", "BadTrade.__init__", defArgs (inClass (top 4) 0), defBody (inClass (top 4) 0), defScope (inClass (top 4) 0), [], []⟩
def xre2 : FnD := ⟨xde2, ["self", "index"], ["self", "index"]⟩
theorem xbe2 : Bd xre2 := fun _ _ _ _ _ _ us hl => match us, hl with | [_, _], _ => rfl
theorem xce2 : xinC (T.anm 1) xre2 = true := by decide +kernel
def fdL : List (Nat × FnD) := [(0, xr0), (1, xr1), (24, xr24), (25, xr25), (26, xr26), (35, xr35), (2, xr2), (27, xr27), (28, xr28), (29, xr29), (30, xr30), (36, xr36), (37, xr37), (38, xr38), (39, xr39), (40, xr40), (41, xr41), (42, xr42), (43, xr43), (44, xr44), (19, xr19), (20, xr20)]
def fn : List He.DefD := [xd0, xd1, xd24, xd25, xd26, xd35, xd2, xd27, xd28, xd29, xd30, xd36, xd37, xd38, xd39, xd40, xd41, xd42, xd43, xd44, xd19, xd20, xde4, xde1, xde2]
def fa : List He.Fa := [.glo "is_integer", .glo "is_bag", .glo "is_weights", .glo "worth_of", .glo "worth", .glo "is_kept", .glo "is_pair_of_bags", .glo "_law_draws", .glo "_law_draw", .glo "_law_integer", .glo "_law_worth", .glo "_law_keeps", .glo "_law_stepped", .glo "_law_any", .glo "_law_hidden", .glo "_law_even", .glo "_law_wide", .glo "_law_touched", .glo "_law_filled", .glo "_law_changed", .glo "law", .glo "BarterError", .glo "BadBag", .glo "BadGoods", .glo "BadTrade", .glo "BadWeights", .glo "Market", .free "len", .free "abs", .free "max", .free "min", .free "int", .free "bool", .free "str", .free "dict", .free "tuple", .free "list", .free "sum", .free "any", .free "all", .free "sorted", .free "isinstance", .free "range", .free "enumerate", .free "zip", .free "reversed", .free "ValueError", .int "MOST_GOODS" (5), .int "MOST_TRADES" (8), .mkr "Market"]
def ex1 (K : PySem.W.Frag) : Bool := (decide (PySem.W.findIn K (.ref (ca K T 4)) "__init__" = some (some (.ref (He.fAd K xde4.at_)))) && decide (PySem.W.typeIn K (.ref (He.fAd K xde4.at_)) = some (.type "function"))) && (decide (PySem.W.findIn K (.ref (ca K T 1)) "__init__" = some (some (.ref (He.fAd K xde1.at_)))) && decide (PySem.W.typeIn K (.ref (He.fAd K xde1.at_)) = some (.type "function"))) && (decide (PySem.W.findIn K (.ref (ca K T 2)) "__init__" = some (some (.ref (He.fAd K xde2.at_)))) && decide (PySem.W.typeIn K (.ref (He.fAd K xde2.at_)) = some (.type "function")))
def ex (K : PySem.W.Frag) : Bool := clsC K T P clsL && (exnsC K T P clsL && ex1 K)
theorem facts {K : PySem.W.Frag} {h : Heap} {mg : Str → Option Value} (X : K.In h) (G : h.Ns mainGlobals mg) (c : He.SaysD fa fn K) (e : ex K = true) : Txt T P isTop K mg (fun f => fdL.lookup f) where
  tab := tab_of rfl (He.ba e).1 (by decide +kernel) rfl
  xt := xtab_of rfl (He.ba (He.ba e).2).1
  fre := fun x hx => by
    simp only [bnames, List.mem_cons, List.not_mem_nil, or_false] at hx
    rcases hx with rfl | rfl | rfl | rfl | rfl | rfl | rfl | rfl | rfl | rfl | rfl | rfl | rfl | rfl | rfl | rfl | rfl | rfl | rfl | rfl
    · exact He.free_ok X G (c.fact 27 (f := .free "len") rfl)
    · exact He.free_ok X G (c.fact 28 (f := .free "abs") rfl)
    · exact He.free_ok X G (c.fact 29 (f := .free "max") rfl)
    · exact He.free_ok X G (c.fact 30 (f := .free "min") rfl)
    · exact He.free_ok X G (c.fact 31 (f := .free "int") rfl)
    · exact He.free_ok X G (c.fact 32 (f := .free "bool") rfl)
    · exact He.free_ok X G (c.fact 33 (f := .free "str") rfl)
    · exact He.free_ok X G (c.fact 34 (f := .free "dict") rfl)
    · exact He.free_ok X G (c.fact 35 (f := .free "tuple") rfl)
    · exact He.free_ok X G (c.fact 36 (f := .free "list") rfl)
    · exact He.free_ok X G (c.fact 37 (f := .free "sum") rfl)
    · exact He.free_ok X G (c.fact 38 (f := .free "any") rfl)
    · exact He.free_ok X G (c.fact 39 (f := .free "all") rfl)
    · exact He.free_ok X G (c.fact 40 (f := .free "sorted") rfl)
    · exact He.free_ok X G (c.fact 41 (f := .free "isinstance") rfl)
    · exact He.free_ok X G (c.fact 42 (f := .free "range") rfl)
    · exact He.free_ok X G (c.fact 43 (f := .free "enumerate") rfl)
    · exact He.free_ok X G (c.fact 44 (f := .free "zip") rfl)
    · exact He.free_ok X G (c.fact 45 (f := .free "reversed") rfl)
    · exact He.free_ok X G (c.fact 46 (f := .free "ValueError") rfl)
  gint := fun i d hd => by
    have hm := lookup_mem (show ([(0, .int 5), (1, .int 8)] : List (Nat × D)).lookup i = some d from hd)
    simp only [List.mem_cons, List.not_mem_nil, or_false, Prod.mk.injEq] at hm
    rcases hm with ⟨rfl, rfl⟩ | ⟨rfl, rfl⟩
    · obtain ⟨t, ht⟩ := He.int_ok X G (c.fact 47 (f := .int "MOST_GOODS" (5)) rfl); exact ⟨_, t, rfl, ht⟩
    · obtain ⟨t, ht⟩ := He.int_ok X G (c.fact 48 (f := .int "MOST_TRADES" (8)) rfl); exact ⟨_, t, rfl, ht⟩
  clsG := fun k kc hk => by
    have hm := lookup_mem (show clsL.lookup k = some kc from hk)
    simp only [clsL, List.mem_cons, List.not_mem_nil, or_false, Prod.mk.injEq] at hm
    rcases hm with ⟨rfl, rfl⟩ | ⟨rfl, rfl⟩ | ⟨rfl, rfl⟩ | ⟨rfl, rfl⟩ | ⟨rfl, rfl⟩ | ⟨rfl, rfl⟩
    · exact He.glo_ok X G (c.fact 21 (f := .glo "BarterError") rfl)
    · exact He.glo_ok X G (c.fact 22 (f := .glo "BadBag") rfl)
    · exact He.glo_ok X G (c.fact 23 (f := .glo "BadGoods") rfl)
    · exact He.glo_ok X G (c.fact 24 (f := .glo "BadTrade") rfl)
    · exact He.glo_ok X G (c.fact 25 (f := .glo "BadWeights") rfl)
    · exact He.glo_ok X G (c.fact 26 (f := .glo "Market") rfl)
  def_ := fun f fn' hf => by
    have hm := lookup_mem (show fnL.lookup f = some fn' from hf)
    simp only [fnL, List.mem_cons, List.not_mem_nil, or_false, Prod.mk.injEq] at hm
    rcases hm with ⟨rfl, rfl⟩ | ⟨rfl, rfl⟩ | ⟨rfl, rfl⟩ | ⟨rfl, rfl⟩ | ⟨rfl, rfl⟩ | ⟨rfl, rfl⟩ | ⟨rfl, rfl⟩ | ⟨rfl, rfl⟩ | ⟨rfl, rfl⟩ | ⟨rfl, rfl⟩ | ⟨rfl, rfl⟩ | ⟨rfl, rfl⟩ | ⟨rfl, rfl⟩ | ⟨rfl, rfl⟩ | ⟨rfl, rfl⟩ | ⟨rfl, rfl⟩ | ⟨rfl, rfl⟩ | ⟨rfl, rfl⟩ | ⟨rfl, rfl⟩ | ⟨rfl, rfl⟩ | ⟨rfl, rfl⟩ | ⟨rfl, rfl⟩
    · obtain ⟨fdd, F⟩ := c.def_ 0 (d := xd0) rfl; exact ⟨xr0, fdd, rfl, xc0, xb0, F⟩
    · obtain ⟨fdd, F⟩ := c.def_ 1 (d := xd1) rfl; exact ⟨xr1, fdd, rfl, xc1, xb1, F⟩
    · obtain ⟨fdd, F⟩ := c.def_ 2 (d := xd24) rfl; exact ⟨xr24, fdd, rfl, xc24, xb24, F⟩
    · obtain ⟨fdd, F⟩ := c.def_ 3 (d := xd25) rfl; exact ⟨xr25, fdd, rfl, xc25, xb25, F⟩
    · obtain ⟨fdd, F⟩ := c.def_ 4 (d := xd26) rfl; exact ⟨xr26, fdd, rfl, xc26, xb26, F⟩
    · obtain ⟨fdd, F⟩ := c.def_ 5 (d := xd35) rfl; exact ⟨xr35, fdd, rfl, xc35, xb35, F⟩
    · obtain ⟨fdd, F⟩ := c.def_ 6 (d := xd2) rfl; exact ⟨xr2, fdd, rfl, xc2, xb2, F⟩
    · obtain ⟨fdd, F⟩ := c.def_ 7 (d := xd27) rfl; exact ⟨xr27, fdd, rfl, xc27, xb27, F⟩
    · obtain ⟨fdd, F⟩ := c.def_ 8 (d := xd28) rfl; exact ⟨xr28, fdd, rfl, xc28, xb28, F⟩
    · obtain ⟨fdd, F⟩ := c.def_ 9 (d := xd29) rfl; exact ⟨xr29, fdd, rfl, xc29, xb29, F⟩
    · obtain ⟨fdd, F⟩ := c.def_ 10 (d := xd30) rfl; exact ⟨xr30, fdd, rfl, xc30, xb30, F⟩
    · obtain ⟨fdd, F⟩ := c.def_ 11 (d := xd36) rfl; exact ⟨xr36, fdd, rfl, xc36, xb36, F⟩
    · obtain ⟨fdd, F⟩ := c.def_ 12 (d := xd37) rfl; exact ⟨xr37, fdd, rfl, xc37, xb37, F⟩
    · obtain ⟨fdd, F⟩ := c.def_ 13 (d := xd38) rfl; exact ⟨xr38, fdd, rfl, xc38, xb38, F⟩
    · obtain ⟨fdd, F⟩ := c.def_ 14 (d := xd39) rfl; exact ⟨xr39, fdd, rfl, xc39, xb39, F⟩
    · obtain ⟨fdd, F⟩ := c.def_ 15 (d := xd40) rfl; exact ⟨xr40, fdd, rfl, xc40, xb40, F⟩
    · obtain ⟨fdd, F⟩ := c.def_ 16 (d := xd41) rfl; exact ⟨xr41, fdd, rfl, xc41, xb41, F⟩
    · obtain ⟨fdd, F⟩ := c.def_ 17 (d := xd42) rfl; exact ⟨xr42, fdd, rfl, xc42, xb42, F⟩
    · obtain ⟨fdd, F⟩ := c.def_ 18 (d := xd43) rfl; exact ⟨xr43, fdd, rfl, xc43, xb43, F⟩
    · obtain ⟨fdd, F⟩ := c.def_ 19 (d := xd44) rfl; exact ⟨xr44, fdd, rfl, xc44, xb44, F⟩
    · obtain ⟨fdd, F⟩ := c.def_ 20 (d := xd19) rfl; exact ⟨xr19, fdd, rfl, xc19, xb19, F⟩
    · obtain ⟨fdd, F⟩ := c.def_ 21 (d := xd20) rfl; exact ⟨xr20, fdd, rfl, xc20, xb20, F⟩
  glo := fun f fn' r hf ht hr => by
    have hm := lookup_mem (show fdL.lookup f = some r from hr)
    simp only [fdL, List.mem_cons, List.not_mem_nil, or_false, Prod.mk.injEq] at hm
    rcases hm with ⟨rfl, rfl⟩ | ⟨rfl, rfl⟩ | ⟨rfl, rfl⟩ | ⟨rfl, rfl⟩ | ⟨rfl, rfl⟩ | ⟨rfl, rfl⟩ | ⟨rfl, rfl⟩ | ⟨rfl, rfl⟩ | ⟨rfl, rfl⟩ | ⟨rfl, rfl⟩ | ⟨rfl, rfl⟩ | ⟨rfl, rfl⟩ | ⟨rfl, rfl⟩ | ⟨rfl, rfl⟩ | ⟨rfl, rfl⟩ | ⟨rfl, rfl⟩ | ⟨rfl, rfl⟩ | ⟨rfl, rfl⟩ | ⟨rfl, rfl⟩ | ⟨rfl, rfl⟩ | ⟨rfl, rfl⟩ | ⟨rfl, rfl⟩
    · exact He.glo_ok X G (c.fact 0 (f := .glo "is_integer") rfl)
    · exact He.glo_ok X G (c.fact 1 (f := .glo "is_bag") rfl)
    · exact He.glo_ok X G (c.fact 2 (f := .glo "is_weights") rfl)
    · exact He.glo_ok X G (c.fact 3 (f := .glo "worth_of") rfl)
    · exact He.glo_ok X G (c.fact 4 (f := .glo "worth") rfl)
    · exact He.glo_ok X G (c.fact 5 (f := .glo "is_kept") rfl)
    · exact He.glo_ok X G (c.fact 6 (f := .glo "is_pair_of_bags") rfl)
    · exact He.glo_ok X G (c.fact 7 (f := .glo "_law_draws") rfl)
    · exact He.glo_ok X G (c.fact 8 (f := .glo "_law_draw") rfl)
    · exact He.glo_ok X G (c.fact 9 (f := .glo "_law_integer") rfl)
    · exact He.glo_ok X G (c.fact 10 (f := .glo "_law_worth") rfl)
    · exact He.glo_ok X G (c.fact 11 (f := .glo "_law_keeps") rfl)
    · exact He.glo_ok X G (c.fact 12 (f := .glo "_law_stepped") rfl)
    · exact He.glo_ok X G (c.fact 13 (f := .glo "_law_any") rfl)
    · exact He.glo_ok X G (c.fact 14 (f := .glo "_law_hidden") rfl)
    · exact He.glo_ok X G (c.fact 15 (f := .glo "_law_even") rfl)
    · exact He.glo_ok X G (c.fact 16 (f := .glo "_law_wide") rfl)
    · exact He.glo_ok X G (c.fact 17 (f := .glo "_law_touched") rfl)
    · exact He.glo_ok X G (c.fact 18 (f := .glo "_law_filled") rfl)
    · exact He.glo_ok X G (c.fact 19 (f := .glo "_law_changed") rfl)
    · exact He.glo_ok X G (c.fact 20 (f := .glo "law") rfl)
    · exact absurd ht (by decide)
  mks := fun k kc f fn' r hk hx hi hf hr => by
    have hm := lookup_mem (show clsL.lookup k = some kc from hk)
    simp only [clsL, List.mem_cons, List.not_mem_nil, or_false, Prod.mk.injEq] at hm
    rcases hm with ⟨rfl, rfl⟩ | ⟨rfl, rfl⟩ | ⟨rfl, rfl⟩ | ⟨rfl, rfl⟩ | ⟨rfl, rfl⟩ | ⟨rfl, rfl⟩
    · cases hx
    · cases hx
    · cases hx
    · cases hx
    · cases hx
    · cases hi; have e2 : some xr20 = some r := hr; cases e2; exact He.mkr_ok (c.fact 49 (f := .mkr "Market") rfl)
  xin := fun k kc f hk hx hf => by
    have hm := lookup_mem (show clsL.lookup k = some kc from hk)
    have e3 := (He.ba (He.ba e).2).2
    simp only [clsL, List.mem_cons, List.not_mem_nil, or_false, Prod.mk.injEq] at hm
    simp only [ex1, Bool.and_eq_true, decide_eq_true_eq] at e3
    rcases hm with ⟨rfl, rfl⟩ | ⟨rfl, rfl⟩ | ⟨rfl, rfl⟩ | ⟨rfl, rfl⟩ | ⟨rfl, rfl⟩ | ⟨rfl, rfl⟩
    · cases hf
    · cases hf; obtain ⟨fdd, F⟩ := c.def_ 22 (d := xde4) rfl; exact ⟨xre4, fdd, xce4, xbe4, F, (e3.1.1).1, (e3.1.1).2⟩
    · cases hf; obtain ⟨fdd, F⟩ := c.def_ 23 (d := xde1) rfl; exact ⟨xre1, fdd, xce1, xbe1, F, (e3.1.2).1, (e3.1.2).2⟩
    · cases hf; obtain ⟨fdd, F⟩ := c.def_ 24 (d := xde2) rfl; exact ⟨xre2, fdd, xce2, xbe2, F, (e3.2).1, (e3.2).2⟩
    · cases hf
    · cases hx

abbrev R : PySem.W.OpenRow := PySem.W.OpenLaw.row PySem.Challenge.rw_barterback_k45_weights_kept_or_not
abbrev hk : PySem.W.Hook := hookM 8 fa fn ex
def ob (s : PySem.W.SharedT) : Bool × He.AlD := obsM 8 fa fn ex (HandSHeadRun.getT s)
theorem ob_eq (s : PySem.W.SharedT) : ob s = hk.obs s.abs := obsM_eq (HandSHeadRun.getT_eq s)
def loose : List Str := (["BarterError", "BadBag", "BadGoods", "BadTrade", "BadWeights", "MOST_GOODS", "is_integer", "is_bag", "is_weights", "worth_of", "worth", "is_kept", "MOST_TRADES", "is_pair_of_bags", "Market", "_law_draws", "_law_draw", "_law_integer", "_law_worth", "_law_keeps", "_law_stepped", "_law_any", "_law_hidden", "_law_even", "_law_wide", "_law_touched", "_law_filled", "_law_changed"] : List Str)
theorem run (w : World) : HandSHeadRun.RunEq R (PySem.W.view R.prog [33]) hk ob 4000 loose w := by
  intro os
  kernel_rfl

end Lk45
open PySem PySem.W PySem.Calls PyProof.Rows MP
theorem PySem.Challenge.cw_barterback_k45_weights_kept_or_not_holds : PySem.Challenge.rw_barterback_k45_weights_kept_or_not.Holds := by
  w_on; o_law
  refine HandSHeadRun.head_any (r := OpenLaw.row PySem.Challenge.rw_barterback_k45_weights_kept_or_not) (q := view (OpenLaw.row PySem.Challenge.rw_barterback_k45_weights_kept_or_not).prog [33]) (H := Lk45.hk) (ob := Lk45.ob) (M := 4000) (loose := Lk45.loose) (d := HandSHeadRun.topDef (OpenLaw.row PySem.Challenge.rw_barterback_k45_weights_kept_or_not).prog 33) (kwd := []) Lk45.ob_eq
    (by kernel_rfl) (fun s => by kernel_rfl) Lk45.run (by kernel_rfl) (by kernel_rfl) (by kernel_rfl) (by rfl) (by first | assumption | decide +kernel) (by decide +kernel) ⟨rfl, rfl, rfl, rfl, rfl, by decide +kernel⟩ ?hw ?hc
  case hw => w_witness2
  case hc =>
    refine L2.walk_ofE (l := PySem.Challenge.rw_barterback_k45_weights_kept_or_not) (n := 63) (k := 2 * 12 + 2) (x := "_law_script") (CX := CXw (PySem.Challenge.rw_barterback_k45_weights_kept_or_not).prog) rfl (by decide) (by kernel_rfl) ⟨rfl, by decide, by decide⟩ ?F ?cx
    case cx =>
      intro H s e s' z
      obtain ⟨_, _, _, _, _, _, _, _, _, _, _, _, _, z⟩ := z
      exact z
    case F =>
      intro w mg fa h Y G hmg0
      obtain ⟨K, KX, c, e⟩ := Y
      have hmg : mg ("law" : PySem.Str) = some (.ref fa) := by
        have e : (HandSHeadRun.topDef (OpenLaw.row PySem.Challenge.rw_barterback_k45_weights_kept_or_not).prog 33).name = ("law" : PySem.Str) := by kernel_rfl
        rw [← e]
        exact hmg0
      have X := Lk45.facts KX G c e
      have efa : He.fAd K Lk45.xd19.at_ = fa  := law_at (He.glo_ok KX G (c.fact 20 (f := .glo "law") rfl)) hmg
      exact law_F (prog := (PySem.Challenge.rw_barterback_k45_weights_kept_or_not).prog) (w := w) KX X (LAW := 19) (J := 12) (n := 63) (fn := Lk45.f19) (r := Lk45.xr19) (x := "_law_script") rfl rfl rfl rfl efa Lk45.holds
