import PyProof.Rows.All
import Wide.All
import OpenK.AllK
import Wide.FinOn
import HandS.ForMost
import HandS.ForExc
import HandS.Zip
import HandS.NoneIn
import HandS.Style
import HandS.Small
import HandS.Evl
import HandS.ExcCtx
import HandS.HotCalls
import HandS.ExcIs
import HandS.TryMany
import HandS.Head0
import HandS.Head1
import HandS.Head2
import HandS.HeadEnd
import HandS.HeadHook1
import KE.KStateDown
import KE.SortData
import KE.DataMinMax
import KE.OsSortAny
import HandS.Conv
import HandS.TupAny
import HandS.Wide
import HandS.TupMul
import HandS.IsInst
import HandS.Text
import Lean
import PySem.Challenge.RW_wirereadings_k21_whole_numbers_far
set_option Elab.async false
set_option linter.all false
set_option maxRecDepth 100000
set_option maxHeartbeats 0
/-! The evaluator: values by value. -/
namespace Wi
open PySem

/-- data, by value -/
inductive D where
  | non | bl (b : Bool) | int (i : Int) | str (s : List Nat) | tup (ds : List D) | lst (ds : List D)
  deriving Inhabited, BEq

/-- what an expression gives, what a slot holds: fl, fd a list, a dict that nobody else holds; fz a dict that stays; shr a list of the store -/
inductive Rv where
  | v (d : D) | fl (ds : List D) | fd (ks vs : List D) | fz (ks vs : List D) | shr (i : Nat) | fn (k : Nat) | exc (k : Nat) | ro (ds : List D)
  deriving Inhabited

inductive Ob where
  | lst (ds : List D)
  deriving Inhabited

abbrev Sh := List Ob
structure St where
  sl : List (Option Rv)
  sh : Sh
  deriving Inhabited

inductive Res (α : Type) where
  | ok (a : α) (s : St) | exc (k : Nat) (s : St) | err
def Res.bind {α β : Type} (m : Res α) (f : α → St → Res β) : Res β :=
  match m with
  | .ok a s => f a s
  | .exc k s => .exc k s
  | .err => .err
/-- a call's end -/
inductive RC where
  | ok (r : Rv) (sh : Sh) | exc (k : Nat) (sh : Sh) | err

inductive BOp where | add | sub | mul | fdiv | mod | pow
inductive COp where | eq | ne | lt | le | gt | ge | isin | notin | isN | notN | isv
inductive BI where | len | int | str | sum | all | any | tuple | list | min | max | sorted | set | abs
inductive Mt where | index | count | strip | split | values | get
inductive Ty where | int | bool | str | tuple | list | cls (k : Nat) | valueError

mutual
inductive E where
  | stuck | const (d : D) | glob (r : Rv) | slot (i : Nat)
  | bin (op : BOp) (a b : E) | neg (a : E) | not (a : E) | and (a b : E) | or (a b : E) | ite (c a b : E)
  | cmp (op : COp) (a b : E) | cmp2 (op op' : COp) (a b c : E)
  | cmpS (op : COp) (i : Nat) (b : E) | inS (neg : Bool) (a : E) (i : Nat)
  | tup (es : Es) | lst (es : Es) | dict (ks vs : Es) | pick (ks : List (List Nat)) (es : Es) (k : E)
  | call (f : Nat) (es : Es) | callSel (fs : List Nat) (k : E) (es : Es)
  | bi (b : BI) (es : Es) | lenS (i : Nat) | join (sep : List Nat) (e : E) | meth (m : Mt) (o : E) (es : Es)
  | sub (a i : E) | subS (s : Nat) (i : E) | cut (a lo hi : E) | rev (a : E) | step (a k : E)
  | isin (e : E) (ts : List Ty) | rangeL (a : E)
  | comp (elt : E) (tg : List Nat) (one : Bool) (it : It) (cond : Option' ) (vs : List Nat)
inductive Option' where
  | none | some (e : E)
inductive Es where
  | nil | cons (e : E) (es : Es)
inductive It where
  | val (e : E) | range1 (a : E) | range2 (a b : E) | range3 (a b c : E) | enum (a : E) | zip (a b : E)
end

/-- an except suite: by the error's class a value, or one value -/
inductive Hd where
  | which (x f : Nat) | const (d : D)
mutual
inductive S where
  | set (i : Nat) (e : E) | shr (i : Nat) | unp (is : List Nat) (e : E) | par (is : List Nat) (es : Es) | expr (e : E)
  | app (i : Nat) (e : E) | ext (i : Nat) (e : E) | put (i : Nat) (k e : E)
  | ite (c : E) (a b : Ss) | for (tg : List Nat) (one : Bool) (it : It) (b : Ss) | while (c : E) (b : Ss)
  | ret (e : E) | retS (i : Nat) | raise (k : Nat) | cont | pass | tryRet (b : Ss) (ks : List Nat) (h : Hd) | stuck
inductive Ss where
  | nil | cons (s : S) (ss : Ss)
end

/-! ### pure operations -/
def LIM : Nat := 100000
def frz : Rv → Rv
  | .fl ds => .v (.lst ds)
  | .fd ks vs => .fz ks vs
  | r => r
def sIx (n d : Nat) : Option Int → Nat
  | none => d
  | some v => if v < 0 then (v + (n : Int)).toNat else min v.toNat n
def cutL {α : Type} (xs : List α) (lo hi : Option Int) : List α := (xs.drop (sIx xs.length 0 lo)).take (sIx xs.length xs.length hi - sIx xs.length 0 lo)
def ixN (n : Nat) (i : Int) : Option Nat := if 0 ≤ i then (if i < n then some i.toNat else none) else if -(n : Int) ≤ i then some (i + n).toNat else none
def atL {α : Type} (xs : List α) (i : Int) : Option α := (ixN xs.length i).bind fun j => xs[j]?

mutual
def D.dep : D → Nat
  | .tup ds => 1 + D.depL ds
  | .lst ds => 1 + D.depL ds
  | _ => 0
def D.depL : List D → Nat
  | [] => 0
  | d :: ds => max d.dep (D.depL ds)
end
mutual
/-- Python's == -/
def deq : D → D → Bool
  | .non, .non => true
  | .bl a, .bl b => a == b
  | .bl a, .int j => (if a then 1 else 0) == j
  | .int i, .bl b => i == (if b then 1 else 0)
  | .int i, .int j => i == j
  | .str x, .str y => x == y
  | .lst xs, .lst ys => deqL xs ys
  | .tup xs, .tup ys => deqL xs ys
  | _, _ => false
def deqL : List D → List D → Bool
  | [], [] => true
  | x :: xs, y :: ys => deq x y && deqL xs ys
  | _, _ => false
end
def strV (s : List Nat) : Str := ⟨s.toArray⟩
mutual
def D.py : D → PyData
  | .non => .none
  | .bl b => .bool b
  | .int i => .int i
  | .str s => .str (strV s)
  | .tup ds => .tuple (D.pyL ds)
  | .lst ds => .list (D.pyL ds)
def D.pyL : List D → List PyData
  | [] => []
  | d :: ds => d.py :: D.pyL ds
end
/-- Python's < of data that are alike -/
def ltD (a b : D) : Bool := PySem.W.dataLt a.py b.py
def notNon : D → Bool
  | .non => false
  | _ => true
def likeD (a b : D) : Bool := PySem.W.alike a.py b.py
def ordD (a b : D) : Bool := likeD a b && (notNon a && decide (a.dep ≤ 16))
def ordAll (ds : List D) : Bool := (ds.all fun a => ds.all fun b => likeD a b) && ds.all fun a => notNon a && decide (a.dep ≤ 16)
def sortB (ds : List D) : Bool := (ds.all fun d => match d with | .tup (_ :: _) => true | _ => false) || (ds.all fun d => match d with | .tup _ => false | .non => false | _ => true)
def insD (a : D) : List D → List D
  | [] => [a]
  | b :: r => if ltD b a then b :: insD a r else a :: b :: r
def isort : List D → List D
  | [] => []
  | a :: r => insD a (isort r)
def minDD (d : D) (ds : List D) : D := ds.foldl (fun a y => if ltD y a = true then y else a) d
def maxDD (d : D) (ds : List D) : D := ds.foldl (fun a y => if ltD a y = true then y else a) d
def repL {α : Type} (n : Nat) (xs : List α) : List α := (List.replicate n xs).flatten

/-- str(n) -/
def natCodes (n : Nat) : List Nat := (Nat.toDigits 10 n).map Char.toNat
def small (i : Int) : Bool := decide (-(2 ^ 64) < i) && decide (i < 2 ^ 64)
def binD : BOp → Rv → Rv → Option Rv
  | .add, .v (.int i), .v (.int j) => some (.v (.int (i + j)))
  | .add, .v (.str x), .v (.str y) => if x.length + y.length ≤ LIM then some (.v (.str (x ++ y))) else none
  | .add, .v (.tup x), .v (.tup y) => if x.length + y.length ≤ LIM then some (.v (.tup (x ++ y))) else none
  | .add, .v (.lst x), .v (.lst y) => if x.length + y.length ≤ LIM then some (.fl (x ++ y)) else none
  | .sub, .v (.int i), .v (.int j) => some (.v (.int (i - j)))
  | .mul, .v (.int i), .v (.int j) => if small i || small j then some (.v (.int (i * j))) else none
  | .mul, .v (.str x), .v (.int j) => if 0 ≤ j ∧ x.length * j.toNat ≤ LIM ∧ j ≤ LIM then some (.v (.str (repL j.toNat x))) else none
  | .mul, .v (.lst x), .v (.int j) => if 0 ≤ j ∧ x.length * j.toNat ≤ LIM ∧ j ≤ LIM then some (.fl (repL j.toNat x)) else none
  | .mul, .v (.tup x), .v (.int j) => if 2 ≤ j ∧ j ≤ 1000 ∧ 1 ≤ x.length ∧ x.length ≤ 1000 then some (.v (.tup (repL j.toNat x))) else none
  | .fdiv, .v (.int i), .v (.int j) => if 0 < j ∧ j < 18446744073709551616 then some (.v (.int (i / j))) else none
  | .mod, .v (.int i), .v (.int j) => if 0 < j then some (.v (.int (i % j))) else none
  | .pow, .v (.int i), .v (.int j) => if 0 ≤ j ∧ j ≤ 1000000 ∧ small i then some (.v (.int (i ^ j.toNat))) else none
  | _, _, _ => none
/-- x in xs, xs a list or tuple of data -/
def inL (x : D) (xs : List D) : Bool := xs.any fun y => deq y x
def cmpD : COp → Rv → Rv → Option Bool
  | .eq, .v a, .v b => if a.dep ≤ 16 ∨ b.dep ≤ 16 then some (deq a b) else none
  | .ne, .v a, .v b => if a.dep ≤ 16 ∨ b.dep ≤ 16 then some (!deq a b) else none
  | .eq, .ro a, .v b => if b.dep ≤ 16 then some (deq (.lst a) b) else none
  | .lt, .v (.int i), .v (.int j) => some (decide (i < j))
  | .le, .v (.int i), .v (.int j) => some (decide (i ≤ j))
  | .gt, .v (.int i), .v (.int j) => some (decide (j < i))
  | .ge, .v (.int i), .v (.int j) => some (decide (j ≤ i))
  | .lt, .v a, .v b => if ordD a b = true then some (ltD a b) else none
  | .le, .v a, .v b => if ordD a b = true then some (!ltD b a) else none
  | .gt, .v a, .v b => if ordD a b = true then some (ltD b a) else none
  | .ge, .v a, .v b => if ordD a b = true then some (!ltD a b) else none
  | .isv, .v (.bl a), .v (.bl b) => some (a == b)
  | .isv, .v .non, .v (.bl _) => some false
  | .isin, .v (.str [c]), .v (.str y) => some (y.contains c)
  | .notin, .v (.str [c]), .v (.str y) => some (!y.contains c)
  | .isin, .v a, .v (.tup xs) => if a.dep ≤ 16 then some (inL a xs) else none
  | .isin, .v a, .v (.lst xs) => if a.dep ≤ 16 then some (inL a xs) else none
  | .notin, .v a, .v (.tup xs) => if a.dep ≤ 16 then some (!inL a xs) else none
  | .notin, .v a, .v (.lst xs) => if a.dep ≤ 16 then some (!inL a xs) else none
  | .isN, .v a, .v .non => some (match a with | .non => true | _ => false)
  | .notN, .v a, .v .non => some (match a with | .non => false | _ => true)
  | _, _, _ => none
def lookD (k : D) : List D → List D → Option D
  | a :: ks, b :: vs => if deq a k then some b else lookD k ks vs
  | _, _ => none
def putK (k w : D) : List D → List D → List D × List D
  | a :: ks, b :: vs => if deq a k then (a :: ks, w :: vs) else let r := putK k w ks vs; (a :: r.1, b :: r.2)
  | _, _ => ([k], [w])
def subD : Rv → Rv → Option Rv
  | .v (.str x), .v (.int i) => (atL x i).map fun c => .v (.str [c])
  | .v (.tup xs), .v (.int i) => (atL xs i).map .v
  | .v (.lst xs), .v (.int i) => (atL xs i).map .v
  | .fl xs, .v (.int i) => (atL xs i).map .v
  | .ro xs, .v (.int i) => (atL xs i).map .v
  | .fd ks vs, .v k => if k.dep ≤ 8 then (lookD k ks vs).map .v else none
  | .fz ks vs, .v k => if k.dep ≤ 8 then (lookD k ks vs).map .v else none
  | _, _ => none
def noneB : E → Bool
  | .const .non => true
  | _ => false
/-- a slice's part: left out, or a number -/
def partI (e : E) (r : Rv) : Option (Option Int) := if noneB e = true then some none else match r with | .v (.int i) => some (some i) | _ => none
def cutD (x : Rv) (lo hi : Option Int) : Option Rv :=
  match x with
  | .v (.str x) => some (.v (.str (cutL x lo hi)))
  | .v (.tup x) => some (.v (.tup (cutL x lo hi)))
  | .v (.lst x) => some (.fl (cutL x lo hi))
  | _ => none
def revD : Rv → Option Rv
  | .v (.lst x) => some (.fl x.reverse)
  | _ => none
def intsD : List D → Option (List Int)
  | [] => some []
  | .int i :: r => (intsD r).map (i :: ·)
  | _ :: _ => none
def boolsD : List D → Option (List Bool)
  | [] => some []
  | .bl i :: r => (boolsD r).map (i :: ·)
  | _ :: _ => none
def strsD : List D → Option (List (List Nat))
  | [] => some []
  | .str i :: r => (strsD r).map (i :: ·)
  | _ :: _ => none
def seqOf : Rv → Option (List D)
  | .v (.tup ds) => some ds
  | .v (.lst ds) => some ds
  | _ => none
def lenD : Rv → Option Nat
  | .v (.str x) => some x.length
  | .v (.tup x) => some x.length
  | .v (.lst x) => some x.length
  | .fl x => some x.length
  | .ro x => some x.length
  | .fz ks _ => some ks.length
  | .fd ks _ => some ks.length
  | _ => none
def biD : BI → List Rv → Option Rv
  | .len, [r] => (lenD r).map fun (n : Nat) => .v (.int (n : Int))
  | .int, [.v (.int i)] => some (.v (.int i))
  | .int, [.v (.bl b)] => some (.v (.int (if b then 1 else 0)))
  | .int, [.v (.str s)] => if s.length ≤ 640 then (PySem.intText? ⟨s.toArray⟩).map fun n => .v (.int n) else none
  | .str, [.v (.int i)] => if 0 ≤ i ∧ i < 1000000000 then some (.v (.str (natCodes i.toNat))) else none
  | .sum, [.v (.lst ds)] => (intsD ds).map fun l => .v (.int l.sum)
  | .all, [.v (.lst ds)] => (boolsD ds).map fun l => .v (.bl (l.all id))
  | .any, [.v (.lst ds)] => (boolsD ds).map fun l => .v (.bl (l.any id))
  | .tuple, [.v (.lst ds)] => some (.v (.tup ds))
  | .tuple, [.v (.tup ds)] => some (.v (.tup ds))
  | .list, [.v (.lst ds)] => some (.fl ds)
  | .list, [.v (.tup ds)] => some (.fl ds)
  | .min, [.v (.int i), .v (.int j)] => some (.v (.int (if j < i then j else i)))
  | .max, [.v (.int i), .v (.int j)] => some (.v (.int (if j > i then j else i)))
  | .min, [.v (.lst (d :: ds))] => if ordAll (d :: ds) = true then some (.v (minDD d ds)) else none
  | .max, [.v (.lst (d :: ds))] => if ordAll (d :: ds) = true then some (.v (maxDD d ds)) else none
  | .sorted, [.v (.lst ds)] => if ordAll ds = true ∧ sortB ds = true ∧ ds.length ≤ LIM then some (.fl (isort ds)) else none
  | _, _ => none
def joinL (sep : List Nat) : List (List Nat) → List Nat
  | [] => []
  | [x] => x
  | x :: y :: r => x ++ (sep ++ joinL sep (y :: r))
def joinD (sep : List Nat) : Rv → Option Rv
  | .v (.lst ds) => (strsD ds).bind fun l => if (l.map List.length).sum + l.length * sep.length ≤ LIM then some (.v (.str (joinL sep l))) else none
  | _ => none
def ixOf (x : D) : List D → Option Nat
  | [] => none
  | y :: r => if deq y x then some 0 else (ixOf x r).map (· + 1)
def flatD : D → Bool
  | .tup _ => false
  | .lst _ => false
  | _ => true
def methD : Mt → Rv → List Rv → Option Rv
  | .index, .v (.lst ds), [.v x] => if flatD x = true ∧ ds.all flatD = true ∧ ds.length ≤ LIM then (ixOf x ds).map fun (n : Nat) => .v (.int (n : Int)) else none
  | .count, .v (.lst ds), [.v x] => if flatD x = true ∧ ds.all flatD = true then some (.v (.int ((ds.countP fun y => deq y x : Nat) : Int))) else none
  | _, _, _ => none
def tyD (t : Ty) : Rv → Option Bool
  | .v d => match t with
    | .int => some (match d with | .int _ => true | .bl _ => true | _ => false)
    | .bool => some (match d with | .bl _ => true | _ => false)
    | .str => some (match d with | .str _ => true | _ => false)
    | .tuple => some (match d with | .tup _ => true | _ => false)
    | .list => some (match d with | .lst _ => true | _ => false)
    | _ => none
  | .exc k => match t with
    | .cls j => if j = 0 then none else some (k == j)
    | .valueError => some true
    | _ => none
  | _ => none
def tysD : List Ty → Rv → Option Bool
  | [], _ => some false
  | t :: r, x => (tyD t x).bind fun b => if b then some true else tysD r x

def isLst : Rv → Bool
  | .v (.lst _) => true
  | _ => false
/-! ### states -/
def ofOpt {α : Type} (o : Option α) (s : St) : Res α := match o with | some a => .ok a s | none => .err
def rd (i : Nat) (s : St) : Res Rv :=
  match s.sl[i]? with
  | some (some r) => match r with
    | .fl ds => .ok (.v (.lst ds)) { s with sl := s.sl.set i (some (.v (.lst ds))) }
    | .fd ks vs => .ok (.fz ks vs) { s with sl := s.sl.set i (some (.fz ks vs)) }
    | r => .ok r s
  | _ => .err
/-- what a slot holds, seen, not handed on -/
def peek (i : Nat) (s : St) : Option Rv :=
  match s.sl[i]? with
  | some (some (.shr k)) => match s.sh[k]? with
    | some (.lst ds) => some (.fl ds)
    | _ => none
  | some (some r) => some r
  | _ => none
def put (i : Nat) (r : Rv) (s : St) : Res Unit := if i < s.sl.length then .ok () { s with sl := s.sl.set i (some r) } else .err
def wipe (vs : List Nat) (s : St) : St := { s with sl := vs.foldr (fun i sl => sl.set i none) s.sl }
def ownAt (sl : List (Option Rv)) (i : Nat) : Bool := match sl[i]? with | some (some (.fl _)) => true | some (some (.fd _ _)) => true | _ => false
def puts : List Nat → List D → St → Res Unit
  | [], [], s => .ok () s
  | i :: is, d :: ds, s => (put i (.v d) s).bind fun _ s => puts is ds s
  | _, _, _ => .err
def setTg (tg : List Nat) (one : Bool) (d : D) (s : St) : Res Unit :=
  if one then (match tg with | [i] => put i (.v d) s | _ => .err)
  else match d with
    | .tup ds => puts tg ds s
    | _ => .err
/-- behind a comprehension: its own slots as they were -/
def back (vs : List Nat) (s0 : St) (s : St) : St := { s with sl := vs.foldr (fun i sl => sl.set i (s0.sl[i]?.getD none)) s.sl }
def compL (f : D → St → Res (Option D)) : List D → List D → St → Res (List D)
  | [], acc, s => .ok acc s
  | d :: ds, acc, s => match f d s with
    | .ok (some x) s => compL f ds (acc ++ [x]) s
    | .ok none s => compL f ds acc s
    | _ => .err
inductive Fl where | nx | ct | rt (r : Rv)
def forL (f : D → St → Res Fl) : List D → St → Res Fl
  | [], s => .ok .nx s
  | d :: ds, s => (f d s).bind fun fl s => match fl with
    | .rt r => .ok (.rt r) s
    | _ => forL f ds s
def whileN (c : St → Res Rv) (f : St → Res Fl) : Nat → St → Res Fl
  | 0, _ => .err
  | n + 1, s => (c s).bind fun r s => match r with
    | .v (.bl false) => .ok .nx s
    | .v (.bl true) => (f s).bind fun fl s => match fl with
      | .rt r => .ok (.rt r) s
      | _ => whileN c f n s
    | _ => .err
def WN : Nat := 5000
def rangeD (a : Int) : Nat → List D
  | 0 => []
  | n + 1 => .int a :: rangeD (a + 1) n
def stepD (a k : Int) : Nat → List D
  | 0 => []
  | n + 1 => .int a :: stepD (a + k) k n
def itD : Rv → Option (List D)
  | .v (.tup ds) => some ds
  | .v (.lst ds) => some ds
  | .v (.str s) => some (s.map fun c => .str [c])
  | _ => none
def okI (i : Int) : Bool := decide (-1000000 < i) && decide (i < 1000000)
def enumD (n : Nat) : List D → List D
  | [] => []
  | d :: ds => .tup [.int n, d] :: enumD (n + 1) ds
def zipD : List D → List D → List D
  | a :: as, b :: bs => .tup [a, b] :: zipD as bs
  | _, _ => []
def fzr (m : Res Rv) : Res Rv := m.bind fun r s => .ok (frz r) s
abbrev Gam := Nat → List Rv → Sh → RC
def callR (g : Gam) (f : Nat) (args : List Rv) (s : St) : Res Rv :=
  match g f args s.sh with
  | .ok r sh => .ok r { s with sh := sh }
  | .exc k sh => .exc k { s with sh := sh }
  | .err => .err

mutual
def ev (g : Gam) : E → St → Res Rv
  | .stuck, s => .err
  | .const d, s => .ok (.v d) s
  | .glob r, s => .ok r s
  | .slot i, s => rd i s
  | .bin op a b, s => (fzr (ev g a s)).bind fun x s => (fzr (ev g b s)).bind fun y s => ofOpt (binD op x y) s
  | .neg a, s => (fzr (ev g a s)).bind fun x s => match x with | .v (.int i) => .ok (.v (.int (-i))) s | _ => .err
  | .not a, s => (ev g a s).bind fun x s => match x with | .v (.bl b) => .ok (.v (.bl (!b))) s | _ => .err
  | .and a b, s => (ev g a s).bind fun x s => match x with | .v (.bl true) => ev g b s | .v (.bl false) => .ok (.v (.bl false)) s | _ => .err
  | .or a b, s => (ev g a s).bind fun x s => match x with | .v (.bl false) => ev g b s | .v (.bl true) => .ok (.v (.bl true)) s | _ => .err
  | .ite c a b, s => (ev g c s).bind fun x s => match x with | .v (.bl true) => ev g a s | .v (.bl false) => ev g b s | _ => .err
  | .cmp op a b, s => (fzr (ev g a s)).bind fun x s => (fzr (ev g b s)).bind fun y s => (ofOpt (cmpD op x y) s).bind fun b s => .ok (.v (.bl b)) s
  | .cmp2 op op' a b c, s => (fzr (ev g a s)).bind fun x s => (fzr (ev g b s)).bind fun y s => (ofOpt (cmpD op x y) s).bind fun t s =>
      if t then (fzr (ev g c s)).bind fun z s => (ofOpt (cmpD op' y z) s).bind fun b s => .ok (.v (.bl b)) s else .ok (.v (.bl false)) s
  | .cmpS op i b, s => if (peek i s).isSome = true then (fzr (ev g b s)).bind fun y s => match peek i s with
      | some x => (ofOpt (cmpD op (frz x) y) s).bind fun b s => .ok (.v (.bl b)) s
      | none => .err
    else .err
  | .inS n a i, s => (fzr (ev g a s)).bind fun x s => match peek i s with
      | some y => (ofOpt (cmpD (if n then .notin else .isin) x (frz y)) s).bind fun b s => .ok (.v (.bl b)) s
      | none => .err
  | .tup es, s => (evs g es s).bind fun xs s => match xs.mapM (fun r => match r with | .v d => some d | _ => none) with
      | some ds => .ok (.v (.tup ds)) s
      | none => .err
  | .lst es, s => (evs g es s).bind fun xs s => match xs.mapM (fun r => match r with | .v d => some d | _ => none) with
      | some ds => .ok (.fl ds) s
      | none => .err
  | .dict ks vs, s => .err
  | .pick ks es k, s => (evs g es s).bind fun xs s => (fzr (ev g k s)).bind fun y s => match y with
      | .v (.str z) => match (ks.zip xs).lookup z with
        | some r => .ok r s
        | none => .err
      | _ => .err
  | .call f es, s => (evs g es s).bind fun xs s => callR g f xs s
  | .callSel fs k es, s => (ev g k s).bind fun x s => match x with
      | .v (.int i) => match atL fs i with
        | some f => (evs g es s).bind fun xs s => callR g f xs s
        | none => .err
      | _ => .err
  | .bi b es, s => (evs g es s).bind fun xs s => ofOpt (biD b xs) s
  | .lenS i, s => match (peek i s).bind lenD with
      | some n => .ok (.v (.int n)) s
      | none => .err
  | .join sep e, s => (fzr (ev g e s)).bind fun x s => ofOpt (joinD sep x) s
  | .meth m o es, s => (fzr (ev g o s)).bind fun x s => if isLst x = true then (evs g es s).bind fun xs s => ofOpt (methD m x xs) s else .err
  | .sub a i, s => (fzr (ev g a s)).bind fun x s => (fzr (ev g i s)).bind fun y s => ofOpt (subD x y) s
  | .subS k i, s => if (peek k s).isSome = true then (fzr (ev g i s)).bind fun y s => match peek k s with
      | some x => ofOpt (subD x y) s
      | none => .err
    else .err
  | .cut a lo hi, s => (fzr (ev g a s)).bind fun x s => (fzr (ev g lo s)).bind fun l s => (ofOpt (partI lo l) s).bind fun ol s =>
      (fzr (ev g hi s)).bind fun h s => (ofOpt (partI hi h) s).bind fun oh s => ofOpt (cutD x ol oh) s
  | .rev a, s => (fzr (ev g a s)).bind fun x s => ofOpt (revD x) s
  | .step a k, s => .err
  | .rangeL a, s => (fzr (ev g a s)).bind fun x s => match x with | .v (.int i) => if okI i = true then .ok (.fl (rangeD 0 i.toNat)) s else .err | _ => .err
  | .isin e ts, s => (fzr (ev g e s)).bind fun x s => (ofOpt (tysD ts x) s).bind fun b s => .ok (.v (.bl b)) s
  | .comp elt tg one it cond vs, s => (evIt g it s).bind fun ds s0 =>
      if (vs.any (ownAt s0.sl) || decide (LIM < ds.length)) = true then .err else
      (compL (fun d s => (setTg tg one d (wipe vs s)).bind fun _ s => (evO g cond s).bind fun b s =>
        if b = true then (fzr (ev g elt s)).bind fun r s => match r with | .v x => .ok (some x) s | _ => .err else .ok none s) ds [] s0).bind fun xs s => .ok (.fl xs) (back vs s0 s)
def evO (g : Gam) : Option' → St → Res Bool
  | .none, s => .ok true s
  | .some e, s => (ev g e s).bind fun x s => match x with | .v (.bl b) => .ok b s | _ => .err
def evs (g : Gam) : Es → St → Res (List Rv)
  | .nil, s => .ok [] s
  | .cons e es, s => (ev g e s).bind fun r s => (evs g es s).bind fun rs s => .ok (frz r :: rs) s
def evIt (g : Gam) : It → St → Res (List D)
  | .val e, s => (fzr (ev g e s)).bind fun x s => ofOpt (itD x) s
  | .range1 a, s => (fzr (ev g a s)).bind fun x s => match x with | .v (.int i) => if okI i = true then .ok (rangeD 0 i.toNat) s else .err | _ => .err
  | .range2 a b, s => (fzr (ev g a s)).bind fun x s => (fzr (ev g b s)).bind fun y s => match x, y with
      | .v (.int i), .v (.int j) => if okI i = true ∧ okI j = true then .ok (rangeD i (j - i).toNat) s else .err
      | _, _ => .err
  | .range3 a b c, s => (fzr (ev g a s)).bind fun x s => (fzr (ev g b s)).bind fun y s => (fzr (ev g c s)).bind fun z s => match x, y, z with
      | .v (.int i), .v (.int j), .v (.int k) => if (okI i && okI j && okI k && !(k == 0) && PySem.Builtin.Range.small i j k) = true then .ok (stepD i k (PySem.Builtin.Range.rangeSize i j k).toNat) s else .err
      | _, _, _ => .err
  | .enum a, s => (fzr (ev g a s)).bind fun x s => match x with | .v (.lst ds) => .ok (enumD 0 ds) s | _ => .err
  | .zip a b, s => (fzr (ev g a s)).bind fun x s => (fzr (ev g b s)).bind fun y s => match x, y with
      | .v (.lst xs), .v (.lst ys) => .ok (zipD xs ys) s
      | .v (.tup xs), .v (.tup ys) => .ok (zipD xs ys) s
      | _, _ => .err
end

/-! ### statements -/
def putsR : List Nat → List Rv → St → Res Unit
  | [], [], s => .ok () s
  | i :: is, r :: rs, s => (put i r s).bind fun _ s => putsR is rs s
  | _, _, _ => .err
def lstAt (i : Nat) (s : St) : Bool := match s.sl[i]? with
  | some (some (.fl _)) => true
  | some (some (.shr k)) => match s.sh[k]? with
    | some (.lst _) => true
    | _ => false
  | _ => false
def app1 (i : Nat) (d : D) (s : St) : Res Fl :=
  match s.sl[i]? with
  | some (some (.fl ds)) => if ds.length < LIM then .ok .nx { s with sl := s.sl.set i (some (.fl (ds ++ [d]))) } else .err
  | some (some (.shr k)) => match s.sh[k]? with
    | some (.lst ds) => if ds.length < LIM then .ok .nx { s with sh := s.sh.set k (.lst (ds ++ [d])) } else .err
    | _ => .err
  | _ => .err
def ext1 (i : Nat) (xs : List D) (s : St) : Res Fl :=
  match s.sl[i]? with
  | some (some (.fl ds)) => if ds.length + xs.length ≤ LIM then .ok .nx { s with sl := s.sl.set i (some (.fl (ds ++ xs))) } else .err
  | _ => .err
def put1 (i : Nat) (k w : Rv) (s : St) : Res Fl :=
  match s.sl[i]?, k, w with
  | some (some (.fl ds)), .v (.int j), .v w => match ixN ds.length j with
    | some n => .ok .nx { s with sl := s.sl.set i (some (.fl (ds.set n w))) }
    | none => .err
  | some (some (.fd ks vs)), .v k, .v w => if k.dep ≤ 8 ∧ ks.length < LIM then let r := putK k w ks vs; .ok .nx { s with sl := s.sl.set i (some (.fd r.1 r.2)) } else .err
  | _, _, _ => .err
def caught (ks : List Nat) (k : Nat) : Bool := decide (k < 13) && ks.any fun h => h == 0 || h == k
def handed (g : Gam) (h : Hd) (k : Nat) (s : St) : Res Fl :=
  match h with
  | .const d => .ok (.rt (.v d)) s
  | .which x f => if x < s.sl.length then (match g f [.exc k] s.sh with
    | .ok r sh => match r with
      | .v d => .ok (.rt (.v d)) { s with sh := sh }
      | _ => .err
    | _ => .err) else .err
mutual
def exec (g : Gam) : S → St → Res Fl
  | .stuck, s => .err
  | .set i e, s => (ev g e s).bind fun r s => (put i r s).bind fun _ s => .ok .nx s
  | .shr i, s => (put i (.shr s.sh.length) { s with sh := s.sh ++ [.lst []] }).bind fun _ s => .ok .nx s
  | .unp is e, s => (fzr (ev g e s)).bind fun r s => match seqOf r with
      | some ds => (puts is ds s).bind fun _ s => .ok .nx s
      | none => .err
  | .par is es, s => (evs g es s).bind fun rs s => (putsR is rs s).bind fun _ s => .ok .nx s
  | .expr e, s => (ev g e s).bind fun _ s => .ok .nx s
  | .app i e, s => if lstAt i s = true then (fzr (ev g e s)).bind fun r s => match r with | .v d => app1 i d s | _ => .err else .err
  | .ext i e, s => if lstAt i s = true then (fzr (ev g e s)).bind fun r s => match r with
      | .v (.lst ds) => ext1 i ds s
      | _ => .err else .err
  | .put i k e, s => (fzr (ev g e s)).bind fun w s => if lstAt i s = true then (fzr (ev g k s)).bind fun k s => put1 i k w s else .err
  | .ite c a b, s => (ev g c s).bind fun x s => match x with | .v (.bl true) => execs g a s | .v (.bl false) => execs g b s | _ => .err
  | .for tg one it b, s => (evIt g it s).bind fun ds s => forL (fun d s => (setTg tg one d s).bind fun _ s => execs g b s) ds s
  | .while c b, s => whileN (ev g c) (execs g b) WN s
  | .ret e, s => (ev g e s).bind fun r s => .ok (.rt r) s
  | .retS i, s => match s.sl[i]? with
      | some (some r) => .ok (.rt r) s
      | _ => .err
  | .raise k, s => .exc k s
  | .cont, s => .ok .ct s
  | .pass, s => .ok .nx s
  | .tryRet b ks h, s => match execs g b s with
      | .exc k s => if caught ks k = true then handed g h k s else if k < 13 then .exc k s else .err
      | r => r
def execs (g : Gam) : Ss → St → Res Fl
  | .nil, s => .ok .nx s
  | .cons a b, s => (exec g a s).bind fun f s => match f with | .nx => execs g b s | f => .ok f s
end
structure Def where
  n : Nat
  np : Nat
  body : Ss
def start (d : Def) (args : List Rv) : List (Option Rv) := args.map some ++ List.replicate (d.n - d.np) none
def ending : Res Fl → RC
  | .ok (.rt r) s => .ok r s.sh
  | .ok .nx s => .ok (.v .non) s.sh
  | .exc k s => .exc k s.sh
  | _ => .err
def callN (tab : Nat → Option Def) : Nat → Gam
  | 0 => fun _ _ _ => .err
  | k + 1 => fun f args sh => match tab f with
    | some d => if args.length = d.np then ending (execs (callN tab k) d.body ⟨start d args, sh⟩) else .err
    | none => .err
end Wi

/-! Soundness 1: values by value and the abstract heap of the hand layer. -/
namespace Wi
open PySem PySem.Spec PyProof.Rows L2

/-! ### what stands for what -/
def okStr (s : List Nat) : Prop := s.length ≤ LIM ∧ ∀ c ∈ s, c < 0x110000
mutual
def Rep (K : PySem.W.Frag) (F : Hp) : D → V → Prop
  | .non, v => v = .non
  | .bl b, v => v = .bl b
  | .int i, v => v = .int i
  | .str s, v => v = .str (strV s) ∧ okStr s
  | .tup ds, v => ∃ a vs, v = .ref a ∧ SqT K F a vs ∧ RepL K F ds vs
  | .lst ds, v => ∃ a vs, v = .ref a ∧ F a = some (.lst vs) ∧ RepL K F ds vs
def RepL (K : PySem.W.Frag) (F : Hp) : List D → List V → Prop
  | [], vs => vs = []
  | d :: ds, vs => ∃ v r, vs = v :: r ∧ Rep K F d v ∧ RepL K F ds r
end
/-- a part of a heap -/
def Sub (F H : Hp) : Prop := ∀ a o, F a = some o → H a = some o
theorem Sub.refl (F : Hp) : Sub F F := fun _ _ h => h
theorem Sub.trans {A B C : Hp} (a : Sub A B) (b : Sub B C) : Sub A C := fun x o h => b x o (a x o h)
theorem Sub.rd {F H : Hp} (s : Sub F H) {a : Addr} {u : HO} (h : Rd F a u) : Rd H a u := by
  rcases h with h | ⟨o, h⟩
  · exact .inl (s _ _ h)
  · exact .inr ⟨o, s _ _ h⟩
theorem Sub.sqL {K : PySem.W.Frag} {F H : Hp} (s : Sub F H) {a : Addr} {xs : List V} (h : SqL K F a xs) : SqL K H a xs := by
  rcases h with h | h
  · exact .inl (s.rd h)
  · exact .inr h
theorem Sub.sqT {K : PySem.W.Frag} {F H : Hp} (s : Sub F H) {a : Addr} {xs : List V} (h : SqT K F a xs) : SqT K H a xs := by
  rcases h with h | h
  · exact .inl (s.rd h)
  · exact .inr h
mutual
theorem Rep.mono {K : PySem.W.Frag} {F H : Hp} (s : Sub F H) : ∀ (d : D) (v : V), Rep K F d v → Rep K H d v
  | .non, _, h => h
  | .bl _, _, h => h
  | .int _, _, h => h
  | .str _, _, h => h
  | .tup ds, v, h => by
    obtain ⟨a, vs, e, q, r⟩ := h
    exact ⟨a, vs, e, s.sqT q, RepL.mono s ds vs r⟩
  | .lst ds, v, h => by
    obtain ⟨a, vs, e, q, r⟩ := h
    exact ⟨a, vs, e, s _ _ q, RepL.mono s ds vs r⟩
theorem RepL.mono {K : PySem.W.Frag} {F H : Hp} (s : Sub F H) : ∀ (ds : List D) (vs : List V), RepL K F ds vs → RepL K H ds vs
  | [], _, h => h
  | d :: ds, vs, h => by
    obtain ⟨v, r, e, h1, h2⟩ := h
    exact ⟨v, r, e, Rep.mono s d v h1, RepL.mono s ds r h2⟩
end
theorem RepL.length {K : PySem.W.Frag} {F : Hp} : ∀ {ds : List D} {vs : List V}, RepL K F ds vs → ds.length = vs.length
  | [], _, h => by cases h; rfl
  | d :: ds, vs, h => by
    obtain ⟨v, r, rfl, _, h2⟩ := h
    simp [RepL.length h2]
theorem RepL.get {K : PySem.W.Frag} {F : Hp} : ∀ {ds : List D} {vs : List V} {i : Nat} {d : D}, RepL K F ds vs → ds[i]? = some d → ∃ v, vs[i]? = some v ∧ Rep K F d v
  | [], _, _, _, h, e => by simp at e
  | x :: ds, vs, 0, d, h, e => by
    obtain ⟨v, r, rfl, h1, h2⟩ := h
    simp at e; subst e
    exact ⟨v, by simp, h1⟩
  | x :: ds, vs, i + 1, d, h, e => by
    obtain ⟨v, r, rfl, h1, h2⟩ := h
    obtain ⟨u, a, b⟩ := RepL.get (i := i) h2 (by simpa using e)
    exact ⟨u, by simpa using a, b⟩
theorem RepL.get' {K : PySem.W.Frag} {F : Hp} : ∀ {ds : List D} {vs : List V} {i : Nat} {v : V}, RepL K F ds vs → vs[i]? = some v → ∃ d, ds[i]? = some d ∧ Rep K F d v
  | [], _, _, _, h, e => by cases h; simp at e
  | x :: ds, vs, 0, d, h, e => by
    obtain ⟨v, r, rfl, h1, h2⟩ := h
    simp at e; subst e
    exact ⟨x, by simp, h1⟩
  | x :: ds, vs, i + 1, d, h, e => by
    obtain ⟨v, r, rfl, h1, h2⟩ := h
    obtain ⟨u, a, b⟩ := RepL.get' (i := i) h2 (by simpa using e)
    exact ⟨u, by simpa using a, b⟩
theorem RepL.append {K : PySem.W.Frag} {F : Hp} : ∀ {ds es : List D} {vs us : List V}, RepL K F ds vs → RepL K F es us → RepL K F (ds ++ es) (vs ++ us)
  | [], _, _, _, h, q => by cases h; simpa using q
  | x :: ds, es, vs, us, h, q => by
    obtain ⟨v, r, rfl, h1, h2⟩ := h
    exact ⟨v, r ++ us, rfl, h1, RepL.append h2 q⟩
theorem RepL.one {K : PySem.W.Frag} {F : Hp} {d : D} {v : V} (h : Rep K F d v) : RepL K F [d] [v] := ⟨v, [], rfl, h, rfl⟩
theorem RepL.set {K : PySem.W.Frag} {F : Hp} {d : D} {v : V} (q : Rep K F d v) : ∀ {ds : List D} {vs : List V} (i : Nat), RepL K F ds vs → RepL K F (ds.set i d) (vs.set i v)
  | [], _, _, h => by cases h; rfl
  | x :: ds, vs, 0, h => by
    obtain ⟨u, r, rfl, h1, h2⟩ := h
    exact ⟨v, r, rfl, q, h2⟩
  | x :: ds, vs, i + 1, h => by
    obtain ⟨u, r, rfl, h1, h2⟩ := h
    exact ⟨u, r.set i v, rfl, h1, RepL.set q i h2⟩
theorem RepL.take {K : PySem.W.Frag} {F : Hp} : ∀ {ds : List D} {vs : List V} (i : Nat), RepL K F ds vs → RepL K F (ds.take i) (vs.take i)
  | _, _, 0, h => rfl
  | [], _, i + 1, h => by cases h; rfl
  | x :: ds, vs, i + 1, h => by
    obtain ⟨u, r, rfl, h1, h2⟩ := h
    exact ⟨u, r.take i, rfl, h1, RepL.take i h2⟩
theorem RepL.drop {K : PySem.W.Frag} {F : Hp} : ∀ {ds : List D} {vs : List V} (i : Nat), RepL K F ds vs → RepL K F (ds.drop i) (vs.drop i)
  | _, _, 0, h => by simpa using h
  | [], _, i + 1, h => by cases h; rfl
  | x :: ds, vs, i + 1, h => by
    obtain ⟨u, r, rfl, h1, h2⟩ := h
    exact RepL.drop i h2
theorem RepL.reverse {K : PySem.W.Frag} {F : Hp} : ∀ {ds : List D} {vs : List V}, RepL K F ds vs → RepL K F ds.reverse vs.reverse
  | [], _, h => by cases h; rfl
  | x :: ds, vs, h => by
    obtain ⟨u, r, rfl, h1, h2⟩ := h
    rw [List.reverse_cons, List.reverse_cons]
    exact RepL.append (RepL.reverse h2) (.one h1)

/-! ### the law's constants; ghosts -/
/-- where the functions and the classes stand -/
structure Cn where
  K : PySem.W.Frag
  fa : Nat → Addr
  ca : Nat → Addr
  xa : Addr
  xk : Nat
/-- the part that stays, the store's places -/
structure G where
  F : Hp
  as : List Addr
structure G.le (g g' : G) : Prop where
  f : Sub g.F g'.F
  a : ∃ t, g'.as = g.as ++ t
theorem G.le.refl (g : G) : G.le g g := ⟨Sub.refl _, [], by simp⟩
theorem G.le.trans {a b c : G} (x : G.le a b) (y : G.le b c) : G.le a c := by
  obtain ⟨t, ht⟩ := x.a
  obtain ⟨u, hu⟩ := y.a
  exact ⟨x.f.trans y.f, t ++ u, by rw [hu, ht, List.append_assoc]⟩
theorem G.le.at_ {g g' : G} (x : G.le g g') {i : Nat} {a : Addr} (h : g.as[i]? = some a) : g'.as[i]? = some a := by
  obtain ⟨t, ht⟩ := x.a
  rw [ht, List.getElem?_append_left (List.getElem?_eq_some_iff.mp h).1]
  exact h

/-- where a frame began -/
structure Bs where
  H0 : Hp
  g0 : G

def isOwn : Rv → Bool
  | .fl _ => true
  | .fd _ _ => true
  | _ => false
/-- a value, its thing -/
def RepO (c : Cn) (b : Bs) (g : G) (H : Hp) : Rv → V → Prop
  | .v d, v => Rep c.K g.F d v
  | .fl ds, v => ∃ p vs, v = .ref p ∧ H p = some (.lst vs) ∧ RepL c.K g.F ds vs ∧ g.F p = none ∧ b.H0 p = none ∧ p ∉ g.as
  | .fd _ _, _ => False
  | .fz _ _, _ => False
  | .shr i, v => ∃ a, g.as[i]? = some a ∧ v = .ref a
  | .fn k, v => v = .ref (c.fa k)
  | .exc k, v => v = .ref c.xa ∧ k = c.xk
  | .ro ds, v => ∃ a vs, v = .ref a ∧ SqL c.K g.F a vs ∧ RepL c.K g.F ds vs
def ObOk (c : Cn) (g : G) (H : Hp) (a : Addr) : Ob → Prop
  | .lst ds => ∃ vs, H a = some (.lst vs) ∧ RepL c.K g.F ds vs

/-- the store -/
structure ShOk (c : Cn) (g : G) (H : Hp) (sh : Sh) : Prop where
  fh : Sub g.F H
  len : g.as.length = sh.length
  nd : g.as.Nodup
  fr : ∀ a ∈ g.as, g.F a = none
  ob : ∀ (i : Nat) (o : Ob) (a : Addr), sh[i]? = some o → g.as[i]? = some a → ObOk c g H a o
/-- the state of a frame -/
structure Abs (c : Cn) (b : Bs) (g : G) (sV : L2.St) (H : Hp) (s : Wi.St) : Prop where
  sh : ShOk c g H s.sh
  len : sV.length = s.sl.length
  val : ∀ (i : Nat) (r : Rv), s.sl[i]? = some (some r) → ∃ v, sV[i]? = some (some v) ∧ RepO c b g H r v
  sep : ∀ (i j : Nat), i ≠ j → ownAt s.sl i = true → ownAt s.sl j = true → sV[i]? ≠ sV[j]?
  le : G.le b.g0 g
  keep : ∀ a o, b.H0 a = some o → a ∉ g.as → H a = some o
  fnew : ∀ a o, g.F a = some o → b.g0.F a = none → b.H0 a = none
  anew : ∀ a ∈ g.as, a ∈ b.g0.as ∨ b.H0 a = none
/-- .. of an expression: one that nobody else holds is no slot's -/
def RepR (c : Cn) (b : Bs) (g : G) (sV : L2.St) (H : Hp) (s : Wi.St) (r : Rv) (v : V) : Prop :=
  RepO c b g H r v ∧ (isOwn r = true → ∀ i, ownAt s.sl i = true → sV[i]? ≠ some (some v))

section
variable {c : Cn} {b : Bs} {g g' : G} {sV : L2.St} {H H' : Hp} {s : Wi.St} {r : Rv} {v : V}
theorem RepO.mono (hn : isOwn r = false) (le : G.le g g') (h : RepO c b g H r v) : RepO c b g' H' r v := by
  cases r with
  | v d => exact Rep.mono le.f d v h
  | shr i =>
    obtain ⟨a, e, q⟩ := h
    exact ⟨a, le.at_ e, q⟩
  | fn k => exact h
  | fl _ => cases hn
  | fd _ _ => cases hn
  | fz _ _ => exact h
  | exc _ => exact h
  | ro ds =>
    obtain ⟨a, vs, e, q, r⟩ := h
    exact ⟨a, vs, e, le.f.sqL q, RepL.mono le.f _ _ r⟩
theorem RepO.frz (h : RepO c b g H r v) (hn : isOwn r = false) : frz r = r := by
  cases r <;> first | rfl | cases hn
theorem isOwn_frz (r : Rv) : isOwn (Wi.frz r) = false := by cases r <;> rfl
theorem ownAt_isOwn {sl : List (Option Rv)} {i : Nat} : ownAt sl i = true ↔ ∃ r, sl[i]? = some (some r) ∧ isOwn r = true := by
  unfold ownAt
  constructor
  · intro h
    split at h
    · rename_i ds e; exact ⟨_, e, rfl⟩
    · rename_i ks vs e; exact ⟨_, e, rfl⟩
    · cases h
  · rintro ⟨r, e, h⟩
    cases r <;> first | (rw [e]; done) | cases h
theorem ShOk.tracked (S : ShOk c g H s.sh) {a : Addr} (ha : a ∈ g.as) : ∃ o, H a = some o := by
  obtain ⟨i, hi, e⟩ := List.mem_iff_getElem.mp ha
  have h2 : i < s.sh.length := by rw [← S.len]; exact hi
  have := S.ob i s.sh[i] a (List.getElem?_eq_getElem h2) (by rw [← e]; exact List.getElem?_eq_getElem hi)
  cases hs : s.sh[i] with
  | lst ds =>
    rw [hs] at this
    obtain ⟨vs, q, _⟩ := this
    exact ⟨_, q⟩
theorem RepO.own_tracked (h : RepO c b g H r v) (ho : isOwn r = true) : ∃ p o, v = .ref p ∧ H p = some o ∧ g.F p = none ∧ b.H0 p = none ∧ p ∉ g.as := by
  cases r with
  | fl ds =>
    obtain ⟨p, vs, e, q, _, f, z, n⟩ := h
    exact ⟨p, _, e, q, f, z, n⟩
  | fd _ _ => exact False.elim h
  | _ => cases ho
/-- a new thing that stays -/
theorem Abs.grow {p : Addr} {o : HO} (A : Abs c b g sV H s) (hp : H p = none) : Abs c b ⟨upd g.F p o, g.as⟩ sV (upd H p o) s := by
  have fp : g.F p = none := by
    cases e : g.F p with
    | none => rfl
    | some u => rw [A.sh.fh _ _ e] at hp; cases hp
  have hle : G.le g ⟨upd g.F p o, g.as⟩ := ⟨fun a u e => by show upd g.F p o a = some u; rw [upd_ne (ne_of_none e fp)]; exact e, [], by simp⟩
  have nas : p ∉ g.as := fun hm => by
    obtain ⟨u, e⟩ := A.sh.tracked hm
    rw [hp] at e; cases e
  have up : ∀ {a u}, H a = some u → upd H p o a = some u := fun {a u} e => by rw [upd_ne (ne_of_none e hp)]; exact e
  have h0 : b.H0 p = none := by
    cases e : b.H0 p with
    | none => rfl
    | some u => rw [A.keep _ _ e nas] at hp; cases hp
  refine ⟨⟨fun a u e => ?_, A.sh.len, A.sh.nd, fun a ha => ?_, fun i ob a h1 h2 => ?_⟩, A.len, fun i r h => ?_, A.sep, A.le.trans hle, fun a u e n => up (A.keep a u e n), fun a u e n => ?_, A.anew⟩
  · by_cases h : a = p
    · subst h
      have e : upd g.F a o a = some u := e
      rw [upd_same] at e ⊢; exact e
    · have e : upd g.F p o a = some u := e
      rw [upd_ne h] at e ⊢; exact A.sh.fh _ _ e
  · show upd g.F p o a = none
    have : a ≠ p := fun e => nas (e ▸ ha)
    rw [upd_ne this]; exact A.sh.fr a ha
  · cases ob with
    | lst ds =>
      obtain ⟨vs, q1, q2⟩ := A.sh.ob i _ a h1 h2
      exact ⟨vs, up q1, RepL.mono hle.f _ _ q2⟩
  · obtain ⟨v, e, q⟩ := A.val i r h
    refine ⟨v, e, ?_⟩
    by_cases ho : isOwn r = true
    · cases r with
      | fl ds =>
        obtain ⟨x, vs, e2, q1, q2, q3, q4, q5⟩ := q
        refine ⟨x, vs, e2, up q1, RepL.mono hle.f _ _ q2, ?_, q4, q5⟩
        show upd g.F p o x = none
        rw [upd_ne (ne_of_none q1 hp)]; exact q3
      | fd _ _ => exact q
      | _ => cases ho
    · exact RepO.mono (by simpa using ho) hle q
  · have e : upd g.F p o a = some u := e
    by_cases h : a = p
    · subst h; exact h0
    · rw [upd_ne h] at e; exact A.fnew a u e n
theorem G.le.grow {p : Addr} {o : HO} (A : Abs c b g sV H s) (hp : H p = none) : G.le g ⟨upd g.F p o, g.as⟩ := by
  have fp : g.F p = none := by
    cases e : g.F p with
    | none => rfl
    | some u => rw [A.sh.fh _ _ e] at hp; cases hp
  exact ⟨fun a u e => by show upd g.F p o a = some u; rw [upd_ne (ne_of_none e fp)]; exact e, [], by simp⟩
/-- a new thing that may still be changed -/
theorem Abs.alloc {p : Addr} {o : HO} (A : Abs c b g sV H s) (hp : H p = none) : Abs c b g sV (upd H p o) s := by
  have nas : p ∉ g.as := fun hm => by
    obtain ⟨u, e⟩ := A.sh.tracked hm
    rw [hp] at e; cases e
  have up : ∀ {a u}, H a = some u → upd H p o a = some u := fun {a u} e => by rw [upd_ne (ne_of_none e hp)]; exact e
  refine ⟨⟨fun a u e => up (A.sh.fh a u e), A.sh.len, A.sh.nd, A.sh.fr, fun i ob a h1 h2 => ?_⟩, A.len, fun i r h => ?_, A.sep, A.le, fun a u e n => up (A.keep a u e n), A.fnew, A.anew⟩
  · cases ob with
    | lst ds =>
      obtain ⟨vs, q1, q2⟩ := A.sh.ob i _ a h1 h2
      exact ⟨vs, up q1, q2⟩
  · obtain ⟨v, e, q⟩ := A.val i r h
    refine ⟨v, e, ?_⟩
    by_cases ho : isOwn r = true
    · cases r with
      | fl ds =>
        obtain ⟨x, vs, e2, q1, q2⟩ := q
        exact ⟨x, vs, e2, up q1, q2⟩
      | fd _ _ => exact q
      | _ => cases ho
    · exact RepO.mono (by simpa using ho) (G.le.refl _) q
/-- .. is nobody's -/
theorem Abs.fresh {p : Addr} {vs : List V} {ds : List D} (A : Abs c b g sV H s) (hp : H p = none) (hr : RepL c.K g.F ds vs) : RepR c b g sV (upd H p (.lst vs)) s (.fl ds) (.ref p) := by
  refine ⟨⟨p, vs, rfl, upd_same, hr, ?_, ?_, fun hm => ?_⟩, fun _ i hi e => ?_⟩
  · cases e : g.F p with
    | none => rfl
    | some u => rw [A.sh.fh _ _ e] at hp; cases hp
  · cases e : b.H0 p with
    | none => rfl
    | some u =>
      by_cases hm : p ∈ g.as
      · obtain ⟨u, e⟩ := A.sh.tracked hm
        rw [hp] at e; cases e
      · rw [A.keep _ _ e hm] at hp; cases hp
  · obtain ⟨u, e⟩ := A.sh.tracked hm
    rw [hp] at e; cases e
  · obtain ⟨r, e1, ho⟩ := ownAt_isOwn.mp hi
    obtain ⟨v, e2, q⟩ := A.val i r e1
    rw [e] at e2; cases e2
    obtain ⟨x, o, e3, q1, _⟩ := q.own_tracked ho
    cases e3
    rw [hp] at q1; cases q1
/-- what is handed on stays from now on -/
theorem Abs.freeze (A : Abs c b g sV H s) (h : RepR c b g sV H s r v) : ∃ g', G.le g g' ∧ Abs c b g' sV H s ∧ RepO c b g' H (Wi.frz r) v := by
  by_cases ho : isOwn r = true
  · cases r with
    | fl ds =>
      obtain ⟨⟨p, vs, rfl, q1, q2, q3, q4, q5⟩, hn⟩ := h
      have hle : G.le g ⟨upd g.F p (.lst vs), g.as⟩ := ⟨fun a u e => by show upd g.F p (.lst vs) a = some u; rw [upd_ne (ne_of_none e q3)]; exact e, [], by simp⟩
      refine ⟨⟨upd g.F p (.lst vs), g.as⟩, hle, ?_, p, vs, rfl, upd_same, RepL.mono hle.f _ _ q2⟩
      refine ⟨⟨fun a u e => ?_, A.sh.len, A.sh.nd, fun a ha => ?_, fun i ob a h1 h2 => ?_⟩, A.len, fun i r h => ?_, A.sep, A.le.trans hle, A.keep, fun a u e n => ?_, A.anew⟩
      · have e : upd g.F p (.lst vs) a = some u := e
        by_cases h : a = p
        · subst h; rw [upd_same] at e; cases e; exact q1
        · rw [upd_ne h] at e; exact A.sh.fh _ _ e
      · show upd g.F p (.lst vs) a = none
        have : a ≠ p := fun e => q5 (e ▸ ha)
        rw [upd_ne this]; exact A.sh.fr a ha
      · cases ob with
        | lst ds =>
          obtain ⟨vs, q1, q2⟩ := A.sh.ob i _ a h1 h2
          exact ⟨vs, q1, RepL.mono hle.f _ _ q2⟩
      · obtain ⟨v, e, q⟩ := A.val i r h
        refine ⟨v, e, ?_⟩
        by_cases ho2 : isOwn r = true
        · have hne : v ≠ .ref p := fun z => hn rfl i (ownAt_isOwn.mpr ⟨r, h, ho2⟩) (by rw [e, z])
          cases r with
          | fl ds =>
            obtain ⟨x, vs', e2, z1, z2, z3, z4, z5⟩ := q
            refine ⟨x, vs', e2, z1, RepL.mono hle.f _ _ z2, ?_, z4, z5⟩
            show upd g.F p (.lst vs) x = none
            rw [upd_ne (fun z => hne (by rw [e2, z]))]; exact z3
          | fd _ _ => exact q
          | _ => cases ho2
        · exact RepO.mono (by simpa using ho2) hle q
      · have e : upd g.F p (.lst vs) a = some u := e
        by_cases h : a = p
        · subst h; exact q4
        · rw [upd_ne h] at e; exact A.fnew a u e n
    | fd _ _ => exact False.elim h.1
    | _ => cases ho
  · refine ⟨g, G.le.refl _, A, ?_⟩
    rw [RepO.frz h.1 (by simpa using ho)]
    exact h.1
end

/-! ### readings -/
def RP {α : Type} (c : Cn) (b : Bs) (W : WX) (sV : L2.St) (g : G) (m : Res α) (φ : α → Wi.St → G → Hp → Prop) : Prop :=
  match m with
  | .ok a s => ∀ g' H', G.le g g' → Abs c b g' sV H' s → φ a s g' H'
  | .exc k s => ∀ g' H', G.le g g' → Abs c b g' sV H' s → W (.ref (c.ca k)) none sV H'
  | .err => False
section
variable {α β : Type} {c : Cn} {b : Bs} {W : WX} {sV : L2.St} {g g' : G} {m : Res α} {φ ψ : α → Wi.St → G → Hp → Prop}
theorem RP.weak (h : RP c b W sV g m φ) (le : G.le g g') : RP c b W sV g' m φ := by
  cases m with
  | ok a s => exact fun g1 H1 l A => h g1 H1 (le.trans l) A
  | exc k s => exact fun g1 H1 l A => h g1 H1 (le.trans l) A
  | err => exact h
theorem RP.imp (h : RP c b W sV g m φ) (f : ∀ a s g1 H1, m = .ok a s → G.le g g1 → Abs c b g1 sV H1 s → φ a s g1 H1 → ψ a s g1 H1) : RP c b W sV g m ψ := by
  cases m with
  | ok a s => exact fun g1 H1 l A => f a s g1 H1 rfl l A (h g1 H1 l A)
  | exc k s => exact h
  | err => exact h
theorem RP.bind {f : α → Wi.St → Res β} {φ : β → Wi.St → G → Hp → Prop} (h : RP c b W sV g (m.bind f) φ) : RP c b W sV g m (fun a s g1 H1 => RP c b W sV g1 (f a s) φ) := by
  cases m with
  | ok a s => exact fun g1 H1 l A => RP.weak h l
  | exc k s => exact h
  | err => exact h
theorem RP.ofOpt {o : Option α} {s : Wi.St} (h : RP c b W sV g (Wi.ofOpt o s) φ) : ∃ a, o = some a ∧ ∀ g' H', G.le g g' → Abs c b g' sV H' s → φ a s g' H' := by
  cases o with
  | none => exact False.elim h
  | some a => exact ⟨a, rfl, h⟩
end
/-- an expression's reading: r as it comes -/
def TEr (c : Cn) (b : Bs) (W : WX) (Γ : Gam) (i : E) : TE := fun sV H Q =>
  ∃ g s, Abs c b g sV H s ∧ RP c b W sV g (ev Γ i s) (fun r s' g' H' => ∀ v, RepR c b g' sV H' s' r v → Q v H')
/-- .. frozen -/
def TEf (c : Cn) (b : Bs) (W : WX) (Γ : Gam) (i : E) : TE := fun sV H Q =>
  ∃ g s, Abs c b g sV H s ∧ RP c b W sV g (fzr (ev Γ i s)) (fun r s' g' H' => ∀ v, RepO c b g' H' r v → Q v H')
def TAf (c : Cn) (b : Bs) (W : WX) (Γ : Gam) (i : Es) : TA := fun sV H Q =>
  ∃ g s, Abs c b g sV H s ∧ RP c b W sV g (evs Γ i s) (fun rs s' g' H' => ∀ vs, Paired (fun r v => RepO c b g' H' r v ∧ isOwn r = false) rs vs → Q vs H')
theorem cvE {X : Cx} {e : Expr} {t t' : TE} (h : PE X e t) (f : ∀ σ H Q, t' σ H Q → t σ H Q) : PE X e t' := ⟨fun pins s σ H Q I q => h.run pins s σ H Q I (f _ _ _ q)⟩
theorem cvT {X : Cx} {e : Expr} {t t' : TT} (h : PT X e t) (f : ∀ σ H Q, t' σ H Q → t σ H Q) : PT X e t' := ⟨fun pins s σ H Q I q => h.run pins s σ H Q I (f _ _ _ q)⟩
theorem cvA {X : Cx} {e : List Expr} {t t' : TA} (h : PA X e t) (f : ∀ σ H Q, t' σ H Q → t σ H Q) : PA X e t' := ⟨fun pos pins s σ H Q I q => h.run pos pins s σ H Q I (f _ _ _ q)⟩
theorem cvS {X : Cx} {e : Stmt} {t t' : TS} (h : PS X e t) (f : ∀ D σ H, t' D σ H → t D σ H) : PS X e t' := ⟨fun pins s σ H D I q => h.run pins s σ H D I (f _ _ _ q)⟩
theorem cvSs {X : Cx} {e : List Stmt} {t t' : TS} (h : PSs X e t) (f : ∀ D σ H, t' D σ H → t D σ H) : PSs X e t' := ⟨fun pins s σ H D I q => h.run pins s σ H D I (f _ _ _ q)⟩
section
variable {c : Cn} {b : Bs} {W : WX} {Γ : Gam} {i j : E} {X : Cx} {e : Expr}
theorem TEf.of {sV : L2.St} {H : Hp} {Q : VK} (h : TEf c b W Γ i sV H Q) : TEr c b W Γ i sV H Q := by
  obtain ⟨g, s, A, h⟩ := h
  refine ⟨g, s, A, (RP.bind h).imp fun r s' g1 H1 _ l A1 q v hv => ?_⟩
  obtain ⟨g2, l2, A2, r2⟩ := A1.freeze hv
  exact q g2 H1 l2 A2 v r2
theorem pe_f (h : PE X e (TEr c b W Γ i)) : PE X e (TEf c b W Γ i) := cvE h fun _ _ _ q => TEf.of q
end
end Wi

/-! Soundness 2: operators by values. -/
namespace Wi
open PySem PySem.Spec PyProof.Rows L2

/-! ### data as the library's data -/
mutual
theorem py_depth : ∀ d : D, d.py.depth = d.dep
  | .non => rfl
  | .bl _ => rfl
  | .int _ => rfl
  | .str _ => rfl
  | .tup ds => by
    show PyData.depthAll (D.pyL ds) + 1 = 1 + D.depL ds
    rw [pyL_depth ds]; omega
  | .lst ds => by
    show PyData.depthAll (D.pyL ds) + 1 = 1 + D.depL ds
    rw [pyL_depth ds]; omega
theorem pyL_depth : ∀ ds : List D, PyData.depthAll (D.pyL ds) = D.depL ds
  | [] => rfl
  | d :: ds => by
    show max d.py.depth (PyData.depthAll (D.pyL ds)) = max d.dep (D.depL ds)
    rw [py_depth d, pyL_depth ds]
end
theorem strV_eq (x y : List Nat) : (strV x == strV y) = (x == y) := by
  rw [Bool.eq_iff_iff]
  simp only [beq_iff_eq]
  constructor
  · intro h
    have := congrArg (fun z : Str => z.cps.toList) h
    simpa [strV] using this
  · intro h; rw [h]
mutual
theorem deq_py : ∀ d e : D, PyData.eqv d.py e.py = deq d e
  | .non, .non => rfl
  | .non, .bl _ => rfl
  | .non, .int _ => rfl
  | .non, .str _ => rfl
  | .non, .tup _ => rfl
  | .non, .lst _ => rfl
  | .bl _, .non => rfl
  | .bl _, .bl _ => rfl
  | .bl _, .int _ => rfl
  | .bl _, .str _ => rfl
  | .bl _, .tup _ => rfl
  | .bl _, .lst _ => rfl
  | .int _, .non => rfl
  | .int _, .bl _ => rfl
  | .int _, .int _ => rfl
  | .int _, .str _ => rfl
  | .int _, .tup _ => rfl
  | .int _, .lst _ => rfl
  | .str _, .non => rfl
  | .str _, .bl _ => rfl
  | .str _, .int _ => rfl
  | .str x, .str y => strV_eq x y
  | .str _, .tup _ => rfl
  | .str _, .lst _ => rfl
  | .tup _, .non => rfl
  | .tup _, .bl _ => rfl
  | .tup _, .int _ => rfl
  | .tup _, .str _ => rfl
  | .tup xs, .tup ys => deq_pyL xs ys
  | .tup _, .lst _ => rfl
  | .lst _, .non => rfl
  | .lst _, .bl _ => rfl
  | .lst _, .int _ => rfl
  | .lst _, .str _ => rfl
  | .lst _, .tup _ => rfl
  | .lst xs, .lst ys => deq_pyL xs ys
theorem deq_pyL : ∀ xs ys : List D, PyData.eqvAll (D.pyL xs) (D.pyL ys) = deqL xs ys
  | [], [] => rfl
  | [], _ :: _ => rfl
  | _ :: _, [] => rfl
  | x :: xs, y :: ys => by
    show (PyData.eqv x.py y.py && PyData.eqvAll (D.pyL xs) (D.pyL ys)) = (deq x y && deqL xs ys)
    rw [deq_py x y, deq_pyL xs ys]
end
theorem inL_py (x : D) : ∀ xs : List D, ((D.pyL xs).any fun y => PyData.eqv y x.py) = inL x xs
  | [] => rfl
  | y :: ys => by
    show (PyData.eqv y.py x.py || (D.pyL ys).any fun y => PyData.eqv y x.py) = (deq y x || inL x ys)
    rw [deq_py, inL_py x ys]
mutual
theorem Rep.dp {K : PySem.W.Frag} {F H : Hp} (s : Sub F H) : ∀ (d : D) (v : V), Rep K F d v → Dp K H v d.py ∧ d.py.canLay0 = true
  | .non, v, h => by cases h; exact ⟨.non, rfl⟩
  | .bl b, v, h => by cases h; exact ⟨.bl b, rfl⟩
  | .int i, v, h => by cases h; exact ⟨.int i, rfl⟩
  | .str x, v, h => by
    obtain ⟨rfl, h⟩ := h
    refine ⟨.str _, ?_⟩
    show PyData.strOk (strV x) = true
    unfold PyData.strOk strV
    rw [List.all_toArray]
    exact List.all_eq_true.mpr fun c hc => decide_eq_true (h.2 c hc)
  | .tup ds, v, h => by
    obtain ⟨a, vs, rfl, q, r⟩ := h
    obtain ⟨h1, h2⟩ := RepL.dp s ds vs r
    exact ⟨.tup (s.sqT q) h1, h2⟩
  | .lst ds, v, h => by
    obtain ⟨a, vs, rfl, q, r⟩ := h
    obtain ⟨h1, h2⟩ := RepL.dp s ds vs r
    exact ⟨.lst (.inl (.inl (s _ _ q))) h1, h2⟩
theorem RepL.dp {K : PySem.W.Frag} {F H : Hp} (s : Sub F H) : ∀ (ds : List D) (vs : List V), RepL K F ds vs → DpAll K H vs (D.pyL ds) ∧ PyData.canLayAll0 (D.pyL ds) = true
  | [], vs, h => by cases h; exact ⟨.nil, rfl⟩
  | d :: ds, vs, h => by
    obtain ⟨v, r, rfl, h1, h2⟩ := h
    obtain ⟨a1, a2⟩ := Rep.dp s d v h1
    obtain ⟨b1, b2⟩ := RepL.dp s ds r h2
    refine ⟨.cons a1 b1, ?_⟩
    show (d.py.canLay0 && PyData.canLayAll0 (D.pyL ds)) = true
    rw [a2, b2]; rfl
end
theorem strV_append (x y : List Nat) : strV (x ++ y) = strV x ++ strV y := by
  show (⟨(x ++ y).toArray⟩ : Str) = ⟨x.toArray ++ y.toArray⟩
  rw [List.append_toArray]
theorem strV_length (x : List Nat) : (strV x).length = x.length := by
  show x.toArray.size = _
  simp
theorem okStr.append {x y : List Nat} (a : okStr x) (b : okStr y) (h : x.length + y.length ≤ LIM) : okStr (x ++ y) := ⟨by rw [List.length_append]; exact h, fun c h => (List.mem_append.mp h).elim (a.2 c) (b.2 c)⟩
theorem repL_length {α : Type} (n : Nat) (x : List α) : (repL n x).length = x.length * n := by
  unfold repL
  simp only [List.length_flatten, List.map_replicate, List.sum_replicate_nat]
  exact Nat.mul_comm _ _
theorem okStr.rep {x : List Nat} (a : okStr x) (n : Nat) (hl : x.length * n ≤ LIM) : okStr (repL n x) := ⟨by rw [repL_length]; exact hl, fun c h => by
  unfold repL at h
  obtain ⟨l, hl, hc⟩ := List.mem_flatten.mp h
  rw [(List.mem_replicate.mp hl).2] at hc
  exact a.2 c hc⟩
theorem okStr.sub {x y : List Nat} (a : okStr x) (h : y.length ≤ x.length) (hm : ∀ c ∈ y, c ∈ x) : okStr y := ⟨Nat.le_trans h a.1, fun c hc => a.2 c (hm c hc)⟩
theorem RepL.nil_iff {K : PySem.W.Frag} {F : Hp} {ds : List D} {vs : List V} (h : RepL K F ds vs) : vs = [] ↔ ds = [] := by
  have := h.length
  constructor
  · rintro rfl; exact List.eq_nil_of_length_eq_zero (by simpa using this)
  · rintro rfl; exact List.eq_nil_of_length_eq_zero (by simpa using this.symm)
theorem RepL.rep {K : PySem.W.Frag} {F : Hp} {ds : List D} {vs : List V} (h : RepL K F ds vs) : ∀ n : Nat, RepL K F (repL n ds) (List.replicate n vs).flatten
  | 0 => rfl
  | n + 1 => by
    unfold repL
    rw [List.replicate_succ, List.replicate_succ, List.flatten_cons, List.flatten_cons]
    exact RepL.append h (RepL.rep h n)
theorem lim_line {n : Nat} (h : n ≤ LIM) : n ≤ sizeLine := by
  rw [sizeLine_eq]; unfold LIM at h; omega

/-- what is asked of two values, their things -/
def rB (c : Cn) (b : Bs) (f : Rv → Rv → Option Rv) : R2 := fun v u H Q => ∃ sV g s x y z, Abs c b g sV H s ∧ RepO c b g H x v ∧ RepO c b g H y u ∧ f x y = some z ∧
  ∀ g' H', G.le g g' → Abs c b g' sV H' s → ∀ w, RepR c b g' sV H' s z w → Q w H'
def pyB : BOp → Operator
  | .add => .Add | .sub => .Sub | .mul => .Mult | .fdiv => .FloorDiv | .mod => .Mod | .pow => .Pow
theorem small_of {i : Int} (h : small i = true) : -(2 ^ 64) < i ∧ i < 2 ^ 64 := by
  unfold small at h
  simpa [Bool.and_eq_true] using h
section
variable {X : Cx} {c : Cn} {b : Bs} {g : G} {sV : L2.St} {H : Hp} {s : Wi.St}
/-- a new tuple -/
theorem tup_out {Q : VK} {ds : List D} {vs : List V} (A : Abs c b g sV H s) (hr : RepL c.K g.F ds vs)
    (h : ∀ g' H', G.le g g' → Abs c b g' sV H' s → ∀ w, RepR c b g' sV H' s (.v (.tup ds)) w → Q w H') (p : Addr) (hp : H p = none) : Q (.ref p) (upd H p (.tup vs)) :=
  h _ _ (G.le.grow A hp) (A.grow hp) _ ⟨⟨p, vs, rfl, .inl (.inl upd_same), RepL.mono (G.le.grow A hp).f _ _ hr⟩, fun z => nomatch z⟩
theorem lst_out {Q : VK} {ds : List D} {vs : List V} (A : Abs c b g sV H s) (hr : RepL c.K g.F ds vs)
    (h : ∀ g' H', G.le g g' → Abs c b g' sV H' s → ∀ w, RepR c b g' sV H' s (.fl ds) w → Q w H') (p : Addr) (hp : H p = none) : Q (.ref p) (upd H p (.lst vs)) :=
  h _ _ (G.le.refl g) (A.alloc hp) _ (A.fresh hp hr)
theorem val_out {Q : VK} {d : D} {v : V} (A : Abs c b g sV H s)
    (h : ∀ g' H', G.le g g' → Abs c b g' sV H' s → ∀ w, RepR c b g' sV H' s (.v d) w → Q w H') (hr : Rep c.K g.F d v) : Q v H :=
  h _ _ (G.le.refl g) A _ ⟨hr, fun z => nomatch z⟩
theorem mul_str_ok (hK : X.K = c.K) {pins : List (Addr × Obj)} {σ : L2.St} {st : Shared} {x : List Nat} {n : Int} {v u : Value} {Q : VK} (I : Inv X pins σ H st) (rx : RelV (.str (strV x)) v) (ry : RelV (.int n) u)
    (h0 : 0 ≤ n) (h1 : x.length * n.toNat ≤ LIM) (h2 : n ≤ LIM) (q : Q (.str (strV (repL n.toNat x))) H) : wpAny (model X.prog X.w) X.A (binaryOp .Mult v u) (EP X pins σ Q) X.xe st := by
  obtain ⟨t, rfl⟩ := rx
  obtain ⟨t', rfl⟩ := ry
  have hL : (LIM : Nat) = 100000 := rfl
  have out : ∀ z : Str, z = strV (repL n.toNat x) → ∀ tk, EP X pins σ Q (.str z st.toks) { st with toks := tk } := fun z e tk => ⟨.str z, H, I.tok _, ⟨_, rfl⟩, by rw [e]; exact q⟩
  have foldl_rep : ∀ (k : Nat) (acc : List Nat), List.foldl (fun x1 x2 => x1 ++ x2) acc.toArray (List.replicate k x.toArray) = (acc ++ (List.replicate k x).flatten).toArray := by
    intro k
    induction k with
    | zero => intro acc; simp
    | succ k ih =>
      intro acc
      have e : acc.toArray ++ x.toArray = (acc ++ x).toArray := by simp
      have e2 : (acc ++ x) ++ (List.replicate k x).flatten = acc ++ (List.replicate (k + 1) x).flatten := by
        rw [List.replicate_succ, List.flatten_cons, List.append_assoc]
      rw [← e2, ← ih (acc ++ x), ← e, List.replicate_succ, List.foldl_cons]
  by_cases hn : n < 1
  · have e0 : n = 0 := by omega
    subst e0
    refine PySem.P.mul_str_none hn (by omega) (out _ ?_ _)
    rfl
  · refine PySem.P.mul_str (by rw [decide_eq_false (by omega), decide_eq_false (by omega)]; rfl) (fun _ he => ?_) (fun _ _ => ?_) ?_
    · have h3 : (100000 : Int) ≤ (2 ^ 63 - 1) / n := Int.le_ediv_of_mul_le (by omega) (by omega)
      have h4 : x.length ≤ 100000 := by
        have : x.length * 1 ≤ x.length * n.toNat := Nat.mul_le_mul_left _ (by omega)
        omega
      rw [strV_length]
      omega
    · rw [strV_length]
      show decide (x.length * n.toNat > sizeLine) = false
      exact decide_eq_false (by rw [sizeLine_eq]; omega)
    · rw [if_neg hn]
      by_cases he : (n == 1 || (strV x).length == 0) = true
      · rw [if_pos he]
        show EP X pins σ Q (.str (strV x) t) st
        refine ⟨.str (strV x), H, I, ⟨_, rfl⟩, ?_⟩
        rw [Bool.or_eq_true, strV_length] at he
        have e : repL n.toNat x = x := by
          rcases he with he | he
          · have : n = 1 := by simpa using he
            subst this
            simp [repL]
          · have : x = [] := List.eq_nil_of_length_eq_zero (by simpa using he)
            subst this
            simp [repL]
        rw [e] at q; exact q
      · rw [if_neg he]
        have ez : (⟨(List.replicate n.toNat (strV x).cps).foldl (· ++ ·) #[]⟩ : Str) = strV (repL n.toNat x) := by
          have := foldl_rep n.toNat []
          rw [List.nil_append] at this
          show (⟨_⟩ : Str) = ⟨_⟩
          congr 1
        refine ⟨?_, out _ ez _⟩
        rw [ez, strV_length, repL]
        simp only [List.length_flatten, List.map_replicate, List.sum_replicate_nat]
        rw [sizeLine_eq, Nat.mul_comm]
        omega
theorem opB_ok (hK : X.K = c.K) (op : BOp) : OpR X (binaryOp (pyB op)) (rB c b (binD op)) := by
  intro pins st σ H v u vv uu Q I rx ry h
  obtain ⟨sV, g, s, x, y, z, A, h1, h2, e, q⟩ := h
  have hL : (LIM : Nat) = 100000 := rfl
  unfold binD at e
  split at e
  · -- int + int
    cases e; cases h1; cases h2
    exact op_add pins st σ H _ _ vv uu Q I rx ry ⟨_, _, rfl, rfl, val_out A q rfl⟩
  · -- str + str
    rename_i x y
    split at e
    · rename_i hl
      cases e
      obtain ⟨rfl, o1⟩ := h1
      obtain ⟨rfl, o2⟩ := h2
      refine op_add_str pins st σ H _ _ vv uu Q I rx ry ⟨_, _, rfl, rfl, ?_, ?_⟩
      · rw [strV_length, strV_length]; exact lim_line hl
      · rw [← strV_append]
        exact val_out A q ⟨rfl, o1.append o2 hl⟩
    · cases e
  · -- tuple + tuple
    rename_i x y
    split at e
    · rename_i hl
      cases e
      obtain ⟨a1, vs1, rfl, t1, r1⟩ := h1
      obtain ⟨a2, vs2, rfl, t2, r2⟩ := h2
      refine op_catA pins st σ H _ _ vv uu Q I rx ry ⟨a1, a2, vs1, vs2, rfl, rfl, by rw [hK]; exact A.sh.fh.sqT t1, by rw [hK]; exact A.sh.fh.sqT t2, ?_, fun e1 => ?_, fun _ e2 => ?_, fun _ _ => ?_⟩
      · rw [← r1.length, ← r2.length]; exact lim_line hl
      · have := r1.nil_iff.mp e1
        subst this
        exact val_out A q ⟨a2, vs2, rfl, t2, r2⟩
      · have := r2.nil_iff.mp e2
        subst this
        rw [List.append_nil] at q
        exact val_out A q ⟨a1, vs1, rfl, t1, r1⟩
      · exact tup_out A (r1.append r2) q
    · cases e
  · -- list + list
    rename_i x y
    split at e
    · rename_i hl
      cases e
      obtain ⟨a1, vs1, rfl, t1, r1⟩ := h1
      obtain ⟨a2, vs2, rfl, t2, r2⟩ := h2
      refine op_cat pins st σ H _ _ vv uu Q I rx ry ⟨a1, a2, vs1, vs2, rfl, rfl, A.sh.fh _ _ t1, A.sh.fh _ _ t2, ?_, ?_⟩
      · rw [← r1.length, ← r2.length]; exact lim_line hl
      · exact lst_out A (r1.append r2) q
    · cases e
  · cases e; cases h1; cases h2
    exact op_sub pins st σ H _ _ vv uu Q I rx ry ⟨_, _, rfl, rfl, val_out A q rfl⟩
  · -- int * int
    rename_i i j
    split at e
    · rename_i hs
      cases e; cases h1; cases h2
      refine op_mul pins st σ H _ _ vv uu Q I rx ry ⟨_, _, rfl, rfl, ?_, val_out A q rfl⟩
      rcases Bool.or_eq_true_iff.mp hs with h | h
      · exact .inl (small_of h)
      · exact .inr (small_of h)
    · cases e
  · -- str * int
    rename_i x j
    split at e
    · rename_i hs
      cases e; cases h2
      obtain ⟨rfl, o1⟩ := h1
      exact mul_str_ok hK I rx ry hs.1 hs.2.1 hs.2.2 (val_out A q ⟨rfl, o1.rep _ hs.2.1⟩)
    · cases e
  · -- list * int
    rename_i x j
    split at e
    · rename_i hs
      cases e; cases h2
      obtain ⟨a1, vs1, rfl, t1, r1⟩ := h1
      refine op_rep pins st σ H _ _ vv uu Q I rx ry ⟨a1, j, vs1, rfl, rfl, A.sh.fh _ _ t1, by omega, by omega, ?_, ?_⟩
      · rw [← r1.length]; exact lim_line hs.2.1
      · exact lst_out A (r1.rep _) q
    · cases e
  · -- tuple * int
    rename_i x j
    split at e
    · rename_i hs
      cases e; cases h2
      obtain ⟨a1, vs1, rfl, t1, r1⟩ := h1
      refine op_repT pins st σ H _ _ vv uu Q I rx ry ⟨a1, j, vs1, rfl, rfl, by rw [hK]; exact A.sh.fh.sqT t1, fun z => ?_, hs.1, hs.2.1, ?_, ?_⟩
      · have := r1.nil_iff.mp z
        subst this
        simp at hs
      · rw [← r1.length]; exact hs.2.2.2
      · exact tup_out A (r1.rep _) q
    · cases e
  · -- //
    split at e
    · rename_i hs
      cases e; cases h1; cases h2
      exact op_fdivW pins st σ H _ _ vv uu Q I rx ry ⟨_, _, rfl, rfl, wide_div (b := 64) hs.1 (by omega) (by decide) (by decide), val_out A q rfl⟩
    · cases e
  · split at e
    · rename_i hs
      cases e; cases h1; cases h2
      exact op_mod pins st σ H _ _ vv uu Q I rx ry ⟨_, _, rfl, rfl, hs, val_out A q rfl⟩
    · cases e
  · split at e
    · rename_i i j hs
      cases e; cases h1; cases h2
      refine op_pow pins st σ H _ _ vv uu Q I rx ry ⟨_, _, rfl, rfl, ⟨hs.1, hs.2.1, ?_⟩, val_out A q rfl⟩
      have := small_of hs.2.2
      omega
    · cases e
  · cases e

/-! ### comparisons -/
def pyC : COp → CmpOp
  | .eq => .Eq | .ne => .NotEq | .lt => .Lt | .le => .LtE | .gt => .Gt | .ge => .GtE | .isin => .In | .notin => .NotIn | .isN => .Is | .notN => .IsNot | .isv => .Is
/-- what is asked of two values that are compared -/
def RepC (c : Cn) (H : Hp) : Rv → V → Prop
  | .v d, v => Rep c.K H d v
  | .ro ds, v => ∃ a vs, v = .ref a ∧ SqL c.K H a vs ∧ RepL c.K H ds vs
  | _, _ => True
def rC (c : Cn) (f : Rv → Rv → Option Bool) : R2 := fun v u H Q => ∃ x y z, RepC c H x v ∧ RepC c H y u ∧ f x y = some z ∧ Q (.bl z) H
theorem RepO.cmp (A : Sub g.F H) {r : Rv} {v : V} (h : RepO c b g H r v) : RepC c H r v := by
  cases r with
  | v d => exact Rep.mono A d v h
  | ro ds =>
    obtain ⟨a, vs, e, q, r⟩ := h
    exact ⟨a, vs, e, A.sqL q, RepL.mono A _ _ r⟩
  | _ => exact True.intro
theorem reads_of {pins : List (Addr × Obj)} {σ : L2.St} {st : Shared} {d : D} {v : V} {u : Value} (hK : X.K = c.K) (I : Inv X pins σ H st) {F : Hp} (s : Sub F H) (h : Rep c.K F d v) (r : RelV v u) : ∃ as, Reads st.heap u d.py as ∧ d.py.canLay0 = true := by
  obtain ⟨h1, h2⟩ := Rep.dp s d v h
  obtain ⟨as, h3⟩ := Dp.reads I d.py v u (by rw [hK]; exact h1) r
  exact ⟨as, h3, h2⟩
theorem RepC.rd_ {ds : List D} {v : V} (h : RepC c H (.ro ds) v) : ∃ a vs, v = .ref a ∧ SqL c.K H a vs ∧ DpAll c.K H vs (D.pyL ds) ∧ PyData.canLayAll0 (D.pyL ds) = true := by
  obtain ⟨a, vs, e, q, r⟩ := h
  obtain ⟨h1, h2⟩ := RepL.dp (Sub.refl H) ds vs r
  exact ⟨a, vs, e, q, h1, h2⟩
theorem and_of {a b : Bool} (h : (a && b) = true) : a = true ∧ b = true := Bool.and_eq_true_iff.mp h
theorem notNon_py {d : D} (h : notNon d = true) : d.py ≠ .none := by
  cases d <;> first | (intro e; cases e; done) | cases h
theorem ordD_of {a d : D} (h : ordD a d = true) : PySem.W.alike a.py d.py = true ∧ a.py ≠ .none ∧ a.dep ≤ 16 := by
  unfold ordD at h
  obtain ⟨h1, h⟩ := and_of h
  obtain ⟨h2, h3⟩ := and_of h
  exact ⟨h1, notNon_py h2, of_decide_eq_true h3⟩
theorem opC_ok (hK : X.K = c.K) (hu : X.A.units + 64 < cLine) (op : COp) : OpR X (compareOp (pyC op)) (rC c (cmpD op)) := by
  intro pins st σ H v u vv uu Q I rx ry h
  obtain ⟨x, y, z, h1, h2, e, q⟩ := h
  have fin : ∀ {k : Bool} {s' : Shared}, k = z → Inv X pins σ H s' → EP X pins σ Q (.bool k) s' := fun e I => ⟨.bl z, H, I, by rw [e]; rfl, q⟩
  unfold cmpD at e
  split at e
  · split at e
    · rename_i hd
      cases e
      obtain ⟨as, r1, c1⟩ := reads_of hK I (Sub.refl H) h1 rx
      obtain ⟨bs, r2, c2⟩ := reads_of hK I (Sub.refl H) h2 ry
      exact SeqAt.compareEq_reads r1 r2 c1 c2 (by rw [py_depth, py_depth]; omega) (fin (deq_py _ _) I)
    · cases e
  · split at e
    · rename_i hd
      cases e
      obtain ⟨as, r1, c1⟩ := reads_of hK I (Sub.refl H) h1 rx
      obtain ⟨bs, r2, c2⟩ := reads_of hK I (Sub.refl H) h2 ry
      exact SeqAt.compareNe_reads r1 r2 c1 c2 (by rw [py_depth, py_depth]; omega) (fin (congrArg not (deq_py _ _)) I)
    · cases e
  · split at e
    · rename_i a d hd
      cases e
      obtain ⟨p, vs, rfl, q1, q2, q3⟩ := RepC.rd_ h1
      obtain ⟨as, r1⟩ := Dp.reads (X := X) I (.list (D.pyL a)) _ vv (by rw [hK]; exact .lst q1 q2) rx
      obtain ⟨bs, r2, c2⟩ := reads_of hK I (Sub.refl H) h2 ry
      have hd2 := py_depth d
      exact SeqAt.compareEq_reads r1 r2 q3 c2 (by rw [hd2]; omega) (fin (deq_py (.lst a) _) I)
    · cases e
  · cases e; cases h1; cases h2
    exact op_lt pins st σ H _ _ vv uu Q I rx ry ⟨_, _, rfl, rfl, q⟩
  · cases e; cases h1; cases h2
    exact op_le pins st σ H _ _ vv uu Q I rx ry ⟨_, _, rfl, rfl, q⟩
  · cases e; cases h1; cases h2
    exact op_gt pins st σ H _ _ vv uu Q I rx ry ⟨_, _, rfl, rfl, q⟩
  · cases e; cases h1; cases h2
    exact op_ge pins st σ H _ _ vv uu Q I rx ry ⟨_, _, rfl, rfl, q⟩
  · split at e
    · rename_i hd
      cases e
      obtain ⟨o1, o2, o3⟩ := ordD_of hd
      obtain ⟨as, r1, c1⟩ := reads_of hK I (Sub.refl H) h1 rx
      obtain ⟨bs, r2, c2⟩ := reads_of hK I (Sub.refl H) h2 ry
      exact PySem.W.lt_data r1 r2 o1 o2 (by rw [py_depth, py_depth]; omega) (fin rfl I)
    · cases e
  · split at e
    · rename_i hd
      cases e
      obtain ⟨o1, o2, o3⟩ := ordD_of hd
      obtain ⟨as, r1, c1⟩ := reads_of hK I (Sub.refl H) h1 rx
      obtain ⟨bs, r2, c2⟩ := reads_of hK I (Sub.refl H) h2 ry
      exact PySem.W.le_data r1 r2 o1 o2 (by rw [py_depth, py_depth]; omega) (fin rfl I)
    · cases e
  · split at e
    · rename_i hd
      cases e
      obtain ⟨o1, o2, o3⟩ := ordD_of hd
      obtain ⟨as, r1, c1⟩ := reads_of hK I (Sub.refl H) h1 rx
      obtain ⟨bs, r2, c2⟩ := reads_of hK I (Sub.refl H) h2 ry
      exact PySem.W.gt_data r1 r2 o1 o2 (by rw [py_depth, py_depth]; omega) (fin rfl I)
    · cases e
  · split at e
    · rename_i hd
      cases e
      obtain ⟨o1, o2, o3⟩ := ordD_of hd
      obtain ⟨as, r1, c1⟩ := reads_of hK I (Sub.refl H) h1 rx
      obtain ⟨bs, r2, c2⟩ := reads_of hK I (Sub.refl H) h2 ry
      exact PySem.W.ge_data r1 r2 o1 o2 (by rw [py_depth, py_depth]; omega) (fin rfl I)
    · cases e
  · rename_i a d
    cases e; cases h1; cases h2
    exact op_isBl pins st σ H _ _ vv uu Q I rx ry ⟨a, d, rfl, rfl, by
      have : decide (a = d) = (a == d) := by cases a <;> cases d <;> rfl
      rw [this]; exact q⟩
  · cases e; cases h1; cases h2
    cases (show vv = Value.none from rx)
    cases (show uu = Value.bool _ from ry)
    exact wpAny_is_other rfl (fun z => nomatch z) ⟨.bl false, H, I, rfl, q⟩
  · -- one sign in a text
    rename_i ch y
    cases e
    obtain ⟨rfl, o1⟩ := h1
    obtain ⟨rfl, o2⟩ := h2
    refine op_in_sign pins st σ H _ _ vv uu Q I rx ry ⟨ch, strV y, rfl, rfl, ?_⟩
    have : decide (ch ∈ (strV y).cps.toList) = y.contains ch := by
      show decide (ch ∈ y) = _
      rw [List.contains_eq_mem]
    rw [this]; exact q
  · rename_i ch y
    cases e
    obtain ⟨rfl, o1⟩ := h1
    obtain ⟨rfl, o2⟩ := h2
    refine op_notIn_sign pins st σ H _ _ vv uu Q I rx ry ⟨ch, strV y, rfl, rfl, ?_⟩
    have : decide (ch ∈ (strV y).cps.toList) = y.contains ch := by
      show decide (ch ∈ y) = _
      rw [List.contains_eq_mem]
    rw [this]; exact q
  · -- in a tuple
    rename_i a xs _
    split at e
    · cases e
      obtain ⟨as, r1, c1⟩ := reads_of hK I (Sub.refl H) h1 rx
      obtain ⟨bs, r2, c2⟩ := reads_of hK I (Sub.refl H) h2 ry
      exact SeqAt.in_tuple_reads r2 r1 c2 c1 (by rw [py_depth]; omega) (fin (inL_py _ _) I)
    · cases e
  · skip
    split at e
    · cases e
      obtain ⟨as, r1, c1⟩ := reads_of hK I (Sub.refl H) h1 rx
      obtain ⟨bs, r2, c2⟩ := reads_of hK I (Sub.refl H) h2 ry
      exact SeqAt.in_list_reads r2 r1 c2 c1 (by rw [py_depth]; omega) (fin (inL_py _ _) I)
    · cases e
  · skip
    split at e
    · cases e
      obtain ⟨as, r1, c1⟩ := reads_of hK I (Sub.refl H) h1 rx
      obtain ⟨bs, r2, c2⟩ := reads_of hK I (Sub.refl H) h2 ry
      exact SeqAt.notIn_tuple_reads r2 r1 c2 c1 (by rw [py_depth]; omega) (fin (congrArg not (inL_py _ _)) I)
    · cases e
  · skip
    split at e
    · cases e
      obtain ⟨as, r1, c1⟩ := reads_of hK I (Sub.refl H) h1 rx
      obtain ⟨bs, r2, c2⟩ := reads_of hK I (Sub.refl H) h2 ry
      exact SeqAt.notIn_list_reads r2 r1 c2 c1 (by rw [py_depth]; omega) (fin (congrArg not (inL_py _ _)) I)
    · cases e
  · cases e
    cases h2
    refine op_isN pins st σ H _ _ vv uu Q I rx ry ⟨rfl, ?_⟩
    rename_i a
    cases a with
    | non => cases h1; exact q
    | bl _ => cases h1; exact q
    | int _ => cases h1; exact q
    | str _ => obtain ⟨rfl, _⟩ := h1; exact q
    | tup _ => obtain ⟨_, _, rfl, _⟩ := h1; exact q
    | lst _ => obtain ⟨_, _, rfl, _⟩ := h1; exact q
  · cases e
    cases h2
    refine op_notN pins st σ H _ _ vv uu Q I rx ry ⟨rfl, ?_⟩
    rename_i a
    cases a with
    | non => cases h1; exact q
    | bl _ => cases h1; exact q
    | int _ => cases h1; exact q
    | str _ => obtain ⟨rfl, _⟩ := h1; exact q
    | tup _ => obtain ⟨_, _, rfl, _⟩ := h1; exact q
    | lst _ => obtain ⟨_, _, rfl, _⟩ := h1; exact q
  · cases e

/-! ### items, slices -/
/-- a value that is only seen -/
def RepP (c : Cn) (b : Bs) (g : G) (H : Hp) (r : Rv) (v : V) : Prop :=
  match r with
  | .fl ds => ∃ p vs, v = .ref p ∧ H p = some (.lst vs) ∧ RepL c.K g.F ds vs
  | r => RepO c b g H r v
theorem RepO.seen {r : Rv} {v : V} (h : RepO c b g H r v) : RepP c b g H r v := by
  cases r with
  | fl ds =>
    obtain ⟨p, vs, e, q, r, _⟩ := h
    exact ⟨p, vs, e, q, r⟩
  | _ => exact h
theorem sIx_eq : @Wi.sIx = @HT.sIx := by
  funext n d o
  cases o <;> rfl
theorem ixN_eq : @Wi.ixN = @L2.ixN := rfl
theorem atL_at {α : Type} (xs : List α) (i : Int) : atL xs i = atI xs i := rfl
theorem atI_rep {K : PySem.W.Frag} {F : Hp} {ds : List D} {vs : List V} {i : Int} {d : D} (h : RepL K F ds vs) (e : atL ds i = some d) : ∃ v, atI vs i = some v ∧ Rep K F d v := by
  unfold atL at e
  obtain ⟨j, h1, h2⟩ := Option.bind_eq_some_iff.mp e
  obtain ⟨v, h3, h4⟩ := h.get h2
  refine ⟨v, ?_, h4⟩
  unfold atI
  rw [← h.length]
  show (Wi.ixN ds.length i).bind _ = _
  rw [h1]; exact h3
def rS (c : Cn) (b : Bs) : R2 := fun v u H Q => ∃ sV g s x y z, Abs c b g sV H s ∧ RepP c b g H x v ∧ RepO c b g H y u ∧ subD x y = some z ∧
  ∀ g' H', G.le g g' → Abs c b g' sV H' s → ∀ w, RepR c b g' sV H' s z w → Q w H'
theorem okStr.at_ {x : List Nat} {i : Int} {ch : Nat} (a : okStr x) (e : atL x i = some ch) : okStr [ch] := by
  unfold atL at e
  obtain ⟨j, h1, h2⟩ := Option.bind_eq_some_iff.mp e
  have hm := List.mem_of_getElem? h2
  refine ⟨?_, fun c hc => ?_⟩
  · show 1 ≤ LIM
    decide
  · have : c = ch := by simpa using hc
    subst this
    exact a.2 _ hm
theorem ixS_ok (hK : X.K = c.K) : IxR X (rS c b) := by
  intro value slice pins st σ H v u vv uu Q I rx ry h hs
  obtain ⟨sV, g, s, x, y, z, A, h1, h2, e, q⟩ := h
  unfold subD at e
  split at e
  · rename_i x i
    cases h2
    obtain ⟨ch, e1, e2⟩ := Option.map_eq_some_iff.mp e
    subst e2
    obtain ⟨rfl, o1⟩ := h1
    refine ix_str value slice pins st σ H _ _ vv uu Q I rx ry ⟨strV x, i, ch, rfl, rfl, ?_, ?_, ?_⟩ hs
    · rw [strV_length]; exact lim_line o1.1
    · show atI x i = some ch
      exact e1
    · exact val_out A q (d := .str [ch]) ⟨rfl, o1.at_ e1⟩
  · rename_i xs i
    cases h2
    obtain ⟨d, e1, e2⟩ := Option.map_eq_some_iff.mp e
    subst e2
    obtain ⟨a, vs, rfl, t, r⟩ := h1
    obtain ⟨w, h3, h4⟩ := atI_rep r e1
    exact ix_tup value slice pins st σ H _ _ vv uu Q I rx ry ⟨a, vs, i, w, rfl, rfl, by rw [hK]; exact A.sh.fh.sqT t, h3, val_out A q h4⟩ hs
  · rename_i xs i
    cases h2
    obtain ⟨d, e1, e2⟩ := Option.map_eq_some_iff.mp e
    subst e2
    obtain ⟨a, vs, rfl, t, r⟩ := h1
    obtain ⟨w, h3, h4⟩ := atI_rep r e1
    exact ix_list value slice pins st σ H _ _ vv uu Q I rx ry ⟨a, vs, i, w, rfl, rfl, .inl (.inl (A.sh.fh _ _ t)), h3, val_out A q h4⟩ hs
  · rename_i xs i
    cases h2
    obtain ⟨d, e1, e2⟩ := Option.map_eq_some_iff.mp e
    subst e2
    obtain ⟨a, vs, rfl, t, r⟩ := h1
    obtain ⟨w, h3, h4⟩ := atI_rep r e1
    exact ix_list value slice pins st σ H _ _ vv uu Q I rx ry ⟨a, vs, i, w, rfl, rfl, .inl (.inl t), h3, val_out A q h4⟩ hs
  · rename_i xs i
    cases h2
    obtain ⟨d, e1, e2⟩ := Option.map_eq_some_iff.mp e
    subst e2
    obtain ⟨a, vs, rfl, t, r⟩ := h1
    obtain ⟨w, h3, h4⟩ := atI_rep r e1
    exact ix_list value slice pins st σ H _ _ vv uu Q I rx ry ⟨a, vs, i, w, rfl, rfl, by rw [hK]; exact A.sh.fh.sqL t, h3, val_out A q h4⟩ hs
  · exact False.elim h1
  · exact False.elim h1
  · cases e
def rCut (c : Cn) (b : Bs) : V → Option Int → Option Int → Hp → VK → Prop := fun v lo hi H Q => ∃ sV g s x z, Abs c b g sV H s ∧ RepO c b g H x v ∧ cutD x lo hi = some z ∧
  ∀ g' H', G.le g g' → Abs c b g' sV H' s → ∀ w, RepR c b g' sV H' s z w → Q w H'
theorem cut_rep {K : PySem.W.Frag} {F : Hp} {ds : List D} {vs : List V} (h : RepL K F ds vs) (lo hi : Option Int) : RepL K F (cutL ds lo hi) (cutV vs lo hi) := by
  unfold cutL cutV
  rw [sIx_eq, h.length]
  exact RepL.take _ (RepL.drop _ h)
theorem cut_all {α : Type} {xs : List α} {lo hi : Option Int} (h : HT.sIx xs.length 0 lo = 0 ∧ HT.sIx xs.length xs.length hi = xs.length) : cutL xs lo hi = xs := by
  unfold cutL
  rw [sIx_eq, h.1, h.2]
  simp
theorem cutL_sub {α : Type} (xs : List α) (lo hi : Option Int) : (cutL xs lo hi).length ≤ xs.length ∧ ∀ c ∈ cutL xs lo hi, c ∈ xs := by
  unfold cutL
  refine ⟨?_, fun c hc => List.mem_of_mem_drop (List.mem_of_mem_take hc)⟩
  rw [List.length_take, List.length_drop]
  omega
theorem slC_ok (hK : X.K = c.K) : SlR X (rCut c b) := by
  intro pins st σ H v vv vl vu lo hi sl Q I rx hs pl pu h
  obtain ⟨sV, g, s, x, z, A, h1, e, q⟩ := h
  unfold cutD at e
  split at e
  · rename_i x
    cases e
    obtain ⟨rfl, o1⟩ := h1
    refine sl_str pins st σ H _ vv vl vu lo hi sl Q I rx hs pl pu ⟨strV x, rfl, by rw [strV_length]; exact lim_line o1.1, ?_⟩
    have e : cutS (strV x) lo hi = strV (cutL x lo hi) := by
      unfold cutS strV cutL
      rw [sIx_eq]
      show (⟨_⟩ : Str) = ⟨_⟩
      congr 2
    rw [e]
    obtain ⟨k1, k2⟩ := cutL_sub x lo hi
    exact val_out A q (d := .str _) ⟨rfl, o1.sub k1 k2⟩
  · rename_i x
    cases e
    obtain ⟨a, vs, rfl, t, r⟩ := h1
    refine sl_tupA pins st σ H _ vv vl vu lo hi sl Q I rx hs pl pu ⟨a, vs, rfl, by rw [hK]; exact A.sh.fh.sqT t, fun hw => ?_, fun hw => ?_⟩
    · rw [← r.length] at hw
      rw [cut_all hw] at q
      exact val_out A q ⟨a, vs, rfl, t, r⟩
    · exact tup_out A (cut_rep r lo hi) q
  · rename_i x
    cases e
    obtain ⟨a, vs, rfl, t, r⟩ := h1
    exact sl_list pins st σ H _ vv vl vu lo hi sl Q I rx hs pl pu ⟨a, vs, rfl, .inl (.inl (A.sh.fh _ _ t)), lst_out A (cut_rep r lo hi) q⟩
  · cases e
end
end Wi

/-! Soundness 3: built-ins by values. -/
namespace Wi
open PySem PySem.Spec PyProof.Rows L2
/-- what is asked of values that are handed in, their things (none own) -/
abbrev RepA (c : Cn) (b : Bs) (g : G) (H : Hp) (rs : List Rv) (vs : List V) : Prop := Paired (fun r v => RepO c b g H r v ∧ isOwn r = false) rs vs
def rF (c : Cn) (b : Bs) (f : List Rv → Option Rv) : List V → Hp → VK → Prop := fun vs H Q => ∃ sV g s xs z, Abs c b g sV H s ∧ RepA c b g H xs vs ∧ f xs = some z ∧
  ∀ g' H', G.le g g' → Abs c b g' sV H' s → ∀ w, RepR c b g' sV H' s z w → Q w H'
theorem natCodes_str (n : Nat) : (Str.ofString (toString (n : Int))) = strV (natCodes n) := by
  rw [Str.ofString_eq_toList]
  show (⟨_⟩ : Str) = ⟨_⟩
  have e : (toString (n : Int)).toList = Nat.toDigits 10 n := Nat.toList_repr
  rw [e]; rfl
theorem char_lt (c : Char) : c.toNat < 1114112 := by
  have h := c.valid
  simp only [UInt32.isValidChar, Nat.isValidChar] at h
  have ht : c.toNat = c.val.toNat := rfl
  omega
theorem natCodes_ok (n : Nat) (h : n < 1000000000) : okStr (natCodes n) := by
  refine ⟨?_, fun c hc => ?_⟩
  · unfold natCodes
    rw [List.length_map]
    have := (Nat.length_toDigits_le_iff (b := 10) (n := n) (k := 9) (by decide) (by decide)).mpr (by omega)
    unfold LIM
    omega
  · unfold natCodes at hc
    obtain ⟨x, _, rfl⟩ := List.mem_map.mp hc
    exact char_lt x
/-! ### sorting -/
def insB {β : Type} (le : β → β → Bool) (a : β) : List β → List β
  | [] => [a]
  | b :: r => if le a b = true then a :: b :: r else b :: insB le a r
def isortB {β : Type} (le : β → β → Bool) : List β → List β
  | [] => []
  | a :: r => insB le a (isortB le r)
section
variable {β : Type} {le : β → β → Bool}
theorem insB_mem {a x : β} : ∀ {l : List β}, x ∈ insB le a l ↔ x = a ∨ x ∈ l
  | [] => by simp [insB]
  | b :: r => by
    unfold insB
    split
    · simp
    · simp only [List.mem_cons, insB_mem (l := r)]
      constructor
      · rintro (h | h | h) <;> simp [h]
      · rintro (h | h | h) <;> simp [h]
theorem insB_sorted (trans : ∀ x y z, le x y = true → le y z = true → le x z = true) (total : ∀ x y, (le x y || le y x) = true) {a : β} : ∀ {l : List β}, l.Pairwise (fun x y => le x y = true) → (insB le a l).Pairwise (fun x y => le x y = true)
  | [], _ => by simp [insB]
  | b :: r, h => by
    obtain ⟨h1, h2⟩ := List.pairwise_cons.mp h
    unfold insB
    split
    · rename_i hab
      refine List.pairwise_cons.mpr ⟨fun x hx => ?_, h⟩
      rcases List.mem_cons.mp hx with rfl | hx
      · exact hab
      · exact trans _ _ _ hab (h1 x hx)
    · rename_i hab
      refine List.pairwise_cons.mpr ⟨fun x hx => ?_, insB_sorted trans total h2⟩
      rcases insB_mem.mp hx with rfl | hx
      · have := total x b
        simpa [hab] using this
      · exact h1 x hx
theorem isortB_sorted (trans : ∀ x y z, le x y = true → le y z = true → le x z = true) (total : ∀ x y, (le x y || le y x) = true) : ∀ {l : List β}, (isortB le l).Pairwise (fun x y => le x y = true)
  | [] => List.Pairwise.nil
  | a :: r => insB_sorted trans total (isortB_sorted trans total)
theorem insB_filter (trans : ∀ x y z, le x y = true → le y z = true → le x z = true) (z a : β) : ∀ (l : List β), (insB le a l).filter (PySem.W.Srt.alike le z) = (a :: l).filter (PySem.W.Srt.alike le z)
  | [] => rfl
  | b :: r => by
    unfold insB
    split
    · rfl
    · rename_i hab
      rw [List.filter_cons, insB_filter trans z a r]
      by_cases ha : PySem.W.Srt.alike le z a = true
      · by_cases hb : PySem.W.Srt.alike le z b = true
        · exfalso
          unfold PySem.W.Srt.alike at ha hb
          obtain ⟨a1, a2⟩ := Bool.and_eq_true_iff.mp ha
          obtain ⟨b1, b2⟩ := Bool.and_eq_true_iff.mp hb
          exact hab (trans _ _ _ a2 b1)
        · simp [ha, hb]
      · by_cases hb : PySem.W.Srt.alike le z b = true
        · simp [ha, hb]
        · simp [ha, hb]
theorem isortB_filter (trans : ∀ x y z, le x y = true → le y z = true → le x z = true) (z : β) : ∀ (l : List β), (isortB le l).filter (PySem.W.Srt.alike le z) = l.filter (PySem.W.Srt.alike le z)
  | [] => rfl
  | a :: r => by
    show (insB le a (isortB le r)).filter _ = _
    rw [insB_filter trans, List.filter_cons, isortB_filter trans z r, ← List.filter_cons]
theorem isortB_eq (trans : ∀ x y z, le x y = true → le y z = true → le x z = true) (total : ∀ x y, (le x y || le y x) = true) (l : List β) : isortB le l = l.mergeSort le :=
  PySem.W.Srt.the le trans total (isortB_sorted trans total) fun z => isortB_filter trans z l
theorem isortB_mem {x : β} : ∀ {l : List β}, x ∈ isortB le l ↔ x ∈ l
  | [] => Iff.rfl
  | a :: r => by
    show x ∈ insB le a (isortB le r) ↔ _
    rw [insB_mem, isortB_mem (l := r), List.mem_cons]
theorem isortB_map {γ : Type} {le' : γ → γ → Bool} (f : β → γ) (hf : ∀ x y, le' (f x) (f y) = le x y) : ∀ l : List β, (isortB le l).map f = isortB le' (l.map f)
  | [] => rfl
  | a :: r => by
    show (insB le a (isortB le r)).map f = insB le' (f a) (isortB le' (r.map f))
    rw [← isortB_map f hf r]
    generalize isortB le r = m
    induction m with
    | nil => rfl
    | cons b m ih =>
      show (if le a b = true then a :: b :: m else b :: insB le a m).map f = if le' (f a) (f b) = true then f a :: f b :: m.map f else f b :: insB le' (f a) (m.map f)
      rw [hf]
      split
      · rfl
      · rw [List.map_cons, ih]
end
theorem dLe_trans (x y z : PyData) (h1 : (!PySem.W.dataLt y x) = true) (h2 : (!PySem.W.dataLt z y) = true) : (!PySem.W.dataLt z x) = true := by
  cases e : PySem.W.dataLt z x with
  | false => rfl
  | true =>
    rcases PyProof.Rows.lex_negTrans (O := PyProof.Rows.itemOrd) _ (PySem.W.keyToks y) _ e with q | q
    · rw [show PySem.W.dataLt z y = true from q] at h2; cases h2
    · rw [show PySem.W.dataLt y x = true from q] at h1; cases h1
theorem dLe_total (x y : PyData) : ((!PySem.W.dataLt y x) || (!PySem.W.dataLt x y)) = true := by
  cases e : PySem.W.dataLt y x with
  | false => rfl
  | true =>
    cases e2 : PySem.W.dataLt x y with
    | false => rfl
    | true =>
      have q := PyProof.Rows.lex_trans (O := PyProof.Rows.itemOrd) _ _ _ e e2
      rw [PyProof.Rows.lex_irrefl] at q; cases q
theorem isort_eq : ∀ l : List D, isort l = isortB (fun a b => !ltD b a) l
  | [] => rfl
  | a :: r => by
    show insD a (isort r) = insB _ a (isortB _ r)
    rw [← isort_eq r]
    generalize isort r = m
    induction m with
    | nil => rfl
    | cons b m ih =>
      unfold insD insB
      cases ltD b a with
      | true => simp [ih]
      | false => simp
theorem strV_inj {x y : List Nat} (h : strV x = strV y) : x = y := by
  have := congrArg (fun z : Str => z.cps.toList) h
  simpa [strV] using this
mutual
theorem py_inj : ∀ (a b : D), a.py = b.py → a = b
  | .non, b, h => by cases b <;> first | rfl | cases h
  | .bl x, b, h => by cases b <;> first | (cases h; rfl) | cases h
  | .int x, b, h => by cases b <;> first | (cases h; rfl) | cases h
  | .str x, b, h => by
    cases b with
    | str y => rw [strV_inj (PyData.str.inj h)]
    | _ => cases h
  | .tup x, b, h => by
    cases b with
    | tup y => rw [pyL_inj x y (PyData.tuple.inj h)]
    | _ => cases h
  | .lst x, b, h => by
    cases b with
    | lst y => rw [pyL_inj x y (PyData.list.inj h)]
    | _ => cases h
theorem pyL_inj : ∀ (a b : List D), D.pyL a = D.pyL b → a = b
  | [], b, h => by
    cases b with
    | nil => rfl
    | cons _ _ => cases h
  | x :: a, b, h => by
    cases b with
    | nil => cases h
    | cons y b =>
      have h1 : x.py :: D.pyL a = y.py :: D.pyL b := h
      rw [py_inj x y (List.cons.inj h1).1, pyL_inj a b (List.cons.inj h1).2]
end
theorem pyL_map : ∀ ds : List D, D.pyL ds = ds.map D.py
  | [] => rfl
  | d :: ds => by
    show d.py :: D.pyL ds = _
    rw [pyL_map ds]; rfl
theorem minDD_py (d : D) (ds : List D) : (minDD d ds).py = PySem.W.minD d.py (D.pyL ds) := by
  rw [pyL_map]
  unfold minDD PySem.W.minD
  induction ds generalizing d with
  | nil => rfl
  | cons x ds ih =>
    rw [List.foldl_cons, List.map_cons, List.foldl_cons, ih]
    congr 1
    show (if PySem.W.dataLt x.py d.py = true then x else d).py = _
    split <;> simp_all
theorem maxDD_py (d : D) (ds : List D) : (maxDD d ds).py = PySem.W.maxD d.py (D.pyL ds) := by
  rw [pyL_map]
  unfold maxDD PySem.W.maxD
  induction ds generalizing d with
  | nil => rfl
  | cons x ds ih =>
    rw [List.foldl_cons, List.map_cons, List.foldl_cons, ih]
    congr 1
    show (if PySem.W.dataLt d.py x.py = true then x else d).py = _
    split <;> simp_all
theorem foldl_mem (f : D → D → Bool) : ∀ (ds : List D) (d : D), ds.foldl (fun a y => if f a y = true then y else a) d ∈ d :: ds
  | [], d => List.mem_cons_self
  | x :: ds, d => by
    rw [List.foldl_cons]
    have := foldl_mem f ds (if f d x = true then x else d)
    split at this
    · rename_i h
      rw [if_pos h]
      exact List.mem_cons_of_mem _ this
    · rename_i h
      rw [if_neg h]
      rcases List.mem_cons.mp this with e | e
      · rw [e]; exact List.mem_cons_self
      · exact List.mem_cons_of_mem _ (List.mem_cons_of_mem _ e)
theorem depth_all : ∀ (ds : List D), (∀ d ∈ ds, d.dep ≤ 16) → PyData.depthAll (D.pyL ds) ≤ 16
  | [], _ => by show 0 ≤ 16; omega
  | d :: ds, h => by
    show max d.py.depth (PyData.depthAll (D.pyL ds)) ≤ 16
    have h1 := h d List.mem_cons_self
    have h2 := depth_all ds fun x hx => h x (List.mem_cons_of_mem _ hx)
    rw [py_depth]; omega
theorem ordAll_of {ds : List D} (h : ordAll ds = true) : (∀ a ∈ ds, ∀ b ∈ ds, PySem.W.alike a.py b.py = true) ∧ (∀ a ∈ ds, a.py ≠ .none) ∧ ∀ a ∈ ds, a.dep ≤ 16 := by
  unfold ordAll at h
  obtain ⟨h1, h2⟩ := and_of h
  refine ⟨fun a ha b hb => List.all_eq_true.mp (List.all_eq_true.mp h1 a ha) b hb, fun a ha => ?_, fun a ha => ?_⟩
  · exact notNon_py (and_of (List.all_eq_true.mp h2 a ha)).1
  · exact of_decide_eq_true (and_of (List.all_eq_true.mp h2 a ha)).2
theorem alikeAll_of {ds : List D} (h : ordAll ds = true) : PySem.W.AlikeAll (D.pyL ds) := by
  obtain ⟨h1, h2, _⟩ := ordAll_of h
  rw [pyL_map]
  refine ⟨fun x hx y hy => ?_, fun x hx => ?_⟩
  · obtain ⟨a, ha, rfl⟩ := List.mem_map.mp hx
    obtain ⟨b, hb, rfl⟩ := List.mem_map.mp hy
    exact h1 a ha b hb
  · obtain ⟨a, ha, rfl⟩ := List.mem_map.mp hx
    exact h2 a ha
theorem sortB_of {ds : List D} (h : sortB ds = true) : PySem.W.Sortable (ds.map D.py) := by
  unfold sortB at h
  rcases Bool.or_eq_true_iff.mp h with h | h
  · refine .inl fun x hx => ?_
    obtain ⟨a, ha, rfl⟩ := List.mem_map.mp hx
    have := List.all_eq_true.mp h a ha
    split at this
    · exact ⟨_, _, rfl⟩
    · cases this
  · refine .inr fun x hx => ?_
    obtain ⟨a, ha, rfl⟩ := List.mem_map.mp hx
    have := List.all_eq_true.mp h a ha
    split at this
    · cases this
    · cases this
    · rename_i h1 h2
      cases a with
      | tup l => exact absurd rfl (h1 l)
      | non => exact absurd rfl h2
      | _ => exact ⟨(fun e => nomatch e), (fun _ e => nomatch e)⟩
theorem repL_zip {K : PySem.W.Frag} {F : Hp} : ∀ {ds : List D} {vs : List V}, RepL K F ds vs → ∀ p ∈ ds.zip vs, Rep K F p.1 p.2
  | [], vs, h, p, hp => by simp at hp
  | d :: ds, vs, h, p, hp => by
    obtain ⟨v, r, rfl, h1, h2⟩ := h
    rcases List.mem_cons.mp hp with rfl | hp
    · exact h1
    · exact repL_zip h2 p hp
theorem repL_of_zip {K : PySem.W.Frag} {F : Hp} : ∀ (l : List (D × V)), (∀ p ∈ l, Rep K F p.1 p.2) → RepL K F (l.map (·.1)) (l.map (·.2))
  | [], _ => rfl
  | p :: l, h => ⟨p.2, l.map (·.2), rfl, h p List.mem_cons_self, repL_of_zip l fun q hq => h q (List.mem_cons_of_mem _ hq)⟩
theorem each_zip {its : List Value} : ∀ {ds : List D} {vs : List V}, ds.length = vs.length → Vals vs its → PySem.W.EachIs (fun (v : Value) (b : D × V) => RelV b.2 v) its (ds.zip vs)
  | [], [], _, h => by cases h; exact .nil
  | d :: ds, v :: vs, hl, h => by
    cases h with
    | cons r t => exact .cons r (each_zip (by simpa using hl) t)
theorem vals_of_each : ∀ {out : List Value} {l : List (D × V)}, PySem.W.EachIs (fun (v : Value) (b : D × V) => RelV b.2 v) out l → Vals (l.map (·.2)) out
  | [], _, h => by cases h; exact .nil
  | v :: out, _, h => by
    cases h with
    | cons r t => exact .cons r (vals_of_each t)
theorem each_reads {h : Heap} : ∀ {its : List Value} {ds : List D} {vs : List V} {as : List Addr}, ds.length = vs.length → ReadsAll h its (D.pyL ds) as → PySem.W.EachIs (fun (v : Value) (b : D × V) => ∃ as, Reads h v b.1.py as) its (ds.zip vs)
  | _, [], [], _, _, r => by cases r; exact .nil
  | _, d :: ds, v :: vs, _, hl, r => by
    cases r with
    | cons r1 r2 => exact .cons ⟨_, r1⟩ (each_reads (by simpa using hl) r2)
theorem two_of {c : Cn} {b : Bs} {g : G} {H : Hp} {r r' : Rv} {vs : List V} (h : RepA c b g H [r, r'] vs) : ∃ v u, vs = [v, u] ∧ (RepO c b g H r v ∧ isOwn r = false) ∧ RepO c b g H r' u ∧ isOwn r' = false := by
  cases h with
  | cons h1 h2 =>
    cases h2 with
    | cons h3 h4 => cases h4; exact ⟨_, _, rfl, h1, h3⟩
section
variable {X : Cx} {c : Cn} {b : Bs} {g : G} {sV : L2.St} {H : Hp} {s : Wi.St}
theorem one_of {r : Rv} {vs : List V} (h : RepA c b g H [r] vs) : ∃ v, vs = [v] ∧ RepO c b g H r v ∧ isOwn r = false := by
  cases h with
  | cons h1 h2 => cases h2; exact ⟨_, rfl, h1.1, h1.2⟩
theorem intsD_rep {K : PySem.W.Frag} {F : Hp} : ∀ {ds : List D} {vs : List V} {ns : List Int}, RepL K F ds vs → intsD ds = some ns → vs = ns.map V.int
  | [], _, _, h, e => by cases h; cases e; rfl
  | .int i :: r, vs, ns, h, e => by
    obtain ⟨v, q, rfl, h1, h2⟩ := h
    obtain ⟨l, e1, e2⟩ := Option.map_eq_some_iff.mp (show (intsD r).map (i :: ·) = some ns from e)
    subst e2
    cases h1
    rw [intsD_rep h2 e1]; rfl
  | .non :: _, _, _, _, e => by cases e
  | .bl _ :: _, _, _, _, e => by cases e
  | .str _ :: _, _, _, _, e => by cases e
  | .tup _ :: _, _, _, _, e => by cases e
  | .lst _ :: _, _, _, _, e => by cases e
theorem boolsD_rep {K : PySem.W.Frag} {F : Hp} : ∀ {ds : List D} {vs : List V} {ns : List Bool}, RepL K F ds vs → boolsD ds = some ns → vs = ns.map V.bl
  | [], _, _, h, e => by cases h; cases e; rfl
  | .bl i :: r, vs, ns, h, e => by
    obtain ⟨v, q, rfl, h1, h2⟩ := h
    obtain ⟨l, e1, e2⟩ := Option.map_eq_some_iff.mp (show (boolsD r).map (i :: ·) = some ns from e)
    subst e2
    cases h1
    rw [boolsD_rep h2 e1]; rfl
  | .non :: _, _, _, _, e => by cases e
  | .int _ :: _, _, _, _, e => by cases e
  | .str _ :: _, _, _, _, e => by cases e
  | .tup _ :: _, _, _, _, e => by cases e
  | .lst _ :: _, _, _, _, e => by cases e
theorem strsD_rep {K : PySem.W.Frag} {F : Hp} : ∀ {ds : List D} {vs : List V} {ns : List (List Nat)}, RepL K F ds vs → strsD ds = some ns → vs = (ns.map strV).map V.str ∧ ∀ x ∈ ns, okStr x
  | [], _, _, h, e => by cases h; cases e; exact ⟨rfl, fun _ hm => nomatch hm⟩
  | .str i :: r, vs, ns, h, e => by
    obtain ⟨v, q, rfl, h1, h2⟩ := h
    obtain ⟨l, e1, e2⟩ := Option.map_eq_some_iff.mp (show (strsD r).map (i :: ·) = some ns from e)
    subst e2
    obtain ⟨rfl, o⟩ := h1
    obtain ⟨k1, k2⟩ := strsD_rep h2 e1
    rw [k1]
    exact ⟨rfl, fun x hx => (List.mem_cons.mp hx).elim (fun e => e ▸ o) (k2 x)⟩
  | .non :: _, _, _, _, e => by cases e
  | .int _ :: _, _, _, _, e => by cases e
  | .bl _ :: _, _, _, _, e => by cases e
  | .tup _ :: _, _, _, _, e => by cases e
  | .lst _ :: _, _, _, _, e => by cases e
def biV : BI → Value
  | .len => .builtin "len" | .int => .type "int" | .str => .type "str" | .sum => .builtin "sum" | .all => .builtin "all" | .any => .builtin "any"
  | .tuple => .type "tuple" | .list => .type "list" | .min => .builtin "min" | .max => .builtin "max" | .sorted => .builtin "sorted" | .set => .type "set" | .abs => .builtin "abs"
theorem lenD_ok (hK : X.K = c.K) {x : Rv} {v : V} {n : Nat} (A : Abs c b g sV H s) (h : RepP c b g H x v) (e : lenD x = some n) : LenV X.K v H n := by
  unfold lenD at e
  split at e
  · cases e
    obtain ⟨rfl, o⟩ := h
    exact ⟨by rw [strV_length]; exact lim_line o.1, (strV_length _).symm⟩
  · cases e
    obtain ⟨a, vs, rfl, t, r⟩ := h
    exact .inr ⟨vs, by rw [hK]; exact A.sh.fh.sqT t, r.length⟩
  · cases e
    obtain ⟨a, vs, rfl, t, r⟩ := h
    exact .inl ⟨vs, .inl (.inl (A.sh.fh _ _ t)), r.length⟩
  · cases e
    obtain ⟨a, vs, rfl, t, r⟩ := h
    exact .inl ⟨vs, .inl (.inl t), r.length⟩
  · cases e
    obtain ⟨a, vs, rfl, t, r⟩ := h
    exact .inl ⟨vs, by rw [hK]; exact A.sh.fh.sqL t, r.length⟩
  · exact False.elim h
  · exact False.elim h
  · cases e
theorem pickRep_ok (hK : X.K = c.K) {pins : List (Addr × Obj)} {σ : L2.St} {st : Shared} {ds : List D} {m : D} {vs : List V} {its : List Value} {Q : VK} {h' : Heap} {tk : Nat} {i : Nat} {v : Value} {bs : List Addr} (A : Abs c b g sV H s) (I : Inv X pins σ H st) (hr : RepL c.K g.F ds vs) (rv : Vals vs its) (ho : ordAll ds = true) (hm : m ∈ ds)
    (hv : its[i]? = some v) (hread : Reads h' v m.py bs) (keep : ∀ b o, st.heap.get? b = some o → h'.get? b = some o)
    (q : ∀ g' H', G.le g g' → Abs c b g' sV H' s → ∀ w, RepR c b g' sV H' s (.v m) w → Q w H') : EP X pins σ Q v { st with heap := h', toks := tk } := by
  obtain ⟨h1, _, _⟩ := ordAll_of ho
  have hi : i < vs.length := by rw [rv.length]; exact (List.getElem?_eq_some_iff.mp hv).1
  have ev : vs[i]? = some vs[i] := List.getElem?_eq_getElem hi
  obtain ⟨u, hu, ru⟩ := rv.get ev
  rw [hv] at hu; cases hu
  obtain ⟨e, he, re⟩ := hr.get' ev
  obtain ⟨as, r1, _⟩ := reads_of hK I A.sh.fh re ru
  have r2 : Reads h' v e.py as := PyProof.Rows.Reads.keeps keep r1
  have e1 := PySem.W.alike_unique _ _ _ _ _ (h1 e (List.mem_of_getElem? he) m hm) r2 hread
  have e2 := py_inj _ _ e1
  subst e2
  exact ⟨vs[i], H, I.kept keep, ru, val_out A q re⟩
theorem biD_ok (hK : X.K = c.K) (hc : X.calm = true) (hu : X.A.units + 64 < cLine) (f : BI) : CallR X (biV f) (rF c b (biD f)) := by
  intro pins st σ H vs us Q I rx h
  obtain ⟨sV, g, s, xs, z, A, h1, e, q⟩ := h
  unfold biD at e
  split at e
  · -- len
    obtain ⟨n, e1, e2⟩ := Option.map_eq_some_iff.mp e
    subst e2
    obtain ⟨v, rfl, h2, h3⟩ := one_of h1
    exact call_len pins st σ H _ us Q I rx ⟨v, n, rfl, lenD_ok hK A h2.seen e1, val_out A q rfl⟩
  · cases e
    obtain ⟨v, rfl, h2, h3⟩ := one_of h1
    cases h2
    exact call_int1 pins st σ H _ us Q I rx (.inl ⟨_, rfl, val_out A q rfl⟩)
  · cases e
    obtain ⟨v, rfl, h2, h3⟩ := one_of h1
    cases h2
    exact call_int1 pins st σ H _ us Q I rx (.inr ⟨_, rfl, val_out A q rfl⟩)
  · split at e
    · rename_i x hl
      obtain ⟨n, e1, e2⟩ := Option.map_eq_some_iff.mp e
      subst e2
      obtain ⟨v, rfl, h2, h3⟩ := one_of h1
      obtain ⟨rfl, o⟩ := h2
      exact call_int_str pins st σ H _ us Q I rx ⟨strV x, n, rfl, e1, by rw [strV_length]; exact hl, val_out A q rfl⟩
    · cases e
  · split at e
    · rename_i i hl
      cases e
      obtain ⟨v, rfl, h2, h3⟩ := one_of h1
      cases h2
      have en : ((i.toNat : Nat) : Int) = i := Int.toNat_of_nonneg hl.1
      refine call_str_int pins st σ H _ us Q I rx ⟨i, rfl, ?_, ?_⟩
      · have : i.natAbs < 2 ^ 30 := by omega
        have h2 : i.natAbs.log2 < 30 ∨ i.natAbs = 0 := by
          by_cases h0 : i.natAbs = 0
          · exact .inr h0
          · exact .inl ((Nat.log2_lt h0).mpr this)
        rcases h2 with h | h
        · omega
        · rw [h]; decide
      · have e2 : Str.ofString (toString i) = strV (natCodes i.toNat) := by
          have := natCodes_str i.toNat
          rw [en] at this; exact this
        show Q (.str (Str.ofString (toString i))) H
        rw [e2]
        exact val_out A q (d := .str _) ⟨rfl, natCodes_ok _ (by omega)⟩
    · cases e
  · -- sum
    obtain ⟨l, e1, e2⟩ := Option.map_eq_some_iff.mp e
    subst e2
    obtain ⟨v, rfl, h2, h3⟩ := one_of h1
    obtain ⟨a, vs, rfl, t, r⟩ := h2
    have := intsD_rep r e1
    subst this
    exact cr_sum hc pins st σ H _ us Q I rx ⟨a, l, rfl, .inl (.inl (A.sh.fh _ _ t)), val_out A q rfl⟩
  · obtain ⟨l, e1, e2⟩ := Option.map_eq_some_iff.mp e
    subst e2
    obtain ⟨v, rfl, h2, h3⟩ := one_of h1
    obtain ⟨a, vs, rfl, t, r⟩ := h2
    have := boolsD_rep r e1
    subst this
    exact cr_all hc pins st σ H _ us Q I rx ⟨a, l, rfl, .inl (.inl (A.sh.fh _ _ t)), val_out A q rfl⟩
  · obtain ⟨l, e1, e2⟩ := Option.map_eq_some_iff.mp e
    subst e2
    obtain ⟨v, rfl, h2, h3⟩ := one_of h1
    obtain ⟨a, vs, rfl, t, r⟩ := h2
    have := boolsD_rep r e1
    subst this
    exact cr_any hc pins st σ H _ us Q I rx ⟨a, l, rfl, .inl (.inl (A.sh.fh _ _ t)), val_out A q rfl⟩
  · cases e
    obtain ⟨v, rfl, h2, h3⟩ := one_of h1
    obtain ⟨a, vs, rfl, t, r⟩ := h2
    exact call_tuple_of pins st σ H _ us Q I rx ⟨a, vs, rfl, .inl ⟨.inl (.inl (A.sh.fh _ _ t)), tup_out A r q⟩⟩
  · cases e
    obtain ⟨v, rfl, h2, h3⟩ := one_of h1
    obtain ⟨a, vs, rfl, t, r⟩ := h2
    exact call_tuple_of pins st σ H _ us Q I rx ⟨a, vs, rfl, .inr ⟨by rw [hK]; exact A.sh.fh.sqT t, val_out A q ⟨a, vs, rfl, t, r⟩⟩⟩
  · cases e
    obtain ⟨v, rfl, h2, h3⟩ := one_of h1
    obtain ⟨a, vs, rfl, t, r⟩ := h2
    exact call_list_of pins st σ H _ us Q I rx ⟨a, vs, rfl, .inl (.inl (.inl (A.sh.fh _ _ t))), lst_out A r q⟩
  · cases e
    obtain ⟨v, rfl, h2, h3⟩ := one_of h1
    obtain ⟨a, vs, rfl, t, r⟩ := h2
    exact call_list_of pins st σ H _ us Q I rx ⟨a, vs, rfl, .inr (by rw [hK]; exact A.sh.fh.sqT t), lst_out A r q⟩
  · cases e
    obtain ⟨v, u, rfl, ⟨h2, _⟩, h3, _⟩ := two_of h1
    cases h2; cases h3
    exact call_min2 hc pins st σ H _ us Q I rx ⟨_, _, rfl, val_out A q rfl⟩
  · cases e
    obtain ⟨v, u, rfl, ⟨h2, _⟩, h3, _⟩ := two_of h1
    cases h2; cases h3
    exact call_max2 hc pins st σ H _ us Q I rx ⟨_, _, rfl, val_out A q rfl⟩
  · rename_i d ds
    split at e
    · rename_i ho
      cases e
      obtain ⟨v, rfl, h2, h3⟩ := one_of h1
      obtain ⟨a, vs, rfl, t, r⟩ := h2
      obtain ⟨its, rv, hl, hz⟩ := I.list (.inl (.inl (A.sh.fh _ _ t)))
      rw [Vals.ref1 rx]
      obtain ⟨as, ra⟩ := Dp.readsAll I _ _ _ (by rw [hK]; exact (RepL.dp A.sh.fh _ _ r).1) rv
      have hd := depth_all _ (ordAll_of ho).2.2
      refine PySem.W.min_list_data (x := d.py) (xs := D.pyL ds) (I.ok.hd hc) hl.isList (show ReadsAll st.heap its.toArray.toList (d.py :: D.pyL ds) as from ra) (alikeAll_of ho) (by have : PyData.depthAll (d.py :: D.pyL ds) ≤ 16 := hd; omega) fun i v h' tk bs hv hr hk => ?_
      rw [← minDD_py] at hr
      exact pickRep_ok hK A I r rv ho (foldl_mem (fun a y => ltD y a) ds d) (by simpa using hv) hr hk q
    · cases e
  · rename_i d ds
    split at e
    · rename_i ho
      cases e
      obtain ⟨v, rfl, h2, h3⟩ := one_of h1
      obtain ⟨a, vs, rfl, t, r⟩ := h2
      obtain ⟨its, rv, hl, hz⟩ := I.list (.inl (.inl (A.sh.fh _ _ t)))
      rw [Vals.ref1 rx]
      obtain ⟨as, ra⟩ := Dp.readsAll I _ _ _ (by rw [hK]; exact (RepL.dp A.sh.fh _ _ r).1) rv
      have hd := depth_all _ (ordAll_of ho).2.2
      refine PySem.W.max_list_data (x := d.py) (xs := D.pyL ds) (I.ok.hd hc) hl.isList (show ReadsAll st.heap its.toArray.toList (d.py :: D.pyL ds) as from ra) (alikeAll_of ho) (by have : PyData.depthAll (d.py :: D.pyL ds) ≤ 16 := hd; omega) fun i v h' tk bs hv hr hk => ?_
      rw [← maxDD_py] at hr
      exact pickRep_ok hK A I r rv ho (foldl_mem (fun a y => ltD a y) ds d) (by simpa using hv) hr hk q
    · cases e
  · rename_i ds
    split at e
    · rename_i ho
      obtain ⟨ho, hb, hl1⟩ := ho
      cases e
      obtain ⟨v, rfl, h2, h3⟩ := one_of h1
      obtain ⟨a, vs, rfl, t, r⟩ := h2
      obtain ⟨its, rv, hl, hz⟩ := I.list (.inl (.inl (A.sh.fh _ _ t)))
      rw [Vals.ref1 rx]
      obtain ⟨as, ra⟩ := Dp.readsAll I _ _ _ (by rw [hK]; exact (RepL.dp A.sh.fh _ _ r).1) rv
      have hd := (ordAll_of ho).2.2
      have hlen := r.length
      have emap : (ds.zip vs).map (fun b : D × V => b.1.py) = ds.map D.py := by
        rw [show (fun b : D × V => b.1.py) = D.py ∘ Prod.fst from rfl, ← List.map_map, List.map_fst_zip (Nat.le_of_eq hlen)]
      refine PySem.W.sorted_data (R := fun (v : Value) (b : D × V) => RelV b.2 v) (bs := ds.zip vs) (enc := fun b => b.1.py) hl.isList (each_zip hlen rv) (each_reads hlen ra) ?_ (by rw [emap]; exact sortB_of hb) ?_ ?_ fun out h1 h2 => ?_
      · rw [emap]
        intro x hx y hy
        obtain ⟨p, hp, rfl⟩ := List.mem_map.mp hx
        obtain ⟨q, hq, rfl⟩ := List.mem_map.mp hy
        exact (ordAll_of ho).1 p hp q hq
      · rw [List.length_zip]; omega
      · intro p hp
        have hm : p.1 ∈ ds := (List.of_mem_zip hp).1
        rw [py_depth]
        have := hd _ hm
        omega
      · have es : (ds.zip vs).mergeSort (PySem.W.dataLe false fun b : D × V => b.1.py) = isortB (fun x y : D × V => !ltD y.1 x.1) (ds.zip vs) := by
          rw [PySem.W.dataLe_eq]
          exact (isortB_eq (le := fun x y : D × V => !PySem.W.dataLt y.1.py x.1.py) (fun x y z => dLe_trans _ _ _) (fun x y => dLe_total _ _) _).symm
        rw [es] at h2
        have hv := vals_of_each h2
        have ed : (isortB (fun x y : D × V => !ltD y.1 x.1) (ds.zip vs)).map (·.1) = isort ds := by
          rw [isortB_map (le' := fun x y : D => !ltD y x) (fun p : D × V => p.1) (fun _ _ => rfl), List.map_fst_zip (Nat.le_of_eq hlen), isort_eq]
        have rl : RepL c.K g.F (isort ds) ((isortB (fun x y : D × V => !ltD y.1 x.1) (ds.zip vs)).map (·.2)) := by
          rw [← ed]
          exact repL_of_zip _ fun p hp => repL_zip r p (isortB_mem.mp hp)
        obtain ⟨ep, he'⟩ := PyProof.Rows.sortedAll_at st.heap its out.toArray
        have hln : ((isortB (fun x y : D × V => !ltD y.1 x.1) (ds.zip vs)).map (·.2)).length ≤ sizeLine := by
          rw [hv.length, h1, List.length_zip]; omega
        exact ⟨.ref _, upd H (st.heap.objs.size + 1) (.lst ((isortB (fun x y : D × V => !ltD y.1 x.1) (ds.zip vs)).map (·.2))), I.laid (t' := st.toks) (fun _ _ => PyProof.Rows.sortedAll_old) (Nat.le_succ _) ⟨hln, out, ep, hv, he'⟩, rfl,
          lst_out A rl q _ (I.hok.fresh (Nat.le_succ _))⟩
    · cases e
  · cases e
end
end Wi

/-! Soundness 4: the look that holds the text against the IR; facts of the text alone. -/
namespace Wi
open PySem PySem.Spec PyProof.Rows L2

/-- the module's names: defs, constants, exception classes -/
structure CK where
  fns : List (Str × Nat)
  cst : List (Str × D)
  exs : List (Str × Nat)
  hot : Bool
  hots : List (Str × Nat)
def Es.len : Es → Nat
  | .nil => 0
  | .cons _ es => es.len + 1
mutual
def dsame : D → D → Bool
  | .non, .non => true
  | .bl a, .bl b => a == b
  | .int a, .int b => a == b
  | .str a, .str b => a == b
  | .tup a, .tup b => dsameL a b
  | .lst a, .lst b => dsameL a b
  | _, _ => false
def dsameL : List D → List D → Bool
  | [], [] => true
  | a :: r, b :: q => dsame a b && dsameL r q
  | _, _ => false
end
mutual
theorem dsame_eq : ∀ (a b : D), dsame a b = true → a = b
  | .non, b, h => by cases b <;> first | rfl | cases h
  | .bl x, b, h => by cases b <;> first | (rw [beq_iff_eq.mp (show (x == _) = true from h)]; done) | cases h
  | .int x, b, h => by cases b <;> first | (rw [beq_iff_eq.mp (show (x == _) = true from h)]; done) | cases h
  | .str x, b, h => by cases b <;> first | (rw [beq_iff_eq.mp (show (x == _) = true from h)]; done) | cases h
  | .tup x, b, h => by cases b <;> first | (rw [dsameL_eq x _ h]; done) | cases h
  | .lst x, b, h => by cases b <;> first | (rw [dsameL_eq x _ h]; done) | cases h
theorem dsameL_eq : ∀ (a b : List D), dsameL a b = true → a = b
  | [], b, h => by cases b <;> first | rfl | cases h
  | x :: r, b, h => by
    cases b with
    | nil => cases h
    | cons y q =>
      have h2 : (dsame x y && dsameL r q) = true := h
      rw [Bool.and_eq_true] at h2
      rw [dsame_eq x y h2.1, dsameL_eq r q h2.2]
end
/-- a constant of the text -/
def cok : D → Const → Bool
  | .non, .none => true
  | .bl a, .bool b => a == b
  | .int a, .int b => a == b
  | .str a, .str b => decide (b.cps.toList = a) && (decide (a.length ≤ 1000) && a.all (fun c => decide (c < 0x110000)))
  | _, _ => false
def visB (sc : Scope) (x : Str) : Bool := match sc.names.lookup x with | some .local => true | some .cell => true | some .free => true | _ => false
def locB (sc : Scope) (x : Str) : Bool := match sc.names.lookup x with | some .local => true | _ => false
def dunder (x : Str) : Bool := !(x == ("__debug__" : Str)) && !(x == ("__classdict__" : Str)) && !decide (x = ("__name__" : Str))
def nameB (N : List Str) (sc : Scope) (i : Nat) (x : Str) : Bool := decide (N[i]? = some x) && (visB sc x && dunder x)
def globB (sc : Scope) (x : Str) : Bool := (match sc.names.lookup x with | some .globalImplicit => true | _ => false) && dunder x
def biN : BI → Str
  | .len => "len" | .int => "int" | .str => "str" | .sum => "sum" | .all => "all" | .any => "any" | .tuple => "tuple" | .list => "list" | .min => "min" | .max => "max" | .sorted => "sorted" | .set => "set" | .abs => "abs"
def tyN : Ty → Option Str
  | .int => some "int" | .bool => some "bool" | .str => some "str" | .tuple => some "tuple" | .list => some "list" | _ => none
def opB (a : BOp) (o : Operator) : Bool := decide (pyB a = o)
def opC (a : COp) (o : CmpOp) : Bool := decide (pyC a = o)
/-- no star, no slice, no set, no comprehension -/
def plainE : Expr → Bool
  | .Starred .. => false | .Slice .. => false | .Set .. => false | .ListComp .. => false | .SetComp .. => false | .DictComp .. => false | .BoolOp .. => false | .Compare .. => false | .IfExp .. => false | .UnaryOp .. => false
  | _ => true
/-- what stands ahead of a method's dot -/
def baseB : Expr → Bool
  | .Constant .. => true
  | .Name .. => true
  | .List .. => true
  | .Subscript .. => true
  | .Call _ (_ :: _) _ _ => true
  | _ => false
def namesOf (ck : CK) (sc : Scope) : List Nat → List Expr → Bool
  | [], [] => true
  | f :: fs, .Name x _ :: es => globB sc x && decide (ck.fns.lookup x = some f) && namesOf ck sc fs es
  | _, _ => false
def tysOk (ck : CK) (sc : Scope) (ts : List Ty) (e : Expr) : Bool :=
  match ts, e with
  | [.cls j], .Name x _ => globB sc x && (ck.hot && decide (ck.exs.lookup x = some j))
  | [.valueError], .Name x _ => globB sc x && (ck.hot && decide (x = ("ValueError" : Str)))
  | [t], .Name x _ => globB sc x && decide (tyN t = some x)
  | _, _ => false
def mtN : Mt → Option Str
  | .index => some "index" | .count => some "count" | _ => none
def isName (N : List Str) (sc : Scope) (i : Nat) : Expr → Bool
  | .Name x _ => nameB N sc i x
  | _ => false
/-- a place to store -/
def stoB (sc : Scope) (x : Str) : Bool := match sc.names.lookup x with | some .local => true | some .cell => true | _ => false
def namesT (N : List Str) (sc : Scope) : List Nat → List Expr → Bool
  | [], [] => true
  | i :: is, .Name x _ :: es => decide (N[i]? = some x) && (stoB sc x && namesT N sc is es)
  | _, _ => false
def tgOk (N : List Str) (sc : Scope) (tg : List Nat) (one : Bool) (e : Expr) : Bool :=
  match one, tg, e with
  | true, [i], .Name x _ => decide (N[i]? = some x) && stoB sc x
  | false, is, .Tuple es _ _ => namesT N sc is es
  | _, _, _ => false
/-- the slots of a target with their names -/
def ownOf (N : List Str) (vs : List Nat) : List (Str × Nat) := vs.filterMap fun i => (N[i]?).map fun x => (x, i)

def itTup : Wi.It → Bool
  | .enum _ => true
  | .zip _ _ => true
  | _ => false
def keysOk : List (List Nat) → List (Option Expr) → Bool
  | [], [] => true
  | k :: ks, some (.Constant c _ _) :: es => cok (.str k) c && keysOk ks es
  | _, _ => false
mutual
def chkE (ck : CK) (N : List Str) : E → Scope → Expr → Bool
  | .stuck, _, e => plainE e
  | .const d, _, .Constant k _ _ => cok d k
  | .glob (.v d), sc, .Name x _ => globB sc x && (match ck.cst.lookup x with | some d' => dsame d' d | none => false)
  | .glob (.fn f), sc, .Name x _ => globB sc x && decide (ck.fns.lookup x = some f)
  | .slot i, sc, .Name x _ => nameB N sc i x
  | .bin op a b, sc, .BinOp l o r _ => opB op o && (chkE ck N a sc l && chkE ck N b sc r)
  | .neg a, sc, .UnaryOp .USub l _ => chkE ck N a sc l
  | .not a, sc, .UnaryOp .Not l _ => chkE ck N a sc l
  | .and a b, sc, .BoolOp .And (x :: y :: r) pos => chkE ck N a sc x && (match r with | [] => chkE ck N b sc y | _ :: _ => chkE ck N b sc (.BoolOp .And (y :: r) pos))
  | .or a b, sc, .BoolOp .Or (x :: y :: r) pos => chkE ck N a sc x && (match r with | [] => chkE ck N b sc y | _ :: _ => chkE ck N b sc (.BoolOp .Or (y :: r) pos))
  | .ite c a b, sc, .IfExp t x y _ => chkE ck N c sc t && (chkE ck N a sc x && chkE ck N b sc y)
  | .cmp op a b, sc, .Compare l [o] [r] _ => opC op o && (chkE ck N a sc l && (chkE ck N b sc r && (match op with | .isN => noneB b | .notN => noneB b | _ => true)))
  | .cmp2 op op' a b c, sc, .Compare l [o, o'] [m, r] _ => opC op o && (opC op' o' && (chkE ck N a sc l && (chkE ck N b sc m && chkE ck N c sc r)))
  | .cmpS op i b, sc, .Compare l [o] [r] _ => opC op o && (isName N sc i l && chkE ck N b sc r)
  | .inS n a i, sc, .Compare l [o] [r] _ => decide (o = (if n then .NotIn else .In)) && (chkE ck N a sc l && isName N sc i r)
  | .tup es, sc, .Tuple l _ _ => decide (l.length ≤ 1000) && chkEs ck N es sc l
  | .lst es, sc, .List l _ => decide (l.length ≤ 1000) && chkEs ck N es sc l
  | .pick ks es k, sc, .Subscript (.Dict keys vals _) j _ => keysOk ks keys && (chkEs ck N es sc vals && (chkE ck N k sc j && (decide ks.Nodup && (decide (ks.length ≤ 15) && (decide (ks ≠ []) && decide (ks.length = es.len))))))
  | .rev a, sc, .Subscript l (.Slice none none (some (.UnaryOp .USub (.Constant (.int 1) _ _) _)) _) _ => chkE ck N a sc l
  | .call f es, sc, .Call (.Name x _) (e :: l) [] _ => (!ck.hot && globB sc x) && (decide (ck.fns.lookup x = some f) && chkEs ck N es sc (e :: l))
  | .call f .nil, sc, .Call (.Name x _) [] [] _ => (!ck.hot && globB sc x) && decide (ck.fns.lookup x = some f)
  | .callSel fs k es, sc, .Call (.Subscript (.List l _) i _) (e :: r) [] _ => ((!ck.hot && decide (fs.length ≤ 1000)) && namesOf ck sc fs l) && (chkE ck N k sc i && chkEs ck N es sc (e :: r))
  | .bi f es, sc, .Call (.Name x _) (e :: l) [] _ => (!ck.hot && globB sc x) && (decide (x = biN f) && chkEs ck N es sc (e :: l))
  | .lenS i, sc, .Call (.Name x _) [e] [] _ => globB sc x && (decide (x = ("len" : Str)) && isName N sc i e)
  | .join sep a, sc, .Call (.Attribute (.Constant k _ _) x ap) [e] [] pos => decide (x = ("join" : Str)) && (cok (.str sep) k && ((ap.endLine == pos.line) && chkE ck N a sc e))
  | .meth m a es, sc, .Call (.Attribute l x ap) [e] [] pos => decide (mtN m = some x) && ((baseB l && (ap.endLine == pos.line)) && (chkE ck N a sc l && chkEs ck N es sc [e]))
  | .sub a i, sc, .Subscript l r _ => chkE ck N a sc l && chkE ck N i sc r
  | .subS k i, sc, .Subscript l r _ => isName N sc k l && chkE ck N i sc r
  | .cut a lo hi, sc, .Subscript l (.Slice x y none _) _ => chkE ck N a sc l && ((match x with | none => noneB lo | some x => !noneB lo && chkE ck N lo sc x) && (match y with | none => noneB hi | some y => !noneB hi && chkE ck N hi sc y))
  | .rangeL a, sc, .Call (.Name x _) [.Call (.Name y _) [e] [] _] [] _ => ((!ck.hot && globB sc x) && decide (x = ("list" : Str))) && ((globB sc y && decide (y = ("range" : Str))) && chkE ck N a sc e)
  | .isin a ts, sc, .Call (.Name x _) [e, t] [] _ => globB sc x && (decide (x = ("isinstance" : Str)) && (chkE ck N a sc e && tysOk ck sc ts t))
  | .comp elt tg one it cond vs, sc, .ListComp e [⟨t, i, ifs, 0⟩] bsc _ => (!ck.hot && blkC N sc bsc (ownOf N vs)) && (decide ((ownOf N vs).map (·.2) = vs) && (chkIt ck N it sc i && (tgOk N bsc tg one t && ((tg.all (vs.contains ·) && (!itTup it || !one)) && (chkO ck N cond (relS bsc sc) ifs && chkE ck N elt (relS bsc sc) e)))))
  | _, _, _ => false
def chkO (ck : CK) (N : List Str) : Option' → Scope → List Expr → Bool
  | .none, _, [] => true
  | .some e, sc, [x] => chkE ck N e sc x
  | _, _, _ => false
def chkEs (ck : CK) (N : List Str) : Es → Scope → List Expr → Bool
  | .nil, _, [] => true
  | .cons e es, sc, x :: l => chkE ck N e sc x && chkEs ck N es sc l
  | _, _, _ => false
def chkIt (ck : CK) (N : List Str) : It → Scope → Expr → Bool
  | .val e, sc, x => chkE ck N e sc x
  | .range1 a, sc, .Call (.Name x _) [u] [] _ => globB sc x && (decide (x = ("range" : Str)) && chkE ck N a sc u)
  | .range2 a b, sc, .Call (.Name x _) [u, v] [] _ => globB sc x && (decide (x = ("range" : Str)) && (chkE ck N a sc u && chkE ck N b sc v))
  | .range3 a b c, sc, .Call (.Name x _) [u, v, w] [] _ => globB sc x && (decide (x = ("range" : Str)) && (chkE ck N a sc u && (chkE ck N b sc v && chkE ck N c sc w)))
  | .enum a, sc, .Call (.Name x _) [u] [] _ => globB sc x && (decide (x = ("enumerate" : Str)) && chkE ck N a sc u)
  | .zip a b, sc, .Call (.Name x _) [u, v] [] _ => globB sc x && (decide (x = ("zip" : Str)) && (chkE ck N a sc u && chkE ck N b sc v))
  | _, _, _ => false
end
end Wi

namespace Wi
open PySem PySem.Spec PyProof.Rows L2
/-- shapes that no expression of ours has -/
def odd : Expr → Bool
  | .Starred .. => true | .Slice .. => true | .Set .. => true | .SetComp .. => true | .DictComp .. => true | _ => false
theorem chk_odd {ck : CK} {N : List Str} {sc : Scope} (i : E) (e : Expr) (h : odd e = true) : chkE ck N i sc e = false := by
  cases e <;> first
    | (cases h; done)
    | (cases i <;> first
        | rfl
        | (rename_i r; cases r <;> rfl)
        | (rename_i m _ _; cases m <;> rfl)
        | (rename_i f es; cases es <;> rfl))
theorem chk_star {ck : CK} {N : List Str} {sc : Scope} {i : E} {e : Expr} (h : chkE ck N i sc e = true) : odd e = false := by
  cases q : odd e with
  | false => rfl
  | true => rw [chk_odd i e q] at h; cases h
theorem star_cons {e : Expr} {es : List Expr} {env : Env} (h : odd e = false) : starEach (e :: es) env = (false, eval e env) :: starEach es env := by
  cases e <;> first | rfl | cases h
theorem plain_ix {e : Expr} (h : odd e = false) : PlainIx e := fun o i => by
  cases e <;> first | rfl | cases h
theorem chkEs_odd {ck : CK} {N : List Str} {sc : Scope} : ∀ {es : Es} {l : List Expr}, chkEs ck N es sc l = true → ∀ e ∈ l, odd e = false
  | .nil, [], _ => fun _ h => nomatch h
  | .nil, _ :: _, h => by cases h
  | .cons e es, [], h => by cases h
  | .cons e es, x :: l, h => fun y hy => by
    have h2 : (chkE ck N e sc x && chkEs ck N es sc l) = true := h
    rw [Bool.and_eq_true] at h2
    rcases List.mem_cons.mp hy with rfl | hy
    · exact chk_star h2.1
    · exact chkEs_odd h2.2 y hy
theorem star_all {env : Env} : ∀ {l : List Expr}, (∀ e ∈ l, odd e = false) → starEach l env = l.map fun e => (false, eval e env)
  | [], _ => rfl
  | x :: l, h => by
    rw [star_cons (h x List.mem_cons_self), star_all fun e he => h e (List.mem_cons_of_mem _ he)]
    rfl
theorem backTo_plain {pos : Pos} {env : Env} {l : List Expr} (h : ∀ e ∈ l, odd e = false) : (backTo pos (starEach l env)).any (·.1) = false := by
  rw [star_all h]
  unfold backTo
  rw [List.map_map, List.any_map]
  exact List.any_eq_false.mpr fun x hx => by simp

/-! ### a def's promise by its meaning -/
/-- what a call leaves -/
structure Post (c : Cn) (g : G) (H : Hp) (g' : G) (H' : Hp) (sh' : Sh) : Prop where
  le : G.le g g'
  sh : ShOk c g' H' sh'
  keep : ∀ a o, H a = some o → a ∉ g.as → H' a = some o
  fnew : ∀ a o, g'.F a = some o → g.F a = none → H a = none
  anew : ∀ a ∈ g'.as, a ∈ g.as ∨ H a = none
def spOf (c : Cn) (Γ : Gam) (f : Nat) (n : Nat) : Sp := fun vs H Q E => ∃ (g : G) (xs : List Rv) (sh : Sh), vs.length = n ∧ ShOk c g H sh ∧ RepA c ⟨H, g⟩ g H xs vs ∧
  match Γ f xs sh with
  | .ok r sh' => ∀ g' H' v, Post c g H g' H' sh' → RepO c ⟨H, g⟩ g' H' r v → Q v H'
  | .exc k sh' => ∀ g' H', Post c g H g' H' sh' → E (.ref (c.ca k)) none H'
  | .err => False
section
variable {c : Cn} {b : Bs} {g g' : G} {sV : L2.St} {H H' : Hp} {s : Wi.St} {sh' : Sh}
theorem Abs.h0 (A : Abs c b g sV H s) {a : Addr} (h : H a = none) : b.H0 a = none := by
  cases e : b.H0 a with
  | none => rfl
  | some u =>
    by_cases hm : a ∈ g.as
    · obtain ⟨u, q⟩ := A.sh.tracked hm
      rw [h] at q; cases q
    · rw [A.keep _ _ e hm] at h; cases h
theorem RepO.base {b b' : Bs} {r : Rv} {v : V} (h : RepO c b g H r v) (hn : isOwn r = false) : RepO c b' g H r v := by
  cases r <;> first | exact h | cases hn
/-- behind a call -/
theorem Abs.call (A : Abs c b g sV H s) (P : Post c g H g' H' sh') : Abs c b g' sV H' ⟨s.sl, sh'⟩ := by
  refine ⟨P.sh, A.len, fun i r h => ?_, A.sep, A.le.trans P.le, fun a o e n => ?_, fun a o e n => ?_, fun a ha => ?_⟩
  · obtain ⟨v, e, q⟩ := A.val i r h
    refine ⟨v, e, ?_⟩
    by_cases ho : isOwn r = true
    · cases r with
      | fl ds =>
        obtain ⟨p, vs, e2, q1, q2, q3, q4, q5⟩ := q
        refine ⟨p, vs, e2, P.keep _ _ q1 q5, RepL.mono P.le.f _ _ q2, ?_, q4, fun hm => ?_⟩
        · cases e3 : g'.F p with
          | none => rfl
          | some u => rw [P.fnew _ _ e3 q3] at q1; cases q1
        · rcases P.anew p hm with z | z
          · exact q5 z
          · rw [z] at q1; cases q1
      | fd _ _ => exact q
      | _ => cases ho
    · exact RepO.mono (by simpa using ho) P.le q
  · have n2 : a ∉ g.as := fun hm => by
      obtain ⟨t, ht⟩ := P.le.a
      exact n (by rw [ht]; exact List.mem_append_left _ hm)
    exact P.keep _ _ (A.keep a o e n2) n2
  · cases q : g.F a with
    | none => exact A.h0 (P.fnew a o e q)
    | some u =>
      exact A.fnew a u q n
  · rcases P.anew a ha with z | z
    · exact A.anew a z
    · exact .inr (A.h0 z)
theorem Abs.callR (A : Abs c b g sV H s) (P : Post c g H g' H' sh') {r : Rv} {v : V} (h : RepO c ⟨H, g⟩ g' H' r v) : RepR c b g' sV H' ⟨s.sl, sh'⟩ r v := by
  by_cases ho : isOwn r = true
  · cases r with
    | fl ds =>
      obtain ⟨p, vs, rfl, q1, q2, q3, q4, q5⟩ := h
      have q4 : H p = none := q4
      refine ⟨⟨p, vs, rfl, q1, q2, q3, A.h0 q4, q5⟩, fun _ i hi e => ?_⟩
      obtain ⟨r, e1, ho⟩ := ownAt_isOwn.mp hi
      obtain ⟨v, e2, q⟩ := A.val i r e1
      rw [e] at e2; cases e2
      obtain ⟨x, o, e3, q6, _⟩ := q.own_tracked ho
      cases e3
      rw [q4] at q6; cases q6
    | fd _ _ => exact False.elim h
    | _ => cases ho
  · exact ⟨RepO.base h (by simpa using ho), fun z => absurd z ho⟩
end

/-! ### where code stands -/
def bltNames : List Str := ["len", "int", "str", "sum", "all", "any", "tuple", "list", "min", "max", "sorted", "set", "abs", "range", "enumerate", "zip", "isinstance", "bool", "ValueError"]
structure SC (c : Cn) (ck : CK) (Γ : Gam) (lv : Nat) (W : WX) (X : Cx) : Prop where
  K : X.K = c.K
  nd : X.N.Nodup
  calm : ck.hot = false → X.calm = true
  room : ck.hot = false → Room lv X.A
  un : X.A.units + 64 < cLine
  tk : L2N.Takes X W
  blt : ∀ x ∈ bltNames, X.mg x = none
  exs : ∀ x k, ck.exs.lookup x = some k → X.mg x = some (.ref (c.ca k)) ∧ PySem.W.excIn X.K (c.ca k) He.veBase "ValueError.__new__" = true ∧ PySem.W.keepIn X.K (.ref (c.ca k)) = true ∧
    PySem.W.subIn X.K (.ref (c.ca k)) (.type "BaseException") = some true ∧ PySem.W.typeIn X.K (.ref (c.ca k)) = some (.type "type")
  hotx : ck.hot = true → (∃ oe, (c.xa, oe) ∈ X.pn ∧ L2N.Zn (.ref (c.ca c.xk)) none oe ∧ ∃ vs, oe.data = .fields vs) ∧ ExcC X.K (c.ca c.xk) ∧ PySem.W.kitOne X.K (.ref (c.ca c.xk)) (.type "ValueError") = some true ∧
    ∀ x j, ck.exs.lookup x = some j → j ≠ 0 → PySem.W.kitOne X.K (.ref (c.ca c.xk)) (.ref (c.ca j)) = some (c.xk == j)
  cst : ∀ x d, ck.cst.lookup x = some d → ∃ u v, X.mg x = some u ∧ RelV v u ∧ Rep c.K (fun _ => none) d v
  fns : ∀ x f, ck.fns.lookup x = some f → X.mg x = some (.ref (c.fa f)) ∧ PySem.W.keepIn X.K (.ref (c.fa f)) = true ∧
    ∃ fd ps n, FnOk X.prog X.w X.K X.mg X.base (L2N.CX X.prog X.w) lv (c.fa f) fd ps (spOf c Γ f n) ∧ Binds X.K fd ps [] ∧ ∀ xs sh, xs.length ≠ n → Γ f xs sh = .err
theorem dunder_of {x : Str} (h : dunder x = true) : (x == ("__debug__" : Str)) = false ∧ (x == ("__classdict__" : Str)) = false ∧ x ≠ ("__name__" : Str) := by
  unfold dunder at h
  simp only [Bool.and_eq_true, Bool.not_eq_true', decide_eq_false_iff_not] at h
  exact ⟨h.1.1, h.1.2, h.2⟩
section
variable {X : Cx} {x : Str}
theorem gl_of (h : globB X.env.scope x = true) : Gl X x ∧ (x == ("__debug__" : Str)) = false ∧ x ≠ ("__name__" : Str) := by
  unfold globB at h
  rw [Bool.and_eq_true] at h
  obtain ⟨h1, h2⟩ := h
  obtain ⟨d1, d2, d3⟩ := dunder_of h2
  refine ⟨?_, d1, d3⟩
  show X.env.scope.names.lookup x = _
  split at h1
  · assumption
  · cases h1
theorem vis_of {N : List Str} {i : Nat} (h : nameB N X.env.scope i x = true) : N[i]? = some x ∧ Vis X.env.scope x ∧ (x == ("__debug__" : Str)) = false ∧ (x == ("__classdict__" : Str)) = false := by
  unfold nameB at h
  simp only [Bool.and_eq_true, decide_eq_true_eq] at h
  obtain ⟨h1, h2, h3⟩ := h
  obtain ⟨d1, d2, d3⟩ := dunder_of h3
  refine ⟨h1, ?_, d1, d2⟩
  unfold visB at h2
  split at h2
  · exact .inl (by assumption)
  · exact .inr (.inl (by assumption))
  · exact .inr (.inr (by assumption))
  · cases h2
end
section
variable {c : Cn} {ck : CK} {b : Bs} {Γ : Gam} {lv : Nat} {W : WX} {X : Cx}
/-- a name of the frame -/
theorem pe_slot {i : Nat} {x : Str} {pos : Pos} (h : nameB X.N X.env.scope i x = true) : PE X (.Name x pos) (TEr c b W Γ (.slot i)) := by
  obtain ⟨h1, h2, h3, h4⟩ := vis_of h
  refine cvE (pe_var h1 h2 h3 h4) fun σ H Q q => ?_
  obtain ⟨g, s, A, q⟩ := q
  have q : RP c b W σ g (rd i s) _ := q
  unfold rd at q
  split at q
  · rename_i r e
    obtain ⟨v, ev, hv⟩ := A.val i r e
    refine ⟨v, ev, ?_⟩
    split at q
    · rename_i ds
      -- frozen
      obtain ⟨p, vs, rfl, q1, q2, q3, q4, q5⟩ := id hv
      have hi : i < s.sl.length := (List.getElem?_eq_some_iff.mp e).1
      have hle : G.le g ⟨upd g.F p (.lst vs), g.as⟩ := ⟨fun a u e => by show upd g.F p (.lst vs) a = some u; rw [upd_ne (ne_of_none e q3)]; exact e, [], by simp⟩
      refine q ⟨upd g.F p (.lst vs), g.as⟩ H hle ?_ _ ⟨⟨p, vs, rfl, upd_same, RepL.mono hle.f _ _ q2⟩, fun z => nomatch z⟩
      have oi : ownAt s.sl i = true := ownAt_isOwn.mpr ⟨_, e, rfl⟩
      refine ⟨⟨fun a u e => ?_, A.sh.len, A.sh.nd, fun a ha => ?_, fun j ob a h1 h2 => ?_⟩, by simpa using A.len, fun j r h => ?_, fun j k hjk hj hk => ?_, A.le.trans hle, A.keep, fun a u e n => ?_, A.anew⟩
      · have e : upd g.F p (.lst vs) a = some u := e
        by_cases h : a = p
        · subst h; rw [upd_same] at e; cases e; exact q1
        · rw [upd_ne h] at e; exact A.sh.fh _ _ e
      · show upd g.F p (.lst vs) a = none
        have : a ≠ p := fun e => q5 (e ▸ ha)
        rw [upd_ne this]; exact A.sh.fr a ha
      · cases ob with
        | lst ds =>
          obtain ⟨vs, q1, q2⟩ := A.sh.ob j _ a h1 h2
          exact ⟨vs, q1, RepL.mono hle.f _ _ q2⟩
      · have h : (s.sl.set i (some (.v (.lst ds))))[j]? = some (some r) := h
        by_cases hji : j = i
        · subst hji
          rw [List.getElem?_set_self hi] at h
          cases h
          exact ⟨_, ev, p, vs, rfl, upd_same, RepL.mono hle.f _ _ q2⟩
        · rw [List.getElem?_set_ne (Ne.symm hji)] at h
          obtain ⟨v, e2, q⟩ := A.val j r h
          refine ⟨v, e2, ?_⟩
          by_cases ho2 : isOwn r = true
          · have hne : v ≠ .ref p := fun z => A.sep j i hji (ownAt_isOwn.mpr ⟨r, h, ho2⟩) oi (by rw [e2, ev, z])
            cases r with
            | fl ds =>
              obtain ⟨x, vs', e3, z1, z2, z3, z4, z5⟩ := q
              refine ⟨x, vs', e3, z1, RepL.mono hle.f _ _ z2, ?_, z4, z5⟩
              show upd g.F p (.lst vs) x = none
              rw [upd_ne (fun z => hne (by rw [e3, z]))]; exact z3
            | fd _ _ => exact q
            | _ => cases ho2
          · exact RepO.mono (by simpa using ho2) hle q
      · have un : ∀ m, ownAt (s.sl.set i (some (.v (.lst ds)))) m = true → ownAt s.sl m = true := fun m hm => by
          obtain ⟨r, e, ho⟩ := ownAt_isOwn.mp hm
          by_cases hmi : m = i
          · subst hmi; exact oi
          · rw [List.getElem?_set_ne (Ne.symm hmi)] at e
            exact ownAt_isOwn.mpr ⟨r, e, ho⟩
        exact A.sep j k hjk (un j hj) (un k hk)
      · have e : upd g.F p (.lst vs) a = some u := e
        by_cases h : a = p
        · subst h; exact q4
        · rw [upd_ne h] at e; exact A.fnew a u e n
    · exact False.elim hv
    · exact q g H (G.le.refl g) A v ⟨hv, fun z => by rename_i h1 h2; cases r <;> first | exact (h1 _ rfl).elim | exact (h2 _ _ rfl).elim | exact nomatch z⟩
  · exact False.elim q
end
end Wi

/-! Soundness 6: expressions. -/
namespace Wi
open PySem PySem.Spec PyProof.Rows L2
theorem bad {P : Prop} (h : false = true) : P := absurd h Bool.false_ne_true

theorem fzr_own {m : Res Rv} {x : Rv} {s : Wi.St} (h : fzr m = .ok x s) : isOwn x = false := by
  cases m with
  | ok a t =>
    have e : Res.ok (frz a) t = Res.ok x s := h
    injection e with e1 _
    rw [← e1]; exact isOwn_frz a
  | exc k t => exact nomatch (show Res.exc k t = Res.ok x s from h)
  | err => exact nomatch (show Res.err = Res.ok x s from h)
section
variable {c : Cn} {ck : CK} {b : Bs} {Γ : Gam} {lv : Nat} {W : WX} {X : Cx}
/-- a test's reading -/
def TTr (c : Cn) (b : Bs) (W : WX) (Γ : Gam) (i : E) : TT := fun sV H Q =>
  ∃ g s, Abs c b g sV H s ∧ RP c b W sV g (ev Γ i s) (fun r s' g' H' => ∃ k, r = Rv.v (.bl k) ∧ Q k H')
theorem pt_of {i : E} {e : Expr} (h : PE X e (TEr c b W Γ i)) (he : ∀ whole, isTrue e X.env whole = (do let v ← whole; standAt e.pos; holding [v] (truthy v))) : PT X e (TTr c b W Γ i) := by
  refine cvT (pt_val h he) fun σ H Q q => ?_
  obtain ⟨g, s, A, q⟩ := q
  refine ⟨g, s, A, q.imp fun r s1 g1 H1 _ l A1 ⟨k, e, q⟩ v hv => ⟨k, ?_, q⟩⟩
  subst e
  exact hv.1
theorem two_rd {α : Type} {a d : E} {k : Rv → Rv → Wi.St → Res α} {σ : L2.St} {H : Hp} {g : G} {s : Wi.St} {φ : α → Wi.St → G → Hp → Prop} (A : Abs c b g σ H s)
    (q : RP c b W σ g ((fzr (ev Γ a s)).bind fun x s => (fzr (ev Γ d s)).bind fun y s => k x y s) φ) :
    TEf c b W Γ a σ H fun v H1 => TEf c b W Γ d σ H1 fun u H2 => ∃ g s x y, Abs c b g σ H2 s ∧ RepO c b g H2 x v ∧ RepO c b g H2 y u ∧ isOwn x = false ∧ isOwn y = false ∧ RP c b W σ g (k x y s) φ :=
  ⟨g, s, A, (RP.bind q).imp fun x s1 g1 H1 e l A1 q v hv => ⟨g1, s1, A1, (RP.bind q).imp fun y s2 g2 H2 e2 l2 A2 q2 u hu => ⟨g2, s2, x, y, A2, RepO.mono (fzr_own e) l2 hv, hu, fzr_own e, fzr_own e2, q2⟩⟩⟩
theorem three_rd {α : Type} {a d e : E} {k : Rv → Rv → Rv → Wi.St → Res α} {σ : L2.St} {H : Hp} {g : G} {s : Wi.St} {φ : α → Wi.St → G → Hp → Prop} (A : Abs c b g σ H s)
    (q : RP c b W σ g ((fzr (ev Γ a s)).bind fun x s => (fzr (ev Γ d s)).bind fun y s => (fzr (ev Γ e s)).bind fun z s => k x y z s) φ) :
    TEf c b W Γ a σ H fun v H1 => TEf c b W Γ d σ H1 fun u H2 => TEf c b W Γ e σ H2 fun w H3 => ∃ g s x y z, Abs c b g σ H3 s ∧ RepO c b g H3 x v ∧ RepO c b g H3 y u ∧ RepO c b g H3 z w ∧ RP c b W σ g (k x y z s) φ :=
  ⟨g, s, A, (RP.bind q).imp fun x s1 g1 H1 e l A1 q v hv => ⟨g1, s1, A1, (RP.bind q).imp fun y s2 g2 H2 e2 l2 A2 q2 u hu => ⟨g2, s2, A2, (RP.bind q2).imp fun z s3 g3 H3 e3 l3 A3 q3 w hw => ⟨g3, s3, x, y, z, A3, RepO.mono (fzr_own e) (l2.trans l3) hv, RepO.mono (fzr_own e2) l3 hu, hw, q3⟩⟩⟩⟩
theorem one_rd {α : Type} {a : E} {k : Rv → Wi.St → Res α} {σ : L2.St} {H : Hp} {g : G} {s : Wi.St} {φ : α → Wi.St → G → Hp → Prop} (A : Abs c b g σ H s)
    (q : RP c b W σ g ((fzr (ev Γ a s)).bind fun x s => k x s) φ) :
    TEf c b W Γ a σ H fun v H1 => ∃ g s x, Abs c b g σ H1 s ∧ RepO c b g H1 x v ∧ isOwn x = false ∧ RP c b W σ g (k x s) φ :=
  ⟨g, s, A, (RP.bind q).imp fun x s1 g1 H1 e l A1 q v hv => ⟨g1, s1, x, A1, hv, fzr_own e, q⟩⟩
theorem raw_rd {α : Type} {a : E} {k : Rv → Wi.St → Res α} {σ : L2.St} {H : Hp} {g : G} {s : Wi.St} {φ : α → Wi.St → G → Hp → Prop} (A : Abs c b g σ H s)
    (q : RP c b W σ g ((ev Γ a s).bind fun x s => k x s) φ) :
    TEr c b W Γ a σ H fun v H1 => ∃ g s x, Abs c b g σ H1 s ∧ RepR c b g σ H1 s x v ∧ RP c b W σ g (k x s) φ :=
  ⟨g, s, A, (RP.bind q).imp fun x s1 g1 H1 e l A1 q v hv => ⟨g1, s1, x, A1, hv, q⟩⟩
theorem pe_stuck {e : Expr} : PE X e (TEr c b W Γ .stuck) := ⟨fun _ _ _ _ _ _ h => by
  obtain ⟨_, _, _, q⟩ := h
  exact False.elim q⟩
/-- a value told -/
theorem v_rd {d : D} {v : V} {σ : L2.St} {H : Hp} {Q : VK} (h : ∃ g s, Abs c b g σ H s ∧ RP c b W σ g (.ok (.v d) s) (fun r s' g' H' => ∀ v, RepR c b g' σ H' s' r v → Q v H')) (hr : ∀ g : G, Rep c.K g.F d v) : Q v H := by
  obtain ⟨g, s, A, q⟩ := h
  exact q g H (G.le.refl g) A v ⟨hr g, fun z => nomatch z⟩
theorem pe_const {d : D} {k : Const} {n : Nat} {pos : Pos} (h : cok d k = true) : PE X (.Constant k n pos) (TEr c b W Γ (.const d)) := by
  cases d with
  | non =>
    cases k with
    | none => exact cvE pe_non fun σ H Q q => v_rd q (fun _ => rfl)
    | _ => exact bad h
  | bl x =>
    cases k with
    | bool y =>
      have : x = y := beq_iff_eq.mp h
      subst this
      exact cvE pe_bl fun σ H Q q => v_rd q (fun _ => rfl)
    | _ => exact bad h
  | int x =>
    cases k with
    | int y =>
      have : x = y := beq_iff_eq.mp h
      subst this
      exact cvE pe_int fun σ H Q q => v_rd q (fun _ => rfl)
    | _ => exact bad h
  | str x =>
    cases k with
    | str y =>
      obtain ⟨h1, h2⟩ := and_of h
      obtain ⟨h2, h3⟩ := and_of h2
      have e : y = strV x := by
        have := of_decide_eq_true h1
        rw [← this]; rfl
      subst e
      refine cvE pe_str fun σ H Q q => v_rd q (fun _ => ⟨rfl, ?_, fun c hc => of_decide_eq_true (List.all_eq_true.mp h3 c hc)⟩)
      have := of_decide_eq_true h2
      unfold LIM; omega
    | _ => exact bad h
  | tup _ => exact bad h
  | lst _ => exact bad h
theorem pe_globv (S : SC c ck Γ lv W X) {d : D} {x : Str} {pos : Pos} (h : globB X.env.scope x = true) (h2 : (match ck.cst.lookup x with | some d' => dsame d' d | none => false) = true) : PE X (.Name x pos) (TEr c b W Γ (.glob (.v d))) := by
  obtain ⟨hg, hd, _⟩ := gl_of h
  cases e : ck.cst.lookup x with
  | none => rw [e] at h2; exact bad h2
  | some d' =>
    rw [e] at h2
    have := dsame_eq _ _ h2
    subst this
    obtain ⟨u, v, e1, e2, e3⟩ := S.cst x d' e
    exact cvE (pe_glob hg e1 e2 hd) fun σ H Q q => v_rd q (fun g => Rep.mono (by intro a o z; cases z) _ _ e3)
theorem pe_globf (S : SC c ck Γ lv W X) {f : Nat} {x : Str} {pos : Pos} (h : globB X.env.scope x = true) (h2 : ck.fns.lookup x = some f) : PE X (.Name x pos) (TEr c b W Γ (.glob (.fn f))) := by
  obtain ⟨hg, hd, _⟩ := gl_of h
  refine cvE (pe_glob (v := .ref (c.fa f)) hg (S.fns x f h2).1 rfl hd) fun σ H Q q => ?_
  obtain ⟨g, s, A, q⟩ := q
  exact q g H (G.le.refl g) A _ ⟨rfl, fun z => nomatch z⟩
theorem pe_bin (S : SC c ck Γ lv W X) {op : BOp} {o : Operator} {l r : Expr} {a d : E} {pos : Pos} (ho : opB op o = true) (ha : PE X l (TEr c b W Γ a)) (hd : PE X r (TEr c b W Γ d)) : PE X (.BinOp l o r pos) (TEr c b W Γ (.bin op a d)) := by
  have e : pyB op = o := of_decide_eq_true ho
  subst e
  refine cvE (pe_op (opB_ok (b := b) S.K op) (pe_f ha) (pe_f hd)) fun σ H Q q => ?_
  obtain ⟨g, s, A, q⟩ := q
  have q2 := two_rd A q
  obtain ⟨g1, s1, A1, q2⟩ := q2
  refine ⟨g1, s1, A1, q2.imp fun x s2 g2 H2 e l A2 q3 v hv => ?_⟩
  obtain ⟨g3, s3, A3, q3⟩ := q3 v hv
  refine ⟨g3, s3, A3, q3.imp fun y s4 g4 H4 e l A4 q4 u hu => ?_⟩
  obtain ⟨g5, s5, x5, y5, A5, hx, hy, _, _, q5⟩ := q4 u hu
  obtain ⟨z, ez, q6⟩ := RP.ofOpt q5
  exact ⟨σ, g5, s5, x5, y5, z, A5, hx, hy, ez, fun g' H' le A' w hw => q6 g' H' le A' w hw⟩
/-- a stronger end -/
theorem TEf.imp {a : E} {σ : L2.St} {H : Hp} {Q Q' : VK} (h : TEf c b W Γ a σ H Q) (f : ∀ v H', Q v H' → Q' v H') : TEf c b W Γ a σ H Q' := by
  obtain ⟨g, s, A, q⟩ := h
  exact ⟨g, s, A, q.imp fun _ _ _ _ _ _ _ q v hv => f _ _ (q v hv)⟩
theorem TEr.imp {a : E} {σ : L2.St} {H : Hp} {Q Q' : VK} (h : TEr c b W Γ a σ H Q) (f : ∀ v H', Q v H' → Q' v H') : TEr c b W Γ a σ H Q' := by
  obtain ⟨g, s, A, q⟩ := h
  exact ⟨g, s, A, q.imp fun _ _ _ _ _ _ _ q v hv => f _ _ (q v hv)⟩
theorem TTr.imp {a : E} {σ : L2.St} {H : Hp} {Q Q' : Bool → Hp → Prop} (h : TTr c b W Γ a σ H Q) (f : ∀ v H', Q v H' → Q' v H') : TTr c b W Γ a σ H Q' := by
  obtain ⟨g, s, A, q⟩ := h
  exact ⟨g, s, A, q.imp fun _ _ _ _ _ _ _ ⟨k, e, q⟩ => ⟨k, e, f _ _ q⟩⟩
theorem pe_neg {l : Expr} {a : E} {pos : Pos} (ha : PE X l (TEr c b W Γ a)) : PE X (.UnaryOp .USub l pos) (TEr c b W Γ (.neg a)) := by
  refine cvE (pe_un un_neg (pe_f ha)) fun σ H Q q => ?_
  obtain ⟨g, s, A, q⟩ := q
  refine TEf.imp (one_rd A q) fun v H1 ⟨g, s, x, A1, hx, _, q⟩ => ?_
  split at q
  · cases hx
    exact ⟨_, rfl, q g H1 (G.le.refl g) A1 _ ⟨rfl, fun z => nomatch z⟩⟩
  · exact False.elim q
theorem pe_no {l : Expr} {a : E} {pos : Pos} (ha : PE X l (TEr c b W Γ a)) : PE X (.UnaryOp .Not l pos) (TEr c b W Γ (.not a)) := by
  refine cvE (pe_not ha) fun σ H Q q => ?_
  obtain ⟨g, s, A, q⟩ := q
  refine TEr.imp (raw_rd A q) fun v H1 ⟨g, s, x, A1, hx, q⟩ => ?_
  split at q
  · have hx := hx.1
    cases hx
    exact ⟨_, rfl, q g H1 (G.le.refl g) A1 _ ⟨rfl, fun z => nomatch z⟩⟩
  · exact False.elim q
theorem pt_no {l : Expr} {a : E} {pos : Pos} (ha : PT X l (TTr c b W Γ a)) : PT X (.UnaryOp .Not l pos) (TTr c b W Γ (.not a)) := by
  refine cvT (pt_not ha) fun σ H Q q => ?_
  obtain ⟨g, s, A, q⟩ := q
  refine ⟨g, s, A, (RP.bind q).imp fun x s1 g1 H1 e l A1 q => ?_⟩
  split at q
  · obtain ⟨k, e, q⟩ := q g1 H1 (G.le.refl g1) A1
    cases e
    exact ⟨_, rfl, q⟩
  · exact False.elim q
/-- and, or: the first, then the rest -/
theorem pe_andI {x y : Expr} {r : List Expr} {a d : E} {pos : Pos} (ha : PE X x (TEr c b W Γ a)) (hd : PE X (.BoolOp .And (y :: r) pos) (TEr c b W Γ d)) : PE X (.BoolOp .And (x :: y :: r) pos) (TEr c b W Γ (.and a d)) := by
  refine cvE (pe_and ha hd) fun σ H Q q => ?_
  obtain ⟨g, s, A, q⟩ := q
  refine TEr.imp (raw_rd A q) fun v H1 ⟨g, s, x, A1, hx, q⟩ => ?_
  split at q
  · cases hx.1
    exact ⟨_, rfl, iteT ⟨g, s, A1, q⟩⟩
  · cases hx.1
    exact ⟨_, rfl, iteF (q g H1 (G.le.refl g) A1 _ ⟨rfl, fun z => nomatch z⟩)⟩
  · exact False.elim q
theorem pe_orI {x y : Expr} {r : List Expr} {a d : E} {pos : Pos} (ha : PE X x (TEr c b W Γ a)) (hd : PE X (.BoolOp .Or (y :: r) pos) (TEr c b W Γ d)) : PE X (.BoolOp .Or (x :: y :: r) pos) (TEr c b W Γ (.or a d)) := by
  refine cvE (pe_or ha hd) fun σ H Q q => ?_
  obtain ⟨g, s, A, q⟩ := q
  refine TEr.imp (raw_rd A q) fun v H1 ⟨g, s, x, A1, hx, q⟩ => ?_
  split at q
  · cases hx.1
    exact ⟨_, rfl, by rw [if_neg (by decide)]; exact ⟨g, s, A1, q⟩⟩
  · cases hx.1
    exact ⟨_, rfl, iteT (q g H1 (G.le.refl g) A1 _ ⟨rfl, fun z => nomatch z⟩)⟩
  · exact False.elim q
theorem pw_andI {x y : Expr} {r : List Expr} {a d : E} {pos : Pos} (ha : PT X x (TTr c b W Γ a)) (hd : PW X (.BoolOp .And (y :: r) pos) (TTr c b W Γ d)) : PW X (.BoolOp .And (x :: y :: r) pos) (TTr c b W Γ (.and a d)) := by
  have h := pw_and ha hd
  refine ⟨fun wh pins s σ H Q I q => h.run wh pins s σ H Q I ?_⟩
  obtain ⟨g, s, A, q⟩ := q
  refine ⟨g, s, A, (RP.bind q).imp fun x s1 g1 H1 e l A1 q => ?_⟩
  split at q
  · exact ⟨_, rfl, iteT ⟨g1, s1, A1, q⟩⟩
  · obtain ⟨k, e, q⟩ := q g1 H1 (G.le.refl g1) A1
    cases e
    exact ⟨_, rfl, iteF q⟩
  · exact False.elim q
theorem pw_orI {x y : Expr} {r : List Expr} {a d : E} {pos : Pos} (ha : PT X x (TTr c b W Γ a)) (hd : PW X (.BoolOp .Or (y :: r) pos) (TTr c b W Γ d)) : PW X (.BoolOp .Or (x :: y :: r) pos) (TTr c b W Γ (.or a d)) := by
  have h := pw_or ha hd
  refine ⟨fun wh pins s σ H Q I q => h.run wh pins s σ H Q I ?_⟩
  obtain ⟨g, s, A, q⟩ := q
  refine ⟨g, s, A, (RP.bind q).imp fun x s1 g1 H1 e l A1 q => ?_⟩
  split at q
  · exact ⟨_, rfl, iteF ⟨g1, s1, A1, q⟩⟩
  · obtain ⟨k, e, q⟩ := q g1 H1 (G.le.refl g1) A1
    cases e
    exact ⟨_, rfl, iteT q⟩
  · exact False.elim q
theorem pe_iteI {t x y : Expr} {q a d : E} {pos : Pos} (hq : PT X t (TTr c b W Γ q)) (ha : PE X x (TEr c b W Γ a)) (hd : PE X y (TEr c b W Γ d)) : PE X (.IfExp t x y pos) (TEr c b W Γ (.ite q a d)) := by
  refine cvE (pe_ifExp hq ha hd) fun σ H Q q => ?_
  obtain ⟨g, s, A, q⟩ := q
  refine ⟨g, s, A, (RP.bind q).imp fun x s1 g1 H1 e l A1 q => ?_⟩
  split at q
  · exact ⟨_, rfl, iteT ⟨g1, s1, A1, q⟩⟩
  · exact ⟨_, rfl, iteF ⟨g1, s1, A1, q⟩⟩
  · exact False.elim q

/-! ### comparisons -/
theorem RP.bool {o : Option Bool} {s : Wi.St} {g : G} {σ : L2.St} {φ : Rv → Wi.St → G → Hp → Prop} (q : RP c b W σ g ((Wi.ofOpt o s).bind fun k s => Res.ok (Rv.v (.bl k)) s) φ) : ∃ k, o = some k ∧ RP c b W σ g (Res.ok (Rv.v (.bl k)) s) φ := by
  cases o with
  | none => exact False.elim q
  | some k => exact ⟨k, rfl, q⟩
theorem bool_out {k : Bool} {s : Wi.St} {g : G} {σ : L2.St} {H : Hp} {Q : VK} (A : Abs c b g σ H s) (q : RP c b W σ g (Res.ok (Rv.v (.bl k)) s) (fun r s' g' H' => ∀ v, RepR c b g' σ H' s' r v → Q v H')) : Q (.bl k) H :=
  q g H (G.le.refl g) A _ ⟨rfl, fun z => nomatch z⟩
theorem test_out {k : Bool} {s : Wi.St} {g : G} {σ : L2.St} {H : Hp} {Q : Bool → Hp → Prop} (A : Abs c b g σ H s) (q : RP c b W σ g (Res.ok (Rv.v (.bl k)) s) (fun r s' g' H' => ∃ k, r = Rv.v (.bl k) ∧ Q k H')) : Q k H := by
  obtain ⟨k', e, q⟩ := q g H (G.le.refl g) A
  cases e; exact q
theorem nomarkB (r : Expr) (o : CmpOp) (h : odd r = false) : behindInMarks o r = false := by
  cases r <;> first | rfl | cases h
theorem hu_of' (S : SC c ck Γ lv W X) : X.A.units + 64 < cLine := S.un
/-- as a value: t the same, as a test -/
theorem pe_cmpI (S : SC c ck Γ lv W X) {op : COp} {o : CmpOp} {l r : Expr} {a d : E} {pos : Pos} (ho : opC op o = true) (hr : odd r = false) (ha : PE X l (TEr c b W Γ a)) (hd : PE X r (TEr c b W Γ d)) : PE X (.Compare l [o] [r] pos) (TEr c b W Γ (.cmp op a d)) := by
  have e : pyC op = o := of_decide_eq_true ho
  subst e
  refine cvE (pe_cmpR (opC_ok S.K (hu_of' S) op) (pe_f ha) (pe_f hd) (nomarkB _ _ hr)) fun σ H Q q => ?_
  obtain ⟨g, s, A, q⟩ := q
  refine TEf.imp (two_rd A q) fun v H1 q => TEf.imp q fun u H2 ⟨g, s, x, y, A2, hx, hy, _, _, q⟩ => ?_
  obtain ⟨k, ek, q⟩ := RP.bool q
  exact ⟨x, y, k, hx.cmp A2.sh.fh, hy.cmp A2.sh.fh, ek, bool_out A2 q⟩
theorem pt_cmpI (S : SC c ck Γ lv W X) {op : COp} {o : CmpOp} {l r : Expr} {a d : E} {pos : Pos} (ho : opC op o = true) (hr : odd r = false) (ha : PE X l (TEr c b W Γ a)) (hd : PE X r (TEr c b W Γ d)) : PT X (.Compare l [o] [r] pos) (TTr c b W Γ (.cmp op a d)) := by
  have e : pyC op = o := of_decide_eq_true ho
  subst e
  refine cvT (pt_cmpR (opC_ok S.K (hu_of' S) op) (pe_f ha) (pe_f hd) (nomarkB _ _ hr)) fun σ H Q q => ?_
  obtain ⟨g, s, A, q⟩ := q
  refine TEf.imp (two_rd A q) fun v H1 q => TEf.imp q fun u H2 ⟨g, s, x, y, A2, hx, hy, _, _, q⟩ => ?_
  obtain ⟨k, ek, q⟩ := RP.bool q
  exact ⟨x, y, k, hx.cmp A2.sh.fh, hy.cmp A2.sh.fh, ek, k, rfl, test_out A2 q⟩
theorem lastM {o o' : CmpOp} {m r : Expr} (h : odd r = false) : lastMarks [o, o'] [m, r] = false := nomarkB r o' h
theorem pe_cmp2I (S : SC c ck Γ lv W X) {op op' : COp} {o o' : CmpOp} {l m r : Expr} {a d f : E} {pos : Pos} (ho : opC op o = true) (ho' : opC op' o' = true) (hr : odd r = false) (ha : PE X l (TEr c b W Γ a)) (hd : PE X m (TEr c b W Γ d)) (hf : PE X r (TEr c b W Γ f)) :
    PE X (.Compare l [o, o'] [m, r] pos) (TEr c b W Γ (.cmp2 op op' a d f)) := by
  have e : pyC op = o := of_decide_eq_true ho
  have e' : pyC op' = o' := of_decide_eq_true ho'
  subst e e'
  refine cvE (pe_chain (opC_ok S.K (hu_of' S) op) (opC_ok S.K (hu_of' S) op') (pe_f ha) (pe_f hd) (pe_f hf) (lastM hr)) fun σ H Q q => ?_
  obtain ⟨g, s, A, q⟩ := q
  refine TEf.imp (two_rd A q) fun v H1 q => TEf.imp q fun u H2 ⟨g, s, x, y, A2, hx, hy, _, ny, q⟩ => ?_
  obtain ⟨k, ek, q⟩ : ∃ k, cmpD op x y = some k ∧ _ := by
    cases e : cmpD op x y with
    | none => rw [e] at q; exact False.elim q
    | some k => rw [e] at q; exact ⟨k, rfl, q⟩
  refine ⟨x, y, k, hx.cmp A2.sh.fh, hy.cmp A2.sh.fh, ek, k, rfl, ?_⟩
  cases k with
  | false =>
    exact iteF (bool_out A2 q)
  | true =>
    refine iteT ⟨g, s, A2, (RP.bind (m := fzr (ev Γ f s)) (f := fun z s => (Wi.ofOpt (cmpD op' y z) s).bind fun b s => Res.ok (Rv.v (.bl b)) s) q).imp fun z s3 g3 H3 e l A3 q w hw => ?_⟩
    obtain ⟨k2, ek2, q⟩ := RP.bool q
    exact ⟨y, z, k2, (RepO.mono (H := H2) (H' := H3) ny l hy).cmp A3.sh.fh, hw.cmp A3.sh.fh, ek2, bool_out A3 q⟩
theorem pt_cmp2I (S : SC c ck Γ lv W X) {op op' : COp} {o o' : CmpOp} {l m r : Expr} {a d f : E} {pos : Pos} (ho : opC op o = true) (ho' : opC op' o' = true) (hr : odd r = false) (ha : PE X l (TEr c b W Γ a)) (hd : PE X m (TEr c b W Γ d)) (hf : PE X r (TEr c b W Γ f)) :
    PT X (.Compare l [o, o'] [m, r] pos) (TTr c b W Γ (.cmp2 op op' a d f)) := by
  have e : pyC op = o := of_decide_eq_true ho
  have e' : pyC op' = o' := of_decide_eq_true ho'
  subst e e'
  refine cvT (pt_chain (opC_ok S.K (hu_of' S) op) (opC_ok S.K (hu_of' S) op') (pe_f ha) (pe_f hd) (pe_f hf) (lastM hr)) fun σ H Q q => ?_
  obtain ⟨g, s, A, q⟩ := q
  refine TEf.imp (two_rd A q) fun v H1 q => TEf.imp q fun u H2 ⟨g, s, x, y, A2, hx, hy, _, ny, q⟩ => ?_
  obtain ⟨k, ek, q⟩ : ∃ k, cmpD op x y = some k ∧ _ := by
    cases e : cmpD op x y with
    | none => rw [e] at q; exact False.elim q
    | some k => rw [e] at q; exact ⟨k, rfl, q⟩
  refine ⟨x, y, k, hx.cmp A2.sh.fh, hy.cmp A2.sh.fh, ek, k, rfl, ?_⟩
  cases k with
  | false =>
    exact iteF ⟨_, rfl, test_out A2 q⟩
  | true =>
    refine iteT ⟨g, s, A2, (RP.bind (m := fzr (ev Γ f s)) (f := fun z s => (Wi.ofOpt (cmpD op' y z) s).bind fun b s => Res.ok (Rv.v (.bl b)) s) q).imp fun z s3 g3 H3 e l A3 q w hw => ?_⟩
    obtain ⟨k2, ek2, q⟩ := RP.bool q
    exact ⟨y, z, k2, (RepO.mono (H := H2) (H' := H3) ny l hy).cmp A3.sh.fh, hw.cmp A3.sh.fh, ek2, _, rfl, test_out A3 q⟩
end
end Wi

/-! Soundness 7: expressions, second part. -/
namespace Wi
open PySem PySem.Spec PyProof.Rows L2
section
variable {c : Cn} {ck : CK} {b : Bs} {Γ : Gam} {lv : Nat} {W : WX} {X : Cx}
theorem peek_ok {g : G} {σ : L2.St} {H : Hp} {s : Wi.St} {i : Nat} {x : Rv} (A : Abs c b g σ H s) (h : peek i s = some x) : ∃ v, σ[i]? = some (some v) ∧ RepP c b g H x v := by
  unfold peek at h
  split at h
  · rename_i k e
    obtain ⟨v, ev, hv⟩ := A.val i _ e
    refine ⟨v, ev, ?_⟩
    split at h
    · rename_i ds e2
      cases h
      obtain ⟨a, ea, rfl⟩ := hv
      obtain ⟨vs, q1, q2⟩ := A.sh.ob k _ a e2 ea
      exact ⟨a, vs, rfl, q1, q2⟩
    · cases h
  · rename_i r _ e
    cases h
    obtain ⟨v, ev, hv⟩ := A.val i _ e
    exact ⟨v, ev, hv.seen⟩
  · cases h
theorem RepP.cmp {g : G} {H : Hp} {r : Rv} {v : V} (A : Sub g.F H) (h : RepP c b g H r v) : RepC c H (frz r) v := by
  cases r with
  | v d => exact Rep.mono A d v h
  | ro ds =>
    obtain ⟨a, vs, e, q, r⟩ := h
    exact ⟨a, vs, e, A.sqL q, RepL.mono A _ _ r⟩
  | fl ds =>
    obtain ⟨a, vs, e, q, r⟩ := h
    exact ⟨a, vs, e, q, RepL.mono A _ _ r⟩
  | _ => exact True.intro
theorem isName_of {N : List Str} {sc : Scope} {i : Nat} {e : Expr} (h : isName N sc i e = true) : ∃ x pos, e = .Name x pos ∧ nameB N sc i x = true := by
  cases e with
  | Name x pos => exact ⟨x, pos, rfl, h⟩
  | _ => exact bad h
/-- the slot's value, a state being at hand -/
theorem some_peek {i : Nat} {s : Wi.St} (h : (peek i s).isSome = true) : ∃ x, peek i s = some x := Option.isSome_iff_exists.mp h
theorem pe_cmpSI (S : SC c ck Γ lv W X) {op : COp} {o : CmpOp} {i : Nat} {l r : Expr} {d : E} {pos : Pos} (ho : opC op o = true) (hr : odd r = false) (hl : isName X.N X.env.scope i l = true) (hd : PE X r (TEr c b W Γ d)) : PE X (.Compare l [o] [r] pos) (TEr c b W Γ (.cmpS op i d)) := by
  have e : pyC op = o := of_decide_eq_true ho
  subst e
  obtain ⟨x, p, rfl, hx⟩ := isName_of hl
  obtain ⟨h1, h2, h3, h4⟩ := vis_of hx
  refine cvE (pe_cmpR (opC_ok S.K (hu_of' S) op) (pe_var h1 h2 h3 h4) (pe_f hd) (nomarkB _ _ hr)) fun σ H Q q => ?_
  obtain ⟨g, s, A, q⟩ := q
  have q : RP c b W σ g (if (peek i s).isSome = true then _ else Res.err) _ := q
  split at q
  · rename_i hs
    obtain ⟨x0, e0⟩ := some_peek hs
    obtain ⟨v, ev, _⟩ := peek_ok A e0
    refine ⟨v, ev, TEf.imp (one_rd A q) fun u H1 ⟨g, s, y, A1, hy, _, q⟩ => ?_⟩
    split at q
    · rename_i x e
      obtain ⟨v', ev', hv⟩ := peek_ok A1 e
      rw [ev] at ev'; cases ev'
      obtain ⟨k, ek, q⟩ := RP.bool q
      exact ⟨frz x, y, k, hv.cmp A1.sh.fh, hy.cmp A1.sh.fh, ek, bool_out A1 q⟩
    · exact False.elim q
  · exact False.elim q
theorem pt_cmpSI (S : SC c ck Γ lv W X) {op : COp} {o : CmpOp} {i : Nat} {l r : Expr} {d : E} {pos : Pos} (ho : opC op o = true) (hr : odd r = false) (hl : isName X.N X.env.scope i l = true) (hd : PE X r (TEr c b W Γ d)) : PT X (.Compare l [o] [r] pos) (TTr c b W Γ (.cmpS op i d)) := by
  have e : pyC op = o := of_decide_eq_true ho
  subst e
  obtain ⟨x, p, rfl, hx⟩ := isName_of hl
  obtain ⟨h1, h2, h3, h4⟩ := vis_of hx
  refine cvT (pt_cmpR (opC_ok S.K (hu_of' S) op) (pe_var h1 h2 h3 h4) (pe_f hd) (nomarkB _ _ hr)) fun σ H Q q => ?_
  obtain ⟨g, s, A, q⟩ := q
  have q : RP c b W σ g (if (peek i s).isSome = true then _ else Res.err) _ := q
  split at q
  · rename_i hs
    obtain ⟨x0, e0⟩ := some_peek hs
    obtain ⟨v, ev, _⟩ := peek_ok A e0
    refine ⟨v, ev, TEf.imp (one_rd A q) fun u H1 ⟨g, s, y, A1, hy, _, q⟩ => ?_⟩
    split at q
    · rename_i x e
      obtain ⟨v', ev', hv⟩ := peek_ok A1 e
      rw [ev] at ev'; cases ev'
      obtain ⟨k, ek, q⟩ := RP.bool q
      exact ⟨frz x, y, k, hv.cmp A1.sh.fh, hy.cmp A1.sh.fh, ek, k, rfl, test_out A1 q⟩
    · exact False.elim q
  · exact False.elim q
theorem inName_ok (n : Bool) : pyC (if n then COp.notin else COp.isin) = (if n then CmpOp.NotIn else CmpOp.In) := by cases n <;> rfl
theorem behind_name {o : CmpOp} {x : Str} {p : Pos} : behindInMarks o (.Name x p) = false := rfl
theorem pe_inSI (S : SC c ck Γ lv W X) {n : Bool} {i : Nat} {l r : Expr} {a : E} {pos : Pos} (hr : isName X.N X.env.scope i r = true) (ha : PE X l (TEr c b W Γ a)) : PE X (.Compare l [if n then .NotIn else .In] [r] pos) (TEr c b W Γ (.inS n a i)) := by
  obtain ⟨x, p, rfl, hx⟩ := isName_of hr
  obtain ⟨h1, h2, h3, h4⟩ := vis_of hx
  rw [← inName_ok]
  refine cvE (pe_cmpR (opC_ok S.K (hu_of' S) _) (pe_f ha) (pe_var h1 h2 h3 h4) behind_name) fun σ H Q q => ?_
  obtain ⟨g, s, A, q⟩ := q
  refine TEf.imp (one_rd A q) fun u H1 ⟨g, s, y, A1, hy, _, q⟩ => ?_
  split at q
  · rename_i x e
    obtain ⟨v, ev, hv⟩ := peek_ok A1 e
    obtain ⟨k, ek, q⟩ := RP.bool q
    exact ⟨v, ev, y, frz x, k, hy.cmp A1.sh.fh, hv.cmp A1.sh.fh, ek, bool_out A1 q⟩
  · exact False.elim q
theorem pt_inSI (S : SC c ck Γ lv W X) {n : Bool} {i : Nat} {l r : Expr} {a : E} {pos : Pos} (hr : isName X.N X.env.scope i r = true) (ha : PE X l (TEr c b W Γ a)) : PT X (.Compare l [if n then .NotIn else .In] [r] pos) (TTr c b W Γ (.inS n a i)) := by
  obtain ⟨x, p, rfl, hx⟩ := isName_of hr
  obtain ⟨h1, h2, h3, h4⟩ := vis_of hx
  rw [← inName_ok]
  refine cvT (pt_cmpR (opC_ok S.K (hu_of' S) _) (pe_f ha) (pe_var h1 h2 h3 h4) behind_name) fun σ H Q q => ?_
  obtain ⟨g, s, A, q⟩ := q
  refine TEf.imp (one_rd A q) fun u H1 ⟨g, s, y, A1, hy, _, q⟩ => ?_
  split at q
  · rename_i x e
    obtain ⟨v, ev, hv⟩ := peek_ok A1 e
    obtain ⟨k, ek, q⟩ := RP.bool q
    exact ⟨v, ev, y, frz x, k, hy.cmp A1.sh.fh, hv.cmp A1.sh.fh, ek, k, rfl, test_out A1 q⟩
  · exact False.elim q

/-! ### argument lists, displays -/
theorem chkEs_len {ck : CK} {N : List Str} {sc : Scope} : ∀ {es : Es} {l : List Expr}, chkEs ck N es sc l = true → es.len = l.length
  | .nil, [], _ => rfl
  | .nil, _ :: _, h => bad h
  | .cons e es, [], h => bad h
  | .cons e es, x :: l, h => by
    show es.len + 1 = l.length + 1
    rw [chkEs_len (and_of h).2]
theorem bind_ok {α β : Type} {m : Res α} {f : α → Wi.St → Res β} {y : β} {s : Wi.St} (h : m.bind f = .ok y s) : ∃ a s1, m = .ok a s1 ∧ f a s1 = .ok y s := by
  cases m with
  | ok a s1 => exact ⟨a, s1, rfl, h⟩
  | exc k t => exact nomatch (show Res.exc k t = Res.ok y s from h)
  | err => exact nomatch (show Res.err = Res.ok y s from h)
theorem evs_len : ∀ {es : Es} {s s' : Wi.St} {rs : List Rv}, evs Γ es s = .ok rs s' → rs.length = es.len
  | .nil, s, s', rs, h => by
    have h : Res.ok [] s = Res.ok rs s' := h
    cases h; rfl
  | .cons e es, s, s', rs, h => by
    obtain ⟨r, s1, e1, h⟩ := bind_ok (show (ev Γ e s).bind _ = .ok rs s' from h)
    obtain ⟨q, s2, e2, h⟩ := bind_ok h
    cases h
    show q.length + 1 = es.len + 1
    rw [evs_len e2]
theorem paired_len {α β : Type} {R : α → β → Prop} : ∀ {a : List α} {b : List β}, Paired R a b → a.length = b.length
  | _, _, .nil => rfl
  | _, _, .cons _ h => by simp [paired_len h]
theorem RepA.mono {g g' : G} {H H' : Hp} (le : G.le g g') : ∀ {rs : List Rv} {vs : List V}, RepA c b g H rs vs → RepA c b g' H' rs vs
  | _, _, .nil => .nil
  | _, _, .cons h t => .cons ⟨RepO.mono h.2 le h.1, h.2⟩ (RepA.mono le t)
theorem pa_nilI : PA X [] (TAf c b W Γ .nil) := cvA pa_nil fun σ H Q q => by
  obtain ⟨g, s, A, q⟩ := q
  exact q g H (G.le.refl g) A [] .nil
theorem pa_consI {e : Expr} {l : List Expr} {i : E} {es : Es} (hs : odd e = false) (he : PE X e (TEr c b W Γ i)) (hl : PA X l (TAf c b W Γ es)) : PA X (e :: l) (TAf c b W Γ (.cons i es)) := by
  refine cvA (pa_cons (pe_f he) hl (star_cons hs)) fun σ H Q q => ?_
  obtain ⟨g, s, A, q⟩ := q
  refine ⟨g, s, A, ?_⟩
  have q : RP c b W σ g ((ev Γ i s).bind fun r s => (evs Γ es s).bind fun rs s => .ok (frz r :: rs) s) _ := q
  have q2 : RP c b W σ g ((fzr (ev Γ i s)).bind fun r s => (evs Γ es s).bind fun rs s => .ok (r :: rs) s) (fun rs s' g' H' => ∀ vs, Paired (fun r v => RepO c b g' H' r v ∧ isOwn r = false) rs vs → Q vs H') := by
    unfold fzr
    cases e : ev Γ i s with
    | ok r s1 => rw [e] at q; exact q
    | exc k s1 => rw [e] at q; exact q
    | err => rw [e] at q; exact q
  refine (RP.bind q2).imp fun r s1 g1 H1 e1 l1 A1 q v hv => ?_
  refine ⟨g1, s1, A1, (RP.bind q).imp fun rs s2 g2 H2 e2 l2 A2 q vs hvs => ?_⟩
  exact q g2 H2 (G.le.refl g2) A2 (v :: vs) (.cons ⟨RepO.mono (fzr_own e1) l2 hv, fzr_own e1⟩ hvs)
theorem repA_list {g : G} {H : Hp} : ∀ {rs : List Rv} {vs : List V} {ds : List D}, RepA c b g H rs vs → rs.mapM (fun r => match r with | .v d => some d | _ => none) = some ds → RepL c.K g.F ds vs
  | [], vs, ds, h, e => by
    cases h
    simp at e; subst e
    rfl
  | r :: rs, vs, ds, h, e => by
    cases h with
    | cons h1 h2 =>
      rw [List.mapM_cons] at e
      cases r with
      | v d =>
        cases e2 : rs.mapM (fun r => match r with | .v d => some d | _ => none) with
        | none => rw [e2] at e; cases e
        | some q =>
          rw [e2] at e
          cases e
          exact ⟨_, _, rfl, h1.1, repA_list h2 e2⟩
      | _ => cases e
theorem pe_tupI {l : List Expr} {k : Nat} {pos : Pos} {es : Es} (hn : l.length ≤ 1000) (hl : es.len = l.length) (ha : PA X l (TAf c b W Γ es)) : PE X (.Tuple l k pos) (TEr c b W Γ (.tup es)) := by
  refine cvE (pe_tup ha) fun σ H Q q => ?_
  obtain ⟨g, s, A, q⟩ := q
  refine ⟨g, s, A, (RP.bind q).imp fun rs s1 g1 H1 e l1 A1 q vs hv => ?_⟩
  have hlen : vs.length ≤ sizeLine := by
    rw [← paired_len hv, evs_len e, hl, sizeLine_eq]; omega
  refine ⟨hlen, ?_⟩
  split at q
  · rename_i ds e2
    exact tup_out A1 (repA_list hv e2) fun g' H' le A' w hw => q g' H' le A' w hw
  · exact False.elim q
theorem pe_lstI {l : List Expr} {pos : Pos} {es : Es} (hn : l.length ≤ 1000) (hl : es.len = l.length) (ha : PA X l (TAf c b W Γ es)) : PE X (.List l pos) (TEr c b W Γ (.lst es)) := by
  refine cvE (pe_lst ha) fun σ H Q q => ?_
  obtain ⟨g, s, A, q⟩ := q
  refine ⟨g, s, A, (RP.bind q).imp fun rs s1 g1 H1 e l1 A1 q vs hv => ?_⟩
  have hlen : vs.length ≤ sizeLine := by
    rw [← paired_len hv, evs_len e, hl, sizeLine_eq]; omega
  refine ⟨hlen, ?_⟩
  split at q
  · rename_i ds e2
    exact lst_out A1 (repA_list hv e2) fun g' H' le A' w hw => q g' H' le A' w hw
  · exact False.elim q

/-! ### calls -/
/-- a call's meaning, its promise asked -/
theorem call_rd {f : Nat} {xs : List Rv} {vs : List V} {n : Nat} {σ : L2.St} {H : Hp} {g : G} {s : Wi.St} {Q : VK} (A : Abs c b g σ H s) (hv : RepA c b g H xs vs) (hn : ∀ xs sh, xs.length ≠ n → Γ f xs sh = .err)
    (q : RP c b W σ g (Wi.callR Γ f xs s) (fun r s' g' H' => ∀ v, RepR c b g' σ H' s' r v → Q v H')) : spOf c Γ f n vs H Q (WE W σ) := by
  have base : RepA c ⟨H, g⟩ g H xs vs := by
    have : ∀ {rs : List Rv} {vs : List V}, RepA c b g H rs vs → RepA c ⟨H, g⟩ g H rs vs := by
      intro rs vs h
      induction h with
      | nil => exact .nil
      | cons h t ih => exact .cons ⟨RepO.base h.1 h.2, h.2⟩ ih
    exact this hv
  unfold Wi.callR at q
  have hl : vs.length = n := by
    rw [← paired_len hv]
    by_cases h : xs.length = n
    · exact h
    · rw [hn xs s.sh h] at q; exact False.elim q
  refine ⟨g, xs, s.sh, hl, A.sh, base, ?_⟩
  cases e : Γ f xs s.sh with
  | ok r sh' =>
    rw [e] at q
    exact fun g' H' v P h => q g' H' P.le (A.call P) v (A.callR P h)
  | exc k sh' =>
    rw [e] at q
    exact fun g' H' P => q g' H' P.le (A.call P)
  | err => rw [e] at q; exact False.elim q
theorem pe_callI (S : SC c ck Γ lv W X) (hh : ck.hot = false) {f : Nat} {x : Str} {p pos : Pos} {e : Expr} {l : List Expr} {es : Es} (hg : globB X.env.scope x = true) (hf : ck.fns.lookup x = some f) (hs : ∀ y ∈ e :: l, odd y = false) (ha : PA X (e :: l) (TAf c b W Γ es)) :
    PE X (.Call (.Name x p) (e :: l) [] pos) (TEr c b W Γ (.call f es)) := by
  obtain ⟨g1, hd, _⟩ := gl_of hg
  obtain ⟨hm, hk, fd, ps, n, F, hb, hn⟩ := S.fns x f hf
  have ho : odd e = false := hs e List.mem_cons_self
  have hs2 : ∀ y ∈ l, odd y = false := fun y hy => hs y (List.mem_cons_of_mem _ hy)
  refine cvE (pe_callS F (S.room hh) g1 hm hk hb (fun σ => L2N.passAt S.tk σ) ha hd (star_cons ho) (backTo_plain hs2)) fun σ H Q q => ?_
  obtain ⟨g, s, A, q⟩ := q
  exact ⟨g, s, A, (RP.bind q).imp fun xs s1 g1 H1 e l1 A1 q vs hv => call_rd A1 hv hn q⟩
theorem pe_call0I (S : SC c ck Γ lv W X) (hh : ck.hot = false) {f : Nat} {x : Str} {p pos : Pos} (hg : globB X.env.scope x = true) (hf : ck.fns.lookup x = some f) : PE X (.Call (.Name x p) [] [] pos) (TEr c b W Γ (.call f .nil)) := by
  obtain ⟨g1, hd, _⟩ := gl_of hg
  obtain ⟨hm, hk, fd, ps, n, F, hb, hn⟩ := S.fns x f hf
  refine ⟨fun pins s σ H Q I q => ?_⟩
  refine wpAny_Call_Name_kw (ld_glob I g1 hm ?_ hd)
  refine PySem.W.callWith_K0 I.kIn hk (run_fnS (us := []) F (S.room hh) hb (L2N.passAt S.tk σ) I .nil ?_)
  obtain ⟨g, s, A, q⟩ := q
  exact call_rd A .nil hn q
/-- a def out of a written list -/
theorem names_ok (S : SC c ck Γ lv W X) : ∀ {fs : List Nat} {l : List Expr}, namesOf ck X.env.scope fs l = true →
    (∀ e ∈ l, odd e = false) ∧ fs.length = l.length ∧ PA X l (fun _ H Q => Q (fs.map fun f => V.ref (c.fa f)) H) ∧ ∀ f ∈ fs, ∃ x, ck.fns.lookup x = some f
  | [], [], _ => ⟨fun _ h => (nomatch h), rfl, cvA pa_nil fun _ _ _ q => q, fun _ h => nomatch h⟩
  | [], _ :: _, h => bad (by simpa [namesOf] using h)
  | f :: fs, [], h => bad (by simpa [namesOf] using h)
  | f :: fs, e :: l, h => by
    cases e with
    | Name x p =>
      obtain ⟨h, h3⟩ := and_of (show (globB X.env.scope x && decide (ck.fns.lookup x = some f) && namesOf ck X.env.scope fs l) = true from h)
      obtain ⟨h1, h2⟩ := and_of h
      obtain ⟨i1, i2, i3, i4⟩ := names_ok S h3
      obtain ⟨hg, hd, _⟩ := gl_of h1
      refine ⟨fun y hy => ?_, by simp [i2], ?_, fun k hk => ?_⟩
      · rcases List.mem_cons.mp hy with rfl | hy
        · rfl
        · exact i1 y hy
      · exact cvA (pa_cons (pe_glob (v := .ref (c.fa f)) hg (S.fns x f (of_decide_eq_true h2)).1 rfl hd) i3 (star_cons rfl)) fun _ _ _ q => q
      · rcases List.mem_cons.mp hk with rfl | hk
        · exact ⟨x, of_decide_eq_true h2⟩
        · exact i4 k hk
    | _ => exact bad h
theorem pe_callSelI (S : SC c ck Γ lv W X) (hh : ck.hot = false) {fs : List Nat} {l r : List Expr} {i e : Expr} {lp ip pos : Pos} {k : E} {es : Es} (hl : namesOf ck X.env.scope fs l = true) (ho : odd i = false) (hi : PE X i (TEr c b W Γ k)) (hs : ∀ y ∈ e :: r, odd y = false) (hlen : fs.length ≤ 1000)
    (ha : PA X (e :: r) (TAf c b W Γ es)) : PE X (.Call (.Subscript (.List l lp) i ip) (e :: r) [] pos) (TEr c b W Γ (.callSel fs k es)) := by
  obtain ⟨n1, n2, n3, n4⟩ := names_ok S hl
  have ho1 : odd e = false := hs e List.mem_cons_self
  have hs2 : ∀ y ∈ r, odd y = false := fun y hy => hs y (List.mem_cons_of_mem _ hy)
  refine ⟨fun pins s σ H Q I q => ?_⟩
  obtain ⟨g, s0, A, q⟩ := q
  have q : RP c b W σ g ((ev Γ k s0).bind fun x s => match x with
      | .v (.int i) => match atL fs i with
        | some f => (evs Γ es s).bind fun xs s => Wi.callR Γ f xs s
        | none => .err
      | _ => .err) (fun r s' g' H' => ∀ v, RepR c b g' σ H' s' r v → Q v H') := q
  have key : PE X (.Subscript (.List l lp) i ip) _ := pe_ix ix_list (pe_lst n3) hi (plain_ix ho)
  refine Call_ (thn (key.run pins s σ H (fun v H1 => ∃ g s f, Abs c b g σ H1 s ∧ v = .ref (c.fa f) ∧ (∃ x, ck.fns.lookup x = some f) ∧ RP c b W σ g ((evs Γ es s).bind fun xs s => Wi.callR Γ f xs s) (fun r s' g' H' => ∀ v, RepR c b g' σ H' s' r v → Q v H')) I ?_) fun u s1 ⟨v, H1, I1, r1, g1, s2, f, A1, e1, ⟨x, hf⟩, q1⟩ => ?_)
  · refine ⟨by rw [List.length_map, sizeLine_eq]; omega, fun p hp => ⟨_, s0, A.grow hp, (RP.weak (RP.bind q) (G.le.grow A hp)).imp fun z s1 g1 H1 e l A1 q y hy => ?_⟩⟩
    split at q
    · rename_i j
      cases hy.1
      split at q
      · rename_i f ef
        have hf : f ∈ fs := by
          unfold atL at ef
          obtain ⟨m, h1, h2⟩ := Option.bind_eq_some_iff.mp ef
          exact List.mem_of_getElem? h2
        have hF : H1 p = some (.lst (fs.map fun f => V.ref (c.fa f))) := A1.sh.fh _ _ (l.f _ _ upd_same)
        refine ⟨p, _, j, .ref (c.fa f), rfl, rfl, SqL.of hF, ?_, g1, s1, f, A1, rfl, n4 f hf, q⟩
        unfold atL at ef
        obtain ⟨m, h1, h2⟩ := Option.bind_eq_some_iff.mp ef
        unfold atI
        rw [List.length_map]
        show (Wi.ixN fs.length j).bind _ = _
        rw [h1]
        show (fs.map _)[m]? = _
        rw [List.getElem?_map, h2]; rfl
      · exact False.elim q
    · exact False.elim q
  · subst e1
    cases r1
    obtain ⟨hm, hk, fd, ps, n, F, hb, hn⟩ := S.fns x f hf
    refine PySem.W.callWith_K (h₀ := X.base) I1.ok.mod.kin hk (thn (ha.run pos pins s1 σ H1 (fun vs H2 => spOf c Γ f n vs H2 Q (WE W σ)) I1 ?_) fun us s3 ⟨vs, H2, I2, r2, q2⟩ => ⟨I2.kIn, ?_⟩) (star_cons ho1) (backTo_plain hs2)
    · exact ⟨g1, s2, A1, (RP.bind q1).imp fun xs s1 g1 H1 e l1 A1 q vs hv => call_rd A1 hv hn q⟩
    · exact run_fnS F (S.room hh) hb (L2N.passAt S.tk σ) I2 r2 q2
end
end Wi

/-! Soundness 8: built-ins, methods, items, slices. -/
namespace Wi
open PySem PySem.Spec PyProof.Rows L2
theorem boot_of (f : BI) : bootBuiltins (biN f) = some (biV f) := by cases f <;> decide +kernel
theorem blt_of (f : BI) : biN f ∈ bltNames := by cases f <;> decide +kernel
section
variable {c : Cn} {ck : CK} {b : Bs} {Γ : Gam} {lv : Nat} {W : WX} {X : Cx}
theorem pe_biI (S : SC c ck Γ lv W X) (hh : ck.hot = false) {f : BI} {x : Str} {p pos : Pos} {e : Expr} {l : List Expr} {es : Es} (hg : globB X.env.scope x = true) (hx : x = biN f) (hs : ∀ y ∈ e :: l, odd y = false) (ha : PA X (e :: l) (TAf c b W Γ es)) :
    PE X (.Call (.Name x p) (e :: l) [] pos) (TEr c b W Γ (.bi f es)) := by
  subst hx
  obtain ⟨g1, hd, hn⟩ := gl_of hg
  have hm := S.blt _ (blt_of f)
  have ho : odd e = false := hs e List.mem_cons_self
  have hs2 : ∀ y ∈ l, odd y = false := fun y hy => hs y (List.mem_cons_of_mem _ hy)
  have fin : ∀ σ H Q, TEr c b W Γ (.bi f es) σ H Q → TAf c b W Γ es σ H fun vs H1 => rF c b (biD f) vs H1 Q := fun σ H Q q => by
    obtain ⟨g, s, A, q⟩ := q
    refine ⟨g, s, A, (RP.bind q).imp fun xs s1 g1 H1 e l1 A1 q vs hv => ?_⟩
    obtain ⟨z, ez, q⟩ := RP.ofOpt q
    exact ⟨σ, g1, s1, xs, z, A1, hv, ez, fun g' H' le A' w hw => q g' H' le A' w hw⟩
  have R := biD_ok (b := b) S.K (S.calm hh) S.un f
  have B := boot_of f
  cases f <;> first
    | exact cvE (pe_callB R g1 hm B ha hn hd (star_cons ho) (backTo_plain hs2)) fin
    | exact cvE (pe_callTy R g1 hm B ha hn hd (star_cons ho) (backTo_plain hs2)) fin
theorem pe_lenSI (S : SC c ck Γ lv W X) {i : Nat} {x : Str} {p pos : Pos} {e : Expr} (hg : globB X.env.scope x = true) (hx : x = ("len" : Str)) (hl : isName X.N X.env.scope i e = true) : PE X (.Call (.Name x p) [e] [] pos) (TEr c b W Γ (.lenS i)) := by
  subst hx
  obtain ⟨g1, hd, hn⟩ := gl_of hg
  have hm := S.blt _ (blt_of .len)
  obtain ⟨y, p2, rfl, hy⟩ := isName_of hl
  obtain ⟨h1, h2, h3, h4⟩ := vis_of hy
  refine cvE (pe_callB call_len g1 hm (boot_of .len) (pa_cons (pe_var h1 h2 h3 h4) pa_nil) hn hd) fun σ H Q q => ?_
  obtain ⟨g, s, A, q⟩ := q
  have q : RP c b W σ g (match (peek i s).bind lenD with
      | some (n : Nat) => Res.ok (Rv.v (D.int (n : Int))) s
      | none => Res.err) (fun r s' g' H' => ∀ v, RepR c b g' σ H' s' r v → Q v H') := q
  split at q
  · rename_i n e
    obtain ⟨r, e1, e2⟩ := Option.bind_eq_some_iff.mp e
    obtain ⟨v, ev, hv⟩ := peek_ok A e1
    exact ⟨v, ev, v, n, rfl, lenD_ok S.K A hv e2, q g H (G.le.refl g) A _ ⟨rfl, fun z => nomatch z⟩⟩
  · exact False.elim q
theorem base_ok {o : Expr} {m : Str} {env : Env} (h : baseB o = true) : attributeBase o m env (eval o env) = eval o env := by
  cases o with
  | Call f as ks p =>
    cases as with
    | nil => cases h
    | cons _ _ => cases f <;> rfl
  | _ => first | rfl | cases h
theorem joinL_eq (sep : List Nat) : ∀ l : List (List Nat), Wi.joinL sep l = TL.joinL sep l
  | [] => rfl
  | [_] => rfl
  | x :: y :: r => by
    show x ++ (sep ++ Wi.joinL sep (y :: r)) = x ++ (sep ++ TL.joinL sep (y :: r))
    rw [joinL_eq sep (y :: r)]
theorem join_str (sep : List Nat) (l : List (List Nat)) : Txt.join (strV sep) (l.map strV) = strV (Wi.joinL sep l) := by
  refine TL.ext_tl ?_
  rw [TL.join_eq, TL.tl_join]
  show TL.joinL sep ((l.map strV).map TL.tl) = Wi.joinL sep l
  rw [joinL_eq, List.map_map]
  have : (TL.tl ∘ strV) = (id : List Nat → List Nat) := by funext x; rfl
  rw [this, List.map_id]
theorem joinL_ok {sep : List Nat} (hs : okStr sep) : ∀ {l : List (List Nat)}, (∀ x ∈ l, okStr x) → (∀ c ∈ Wi.joinL sep l, c < 0x110000) ∧ (Wi.joinL sep l).length ≤ (l.map List.length).sum + l.length * sep.length
  | [], _ => ⟨fun _ h => (nomatch h), Nat.zero_le _⟩
  | [x], h => ⟨(h x List.mem_cons_self).2, by show x.length ≤ _; simp⟩
  | x :: y :: r, h => by
    obtain ⟨i1, i2⟩ := joinL_ok hs (l := y :: r) fun z hz => h z (List.mem_cons_of_mem _ hz)
    refine ⟨fun c hc => ?_, ?_⟩
    · rcases List.mem_append.mp (show c ∈ x ++ (sep ++ Wi.joinL sep (y :: r)) from hc) with hc | hc
      · exact (h x List.mem_cons_self).2 c hc
      · rcases List.mem_append.mp hc with hc | hc
        · exact hs.2 c hc
        · exact i1 c hc
    · show (x ++ (sep ++ Wi.joinL sep (y :: r))).length ≤ _
      rw [List.length_append, List.length_append, List.map_cons, List.sum_cons, List.length_cons, Nat.succ_mul]
      omega
theorem pe_joinI {x : Str} {e : Expr} {ap pos p1 : Pos} {k : Const} {n : Nat} {sep : List Nat} {a : E} (hx : x = ("join" : Str)) (hk : cok (.str sep) k = true) (hl : (ap.endLine == pos.line) = true) (hs : odd e = false)
    (hi : PE X e (TEr c b W Γ a)) : PE X (.Call (.Attribute (.Constant k n p1) x ap) [e] [] pos) (TEr c b W Γ (.join sep a)) := by
  subst hx
  cases k with
  | str y =>
    obtain ⟨h1, h2⟩ := and_of hk
    obtain ⟨h2, h3⟩ := and_of h2
    have ey : y = strV sep := by
      have := of_decide_eq_true h1
      rw [← this]; rfl
    subst ey
    have osep : okStr sep := ⟨by have := of_decide_eq_true h2; unfold LIM; omega, fun c hc => of_decide_eq_true (List.all_eq_true.mp h3 c hc)⟩
    refine cvE (pe_join pe_str (pe_f hi) (star_cons hs) rfl hl) fun σ H Q q => ?_
    obtain ⟨g, s, A, q⟩ := q
    refine ⟨⟨_, rfl⟩, TEf.imp (one_rd A q) fun v H1 ⟨g, s, x, A1, hx, nx, q⟩ => ?_⟩
    obtain ⟨z, ez, q⟩ := RP.ofOpt q
    unfold joinD at ez
    split at ez
    · rename_i ds
      obtain ⟨l, e1, e2⟩ := Option.bind_eq_some_iff.mp ez
      split at e2
      · rename_i hz
        cases e2
        obtain ⟨p, vs, rfl, t, r⟩ := hx
        obtain ⟨rfl, hok⟩ := strsD_rep r e1
        obtain ⟨j1, j2⟩ := joinL_ok osep hok
        refine ⟨_, p, l.map strV, rfl, rfl, .inl (.inl (.inl (A1.sh.fh _ _ t))), ?_, ?_⟩
        · rw [List.map_map, List.length_map, strV_length]
          have : (Str.length ∘ strV) = List.length := by funext z; exact strV_length z
          rw [this]
          unfold LIM at hz; omega
        · rw [join_str]
          exact q g H1 (G.le.refl g) A1 _ ⟨⟨rfl, Nat.le_trans j2 hz, j1⟩, fun z => nomatch z⟩
      · cases e2
    · cases ez
  | _ => exact bad hk
/-! ### methods of lists -/
theorem deq_V {K : PySem.W.Frag} {F : Hp} : ∀ {d e : D} {v u : V}, Rep K F d v → Rep K F e u → flatD d = true → flatD e = true → eqV v u = deq d e
  | .non, e, v, u, hd, he, _, fe => by
    cases hd
    cases e with
    | non => cases he; rfl
    | bl _ => cases he; rfl
    | int _ => cases he; rfl
    | str _ => obtain ⟨rfl, _⟩ := he; rfl
    | tup _ => cases fe
    | lst _ => cases fe
  | .bl a, e, v, u, hd, he, _, fe => by
    cases hd
    cases e with
    | non => cases he; rfl
    | bl _ => cases he; rfl
    | int _ => cases he; rfl
    | str _ => obtain ⟨rfl, _⟩ := he; rfl
    | tup _ => cases fe
    | lst _ => cases fe
  | .int a, e, v, u, hd, he, _, fe => by
    cases hd
    cases e with
    | non => cases he; rfl
    | bl _ => cases he; rfl
    | int _ => cases he; rfl
    | str _ => obtain ⟨rfl, _⟩ := he; rfl
    | tup _ => cases fe
    | lst _ => cases fe
  | .str a, e, v, u, hd, he, _, fe => by
    obtain ⟨rfl, _⟩ := hd
    cases e with
    | non => cases he; rfl
    | bl _ => cases he; rfl
    | int _ => cases he; rfl
    | str b =>
      obtain ⟨rfl, _⟩ := he
      show (strV a == strV b) = (a == b)
      by_cases h : a = b
      · subst h
        rw [beq_self_eq_true, beq_self_eq_true]
      · rw [beq_eq_false_iff_ne.mpr h]
        refine beq_eq_false_iff_ne.mpr fun z => h ?_
        have := congrArg (fun s : Str => s.cps.toList) z
        simpa [strV] using this
    | tup _ => cases fe
    | lst _ => cases fe
  | .tup _, _, _, _, _, _, f, _ => bad f
  | .lst _, _, _, _, _, _, f, _ => bad f
theorem flat_rep {K : PySem.W.Frag} {F : Hp} {d : D} {v : V} (h : Rep K F d v) (f : flatD d = true) : flatV v = true := by
  cases d with
  | non => cases h; rfl
  | bl _ => cases h; rfl
  | int _ => cases h; rfl
  | str _ => obtain ⟨rfl, _⟩ := h; rfl
  | tup _ => cases f
  | lst _ => cases f
theorem flat_repL {K : PySem.W.Frag} {F : Hp} : ∀ {ds : List D} {vs : List V}, RepL K F ds vs → ds.all flatD = true → vs.all flatV = true
  | [], _, h, _ => by cases h; rfl
  | d :: ds, _, h, f => by
    obtain ⟨v, r, rfl, h1, h2⟩ := h
    rw [List.all_cons] at f ⊢
    obtain ⟨f1, f2⟩ := and_of f
    rw [flat_rep h1 f1, flat_repL h2 f2]; rfl
theorem countP_rep {K : PySem.W.Frag} {F : Hp} {x : D} {u : V} (hx : Rep K F x u) (fx : flatD x = true) : ∀ {ds : List D} {vs : List V} {us : List Value}, RepL K F ds vs → Vals vs us → ds.all flatD = true → us.countP (eqU u) = ds.countP fun y => deq y x
  | [], _, _, h, r, _ => by
    cases h; cases r; rfl
  | d :: ds, _, _, h, r, f => by
    obtain ⟨v, vs, rfl, h1, h2⟩ := h
    cases r with
    | cons r1 r2 =>
      rw [List.all_cons] at f
      obtain ⟨f1, f2⟩ := and_of f
      rw [List.countP_cons, List.countP_cons, countP_rep hx fx h2 r2 f2, eqU_of r1 (flat_rep h1 f1), deq_V h1 hx f1 fx]
/-- list.count, flat items -/
def rCntF (K : PySem.W.Frag) : V → List V → Hp → VK → Prop := fun x xs H Q => ∃ (F : Hp) (p : Addr) (ds : List D) (vs : List V) (d : D) (u : V), x = .ref p ∧ xs = [u] ∧ SqL K H p vs ∧ RepL K F ds vs ∧ Rep K F d u ∧ flatD d = true ∧ ds.all flatD = true ∧ Q (.int (ds.countP fun y => deq y d : Nat)) H
theorem mt_cntF : MtR X "list.count" (rCntF X.K) := by
  intro pins s σ H x xs v us Q I rx rxs h
  obtain ⟨F, p, ds, vs, d, u, rfl, rfl, hs, hr, hd, fd, fs, q⟩ := h
  cases rx
  obtain ⟨uu, rfl, ru⟩ := rxs.one
  obtain ⟨its, rv, ⟨o, n, ho, hc, hdn, hdt⟩, hlen⟩ := I.list hs
  obtain ⟨cls, dd, data, sl⟩ := o
  dsimp only at hc hdt
  subst hc hdt
  refine call_meets PySem.F.slot_list_count ⟨_, ho, rfl⟩ PySem.F.entry_list_count
    (PySem.F.args_list_count_2 _ _) (SeqAt.list_countAt p its.toArray n dd sl uu (eqU u)) ⟨ho, ?_, ?_⟩
  · exact fun y hy => mem_eqAt ru (flat_rep hd fd) rv (flat_repL hr fs) y (by simpa using hy)
  · have ec : its.toArray.toList.countP (eqU u) = ds.countP fun y => deq y d := countP_rep hd fd hr rv fs
    rw [ec]
    exact ⟨.int ((ds.countP fun y => deq y d : Nat) : Int), H, I.tok _, ⟨s.toks, rfl⟩, q⟩
theorem ixOf_ok {x : D} : ∀ {ds : List D} {n : Nat}, ixOf x ds = some n → (∃ d, ds[n]? = some d ∧ deq d x = true) ∧ ∀ m d, m < n → ds[m]? = some d → deq d x = false
  | [], _, h => by cases h
  | y :: r, n, h => by
    have h : (if deq y x = true then some 0 else (ixOf x r).map (· + 1)) = some n := h
    split at h
    · rename_i hy
      cases h
      exact ⟨⟨y, rfl, hy⟩, fun m d hm => absurd hm (Nat.not_lt_zero m)⟩
    · rename_i hy
      obtain ⟨k, ek, rfl⟩ := Option.map_eq_some_iff.mp h
      obtain ⟨⟨d, e1, e2⟩, i2⟩ := ixOf_ok ek
      refine ⟨⟨d, e1, e2⟩, fun m d hm e => ?_⟩
      cases m with
      | zero =>
        cases e
        simpa using hy
      | succ m => exact i2 m d (Nat.lt_of_succ_lt_succ hm) e
theorem all_at {ds : List D} (h : ds.all flatD = true) {i : Nat} {d : D} (e : ds[i]? = some d) : flatD d = true := List.all_eq_true.mp h d (List.mem_of_getElem? e)
theorem pe_methI (S : SC c ck Γ lv W X) {m : Mt} {x : Str} {o y : Expr} {ap pos : Pos} {a : E} {es : Es} (hm : mtN m = some x) (hb : baseB o = true) (hl : (ap.endLine == pos.line) = true) (hs : ∀ z ∈ [y], odd z = false) (ho : PE X o (TEr c b W Γ a)) (ha : PA X [y] (TAf c b W Γ es)) :
    PE X (.Call (.Attribute o x ap) [y] [] pos) (TEr c b W Γ (.meth m a es)) := by
  have ho1 : odd y = false := hs y List.mem_cons_self
  have few : ((backTo pos (starEach [y] X.env)).all (fun x => !x.1) && (backToKw pos (keywordEach [] X.env)).all (fun x => x.1.isSome)
      && decide ([y].length + ([] : List Keyword).length + (if ([] : List Keyword).isEmpty then 0 else 1) < 30)) = true := by
    rw [star_cons ho1]; rfl
  -- the reading
  have go : ∀ {σ : L2.St} {H : Hp} {Q : VK} {r : V → List V → Hp → VK → Prop}, TEr c b W Γ (.meth m a es) σ H Q →
      (∀ (g : G) (H' : Hp) (s : Wi.St) (ds : List D) (p : Addr) (vs : List V) (rs : List Rv) (us : List V) (z : Rv), Abs c b g σ H' s → g.F p = some (.lst vs) → RepL c.K g.F ds vs → RepA c b g H' rs us → methD m (.v (.lst ds)) rs = some z → (∀ v, RepO c b g H' z v → isOwn z = false → Q v H') → r (.ref p) us H' Q) →
      TEf c b W Γ a σ H fun v H1 => L2.tyV X.K "list" v H1 ∧ TAf c b W Γ es σ H1 fun us H2 => r v us H2 Q := by
    intro σ H Q r q fin
    obtain ⟨g, s, A, q⟩ := q
    refine TEf.imp (one_rd A q) fun v H1 ⟨g, s, x, A1, hx, nx, q8⟩ => ?_
    split at q8
    · rename_i hls
      cases x with
      | v d =>
        cases d with
        | lst ds =>
          obtain ⟨p, vs, rfl, t, rr⟩ := hx
          refine ⟨.inl ⟨rfl, vs, SqL.of (A1.sh.fh _ _ t)⟩, g, s, A1, (RP.bind q8).imp fun rs s2 g2 H2 e2 l2 A2 q9 us hus => ?_⟩
          obtain ⟨z, ez, q10⟩ := RP.ofOpt q9
          refine fin g2 H2 s2 ds p vs rs us z A2 (l2.f _ _ t) (RepL.mono l2.f _ _ rr) hus ez fun v hv ho => q10 g2 H2 (G.le.refl _) A2 v ⟨hv, fun w => by rw [ho] at w; cases w⟩
        | _ => exact bad hls
      | _ => exact bad hls
    · exact False.elim q8
  have one : ∀ {rs : List Rv} {us : List V} {g : G} {H : Hp} {z : Rv} {ds : List D}, RepA c b g H rs us → methD m (.v (.lst ds)) rs = some z → ∃ d u, rs = [.v d] ∧ us = [u] ∧ Rep c.K g.F d u := by
    intro rs us g H z ds hv e
    cases hv with
    | nil => cases m <;> cases e
    | cons h t =>
      rename_i r v rs us
      cases t with
      | cons _ _ => cases r <;> cases m <;> cases e
      | nil =>
        cases r with
        | v d => exact ⟨d, v, rfl, rfl, h.1⟩
        | _ => cases m <;> cases e
  cases m with
  | index =>
    cases hm
    refine cvE (pe_bm PySem.F.plainAttrs_list PySem.F.slot_list_index PySem.F.type_list_index mt_index (pe_f ho) ha (base_ok hb) few hl (star_cons ho1) rfl) fun σ H Q q => ?_
    refine go q fun g H' s ds p vs rs us z A hF hr hv e fin => ?_
    obtain ⟨d, u, rfl, rfl, hd⟩ := one hv e
    have e : (if flatD d = true ∧ ds.all flatD = true ∧ ds.length ≤ LIM then (ixOf d ds).map fun (n : Nat) => Rv.v (.int (n : Int)) else none) = some z := e
    split at e
    · rename_i hf
      obtain ⟨f1, f2, f3⟩ := hf
      obtain ⟨n, en, rfl⟩ := Option.map_eq_some_iff.mp e
      obtain ⟨⟨d', e1, e2⟩, i2⟩ := ixOf_ok en
      obtain ⟨v', ev', rv'⟩ := hr.get e1
      refine ⟨p, vs, u, n, v', rfl, rfl, SqL.of (A.sh.fh _ _ hF), flat_rep hd f1, flat_repL hr f2, ev', by rw [deq_V rv' hd (all_at f2 e1) f1, e2], fun m z' hm ez => ?_, fin _ rfl rfl⟩
      obtain ⟨d2, e4, r4⟩ := hr.get' ez
      rw [deq_V r4 hd (all_at f2 e4) f1]
      exact i2 m d2 hm e4
    · cases e
  | count =>
    cases hm
    refine cvE (pe_bm PySem.F.plainAttrs_list PySem.F.slot_list_count PySem.F.type_list_count mt_cntF (pe_f ho) ha (base_ok hb) few hl (star_cons ho1) rfl) fun σ H Q q => ?_
    refine go q fun g H' s ds p vs rs us z A hF hr hv e fin => ?_
    obtain ⟨d, u, rfl, rfl, hd⟩ := one hv e
    have e : (if flatD d = true ∧ ds.all flatD = true then some (Rv.v (.int ((ds.countP fun y => deq y d : Nat) : Int))) else none) = some z := e
    split at e
    · rename_i hf
      cases e
      rw [S.K]
      exact ⟨g.F, p, ds, vs, d, u, rfl, rfl, SqL.of (A.sh.fh _ _ hF), hr, hd, hf.1, hf.2, fin _ rfl rfl⟩
    · cases e
  | _ => cases hm
theorem pe_subI (S : SC c ck Γ lv W X) {l r : Expr} {pos : Pos} {a i : E} (ho : odd r = false) (ha : PE X l (TEr c b W Γ a)) (hi : PE X r (TEr c b W Γ i)) : PE X (.Subscript l r pos) (TEr c b W Γ (.sub a i)) := by
  refine cvE (pe_ix (ixS_ok (b := b) S.K) (pe_f ha) (pe_f hi) (plain_ix ho)) fun σ H Q q => ?_
  obtain ⟨g, s, A, q⟩ := q
  refine TEf.imp (two_rd A q) fun v H1 q => TEf.imp q fun u H2 ⟨g, s, x, y, A2, hx, hy, _, _, q⟩ => ?_
  obtain ⟨z, ez, q⟩ := RP.ofOpt q
  exact ⟨σ, g, s, x, y, z, A2, hx.seen, hy, ez, fun g' H' le A' w hw => q g' H' le A' w hw⟩
theorem pe_subSI (S : SC c ck Γ lv W X) {k : Nat} {l r : Expr} {pos : Pos} {i : E} (ho : odd r = false) (hl : isName X.N X.env.scope k l = true) (hi : PE X r (TEr c b W Γ i)) : PE X (.Subscript l r pos) (TEr c b W Γ (.subS k i)) := by
  obtain ⟨x, p, rfl, hx⟩ := isName_of hl
  obtain ⟨h1, h2, h3, h4⟩ := vis_of hx
  refine cvE (pe_ix (ixS_ok (b := b) S.K) (pe_var h1 h2 h3 h4) (pe_f hi) (plain_ix ho)) fun σ H Q q => ?_
  obtain ⟨g, s, A, q⟩ := q
  have q : RP c b W σ g (if (peek k s).isSome = true then _ else Res.err) _ := q
  split at q
  · rename_i hs
    obtain ⟨x0, e0⟩ := some_peek hs
    obtain ⟨v, ev, _⟩ := peek_ok A e0
    refine ⟨v, ev, TEf.imp (one_rd A q) fun u H1 ⟨g, s, y, A1, hy, _, q⟩ => ?_⟩
    split at q
    · rename_i x e
      obtain ⟨v', ev', hv⟩ := peek_ok A1 e
      rw [ev] at ev'; cases ev'
      obtain ⟨z, ez, q⟩ := RP.ofOpt q
      exact ⟨σ, g, s, x, y, z, A1, hv, hy, ez, fun g' H' le A' w hw => q g' H' le A' w hw⟩
    · exact False.elim q
  · exact False.elim q
/-- a part of a slice -/
def TPo (c : Cn) (b : Bs) (W : WX) (Γ : Gam) (i : E) : TO := fun σ H Q => TEf c b W Γ i σ H fun v H' => if noneB i = true then Q none H' else ∃ j, v = .int j ∧ Q (some j) H'
theorem po_ok {z : Option Expr} {i : E} (h : match z with | none => noneB i = true | some x => noneB i = false ∧ PE X x (TEr c b W Γ i)) : PO X z (TPo c b W Γ i) := by
  cases z with
  | none =>
    have h : noneB i = true := h
    refine ⟨fun pins s σ H Q I q => po_none.run pins s σ H Q I ?_⟩
    obtain ⟨g, s, A, q⟩ := q
    cases i with
    | const d =>
      cases d with
      | non =>
        exact q g H (G.le.refl g) A .non rfl
      | _ => cases h
    | _ => cases h
  | some e =>
    obtain ⟨h1, h2⟩ := h
    refine ⟨fun pins s σ H Q I q => (po_some (pe_f h2)).run pins s σ H Q I (TEf.imp q fun v H' q => ?_)⟩
    have q : (if noneB i = true then Q none H' else ∃ j, v = .int j ∧ Q (some j) H') := q
    rw [if_neg (by rw [h1]; decide)] at q
    exact q
theorem pe_cutI (S : SC c ck Γ lv W X) {l : Expr} {x y : Option Expr} {pos p2 : Pos} {a lo hi : E} (ha : PE X l (TEr c b W Γ a))
    (hx : match x with | none => noneB lo = true | some x => noneB lo = false ∧ PE X x (TEr c b W Γ lo)) (hy : match y with | none => noneB hi = true | some y => noneB hi = false ∧ PE X y (TEr c b W Γ hi)) :
    PE X (.Subscript l (.Slice x y none p2) pos) (TEr c b W Γ (.cut a lo hi)) := by
  refine cvE (pe_slice (slC_ok (b := b) S.K) (pe_f ha) (po_ok hx) (po_ok hy)) fun σ H Q q => ?_
  obtain ⟨g, s, A, q⟩ := q
  refine ⟨g, s, A, (RP.bind q).imp fun x s1 g1 H1 e1 l1 A1 q v hv => ?_⟩
  refine ⟨g1, s1, A1, (RP.bind q).imp fun lv s2 g2 H2 e2 l2 A2 q vl hvl => ?_⟩
  obtain ⟨ol, eo, q⟩ : ∃ ol, partI lo lv = some ol ∧ RP c b W σ g2 ((fzr (ev Γ hi s2)).bind fun h s => (Wi.ofOpt (partI hi h) s).bind fun oh s => Wi.ofOpt (cutD x ol oh) s) (fun r s' g' H' => ∀ v, RepR c b g' σ H' s' r v → Q v H') := by
    cases e : partI lo lv with
    | none => rw [e] at q; exact False.elim q
    | some k => rw [e] at q; exact ⟨k, rfl, q⟩
  have fin : TPo c b W Γ hi σ H2 fun oh H3 => rCut c b v ol oh H3 Q := by
    refine ⟨g2, s2, A2, (RP.bind q).imp fun hv' s3 g3 H3 e3 l3 A3 q vh hvh => ?_⟩
    obtain ⟨oh, eh, q⟩ : ∃ oh, partI hi hv' = some oh ∧ RP c b W σ g3 (Wi.ofOpt (cutD x ol oh) s3) (fun r s' g' H' => ∀ v, RepR c b g' σ H' s' r v → Q v H') := by
      cases e : partI hi hv' with
      | none => rw [e] at q; exact False.elim q
      | some k => rw [e] at q; exact ⟨k, rfl, q⟩
    obtain ⟨z, ez, q⟩ := RP.ofOpt q
    have out : rCut c b v ol oh H3 Q := ⟨σ, g3, s3, x, z, A3, RepO.mono (H := H1) (H' := H3) (fzr_own e1) (l2.trans l3) hv, ez, fun g' H' le A' w hw => q g' H' le A' w hw⟩
    unfold partI at eh
    by_cases hn : noneB hi = true
    · rw [if_pos hn] at eh ⊢
      cases eh
      exact out
    · rw [if_neg hn] at eh ⊢
      split at eh
      · cases eh
        cases hvh
        exact ⟨_, rfl, out⟩
      · cases eh
  unfold partI at eo
  by_cases hn : noneB lo = true
  · rw [if_pos hn] at eo ⊢
    cases eo
    exact fin
  · rw [if_neg hn] at eo ⊢
    split at eo
    · cases eo
      cases hvl
      exact ⟨_, rfl, fin⟩
    · cases eo
theorem pe_rangeLI (S : SC c ck Γ lv W X) (hh : ck.hot = false) {x y : Str} {p p2 pos pos2 : Pos} {e : Expr} {i : E} (hg : globB X.env.scope x = true) (hx : x = ("list" : Str)) (hg2 : globB X.env.scope y = true) (hy : y = ("range" : Str)) (ho : odd e = false) (h : PE X e (TEr c b W Γ i)) :
    PE X (.Call (.Name x p) [.Call (.Name y p2) [e] [] pos2] [] pos) (TEr c b W Γ (.rangeL i)) := by
  subst hx hy
  obtain ⟨g1, hd, hn⟩ := gl_of hg
  obtain ⟨g2, hd2, hn2⟩ := gl_of hg2
  refine cvE (pe_listRg (S.calm hh) g1 (S.blt _ (by decide +kernel)) (prg_1 g2 (S.blt _ (by decide +kernel)) (pe_f h) (star_cons ho))) fun σ H Q q => ?_
  obtain ⟨g, s, A, q⟩ := q
  refine TEf.imp (one_rd A q) fun v H1 ⟨g, s, x, A1, hx, nx, q⟩ => ?_
  split at q
  · rename_i j
    split at q
    · rename_i hj
      cases hx
      unfold okI at hj
      obtain ⟨j1, j2⟩ := and_of hj
      have j1 := of_decide_eq_true j1
      have j2 := of_decide_eq_true j2
      refine ⟨j, rfl, ⟨by omega, by omega, by omega, by omega, by omega⟩, fun p hp => ?_⟩
      have hr : RepL c.K g.F (rangeD 0 j.toNat) (rgV 0 j) := by
        have key : ∀ (n : Nat) (a : Int), RepL c.K g.F (rangeD a n) ((List.range n).map fun i => V.int (a + (i : Nat))) := by
          intro n
          induction n with
          | zero => intro a; rfl
          | succ n ih =>
            intro a
            rw [List.range_succ_eq_map]
            refine ⟨.int a, (List.map Nat.succ (List.range n)).map fun i => V.int (a + (i : Nat)), ?_, rfl, ?_⟩
            · simp
            · have := ih (a + 1)
              rw [List.map_map]
              have e : ((fun i : Nat => V.int (a + (i : Nat))) ∘ Nat.succ) = fun i : Nat => V.int (a + 1 + (i : Nat)) := by
                funext i
                show V.int (a + ((i + 1 : Nat) : Int)) = _
                congr 1; omega
              rw [e]; exact this
        unfold rgV
        rw [Int.sub_zero]
        exact key j.toNat 0
      exact q g _ (G.le.refl g) (A1.alloc hp) _ (A1.fresh hp hr)
    · exact False.elim q
  · exact False.elim q
end
end Wi

/-! Soundness 9: stores, targets, iterators, isinstance. -/
namespace Wi
open PySem PySem.Spec PyProof.Rows L2
section
variable {c : Cn} {b : Bs} {g g' : G} {sV : L2.St} {H H' : Hp} {s : Wi.St} {r : Rv} {v : V} {i : Nat}
/-- a slot's new value -/
theorem Abs.put (A : Abs c b g sV H s) (h : RepR c b g sV H s r v) (hi : i < s.sl.length) : Abs c b g (sV.set i (some v)) H ⟨s.sl.set i (some r), s.sh⟩ := by
  have hi2 : i < sV.length := by rw [A.len]; exact hi
  refine ⟨A.sh, by simpa using A.len, fun j r' e => ?_, fun j k hjk hj hk => ?_, A.le, A.keep, A.fnew, A.anew⟩
  · have e : (s.sl.set i (some r))[j]? = some (some r') := e
    by_cases hji : i = j
    · subst hji
      rw [List.getElem?_set_self hi] at e
      cases e
      exact ⟨v, List.getElem?_set_self hi2, h.1⟩
    · rw [List.getElem?_set_ne hji] at e ⊢
      exact A.val j r' e
  · obtain ⟨r1, e1, o1⟩ := ownAt_isOwn.mp hj
    obtain ⟨r2, e2, o2⟩ := ownAt_isOwn.mp hk
    by_cases hji : i = j
    · subst hji
      rw [List.getElem?_set_self hi] at e1
      cases e1
      rw [List.getElem?_set_ne hjk] at e2
      rw [List.getElem?_set_self hi2, List.getElem?_set_ne hjk]
      exact fun z => h.2 o1 k (ownAt_isOwn.mpr ⟨r2, e2, o2⟩) z.symm
    · rw [List.getElem?_set_ne hji] at e1
      by_cases hki : i = k
      · subst hki
        rw [List.getElem?_set_self hi] at e2
        cases e2
        rw [List.getElem?_set_self hi2, List.getElem?_set_ne hji]
        exact h.2 o2 j (ownAt_isOwn.mpr ⟨r1, e1, o1⟩)
      · rw [List.getElem?_set_ne hki] at e2
        rw [List.getElem?_set_ne hji, List.getElem?_set_ne hki]
        exact A.sep j k hjk (ownAt_isOwn.mpr ⟨r1, e1, o1⟩) (ownAt_isOwn.mpr ⟨r2, e2, o2⟩)
theorem RepR.ofRep {d : D} (h : Rep c.K g.F d v) : RepR c b g sV H s (.v d) v := ⟨h, fun z => nomatch z⟩
def setsV : List Nat → List V → L2.St → L2.St
  | i :: is, v :: vs, σ => setsV is vs (σ.set i (some v))
  | _, _, σ => σ
def TGr (K : PySem.W.Frag) (tg : List Nat) (one : Bool) : TG := fun v σ H Q =>
  if one = true then ∃ i, tg = [i] ∧ Q (σ.set i (some v)) H else ∃ a xs, v = .ref a ∧ SqT K H a xs ∧ xs.length = tg.length ∧ Q (setsV tg xs σ) H
/-- where one may store -/
def Sto (X : Cx) (x : Str) : Prop := Loc X.env.scope x ∧ (X.fn x = true ∨ X.env.scope.names.lookup x = some .local)
theorem pgs_names {X : Cx} (nd : X.N.Nodup) {sc : Scope} (hst : ∀ x, stoB sc x = true → Sto X x) : ∀ {is : List Nat} {es : List Expr}, namesT X.N sc is es = true →
    PGs X es (fun vs σ H Q => vs.length = is.length ∧ Q (setsV is vs σ) H) ∧ is.length = es.length ∧ (assignEach es X.env).length = es.length ∧ (assignEach es X.env).findIdx? (·.1) = none
  | [], [], _ => ⟨⟨fun pins s σ H vs us Q I r h => by
      obtain ⟨h1, h2⟩ := h
      have : vs = [] := List.length_eq_zero_iff.mp h1
      subst this
      exact pgs_nil.run pins s σ H [] us Q I r ⟨rfl, h2⟩⟩, rfl, rfl, rfl⟩
  | [], _ :: _, h => bad (by simpa [namesT] using h)
  | _ :: _, [], h => bad (by simpa [namesT] using h)
  | i :: is, e :: es, h => by
    cases e with
    | Name x p =>
      obtain ⟨h1, h2⟩ := and_of (show (decide (X.N[i]? = some x) && (stoB sc x && namesT X.N sc is es)) = true from h)
      obtain ⟨h2, h3⟩ := and_of h2
      obtain ⟨i1, i2, i3, i4⟩ := pgs_names nd hst h3
      obtain ⟨hl, hf⟩ := hst x h2
      refine ⟨⟨fun pins s σ H vs us Q I r h => ?_⟩, by simp [i2], ?_, ?_⟩
      · obtain ⟨q1, q2⟩ := h
        cases vs with
        | nil => cases q1
        | cons v vs =>
          have k := pgs_cons (pg_name (pos := p) nd (of_decide_eq_true h1) hl hf) i1 rfl
          exact k.run pins s σ H (v :: vs) us Q I r ⟨v, vs, rfl, by simpa using q1, q2⟩
      · show (assignEach es X.env).length + 1 = es.length + 1
        rw [i3]
      · show ((false, _) :: assignEach es X.env).findIdx? (·.1) = none
        rw [List.findIdx?_cons, i4]; rfl
    | _ => exact bad h
theorem pg_tg {X : Cx} (nd : X.N.Nodup) (hc : X.calm = true) {sc : Scope} (hst : ∀ x, stoB sc x = true → Sto X x) {tg : List Nat} {one : Bool} {e : Expr} (h : tgOk X.N sc tg one e = true) : PG X e (TGr X.K tg one) := by
  unfold tgOk at h
  split at h
  · rename_i i x p
    obtain ⟨h1, h2⟩ := and_of h
    obtain ⟨hl, hf⟩ := hst x h2
    refine ⟨fun pins s σ H v u Q I r q => (pg_name (pos := p) nd (of_decide_eq_true h1) hl hf).run pins s σ H v u Q I r ?_⟩
    obtain ⟨j, e, q⟩ := (show ∃ j, [i] = [j] ∧ Q (σ.set j (some v)) H from by unfold TGr at q; rw [if_pos rfl] at q; exact q)
    cases e
    exact q
  · rename_i es k p
    obtain ⟨i1, i2, i3, i4⟩ := pgs_names nd hst h
    refine ⟨fun pins s σ H v u Q I r q => (pg_tup (n := es.length) hc i1 i3 i4).run pins s σ H v u Q I r ?_⟩
    unfold TGr at q
    rw [if_neg (by decide)] at q
    obtain ⟨a, xs, e, q1, q2, q3⟩ := q
    exact ⟨a, xs, e, q1, by rw [q2, i2], q2, q3⟩
  · exact bad h
theorem puts_ok : ∀ {tg : List Nat} {ds : List D} {vs : List V} {sV : L2.St} {s s' : Wi.St}, Abs c b g sV H s → RepL c.K g.F ds vs → puts tg ds s = .ok () s' → Abs c b g (setsV tg vs sV) H s' ∧ vs.length = tg.length
  | [], [], vs, sV, s, s', A, r, h => by
    cases h; cases r
    exact ⟨A, rfl⟩
  | [], _ :: _, _, _, _, _, _, _, h => by exact nomatch (show Res.err = Res.ok () _ from h)
  | _ :: _, [], _, _, _, _, _, _, h => by exact nomatch (show Res.err = Res.ok () _ from h)
  | i :: is, d :: ds, vs, sV, s, s', A, r, h => by
    obtain ⟨v, r', rfl, r1, r2⟩ := r
    obtain ⟨_, s1, h1, h2⟩ := bind_ok (show (Wi.put i (.v d) s).bind _ = _ from h)
    unfold Wi.put at h1
    split at h1
    · rename_i hi
      cases h1
      obtain ⟨q1, q2⟩ := puts_ok (A.put (RepR.ofRep r1) hi) r2 h2
      exact ⟨q1, by simp [q2]⟩
    · cases h1
theorem setTg_rd {tg : List Nat} {one : Bool} {d : D} {s' : Wi.St} {Q : L2.St → Hp → Prop} (A : Abs c b g sV H s) (hd : Rep c.K g.F d v) (h : setTg tg one d s = .ok () s') (q : ∀ σ', Abs c b g σ' H s' → (σ' = setsV tg [v] sV ∨ ∃ vs, σ' = setsV tg vs sV) → Q σ' H) : TGr c.K tg one v sV H Q := by
  unfold setTg at h
  unfold TGr
  split at h
  · rename_i ho
    rw [if_pos ho]
    split at h
    · rename_i i
      unfold Wi.put at h
      split at h
      · rename_i hi
        cases h
        exact ⟨i, rfl, q _ (A.put (RepR.ofRep hd) hi) (.inl rfl)⟩
      · cases h
    · cases h
  · rename_i ho
    rw [if_neg ho]
    split at h
    · rename_i ds
      obtain ⟨a, vs, rfl, t, r⟩ := hd
      obtain ⟨q1, q2⟩ := puts_ok A r h
      exact ⟨a, vs, rfl, A.sh.fh.sqT t, q2, q _ q1 (.inr ⟨vs, rfl⟩)⟩
    · cases h
end
/-! ### iterators -/
/-- J gives ds -/
def Walk (c : Cn) (g0 : G) (J : L2.It) (ds : List D) : Prop := ∀ b g σ H s, G.le g0 g → Abs c b g σ H s → ∀ i : Nat,
  (∀ d, ds[i]? = some d → J.go i H ∧ ∀ x H', J.yld i H x H' → ∃ g', G.le g g' ∧ Abs c b g' σ H' s ∧ Rep c.K g'.F d x) ∧ (ds[i]? = none → J.stop i H)
def TIr (c : Cn) (b : Bs) (W : WX) (Γ : Gam) (i : Wi.It) : TI := fun σ H R =>
  ∃ g s, Abs c b g σ H s ∧ RP c b W σ g (evIt Γ i s) (fun ds s' g' H' => ∀ J, Walk c g' J ds → R J H')
def iAny (K : PySem.W.Frag) (te : TE) : TI := fun σ H R => te σ H fun v H1 => (∃ a, v = .ref a ∧ (∃ xs, SqL K H1 a xs) ∧ R (Itl K a) H1) ∨ (∃ a, v = .ref a ∧ (∃ xs, SqT K H1 a xs) ∧ R (Itt K a) H1) ∨ ∃ x, v = .str x ∧ R (Its x) H1
theorem pi_any {X : Cx} {tg e : Expr} {te : TE} (he : PE X e te) : PI X tg e (iAny X.K te) := by
  refine ⟨fun pins s σ H R I h => ?_⟩
  refine thn (he.run pins s σ H _ I h) fun v s1 ⟨x, H1, I1, r1, q1⟩ => ?_
  rcases q1 with ⟨a, e, ⟨xs, hq⟩, q⟩ | ⟨a, e, ⟨xs, hq⟩, q⟩ | ⟨x, ex, q⟩
  · subst e
    cases r1
    obtain ⟨its, rv, p, hz⟩ := I1.list hq
    exact wpAny_pyIter_list p.isList (pi_one (tk := s1.toks) I1 _ (turn_list a _) ⟨_, Heap.get?_push_size _ rfl, rfl, rfl⟩ q)
  · subst e
    cases r1
    obtain ⟨its, rv, p, hz⟩ := I1.tuple hq
    exact wpAny_pyIter_tuple (show s1.heap.IsTuple a its.toArray from p) (pi_one (tk := s1.toks) I1 _ (turn_tuple a _) ⟨_, Heap.get?_push_size _ rfl, rfl, rfl⟩ q)
  · subst ex
    obtain ⟨t, rfl⟩ := r1
    cases ha : x.cps.all (· < 128)
    · exact wpAny_pyIter_wide ha (pi_one (tk := s1.toks) I1 _ (turn_str _ x t "str_iterator" (.inr rfl)) ⟨_, Heap.get?_push_size _ rfl, rfl, rfl⟩ q)
    · exact wpAny_pyIter_ascii ha (pi_one (tk := s1.toks) I1 _ (turn_str _ x t "str_ascii_iterator" (.inl rfl)) ⟨_, Heap.get?_push_size _ rfl, rfl, rfl⟩ q)
section
variable {c : Cn} {g : G} {K : PySem.W.Frag}
theorem RepL.none_len {K : PySem.W.Frag} {F : Hp} {ds : List D} {vs : List V} {i : Nat} (h : RepL K F ds vs) (e : ds[i]? = none) : vs.length ≤ i := by
  rw [← h.length]; exact List.getElem?_eq_none_iff.mp e
theorem walk_list {a : Addr} {vs : List V} {ds : List D} (hF : g.F a = some (.lst vs)) (hr : RepL c.K g.F ds vs) : Walk c g (Itl c.K a) ds := by
  intro b g1 σ H s le A i
  have hq : SqL c.K H a vs := SqL.of (A.sh.fh _ _ (le.f _ _ hF))
  refine ⟨fun d e => ?_, fun e => ⟨vs, hq, hr.none_len e⟩⟩
  obtain ⟨v, ev, rv⟩ := hr.get e
  refine ⟨⟨vs, v, hq, ev⟩, fun x H' y => ?_⟩
  obtain ⟨rfl, y⟩ := y
  have := y vs hq
  rw [ev] at this; cases this
  exact ⟨g1, G.le.refl _, A, Rep.mono le.f _ _ rv⟩
theorem walk_ro {a : Addr} {vs : List V} {ds : List D} (hF : SqL c.K g.F a vs) (hr : RepL c.K g.F ds vs) : Walk c g (Itl c.K a) ds := by
  intro b g1 σ H s le A i
  have hq : SqL c.K H a vs := (le.f.trans A.sh.fh).sqL hF
  refine ⟨fun d e => ?_, fun e => ⟨vs, hq, hr.none_len e⟩⟩
  obtain ⟨v, ev, rv⟩ := hr.get e
  refine ⟨⟨vs, v, hq, ev⟩, fun x H' y => ?_⟩
  obtain ⟨rfl, y⟩ := y
  have := y vs hq
  rw [ev] at this; cases this
  exact ⟨g1, G.le.refl _, A, Rep.mono le.f _ _ rv⟩
theorem walk_tup {a : Addr} {vs : List V} {ds : List D} (hF : SqT c.K g.F a vs) (hr : RepL c.K g.F ds vs) : Walk c g (Itt c.K a) ds := by
  intro b g1 σ H s le A i
  have hq : SqT c.K H a vs := (le.f.trans A.sh.fh).sqT hF
  refine ⟨fun d e => ?_, fun e => ⟨vs, hq, hr.none_len e⟩⟩
  obtain ⟨v, ev, rv⟩ := hr.get e
  refine ⟨⟨vs, v, hq, ev⟩, fun x H' y => ?_⟩
  obtain ⟨rfl, y⟩ := y
  have := y vs hq
  rw [ev] at this; cases this
  exact ⟨g1, G.le.refl _, A, Rep.mono le.f _ _ rv⟩
theorem walk_str {x : List Nat} (hx : okStr x) : Walk c g (Its (strV x)) (x.map fun c => .str [c]) := by
  intro b g1 σ H s le A i
  have sz : (strV x).cps.size = x.length := by show x.toArray.size = _; simp
  refine ⟨fun d e => ?_, fun e => ?_⟩
  · rw [List.getElem?_map] at e
    obtain ⟨k, ek, rfl⟩ := Option.map_eq_some_iff.mp e
    have hi : i < x.length := (List.getElem?_eq_some_iff.mp ek).1
    refine ⟨by show i < _; rw [sz]; exact hi, fun y H' q => ?_⟩
    obtain ⟨rfl, c', e2, rfl⟩ := q
    have e3 : (strV x).cps[i]? = x[i]? := by show x.toArray[i]? = _; simp
    rw [e3, ek] at e2; cases e2
    refine ⟨g1, G.le.refl _, A, rfl, by show 1 ≤ LIM; decide, fun c hc => ?_⟩
    rw [List.mem_singleton.mp hc]
    exact hx.2 _ (List.mem_of_getElem? ek)
  · show (strV x).cps.size ≤ i
    rw [sz]
    have := List.getElem?_eq_none_iff.mp e
    simpa using this
theorem rangeD_get : ∀ (n : Nat) (a : Int) (i : Nat), (rangeD a n)[i]? = if i < n then some (.int (a + i)) else none
  | 0, a, i => by simp [rangeD]
  | n + 1, a, 0 => by simp [rangeD]
  | n + 1, a, i + 1 => by
    show (rangeD (a + 1) n)[i]? = _
    rw [rangeD_get n (a + 1) i]
    by_cases h : i < n
    · rw [if_pos h, if_pos (by omega)]
      congr 2; omega
    · rw [if_neg h, if_neg (by omega)]
theorem walk_range {a : Int} {n : Nat} : Walk c g (Itr a n) (rangeD a n) := by
  intro b g1 σ H s le A i
  rw [rangeD_get]
  by_cases h : i < n
  · rw [if_pos h]
    refine ⟨fun d e => ?_, fun e => nomatch e⟩
    cases e
    refine ⟨h, fun x H' y => ?_⟩
    obtain ⟨rfl, rfl⟩ := y
    exact ⟨g1, G.le.refl _, A, rfl⟩
  · rw [if_neg h]
    exact ⟨fun d e => (nomatch e), fun _ => Nat.le_of_not_lt h⟩
theorem stepD_get : ∀ (n : Nat) (a k : Int) (i : Nat), (stepD a k n)[i]? = if i < n then some (.int (a + (i : Nat) * k)) else none
  | 0, a, k, i => by simp [stepD]
  | n + 1, a, k, 0 => by simp [stepD]
  | n + 1, a, k, i + 1 => by
    show (stepD (a + k) k n)[i]? = _
    rw [stepD_get n (a + k) k i]
    by_cases h : i < n
    · rw [if_pos h, if_pos (by omega)]
      congr 2
      rw [show ((i + 1 : Nat) : Int) = (i : Int) + 1 from rfl, Int.add_mul]
      omega
    · rw [if_neg h, if_neg (by omega)]
theorem walk_step {a k : Int} {n : Nat} : Walk c g (Itc a k n) (stepD a k n) := by
  intro b g1 σ H s le A i
  rw [stepD_get]
  by_cases h : i < n
  · rw [if_pos h]
    refine ⟨fun d e => ?_, fun e => nomatch e⟩
    cases e
    refine ⟨h, fun x H' y => ?_⟩
    obtain ⟨rfl, rfl⟩ := y
    exact ⟨g1, G.le.refl _, A, rfl⟩
  · rw [if_neg h]
    exact ⟨fun d e => (nomatch e), fun _ => Nat.le_of_not_lt h⟩
theorem enumD_get : ∀ (ds : List D) (n i : Nat), (enumD n ds)[i]? = (ds[i]?).map fun d => .tup [.int ((n + i : Nat) : Int), d]
  | [], n, i => by simp [enumD]
  | d :: ds, n, 0 => by simp [enumD]
  | d :: ds, n, i + 1 => by
    show (enumD (n + 1) ds)[i]? = _
    rw [enumD_get ds (n + 1) i]
    have : n + 1 + i = n + (i + 1) := by omega
    rw [this]; simp
/-- a pair just laid -/
theorem pair_new {b : Bs} {g1 : G} {σ : L2.St} {H : Hp} {s : Wi.St} {T : Addr} {x y : V} {dx dy : D} (A : Abs c b g1 σ H s) (hT : H T = none) (rx : Rep c.K g1.F dx x) (ry : Rep c.K g1.F dy y) :
    ∃ g', G.le g1 g' ∧ Abs c b g' σ (upd H T (.tup [x, y])) s ∧ Rep c.K g'.F (.tup [dx, dy]) (.ref T) := by
  have le := G.le.grow (o := .tup [x, y]) A hT
  exact ⟨_, le, A.grow hT, T, [x, y], rfl, .inl (.inl upd_same), x, [y], rfl, Rep.mono le.f _ _ rx, y, [], rfl, Rep.mono le.f _ _ ry, rfl⟩
theorem walk_enum {a : Addr} {vs : List V} {ds : List D} (hF : g.F a = some (.lst vs)) (hr : RepL c.K g.F ds vs) : Walk c g (Ite c.K a) (enumD 0 ds) := by
  intro b g1 σ H s le A i
  have hq : SqL c.K H a vs := SqL.of (A.sh.fh _ _ (le.f _ _ hF))
  rw [enumD_get]
  refine ⟨fun d e => ?_, fun e => ?_⟩
  · obtain ⟨d', e', rfl⟩ := Option.map_eq_some_iff.mp e
    obtain ⟨v, ev, rv⟩ := hr.get e'
    refine ⟨⟨vs, v, hq, ev⟩, fun x H' y => ?_⟩
    obtain ⟨T, z, rfl, hT, rfl, y⟩ := y
    have := y vs hq
    rw [ev] at this; cases this
    rw [Nat.zero_add]
    exact pair_new A hT (show Rep c.K g1.F (.int (i : Int)) (.int (i : Nat)) from rfl) (Rep.mono le.f _ _ rv)
  · have : ds[i]? = none := by simpa using e
    exact ⟨vs, hq, hr.none_len this⟩
theorem zipD_get : ∀ (as bs : List D) (i : Nat), (zipD as bs)[i]? = match as[i]?, bs[i]? with | some a, some b => some (.tup [a, b]) | _, _ => none
  | [], bs, i => by simp [zipD]
  | a :: as, [], i => by
    simp only [zipD, List.getElem?_nil]
    split
    · rename_i h; cases h
    · rfl
  | a :: as, b :: bs, 0 => by simp [zipD]
  | a :: as, b :: bs, i + 1 => by
    show (zipD as bs)[i]? = _
    rw [zipD_get as bs i]
    simp
theorem walk_zipL {a a' : Addr} {vs ws : List V} {ds es : List D} (hF : g.F a = some (.lst vs)) (hr : RepL c.K g.F ds vs) (hF' : g.F a' = some (.lst ws)) (hr' : RepL c.K g.F es ws) : Walk c g (Itz c.K a a') (zipD ds es) := by
  intro b g1 σ H s le A i
  have hq : SqL c.K H a vs := SqL.of (A.sh.fh _ _ (le.f _ _ hF))
  have hq' : SqL c.K H a' ws := SqL.of (A.sh.fh _ _ (le.f _ _ hF'))
  rw [zipD_get]
  cases e1 : ds[i]? with
  | none => exact ⟨fun d e => (nomatch e), fun _ => ⟨vs, ws, hq, hq', .inl (hr.none_len e1)⟩⟩
  | some d1 =>
    cases e2 : es[i]? with
    | none => exact ⟨fun d e => (nomatch e), fun _ => ⟨vs, ws, hq, hq', .inr (hr'.none_len e2)⟩⟩
    | some d2 =>
      refine ⟨fun d e => ?_, fun e => nomatch e⟩
      cases e
      obtain ⟨v, ev, rv⟩ := hr.get e1
      obtain ⟨w, ew, rw'⟩ := hr'.get e2
      refine ⟨⟨vs, ws, v, w, hq, hq', ev, ew⟩, fun x H' y => ?_⟩
      obtain ⟨T, z, z', rfl, hT, rfl, y, y'⟩ := y
      have := y vs hq
      rw [ev] at this; cases this
      have := y' ws hq'
      rw [ew] at this; cases this
      exact pair_new A hT (Rep.mono le.f _ _ rv) (Rep.mono le.f _ _ rw')
theorem walk_zipT {a a' : Addr} {vs ws : List V} {ds es : List D} (hF : SqT c.K g.F a vs) (hr : RepL c.K g.F ds vs) (hF' : SqT c.K g.F a' ws) (hr' : RepL c.K g.F es ws) : Walk c g (RZ.ItzT c.K a a') (zipD ds es) := by
  intro b g1 σ H s le A i
  have hq : SqT c.K H a vs := (le.f.trans A.sh.fh).sqT hF
  have hq' : SqT c.K H a' ws := (le.f.trans A.sh.fh).sqT hF'
  rw [zipD_get]
  cases e1 : ds[i]? with
  | none => exact ⟨fun d e => (nomatch e), fun _ => ⟨vs, ws, hq, hq', .inl (hr.none_len e1)⟩⟩
  | some d1 =>
    cases e2 : es[i]? with
    | none => exact ⟨fun d e => (nomatch e), fun _ => ⟨vs, ws, hq, hq', .inr (hr'.none_len e2)⟩⟩
    | some d2 =>
      refine ⟨fun d e => ?_, fun e => nomatch e⟩
      cases e
      obtain ⟨v, ev, rv⟩ := hr.get e1
      obtain ⟨w, ew, rw'⟩ := hr'.get e2
      refine ⟨⟨vs, ws, v, w, hq, hq', ev, ew⟩, fun x H' y => ?_⟩
      obtain ⟨T, z, z', rfl, hT, rfl, y, y'⟩ := y
      have := y vs hq
      rw [ev] at this; cases this
      have := y' ws hq'
      rw [ew] at this; cases this
      exact pair_new A hT (Rep.mono le.f _ _ rv) (Rep.mono le.f _ _ rw')
end
section
variable {c : Cn} {ck : CK} {b : Bs} {Γ : Gam} {lv : Nat} {W : WX} {X : Cx} {tg : Expr}
theorem cvI {e : Expr} {t t' : TI} (h : PI X tg e t) (f : ∀ σ H R, t' σ H R → t σ H R) : PI X tg e t' := ⟨fun pins s σ H R I q => h.run pins s σ H R I (f _ _ _ q)⟩
theorem pi_val (S : SC c ck Γ lv W X) {e : Expr} {i : E} (h : PE X e (TEr c b W Γ i)) : PI X tg e (TIr c b W Γ (.val i)) := by
  refine cvI (pi_any (pe_f h)) fun σ H R q => ?_
  obtain ⟨g, s, A, q⟩ := q
  refine TEf.imp (one_rd A q) fun v H1 ⟨g, s, x, A1, hx, nx, q⟩ => ?_
  obtain ⟨ds, ed, q⟩ := RP.ofOpt q
  have q9 := q g H1 (G.le.refl g) A1
  rw [S.K]
  unfold itD at ed
  split at ed
  · cases ed
    obtain ⟨a, vs, rfl, t, r⟩ := hx
    exact .inr (.inl ⟨a, rfl, ⟨vs, A1.sh.fh.sqT t⟩, q9 _ (walk_tup t r)⟩)
  · cases ed
    obtain ⟨a, vs, rfl, t, r⟩ := hx
    exact .inl ⟨a, rfl, ⟨vs, SqL.of (A1.sh.fh _ _ t)⟩, q9 _ (walk_list t r)⟩
  · cases ed
    obtain ⟨rfl, ok⟩ := hx
    exact .inr (.inr ⟨_, rfl, q9 _ (walk_str ok)⟩)
  · cases ed
theorem okI_of {i : Int} (h : okI i = true) : -(2 ^ 62) ≤ i ∧ i < 2 ^ 62 := by
  unfold okI at h
  obtain ⟨h1, h2⟩ := and_of h
  have h1 := of_decide_eq_true h1
  have h2 := of_decide_eq_true h2
  omega
theorem okI_of' {i : Int} (h : okI i = true) : -1000000 < i ∧ i < 1000000 := by
  unfold okI at h
  obtain ⟨h1, h2⟩ := and_of h
  exact ⟨of_decide_eq_true h1, of_decide_eq_true h2⟩
theorem pi_range1I (S : SC c ck Γ lv W X) {x : Str} {p pos : Pos} {e : Expr} {i : E} (hg : globB X.env.scope x = true) (hx : x = ("range" : Str)) (ho : odd e = false) (h : PE X e (TEr c b W Γ i)) : PI X tg (.Call (.Name x p) [e] [] pos) (TIr c b W Γ (.range1 i)) := by
  subst hx
  obtain ⟨g1, hd, hn⟩ := gl_of hg
  refine cvI (pi_range1 g1 (S.blt _ (by decide +kernel)) (pa_cons (pe_f h) pa_nil (star_cons ho)) (star_cons ho)) fun σ H R q => ?_
  obtain ⟨g, s, A, q⟩ := q
  refine TEf.imp (one_rd A q) fun v H1 ⟨g, s, x, A1, hx, nx, q⟩ => ?_
  split at q
  · rename_i j
    split at q
    · rename_i hj
      cases hx
      obtain ⟨j1, j2⟩ := okI_of hj
      exact ⟨j, rfl, j1, j2, q g H1 (G.le.refl g) A1 _ walk_range⟩
    · exact False.elim q
  · exact False.elim q
theorem pi_range2I (S : SC c ck Γ lv W X) {x : Str} {p pos : Pos} {e e2 : Expr} {i i2 : E} (hg : globB X.env.scope x = true) (hx : x = ("range" : Str)) (ho : odd e = false) (ho2 : odd e2 = false) (h : PE X e (TEr c b W Γ i)) (h2 : PE X e2 (TEr c b W Γ i2)) : PI X tg (.Call (.Name x p) [e, e2] [] pos) (TIr c b W Γ (.range2 i i2)) := by
  subst hx
  obtain ⟨g1, hd, hn⟩ := gl_of hg
  refine cvI (pi_range2 g1 (S.blt _ (by decide +kernel)) (pa_cons (pe_f h) (pa_cons (pe_f h2) pa_nil (star_cons ho2)) (star_cons ho)) (by rw [star_cons ho, star_cons ho2]; rfl) (star_cons ho2)) fun σ H R q => ?_
  obtain ⟨g, s, A, q⟩ := q
  refine TEf.imp (two_rd A q) fun v H1 q => TEf.imp q fun u H2 ⟨g, s, x, y, A2, hx, hy, _, _, q8⟩ => ?_
  clear q
  split at q8
  · rename_i ii jj
    split at q8
    · rename_i hj
      cases hx; cases hy
      obtain ⟨i1, i2⟩ := okI_of hj.1
      obtain ⟨j1, j2⟩ := okI_of hj.2
      exact ⟨_, _, rfl, ⟨i1, i2, j1, j2⟩, q8 g H2 (G.le.refl g) A2 _ walk_range⟩
    · exact False.elim q8
  · exact False.elim q8
theorem pi_range3I (S : SC c ck Γ lv W X) {x : Str} {p pos : Pos} {e e2 e3 : Expr} {i i2 i3 : E} (hg : globB X.env.scope x = true) (hx : x = ("range" : Str)) (ho : odd e = false) (ho2 : odd e2 = false) (ho3 : odd e3 = false) (h : PE X e (TEr c b W Γ i)) (h2 : PE X e2 (TEr c b W Γ i2)) (h3 : PE X e3 (TEr c b W Γ i3)) : PI X tg (.Call (.Name x p) [e, e2, e3] [] pos) (TIr c b W Γ (.range3 i i2 i3)) := by
  subst hx
  obtain ⟨g1, hd, hn⟩ := gl_of hg
  refine cvI (pi_range3 g1 (S.blt _ (by decide +kernel)) (pa_cons (pe_f h) (pa_cons (pe_f h2) (pa_cons (pe_f h3) pa_nil (star_cons ho3)) (star_cons ho2)) (star_cons ho)) (star_cons ho) (by rw [star_cons ho2, star_cons ho3]; rfl)) fun σ H R q => ?_
  obtain ⟨g, s, A, q⟩ := q
  refine TEf.imp (three_rd A q) fun v H1 q => TEf.imp q fun u H2 q => TEf.imp q fun w H3 ⟨g, s, x, y, z, A3, hx, hy, hz, q8⟩ => ?_
  clear q
  split at q8
  · rename_i ii jj kk
    split at q8
    · rename_i hj
      cases hx; cases hy; cases hz
      obtain ⟨hj, j5⟩ := and_of hj
      obtain ⟨hj, j4⟩ := and_of hj
      obtain ⟨hj, j3⟩ := and_of hj
      obtain ⟨j1, j2⟩ := and_of hj
      have k0 : kk ≠ 0 := by simpa using j4
      have k1 := okI_of' j3
      refine ⟨ii, jj, kk, (PySem.Builtin.Range.rangeSize ii jj kk).toNat, rfl, ⟨k0, by omega, j5, ?_⟩, q8 g H3 (G.le.refl g) A3 _ walk_step⟩
      rw [Int.toNat_of_nonneg]
      unfold PySem.Builtin.Range.rangeSize
      split
      · split
        · have := Int.ediv_nonneg (show 0 ≤ jj - ii - 1 by omega) (show 0 ≤ kk by omega)
          omega
        · omega
      · split
        · have := Int.ediv_nonneg (show 0 ≤ ii - jj - 1 by omega) (show 0 ≤ -kk by omega)
          omega
        · omega
    · exact False.elim q8
  · exact False.elim q8
theorem pi_enumI (S : SC c ck Γ lv W X) {x : Str} {p pos tp : Pos} {elts : List Expr} {kk : Nat} {e : Expr} {i : E} (hg : globB X.env.scope x = true) (hx : x = ("enumerate" : Str)) (ho : odd e = false) (h : PE X e (TEr c b W Γ i)) : PI X (.Tuple elts kk tp) (.Call (.Name x p) [e] [] pos) (TIr c b W Γ (.enum i)) := by
  subst hx
  obtain ⟨g1, hd, hn⟩ := gl_of hg
  refine cvI (pi_enum g1 (S.blt _ (by decide +kernel)) (pa_cons (pe_f h) pa_nil (star_cons ho)) (star_cons ho)) fun σ H R q => ?_
  obtain ⟨g, s, A, q⟩ := q
  refine TEf.imp (one_rd A q) fun v H1 ⟨g, s, x, A1, hx, nx, q⟩ => ?_
  split at q
  · obtain ⟨a, vs, rfl, t, r⟩ := hx
    refine ⟨a, vs, rfl, SqL.of (A1.sh.fh _ _ t), ?_⟩
    rw [S.K]
    exact q g H1 (G.le.refl g) A1 _ (walk_enum t r)
  · exact False.elim q
theorem pi_zipI (S : SC c ck Γ lv W X) {x : Str} {p pos tp : Pos} {elts : List Expr} {kk : Nat} {e e2 : Expr} {i i2 : E} (hg : globB X.env.scope x = true) (hx : x = ("zip" : Str)) (ho : odd e = false) (ho2 : odd e2 = false) (h : PE X e (TEr c b W Γ i)) (h2 : PE X e2 (TEr c b W Γ i2)) : PI X (.Tuple elts kk tp) (.Call (.Name x p) [e, e2] [] pos) (TIr c b W Γ (.zip i i2)) := by
  subst hx
  obtain ⟨g1, hd, hn⟩ := gl_of hg
  refine cvI (RZ.pi_zipA g1 (S.blt _ (by decide +kernel)) (pa_cons (pe_f h) (pa_cons (pe_f h2) pa_nil (star_cons ho2)) (star_cons ho)) (star_cons ho) (backTo_plain fun y hy => by rw [List.mem_singleton.mp hy]; exact ho2)) fun σ H R q => ?_
  obtain ⟨g, s, A, q⟩ := q
  refine TEf.imp (two_rd A q) fun v H1 q => TEf.imp q fun u H2 ⟨g, s, x, y, A2, hx, hy, _, _, q8⟩ => ?_
  rw [S.K]
  split at q8
  · obtain ⟨a, vs, rfl, t, r⟩ := hx
    obtain ⟨a', ws, rfl, t', r'⟩ := hy
    exact ⟨a, a', vs, ws, rfl, .inl ⟨SqL.of (A2.sh.fh _ _ t), SqL.of (A2.sh.fh _ _ t'), q8 g H2 (G.le.refl g) A2 _ (walk_zipL t r t' r')⟩⟩
  · obtain ⟨a, vs, rfl, t, r⟩ := hx
    obtain ⟨a', ws, rfl, t', r'⟩ := hy
    exact ⟨a, a', vs, ws, rfl, .inr ⟨A2.sh.fh.sqT t, A2.sh.fh.sqT t', q8 g H2 (G.le.refl g) A2 _ (walk_zipT t r t' r')⟩⟩
  · exact False.elim q8
end
end Wi

/-! Soundness 10: isinstance, list comprehensions. -/
namespace Wi
open PySem PySem.Spec PyProof.Rows L2
section
variable {c : Cn} {ck : CK} {b : Bs} {Γ : Gam} {lv : Nat} {W : WX} {X : Cx} {tg : Expr}
def tyV : Ty → String
  | .int => "int" | .bool => "bool" | .str => "str" | .tuple => "tuple" | .list => "list" | _ => "object"
theorem kit_eq (K : PySem.W.Frag) (t : Ty) (h : (tyN t).isSome = true) : 
    PySem.W.kitOne K (.type "NoneType") (.type (tyV t)) = some false ∧
    PySem.W.kitOne K (.type "bool") (.type (tyV t)) = some (match t with | .int => true | .bool => true | _ => false) ∧
    PySem.W.kitOne K (.type "int") (.type (tyV t)) = some (match t with | .int => true | _ => false) ∧
    PySem.W.kitOne K (.type "str") (.type (tyV t)) = some (match t with | .str => true | _ => false) ∧
    PySem.W.kitOne K (.type "tuple") (.type (tyV t)) = some (match t with | .tuple => true | _ => false) ∧
    PySem.W.kitOne K (.type "list") (.type (tyV t)) = some (match t with | .list => true | _ => false) := by
  cases t <;> first | (cases h; done) | exact ⟨rfl, rfl, rfl, rfl, rfl, rfl⟩
theorem tyX_tup {K : PySem.W.Frag} {H : Hp} {a : Addr} {xs : List V} (h : SqT K H a xs) : TyX K H (.ref a) (.type "tuple") := by
  rcases h with (h | ⟨o, h⟩) | ⟨o, its, n, h1, h2, _⟩
  · exact .base (.tup h)
  · exact .fTuple h
  · exact .kTuple h1 h2
theorem isin_ok {K : PySem.W.Frag} {F H : Hp} {d : D} {v : V} {t : Ty} {k : Bool} (hF : Sub F H) (ht : (tyN t).isSome = true) (hd : Rep K F d v) (e : tyD t (.v d) = some k) : ∃ ty, TyX K H v ty ∧ PySem.W.kitOne K ty (.type (tyV t)) = some k := by
  obtain ⟨k1, k2, k3, k4, k5, k6⟩ := kit_eq K t ht
  cases d with
  | non =>
    cases hd
    refine ⟨_, .base .non, ?_⟩
    rw [k1, ← e]; cases t <;> first | rfl | cases ht
  | bl x =>
    cases hd
    refine ⟨_, .base (.bl _), ?_⟩
    rw [k2, ← e]; cases t <;> first | rfl | cases ht
  | int i =>
    cases hd
    refine ⟨_, .base (.int _), ?_⟩
    rw [k3, ← e]; cases t <;> first | rfl | cases ht
  | str x =>
    obtain ⟨rfl, _⟩ := hd
    refine ⟨_, .base (.str _), ?_⟩
    rw [k4, ← e]; cases t <;> first | rfl | cases ht
  | tup ds =>
    obtain ⟨a, vs, rfl, q, _⟩ := hd
    refine ⟨_, tyX_tup (hF.sqT q), ?_⟩
    rw [k5, ← e]; cases t <;> first | rfl | cases ht
  | lst ds =>
    obtain ⟨a, vs, rfl, q, _⟩ := hd
    refine ⟨_, .base (.lst (hF _ _ q)), ?_⟩
    rw [k6, ← e]; cases t <;> first | rfl | cases ht
theorem tyN_blt {t : Ty} {x : Str} (h : tyN t = some x) : x ∈ bltNames ∧ bootBuiltins x = some (.type (tyV t)) ∧ x ≠ ("__name__" : Str) ∧ (x == ("__debug__" : Str)) = false := by
  cases t <;> first | (cases h; done) | (cases h; decide +kernel)
/-- isinstance of the exception in hand -/
theorem call_isEc (S : SC c ck Γ lv W X) (hh : ck.hot = true) : CallR X (.builtin "isinstance") (rIsE X.K (c.ca c.xk) c.xa) := by
  obtain ⟨⟨oe, hp, hz, vs, hv⟩, C, _, _⟩ := S.hotx hh
  intro pins s σ H xs us Q I r h
  obtain ⟨cv, u, b, rfl, hcv, e, q⟩ := h
  obtain ⟨u1, u2, rfl, r1, r2⟩ := vals2 r
  cases r1
  have eu := hcv _ r2
  subst eu
  have hget := (I.pin (c.xa, oe) (List.mem_append_left _ hp)).1
  have J : PySem.W.InstAt s.heap c.xa oe (c.ca c.xk) none := by
    obtain ⟨oc, od, oda, osl⟩ := oe
    obtain ⟨h1, h2, _⟩ := hz
    dsimp only at h1 h2 hv
    subst h1 h2 hv
    exact ⟨hget, rfl, rfl, trivial⟩
  refine PySem.W.kia_one (PySem.W.handS_kitx_exc (ox := oe) (x := c.xa)
    C.hg C.hk C.hs C.hd C.ha C.hn C.ht C.hm) I.kIn J e ?_ ?_
  · exact fun z => nomatch z
  · exact fun tk => ⟨V.bl b, H, I.kept (t' := tk) fun _ _ z => z, rfl, q⟩
theorem pe_isinE (S : SC c ck Γ lv W X) (hh : ck.hot = true) {x : Str} {p pos : Pos} {e t : Expr} {a : E} {ty : Ty} {cv : V} {cu : Value} (hg : globB X.env.scope x = true) (hx : x = ("isinstance" : Str)) (ho : odd e = false) (ha : PE X e (TEr c b W Γ a)) (hot : odd t = false)
    (ht : PE X t (tC cv)) (hcv : ∀ u, RelV cv u → u = cu) (hty : ∀ d, tyD ty (.v d) = none) (hk : ∀ k, tyD ty (.exc c.xk) = some k → PySem.W.kitOne X.K (.ref (c.ca c.xk)) cu = some k) : PE X (.Call (.Name x p) [e, t] [] pos) (TEr c b W Γ (.isin a [ty])) := by
  subst hx
  obtain ⟨g1, hd, hn⟩ := gl_of hg
  refine cvE (pe_callB (call_isEc S hh) g1 (S.blt _ (by decide +kernel)) (by decide +kernel) (pa_cons (pe_f ha) (pa_cons ht pa_nil (star_cons hot)) (star_cons ho)) hn hd (star_cons ho) (backTo_plain fun y hy => by rw [List.mem_singleton.mp hy]; exact hot)) fun σ H Q q => ?_
  obtain ⟨g, s, A, q⟩ := q
  refine TEf.imp (one_rd A q) fun v H1 ⟨g, s, x, A1, hx, nx, q8⟩ => ?_
  obtain ⟨k, ek, q9⟩ := RP.bool q8
  have ek' : (tyD ty x).bind (fun b => if b then some true else tysD [] x) = some k := ek
  obtain ⟨k1, e1, e2⟩ := Option.bind_eq_some_iff.mp ek'
  have : k1 = k := by
    cases k1
    · exact Option.some.inj e2
    · exact Option.some.inj e2
  subst this
  cases x with
  | v d => rw [hty] at e1; cases e1
  | exc j =>
    obtain ⟨rfl, rfl⟩ := hx
    exact ⟨cv, cu, k1, rfl, hcv, hk _ e1, bool_out A1 q9⟩
  | _ => exact nomatch e1
theorem pe_isinI (S : SC c ck Γ lv W X) {x : Str} {p pos : Pos} {e t : Expr} {a : E} {ts : List Ty} (hg : globB X.env.scope x = true) (hx : x = ("isinstance" : Str)) (ho : odd e = false) (ht : tysOk ck X.env.scope ts t = true) (ha : PE X e (TEr c b W Γ a)) :
    PE X (.Call (.Name x p) [e, t] [] pos) (TEr c b W Γ (.isin a ts)) := by
  unfold tysOk at ht
  split at ht
  · rename_i j y p2
    obtain ⟨t1, t2⟩ := and_of ht
    obtain ⟨t2, t3⟩ := and_of t2
    obtain ⟨g2, hd2, hn2⟩ := gl_of t1
    refine pe_isinE S t2 hg hx ho ha rfl (pe_glob (v := .ref (c.ca j)) g2 (S.exs y j (of_decide_eq_true t3)).1 rfl hd2) (fun u h => h) (fun d => rfl) fun k hk => ?_
    have hk : (if j = 0 then none else some (c.xk == j)) = some k := hk
    split at hk
    · cases hk
    · rename_i hj
      cases hk
      exact (S.hotx t2).2.2.2 y j (of_decide_eq_true t3) hj
  · rename_i y p2
    obtain ⟨t1, t2⟩ := and_of ht
    obtain ⟨hh2, t3⟩ := and_of t2
    obtain ⟨g2, hd2, hn2⟩ := gl_of t1
    have t3 := of_decide_eq_true t3
    subst t3
    refine pe_isinE S hh2 hg hx ho ha rfl (pe_bltn (v := .ty "ValueError") g2 (S.blt _ (by decide +kernel)) (by decide +kernel) rfl hn2 hd2) (fun u h => h) (fun d => rfl) fun k hk => ?_
    cases hk
    exact (S.hotx hh2).2.2.1
  · rename_i ty y p2 _ _
    subst hx
    obtain ⟨g1, hd, hn⟩ := gl_of hg
    obtain ⟨t1, t2⟩ := and_of ht
    have t2 := of_decide_eq_true t2
    obtain ⟨g2, hd2, hn2⟩ := gl_of t1
    obtain ⟨b1, b2, b3, b4⟩ := tyN_blt t2
    refine cvE (pe_callB call_isi g1 (S.blt _ (by decide +kernel)) (by decide +kernel) (pa_cons (pe_f ha) (pa_cons (pe_bltn (v := .ty (tyV ty)) g2 (S.blt _ b1) b2 rfl b3 b4) pa_nil (star_cons rfl)) (star_cons ho)) hn hd (star_cons ho) (backTo_plain fun y hy => by rw [List.mem_singleton.mp hy]; rfl)) fun σ H Q q => ?_
    obtain ⟨g, s, A, q⟩ := q
    refine TEf.imp (one_rd A q) fun v H1 ⟨g, s, x, A1, hx, nx, q8⟩ => ?_
    obtain ⟨k, ek, q9⟩ := RP.bool q8
    have ek' : (tyD ty x).bind (fun b => if b then some true else tysD [] x) = some k := ek
    obtain ⟨k1, e1, e2⟩ := Option.bind_eq_some_iff.mp ek'
    have : k1 = k := by
      cases k1
      · exact Option.some.inj e2
      · exact Option.some.inj e2
    subst this
    rw [S.K]
    cases x with
    | v d =>
      obtain ⟨tv, h1, h2⟩ := isin_ok A1.sh.fh (by rw [t2]; rfl) hx e1
      exact ⟨v, .ty (tyV ty), tv, _, k1, rfl, .ty _, h1, h2, bool_out A1 q9⟩
    | exc j => cases ty <;> first | (cases e1; done) | (cases t2; done)
    | _ => exact nomatch e1
  · exact bad ht
end
/-! ### list comprehensions -/
section
variable {c : Cn} {b : Bs} {g g' : G} {σ : L2.St} {H H' : Hp} {s : Wi.St}
theorem Abs.slots {σ' : L2.St} {s' : Wi.St} (A : Abs c b g σ H s) (hl : σ'.length = σ.length) (hl' : s'.sl.length = s.sl.length) (hs : s'.sh = s.sh) (h : ∀ (i : Nat) (r : Rv), s'.sl[i]? = some (some r) → s.sl[i]? = some (some r) ∧ σ'[i]? = σ[i]?) : Abs c b g σ' H s' := by
  refine ⟨by rw [hs]; exact A.sh, by rw [hl, hl', A.len], fun i r e => ?_, fun i j hij hi hj => ?_, A.le, A.keep, A.fnew, A.anew⟩
  · obtain ⟨h1, h2⟩ := h i r e
    obtain ⟨v, e2, q⟩ := A.val i r h1
    exact ⟨v, by rw [h2]; exact e2, q⟩
  · obtain ⟨r1, e1, o1⟩ := ownAt_isOwn.mp hi
    obtain ⟨r2, e2, o2⟩ := ownAt_isOwn.mp hj
    obtain ⟨f1, q1⟩ := h i r1 e1
    obtain ⟨f2, q2⟩ := h j r2 e2
    rw [q1, q2]
    exact A.sep i j hij (ownAt_isOwn.mpr ⟨r1, f1, o1⟩) (ownAt_isOwn.mpr ⟨r2, f2, o2⟩)
theorem lwipe_out {i : Nat} : ∀ {vs : List Nat}, i ∉ vs → (L2.wipe σ vs)[i]? = σ[i]?
  | [], _ => rfl
  | v :: vs, h => by
    obtain ⟨h1, h2⟩ := not_or.mp (fun z => h (List.mem_cons.mpr z))
    show ((L2.wipe σ vs).set v none)[i]? = _
    rw [List.getElem?_set_ne (fun z => h1 z.symm), lwipe_out h2]
def wipeL (vs : List Nat) (sl : List (Option Rv)) : List (Option Rv) := vs.foldr (fun i sl => sl.set i none) sl
theorem wipeL_len (sl : List (Option Rv)) : ∀ vs : List Nat, (wipeL vs sl).length = sl.length
  | [] => rfl
  | v :: vs => by
    show ((wipeL vs sl).set v none).length = _
    rw [List.length_set, wipeL_len sl vs]
theorem wipeL_some {sl : List (Option Rv)} {i : Nat} {r : Rv} : ∀ {vs : List Nat}, (wipeL vs sl)[i]? = some (some r) → sl[i]? = some (some r) ∧ i ∉ vs
  | [], h => ⟨h, by simp⟩
  | v :: vs, h => by
    have h : ((wipeL vs sl).set v none)[i]? = some (some r) := h
    by_cases hi : v = i
    · subst hi
      by_cases hv : v < (wipeL vs sl).length
      · rw [List.getElem?_set_self hv] at h; cases h
      · rw [List.getElem?_eq_none (by simpa using hv)] at h; cases h
    · rw [List.getElem?_set_ne hi] at h
      obtain ⟨h1, h2⟩ := wipeL_some h
      exact ⟨h1, by simp only [List.mem_cons, not_or]; exact ⟨fun e => hi e.symm, h2⟩⟩
theorem wipeL_out {sl : List (Option Rv)} {i : Nat} : ∀ {vs : List Nat}, i ∉ vs → (wipeL vs sl)[i]? = sl[i]?
  | [], _ => rfl
  | v :: vs, h => by
    obtain ⟨h1, h2⟩ := not_or.mp (fun z => h (List.mem_cons.mpr z))
    show ((wipeL vs sl).set v none)[i]? = _
    rw [List.getElem?_set_ne (fun z => h1 z.symm), wipeL_out h2]
theorem Abs.wipe (A : Abs c b g σ H s) (vs : List Nat) : Abs c b g (L2.wipe σ vs) H (Wi.wipe vs s) := by
  refine A.slots (L2.wipe_length σ vs) (wipeL_len s.sl vs) rfl fun i r e => ?_
  obtain ⟨h1, h2⟩ := wipeL_some (show (wipeL vs s.sl)[i]? = some (some r) from e)
  exact ⟨h1, lwipe_out h2⟩
def backL (vs : List Nat) (sl0 sl : List (Option Rv)) : List (Option Rv) := vs.foldr (fun i sl => sl.set i (sl0[i]?.getD none)) sl
theorem backL_len (sl0 sl : List (Option Rv)) : ∀ vs : List Nat, (backL vs sl0 sl).length = sl.length
  | [] => rfl
  | v :: vs => by
    show ((backL vs sl0 sl).set v _).length = _
    rw [List.length_set, backL_len sl0 sl vs]
theorem backL_some {sl0 sl : List (Option Rv)} {i : Nat} {r : Rv} : ∀ {vs : List Nat}, (backL vs sl0 sl)[i]? = some (some r) → (i ∈ vs ∧ sl0[i]? = some (some r)) ∨ (i ∉ vs ∧ sl[i]? = some (some r))
  | [], h => .inr ⟨by simp, h⟩
  | v :: vs, h => by
    have h : ((backL vs sl0 sl).set v (sl0[v]?.getD none))[i]? = some (some r) := h
    by_cases hi : v = i
    · subst hi
      by_cases hv : v < (backL vs sl0 sl).length
      · rw [List.getElem?_set_self hv] at h
        refine .inl ⟨by simp, ?_⟩
        cases e : sl0[v]? with
        | none => rw [e] at h; cases h
        | some z => rw [e] at h; cases h; rfl
      · rw [List.getElem?_eq_none (by simpa using hv)] at h; cases h
    · rw [List.getElem?_set_ne hi] at h
      rcases backL_some h with ⟨h1, h2⟩ | ⟨h1, h2⟩
      · exact .inl ⟨List.mem_cons_of_mem _ h1, h2⟩
      · exact .inr ⟨by simp only [List.mem_cons, not_or]; exact ⟨fun e => hi e.symm, h1⟩, h2⟩
/-- behind a comprehension -/
theorem Abs.back {g1 : G} {H1 : Hp} {s0 s' : Wi.St} {vs : List Nat} (A0 : Abs c b g1 σ H1 s0) (le : G.le g1 g) (hn : vs.any (ownAt s0.sl) = false) (A : Abs c b g (L2.wipe σ vs) H (Wi.wipe vs s')) : Abs c b g σ H (Wi.back vs s0 s') := by
  have no : ∀ i ∈ vs, ownAt s0.sl i = false := fun i hi => by simpa using List.any_eq_false.mp hn i hi
  have own : ∀ i, ownAt (Wi.back vs s0 s').sl i = true → i ∉ vs ∧ ownAt (Wi.wipe vs s').sl i = true := fun i hi => by
    obtain ⟨r, e, o⟩ := ownAt_isOwn.mp hi
    rcases backL_some (show (backL vs s0.sl s'.sl)[i]? = some (some r) from e) with ⟨h1, h2⟩ | ⟨h1, h2⟩
    · have := no i h1
      rw [ownAt_isOwn.mpr ⟨r, h2, o⟩] at this; cases this
    · exact ⟨h1, ownAt_isOwn.mpr ⟨r, by show (wipeL vs s'.sl)[i]? = _; rw [wipeL_out h1]; exact h2, o⟩⟩
  refine ⟨A.sh, ?_, fun i r e => ?_, fun i j hij hi hj => ?_, A.le, A.keep, A.fnew, A.anew⟩
  · have h1 : (L2.wipe σ vs).length = (wipeL vs s'.sl).length := A.len
    rw [L2.wipe_length, wipeL_len] at h1
    show σ.length = (backL vs s0.sl s'.sl).length
    rw [backL_len]; exact h1
  · rcases backL_some (show (backL vs s0.sl s'.sl)[i]? = some (some r) from e) with ⟨h1, h2⟩ | ⟨h1, h2⟩
    · obtain ⟨v, e2, q⟩ := A0.val i r h2
      refine ⟨v, e2, RepO.mono ?_ le q⟩
      cases ho : isOwn r with
      | false => rfl
      | true =>
        have := no i h1
        rw [ownAt_isOwn.mpr ⟨r, h2, ho⟩] at this; cases this
    · obtain ⟨v, e2, q⟩ := A.val i r (by show (wipeL vs s'.sl)[i]? = _; rw [wipeL_out h1]; exact h2)
      rw [lwipe_out h1] at e2
      exact ⟨v, e2, q⟩
  · obtain ⟨i1, i2⟩ := own i hi
    obtain ⟨j1, j2⟩ := own j hj
    have := A.sep i j hij i2 j2
    rw [lwipe_out i1, lwipe_out j1] at this
    exact this
/-- a list held aside -/
theorem Abs.held {D : Addr} {o : HO} (A : Abs c ⟨upd b.H0 D o, b.g0⟩ g σ H s) (n1 : b.g0.F D = none) (n2 : D ∉ b.g0.as) : H D = some o ∧ D ∉ g.as ∧ g.F D = none := by
  have e : (upd b.H0 D o) D = some o := upd_same
  have h : D ∉ g.as := fun hm => by
    rcases A.anew D hm with z | z
    · exact n2 z
    · have z : (upd b.H0 D o) D = none := z
      rw [e] at z; cases z
  refine ⟨A.keep D o e h, h, ?_⟩
  cases q : g.F D with
  | none => rfl
  | some u =>
    have z : (upd b.H0 D o) D = none := A.fnew D u q n1
    rw [e] at z; cases z
theorem Abs.unhold {D : Addr} {o : HO} (A : Abs c ⟨upd b.H0 D o, b.g0⟩ g σ H s) (n0 : b.H0 D = none) : Abs c b g σ H s ∧ ∀ i, ownAt s.sl i = true → σ[i]? ≠ some (some (.ref D)) := by
  have dn : ∀ a, (upd b.H0 D o) a = none → b.H0 a = none ∧ a ≠ D := fun a e => by
    by_cases h : a = D
    · subst h; rw [upd_same] at e; cases e
    · rw [upd_ne h] at e; exact ⟨e, h⟩
  refine ⟨⟨A.sh, A.len, fun i r e => ?_, A.sep, A.le, fun a u e n => A.keep a u ?_ n, fun a u e n => (dn a (A.fnew a u e n)).1, fun a ha => (A.anew a ha).imp id fun z => (dn a z).1⟩, fun i hi e => ?_⟩
  · obtain ⟨v, e2, q⟩ := A.val i r e
    refine ⟨v, e2, ?_⟩
    cases r with
    | fl ds =>
      obtain ⟨p, vs, e3, q1, q2, q3, q4, q5⟩ := q
      exact ⟨p, vs, e3, q1, q2, q3, (dn p q4).1, q5⟩
    | _ => exact q
  · show (upd b.H0 D o) a = some u
    rw [upd_ne (ne_of_none e n0)]; exact e
  · obtain ⟨r, e1, ho⟩ := ownAt_isOwn.mp hi
    obtain ⟨v, e2, q⟩ := A.val i r e1
    rw [e] at e2; cases e2
    obtain ⟨p, u, e3, _, _, q4, _⟩ := q.own_tracked ho
    cases e3
    exact (dn _ q4).2 rfl
theorem Abs.hold {D : Addr} {o : HO} (A : Abs c b g σ H s) (n0 : b.H0 D = none) (e0 : H D = some o) (n1 : g.F D = none) (hn : ∀ i, ownAt s.sl i = true → σ[i]? ≠ some (some (.ref D))) (n2 : D ∉ g.as) : Abs c ⟨upd b.H0 D o, b.g0⟩ g σ H s := by
  refine ⟨A.sh, A.len, fun i r e => ?_, A.sep, A.le, fun a u e n => ?_, fun a u e n => ?_, fun a ha => ?_⟩
  · obtain ⟨v, e2, q⟩ := A.val i r e
    refine ⟨v, e2, ?_⟩
    cases r with
    | fl ds =>
      obtain ⟨p, vs, e3, q1, q2, q3, q4, q5⟩ := q
      refine ⟨p, vs, e3, q1, q2, q3, ?_, q5⟩
      show (upd b.H0 D o) p = none
      rw [upd_ne (fun z => hn i (ownAt_isOwn.mpr ⟨_, e, rfl⟩) (by rw [e2, e3, z]))]; exact q4
    | _ => exact q
  · have e : (upd b.H0 D o) a = some u := e
    by_cases h : a = D
    · subst h; rw [upd_same] at e; cases e; exact e0
    · rw [upd_ne h] at e; exact A.keep a u e n
  · show (upd b.H0 D o) a = none
    rw [upd_ne (fun z => by rw [z, n1] at e; cases e)]
    exact A.fnew a u e n
  · refine (A.anew a ha).imp id fun z => ?_
    show (upd b.H0 D o) a = none
    rw [upd_ne (fun y => n2 (by rw [← y]; exact ha))]; exact z
/-- another's thing changed -/
theorem Abs.other {D : Addr} {o : HO} (A : Abs c b g σ H s) (n0 : b.H0 D = none) (n1 : g.F D = none) (hn : ∀ i, ownAt s.sl i = true → σ[i]? ≠ some (some (.ref D))) (n2 : D ∉ g.as) : Abs c b g σ (upd H D o) s := by
  refine ⟨⟨fun a u e => ?_, A.sh.len, A.sh.nd, A.sh.fr, fun i ob a h1 h2 => ?_⟩, A.len, fun i r e => ?_, A.sep, A.le, fun a u e n => ?_, A.fnew, A.anew⟩
  · rw [upd_ne (ne_of_none e n1)]; exact A.sh.fh a u e
  · cases ob with
    | lst ds =>
      obtain ⟨vs, q1, q2⟩ := A.sh.ob i _ a h1 h2
      exact ⟨vs, by rw [upd_ne (fun y => n2 (by rw [← y]; exact List.mem_of_getElem? h2))]; exact q1, q2⟩
  · obtain ⟨v, e2, q⟩ := A.val i r e
    refine ⟨v, e2, ?_⟩
    cases r with
    | fl ds =>
      obtain ⟨p, vs, e3, q1, q2⟩ := q
      refine ⟨p, vs, e3, ?_, q2⟩
      rw [upd_ne (fun z => hn i (ownAt_isOwn.mpr ⟨_, e, rfl⟩) (by rw [e2, e3, z]))]; exact q1
    | fd _ _ => exact False.elim q
    | _ => exact RepO.mono (by rfl) (G.le.refl _) q
  · rw [upd_ne (ne_of_none e n0)]; exact A.keep a u e n
theorem lwipe_in {i : Nat} {v : Option V} : ∀ {vs : List Nat}, i ∈ vs → ∀ σ : L2.St, L2.wipe (σ.set i v) vs = L2.wipe σ vs
  | [], h, _ => nomatch h
  | w :: vs, h, σ => by
    show (L2.wipe (σ.set i v) vs).set w none = (L2.wipe σ vs).set w none
    by_cases h2 : i ∈ vs
    · rw [lwipe_in h2]
    · have e : i = w := by
        rcases List.mem_cons.mp h with z | z
        · exact z
        · exact absurd z h2
      subst e
      refine List.ext_getElem? fun j => ?_
      by_cases hj : i = j
      · subst hj
        rw [List.getElem?_set, List.getElem?_set, L2.wipe_length, L2.wipe_length, List.length_set, if_pos rfl, if_pos rfl]
      · rw [List.getElem?_set_ne hj, List.getElem?_set_ne hj]
        by_cases hv : j ∈ vs
        · have : ∀ (vs : List Nat) (τ ρ : L2.St), τ.length = ρ.length → j ∈ vs → (L2.wipe τ vs)[j]? = (L2.wipe ρ vs)[j]? := by
            intro vs
            induction vs with
            | nil => intro _ _ _ h; exact nomatch h
            | cons u us ih =>
              intro τ ρ hl h
              show ((L2.wipe τ us).set u none)[j]? = ((L2.wipe ρ us).set u none)[j]?
              by_cases hu : u = j
              · subst hu
                rw [List.getElem?_set, List.getElem?_set, L2.wipe_length, L2.wipe_length, hl, if_pos rfl, if_pos rfl]
              · rw [List.getElem?_set_ne hu, List.getElem?_set_ne hu]
                exact ih τ ρ hl (by
                  rcases List.mem_cons.mp h with z | z
                  · exact absurd z.symm hu
                  · exact z)
          exact this vs _ _ (by simp) hv
        · rw [lwipe_out hv, lwipe_out hv, List.getElem?_set_ne hj]
theorem wipe_idem : ∀ (vs ws : List Nat), (∀ w ∈ ws, w ∈ vs) → ∀ σ : L2.St, L2.wipe (L2.wipe σ ws) vs = L2.wipe σ vs
  | vs, [], _, _ => rfl
  | vs, w :: ws, h, σ => by
    show L2.wipe ((L2.wipe σ ws).set w none) vs = _
    rw [lwipe_in (h w List.mem_cons_self), wipe_idem vs ws (fun x hx => h x (List.mem_cons_of_mem _ hx))]
theorem wipe_setsV {vs : List Nat} : ∀ {tg : List Nat} {xs : List V} {σ : L2.St}, (∀ i ∈ tg, i ∈ vs) → L2.wipe (setsV tg xs σ) vs = L2.wipe σ vs
  | [], _, _, _ => by simp [setsV]
  | _ :: _, [], _, _ => by simp [setsV]
  | i :: is, x :: xs, σ, h => by
    show L2.wipe (setsV is xs (σ.set i (some x))) vs = _
    rw [wipe_setsV fun j hj => h j (List.mem_cons_of_mem _ hj), lwipe_in (h i List.mem_cons_self)]
end
end Wi

/-! Soundness 11: list comprehensions. -/
namespace Wi
open PySem PySem.Spec PyProof.Rows L2
def WF : WX := fun _ _ _ _ => False
section
variable {c : Cn} {ck : CK} {b : Bs} {Γ : Gam} {lv : Nat} {W : WX} {X : Cx}
def TOr (c : Cn) (Γ : Gam) : Option' → TT
  | .none => tYes
  | .some e => fun σ H Q => ∃ b, TTr c b WF Γ e σ H Q
def TEx (c : Cn) (Γ : Gam) (i : E) : TE := fun σ H Q => ∃ b, TEf c b WF Γ i σ H Q
/-- a turn -/
def tailF (Γ : Gam) (elt : E) (b : Bool) (s : Wi.St) : Res (Option D) := if b = true then (fzr (ev Γ elt s)).bind fun r s => match r with | .v x => .ok (some x) s | _ => .err else .ok none s
def turnF (Γ : Gam) (elt : E) (tg : List Nat) (one : Bool) (cond : Option') (vs : List Nat) : D → Wi.St → Res (Option D) := fun d s =>
  (setTg tg one d (Wi.wipe vs s)).bind fun _ s => (evO Γ cond s).bind fun b s => tailF Γ elt b s
def contL (F : D → Wi.St → Res (Option D)) (rest acc : List D) : Res (Option D) → Res (List D)
  | .ok (some x) s => compL F rest (acc ++ [x]) s
  | .ok none s => compL F rest acc s
  | _ => .err
theorem compL_cons {F : D → Wi.St → Res (Option D)} {d : D} {rest acc : List D} {s : Wi.St} : compL F (d :: rest) acc s = contL F rest acc (F d s) := by
  show (match F d s with | .ok (some x) s => compL F rest (acc ++ [x]) s | .ok none s => compL F rest acc s | _ => .err) = _
  cases F d s with
  | ok o t => cases o <;> rfl
  | _ => rfl
theorem evO_none {s : Wi.St} : evO Γ .none s = .ok true s := by unfold evO; rfl
theorem comp_rd (hN : X.N.Nodup) {σ : L2.St} {H : Hp} {Q : VK} {elt : E} {tg : List Nat} {one : Bool} {it : Wi.It} {cond : Option'} {vs : List Nat} (htg : ∀ i ∈ tg, i ∈ vs)
    (q : TEr c b W Γ (.comp elt tg one it cond vs) σ H Q) : tLc (TIr c b W Γ it) (TGr c.K tg one) (TOr c Γ cond) (TEx c Γ elt) vs σ H Q := by
  obtain ⟨g, s, A, q⟩ := q
  have q : RP c b W σ g ((evIt Γ it s).bind fun ds s0 =>
      if (vs.any (ownAt s0.sl) || decide (LIM < ds.length)) = true then .err else
      (compL (turnF Γ elt tg one cond vs) ds [] s0).bind fun xs s => Res.ok (Rv.fl xs) (Wi.back vs s0 s)) _ := q
  refine ⟨g, s, A, (RP.bind q).imp fun ds s0 g1 H1 e l A1 q J hJ => ?_⟩
  split at q
  · exact False.elim q
  · rename_i hno
    have hno : (vs.any (ownAt s0.sl) || decide (LIM < ds.length)) = false := by simpa using hno
    rw [Bool.or_eq_false_iff] at hno
    obtain ⟨no, hl⟩ := hno
    have hl : ds.length ≤ LIM := by have := of_decide_eq_false hl; omega
    intro D hD
    have n0 : b.H0 D = none := A1.h0 hD
    have nF : g1.F D = none := by
      cases z : g1.F D with
      | none => rfl
      | some u => rw [A1.sh.fh _ _ z] at hD; cases hD
    have nA : D ∉ g1.as := fun hm => by
      obtain ⟨u, z⟩ := A1.sh.tracked hm
      rw [hD] at z; cases z
    have bF : b.g0.F D = none := by
      cases z : b.g0.F D with
      | none => rfl
      | some u => rw [A1.le.f _ _ z] at nF; cases nF
    have bA : D ∉ b.g0.as := fun hm => by
      obtain ⟨t, ht⟩ := A1.le.a
      exact nA (by rw [ht]; exact List.mem_append_left _ hm)
    have nS : ∀ i, ownAt s0.sl i = true → σ[i]? ≠ some (some (.ref D)) := fun i hi z => by
      obtain ⟨r, e1, ho⟩ := ownAt_isOwn.mp hi
      obtain ⟨v, e2, w⟩ := A1.val i r e1
      rw [z] at e2; cases e2
      obtain ⟨x, o, e3, q6, _⟩ := w.own_tracked ho
      cases e3
      rw [hD] at q6; cases q6
    refine ⟨fun i m H => m = ds.length - i ∧ i ≤ ds.length ∧ ∃ g s acc av, G.le g1 g ∧ Abs c ⟨upd b.H0 D (.lst av), b.g0⟩ g (L2.wipe σ vs) H (Wi.wipe vs s) ∧ RepL c.K g.F acc av ∧ av.length ≤ i ∧
      RP c b W σ g1 ((compL (turnF Γ elt tg one cond vs) (ds.drop i) acc s).bind fun xs s => Res.ok (Rv.fl xs) (Wi.back vs s0 s)) (fun r s' g' H' => ∀ v, RepR c b g' σ H' s' r v → Q v H'), ⟨ds.length, rfl, Nat.zero_le _, g1, s0, [], [], G.le.refl _, ?_, rfl, Nat.zero_le _, q⟩, ?_⟩
    · have A2 := (A1.alloc (o := .lst []) hD).wipe vs
      refine A2.hold n0 upd_same nF (fun i hi => ?_) nA
      obtain ⟨r, e1, ho⟩ := ownAt_isOwn.mp hi
      obtain ⟨e2, e3⟩ := wipeL_some (show (wipeL vs s0.sl)[i]? = some (some r) from e1)
      rw [lwipe_out e3]
      exact nS i (ownAt_isOwn.mpr ⟨r, e2, ho⟩)
    · rintro i m H2 ⟨rfl, hi, g2, s2, acc, av, le2, A2, ra, hav, q2⟩
      have wk := hJ _ _ _ _ _ le2 A2 i
      cases ed : ds[i]? with
      | none =>
        refine .inl ⟨wk.2 ed, ?_⟩
        have : ds.drop i = [] := List.drop_eq_nil_iff.mpr (List.getElem?_eq_none_iff.mp ed)
        rw [this] at q2
        obtain ⟨h1, h2, h3⟩ := A2.held bF bA
        obtain ⟨A3, h4⟩ := A2.unhold n0
        have A4 := A1.back le2 no A3
        refine q2 g2 H2 le2 A4 _ ⟨⟨D, av, rfl, h1, ra, h3, n0, h2⟩, fun _ j hj e => ?_⟩
        obtain ⟨r, e1, ho⟩ := ownAt_isOwn.mp hj
        rcases backL_some (show (backL vs s0.sl s2.sl)[j]? = some (some r) from e1) with ⟨z1, z2⟩ | ⟨z1, z2⟩
        · have := List.any_eq_false.mp no j z1
          exact this (ownAt_isOwn.mpr ⟨r, z2, ho⟩)
        · refine h4 j (ownAt_isOwn.mpr ⟨r, by show (wipeL vs s2.sl)[j]? = _; rw [wipeL_out z1]; exact z2, ho⟩) ?_
          rw [lwipe_out z1]; exact e
      | some d =>
        obtain ⟨go, yl⟩ := wk.1 d ed
        have hlt : i < ds.length := (List.getElem?_eq_some_iff.mp ed).1
        have hdrop : ds.drop i = d :: ds.drop (i + 1) := by
          rw [List.drop_eq_getElem_cons hlt]
          congr 1
          exact Option.some.inj ((List.getElem?_eq_getElem hlt).symm.trans ed)
        rw [hdrop, compL_cons] at q2
        refine .inr ⟨go, fun H' => ∃ g s acc av, G.le g1 g ∧ Abs c ⟨upd b.H0 D (.lst av), b.g0⟩ g (L2.wipe σ vs) H' (Wi.wipe vs s) ∧ RepL c.K g.F acc av ∧ av.length ≤ i + 1 ∧
          RP c b W σ g1 ((compL (turnF Γ elt tg one cond vs) (ds.drop (i + 1)) acc s).bind fun xs s => Res.ok (Rv.fl xs) (Wi.back vs s0 s)) (fun r s' g' H' => ∀ v, RepR c b g' σ H' s' r v → Q v H'),
          fun H' h => ⟨ds.length - (i + 1), by omega, rfl, hlt, h⟩, fun x H3 y => ?_⟩
        obtain ⟨g3, le3, A3, rx⟩ := yl x H3 y
        have et : turnF Γ elt tg one cond vs d s2 = (setTg tg one d (Wi.wipe vs s2)).bind fun _ s => (evO Γ cond s).bind fun b s => tailF Γ elt b s := rfl
        rw [et] at q2
        cases e3 : setTg tg one d (Wi.wipe vs s2) with
        | err => rw [e3] at q2; exact False.elim q2
        | exc k t => rw [e3] at q2; exact False.elim q2
        | ok u s3 =>
          rw [e3] at q2
          have q2 : RP c b W σ g1 ((contL (turnF Γ elt tg one cond vs) (ds.drop (i + 1)) acc ((evO Γ cond s3).bind fun b s => tailF Γ elt b s)).bind fun xs s => Res.ok (Rv.fl xs) (Wi.back vs s0 s)) _ := q2
          refine setTg_rd A3 rx e3 fun σ4 A4 hσ => ?_
          have w4 : L2.wipe σ4 vs = L2.wipe σ vs := by
            have : ∃ xs, σ4 = setsV tg xs (L2.wipe σ vs) := by
              rcases hσ with z | z
              · exact ⟨_, z⟩
              · exact z
            obtain ⟨xs, rfl⟩ := this
            rw [wipe_setsV htg, wipe_idem vs vs fun _ h => h]
          refine ⟨w4, ?_⟩
          -- behind the test
          have fin : ∀ (k : Bool) (s5 : Wi.St) (g5 : G) (H5 : Hp), G.le g1 g5 → Abs c ⟨upd b.H0 D (.lst av), b.g0⟩ g5 σ4 H5 s5 → G.le g2 g5 →
              RP c b W σ g1 ((contL (turnF Γ elt tg one cond vs) (ds.drop (i + 1)) acc (tailF Γ elt k s5)).bind fun xs s => Res.ok (Rv.fl xs) (Wi.back vs s0 s)) (fun r s' g' H' => ∀ v, RepR c b g' σ H' s' r v → Q v H') →
              if k = true then TEx c Γ elt σ4 H5 fun y H4 => ∃ acc, H4 D = some (.lst acc) ∧ acc.length < sizeLine ∧ (∃ g s acc' av, G.le g1 g ∧ Abs c ⟨upd b.H0 D (.lst av), b.g0⟩ g (L2.wipe σ vs) (upd H4 D (.lst (acc ++ [y]))) (Wi.wipe vs s) ∧ RepL c.K g.F acc' av ∧ av.length ≤ i + 1 ∧
                RP c b W σ g1 ((compL (turnF Γ elt tg one cond vs) (ds.drop (i + 1)) acc' s).bind fun xs s => Res.ok (Rv.fl xs) (Wi.back vs s0 s)) (fun r s' g' H' => ∀ v, RepR c b g' σ H' s' r v → Q v H'))
              else (∃ g s acc' av, G.le g1 g ∧ Abs c ⟨upd b.H0 D (.lst av), b.g0⟩ g (L2.wipe σ vs) H5 (Wi.wipe vs s) ∧ RepL c.K g.F acc' av ∧ av.length ≤ i + 1 ∧
                RP c b W σ g1 ((compL (turnF Γ elt tg one cond vs) (ds.drop (i + 1)) acc' s).bind fun xs s => Res.ok (Rv.fl xs) (Wi.back vs s0 s)) (fun r s' g' H' => ∀ v, RepR c b g' σ H' s' r v → Q v H')) := by
            intro k s5 g5 H5 le5 A5 le25 q5
            cases k with
            | false =>
              rw [if_neg (by decide)]
              refine ⟨g5, s5, acc, av, le5, ?_, RepL.mono le25.f _ _ ra, Nat.le_succ_of_le hav, q5⟩
              have := A5.wipe vs
              rw [w4] at this; exact this
            | true =>
              rw [if_pos rfl]
              have et : tailF Γ elt true s5 = (fzr (ev Γ elt s5)).bind fun r s => match r with | .v x => .ok (some x) s | _ => .err := rfl
              rw [et] at q5
              refine ⟨⟨upd b.H0 D (.lst av), b.g0⟩, g5, s5, A5, ?_⟩
              cases e6 : fzr (ev Γ elt s5) with
              | err => rw [e6] at q5; exact False.elim q5
              | exc k t => rw [e6] at q5; exact False.elim q5
              | ok r s6 =>
                rw [e6] at q5
                intro g6 H6 le6 A6 y hy
                obtain ⟨h1, h2, h3⟩ := A6.held bF bA
                refine ⟨av, h1, by rw [sizeLine_eq]; unfold LIM at hl; omega, ?_⟩
                cases r with
                | v x =>
                  obtain ⟨A7, h4⟩ := A6.unhold n0
                  refine ⟨g6, s6, acc ++ [x], av ++ [y], le5.trans le6, ?_, RepL.append (RepL.mono (le25.trans le6).f _ _ ra) (.one hy), by simp; omega, q5⟩
                  have A8 := (A7.other (o := .lst (av ++ [y])) n0 h3 h4 h2).wipe vs
                  rw [w4] at A8
                  refine A8.hold n0 upd_same h3 (fun j hj => ?_) h2
                  obtain ⟨r, e1, ho⟩ := ownAt_isOwn.mp hj
                  obtain ⟨e2, e3⟩ := wipeL_some (show (wipeL vs s6.sl)[j]? = some (some r) from e1)
                  have := h4 j (ownAt_isOwn.mpr ⟨r, e2, ho⟩)
                  rw [← w4, lwipe_out e3]; exact this
                | _ => exact False.elim q5
          cases cond with
          | none =>
            rw [evO_none] at q2
            exact fin true s3 g3 H3 (le2.trans le3) A4 le3 q2
          | some e =>
            refine ⟨⟨upd b.H0 D (.lst av), b.g0⟩, g3, s3, A4, ?_⟩
            have eo : evO Γ (.some e) s3 = (ev Γ e s3).bind fun x s => match x with | .v (.bl b) => .ok b s | _ => .err := by unfold evO; rfl
            rw [eo] at q2
            cases e5 : ev Γ e s3 with
            | err => rw [e5] at q2; exact False.elim q2
            | exc k t => rw [e5] at q2; exact False.elim q2
            | ok r s5 =>
              rw [e5] at q2
              intro g5 H5 le5 A5
              cases r with
              | v d =>
                cases d with
                | bl k => exact ⟨k, rfl, fin k s5 g5 H5 ((le2.trans le3).trans le5) A5 (le3.trans le5) q2⟩
                | _ => exact False.elim q2
              | _ => exact False.elim q2
end
end Wi

/-! xs[::-1]; {'k': e, ..}[x]. -/
namespace Wi
open PySem PySem.Spec PyProof.Rows L2
section
variable {c : Cn} {ck : CK} {b : Bs} {Γ : Gam} {lv : Nat} {W : WX} {X : Cx}
theorem pe_revI (S : SC c ck Γ lv W X) {l : Expr} {k : Nat} {p1 p2 p3 pos : Pos} {a : E} (ha : PE X l (TEr c b W Γ a)) :
    PE X (.Subscript l (.Slice none none (some (.UnaryOp .USub (.Constant (.int 1) k p1) p2)) p3) pos) (TEr c b W Γ (.rev a)) := by
  refine cvE (pe_revL (pe_f ha)) fun σ H Q q => ?_
  obtain ⟨g, s, A, q⟩ := q
  refine TEf.imp (one_rd A q) fun v H1 ⟨g, s, x, A1, hx, nx, q⟩ => ?_
  obtain ⟨z, ez, q⟩ := RP.ofOpt q
  unfold revD at ez
  split at ez
  · cases ez
    obtain ⟨p, vs, rfl, t, r⟩ := hx
    refine ⟨p, vs, rfl, SqL.of (A1.sh.fh _ _ t), fun p' hp => ?_⟩
    exact q g _ (G.le.refl g) (A1.alloc hp) _ (A1.fresh hp (RepL.reverse r))
  · cases ez
/-! ### the display -/
def trsOf (c : Cn) (Γ : Gam) (W : WX) : List (List Nat) → Es → List (TE × TE)
  | k :: ks, .cons e es => (tC (.str (strV k)), fun σ H Q => ∃ b, TEf c b W Γ e σ H Q) :: trsOf c Γ W ks es
  | _, _ => []
def PEs (X : Cx) (c : Cn) (Γ : Gam) (W : WX) : Es → List Expr → Prop
  | .nil, [] => True
  | .cons e es, x :: l => (∀ b, PE X x (TEr c b W Γ e)) ∧ PEs X c Γ W es l
  | _, _ => False
theorem pps_ok {pos : Pos} : ∀ {ks : List (List Nat)} {keys : List (Option Expr)} {es : Es} {l : List Expr}, keysOk ks keys = true → PEs X c Γ W es l → ks.length = es.len → PPs X pos keys l (trsOf c Γ W ks es)
  | [], keys, es, l, hk, he, hn => by
    cases keys with
    | cons _ _ => exact bad hk
    | nil =>
      cases es with
      | cons _ _ => cases hn
      | nil =>
        cases l with
        | nil => exact pps_nil
        | cons _ _ => exact False.elim he
  | k :: ks, keys, es, l, hk, he, hn => by
    cases keys with
    | nil => exact bad hk
    | cons y keys =>
      cases y with
      | none => exact bad hk
      | some y =>
        cases y with
        | Constant cc n p =>
          obtain ⟨h1, h2⟩ := and_of hk
          cases es with
          | nil => cases hn
          | cons e es =>
            cases l with
            | nil => exact False.elim he
            | cons x l =>
              cases cc with
              | str y =>
                obtain ⟨h3, _⟩ := and_of h1
                have ey : y = strV k := by
                  have := of_decide_eq_true h3
                  rw [← this]; rfl
                subst ey
                exact pps_cons pe_str ⟨fun pins s σ H Q I ⟨b, q⟩ => (pe_f (he.1 b)).run pins s σ H Q I q⟩ (pps_ok h2 he.2 (Nat.succ.inj hn))
              | _ => exact bad h1
        | _ => exact bad hk
theorem pairs_rd {b : Bs} : ∀ {es : Es} {ks : List (List Nat)} {σ : L2.St} {H : Hp} {g : G} {s : Wi.St} {φ : List (V × V) → Hp → Prop}, ks.length = es.len → Abs c b g σ H s →
    RP c b W σ g (evs Γ es s) (fun rs s' g' H' => ∀ vs, RepA c b g' H' rs vs → Abs c b g' σ H' s' → φ ((ks.map fun k => V.str (strV k)).zip vs) H') → tPairs (trsOf c Γ W ks es) σ H φ
  | .nil, [], σ, H, g, s, φ, _, A, q => q g H (G.le.refl _) A [] .nil A
  | .nil, _ :: _, _, _, _, _, _, hn, _, _ => by cases hn
  | .cons _ _, [], _, _, _, _, _, hn, _, _ => by cases hn
  | .cons e es, k :: ks, σ, H, g, s, φ, hn, A, q => by
    have q : RP c b W σ g ((ev Γ e s).bind fun r s => (evs Γ es s).bind fun rs s => .ok (frz r :: rs) s) _ := q
    have q2 : RP c b W σ g ((fzr (ev Γ e s)).bind fun r s => (evs Γ es s).bind fun rs s => .ok (r :: rs) s) (fun rs s' g' H' => ∀ vs, RepA c b g' H' rs vs → Abs c b g' σ H' s' → φ (((k :: ks).map fun k => V.str (strV k)).zip vs) H') := by
      unfold fzr
      cases ee : ev Γ e s with
      | ok r s1 => rw [ee] at q; exact q
      | exc k s1 => rw [ee] at q; exact q
      | err => rw [ee] at q; exact q
    show ∃ b, TEf c b W Γ e σ H _
    refine ⟨b, g, s, A, (RP.bind q2).imp fun r s1 g1 H1 e1 l1 A1 q v hv => ?_⟩
    refine pairs_rd (Nat.succ.inj hn) A1 ((RP.bind q).imp fun rs s2 g2 H2 e2 l2 A2 q vs hvs _ => ?_)
    exact q g2 H2 (G.le.refl g2) A2 (v :: vs) (.cons ⟨RepO.mono (fzr_own e1) l2 hv, fzr_own e1⟩ hvs) A2
/-- keys and their things -/
def kvOf (ks : List (List Nat)) (vs : List V) : List (Key × V) := (ks.map fun k => (Sum.inr (strV k) : Key)).zip vs
theorem putK_new {kvs : List (Key × V)} {k : Key} {v : V} (h : ∀ p ∈ kvs, p.1 ≠ k) : L2.putK kvs k v = kvs ++ [(k, v)] := by
  unfold L2.putK
  rw [if_neg]
  rw [Bool.not_eq_true, List.any_eq_false]
  exact fun p hp => by simpa using h p hp
theorem merge_new : ∀ {more kvs : List (Key × V)}, ((kvs ++ more).map (·.1)).Nodup → mergeK kvs more = kvs ++ more
  | [], kvs, _ => by simp [mergeK]
  | p :: more, kvs, h => by
    show mergeK (L2.putK kvs p.1 p.2) more = _
    have hp : ∀ q ∈ kvs, q.1 ≠ p.1 := fun q hq e => by
      rw [List.map_append, List.nodup_append] at h
      exact h.2.2 q.1 (List.mem_map.mpr ⟨q, hq, rfl⟩) p.1 (by simp) e
    rw [putK_new hp]
    have e : kvs ++ [(p.1, p.2)] ++ more = kvs ++ p :: more := by simp
    rw [merge_new (by rw [e]; exact h), e]
theorem kv_keys : ∀ {ks : List (List Nat)} {vs : List V}, ks.length = vs.length → (kvOf ks vs).map (·.1) = ks.map fun k => (Sum.inr (strV k) : Key)
  | [], [], _ => rfl
  | [], _ :: _, h => by cases h
  | _ :: _, [], h => by cases h
  | k :: ks, v :: vs, h => by
    show (Sum.inr (strV k) : Key) :: (kvOf ks vs).map (·.1) = _
    rw [kv_keys (Nat.succ.inj h)]; rfl
theorem kv_nodup {ks : List (List Nat)} {vs : List V} (h : ks.length = vs.length) (nd : ks.Nodup) : ((kvOf ks vs).map (·.1)).Nodup := by
  rw [kv_keys h]
  refine List.Pairwise.map _ (fun a b hab e => ?_) nd
  injection e with e
  exact hab (strV_inj e)
theorem kv_zip : ∀ {ks : List (List Nat)} {vs : List V}, (ks.map fun k => V.str (strV k)).zip vs = (kvOf ks vs).map fun kv => (kV kv.1, kv.2)
  | [], vs => by simp [kvOf]
  | _ :: _, [] => by simp [kvOf]
  | k :: ks, v :: vs => by
    show (V.str (strV k), v) :: (ks.map fun k => V.str (strV k)).zip vs = (V.str (strV k), v) :: (kvOf ks vs).map _
    rw [kv_zip]
theorem kv_get {b : Bs} {g : G} {H : Hp} : ∀ {ks : List (List Nat)} {rs : List Rv} {vs : List V} {z : List Nat} {r : Rv}, RepA c b g H rs vs → (ks.zip rs).lookup z = some r → ∃ v, valV (kvOf ks vs) (.inr (strV z)) = some v ∧ RepO c b g H r v ∧ isOwn r = false
  | [], _, _, _, _, _, h => by simp at h
  | _ :: _, [], _, _, _, _, h => by simp at h
  | k :: ks, r0 :: rs, _, z, r, .cons (b := v) h1 t, h => by
    rw [List.zip_cons_cons, List.lookup_cons] at h
    by_cases e : z = k
    · subst e
      rw [beq_self_eq_true] at h
      cases h
      exact ⟨v, by simp [valV, kvOf], h1⟩
    · rw [beq_eq_false_iff_ne.mpr e] at h
      obtain ⟨u, e1, e2⟩ := kv_get t h
      refine ⟨u, ?_, e2⟩
      rw [← e1]
      unfold valV
      show (List.find? _ ((Sum.inr (strV k), v) :: kvOf ks _)).map _ = _
      rw [List.find?_cons]
      have : decide ((Sum.inr (strV k) : Key) = Sum.inr (strV z)) = false := decide_eq_false fun w => by
        injection w with w
        exact e (strV_inj w).symm
      simp only [this]
theorem Abs.hold0 {p : Addr} {o : HO} {g : G} {σ : L2.St} {H : Hp} {s : Wi.St} (A : Abs c b g σ H s) (hp : H p = none) : Abs c ⟨upd b.H0 p o, b.g0⟩ g σ (upd H p o) s ∧ b.H0 p = none ∧ b.g0.F p = none ∧ p ∉ b.g0.as := by
  have n0 : b.H0 p = none := A.h0 hp
  have nF : g.F p = none := by
    cases z : g.F p with
    | none => rfl
    | some u => rw [A.sh.fh _ _ z] at hp; cases hp
  have nA : p ∉ g.as := fun hm => by
    obtain ⟨u, z⟩ := A.sh.tracked hm
    rw [hp] at z; cases z
  refine ⟨(A.alloc (o := o) hp).hold n0 upd_same nF (fun i hi z => ?_) nA, n0, ?_, fun hm => ?_⟩
  · obtain ⟨r, e1, ho⟩ := ownAt_isOwn.mp hi
    obtain ⟨v, e2, w⟩ := A.val i r e1
    rw [z] at e2; cases e2
    obtain ⟨x, o, e3, q6, _⟩ := w.own_tracked ho
    cases e3
    rw [hp] at q6; cases q6
  · cases z : b.g0.F p with
    | none => rfl
    | some u => rw [A.le.f _ _ z] at nF; cases nF
  · obtain ⟨t, ht⟩ := A.le.a
    exact nA (by rw [ht]; exact List.mem_append_left _ hm)
theorem repA_base {b b' : Bs} {g : G} {H : Hp} : ∀ {rs : List Rv} {vs : List V}, RepA c b g H rs vs → RepA c b' g H rs vs
  | _, _, .nil => .nil
  | _, _, .cons h t => .cons ⟨RepO.base h.1 h.2, h.2⟩ (repA_base t)
theorem keysOk_all : ∀ {ks : List (List Nat)} {keys : List (Option Expr)}, keysOk ks keys = true → keys.all (·.isSome) = true ∧ keys.length = ks.length
  | [], [], _ => ⟨rfl, rfl⟩
  | [], _ :: _, h => bad h
  | _ :: _, [], h => bad h
  | k :: ks, none :: es, h => bad h
  | k :: ks, some e :: es, h => by
    cases e with
    | Constant _ _ _ =>
      obtain ⟨_, h2⟩ := and_of h
      obtain ⟨i1, i2⟩ := keysOk_all h2
      exact ⟨by rw [List.all_cons, i1]; rfl, by rw [List.length_cons, i2]; rfl⟩
    | _ => exact bad h
theorem PEs.len : ∀ {es : Es} {l : List Expr}, PEs X c Γ W es l → es.len = l.length
  | .nil, [], _ => rfl
  | .nil, _ :: _, h => False.elim h
  | .cons _ _, [], h => False.elim h
  | .cons _ es, _ :: l, h => by
    show es.len + 1 = l.length + 1
    rw [PEs.len h.2]
theorem pe_pickI (S : SC c ck Γ lv W X) {ks : List (List Nat)} {keys : List (Option Expr)} {vals : List Expr} {j : Expr} {dp pos : Pos} {es : Es} {k : E} (hk : keysOk ks keys = true) (he : PEs X c Γ W es vals) (ho : odd j = false) (hj : ∀ b, PE X j (TEr c b W Γ k)) (nd : ks.Nodup) (h15 : ks.length ≤ 15) (h0 : ks ≠ []) (hn : ks.length = es.len) :
    PE X (.Subscript (.Dict keys vals dp) j pos) (TEr c b W Γ (.pick ks es k)) := by
  obtain ⟨a1, a2⟩ := keysOk_all hk
  have kn : keys ≠ [] := fun e => by
    subst e
    exact h0 (List.length_eq_zero_iff.mp a2.symm)
  have hdisp := pe_disp (pos := dp) (pps_ok hk he hn) a1 (by rw [a2, hn, he.len]) kn (by rw [a2]; exact h15)
  have nos : NoSl j := by cases j <;> first | (intro o i; rfl) | cases ho
  refine cvE (pe_dget (ty := fun σ H Q => ∃ b, TEf c b W Γ k σ H Q) (Nat.lt_of_le_of_lt (Nat.add_le_add_left (by decide : 1 ≤ 64) _) S.un) hdisp ⟨fun pins s σ H Q I ⟨b, q⟩ => (pe_f (hj b)).run pins s σ H Q I q⟩ nos) fun σ H Q q => ?_
  obtain ⟨g, s, A, q⟩ := q
  have q : RP c b W σ g ((evs Γ es s).bind fun xs s => (fzr (ev Γ k s)).bind fun y s => match y with
      | .v (.str z) => match (ks.zip xs).lookup z with
        | some r => .ok r s
        | none => .err
      | _ => .err) _ := q
  intro p hp
  obtain ⟨A1, n0, nF, nA⟩ := A.hold0 (o := .dK []) hp
  have unb : ∀ {o : HO} {α : Type} {m : Res α} {ψ : α → Wi.St → G → Hp → Prop} {g : G}, RP c b W σ g m ψ → RP c ⟨upd b.H0 p o, b.g0⟩ W σ g m ψ := fun {o α m ψ g} h => by
    cases m with
    | ok a s => exact fun g' H' l A' => h g' H' l (A'.unhold n0).1
    | exc k s => exact fun g' H' l A' => h g' H' l (A'.unhold n0).1
    | err => exact h
  refine pairs_rd hn A1 ((unb (RP.bind q)).imp fun rs s2 g2 H2 e2 l2 A2 q vs hvs _ => ?_)
  obtain ⟨d1, d2, d3⟩ := A2.held nF nA
  have hlen : ks.length = vs.length := by rw [← paired_len hvs, evs_len e2, hn]
  refine ⟨d1, kvOf ks vs, kv_zip, by unfold kvOf; rw [List.length_zip, List.length_map]; omega, ?_⟩
  obtain ⟨A3, hs⟩ := A2.unhold n0
  rw [merge_new (kvs := []) (by rw [List.nil_append]; exact kv_nodup hlen nd), List.nil_append]
  have A4 := (A3.other (o := .dK (kvOf ks vs)) n0 d3 hs d2).hold n0 upd_same d3 hs d2
  refine ⟨⟨upd b.H0 p (.dK (kvOf ks vs)), b.g0⟩, g2, s2, A4, (unb (RP.bind q)).imp fun y s3 g3 H3 e3 l3 A5 q u hu => ?_⟩
  obtain ⟨e1, _, _⟩ := A5.held nF nA
  split at q
  · rename_i z
    split at q
    · rename_i r er
      obtain ⟨rfl, _⟩ := hu
      obtain ⟨v, ev1, hv, no⟩ := kv_get hvs er
      refine ⟨p, v, rfl, ?_, q g3 H3 (G.le.refl _) (A5.unhold n0).1 v ⟨RepO.mono no l3 (RepO.base hv no), fun w => by rw [no] at w; cases w⟩⟩
      rw [← ev1]
      exact DGet.k (k := Sum.inr (strV z)) e1
    · exact False.elim q
  · exact False.elim q
end
end Wi

/-! Soundness 12: all expressions. -/
namespace Wi
open PySem PySem.Spec PyProof.Rows L2
structure Snd (c : Cn) (Γ : Gam) (W : WX) (X : Cx) (i : E) (e : Expr) : Prop where
  pe : ∀ b, PE X e (TEr c b W Γ i)
  pt : ∀ b, PT X e (TTr c b W Γ i)
  pw : ∀ b op l pos, e = .BoolOp op l pos → PW X e (TTr c b W Γ i)
section
variable {c : Cn} {ck : CK} {Γ : Gam} {lv : Nat} {W : WX} {X : Cx}
theorem Snd.val {i : E} {e : Expr} (h : ∀ b, PE X e (TEr c b W Γ i)) (he : ∀ whole, isTrue e X.env whole = (do let v ← whole; standAt e.pos; holding [v] (truthy v))) (hb : ∀ op l pos, e ≠ .BoolOp op l pos) : Snd c Γ W X i e :=
  ⟨h, fun b => pt_of (h b) he, fun _ _ _ _ z => absurd z (hb _ _ _)⟩
theorem Snd.test {i : E} {e : Expr} (h : ∀ b, PE X e (TEr c b W Γ i)) (he : ∀ b, PT X e (TTr c b W Γ i)) (hb : ∀ op l pos, e ≠ .BoolOp op l pos) : Snd c Γ W X i e :=
  ⟨h, he, fun _ _ _ _ z => absurd z (hb _ _ _)⟩
theorem pt_iteI {b : Bs} {t x y : Expr} {q a d : E} {pos : Pos} (hq : PT X t (TTr c b W Γ q)) (ha : PT X x (TTr c b W Γ a)) (hd : PT X y (TTr c b W Γ d)) : PT X (.IfExp t x y pos) (TTr c b W Γ (.ite q a d)) := by
  refine ⟨fun pins s σ H Q I h => ?_⟩
  obtain ⟨g, s0, A, h⟩ := h
  have h : RP c b W σ g ((ev Γ q s0).bind fun x s => match x with | .v (.bl true) => ev Γ a s | .v (.bl false) => ev Γ d s | _ => .err) _ := h
  show wpAny _ X.A (isTrue t X.env (eval t X.env) >>= fun k => if k = true then isTrue x X.env (eval x X.env) else isTrue y X.env (eval y X.env)) _ _ s
  refine wpAny_bind (thn (hq.run pins s σ H (fun k H1 => if k = true then TTr c b W Γ a σ H1 Q else TTr c b W Γ d σ H1 Q) I ⟨g, s0, A, (RP.bind h).imp fun z s1 g1 H1 e l A1 q => ?_⟩) fun k s1 ⟨H1, I1, q1⟩ => ?_)
  · split at q
    · exact ⟨_, rfl, iteT ⟨g1, s1, A1, q⟩⟩
    · exact ⟨_, rfl, iteF ⟨g1, s1, A1, q⟩⟩
    · exact False.elim q
  · cases k with
    | true => exact ha.run pins s1 σ H1 Q I1 q1
    | false => exact hd.run pins s1 σ H1 Q I1 q1
theorem SC.blk (S : SC c ck Γ lv W X) (hh : ck.hot = false) (s : Shared) (H : Hp) (scope : Scope) (ce : Env) (fp : List Addr) : SC c ck Γ lv WF (X.blk s H scope ce fp) :=
  ⟨S.K, S.nd, S.calm, S.room, S.un, fun _ _ x => by
    obtain ⟨_, _, _, _, _, _, _, _, _, _, _, _, _, _, _, _, z⟩ := x
    exact z.elim, S.blt, S.exs, fun h => (by rw [hh] at h; cases h), S.cst, S.fns⟩
theorem cool {a : Bool} (h : (!a) = true) : a = false := by simpa using h
/-- a store within a block -/
theorem sto_blk {s : Shared} {H : Hp} {scope : Scope} {cl : List (Str × Addr)} {C : Addr} {fp : List Addr} {x : Str} (h : stoB scope x = true) : Sto (X.blk s H scope (PySem.compEnvC scope cl C X.env) fp) x := by
  unfold stoB at h
  split at h
  · rename_i e
    have := lookup_relS_keep (sc := X.env.scope) (by decide) e
    exact ⟨.inl this, .inr this⟩
  · rename_i e
    have := lookup_relS_keep (sc := X.env.scope) (by decide) e
    refine ⟨.inr this, .inl ?_⟩
    show (scope.names.lookup x == some .cell) = true
    rw [e]; rfl
  · exact bad h
theorem folded_no {e : Expr} {env : Env} (h : odd e = false) (x : Value) : foldedSetIterable e env x = pure x := by
  cases e <;> first | rfl | cases h
theorem chkIt_odd {N : List Str} {sc : Scope} {it : Wi.It} {e : Expr} (h : chkIt ck N it sc e = true) : odd e = false := by
  cases it with
  | val i => exact chk_star (show chkE ck N i sc e = true from h)
  | _ => cases e <;> first | rfl | exact bad h
theorem noBool {e : Expr} (h : (match e with | .BoolOp .. => false | _ => true) = true) : ∀ op l pos, e ≠ .BoolOp op l pos := fun _ _ _ z => by
  subst z; cases h
mutual
theorem sE : ∀ (i : E) {W : WX} {X : Cx} {e : Expr}, SC c ck Γ lv W X → chkE ck X.N i X.env.scope e = true → Snd c Γ W X i e
  | .stuck, W, X, e, S, h => ⟨fun b => pe_stuck, fun b => ⟨fun _ _ _ _ _ _ h => by
      obtain ⟨_, _, _, q⟩ := h
      exact False.elim q⟩, fun b op l pos z => ⟨fun _ _ _ _ _ _ _ h => by
      obtain ⟨_, _, _, q⟩ := h
      exact False.elim q⟩⟩
  | .const d, W, X, e, S, h => by
    cases e with
    | Constant k n pos => exact .val (fun b => pe_const h) (fun _ => rfl) (noBool rfl)
    | _ => exact bad h
  | .glob r, W, X, e, S, h => by
    cases r with
    | v d =>
      cases e with
      | Name x pos =>
        obtain ⟨h1, h2⟩ := and_of h
        exact .val (fun b => pe_globv S h1 h2) (fun _ => rfl) (noBool rfl)
      | _ => exact bad h
    | fn f =>
      cases e with
      | Name x pos =>
        obtain ⟨h1, h2⟩ := and_of h
        exact .val (fun b => pe_globf S h1 (of_decide_eq_true h2)) (fun _ => rfl) (noBool rfl)
      | _ => exact bad h
    | _ => exact bad h
  | .slot i, W, X, e, S, h => by
    cases e with
    | Name x pos => exact .val (fun b => pe_slot h) (fun _ => rfl) (noBool rfl)
    | _ => exact bad h
  | .bin op a d, W, X, e, S, h => by
    cases e with
    | BinOp l o r pos =>
      obtain ⟨h1, h2⟩ := and_of h
      obtain ⟨h2, h3⟩ := and_of h2
      exact .val (fun b => pe_bin S h1 ((sE a S h2).pe b) ((sE d S h3).pe b)) (fun _ => rfl) (noBool rfl)
    | _ => exact bad h
  | .neg a, W, X, e, S, h => by
    cases e with
    | UnaryOp o l pos =>
      cases o with
      | USub => exact .val (fun b => pe_neg ((sE a S h).pe b)) (fun _ => rfl) (noBool rfl)
      | _ => exact bad h
    | _ => exact bad h
  | .not a, W, X, e, S, h => by
    cases e with
    | UnaryOp o l pos =>
      cases o with
      | Not => exact .test (fun b => pe_no ((sE a S h).pe b)) (fun b => pt_no ((sE a S h).pt b)) (noBool rfl)
      | _ => exact bad h
    | _ => exact bad h
  | .and a d, W, X, e, S, h => by
    cases e with
    | BoolOp op l pos =>
      cases op with
      | And =>
        cases l with
        | nil => exact bad h
        | cons x l =>
          cases l with
          | nil => exact bad h
          | cons y r =>
            obtain ⟨h1, h2⟩ := and_of h
            have ha := sE a S h1
            cases r with
            | nil =>
              have hd := sE d S (show chkE ck X.N d X.env.scope y = true from h2)
              have w : ∀ b, PW X (.BoolOp .And [x, y] pos) (TTr c b W Γ (.and a d)) := fun b => pw_andI (ha.pt b) (pw_and1 (hd.pt b))
              exact ⟨fun b => pe_andI (ha.pe b) (pe_one (hd.pe b)), fun b => (w b).pt, fun b op l pos z => by cases z; exact w b⟩
            | cons z r =>
              have hd := sE d S (show chkE ck X.N d X.env.scope (.BoolOp .And (y :: z :: r) pos) = true from h2)
              have w : ∀ b, PW X (.BoolOp .And (x :: y :: z :: r) pos) (TTr c b W Γ (.and a d)) := fun b => pw_andI (ha.pt b) (hd.pw b _ _ _ rfl)
              exact ⟨fun b => pe_andI (ha.pe b) (hd.pe b), fun b => (w b).pt, fun b op l pos z => by cases z; exact w b⟩
      | Or => exact bad h
    | _ => exact bad h
  | .or a d, W, X, e, S, h => by
    cases e with
    | BoolOp op l pos =>
      cases op with
      | Or =>
        cases l with
        | nil => exact bad h
        | cons x l =>
          cases l with
          | nil => exact bad h
          | cons y r =>
            obtain ⟨h1, h2⟩ := and_of h
            have ha := sE a S h1
            cases r with
            | nil =>
              have hd := sE d S (show chkE ck X.N d X.env.scope y = true from h2)
              have w : ∀ b, PW X (.BoolOp .Or [x, y] pos) (TTr c b W Γ (.or a d)) := fun b => pw_orI (ha.pt b) (pw_or1 (hd.pt b))
              exact ⟨fun b => pe_orI (ha.pe b) (pe_one (hd.pe b)), fun b => (w b).pt, fun b op l pos z => by cases z; exact w b⟩
            | cons z r =>
              have hd := sE d S (show chkE ck X.N d X.env.scope (.BoolOp .Or (y :: z :: r) pos) = true from h2)
              have w : ∀ b, PW X (.BoolOp .Or (x :: y :: z :: r) pos) (TTr c b W Γ (.or a d)) := fun b => pw_orI (ha.pt b) (hd.pw b _ _ _ rfl)
              exact ⟨fun b => pe_orI (ha.pe b) (hd.pe b), fun b => (w b).pt, fun b op l pos z => by cases z; exact w b⟩
      | And => exact bad h
    | _ => exact bad h
  | .ite q a d, W, X, e, S, h => by
    cases e with
    | IfExp t x y pos =>
      obtain ⟨h1, h2⟩ := and_of h
      obtain ⟨h2, h3⟩ := and_of h2
      have hq := sE q S h1
      have ha := sE a S h2
      have hd := sE d S h3
      exact .test (fun b => pe_iteI (hq.pt b) (ha.pe b) (hd.pe b)) (fun b => pt_iteI (hq.pt b) (ha.pt b) (hd.pt b)) (noBool rfl)
    | _ => exact bad h
  | .cmp op a d, W, X, e, S, h => by
    cases e with
    | Compare l ops rs pos =>
      cases ops with
      | nil => exact bad h
      | cons o os =>
        cases os with
        | cons _ _ => exact bad h
        | nil =>
          cases rs with
          | nil => exact bad h
          | cons r rs =>
            cases rs with
            | cons _ _ => exact bad h
            | nil =>
              obtain ⟨h1, h2⟩ := and_of h
              obtain ⟨h2, h3⟩ := and_of h2
              obtain ⟨h3, _⟩ := and_of h3
              have ha := sE a S h2
              have hd := sE d S h3
              exact .test (fun b => pe_cmpI S h1 (chk_star h3) (ha.pe b) (hd.pe b)) (fun b => pt_cmpI S h1 (chk_star h3) (ha.pe b) (hd.pe b)) (noBool rfl)
    | _ => exact bad h
  | .cmp2 op op' a d f, W, X, e, S, h => by
    cases e with
    | Compare l ops rs pos =>
      cases ops with
      | nil => exact bad h
      | cons o os =>
        cases os with
        | nil => exact bad h
        | cons o' os =>
          cases os with
          | cons _ _ => exact bad h
          | nil =>
            cases rs with
            | nil => exact bad h
            | cons m rs =>
              cases rs with
              | nil => exact bad h
              | cons r rs =>
                cases rs with
                | cons _ _ => exact bad h
                | nil =>
                  obtain ⟨h1, h2⟩ := and_of h
                  obtain ⟨h2, h3⟩ := and_of h2
                  obtain ⟨h3, h4⟩ := and_of h3
                  obtain ⟨h4, h5⟩ := and_of h4
                  have ha := sE a S h3
                  have hd := sE d S h4
                  have hf := sE f S h5
                  exact .test (fun b => pe_cmp2I S h1 h2 (chk_star h5) (ha.pe b) (hd.pe b) (hf.pe b)) (fun b => pt_cmp2I S h1 h2 (chk_star h5) (ha.pe b) (hd.pe b) (hf.pe b)) (noBool rfl)
    | _ => exact bad h
  | .cmpS op i d, W, X, e, S, h => by
    cases e with
    | Compare l ops rs pos =>
      cases ops with
      | nil => exact bad h
      | cons o os =>
        cases os with
        | cons _ _ => exact bad h
        | nil =>
          cases rs with
          | nil => exact bad h
          | cons r rs =>
            cases rs with
            | cons _ _ => exact bad h
            | nil =>
              obtain ⟨h1, h2⟩ := and_of h
              obtain ⟨h2, h3⟩ := and_of h2
              have hd := sE d S h3
              exact .test (fun b => pe_cmpSI S h1 (chk_star h3) h2 (hd.pe b)) (fun b => pt_cmpSI S h1 (chk_star h3) h2 (hd.pe b)) (noBool rfl)
    | _ => exact bad h
  | .inS n a i, W, X, e, S, h => by
    cases e with
    | Compare l ops rs pos =>
      cases ops with
      | nil => exact bad h
      | cons o os =>
        cases os with
        | cons _ _ => exact bad h
        | nil =>
          cases rs with
          | nil => exact bad h
          | cons r rs =>
            cases rs with
            | cons _ _ => exact bad h
            | nil =>
              obtain ⟨h1, h2⟩ := and_of h
              obtain ⟨h2, h3⟩ := and_of h2
              have h1 := of_decide_eq_true h1
              subst h1
              have ha := sE a S h2
              exact .test (fun b => pe_inSI S h3 (ha.pe b)) (fun b => pt_inSI S h3 (ha.pe b)) (noBool rfl)
    | _ => exact bad h
  | .tup es, W, X, e, S, h => by
    cases e with
    | Tuple l k pos =>
      obtain ⟨h1, h2⟩ := and_of h
      exact .val (fun b => pe_tupI (of_decide_eq_true h1) (chkEs_len h2) (sEs es S h2 b)) (fun _ => rfl) (noBool rfl)
    | _ => exact bad h
  | .lst es, W, X, e, S, h => by
    cases e with
    | List l pos =>
      obtain ⟨h1, h2⟩ := and_of h
      exact .val (fun b => pe_lstI (of_decide_eq_true h1) (chkEs_len h2) (sEs es S h2 b)) (fun _ => rfl) (noBool rfl)
    | _ => exact bad h
  | .dict _ _, W, X, e, S, h => bad h
  | .pick ks es k, W, X, e, S, h => by
    cases e with
    | Subscript l j pos =>
      cases l with
      | Dict keys vals dp =>
        obtain ⟨h1, h2⟩ := and_of h
        obtain ⟨h2, h3⟩ := and_of h2
        obtain ⟨h3, h4⟩ := and_of h3
        obtain ⟨h4, h5⟩ := and_of h4
        obtain ⟨h5, h6⟩ := and_of h5
        obtain ⟨h6, h7⟩ := and_of h6
        exact .val (fun b => pe_pickI S h1 (sPs es S h2) (chk_star h3) (fun b => (sE k S h3).pe b) (of_decide_eq_true h4) (of_decide_eq_true h5) (of_decide_eq_true h6) (of_decide_eq_true h7)) (fun _ => rfl) (noBool rfl)
      | _ => exact bad h
    | _ => exact bad h
  | .call f es, W, X, e, S, h => by
    cases e with
    | Call fe args kws pos =>
      cases fe with
      | Name x p =>
        cases args with
        | nil =>
          cases kws with
          | nil =>
            cases es with
            | nil =>
              obtain ⟨h1, h2⟩ := and_of h
              obtain ⟨h0, h1⟩ := and_of h1
              exact .val (fun b => pe_call0I S (cool h0) h1 (of_decide_eq_true h2)) (fun _ => rfl) (noBool rfl)
            | cons _ _ => exact bad h
          | cons _ _ => cases es <;> exact bad h
        | cons a l =>
          cases kws with
          | nil =>
            have h : ((!ck.hot && globB X.env.scope x) && (decide (ck.fns.lookup x = some f) && chkEs ck X.N es X.env.scope (a :: l))) = true := by cases es <;> exact h
            obtain ⟨h1, h2⟩ := and_of h
            obtain ⟨h0, h1⟩ := and_of h1
            obtain ⟨h2, h3⟩ := and_of h2
            exact .val (fun b => pe_callI S (cool h0) h1 (of_decide_eq_true h2) (chkEs_odd h3) (sEs es S h3 b)) (fun _ => rfl) (noBool rfl)
          | cons _ _ => cases es <;> exact bad h
      | _ => cases es <;> exact bad h
    | _ => cases es <;> exact bad h
  | .callSel fs k es, W, X, e, S, h => by
    cases e with
    | Call fe args kws pos =>
      cases fe with
      | Subscript v i ip =>
        cases v with
        | List l lp =>
          cases args with
          | nil => exact bad h
          | cons a r =>
            cases kws with
            | nil =>
              obtain ⟨h1, h2⟩ := and_of h
              obtain ⟨h0, h1⟩ := and_of h1
              obtain ⟨hh, h0⟩ := and_of h0
              obtain ⟨h2, h3⟩ := and_of h2
              exact .val (fun b => pe_callSelI S (cool hh) h1 (chk_star h2) ((sE k S h2).pe b) (chkEs_odd h3) (of_decide_eq_true h0) (sEs es S h3 b)) (fun _ => rfl) (noBool rfl)
            | cons _ _ => exact bad h
        | _ => exact bad h
      | _ => exact bad h
    | _ => exact bad h
  | .bi f es, W, X, e, S, h => by
    cases e with
    | Call fe args kws pos =>
      cases fe with
      | Name x p =>
        cases args with
        | nil => exact bad h
        | cons a l =>
          cases kws with
          | nil =>
            obtain ⟨h1, h2⟩ := and_of h
            obtain ⟨h0, h1⟩ := and_of h1
            obtain ⟨h2, h3⟩ := and_of h2
            exact .val (fun b => pe_biI S (cool h0) h1 (of_decide_eq_true h2) (chkEs_odd h3) (sEs es S h3 b)) (fun _ => rfl) (noBool rfl)
          | cons _ _ => exact bad h
      | _ => exact bad h
    | _ => exact bad h
  | .lenS i, W, X, e, S, h => by
    cases e with
    | Call fe args kws pos =>
      cases fe with
      | Name x p =>
        cases args with
        | nil => exact bad h
        | cons a l =>
          cases l with
          | cons _ _ => exact bad h
          | nil =>
            cases kws with
            | nil =>
              obtain ⟨h1, h2⟩ := and_of h
              obtain ⟨h2, h3⟩ := and_of h2
              exact .val (fun b => pe_lenSI S h1 (of_decide_eq_true h2) h3) (fun _ => rfl) (noBool rfl)
            | cons _ _ => exact bad h
      | _ => exact bad h
    | _ => exact bad h
  | .join sep a, W, X, e, S, h => by
    cases e with
    | Call fe args kws pos =>
      cases fe with
      | Attribute o x ap =>
        cases o with
        | Constant k n p1 =>
          cases args with
          | nil => exact bad h
          | cons y l =>
            cases l with
            | cons _ _ => exact bad h
            | nil =>
              cases kws with
              | nil =>
                obtain ⟨h1, h2⟩ := and_of h
                obtain ⟨h2, h3⟩ := and_of h2
                obtain ⟨h3, h4⟩ := and_of h3
                exact .val (fun b => pe_joinI (of_decide_eq_true h1) h2 h3 (chk_star h4) ((sE a S h4).pe b)) (fun _ => rfl) (noBool rfl)
              | cons _ _ => exact bad h
        | _ => exact bad h
      | _ => exact bad h
    | _ => exact bad h
  | .meth m a es, W, X, e, S, h => by
    cases e with
    | Call fe args kws pos =>
      cases fe with
      | Attribute o x ap =>
        cases args with
        | nil => exact bad h
        | cons y l =>
          cases l with
          | cons _ _ => exact bad h
          | nil =>
            cases kws with
            | nil =>
              obtain ⟨h1, h2⟩ := and_of h
              obtain ⟨h2, h3⟩ := and_of h2
              obtain ⟨h2, h4⟩ := and_of h2
              obtain ⟨h3, h5⟩ := and_of h3
              exact .val (fun b => pe_methI S (of_decide_eq_true h1) h2 h4 (chkEs_odd h5) ((sE a S h3).pe b) (sEs es S h5 b)) (fun _ => rfl) (noBool rfl)
            | cons _ _ => exact bad h
      | _ => exact bad h
    | _ => exact bad h
  | .sub a i, W, X, e, S, h => by
    cases e with
    | Subscript l r pos =>
      obtain ⟨h1, h2⟩ := and_of h
      exact .val (fun b => pe_subI S (chk_star h2) ((sE a S h1).pe b) ((sE i S h2).pe b)) (fun _ => rfl) (noBool rfl)
    | _ => exact bad h
  | .subS k i, W, X, e, S, h => by
    cases e with
    | Subscript l r pos =>
      obtain ⟨h1, h2⟩ := and_of h
      exact .val (fun b => pe_subSI S (chk_star h2) h1 ((sE i S h2).pe b)) (fun _ => rfl) (noBool rfl)
    | _ => exact bad h
  | .cut a lo hi, W, X, e, S, h => by
    cases e with
    | Subscript l r pos =>
      cases r with
      | Slice x y z p =>
        cases z with
        | none =>
          obtain ⟨h1, h2⟩ := and_of h
          obtain ⟨h2, h3⟩ := and_of h2
          have hx : ∀ b, match x with | none => noneB lo = true | some x => noneB lo = false ∧ PE X x (TEr c b W Γ lo) := fun b => by
            cases x with
            | none => exact h2
            | some x =>
              obtain ⟨n, h2⟩ := and_of h2
              exact ⟨by simpa using n, (sE lo S h2).pe b⟩
          have hy : ∀ b, match y with | none => noneB hi = true | some y => noneB hi = false ∧ PE X y (TEr c b W Γ hi) := fun b => by
            cases y with
            | none => exact h3
            | some y =>
              obtain ⟨n, h3⟩ := and_of h3
              exact ⟨by simpa using n, (sE hi S h3).pe b⟩
          exact .val (fun b => pe_cutI S ((sE a S h1).pe b) (hx b) (hy b)) (fun _ => rfl) (noBool rfl)
        | some _ => exact bad h
      | _ => exact bad h
    | _ => exact bad h
  | .rev a, W, X, e, S, h => by
    cases e with
    | Subscript l r pos =>
      cases r with
      | Slice x y z p =>
        cases x with
        | some _ => exact bad h
        | none =>
          cases y with
          | some _ => exact bad h
          | none =>
            cases z with
            | none => exact bad h
            | some z =>
              cases z with
              | UnaryOp o u p2 =>
                cases o with
                | USub =>
                  cases u with
                  | Constant cc kk p1 =>
                    cases cc with
                    | int n =>
                      cases n with
                      | negSucc _ => exact bad h
                      | ofNat n =>
                        cases n with
                        | zero => exact bad h
                        | succ n =>
                          cases n with
                          | zero => exact .val (fun b => pe_revI S ((sE a S h).pe b)) (fun _ => rfl) (noBool rfl)
                          | succ _ => exact bad h
                    | _ => exact bad h
                  | _ => exact bad h
                | _ => exact bad h
              | _ => exact bad h
      | _ => exact bad h
    | _ => exact bad h
  | .step _ _, W, X, e, S, h => bad h
  | .rangeL a, W, X, e, S, h => by
    cases e with
    | Call fe args kws pos =>
      cases fe with
      | Name x p =>
        cases args with
        | nil => exact bad h
        | cons y l =>
          cases y with
          | Call fe2 args2 kws2 pos2 =>
            cases fe2 with
            | Name y p2 =>
              cases args2 with
              | nil => exact bad h
              | cons z l2 =>
                cases l2 with
                | cons _ _ => exact bad h
                | nil =>
                  cases kws2 with
                  | cons _ _ => exact bad h
                  | nil =>
                    cases l with
                    | cons _ _ => exact bad h
                    | nil =>
                      cases kws with
                      | cons _ _ => exact bad h
                      | nil =>
                        obtain ⟨h1, h2⟩ := and_of h
                        obtain ⟨h1, h3⟩ := and_of h1
                        obtain ⟨h1, h4⟩ := and_of h1
                        obtain ⟨h2, h5⟩ := and_of h2
                        obtain ⟨h2, h6⟩ := and_of h2
                        exact .val (fun b => pe_rangeLI S (cool h1) h4 (of_decide_eq_true h3) h2 (of_decide_eq_true h6) (chk_star h5) ((sE a S h5).pe b)) (fun _ => rfl) (noBool rfl)
            | _ => exact bad h
          | _ => exact bad h
      | _ => exact bad h
    | _ => exact bad h
  | .isin a ts, W, X, e, S, h => by
    cases e with
    | Call fe args kws pos =>
      cases fe with
      | Name x p =>
        cases args with
        | nil => exact bad h
        | cons y l =>
          cases l with
          | nil => exact bad h
          | cons t l =>
            cases l with
            | cons _ _ => exact bad h
            | nil =>
              cases kws with
              | nil =>
                obtain ⟨h1, h2⟩ := and_of h
                obtain ⟨h2, h3⟩ := and_of h2
                obtain ⟨h3, h4⟩ := and_of h3
                exact .val (fun b => pe_isinI S h1 (of_decide_eq_true h2) (chk_star h3) h4 ((sE a S h3).pe b)) (fun _ => rfl) (noBool rfl)
              | cons _ _ => exact bad h
      | _ => exact bad h
    | _ => exact bad h
  | .comp elt tg one it cond vs, W, X, e, S, h => by
    cases e with
    | ListComp x gs bsc pos =>
      cases gs with
      | nil => exact bad h
      | cons g1 gs =>
        obtain ⟨t, i, ifs, k⟩ := g1
        cases k with
        | negSucc _ => cases gs <;> exact bad h
        | ofNat k =>
          cases k with
          | succ _ => cases gs <;> exact bad h
          | zero =>
           cases gs with
           | cons _ _ => exact bad h
           | nil =>
            obtain ⟨h1, h2⟩ := and_of h
            obtain ⟨hh, h1⟩ := and_of h1
            have hh := cool hh
            obtain ⟨h2, h3⟩ := and_of h2
            obtain ⟨h3, h4⟩ := and_of h3
            obtain ⟨h4, h5⟩ := and_of h4
            obtain ⟨h5, h6⟩ := and_of h5
            obtain ⟨h5, h7⟩ := and_of h5
            obtain ⟨h6, h8⟩ := and_of h6
            have h2 := of_decide_eq_true h2
            have hsub : ∀ j ∈ tg, j ∈ vs := fun j hj => by simpa using List.all_eq_true.mp h5 j hj
            have htup : itTup it = true → ∃ elts kk tp, t = .Tuple elts kk tp := fun z => by
              rw [z] at h7
              have h7 : one = false := by simpa using h7
              subst h7
              cases t <;> first | exact ⟨_, _, _, rfl⟩ | exact bad h4 | (cases tg <;> exact bad h4)
            refine .val (fun b => ?_) (fun _ => rfl) (noBool rfl)
            refine cvE (pe_lc (g := TGr X.K tg one) (tt := TOr c Γ cond) (te := TEx c Γ elt) (S.calm hh) S.nd (sIt it S h3 htup b) (blkOk_by h1) (fun s H C cl fp => pg_tg (X := X.blk s H bsc (PySem.compEnvC bsc cl C X.env) fp) S.nd (S.calm hh) (fun x hx => sto_blk hx) h4) (fun s H C cl fp => sO (W := W) cond (S.blk hh s H bsc (PySem.compEnvC bsc cl C X.env) fp) h6) (fun s H C cl fp => ⟨fun pins s2 σ H2 Q I q => by
              obtain ⟨b', q⟩ := q
              exact (pe_f ((sE elt (S.blk hh s H bsc (PySem.compEnvC bsc cl C X.env) fp) h8).pe b')).run pins s2 σ H2 Q I q⟩) (folded_no (chkIt_odd h3))) fun σ H Q q => ?_
            rw [h2, S.K]
            exact comp_rd S.nd hsub q
    | _ => exact bad h
theorem sO : ∀ (o : Option') {W : WX} {X : Cx} {l : List Expr}, SC c ck Γ lv WF X → chkO ck X.N o X.env.scope l = true → PTs X l (TOr c Γ o)
  | .none, W, X, l, S, h => by
    cases l with
    | nil => exact pts_nil
    | cons _ _ => exact bad h
  | .some e, W, X, l, S, h => by
    cases l with
    | nil => exact bad h
    | cons x l =>
      cases l with
      | cons _ _ => exact bad h
      | nil =>
        refine pts_one ⟨fun pins s σ H Q I q => ?_⟩
        obtain ⟨b, q⟩ := q
        exact ((sE e S h).pt b).run pins s σ H Q I q
theorem sEs : ∀ (es : Es) {W : WX} {X : Cx} {l : List Expr}, SC c ck Γ lv W X → chkEs ck X.N es X.env.scope l = true → ∀ b, PA X l (TAf c b W Γ es)
  | .nil, W, X, l, S, h, b => by
    cases l with
    | nil => exact pa_nilI
    | cons _ _ => exact bad h
  | .cons e es, W, X, l, S, h, b => by
    cases l with
    | nil => exact bad h
    | cons x l =>
      obtain ⟨h1, h2⟩ := and_of h
      exact pa_consI (chk_star h1) ((sE e S h1).pe b) (sEs es S h2 b)
theorem sPs : ∀ (es : Es) {W : WX} {X : Cx} {l : List Expr}, SC c ck Γ lv W X → chkEs ck X.N es X.env.scope l = true → PEs X c Γ W es l
  | .nil, W, X, l, S, h => by
    cases l with
    | nil => exact True.intro
    | cons _ _ => exact bad h
  | .cons e es, W, X, l, S, h => by
    cases l with
    | nil => exact bad h
    | cons x l =>
      obtain ⟨h1, h2⟩ := and_of h
      exact ⟨fun b => (sE e S h1).pe b, sPs es S h2⟩
theorem sIt : ∀ (it : Wi.It) {W : WX} {X : Cx} {e tg : Expr}, SC c ck Γ lv W X → chkIt ck X.N it X.env.scope e = true → (itTup it = true → ∃ elts kk tp, tg = .Tuple elts kk tp) → ∀ b, PI X tg e (TIr c b W Γ it)
  | .val i, W, X, e, tg, S, h, ht, b => pi_val S ((sE i S h).pe b)
  | .range1 a, W, X, e, tg, S, h, ht, b => by
    cases e with
    | Call fe args kws pos =>
      cases fe with
      | Name x p =>
        cases args with
        | nil => exact bad h
        | cons y l =>
          cases l with
          | cons _ _ => exact bad h
          | nil =>
            cases kws with
            | nil =>
              obtain ⟨h1, h2⟩ := and_of h
              obtain ⟨h2, h3⟩ := and_of h2
              exact pi_range1I S h1 (of_decide_eq_true h2) (chk_star h3) ((sE a S h3).pe b)
            | cons _ _ => exact bad h
      | _ => exact bad h
    | _ => exact bad h
  | .range2 a d, W, X, e, tg, S, h, ht, b => by
    cases e with
    | Call fe args kws pos =>
      cases fe with
      | Name x p =>
        cases args with
        | nil => exact bad h
        | cons y l =>
          cases l with
          | nil => exact bad h
          | cons z l =>
            cases l with
            | cons _ _ => exact bad h
            | nil =>
              cases kws with
              | nil =>
                obtain ⟨h1, h2⟩ := and_of h
                obtain ⟨h2, h3⟩ := and_of h2
                obtain ⟨h3, h4⟩ := and_of h3
                exact pi_range2I S h1 (of_decide_eq_true h2) (chk_star h3) (chk_star h4) ((sE a S h3).pe b) ((sE d S h4).pe b)
              | cons _ _ => exact bad h
      | _ => exact bad h
    | _ => exact bad h
  | .range3 a d f, W, X, e, tg, S, h, ht, b => by
    cases e with
    | Call fe args kws pos =>
      cases fe with
      | Name x p =>
        cases args with
        | nil => exact bad h
        | cons y l =>
          cases l with
          | nil => exact bad h
          | cons z l =>
            cases l with
            | nil => exact bad h
            | cons w l =>
              cases l with
              | cons _ _ => exact bad h
              | nil =>
                cases kws with
                | nil =>
                  obtain ⟨h1, h2⟩ := and_of h
                  obtain ⟨h2, h3⟩ := and_of h2
                  obtain ⟨h3, h4⟩ := and_of h3
                  obtain ⟨h4, h5⟩ := and_of h4
                  exact pi_range3I S h1 (of_decide_eq_true h2) (chk_star h3) (chk_star h4) (chk_star h5) ((sE a S h3).pe b) ((sE d S h4).pe b) ((sE f S h5).pe b)
                | cons _ _ => exact bad h
      | _ => exact bad h
    | _ => exact bad h
  | .enum a, W, X, e, tg, S, h, ht, b => by
    obtain ⟨elts, kk, tp, rfl⟩ := ht rfl
    cases e with
    | Call fe args kws pos =>
      cases fe with
      | Name x p =>
        cases args with
        | nil => exact bad h
        | cons y l =>
          cases l with
          | cons _ _ => exact bad h
          | nil =>
            cases kws with
            | nil =>
              obtain ⟨h1, h2⟩ := and_of h
              obtain ⟨h2, h3⟩ := and_of h2
              exact pi_enumI S h1 (of_decide_eq_true h2) (chk_star h3) ((sE a S h3).pe b)
            | cons _ _ => exact bad h
      | _ => exact bad h
    | _ => exact bad h
  | .zip a d, W, X, e, tg, S, h, ht, b => by
    obtain ⟨elts, kk, tp, rfl⟩ := ht rfl
    cases e with
    | Call fe args kws pos =>
      cases fe with
      | Name x p =>
        cases args with
        | nil => exact bad h
        | cons y l =>
          cases l with
          | nil => exact bad h
          | cons z l =>
            cases l with
            | cons _ _ => exact bad h
            | nil =>
              cases kws with
              | nil =>
                obtain ⟨h1, h2⟩ := and_of h
                obtain ⟨h2, h3⟩ := and_of h2
                obtain ⟨h3, h4⟩ := and_of h3
                exact pi_zipI S h1 (of_decide_eq_true h2) (chk_star h3) (chk_star h4) ((sE a S h3).pe b) ((sE d S h4).pe b)
              | cons _ _ => exact bad h
      | _ => exact bad h
    | _ => exact bad h
end
end
end Wi

/-! A def called within an except suite, the exception in hand known. -/
namespace Wi
open PySem PySem.Spec PyProof.Rows L2
/-- the exception in hand stands at a, of the k-th class -/
def hotCn (c : Cn) (a : Addr) (k : Nat) : Cn := { c with xa := a, xk := k }
/-- a def's promise where just p is handled -/
structure FnE (P : Program) (w : World) (K : PySem.W.Frag) (mg : Str → Option Value) (base : Heap) (CX : CXT) (k : Nat) (f : Addr) (fd : FuncData) (ps : List Str) (p : Addr × Obj) (sp : Sp) : Prop where
  len : ∀ vs H Q E, sp vs H Q E → vs.length = ps.length
  run : ∀ (A : Around) (outer : List Env) (s : Shared) (H : Hp) (args : Args) (us : List Value) (vs : List V) (Q : VK) (E : XK),
    L2H.RoomH k A → L2H.Hot1 A p → L2H.PinOk outer H s p → Env0 P w K mg base A outer s H → BindsTo s fd args (ps.zip us) → Vals vs us → sp vs H Q E →
    codeAny (model P w) A (.call (.ref f) args) (CR CX outer P w H s Q E) s
section
variable {CX : CXT} {P : Program} {w : World} {K : PySem.W.Frag} {mg : Str → Option Value} {base : Heap} {k : Nat} {f : Addr} {name qual : Str} {params : Arguments} {body : List Stmt} {scope : Scope}
  {dV kV doc pm cdv ct oc : Value} {an od : Option Addr} {osl : Array (Option Value)} {N ps : List Str} {sp : Sp} {p : Addr × Obj}
theorem fn_ofE (lk : K.lookup f = some ⟨oc, od, .func (PySem.W.fnOf name qual params body scope dV kV doc pm an cdv ct), osl⟩)
    (hcd : PySem.W.codeIn K cdv qual = true) (S : FnScope N ps scope) (len : ∀ vs H Q E, sp vs H Q E → vs.length = ps.length)
    (hb : ∀ (A : Around) (outer : List Env) (s : Shared) (H : Hp) (vs : List V) (Q : VK) (E : XK), L2H.Hot1 A p → L2H.RoomH k (A.deeper (envOfC qual scope s.heap.objs.size f cdv)) → sp vs H Q E →
      ∃ t, PSs (L2H.cxH CX P w K mg base N qual scope f cdv A outer s H E p) body t ∧ t { nx := fun _ H' => Q .non H', rt := Q } (L2.start N vs) H) :
    FnE P w K mg base CX (k + 1) f (PySem.W.fnOf name qual params body scope dV kV doc pm an cdv ct) ps p sp := by
  refine ⟨len, ?_⟩
  intro A outer s H args us vs Q E hr hot hpin e0 hbi r hsp
  have KX : K.In s.heap := e0.mod.kin.keeps fun b o e => (e0.bs b o e).1
  have kinds : ∀ y ∈ ps.zip us, scope.names.lookup y.1 = some .local ∨
      (scope.names.lookup y.1 = some .cell ∧ ((cellsFrom (s.heap.objs.size + 1) scope.names []).lookup y.1).isSome = true) := by
    rintro ⟨n, v⟩ hy
    have := S.par n (List.of_mem_zip hy).1
    exact this.imp id fun q => ⟨q, PySem.W.cellsFrom_some _ _ _ (.inl q)⟩
  refine codeAny_call_function hr.depth (KX _ _ lk) rfl S.co S.gen rfl
    (PySem.W.codeRec_of KX hcd) (hbi _ _ _ _ (wpAny_newFunctionEnv_cells S.kind kinds fun env he s1 x => ?_))
  subst he
  have lim : s.heap.NoLimit := e0.mod.nolimit.keeps fun b o e => (e0.bs b o e).1
  refine ⟨lim.keeps x.toInCall.keep, codeAny_func ?_⟩
  obtain ⟨t, ht, hq⟩ := hb A outer s H vs Q E hot (hr.deeper _) hsp
  have I := L2H.inv_startH (CX := CX) (E := E) S hpin e0 (len _ _ _ _ hsp) r x
  refine wpAny_mono (ht.run [] s1 _ H _ I hq) (fun fl s' hs => ?_) fun e s' hs => hs
  cases fl with
  | ret u =>
    obtain ⟨v, σ', H', J, rv, q⟩ := hs
    exact ⟨v, H', J.os, J.bare, J.base, J.hok, rv, q⟩
  | next =>
    obtain ⟨σ', H', J, q⟩ := hs
    exact ⟨.non, H', J.os, J.bare, J.base, J.hok, rfl, q⟩
  | brk =>
    obtain ⟨_, _, _, q⟩ := hs
    exact q.elim
  | cont =>
    obtain ⟨_, _, _, q⟩ := hs
    exact q.elim
end
section
variable {X : Cx} {CX : CXT} {k : Nat} {f : Addr} {fd : FuncData} {ps : List Str} {sp : Sp} {E : L2.St → XK} {x : Str} {q pos : Pos} {e : Expr} {es : List Expr} {t : TA} {p : Addr × Obj}
theorem run_fnE {pins : List (Addr × Obj)} {σ : L2.St} {H : Hp} {s : Shared} {Q : VK} {us : List Value} {vs : List V} (F : FnE X.prog X.w X.K X.mg X.base CX k f fd ps p sp) (hr : L2H.RoomH k X.A) (hot : L2H.Hot1 X.A p) (hp : p ∈ X.pn)
    (hb : Binds X.K fd ps []) (hx : PassesAt CX X σ (E σ)) (I : L2.Inv X pins σ H s) (r : Vals vs us) (h : sp vs H Q (E σ)) : wpAny (model X.prog X.w) X.A (call (.ref f) us) (EP X pins σ Q) X.xe s := by
  have hl : us.length = ps.length := r.length.symm.trans (F.len _ _ _ _ h)
  have bi := hb s us I.kIn (by rw [List.append_nil]; exact hl)
  rw [List.append_nil] at bi
  obtain ⟨P1, P2, P3, P4, P5⟩ := I.pin p (List.mem_append_left _ hp)
  have ok : L2H.PinOk X.stack H s p := ⟨P1, P2, fun hm => (List.mem_cons.mp (I.stkSub p.1 hm)).elim P3 P4, P5⟩
  refine wpAny_call (codeAny_mono (F.run X.A X.stack s H ⟨us, []⟩ us vs Q (E σ) hr hot ok I.env0 bi r h) fun r s' hq => ?_)
  match r, hq with
  | .error e, hq => exact hx pins H s e s' I hq
  | .ok (.ret u), hq => exact I.after hq
  | .ok .next, hq => exact hq.elim
  | .ok .brk, hq => exact hq.elim
  | .ok .cont, hq => exact hq.elim
theorem pe_callE (F : FnE X.prog X.w X.K X.mg X.base CX k f fd ps p sp) (hr : L2H.RoomH k X.A) (hot : L2H.Hot1 X.A p) (hp : p ∈ X.pn) (hg : Gl X x) (hm : X.mg x = some (.ref f)) (hk : PySem.W.keepIn X.K (.ref f) = true) (hb : Binds X.K fd ps []) (hx : ∀ σ, PassesAt CX X σ (E σ))
    (ha : PA X (e :: es) t) (hdb : (x == ("__debug__" : Str)) = false) (he : starEach (e :: es) X.env = (false, eval e X.env) :: starEach es X.env) (hpl : (backTo pos (starEach es X.env)).any (·.1) = false) :
    PE X (.Call (.Name x q) (e :: es) [] pos) (tCallS sp E t) := by
  refine ⟨fun pins s σ H Q I h => wpAny_Call_Name_kw (ld_glob I hg hm ?_ hdb)⟩
  have A1 := thn (ha.run pos pins s σ H _ I h) (Q' := fun us s1 => X.K.In s1.heap ∧ wpAny (model X.prog X.w) X.A (call (.ref f) us) (EP X pins σ Q) X.xe s1)
    fun us s1 ⟨vs, H1, I1, r, q⟩ => ⟨I1.kIn, run_fnE F hr hot hp hb (hx σ) I1 r q⟩
  exact PySem.W.callWith_K (h₀ := X.base) I.ok.mod.kin hk A1 he hpl
end
end Wi

/-! Soundness 13: statements, first part. -/
namespace Wi
open PySem PySem.Spec PyProof.Rows L2
/-- a suite's reading: where it ends -/
def FP (c : Cn) (b : Bs) (W : WX) (D : Ends) (g : G) (m : Res Fl) : Prop :=
  match m with
  | .ok fl s => match fl with
    | .nx => ∀ σ' g' H', G.le g g' → Abs c b g' σ' H' s → D.nx σ' H'
    | .ct => ∀ σ' g' H', G.le g g' → Abs c b g' σ' H' s → D.ct σ' H'
    | .rt r => ∀ σ' g' H' v, G.le g g' → Abs c b g' σ' H' s → RepO c b g' H' r v → D.rt v H'
  | .exc k s => ∀ σ' g' H', G.le g g' → Abs c b g' σ' H' s → W (.ref (c.ca k)) none σ' H'
  | .err => False
def TSr (c : Cn) (b : Bs) (W : WX) (Γ : Gam) (i : S) : TS := fun D σ H => ∃ g s, Abs c b g σ H s ∧ FP c b W D g (exec Γ i s)
def TSs (c : Cn) (b : Bs) (W : WX) (Γ : Gam) (i : Ss) : TS := fun D σ H => ∃ g s, Abs c b g σ H s ∧ FP c b W D g (execs Γ i s)
section
variable {c : Cn} {b : Bs} {W : WX} {D : Ends} {g g' : G} {Γ : Gam}
theorem FP.weak {m : Res Fl} (h : FP c b W D g m) (le : G.le g g') : FP c b W D g' m := by
  cases m with
  | ok fl s =>
    cases fl with
    | nx => exact fun σ' g1 H1 l A => h σ' g1 H1 (le.trans l) A
    | ct => exact fun σ' g1 H1 l A => h σ' g1 H1 (le.trans l) A
    | rt r => exact fun σ' g1 H1 v l A => h σ' g1 H1 v (le.trans l) A
  | exc k s => exact fun σ' g1 H1 l A => h σ' g1 H1 (le.trans l) A
  | err => exact h
theorem FP.bindE {α : Type} {m : Res α} {f : α → Wi.St → Res Fl} {σ : L2.St} (h : FP c b W D g (m.bind f)) : RP c b W σ g m (fun a s1 g1 H1 => FP c b W D g1 (f a s1)) := by
  cases m with
  | ok a s => exact fun g1 H1 l A => FP.weak h l
  | exc k s => exact fun g1 H1 l A => h σ g1 H1 l A
  | err => exact h
/-- one suite, then more -/
theorem FP.bindS {m : Res Fl} {f : Fl → Wi.St → Res Fl} {N C : L2.St → Hp → Prop} (h : FP c b W D g (m.bind f)) (hr : ∀ r s, f (.rt r) s = .ok (.rt r) s)
    (hn : ∀ s, m = .ok .nx s → ∀ σ' g' H', G.le g g' → Abs c b g' σ' H' s → FP c b W D g' (f .nx s) → N σ' H') (hc : ∀ s, m = .ok .ct s → ∀ σ' g' H', G.le g g' → Abs c b g' σ' H' s → FP c b W D g' (f .ct s) → C σ' H') {bk : L2.St → Hp → Prop} : FP c b W { D with nx := N, ct := C, bk := bk } g m := by
  cases m with
  | ok fl s =>
    cases fl with
    | nx => exact fun σ' g1 H1 l A => hn s rfl σ' g1 H1 l A (FP.weak h l)
    | ct => exact fun σ' g1 H1 l A => hc s rfl σ' g1 H1 l A (FP.weak h l)
    | rt r =>
      have h : FP c b W D g (f (.rt r) s) := h
      rw [hr] at h
      exact h
  | exc k s => exact h
  | err => exact h
end
/-! ### the look at statements -/
def notLC : Expr → Bool
  | .ListComp .. => false | .SetComp .. => false | .DictComp .. => false | _ => true
def notTup : Expr → Bool
  | .Tuple .. => false | _ => true
/-- swappedStores, looked up -/
def swR (sc : Scope) (ts vs : List Expr) : Option (Option (List Str)) :=
  if (!(ts.length == 2 || ts.length == 3) || vs.length != ts.length) = true then some none
  else if (vs.any fun | .Starred .. => true | _ => false) = true then some none
  else if ((ts.filterMap fun | .Name id pos => if (sc.names.lookup id == some .local && pos.line == (ts.head?.map (·.pos.line)).getD 0) = true then some id else none | _ => none).length != ts.length ||
    (ts.filterMap fun | .Name id pos => if (sc.names.lookup id == some .local && pos.line == (ts.head?.map (·.pos.line)).getD 0) = true then some id else none | _ => none).eraseDups.length != (ts.filterMap fun | .Name id pos => if (sc.names.lookup id == some .local && pos.line == (ts.head?.map (·.pos.line)).getD 0) = true then some id else none | _ => none).length) = true then some none
  else if vs.all (foldedForSure 8) = true then some none
  else if vs.all (constantsAlone 8) = true then none
  else some (some (ts.filterMap fun | .Name id pos => if (sc.names.lookup id == some .local && pos.line == (ts.head?.map (·.pos.line)).getD 0) = true then some id else none | _ => none))
theorem swR_ok {env : Env} {ts vs : List Expr} {k k2 : Nat} {tp tp2 : Pos} {r : Option (List Str)} (hb : env.blockKind = .function) (h : swR env.scope ts vs = some r) : swappedStores [.Tuple ts k tp] (.Tuple vs k2 tp2) env = pure r := by
  unfold swR at h
  unfold swappedStores
  have e : (env.blockKind != .function) = false := by rw [hb]; rfl
  simp only [e, Bool.or_false]
  split at h
  · rename_i c1
    cases h
    exact if_pos c1
  · rename_i c1
    refine Eq.trans (if_neg c1) ?_
    split at h
    · rename_i c2
      cases h
      exact if_pos c2
    · rename_i c2
      refine Eq.trans (if_neg c2) ?_
      split at h
      · rename_i c3
        cases h
        exact if_pos c3
      · rename_i c3
        refine Eq.trans (if_neg c3) ?_
        split at h
        · rename_i c4
          cases h
          exact if_pos c4
        · rename_i c4
          refine Eq.trans (if_neg c4) ?_
          split at h
          · cases h
          · rename_i c5
            cases h
            exact if_neg c5
def parB (sc : Scope) (is : List Nat) (ts vs : List Expr) : Bool :=
  match swR sc ts vs with
  | none => false
  | some none => true
  | some (some names) => match is, ts with
    | [i, j], [.Name x _, .Name y _] => decide (names = [x, y]) && (locB sc x && (locB sc y && decide (i ≠ j)))
    | [i, j, l], [.Name x _, .Name y _, .Name z _] => decide (names = [x, y, z]) && ((locB sc x && (locB sc y && locB sc z)) && (decide (i ≠ j) && (decide (i ≠ l) && decide (j ≠ l))))
    | _, _ => false
mutual
def chkS (ck : CK) (N : List Str) : S → Scope → Stmt → Bool
  | .stuck, _, _ => true
  | .set i e, sc, .Assign [.Name x p] v pos => decide (N[i]? = some x) && (stoB sc x && chkE ck N e sc v)
  | .shr i, sc, .Assign [.Name x p] (.List [] lp) pos => decide (N[i]? = some x) && stoB sc x
  | .unp is e, sc, .Assign [.Tuple ts k tp] v pos => (!ck.hot && namesT N sc is ts) && (notTup v && chkE ck N e sc v)
  | .par is es, sc, .Assign [.Tuple ts k tp] (.Tuple vs k2 tp2) pos => (!ck.hot && namesT N sc is ts) && ((decide (ts.length ≤ 1000) && chkEs ck N es sc vs) && parB sc is ts vs)
  | .expr e, sc, .Expr v pos => notLC v && chkE ck N e sc v
  | .app i e, sc, .Expr (.Call (.Attribute (.Name x p) m ap) [v] [] cp) pos => decide (m = ("append" : Str)) && ((ap.endLine == cp.line) && (nameB N sc i x && chkE ck N e sc v))
  | .ext i e, sc, .Expr (.Call (.Attribute (.Name x p) m ap) [v] [] cp) pos => decide (m = ("extend" : Str)) && ((ap.endLine == cp.line) && (nameB N sc i x && chkE ck N e sc v))
  | .put i k e, sc, .Assign [.Subscript (.Name x p) j p'] v pos => nameB N sc i x && (chkE ck N k sc j && (notLC v && chkE ck N e sc v))
  | .ite t a b, sc, .If x p q _ => chkE ck N t sc x && (chkSs ck N a sc p && chkSs ck N b sc q)
  | .for tg one it b, sc, .For t i body [] _ => (!ck.hot && chkIt ck N it sc i) && (tgOk N sc tg one t && ((!itTup it || !one) && chkSs ck N b sc body))
  | .while t b, sc, .While x body [] _ => chkE ck N t sc x && chkSs ck N b sc body
  | .ret e, sc, .Return (some v) _ => chkE ck N e sc v
  | .ret e, _, .Return none _ => noneB e
  | .retS i, sc, .Return (some v) _ => isName N sc i v
  | .raise k, sc, .Raise (some (.Call (.Name x p) [.Constant (.str m) j p2] [] cp)) none pos => globB sc x && (!ck.hot && decide (ck.exs.lookup x = some k))
  | .tryRet b ks (.which i f), sc, .Try body [.ExceptHandler (some (.Name x np)) (some n) [.Return (some (.Call (.Name y yp) [.Name z zp] [] cp)) rp] hp] [] [] pos =>
    (!ck.hot && (locB sc n && (decide (N[i]? = some n) && (decide (z = n) && dunder z)))) && ((globB sc x && (decide (ck.exs.lookup x = some 0) && decide (ks = [0]))) && ((globB sc y && decide (ck.hots.lookup y = some f)) && chkSs ck N b sc body))
  | .cont, _, .Continue _ => true
  | .pass, _, .Pass _ => true
  | _, _, _ => false
def chkSs (ck : CK) (N : List Str) : Ss → Scope → List Stmt → Bool
  | .nil, _, [] => true
  | .cons a b, sc, x :: l => chkS ck N a sc x && chkSs ck N b sc l
  | _, _, _ => false
end
/-- the static context of a def's body -/
structure SD (c : Cn) (ck : CK) (Γ : Gam) (lv : Nat) (W : WX) (X : Cx) : Prop extends SC c ck Γ lv W X where
  own : PassesOwn (model X.prog X.w) X.A X.env X.xe
  fn1 : ∀ x, X.fn x = true
  kd : X.env.scope.kind = .function
  stk : X.stack = X.env :: X.outer
  frm : X.env.frame = some X.env.locals
  hotf : ∀ y f, ck.hots.lookup y = some f → X.mg y = some (.ref (c.fa f)) ∧ PySem.W.keepIn X.K (.ref (c.fa f)) = true ∧ (∀ k, k < 13 → PySem.W.exmOne X.K (.ref (c.ca k)) (.ref (c.ca 0)) = some true) ∧
    ∀ a k oe, k < 13 → L2N.Zn (.ref (c.ca k)) none oe → (∃ vs, oe.data = .fields vs) → ∃ fd ps, FnE X.prog X.w X.K X.mg X.base (L2N.CX X.prog X.w) lv (c.fa f) fd ps (a, oe) (spOf (hotCn c a k) Γ f 1) ∧ Binds X.K fd ps []
section
variable {c : Cn} {ck : CK} {b : Bs} {Γ : Gam} {lv : Nat} {W : WX} {X : Cx}
theorem SD.sto (S : SD c ck Γ lv W X) {x : Str} (h : stoB X.env.scope x = true) : Sto X x := by
  unfold stoB at h
  split at h
  · rename_i e; exact ⟨.inl e, .inl (S.fn1 x)⟩
  · rename_i e; exact ⟨.inr e, .inl (S.fn1 x)⟩
  · exact bad h
theorem swaps_no {v : Expr} {t : Option Expr} {l : Nat} {env : Env} (h : notLC v = true) : swapsWith v t l env = pure false := by
  cases v <;> first | rfl | cases h
theorem ps_stuck {st : Stmt} : PS X st (TSr c b W Γ .stuck) := ⟨fun _ _ _ _ _ _ h => by
  obtain ⟨_, _, _, q⟩ := h
  exact False.elim q⟩
theorem put_ok {g : G} {σ : L2.St} {H : Hp} {s : Wi.St} {i : Nat} {r : Rv} {v : V} {D : Ends} {k : Wi.St → Res Fl} (A : Abs c b g σ H s) (hv : RepR c b g σ H s r v) (q : FP c b W D g ((Wi.put i r s).bind fun _ s => k s)) : ∃ s', FP c b W D g (k s') ∧ Abs c b g (σ.set i (some v)) H s' := by
  unfold Wi.put at q
  split at q
  · rename_i hi
    exact ⟨_, q, A.put hv hi⟩
  · exact False.elim q
theorem nx_ok {g : G} {σ : L2.St} {H : Hp} {s : Wi.St} {D : Ends} (q : FP c b W D g (.ok .nx s)) (A : Abs c b g σ H s) : D.nx σ H := q σ g H (G.le.refl g) A
theorem set_rd {σ : L2.St} {H : Hp} {D : Ends} {i : Nat} {e : E} (q : TSr c b W Γ (.set i e) D σ H) : tAsg (TEr c b W Γ e) (gName i) D σ H := by
  obtain ⟨g, s, A, q⟩ := q
  have q : FP c b W D g ((ev Γ e s).bind fun r s => (Wi.put i r s).bind fun _ s => .ok .nx s) := q
  refine ⟨g, s, A, (FP.bindE q).imp fun r s1 g1 H1 _ l A1 q v hv => ?_⟩
  obtain ⟨s', q, A'⟩ := put_ok A1 hv q
  exact nx_ok q A'
/-- x = e -/
theorem ps_setI (S : SD c ck Γ lv W X) {i : Nat} {x : Str} {p pos : Pos} {v : Expr} {e : E} (hi : X.N[i]? = some x) (hx : stoB X.env.scope x = true) (h : chkE ck X.N e X.env.scope v = true) : PS X (.Assign [.Name x p] v pos) (TSr c b W Γ (.set i e)) := by
  obtain ⟨hl, hf⟩ := S.sto hx
  have hv := sE e S.toSC h
  by_cases hn : notLC v = true
  · exact cvS (ps_set S.nd hi hl (hv.pe b) (swaps_no hn) hf) fun D σ H q => set_rd q
  · cases v with
    | ListComp y gs bsc vp =>
      by_cases hs : (X.env.scope.names.lookup x = some .local) ∧ (p.line == vp.line) = true ∧ (bsc.names.any fun (n, k) => n == x && (k == .local || k == .cell)) = false
      · -- stored within
        obtain ⟨h1, h2, h3⟩ := hs
        have sw := sw_true (elt := y) (gs := gs) (pos := vp) (py := p) (l := pos.line) (env := X.env) S.kd h1 h2 h3
        cases e with
        | comp elt tg one it cond vs =>
          cases gs with
          | nil => exact bad h
          | cons g1 gs =>
            obtain ⟨t, i', ifs, k⟩ := g1
            cases k with
            | negSucc _ => cases gs <;> exact bad h
            | ofNat k =>
              cases k with
              | succ _ => cases gs <;> exact bad h
              | zero =>
               cases gs with
               | cons _ _ => exact bad h
               | nil =>
                obtain ⟨k1, k2⟩ := and_of h
                obtain ⟨hh, k1⟩ := and_of k1
                have hh := cool hh
                obtain ⟨k2, k3⟩ := and_of k2
                obtain ⟨k3, k4⟩ := and_of k3
                obtain ⟨k4, k5⟩ := and_of k4
                obtain ⟨k5, k6⟩ := and_of k5
                obtain ⟨k5, k7⟩ := and_of k5
                obtain ⟨k6, k8⟩ := and_of k6
                have k2 := of_decide_eq_true k2
                have hsub : ∀ j ∈ tg, j ∈ vs := fun j hj => by simpa using List.all_eq_true.mp k5 j hj
                have htup : itTup it = true → ∃ elts kk tp, t = .Tuple elts kk tp := fun z => by
                  rw [z] at k7
                  have k7 : one = false := by simpa using k7
                  subst k7
                  cases t <;> first | exact ⟨_, _, _, rfl⟩ | exact bad k4 | (cases tg <;> exact bad k4)
                refine cvS (ps_setLc (g := TGr X.K tg one) (tt := TOr c Γ cond) (te := TEx c Γ elt) (S.calm hh) S.nd hi h1 sw (sIt it S.toSC k3 htup b) (blkOk_by k1) (fun s H C cl fp => pg_tg (X := X.blk s H bsc (PySem.compEnvC bsc cl C X.env) fp) S.nd (S.calm hh) (fun x hx => sto_blk hx) k4) (fun s H C cl fp => sO (W := W) cond (S.toSC.blk hh s H bsc (PySem.compEnvC bsc cl C X.env) fp) k6) (fun s H C cl fp => ⟨fun pins s2 σ H2 Q I q => by
                  obtain ⟨b', q⟩ := q
                  exact (pe_f ((sE elt (S.toSC.blk hh s H bsc (PySem.compEnvC bsc cl C X.env) fp) k8).pe b')).run pins s2 σ H2 Q I q⟩) (folded_no (chkIt_odd k3))) fun D σ H q => ?_
                have q := set_rd q
                rw [k2, S.K]
                exact comp_rd S.nd hsub q
        | stuck => exact bad h
        | glob r => cases r <;> exact bad h
        | call f es => cases es <;> exact bad h
        | _ => exact bad h
      · have sw : swapsWith (.ListComp y gs bsc vp) (some (.Name x p)) pos.line X.env = pure false := by
          have hb : X.env.blockKind = .function := by unfold Env.blockKind; rw [S.kd]; rfl
          unfold swapsWith
          simp only [hb]
          have key : ((X.env.kindOf x == some .local) && (p.line == vp.line) && !(bsc.names.any fun (n, k) => n == x && (k == .local || k == .cell))) = false := by
            cases a1 : (X.env.kindOf x == some .local) with
            | false => rfl
            | true =>
              cases a2 : (p.line == vp.line) with
              | false => rfl
              | true =>
                cases a3 : (bsc.names.any fun (n, k) => n == x && (k == .local || k == .cell)) with
                | true => rfl
                | false => exact absurd ⟨(beq_iff_eq.mp a1 : X.env.kindOf x = some .local), a2, a3⟩ hs
          show pure ((ScopeKind.function == ScopeKind.function) && (X.env.kindOf x == some .local) && (p.line == vp.line) && !(bsc.names.any fun (n, k) => n == x && (k == .local || k == .cell))) = _
          have e1 : (ScopeKind.function == ScopeKind.function) = true := rfl
          rw [e1, Bool.true_and, key]
        exact cvS (ps_set S.nd hi hl (hv.pe b) sw hf) fun D σ H q => set_rd q
    | SetComp => have := chk_star h; cases this
    | DictComp => have := chk_star h; cases this
    | _ => exact absurd rfl hn
end
end Wi

/-! Soundness 14: statements. -/
namespace Wi
open PySem PySem.Spec PyProof.Rows L2
section
variable {c : Cn} {b : Bs} {g g' : G} {σ : L2.St} {H H' : Hp} {s : Wi.St}
/-- a new list of the store -/
theorem Abs.newShr {p : Addr} (A : Abs c b g σ H s) (hp : H p = none) : G.le g ⟨g.F, g.as ++ [p]⟩ ∧ Abs c b ⟨g.F, g.as ++ [p]⟩ σ (upd H p (.lst [])) ⟨s.sl, s.sh ++ [.lst []]⟩ := by
  have hle : G.le g ⟨g.F, g.as ++ [p]⟩ := ⟨Sub.refl _, [p], rfl⟩
  have fp : g.F p = none := by
    cases e : g.F p with
    | none => rfl
    | some u => rw [A.sh.fh _ _ e] at hp; cases hp
  have nas : p ∉ g.as := fun hm => by
    obtain ⟨u, e⟩ := A.sh.tracked hm
    rw [hp] at e; cases e
  have up : ∀ {a u}, H a = some u → upd H p (.lst []) a = some u := fun {a u} e => by rw [upd_ne (ne_of_none e hp)]; exact e
  refine ⟨hle, ⟨fun a u e => up (A.sh.fh a u e), ?_, ?_, fun a ha => ?_, fun i o a h1 h2 => ?_⟩, A.len, fun i r h => ?_, A.sep, A.le.trans hle, fun a u e n => ?_, A.fnew, fun a ha => ?_⟩
  · show (g.as ++ [p]).length = (s.sh ++ [_]).length
    rw [List.length_append, List.length_append, A.sh.len]; rfl
  · show (g.as ++ [p]).Nodup
    rw [List.nodup_append]
    refine ⟨A.sh.nd, by simp, fun a ha y hy => ?_⟩
    rw [List.mem_singleton.mp hy]
    exact fun z => nas (z ▸ ha)
  · rcases List.mem_append.mp ha with z | z
    · exact A.sh.fr a z
    · rw [List.mem_singleton.mp z]; exact fp
  · have h1 : (s.sh ++ [Ob.lst []])[i]? = some o := h1
    have h2 : (g.as ++ [p])[i]? = some a := h2
    by_cases hi : i < s.sh.length
    · rw [List.getElem?_append_left hi] at h1
      rw [List.getElem?_append_left (by rw [A.sh.len]; exact hi)] at h2
      cases o with
      | lst ds =>
        obtain ⟨vs, q1, q2⟩ := A.sh.ob i _ a h1 h2
        exact ⟨vs, up q1, q2⟩
    · rw [List.getElem?_append_right (by omega)] at h1
      rw [List.getElem?_append_right (by rw [A.sh.len]; omega), A.sh.len] at h2
      have : i - s.sh.length = 0 := by
        cases e : i - s.sh.length with
        | zero => rfl
        | succ n => rw [e] at h1; simp at h1
      rw [this] at h1 h2
      cases h1; cases h2
      exact ⟨[], upd_same, rfl⟩
  · obtain ⟨v, e, q⟩ := A.val i r h
    refine ⟨v, e, ?_⟩
    by_cases ho : isOwn r = true
    · cases r with
      | fl ds =>
        obtain ⟨x, vs, e2, q1, q2, q3, q4, q5⟩ := q
        refine ⟨x, vs, e2, up q1, q2, q3, q4, fun hm => ?_⟩
        rcases List.mem_append.mp hm with z | z
        · exact q5 z
        · rw [List.mem_singleton.mp z, hp] at q1; cases q1
      | fd _ _ => exact q
      | _ => cases ho
    · exact RepO.mono (by simpa using ho) hle q
  · exact up (A.keep a u e fun hm => n (List.mem_append_left _ hm))
  · rcases List.mem_append.mp ha with z | z
    · exact A.anew a z
    · rw [List.mem_singleton.mp z]; exact .inr (A.h0 hp)
/-- an own list changed -/
theorem Abs.ownSet {i : Nat} {p : Addr} {vs vs' : List V} {ds ds' : List D} (A : Abs c b g σ H s) (e : s.sl[i]? = some (some (.fl ds))) (ev : σ[i]? = some (some (.ref p))) (hr : RepL c.K g.F ds' vs') : Abs c b g σ (upd H p (.lst vs')) ⟨s.sl.set i (some (.fl ds')), s.sh⟩ := by
  obtain ⟨v, e2, q⟩ := A.val i _ e
  rw [ev] at e2; cases e2
  obtain ⟨x, ws, e3, q1, q2, q3, q4, q5⟩ := q
  cases e3
  have hi : i < s.sl.length := (List.getElem?_eq_some_iff.mp e).1
  have oi : ownAt s.sl i = true := ownAt_isOwn.mpr ⟨_, e, rfl⟩
  have un : ∀ m, ownAt (s.sl.set i (some (.fl ds'))) m = true → ownAt s.sl m = true := fun m hm => by
    obtain ⟨r, e, ho⟩ := ownAt_isOwn.mp hm
    by_cases hmi : i = m
    · subst hmi; exact oi
    · rw [List.getElem?_set_ne hmi] at e
      exact ownAt_isOwn.mpr ⟨r, e, ho⟩
  refine ⟨⟨fun a u e => ?_, A.sh.len, A.sh.nd, A.sh.fr, fun j o a h1 h2 => ?_⟩, by simpa using A.len, fun j r h => ?_, fun j k hjk hj hk => A.sep j k hjk (un j hj) (un k hk), A.le, fun a u e n => ?_, A.fnew, A.anew⟩
  · rw [upd_ne (ne_of_none e q3)]; exact A.sh.fh a u e
  · cases o with
    | lst ds =>
      obtain ⟨vs, z1, z2⟩ := A.sh.ob j _ a h1 h2
      exact ⟨vs, by rw [upd_ne (fun y => q5 (by rw [← y]; exact List.mem_of_getElem? h2))]; exact z1, z2⟩
  · have h : (s.sl.set i (some (.fl ds')))[j]? = some (some r) := h
    by_cases hji : i = j
    · subst hji
      rw [List.getElem?_set_self hi] at h
      cases h
      exact ⟨_, ev, p, vs', rfl, upd_same, hr, q3, q4, q5⟩
    · rw [List.getElem?_set_ne hji] at h
      obtain ⟨v, e2, q⟩ := A.val j r h
      refine ⟨v, e2, ?_⟩
      cases r with
      | fl ds =>
        obtain ⟨y, ws, e3, z1, z2⟩ := q
        refine ⟨y, ws, e3, ?_, z2⟩
        rw [upd_ne (fun z => A.sep i j hji oi (ownAt_isOwn.mpr ⟨_, h, rfl⟩) (by rw [ev, e2, e3, z]))]; exact z1
      | fd _ _ => exact False.elim q
      | _ => exact RepO.mono (by rfl) (G.le.refl _) q
  · rw [upd_ne (ne_of_none e q4)]; exact A.keep a u e n
/-- a list of the store changed -/
theorem Abs.shrSet {k : Nat} {a : Addr} {vs' : List V} {ds ds' : List D} (A : Abs c b g σ H s) (e : s.sh[k]? = some (.lst ds)) (ea : g.as[k]? = some a) (hr : RepL c.K g.F ds' vs') : Abs c b g σ (upd H a (.lst vs')) ⟨s.sl, s.sh.set k (.lst ds')⟩ := by
  have ha : a ∈ g.as := List.mem_of_getElem? ea
  have hk : k < s.sh.length := (List.getElem?_eq_some_iff.mp e).1
  have hF := A.sh.fr a ha
  refine ⟨⟨fun x u e => ?_, by simpa using A.sh.len, A.sh.nd, A.sh.fr, fun j o x h1 h2 => ?_⟩, A.len, fun j r h => ?_, A.sep, A.le, fun x u e n => ?_, A.fnew, A.anew⟩
  · rw [upd_ne (ne_of_none e hF)]; exact A.sh.fh x u e
  · have h1 : (s.sh.set k (.lst ds'))[j]? = some o := h1
    by_cases hj : k = j
    · subst hj
      rw [List.getElem?_set_self hk] at h1
      cases h1
      rw [ea] at h2; cases h2
      exact ⟨vs', upd_same, hr⟩
    · rw [List.getElem?_set_ne hj] at h1
      have : x ≠ a := fun z => by
        subst z
        obtain ⟨l1, e1⟩ := List.getElem?_eq_some_iff.mp h2
        obtain ⟨l2, e2⟩ := List.getElem?_eq_some_iff.mp ea
        exact hj ((List.getElem_inj A.sh.nd).mp (e2.trans e1.symm))
      cases o with
      | lst ds =>
        obtain ⟨vs, z1, z2⟩ := A.sh.ob j _ x h1 h2
        exact ⟨vs, by rw [upd_ne this]; exact z1, z2⟩
  · obtain ⟨v, e2, q⟩ := A.val j r h
    refine ⟨v, e2, ?_⟩
    cases r with
    | fl ds =>
      obtain ⟨y, ws, e3, z1, z2, z3, z4, z5⟩ := q
      refine ⟨y, ws, e3, ?_, z2, z3, z4, z5⟩
      rw [upd_ne (fun z => z5 (by rw [z]; exact ha))]; exact z1
    | fd _ _ => exact False.elim q
    | _ => exact RepO.mono (by rfl) (G.le.refl _) q
  · rw [upd_ne (fun z => n (by rw [z]; exact ha))]; exact A.keep x u e n
theorem lstAt_ok {i : Nat} (A : Abs c b g σ H s) (h : lstAt i s = true) : ∃ p vs, σ[i]? = some (some (.ref p)) ∧ H p = some (.lst vs) := by
  unfold lstAt at h
  split at h
  · rename_i ds e
    obtain ⟨v, e2, p, vs, rfl, q1, _⟩ := A.val i _ e
    exact ⟨p, vs, e2, q1⟩
  · rename_i k e
    obtain ⟨v, e2, a, ea, rfl⟩ := A.val i _ e
    split at h
    · rename_i ds e3
      obtain ⟨vs, q1, _⟩ := A.sh.ob k _ a e3 ea
      exact ⟨a, vs, e2, q1⟩
    · exact bad h
  · exact bad h
end
section
variable {c : Cn} {ck : CK} {b : Bs} {Γ : Gam} {lv : Nat} {W : WX} {X : Cx}
theorem ps_shrI (S : SD c ck Γ lv W X) {i : Nat} {x : Str} {p lp pos : Pos} (hi : X.N[i]? = some x) (hx : stoB X.env.scope x = true) : PS X (.Assign [.Name x p] (.List [] lp) pos) (TSr c b W Γ (.shr i)) := by
  obtain ⟨hl, hf⟩ := S.sto hx
  refine cvS (ps_set S.nd hi hl (pe_lst pa_nil) rfl hf) fun D σ H q => ?_
  obtain ⟨g, s, A, q⟩ := q
  have q : FP c b W D g ((Wi.put i (.shr s.sh.length) { s with sh := s.sh ++ [.lst []] }).bind fun _ s => .ok .nx s) := q
  refine ⟨by show 0 ≤ sizeLine; decide, fun p hp => ?_⟩
  obtain ⟨le, A1⟩ := A.newShr hp
  have hr : RepR c b ⟨g.F, g.as ++ [p]⟩ σ (upd H p (.lst [])) ⟨s.sl, s.sh ++ [.lst []]⟩ (.shr s.sh.length) (.ref p) := by
    refine ⟨⟨p, ?_, rfl⟩, fun z => nomatch z⟩
    show (g.as ++ [p])[s.sh.length]? = some p
    rw [← A.sh.len, List.getElem?_append_right (Nat.le_refl _)]
    simp
  obtain ⟨s', q, A'⟩ := put_ok A1 hr (FP.weak q le)
  exact nx_ok q A'
theorem pg_any {es : List Expr} {k : Nat} {tp : Pos} {t : TGs} {n : Nat} (hc : X.calm = true) (h : PGs X es t) (hn : (assignEach es X.env).length = n) (hst : (assignEach es X.env).findIdx? (·.1) = none) :
    PG X (.Tuple es k tp) (fun v σ H Q => ∃ a xs, v = .ref a ∧ (SqT X.K H a xs ∨ SqL X.K H a xs) ∧ xs.length = n ∧ t xs σ H Q) := by
  refine ⟨fun pins s σ H v u Q I r hw => ?_⟩
  obtain ⟨a, xs, e1, hq | hq, hl, hw⟩ := hw
  · exact (pg_tup (pos := tp) hc h hn hst).run pins s σ H v u Q I r ⟨a, xs, e1, hq, hl, hw⟩
  · exact (pg_unl (pos := tp) hc h hn hst).run pins s σ H v u Q I r ⟨a, xs, e1, hq, hl, hw⟩
theorem puts_noexc {k : Nat} {t : Wi.St} : ∀ (is : List Nat) (ds : List Wi.D) (s : Wi.St), puts is ds s ≠ .exc k t
  | [], [], _, h => nomatch (show Res.ok () _ = Res.exc k t from h)
  | [], _ :: _, _, h => nomatch (show (Res.err : Res Unit) = Res.exc k t from h)
  | _ :: _, [], _, h => nomatch (show (Res.err : Res Unit) = Res.exc k t from h)
  | i :: is, d :: ds, s, h => by
    have h : (Wi.put i (.v d) s).bind (fun _ s => puts is ds s) = .exc k t := h
    unfold Wi.put at h
    split at h
    · exact puts_noexc _ _ _ h
    · exact nomatch h
theorem ps_unpI (S : SD c ck Γ lv W X) (hh : ck.hot = false) {is : List Nat} {ts : List Expr} {k : Nat} {tp pos : Pos} {v : Expr} {e : E} (hn : namesT X.N X.env.scope is ts = true) (ht : notTup v = true) (h : PE X v (TEr c b W Γ e)) : PS X (.Assign [.Tuple ts k tp] v pos) (TSr c b W Γ (.unp is e)) := by
  obtain ⟨i1, i2, i3, i4⟩ := pgs_names S.nd (fun x hx => S.sto hx) hn
  refine cvS (ps_asg (pe_f h) (pg_any (n := ts.length) (S.calm hh) i1 i3 i4) (by cases v <;> rfl) (by cases v <;> first | rfl | cases ht) rfl) fun D σ H q => ?_
  obtain ⟨g, s, A, q⟩ := q
  have q : FP c b W D g ((fzr (ev Γ e s)).bind fun r s => match seqOf r with
      | some ds => (puts is ds s).bind fun _ s => .ok .nx s
      | none => .err) := q
  refine ⟨g, s, A, (FP.bindE q).imp fun r s1 g1 H1 e1 l A1 q v hv => ?_⟩
  cases es : seqOf r with
  | none => rw [es] at q; exact False.elim q
  | some ds =>
    rw [es] at q
    have q : FP c b W D g1 ((puts is ds s1).bind fun _ s => .ok .nx s) := q
    cases ep : puts is ds s1 with
    | err => rw [ep] at q; exact False.elim q
    | exc k t => exact absurd ep (puts_noexc is ds s1)
    | ok u s2 =>
      rw [ep] at q
      unfold seqOf at es
      split at es
      · cases es
        obtain ⟨a, vs, rfl, t, r⟩ := hv
        obtain ⟨A2, hl⟩ := puts_ok A1 r ep
        exact ⟨a, vs, rfl, .inl (by rw [S.K]; exact A1.sh.fh.sqT t), by rw [hl, i2], hl, nx_ok q A2⟩
      · cases es
        obtain ⟨a, vs, rfl, t, r⟩ := hv
        obtain ⟨A2, hl⟩ := puts_ok A1 r ep
        exact ⟨a, vs, rfl, .inr (SqL.of (A1.sh.fh _ _ t)), by rw [hl, i2], hl, nx_ok q A2⟩
      · cases es
theorem ps_exprI {v : Expr} {pos : Pos} {e : E} (hn : notLC v = true) (h : PE X v (TEr c b W Γ e)) : PS X (.Expr v pos) (TSr c b W Γ (.expr e)) := by
  refine cvS (ps_expr h (swaps_no hn)) fun D σ H q => ?_
  obtain ⟨g, s, A, q⟩ := q
  have q : FP c b W D g ((ev Γ e s).bind fun _ s => .ok .nx s) := q
  exact ⟨g, s, A, (FP.bindE q).imp fun r s1 g1 H1 e1 l A1 q v hv => nx_ok q A1⟩
theorem few_ok {env : Env} {cpos : Pos} {e : Expr} (h : odd e = false) : ((backTo cpos (starEach [e] env)).all (fun x => !x.1) && (backToKw cpos (keywordEach [] env)).all (fun x => x.1.isSome)
      && decide ([e].length + ([] : List Keyword).length + (if ([] : List Keyword).isEmpty then 0 else 1) < 30)) = true := by
  rw [star_cons h]; rfl
theorem ps_appI (S : SD c ck Γ lv W X) {i : Nat} {x m : Str} {p ap cp pos : Pos} {v : Expr} {e : E} (hm : m = ("append" : Str)) (hl : (ap.endLine == cp.line) = true) (hx : nameB X.N X.env.scope i x = true) (ho : odd v = false) (h : PE X v (TEr c b W Γ e)) :
    PS X (.Expr (.Call (.Attribute (.Name x p) m ap) [v] [] cp) pos) (TSr c b W Γ (.app i e)) := by
  subst hm
  obtain ⟨h1, h2, h3, h4⟩ := vis_of hx
  refine cvS (ps_expr (pe_bm PySem.F.plainAttrs_list PySem.F.slot_list_append PySem.F.type_list_append mt_append (pe_var h1 h2 h3 h4) (pa_cons (pe_f h) pa_nil (star_cons ho)) rfl (few_ok ho) hl (star_cons ho) rfl) rfl) fun D σ H q => ?_
  obtain ⟨g, s, A, q⟩ := q
  have q : FP c b W D g (if lstAt i s = true then (fzr (ev Γ e s)).bind fun r s => match r with | .v d => app1 i d s | _ => .err else .err) := q
  split at q
  · rename_i hs
    obtain ⟨p, vs, ep, hp⟩ := lstAt_ok A hs
    refine ⟨.ref p, ep, .inl ⟨rfl, vs, SqL.of hp⟩, g, s, A, (FP.bindE q).imp fun r s1 g1 H1 e1 l A1 q v hv => ?_⟩
    cases r with
    | v d =>
      have q : FP c b W D g1 (app1 i d s1) := q
      unfold app1 at q
      split at q
      · rename_i ds e2
        split at q
        · rename_i hl
          obtain ⟨u, e3, p', ws, e4, z1, z2, z3⟩ := A1.val i _ e2
          rw [ep] at e3; cases e3; cases e4
          refine ⟨p, ws, v, rfl, rfl, z1, by rw [← RepL.length z2, sizeLine_eq]; unfold LIM at hl; omega, ?_⟩
          exact nx_ok q (A1.ownSet (vs := ws) e2 ep (RepL.append z2 (.one hv)))
        · exact False.elim q
      · rename_i k e2
        obtain ⟨u, e3, a, ea, e4⟩ := A1.val i _ e2
        rw [ep] at e3; cases e3; cases e4
        split at q
        · rename_i ds e5
          split at q
          · rename_i hl
            obtain ⟨ws, z1, z2⟩ := A1.sh.ob k _ p e5 ea
            refine ⟨p, ws, v, rfl, rfl, z1, by rw [← RepL.length z2, sizeLine_eq]; unfold LIM at hl; omega, ?_⟩
            exact nx_ok q (A1.shrSet e5 ea (RepL.append z2 (.one hv)))
          · exact False.elim q
        · exact False.elim q
      · exact False.elim q
    | _ => exact False.elim q
  · exact False.elim q
theorem ps_extI (S : SD c ck Γ lv W X) {i : Nat} {x m : Str} {p ap cp pos : Pos} {v : Expr} {e : E} (hm : m = ("extend" : Str)) (hl : (ap.endLine == cp.line) = true) (hx : nameB X.N X.env.scope i x = true) (ho : odd v = false) (h : PE X v (TEr c b W Γ e)) :
    PS X (.Expr (.Call (.Attribute (.Name x p) m ap) [v] [] cp) pos) (TSr c b W Γ (.ext i e)) := by
  subst hm
  obtain ⟨h1, h2, h3, h4⟩ := vis_of hx
  refine cvS (ps_expr (pe_bm PySem.F.plainAttrs_list PySem.F.slot_list_extend PySem.F.type_list_extend mt_extend (pe_var h1 h2 h3 h4) (pa_cons (pe_f h) pa_nil (star_cons ho)) rfl (few_ok ho) hl (star_cons ho) rfl) rfl) fun D σ H q => ?_
  obtain ⟨g, s, A, q⟩ := q
  have q : FP c b W D g (if lstAt i s = true then (fzr (ev Γ e s)).bind fun r s => match r with
      | .v (.lst ds) => ext1 i ds s
      | _ => .err else .err) := q
  split at q
  · rename_i hs
    obtain ⟨p, vs, ep, hp⟩ := lstAt_ok A hs
    refine ⟨.ref p, ep, .inl ⟨rfl, vs, SqL.of hp⟩, g, s, A, (FP.bindE q).imp fun r s1 g1 H1 e1 l A1 q v hv => ?_⟩
    split at q
    · rename_i xs
      obtain ⟨a, us, rfl, t, ru⟩ := hv
      unfold ext1 at q
      split at q
      · rename_i ds e2
        split at q
        · rename_i hl
          obtain ⟨u, e3, p', ws, e4, z1, z2, z3⟩ := A1.val i _ e2
          rw [ep] at e3; cases e3; cases e4
          refine ⟨p, a, ws, us, rfl, rfl, z1, A1.sh.fh _ _ t, by rw [← RepL.length z2, ← RepL.length ru, sizeLine_eq]; unfold LIM at hl; omega, ?_⟩
          exact nx_ok q (A1.ownSet (vs := ws) e2 ep (RepL.append z2 ru))
        · exact False.elim q
      · exact False.elim q
    · exact False.elim q
  · exact False.elim q
theorem ps_putI (S : SD c ck Γ lv W X) {i : Nat} {x : Str} {p p' pos : Pos} {j v : Expr} {k e : E} (hx : nameB X.N X.env.scope i x = true) (ho : odd j = false) (hn : notLC v = true) (hk : PE X j (TEr c b W Γ k)) (h : PE X v (TEr c b W Γ e)) : PS X (.Assign [.Subscript (.Name x p) j p'] v pos) (TSr c b W Γ (.put i k e)) := by
  obtain ⟨h1, h2, h3, h4⟩ := vis_of hx
  refine cvS (ps_asg (pe_f h) (pg_sub (pe_var h1 h2 h3 h4) (pe_f hk) set_list (by cases j <;> first | (intro _; rfl) | cases ho)) (by cases v <;> rfl) (by cases v <;> rfl) rfl) fun D σ H q => ?_
  obtain ⟨g, s, A, q⟩ := q
  have q : FP c b W D g ((fzr (ev Γ e s)).bind fun w s => if lstAt i s = true then (fzr (ev Γ k s)).bind fun k s => put1 i k w s else .err) := q
  refine ⟨g, s, A, (FP.bindE q).imp fun w s1 g1 H1 e1 l A1 q v hv => ?_⟩
  split at q
  · rename_i hs
    obtain ⟨p, vs, ep, hp⟩ := lstAt_ok A1 hs
    refine ⟨.ref p, ep, g1, s1, A1, (FP.bindE q).imp fun kk s2 g2 H2 e2 l2 A2 q u hu => ?_⟩
    have hv2 : RepO c b g2 H2 w v := RepO.mono (fzr_own e1) l2 hv
    have q : FP c b W D g2 (put1 i kk w s2) := q
    unfold put1 at q
    cases e3 : s2.sl[i]? with
    | none => rw [e3] at q; exact False.elim q
    | some o =>
      rw [e3] at q
      cases o with
      | none => exact False.elim q
      | some r =>
        obtain ⟨u', e4, z⟩ := A2.val i _ e3
        rw [ep] at e4; cases e4
        cases r with
        | fl ds =>
          cases kk with
          | v dk =>
            cases dk with
            | int jj =>
              cases hu
              cases w with
              | v dw =>
                obtain ⟨p', ws, e5, z1, z2, z3⟩ := z
                cases e5
                have q : FP c b W D g2 (match Wi.ixN ds.length jj with
                  | some n => .ok .nx { s2 with sl := s2.sl.set i (some (.fl (ds.set n dw))) }
                  | none => .err) := q
                split at q
                · rename_i n en
                  refine ⟨p, ws, _, n, rfl, rfl, z1, ?_, nx_ok q (A2.ownSet (vs := ws) e3 ep (RepL.set hv2 n z2))⟩
                  rw [← RepL.length z2]; exact en
                · exact False.elim q
              | _ => exact False.elim q
            | _ => exact False.elim q
          | _ => exact False.elim q
        | fd _ _ => exact False.elim z
        | _ => exact False.elim q
  · exact False.elim q
end
end Wi

/-! Soundness 15: statements: several stores at once, branches, loops. -/
namespace Wi
open PySem PySem.Spec PyProof.Rows L2
section
variable {c : Cn} {ck : CK} {b : Bs} {Γ : Gam} {lv : Nat} {W : WX} {X : Cx}
theorem putsR_ok {g : G} {H : Hp} : ∀ {is : List Nat} {rs : List Rv} {vs : List V} {σ : L2.St} {s s' : Wi.St}, Abs c b g σ H s → RepA c b g H rs vs → putsR is rs s = .ok () s' → Abs c b g (setsV is vs σ) H s' ∧ vs.length = is.length
  | [], [], _, _, _, _, A, .nil, h => by
    cases (show Res.ok () _ = Res.ok () _ from h)
    exact ⟨A, rfl⟩
  | [], _ :: _, _, _, _, _, _, _, h => nomatch (show (Res.err : Res Unit) = Res.ok () _ from h)
  | _ :: _, [], _, _, _, _, _, _, h => nomatch (show (Res.err : Res Unit) = Res.ok () _ from h)
  | i :: is, r :: rs, _, σ, s, s', A, .cons (b := v) r1 r2, h => by
    obtain ⟨_, s1, h1, h2⟩ := bind_ok (show (Wi.put i r s).bind _ = _ from h)
    unfold Wi.put at h1
    split at h1
    · rename_i hi
      cases h1
      obtain ⟨q1, q2⟩ := putsR_ok (A.put (v := v) ⟨r1.1, fun z => by rw [r1.2] at z; cases z⟩ hi) r2 h2
      exact ⟨q1, by simp [q2]⟩
    · cases h1
theorem putsR_noexc {k : Nat} {t : Wi.St} : ∀ (is : List Nat) (ds : List Rv) (s : Wi.St), putsR is ds s ≠ .exc k t
  | [], [], _, h => nomatch (show Res.ok () _ = Res.exc k t from h)
  | [], _ :: _, _, h => nomatch (show (Res.err : Res Unit) = Res.exc k t from h)
  | _ :: _, [], _, h => nomatch (show (Res.err : Res Unit) = Res.exc k t from h)
  | i :: is, d :: ds, s, h => by
    have h : (Wi.put i d s).bind (fun _ s => putsR is ds s) = .exc k t := h
    unfold Wi.put at h
    split at h
    · exact putsR_noexc _ _ _ h
    · exact nomatch h
theorem par_rd {is : List Nat} {es : Es} {σ : L2.St} {H : Hp} {D : Ends} (q : TSr c b W Γ (.par is es) D σ H) : TAf c b W Γ es σ H fun vs H1 => vs.length = is.length ∧ ∃ g s', ∃ s1 rs, Abs c b g σ H1 s1 ∧ RepA c b g H1 rs vs ∧ putsR is rs s1 = .ok () s' ∧ FP c b W D g (.ok .nx s') := by
  obtain ⟨g, s, A, q⟩ := q
  have q : FP c b W D g ((evs Γ es s).bind fun rs s => (putsR is rs s).bind fun _ s => .ok .nx s) := q
  refine ⟨g, s, A, (FP.bindE q).imp fun rs s1 g1 H1 e1 l A1 q vs hv => ?_⟩
  cases ep : putsR is rs s1 with
  | err => rw [ep] at q; exact False.elim q
  | exc k t => exact absurd ep (putsR_noexc is rs s1)
  | ok u s2 =>
    rw [ep] at q
    obtain ⟨A2, hl⟩ := putsR_ok A1 hv ep
    exact ⟨hl, g1, s2, s1, rs, A1, hv, ep, q⟩
theorem TAf.imp {es : Es} {σ : L2.St} {H : Hp} {Q Q' : List V → Hp → Prop} (h : TAf c b W Γ es σ H Q) (f : ∀ v H', Q v H' → Q' v H') : TAf c b W Γ es σ H Q' := by
  obtain ⟨g, s, A, q⟩ := h
  exact ⟨g, s, A, q.imp fun _ _ _ _ _ _ _ q v hv => f _ _ (q v hv)⟩
theorem loc_of {x : Str} (h : locB X.env.scope x = true) : X.env.scope.names.lookup x = some .local := by
  unfold locB at h
  split at h
  · assumption
  · exact bad h
theorem ps_parI (S : SD c ck Γ lv W X) (hh : ck.hot = false) {is : List Nat} {ts vs : List Expr} {k k2 : Nat} {tp tp2 pos : Pos} {es : Es} (hn : namesT X.N X.env.scope is ts = true) (hl : ts.length ≤ 1000) (hp : parB X.env.scope is ts vs = true)
    (h : PA X vs (TAf c b W Γ es)) : PS X (.Assign [.Tuple ts k tp] (.Tuple vs k2 tp2) pos) (TSr c b W Γ (.par is es)) := by
  have hb : X.env.blockKind = .function := by unfold Env.blockKind; rw [S.kd]; rfl
  unfold parB at hp
  split at hp
  · exact bad hp
  · rename_i e
    have hw := swR_ok (tp := tp) (tp2 := tp2) (k := k) (k2 := k2) hb e
    obtain ⟨i1, i2, i3, i4⟩ := pgs_names S.nd (fun x hx => S.sto hx) hn
    refine cvS (ps_asg (pe_tup h) (pg_tup (n := ts.length) (S.calm hh) i1 i3 i4) rfl hw rfl) fun D σ H q => ?_
    refine TAf.imp (par_rd q) fun us H1 ⟨hlen, g, s', s1, rs, A1, hv, ep, q⟩ => ⟨?_, fun p hp => ?_⟩
    · rw [hlen, i2, sizeLine_eq]; omega
    · have A2 := A1.grow (o := .tup us) hp
      have le := G.le.grow (o := .tup us) A1 hp
      obtain ⟨A3, hl⟩ := putsR_ok A2 (RepA.mono le hv) ep
      refine ⟨p, us, rfl, .inl (.inl upd_same), by rw [hl, i2], hl, nx_ok (FP.weak q le) A3⟩
  · rename_i names e
    have hw := swR_ok (tp := tp) (tp2 := tp2) (k := k) (k2 := k2) hb e
    split at hp
    · rename_i i j x px y py
      obtain ⟨p1, p2⟩ := and_of hp
      obtain ⟨p2, p3⟩ := and_of p2
      obtain ⟨p3, p4⟩ := and_of p3
      have p1 := of_decide_eq_true p1
      subst p1
      obtain ⟨n1, n2⟩ := and_of (show (decide (X.N[i]? = some x) && (stoB X.env.scope x && (decide (X.N[j]? = some y) && (stoB X.env.scope y && true)))) = true from hn)
      obtain ⟨n2, n3⟩ := and_of n2
      obtain ⟨n3, n4⟩ := and_of n3
      cases vs with
      | nil => exact bad (by simpa [swR] using e)
      | cons v1 vs =>
        cases vs with
        | nil => exact bad (by simpa [swR] using e)
        | cons v2 vs =>
          cases vs with
          | cons _ _ => exact bad (by simpa [swR] using e)
          | nil =>
            refine cvS (ps_par (S.calm hh) S.nd (of_decide_eq_true n1) (of_decide_eq_true n3) (of_decide_eq_true p4) (loc_of p2) (loc_of p3) h hw rfl) fun D σ H q => ?_
            refine TAf.imp (par_rd q) fun us H1 ⟨hlen, g, s', s1, rs, A1, hv, ep, q⟩ => ?_
            obtain ⟨A3, _⟩ := putsR_ok A1 hv ep
            cases us with
            | nil => cases hlen
            | cons u1 us =>
              cases us with
              | nil => cases hlen
              | cons u2 us =>
                cases us with
                | cons _ _ => cases hlen
                | nil => exact ⟨u1, u2, rfl, nx_ok q A3⟩
    · rename_i i j l x px y py z pz
      obtain ⟨p1, p2⟩ := and_of hp
      obtain ⟨p2, p3⟩ := and_of p2
      obtain ⟨p2, p4⟩ := and_of p2
      obtain ⟨p4, p5⟩ := and_of p4
      obtain ⟨p3, p6⟩ := and_of p3
      obtain ⟨p6, p7⟩ := and_of p6
      have p1 := of_decide_eq_true p1
      subst p1
      obtain ⟨n1, n2⟩ := and_of (show (decide (X.N[i]? = some x) && (stoB X.env.scope x && (decide (X.N[j]? = some y) && (stoB X.env.scope y && (decide (X.N[l]? = some z) && (stoB X.env.scope z && true)))))) = true from hn)
      obtain ⟨n2, n3⟩ := and_of n2
      obtain ⟨n3, n4⟩ := and_of n3
      obtain ⟨n4, n5⟩ := and_of n4
      obtain ⟨n5, n6⟩ := and_of n5
      cases vs with
      | nil => exact bad (by simpa [swR] using e)
      | cons v1 vs =>
        cases vs with
        | nil => exact bad (by simpa [swR] using e)
        | cons v2 vs =>
          cases vs with
          | nil => exact bad (by simpa [swR] using e)
          | cons v3 vs =>
            cases vs with
            | cons _ _ => exact bad (by simpa [swR] using e)
            | nil =>
              refine cvS (ps_par3 (S.calm hh) S.nd (of_decide_eq_true n1) (of_decide_eq_true n3) (of_decide_eq_true n5) (of_decide_eq_true p3) (of_decide_eq_true p6) (of_decide_eq_true p7) (loc_of p2) (loc_of p4) (loc_of p5) h hw rfl) fun D σ H q => ?_
              refine TAf.imp (par_rd q) fun us H1 ⟨hlen, g, s', s1, rs, A1, hv, ep, q⟩ => ?_
              obtain ⟨A3, _⟩ := putsR_ok A1 hv ep
              cases us with
              | nil => cases hlen
              | cons u1 us =>
                cases us with
                | nil => cases hlen
                | cons u2 us =>
                  cases us with
                  | nil => cases hlen
                  | cons u3 us =>
                    cases us with
                    | cons _ _ => cases hlen
                    | nil => exact ⟨u1, u2, u3, rfl, nx_ok q A3⟩
    · exact bad hp
theorem ps_iteI {t : Expr} {p q : List Stmt} {pos : Pos} {i : E} {a d : Ss} (ht : PT X t (TTr c b W Γ i)) (ha : PSs X p (TSs c b W Γ a)) (hd : PSs X q (TSs c b W Γ d)) : PS X (.If t p q pos) (TSr c b W Γ (.ite i a d)) := by
  refine cvS (ps_if ht ha hd) fun D σ H h => ?_
  obtain ⟨g, s, A, h⟩ := h
  have h : FP c b W D g ((ev Γ i s).bind fun x s => match x with | .v (.bl true) => execs Γ a s | .v (.bl false) => execs Γ d s | _ => .err) := h
  refine ⟨g, s, A, (FP.bindE h).imp fun x s1 g1 H1 e l A1 q => ?_⟩
  split at q
  · exact ⟨_, rfl, iteT ⟨g1, s1, A1, q⟩⟩
  · exact ⟨_, rfl, iteF ⟨g1, s1, A1, q⟩⟩
  · exact False.elim q
theorem ps_whileI (hp : PassesOwn (model X.prog X.w) X.A X.env X.xe) {t : Expr} {body : List Stmt} {pos : Pos} {i : E} {a : Ss} (ht : PT X t (TTr c b W Γ i)) (ha : PSs X body (TSs c b W Γ a)) : PS X (.While t body [] pos) (TSr c b W Γ (.while i a)) := by
  refine cvS (ps_while hp ht ha) fun D σ H h => ?_
  obtain ⟨g, s, A, h⟩ := h
  have h : FP c b W D g (whileN (ev Γ i) (execs Γ a) WN s) := h
  refine ⟨fun m σ H => ∃ g s, Abs c b g σ H s ∧ FP c b W D g (whileN (ev Γ i) (execs Γ a) m s), ⟨WN, g, s, A, h⟩, ?_⟩
  rintro m σ1 H1 ⟨g1, s1, A1, h1⟩
  cases m with
  | zero => exact False.elim h1
  | succ m =>
    have h1 : FP c b W D g1 ((ev Γ i s1).bind fun r s => match r with
      | .v (.bl false) => .ok .nx s
      | .v (.bl true) => (execs Γ a s).bind fun fl s => match fl with
        | .rt r => .ok (.rt r) s
        | _ => whileN (ev Γ i) (execs Γ a) m s
      | _ => .err) := h1
    refine ⟨g1, s1, A1, (FP.bindE h1).imp fun x s2 g2 H2 e l A2 q => ?_⟩
    split at q
    · exact ⟨_, rfl, iteF (nx_ok q A2)⟩
    · refine ⟨_, rfl, iteT ⟨fun σ H => ∃ g s, Abs c b g σ H s ∧ FP c b W D g (whileN (ev Γ i) (execs Γ a) m s), fun σ' H' h => ⟨m, Nat.lt_succ_self m, h⟩, g2, s2, A2, ?_⟩⟩
      exact FP.bindS q (fun _ _ => rfl) (fun s _ σ' g' H' l A h => ⟨g', s, A, h⟩) (fun s _ σ' g' H' l A h => ⟨g', s, A, h⟩)
    · exact False.elim q
theorem ps_forI (S : SD c ck Γ lv W X) (hh : ck.hot = false) {t i : Expr} {body : List Stmt} {pos : Pos} {tg : List Nat} {one : Bool} {it : Wi.It} {a : Ss} (ho : odd i = false) (hi : PI X t i (TIr c b W Γ it)) (ht : tgOk X.N X.env.scope tg one t = true) (ha : PSs X body (TSs c b W Γ a)) : PS X (.For t i body [] pos) (TSr c b W Γ (.for tg one it a)) := by
  refine cvS (ps_for S.own (S.calm hh) hi (pg_tg S.nd (S.calm hh) (fun x hx => S.sto hx) ht) ha (folded_no ho)) fun D σ H h => ?_
  obtain ⟨g, s, A, h⟩ := h
  have h : FP c b W D g ((evIt Γ it s).bind fun ds s => forL (fun d s => (setTg tg one d s).bind fun _ s => execs Γ a s) ds s) := h
  refine ⟨g, s, A, (FP.bindE h).imp fun ds s1 g1 H1 e l A1 q J hJ => ?_⟩
  refine ⟨fun i m σ H => m = ds.length - i ∧ i ≤ ds.length ∧ ∃ g s, G.le g1 g ∧ Abs c b g σ H s ∧ FP c b W D g (forL (fun d s => (setTg tg one d s).bind fun _ s => execs Γ a s) (ds.drop i) s), ⟨ds.length, rfl, Nat.zero_le _, g1, s1, G.le.refl _, A1, q⟩, ?_⟩
  rintro i m σ2 H2 ⟨rfl, hi, g2, s2, le2, A2, q2⟩
  have wk := hJ _ _ _ _ _ le2 A2 i
  cases ed : ds[i]? with
  | none =>
    have : ds.drop i = [] := List.drop_eq_nil_iff.mpr (List.getElem?_eq_none_iff.mp ed)
    rw [this] at q2
    exact .inl ⟨wk.2 ed, nx_ok q2 A2⟩
  | some d =>
    obtain ⟨go, yl⟩ := wk.1 d ed
    have hlt : i < ds.length := (List.getElem?_eq_some_iff.mp ed).1
    have hdrop : ds.drop i = d :: ds.drop (i + 1) := by
      rw [List.drop_eq_getElem_cons hlt]
      congr 1
      exact Option.some.inj ((List.getElem?_eq_getElem hlt).symm.trans ed)
    rw [hdrop] at q2
    have q2 : FP c b W D g2 (((setTg tg one d s2).bind fun _ s => execs Γ a s).bind fun fl s => match fl with
      | .rt r => .ok (.rt r) s
      | _ => forL (fun d s => (setTg tg one d s).bind fun _ s => execs Γ a s) (ds.drop (i + 1)) s) := q2
    refine .inr ⟨go, fun σ H => ∃ g s, G.le g1 g ∧ Abs c b g σ H s ∧ FP c b W D g (forL (fun d s => (setTg tg one d s).bind fun _ s => execs Γ a s) (ds.drop (i + 1)) s), fun σ' H' h => ⟨ds.length - (i + 1), by omega, rfl, hlt, h⟩, fun x H3 y => ?_⟩
    obtain ⟨g3, le3, A3, rx⟩ := yl x H3 y
    cases e3 : setTg tg one d s2 with
    | err => rw [e3] at q2; exact False.elim q2
    | exc k t => exact absurd e3 (by
        unfold setTg
        split
        · split
          · unfold Wi.put; split <;> exact fun h => nomatch h
          · exact fun h => nomatch h
        · split
          · exact puts_noexc _ _ _
          · exact fun h => nomatch h)
    | ok u s3 =>
      rw [e3] at q2
      rw [S.K]
      refine setTg_rd A3 rx e3 fun σ4 A4 _ => ⟨g3, s3, A4, ?_⟩
      refine FP.bindS (FP.weak q2 le3) (fun _ _ => rfl) (fun s _ σ' g' H' l A h => ⟨g', s, (le2.trans le3).trans l, A, h⟩) (fun s _ σ' g' H' l A h => ⟨g', s, (le2.trans le3).trans l, A, h⟩)
theorem ps_raiseI (S : SD c ck Γ lv W X) (hh : ck.hot = false) {x m : Str} {k j : Nat} {p p2 cp pos : Pos} (hg : globB X.env.scope x = true) (hk : ck.exs.lookup x = some k) : PS X (.Raise (some (.Call (.Name x p) [.Constant (.str m) j p2] [] cp)) none pos) (TSr c b W Γ (.raise k)) := by
  obtain ⟨g1, hd, _⟩ := gl_of hg
  obtain ⟨e1, e2, e3, e4, e5⟩ := S.exs x k hk
  refine cvS (L2N.ps_raise (S.calm hh) S.tk (L2N.pmk_own PySem.F.excBase_ValueError e2 e1 e3 (raises_own e4 e5) g1 hd)) fun D σ H q => ?_
  obtain ⟨g, s, A, q⟩ := q
  exact q σ g H (G.le.refl _) A
theorem hot_sh {a : Addr} {k : Nat} {g : G} {H : Hp} {sh : Sh} : ShOk (hotCn c a k) g H sh ↔ ShOk c g H sh := by
  constructor
  · exact fun S => ⟨S.fh, S.len, S.nd, S.fr, fun i o x h1 h2 => by
      cases o with
      | lst ds => exact S.ob i _ x h1 h2⟩
  · exact fun S => ⟨S.fh, S.len, S.nd, S.fr, fun i o x h1 h2 => by
      cases o with
      | lst ds => exact S.ob i _ x h1 h2⟩
theorem hot_pass {X : Cx} (hx : X.xe = fun _ _ => False) {P : Program} {w : World} {σ : L2.St} : PassesAt (L2N.CX P w) X σ (fun _ _ _ => False) := fun _ _ _ _ _ _ h => by
  obtain ⟨_, _, _, _, _, _, _, _, _, _, _, _, z⟩ := h
  exact z.elim
theorem SD.tr (S : SD c ck Γ lv W X) (hh : ck.hot = false) {W' : WX} {pn : List (Addr × Obj)} {xe : Value → Shared → Prop} (tk : L2N.Takes (X.tr pn xe) W') (own : PassesOwn (model X.prog X.w) X.A X.env xe) : SD c ck Γ lv W' (X.tr pn xe) :=
  ⟨⟨S.K, S.nd, S.calm, S.room, S.un, tk, S.blt, S.exs, fun h => (by rw [hh] at h; cases h), S.cst, S.fns⟩, own, S.fn1, S.kd, S.stk, S.frm, S.hotf⟩
theorem ps_tryI (S : SD c ck Γ lv W X) (hh : ck.hot = false) {x n y : Str} {i f : Nat} {np yp zp cp rp hp pos : Pos} {body : List Stmt} {bd : Ss} (hn : locB X.env.scope n = true) (hi : X.N[i]? = some n) (hg : globB X.env.scope x = true) (hk : ck.exs.lookup x = some 0)
    (hy : globB X.env.scope y = true) (hf : ck.hots.lookup y = some f) (hd : dunder n = true) (hb : ∀ {W' : WX} {pn : List (Addr × Obj)} {xe : Value → Shared → Prop}, SD c ck Γ lv W' (X.tr pn xe) → PSs (X.tr pn xe) body (TSs c b W' Γ bd)) :
    PS X (.Try body [.ExceptHandler (some (.Name x np)) (some n) [.Return (some (.Call (.Name y yp) [.Name n zp] [] cp)) rp] hp] [] [] pos) (TSr c b W Γ (.tryRet bd [0] (.which i f))) := by
  obtain ⟨g1, d1, _⟩ := gl_of hg
  obtain ⟨g2, d2, _⟩ := gl_of hy
  obtain ⟨f1, f2, f3, f4⟩ := S.hotf y f hf
  have hl := loc_of hn
  obtain ⟨n1, n2, _⟩ := dunder_of hd
  refine cvS (L2N.ps_try_as (i := i) (Wout := W) (tb := fun W' => TSs c b W' Γ bd) (ts := fun a cls d D σ H => σ[i]? = some (some (.ref a)) ∧ ∃ k, k < 13 ∧ cls = .ref (c.ca k) ∧ d = none ∧ spOf (hotCn c a k) Γ f 1 [.ref a] H D.rt (fun _ _ _ => False))
    S.stk S.frm S.nd hi hl ⟨g1, d1, .inl (S.exs x 0 hk).1⟩ S.tk (fun W' pn xe tk own => hb (S.tr hh tk own)) fun a oe cls d pn hz hv => ?_) fun D σ H q => ?_
  · -- the suite
    refine pss_one ⟨fun pins s σ H D I h => ?_⟩
    obtain ⟨h0, k, hk13, hc1, hc2, hsp⟩ := h
    subst hc1 hc2
    obtain ⟨fd, ps, F, hbd⟩ := f4 a k oe hk13 hz hv
    obtain ⟨vs, hv⟩ := hv
    have hot : L2H.Hot1 (X.suite a ((a, oe) :: pn)).A (a, oe) := ⟨rfl, vs, hv, hz.2.2 vs hv⟩
    have pe := pe_callE (X := X.suite a ((a, oe) :: pn)) (pos := cp) (q := yp) F ⟨(S.room hh).dp, (S.room hh).un⟩ hot List.mem_cons_self g2 f1 f2 hbd (fun σ => hot_pass rfl) (pa_cons (pe_var (X := X.suite a ((a, oe) :: pn)) (pos := zp) hi (.inl hl) n1 n2) pa_nil rfl) d2 rfl rfl
    exact (ps_ret (pos := rp) pe).run pins s σ H D I ⟨_, h0, hsp⟩
  · obtain ⟨g, s, A, q⟩ := q
    refine ⟨g, s, A, ?_⟩
    have q : FP c b W D g (match execs Γ bd s with
      | .exc k s => if caught [0] k = true then handed Γ (.which i f) k s else if k < 13 then .exc k s else .err
      | r => r) := q
    cases em : execs Γ bd s with
    | err => rw [em] at q; exact False.elim q
    | ok fl s' =>
      rw [em] at q
      cases fl with
      | nx => exact q
      | ct => exact q
      | rt r => exact q
    | exc k s' =>
      rw [em] at q
      have q : FP c b W D g (if caught [0] k = true then handed Γ (.which i f) k s' else if k < 13 then .exc k s' else .err) := q
      split at q
      · rename_i hc
        have hk13 : k < 13 := of_decide_eq_true (and_of hc).1
        have q : FP c b W D g (if i < s'.sl.length then (match Γ f [.exc k] s'.sh with
            | .ok r sh => match r with
              | .v d => .ok (.rt (.v d)) { s' with sh := sh }
              | _ => .err
            | _ => .err) else .err) := q
        split at q
        · rename_i hlt
          intro σ' g' H' le A'
          refine ⟨true, by rw [S.K] at f3 ⊢; exact f3 k hk13, fun _ a na => ⟨?_, k, hk13, rfl, rfl, g', [.exc k], s'.sh, rfl, hot_sh.mpr A'.sh, .cons ⟨⟨rfl, rfl⟩, rfl⟩ .nil, ?_⟩, fun z => nomatch z⟩
          · exact List.getElem?_set_self (by rw [A'.len]; exact hlt)
          · cases eg : Γ f [.exc k] s'.sh with
            | err => rw [eg] at q; exact False.elim q
            | exc _ _ => rw [eg] at q; exact False.elim q
            | ok r sh' =>
              rw [eg] at q
              cases r with
              | v d =>
                intro g2 H2 v P hr
                have P' : Post c g' H' g2 H2 sh' := ⟨P.le, hot_sh.mp P.sh, P.keep, P.fnew, P.anew⟩
                exact q σ' g2 H2 v (le.trans P.le) (A'.call P') hr
              | _ => exact False.elim q
        · exact False.elim q
      · rename_i hc
        split at q
        · rename_i hk
          exact absurd (show caught [0] k = true by unfold caught; rw [decide_eq_true hk]; rfl) hc
        · exact False.elim q
mutual
theorem sS : ∀ (i : S) {W : WX} {X : Cx} {st : Stmt}, SD c ck Γ lv W X → chkS ck X.N i X.env.scope st = true → ∀ b, PS X st (TSr c b W Γ i)
  | .stuck, W, X, st, S, h, b => ps_stuck
  | .set i e, W, X, st, S, h, b => by
    cases st with
    | Assign ts v pos =>
      cases ts with
      | nil => exact bad h
      | cons t ts =>
        cases t with
        | Name x p =>
          cases ts with
          | cons _ _ => exact bad h
          | nil =>
            obtain ⟨h1, h2⟩ := and_of h
            obtain ⟨h2, h3⟩ := and_of h2
            exact ps_setI S (of_decide_eq_true h1) h2 h3
        | _ => exact bad h
    | _ => exact bad h
  | .shr i, W, X, st, S, h, b => by
    cases st with
    | Assign ts v pos =>
      cases ts with
      | nil => exact bad h
      | cons t ts =>
        cases t with
        | Name x p =>
          cases ts with
          | cons _ _ => exact bad h
          | nil =>
            cases v with
            | List l lp =>
              cases l with
              | nil =>
                obtain ⟨h1, h2⟩ := and_of h
                exact ps_shrI S (of_decide_eq_true h1) h2
              | cons _ _ => exact bad h
            | _ => exact bad h
        | _ => exact bad h
    | _ => exact bad h
  | .unp is e, W, X, st, S, h, b => by
    cases st with
    | Assign ts v pos =>
      cases ts with
      | nil => exact bad h
      | cons t ts =>
        cases t with
        | Tuple es k tp =>
          cases ts with
          | cons _ _ => exact bad h
          | nil =>
            obtain ⟨h1, h2⟩ := and_of h
            obtain ⟨hh, h1⟩ := and_of h1
            obtain ⟨h2, h3⟩ := and_of h2
            exact ps_unpI S (cool hh) h1 h2 ((sE e S.toSC h3).pe b)
        | _ => exact bad h
    | _ => exact bad h
  | .par is es, W, X, st, S, h, b => by
    cases st with
    | Assign ts v pos =>
      cases ts with
      | nil => exact bad h
      | cons t ts =>
        cases t with
        | Tuple es' k tp =>
          cases ts with
          | cons _ _ => exact bad h
          | nil =>
            cases v with
            | Tuple vs k2 tp2 =>
              obtain ⟨h1, h2⟩ := and_of h
              obtain ⟨hh, h1⟩ := and_of h1
              obtain ⟨h2, h3⟩ := and_of h2
              obtain ⟨h2, h4⟩ := and_of h2
              exact ps_parI S (cool hh) h1 (of_decide_eq_true h2) h3 (sEs es S.toSC h4 b)
            | _ => exact bad h
        | _ => exact bad h
    | _ => exact bad h
  | .expr e, W, X, st, S, h, b => by
    cases st with
    | Expr v pos =>
      obtain ⟨h1, h2⟩ := and_of h
      exact ps_exprI h1 ((sE e S.toSC h2).pe b)
    | _ => exact bad h
  | .app i e, W, X, st, S, h, b => by
    cases st with
    | Expr v pos =>
      cases v with
      | Call fe args kws cp =>
        cases fe with
        | Attribute o m ap =>
          cases o with
          | Name x p =>
            cases args with
            | nil => exact bad h
            | cons v l =>
              cases l with
              | cons _ _ => exact bad h
              | nil =>
                cases kws with
                | cons _ _ => exact bad h
                | nil =>
                  obtain ⟨h1, h2⟩ := and_of h
                  obtain ⟨h2, h3⟩ := and_of h2
                  obtain ⟨h3, h4⟩ := and_of h3
                  exact ps_appI S (of_decide_eq_true h1) h2 h3 (chk_star h4) ((sE e S.toSC h4).pe b)
          | _ => exact bad h
        | _ => exact bad h
      | _ => exact bad h
    | _ => exact bad h
  | .ext i e, W, X, st, S, h, b => by
    cases st with
    | Expr v pos =>
      cases v with
      | Call fe args kws cp =>
        cases fe with
        | Attribute o m ap =>
          cases o with
          | Name x p =>
            cases args with
            | nil => exact bad h
            | cons v l =>
              cases l with
              | cons _ _ => exact bad h
              | nil =>
                cases kws with
                | cons _ _ => exact bad h
                | nil =>
                  obtain ⟨h1, h2⟩ := and_of h
                  obtain ⟨h2, h3⟩ := and_of h2
                  obtain ⟨h3, h4⟩ := and_of h3
                  exact ps_extI S (of_decide_eq_true h1) h2 h3 (chk_star h4) ((sE e S.toSC h4).pe b)
          | _ => exact bad h
        | _ => exact bad h
      | _ => exact bad h
    | _ => exact bad h
  | .put i k e, W, X, st, S, h, b => by
    cases st with
    | Assign ts v pos =>
      cases ts with
      | nil => exact bad h
      | cons t ts =>
        cases t with
        | Subscript o j p' =>
          cases o with
          | Name x p =>
            cases ts with
            | cons _ _ => exact bad h
            | nil =>
              obtain ⟨h1, h2⟩ := and_of h
              obtain ⟨h2, h3⟩ := and_of h2
              obtain ⟨h3, h4⟩ := and_of h3
              exact ps_putI S h1 (chk_star h2) h3 ((sE k S.toSC h2).pe b) ((sE e S.toSC h4).pe b)
          | _ => exact bad h
        | _ => exact bad h
    | _ => exact bad h
  | .ite t a d, W, X, st, S, h, b => by
    cases st with
    | If x p q pos =>
      obtain ⟨h1, h2⟩ := and_of h
      obtain ⟨h2, h3⟩ := and_of h2
      exact ps_iteI ((sE t S.toSC h1).pt b) (sSs a S h2 b) (sSs d S h3 b)
    | _ => exact bad h
  | .for tg one it a, W, X, st, S, h, b => by
    cases st with
    | For t i body orelse pos =>
      cases orelse with
      | cons _ _ => exact bad h
      | nil =>
        obtain ⟨h1, h2⟩ := and_of h
        obtain ⟨hh, h1⟩ := and_of h1
        obtain ⟨h2, h3⟩ := and_of h2
        obtain ⟨h3, h4⟩ := and_of h3
        have htup : itTup it = true → ∃ elts kk tp, t = .Tuple elts kk tp := fun z => by
          rw [z] at h3
          have h3 : one = false := by simpa using h3
          subst h3
          cases t <;> first | exact ⟨_, _, _, rfl⟩ | exact bad h2 | (cases tg <;> exact bad h2)
        exact ps_forI S (cool hh) (chkIt_odd h1) (sIt it S.toSC h1 htup b) h2 (sSs a S h4 b)
    | _ => exact bad h
  | .while t a, W, X, st, S, h, b => by
    cases st with
    | While x body orelse pos =>
      cases orelse with
      | cons _ _ => exact bad h
      | nil =>
        obtain ⟨h1, h2⟩ := and_of h
        exact ps_whileI S.own ((sE t S.toSC h1).pt b) (sSs a S h2 b)
    | _ => exact bad h
  | .ret e, W, X, st, S, h, b => by
    cases st with
    | Return v pos =>
      cases v with
      | some v =>
        refine cvS (ps_ret ((sE e S.toSC h).pe b)) fun D σ H q => ?_
        obtain ⟨g, s, A, q⟩ := q
        have q : FP c b W D g ((ev Γ e s).bind fun r s => .ok (.rt r) s) := q
        exact ⟨g, s, A, (FP.bindE q).imp fun r s1 g1 H1 e1 l A1 q v hv => q σ g1 H1 v (G.le.refl _) A1 hv.1⟩
      | none =>
        refine cvS ps_retN fun D σ H q => ?_
        obtain ⟨g, s, A, q⟩ := q
        have h : noneB e = true := h
        cases e with
        | const d =>
          cases d with
          | non => exact q σ g H .non (G.le.refl _) A rfl
          | _ => exact bad h
        | _ => exact bad h
    | _ => exact bad h
  | .retS i, W, X, st, S, h, b => by
    cases st with
    | Return v pos =>
      cases v with
      | none => exact bad h
      | some v =>
        obtain ⟨x, p, rfl, hx⟩ := isName_of h
        obtain ⟨h1, h2, h3, h4⟩ := vis_of hx
        refine cvS (ps_ret (pe_var h1 h2 h3 h4)) fun D σ H q => ?_
        obtain ⟨g, s, A, q⟩ := q
        have q : FP c b W D g (match s.sl[i]? with
          | some (some r) => .ok (.rt r) s
          | _ => .err) := q
        split at q
        · rename_i r e
          obtain ⟨v, ev, hv⟩ := A.val i r e
          exact ⟨v, ev, q σ g H v (G.le.refl _) A hv⟩
        · exact False.elim q
    | _ => exact bad h
  | .raise k, W, X, st, S, h, b => by
    cases st with
    | Raise e cause pos =>
      cases e with
      | none => exact bad h
      | some e =>
        cases e with
        | Call fe args kws cp =>
          cases fe with
          | Name x p =>
            cases args with
            | nil => exact bad h
            | cons y l =>
              cases y with
              | Constant kk j p2 =>
                cases kk with
                | str m =>
                  cases l with
                  | cons _ _ => exact bad h
                  | nil =>
                    cases kws with
                    | cons _ _ => exact bad h
                    | nil =>
                      cases cause with
                      | some _ => exact bad h
                      | none =>
                        obtain ⟨h1, h2⟩ := and_of h
                        obtain ⟨h2, h3⟩ := and_of h2
                        exact ps_raiseI S (cool h2) h1 (of_decide_eq_true h3)
                | _ => exact bad h
              | _ => exact bad h
          | _ => exact bad h
        | _ => exact bad h
    | _ => exact bad h
  | .cont, W, X, st, S, h, b => by
    cases st with
    | Continue pos =>
      refine cvS ps_continue fun D σ H q => ?_
      obtain ⟨g, s, A, q⟩ := q
      exact q σ g H (G.le.refl _) A
    | _ => exact bad h
  | .pass, W, X, st, S, h, b => by
    cases st with
    | Pass pos =>
      refine cvS ps_pass fun D σ H q => ?_
      obtain ⟨g, s, A, q⟩ := q
      exact q σ g H (G.le.refl _) A
    | _ => exact bad h
  | .tryRet bd ks hh0, W, X, st, S, h, b => by
    cases hh0 with
    | const d => exact bad h
    | which i f =>
      cases st with
      | Try body hds orelse fin pos =>
        cases hds with
        | nil => exact bad h
        | cons hd hds =>
          obtain ⟨ty, nm, bdy, hp⟩ := hd
          cases ty with
          | none => exact bad h
          | some ty =>
            cases ty with
            | Name x np =>
              cases nm with
              | none => exact bad h
              | some n =>
                cases bdy with
                | nil => exact bad h
                | cons r rest =>
                  cases r with
                  | Return v rp =>
                    cases v with
                    | none => exact bad h
                    | some v =>
                      cases v with
                      | Call fe args kws cp =>
                        cases fe with
                        | Name y yp =>
                          cases args with
                          | nil => exact bad h
                          | cons z l =>
                            cases z with
                            | Name z zp =>
                              cases l with
                              | cons _ _ => exact bad h
                              | nil =>
                                cases kws with
                                | cons _ _ => exact bad h
                                | nil =>
                                  cases rest with
                                  | cons _ _ => exact bad h
                                  | nil =>
                                    cases hds with
                                    | cons _ _ => exact bad h
                                    | nil =>
                                      cases orelse with
                                      | cons _ _ => exact bad h
                                      | nil =>
                                        cases fin with
                                        | cons _ _ => exact bad h
                                        | nil =>
                                          obtain ⟨u1, u2⟩ := and_of h
                                          obtain ⟨u3, u4⟩ := and_of u1
                                          obtain ⟨u5, u6⟩ := and_of u4
                                          obtain ⟨u7, u8⟩ := and_of u6
                                          obtain ⟨u9, u10⟩ := and_of u8
                                          obtain ⟨v1, v2⟩ := and_of u2
                                          obtain ⟨v3, v4⟩ := and_of v1
                                          obtain ⟨v5, v6⟩ := and_of v4
                                          obtain ⟨v7, v8⟩ := and_of v2
                                          obtain ⟨v9, v10⟩ := and_of v7
                                          have u9 := of_decide_eq_true u9
                                          have v6 := of_decide_eq_true v6
                                          subst u9 v6
                                          exact ps_tryI S (cool u3) u5 (of_decide_eq_true u7) v3 (of_decide_eq_true v5) v9 (of_decide_eq_true v10) u10 fun {W' pn xe} S' => sSs bd S' v8 b
                            | _ => exact bad h
                        | _ => exact bad h
                      | _ => exact bad h
                  | _ => exact bad h
            | _ => exact bad h
      | _ => exact bad h
theorem sSs : ∀ (i : Ss) {W : WX} {X : Cx} {st : List Stmt}, SD c ck Γ lv W X → chkSs ck X.N i X.env.scope st = true → ∀ b, PSs X st (TSs c b W Γ i)
  | .nil, W, X, st, S, h, b => by
    cases st with
    | nil =>
      refine cvSs pss_nil fun D σ H q => ?_
      obtain ⟨g, s, A, q⟩ := q
      exact q σ g H (G.le.refl _) A
    | cons _ _ => exact bad h
  | .cons a r, W, X, st, S, h, b => by
    cases st with
    | nil => exact bad h
    | cons x l =>
      obtain ⟨h1, h2⟩ := and_of h
      refine cvSs (pss_cons (sS a S h1 b) (sSs r S h2 b)) fun D σ H q => ?_
      obtain ⟨g, s, A, q⟩ := q
      have q : FP c b W D g ((exec Γ a s).bind fun f s => match f with | .nx => execs Γ r s | f => .ok f s) := q
      refine ⟨g, s, A, ?_⟩
      exact FP.bindS (C := D.ct) (bk := D.bk) q (fun _ _ => rfl) (fun s _ σ' g' H' l A h => ⟨g', s, A, h⟩) (fun s _ σ' g' H' l A h => h σ' g' H' (G.le.refl _) A)
end
end
end Wi

/-! Soundness 16: defs. -/
namespace Wi
open PySem PySem.Spec PyProof.Rows L2
/-- a def of the text: its name, its statement, its names (the parameters first), its parameters -/
structure DI where
  x : Str
  st : Stmt
  N : List Str
  ps : List Str
abbrev TabL := List (Nat × Wi.Def × DI)
def tabOf (L : TabL) : Nat → Option Wi.Def := fun f => (L.lookup f).map (·.1)
def Bnd (i : DI) : Prop := ∀ (kV doc pm : Value) (an : Option Addr) (cdv ct : Value) (us : List Value), us.length = i.ps.length →
  bindArgs (PySem.W.fnOf i.x i.x (defArgs i.st) (defBody i.st) (defScope i.st) .none kV doc pm an cdv ct) ⟨us, []⟩ = pure (i.ps.zip us)
def scB (N P : List Str) (sc : Scope) : Bool :=
  decide (sc.kind = .function) && (!sc.isCoroutine && (!sc.isGenerator && (decide N.Nodup && (decide (N.take P.length = P) && (P.all (fun x => stoB sc x) && sc.names.all (fun y => !decide (y.2 = .free)))))))
theorem scB_ok {N P : List Str} {sc : Scope} (h : scB N P sc = true) : FnScope N P sc := by
  obtain ⟨h1, h⟩ := and_of h
  obtain ⟨h2, h⟩ := and_of h
  obtain ⟨h3, h⟩ := and_of h
  obtain ⟨h4, h⟩ := and_of h
  obtain ⟨h5, h⟩ := and_of h
  obtain ⟨h6, h7⟩ := and_of h
  refine ⟨of_decide_eq_true h1, by simpa using h2, by simpa using h3, of_decide_eq_true h4, of_decide_eq_true h5, fun x hx => ?_, fun y hy => ?_⟩
  · have := List.all_eq_true.mp h6 x hx
    unfold stoB at this
    split at this
    · rename_i e; exact .inl e
    · rename_i e; exact .inr e
    · exact bad this
  · have := List.all_eq_true.mp h7 y hy
    simpa using this
def defB (ck : CK) (d : Wi.Def) (i : DI) : Bool := chkSs ck i.N d.body (defScope i.st) (defBody i.st) && (scB i.N i.ps (defScope i.st) && (decide (d.np = i.ps.length) && decide (d.n = i.N.length)))
/-- a def that is called within suites alone -/
def hotCk (ck : CK) : CK := { ck with hot := true, hots := [], fns := [] }
/-- what the head tells -/
structure HF (K : PySem.W.Frag) (mg : Str → Option Value) (c : Cn) (ck : CK) (L : TabL) : Prop where
  kk : c.K = K
  cool : ck.hot = false
  fn : ∀ x f, ck.fns.lookup x = some f → ∃ d i, L.lookup f = some (d, i) ∧ i.x = x ∧ mg x = some (.ref (c.fa f)) ∧ defB ck d i = true ∧ Bnd i ∧ ∃ fd, Fun K x x i.st (c.fa f) fd
  blt : ∀ x ∈ bltNames, mg x = none
  cst : ∀ x d, ck.cst.lookup x = some d → ∃ u v, mg x = some u ∧ RelV v u ∧ Rep c.K (fun _ => none) d v
  exs : ∀ x k, ck.exs.lookup x = some k → mg x = some (.ref (c.ca k)) ∧ PySem.W.excIn K (c.ca k) He.veBase "ValueError.__new__" = true ∧ PySem.W.keepIn K (.ref (c.ca k)) = true ∧
    PySem.W.subIn K (.ref (c.ca k)) (.type "BaseException") = some true ∧ PySem.W.typeIn K (.ref (c.ca k)) = some (.type "type")
  hots : ∀ y f, ck.hots.lookup y = some f → ∃ d i, L.lookup f = some (d, i) ∧ i.x = y ∧ mg y = some (.ref (c.fa f)) ∧ defB (hotCk ck) d i = true ∧ i.ps.length = 1 ∧ Bnd i ∧ ∃ fd, Fun K y y i.st (c.fa f) fd
  exh : ∀ y f, ck.hots.lookup y = some f → ∀ k, k < 13 → PySem.W.exmOne K (.ref (c.ca k)) (.ref (c.ca 0)) = some true ∧ ExcC K (c.ca k) ∧ PySem.W.kitOne K (.ref (c.ca k)) (.type "ValueError") = some true ∧
    ∀ x j, ck.exs.lookup x = some j → j ≠ 0 → PySem.W.kitOne K (.ref (c.ca k)) (.ref (c.ca j)) = some (k == j)
section
variable {P : Program} {w : World} {K : PySem.W.Frag} {mg : Str → Option Value} {base : Heap} {c : Cn} {ck : CK} {L : TabL}
theorem start_len (N : List Str) (vs : List V) : (L2.start N vs).length = vs.length + (N.length - vs.length) := by
  unfold L2.start
  rw [List.length_append, List.length_map, List.length_replicate]
theorem wstart_get {d : Wi.Def} {xs : List Rv} {i : Nat} {r : Rv} (h : (Wi.start d xs)[i]? = some (some r)) : xs[i]? = some r := by
  unfold Wi.start at h
  by_cases hi : i < xs.length
  · rw [List.getElem?_append_left (by simpa using hi), List.getElem?_map] at h
    cases e : xs[i]? with
    | none => rw [e] at h; cases h
    | some a => rw [e] at h; cases h; rfl
  · rw [List.getElem?_append_right (by simpa using hi), List.getElem?_replicate] at h
    split at h <;> cases h
theorem repA_get {b : Bs} {g : G} {H : Hp} : ∀ {rs : List Rv} {vs : List V} {i : Nat} {r : Rv}, RepA c b g H rs vs → rs[i]? = some r → ∃ v, vs[i]? = some v ∧ RepO c b g H r v ∧ isOwn r = false
  | _ :: _, _ :: _, 0, _, .cons h t, e => by
    cases (by simpa using e : _ = _)
    exact ⟨_, rfl, h⟩
  | _ :: _, _ :: _, i + 1, _, .cons h t, e => by
    obtain ⟨v, e2, q⟩ := repA_get t (by simpa using e)
    exact ⟨v, by simpa using e2, q⟩
  | [], [], _, _, .nil, e => by simp at e
theorem abs_start {d : Wi.Def} {N : List Str} {g : G} {H : Hp} {xs : List Rv} {vs : List V} {sh : Sh} (S : ShOk c g H sh) (hv : RepA c ⟨H, g⟩ g H xs vs) (h1 : d.n = N.length) (h2 : xs.length = d.np) : Abs c ⟨H, g⟩ g (L2.start N vs) H ⟨Wi.start d xs, sh⟩ := by
  have hl : xs.length = vs.length := paired_len hv
  have none_own : ∀ i, ownAt (Wi.start d xs) i = true → False := fun i hi => by
    obtain ⟨r, e, ho⟩ := ownAt_isOwn.mp hi
    obtain ⟨v, _, _, no⟩ := repA_get hv (wstart_get e)
    rw [no] at ho; cases ho
  refine ⟨S, ?_, fun i r e => ?_, fun i j _ hi _ => (none_own i hi).elim, G.le.refl _, fun a o e _ => e, fun a o e n => ?_, fun a ha => .inl ha⟩
  · rw [start_len]
    show _ = (Wi.start d xs).length
    unfold Wi.start
    rw [List.length_append, List.length_map, List.length_replicate, ← hl, h1, ← h2]
  · obtain ⟨v, e2, q, _⟩ := repA_get hv (wstart_get e)
    refine ⟨v, ?_, q⟩
    have hi : i < vs.length := (List.getElem?_eq_some_iff.mp e2).1
    unfold L2.start
    rw [List.getElem?_append_left (by simpa using hi), List.getElem?_map, e2]; rfl
  · have n : g.F a = none := n
    rw [n] at e; cases e
theorem Abs.post {g g' : G} {H H' : Hp} {σ : L2.St} {s : Wi.St} (A : Abs c ⟨H, g⟩ g' σ H' s) : Post c g H g' H' s.sh := by
  refine ⟨A.le, A.sh, fun a o e n => ?_, fun a o e n => A.fnew a o e n, A.anew⟩
  by_cases hm : a ∈ g'.as
  · rcases A.anew a hm with z | z
    · exact absurd z n
    · have z : H a = none := z
      rw [z] at e; cases e
  · exact A.keep a o e hm
theorem call_eq {k f : Nat} {d : Wi.Def} {i : DI} {xs : List Rv} {sh : Sh} (hf : L.lookup f = some (d, i)) (hl : xs.length = d.np) : callN (tabOf L) (k + 1) f xs sh = ending (execs (callN (tabOf L) k) d.body ⟨Wi.start d xs, sh⟩) := by
  show (match tabOf L f with
    | some d => if xs.length = d.np then ending (execs (callN (tabOf L) k) d.body ⟨Wi.start d xs, sh⟩) else .err
    | none => .err) = _
  have : tabOf L f = some d := by unfold tabOf; rw [hf]; rfl
  rw [this]
  exact if_pos hl
theorem call_len {k f : Nat} {d : Wi.Def} {i : DI} {xs : List Rv} {sh : Sh} (hf : L.lookup f = some (d, i)) (hl : xs.length ≠ d.np) : callN (tabOf L) k f xs sh = .err := by
  cases k with
  | zero => rfl
  | succ k =>
    show (match tabOf L f with
      | some d => if xs.length = d.np then ending (execs (callN (tabOf L) k) d.body ⟨Wi.start d xs, sh⟩) else .err
      | none => .err) = _
    have : tabOf L f = some d := by unfold tabOf; rw [hf]; rfl
    rw [this]
    exact if_neg hl
/-- a body's end -/
theorem body_end {Γ : Gam} {g : G} {H : Hp} {m : Res Fl} {Q : VK} {E : XK}
    (q : match ending m with
      | .ok r sh' => ∀ g' H' v, Post c g H g' H' sh' → RepO c ⟨H, g⟩ g' H' r v → Q v H'
      | .exc k sh' => ∀ g' H', Post c g H g' H' sh' → E (.ref (c.ca k)) none H'
      | .err => False) : FP c ⟨H, g⟩ (fun cls d _ H => E cls d H) { nx := fun _ H' => Q .non H', rt := Q } g m := by
  cases m with
  | ok fl s' =>
    cases fl with
    | nx => exact fun σ' g' H' _ A => q g' H' .non A.post rfl
    | ct => exact False.elim q
    | rt r => exact fun σ' g' H' v _ A hr => q g' H' v A.post hr
  | exc k' s' => exact fun σ' g' H' _ A => q g' H' A.post
  | err => exact False.elim q
theorem defs_hot (F : HF K mg c ck L) : ∀ (k : Nat) (y : Str) (f : Nat) (d : Wi.Def) (i : DI) (fd : FuncData) (a : Addr) (e : Nat) (oe : Obj), ck.hots.lookup y = some f → L.lookup f = some (d, i) → defB (hotCk ck) d i = true → i.ps.length = 1 → Fun K y y i.st (c.fa f) fd →
    e < 13 → L2N.Zn (.ref (c.ca e)) none oe → (∃ vs, oe.data = .fields vs) → FnE P w K mg base (L2N.CX P w) k (c.fa f) fd i.ps (a, oe) (spOf (hotCn c a e) (callN (tabOf L) k) f 1)
  | 0, y, f, d, i, fd, a, e, oe, hy, hf, hd, h1, hF, he, hz, hv => ⟨fun vs H Q E ⟨_, _, _, _, _, _, q⟩ => False.elim q, fun A outer s H args us vs Q E hr _ _ e0 hb rv ⟨_, _, _, _, _, _, q⟩ => False.elim q⟩
  | k + 1, y, f, d, i, fd, a, e, oe, hy, hf, hd, h1, hF, he, hz, hv => by
    obtain ⟨d1, d2⟩ := and_of hd
    obtain ⟨d2, d3⟩ := and_of d2
    obtain ⟨d3, d4⟩ := and_of d3
    have d3 := of_decide_eq_true d3
    have d4 := of_decide_eq_true d4
    have sc := scB_ok d2
    obtain ⟨oc, od, kV, doc, pm, an, cdv, ct, osl, rfl, lk, hcd⟩ := hF.ex
    refine fn_ofE lk hcd sc (fun vs H Q E h => by rw [h1]; exact h.choose_spec.choose_spec.choose_spec.1) fun A outer s H vs Q E hot hr h => ?_
    obtain ⟨g, xs, sh, hn, S, hvs, q⟩ := h
    have hl : xs.length = vs.length := paired_len hvs
    have hx := F.exh y f hy e he
    refine ⟨TSs (hotCn c a e) ⟨H, g⟩ (fun cls d _ H => E cls d H) (callN (tabOf L) k) d.body, sSs d.body (lv := k) (ck := hotCk ck) (c := hotCn c a e) (X := L2H.cxH (L2N.CX P w) P w K mg base i.N y (defScope i.st) (c.fa f) cdv A outer s H E (a, oe))
      ⟨⟨F.kk.symm, sc.nd, fun z => (nomatch z), fun z => (nomatch z), ?_, L2N.takes_of rfl rfl rfl rfl, F.blt, F.exs, fun _ => ⟨⟨oe, List.mem_singleton.mpr rfl, hz, hv⟩, hx.2.1, hx.2.2.1, hx.2.2.2⟩, F.cst, fun x f hx => nomatch hx⟩, passes_of rfl, fun _ => rfl, sc.kind, rfl, rfl, fun y f hy => nomatch hy⟩ d1 _, g, ⟨Wi.start d xs, sh⟩, abs_start S hvs d4 (by rw [hl, hn, d3, h1]), ?_⟩
    · have := hr.un
      show (A.deeper _).units + 64 < cLine
      omega
    · rw [call_eq hf (by rw [hl, hn, d3, h1])] at q
      exact body_end (Γ := callN (tabOf L) k) q
theorem defs_ok (F : HF K mg c ck L) : ∀ (k : Nat) (x : Str) (f : Nat) (d : Wi.Def) (i : DI) (fd : FuncData), ck.fns.lookup x = some f → L.lookup f = some (d, i) → defB ck d i = true → Fun K x x i.st (c.fa f) fd →
    FnOk P w K mg base (L2N.CX P w) k (c.fa f) fd i.ps (spOf c (callN (tabOf L) k) f i.ps.length)
  | 0, x, f, d, i, fd, hx, hf, hd, hF => ⟨fun vs H Q E ⟨_, _, _, _, _, _, q⟩ => False.elim q, fun A outer s H args us vs Q E hr e0 hb rv ⟨_, _, _, _, _, _, q⟩ => False.elim q⟩
  | k + 1, x, f, d, i, fd, hx, hf, hd, hF => by
    obtain ⟨d1, d2⟩ := and_of hd
    obtain ⟨d2, d3⟩ := and_of d2
    obtain ⟨d3, d4⟩ := and_of d3
    have d3 := of_decide_eq_true d3
    have d4 := of_decide_eq_true d4
    have sc := scB_ok d2
    obtain ⟨oc, od, kV, doc, pm, an, cdv, ct, osl, rfl, lk, hcd⟩ := hF.ex
    refine fn_of lk hcd sc (fun vs H Q E h => h.choose_spec.choose_spec.choose_spec.1) fun A outer s H vs Q E hr h => ?_
    obtain ⟨g, xs, sh, hn, S, hv, q⟩ := h
    have hl : xs.length = vs.length := paired_len hv
    refine ⟨TSs c ⟨H, g⟩ (fun cls d _ H => E cls d H) (callN (tabOf L) k) d.body, sSs d.body (lv := k) (ck := ck) (c := c)
      ⟨⟨F.kk.symm, sc.nd, fun _ => rfl, fun _ => hr, hr.units, L2N.takes_of rfl rfl rfl rfl, F.blt, F.exs, fun z => (by rw [F.cool] at z; cases z), F.cst, fun x f hx => ?_⟩, passes_of rfl, fun _ => rfl, sc.kind, rfl, rfl, fun y f hy => ?_⟩ d1 _, g, ⟨Wi.start d xs, sh⟩, abs_start S hv d4 (by rw [hl, hn, d3]), ?_⟩
    · obtain ⟨d', i', h1, h2, h3, h4, h5, fd', h6⟩ := F.fn x f hx
      refine ⟨h3, h6.kp, fd', i'.ps, i'.ps.length, defs_ok F k x f d' i' fd' hx h1 h4 h6, ?_, fun xs sh hne => ?_⟩
      · subst h2
        exact h6.binds h5
      · obtain ⟨e1, e2⟩ := and_of h4
        obtain ⟨e2, e3⟩ := and_of e2
        obtain ⟨e3, e4⟩ := and_of e3
        exact call_len h1 (by rw [of_decide_eq_true e3]; exact hne)
    · obtain ⟨d', i', h1, h2, h3, h4, h5, h6, fd', h7⟩ := F.hots y f hy
      refine ⟨h3, h7.kp, fun k hk => (F.exh y f hy k hk).1, fun a e oe he hz hv => ⟨fd', i'.ps, defs_hot F k y f d' i' fd' a e oe hy h1 h4 h5 h7 he hz hv, ?_⟩⟩
      subst h2
      exact h7.binds h6
    · rw [call_eq hf (by rw [hl, hn, d3])] at q
      exact body_end (Γ := callN (tabOf L) k) q
/-- a law's def, asked of its script -/
theorem law_sp {k f : Nat} {sh' : Sh} {H : Hp} {a : Addr} {ns : List Int} (hr : callN (tabOf L) k f [.ro (ns.map .int)] [] = .ok (.v (.bl true)) sh') (hk : c.K = K) (hS : SqL K H a (ns.map V.int)) : spOf c (callN (tabOf L) k) f 1 [.ref a] H (fun v _ => v = .bl true) (fun _ _ _ => False) := by
  have rl : ∀ ns : List Int, RepL c.K H (ns.map .int) (ns.map V.int) := by
    intro ns
    induction ns with
    | nil => rfl
    | cons n ns ih => exact ⟨_, _, rfl, rfl, ih⟩
  refine ⟨⟨H, []⟩, [.ro (ns.map .int)], [], rfl, ⟨Sub.refl _, rfl, List.nodup_nil, fun a ha => (nomatch ha), fun i o a h1 _ => by simp at h1⟩, .cons ⟨⟨a, ns.map V.int, rfl, by rw [hk]; exact hS, rl ns⟩, rfl⟩ .nil, ?_⟩
  rw [hr]
  exact fun g' H' v _ h => h
end
end Wi

/-! The head: what it tells, the law's end. -/
namespace Wi
open PySem PySem.Spec PyProof.Rows L2
mutual
def repVB (K : PySem.W.Frag) : D → Value → Bool
  | .non, .none => true
  | .bl a, .bool b => a == b
  | .int i, .int j _ => i == j
  | .str s, .str y _ => decide (y.cps.toList = s) && (decide (s.length ≤ 1000) && s.all fun c => decide (c < 0x110000))
  | .tup ds, .ref a => match K.lookup a with
    | some ⟨.type t, _, .seq its _, _⟩ => decide (t = "tuple") && (decide (its.size ≤ 1000) && repLB K ds its.toList)
    | _ => false
  | _, _ => false
def repLB (K : PySem.W.Frag) : List D → List Value → Bool
  | [], [] => true
  | d :: ds, u :: us => repVB K d u && repLB K ds us
  | _, _ => false
end
mutual
theorem repVB_ok {K : PySem.W.Frag} : ∀ (d : D) (u : Value), repVB K d u = true → ∃ v, RelV v u ∧ Rep K (fun _ => none) d v
  | .non, u, h => by
    cases u <;> first | exact ⟨.non, rfl, rfl⟩ | exact bad h
  | .bl a, u, h => by
    cases u with
    | bool b =>
      have : a = b := beq_iff_eq.mp h
      exact ⟨.bl b, rfl, by rw [this]; rfl⟩
    | _ => exact bad h
  | .int i, u, h => by
    cases u with
    | int j t =>
      have : i = j := beq_iff_eq.mp h
      exact ⟨.int j, ⟨t, rfl⟩, by rw [this]; rfl⟩
    | _ => exact bad h
  | .str s, u, h => by
    cases u with
    | str y t =>
      obtain ⟨h1, h2⟩ := and_of h
      obtain ⟨h2, h3⟩ := and_of h2
      have e : y = strV s := by
        have := of_decide_eq_true h1
        rw [← this]; rfl
      have h2 := of_decide_eq_true h2
      exact ⟨.str y, ⟨t, rfl⟩, by rw [e], by unfold LIM; omega, fun c hc => of_decide_eq_true (List.all_eq_true.mp h3 c hc)⟩
    | _ => exact bad h
  | .tup ds, u, h => by
    cases u with
    | ref a =>
      have h : (match K.lookup a with
        | some ⟨.type t, _, .seq its _, _⟩ => decide (t = "tuple") && (decide (its.size ≤ 1000) && repLB K ds its.toList)
        | _ => false) = true := h
      split at h
      · rename_i t od its n sl e
        obtain ⟨h1, h2⟩ := and_of h
        obtain ⟨h2, h3⟩ := and_of h2
        obtain ⟨vs, r1, r2⟩ := repLB_ok ds its.toList h3
        have h1 := of_decide_eq_true h1
        subst h1
        have h2 := of_decide_eq_true h2
        exact ⟨.ref a, rfl, a, vs, rfl, .inr ⟨_, its, n, e, rfl, rfl, by rw [sizeLine_eq]; omega, r1⟩, r2⟩
      · exact bad h
    | _ => exact bad h
  | .lst _, u, h => by cases u <;> exact bad h
theorem repLB_ok {K : PySem.W.Frag} : ∀ (ds : List D) (us : List Value), repLB K ds us = true → ∃ vs, Vals vs us ∧ RepL K (fun _ => none) ds vs
  | [], us, h => by
    cases us with
    | nil => exact ⟨[], .nil, rfl⟩
    | cons _ _ => exact bad h
  | d :: ds, us, h => by
    cases us with
    | nil => exact bad h
    | cons u us =>
      obtain ⟨h1, h2⟩ := and_of h
      obtain ⟨v, r1, q1⟩ := repVB_ok d u h1
      obtain ⟨vs, r2, q2⟩ := repLB_ok ds us h2
      exact ⟨v :: vs, .cons r1 r2, v, vs, rfl, q1, q2⟩
end
theorem mem_lk {β : Type} : ∀ {l : List (Nat × β)} {a : Nat} {b : β}, l.lookup a = some b → (a, b) ∈ l
  | [], _, _, h => by cases h
  | (k, v) :: r, a, b, h => by
    rw [List.lookup_cons] at h
    cases e : a == k with
    | true =>
      rw [e] at h
      cases h
      rw [beq_iff_eq.mp e]
      exact List.mem_cons_self
    | false =>
      rw [e] at h
      exact List.mem_cons_of_mem _ (mem_lk h)
/-! ### facts of mine -/
inductive Fb where
  | con (x : Str) (d : D)
  | excC (x : Str)
  | kv (x : Str)
  | kk (x y : Str) (b : Bool)
def conB (K : PySem.W.Frag) (x : Str) (d : D) : Bool := match PySem.W.nsIn K mainGlobals x with
  | some (some u) => repVB K d u
  | _ => false
def excCB (K : PySem.W.Frag) (D : Addr) : Bool :=
  He.eqO (PySem.W.findIn K (.ref D) "__getattribute__") (some (some (.builtin "BaseException.__getattribute__"))) && (He.eqO (PySem.W.findIn K (.ref D) "__getattr__") (some none) &&
  (decide (PySem.W.subIn K (.ref D) (.type "BaseException") = some true) && (PySem.W.hasDictIn K D && (He.eqO (PySem.W.findIn K (.ref D) "__class__") (some (some (.builtin "object.__class__"))) &&
  (He.eqO (PySem.W.specialIn K (.builtin "object.__class__") "__get__") (some (some (.builtin "getset_descriptor.__get__"))) && (decide (PySem.W.takesIn K (.builtin "object.__class__") = some true) && decide (PySem.W.mroIn K D (.type "object") = some true)))))))
theorem excCB_ok {K : PySem.W.Frag} {D : Addr} (h : excCB K D = true) : ExcC K D := by
  obtain ⟨h1, h⟩ := and_of h
  obtain ⟨h2, h⟩ := and_of h
  obtain ⟨h3, h⟩ := and_of h
  obtain ⟨h4, h⟩ := and_of h
  obtain ⟨h5, h⟩ := and_of h
  obtain ⟨h6, h⟩ := and_of h
  obtain ⟨h7, h8⟩ := and_of h
  exact ⟨He.eqO_ok h1, He.eqO_ok h2, of_decide_eq_true h3, h4, He.eqO_ok h5, He.eqO_ok h6, of_decide_eq_true h7, of_decide_eq_true h8⟩
def Fb.ok (K : PySem.W.Frag) : Fb → Bool
  | .con x d => conB K x d
  | .excC x => excCB K (He.ga K x)
  | .kv x => decide (PySem.W.kitOne K (.ref (He.ga K x)) (.type "ValueError") = some true)
  | .kk x y b => decide (PySem.W.kitOne K (.ref (He.ga K x)) (.ref (He.ga K y)) = some b)
/-! ### the Hook -/
def obsK (fa : List He.Fa) (fn : List He.FnD) (fb : List Fb) (K : PySem.W.Frag) : He.Al × Bool := (He.obsE fa fn K, fb.all fun f => f.ok K)
def obsW (n : Nat) (fa : List He.Fa) (fn : List He.FnD) (fb : List Fb) (g : Addr → Option Obj) : He.Al × Bool := obsK fa fn fb (He.frG g (He.asG g n))
def SaysW (fa : List He.Fa) (fn : List He.FnD) (fb : List Fb) (K : PySem.W.Frag) : Prop := obsK fa fn fb K = (He.valE fn, true)
def hookW (n : Nat) (fa : List He.Fa) (fn : List He.FnD) (fb : List Fb) : PySem.W.Hook where
  α := He.Al × Bool
  obs := fun s => obsW n fa fn fb s.heap.get?
  val := fun _ => (He.valE fn, true)
  says := fun _ h => ∃ K : PySem.W.Frag, K.In h ∧ SaysW fa fn fb K
  of := fun _ _ e => ⟨_, He.frG_in, e⟩
  keeps := fun _ _ _ ⟨K, hK, c⟩ k => ⟨K, PySem.W.Frag.In.keeps hK k, c⟩
theorem obsW_eq {n : Nat} {fa : List He.Fa} {fn : List He.FnD} {fb : List Fb} {g : Addr → Option Obj} {s : Shared} (h : ∀ a, g a = s.heap.get? a) : obsW n fa fn fb g = (hookW n fa fn fb).obs s := by
  have e : g = s.heap.get? := funext h
  rw [e]; rfl
section
variable {lA : List He.Fa} {lN : List He.FnD} {lB : List Fb} {K : PySem.W.Frag}
theorem SaysW.e (c : SaysW lA lN lB K) : He.SaysE lA lN K := congrArg Prod.fst c
theorem SaysW.fa (c : SaysW lA lN lB K) {f : He.Fa} (h : f ∈ lA) : f.ok K = true := by
  obtain ⟨i, e⟩ := List.mem_iff_getElem?.mp h
  exact c.e.fact i e
theorem SaysW.fb (c : SaysW lA lN lB K) {f : Fb} (h : f ∈ lB) : f.ok K = true := List.all_eq_true.mp (show (lB.all fun f => f.ok K) = true from congrArg Prod.snd c) f h
theorem SaysW.def_ (c : SaysW lA lN lB K) {d : He.FnD} (h : d ∈ lN) :
    ∃ oc od osl kV doc pm an cdv ct, K.lookup (He.fAd K d.at_) = some ⟨oc, od, .func (PySem.W.fnOf d.name d.qual d.params d.body d.scope .none kV doc pm an cdv ct), osl⟩ ∧ PySem.W.codeIn K cdv d.qual = true := by
  obtain ⟨i, e⟩ := List.mem_iff_getElem?.mp h
  exact c.e.def_ i e
end
/-! ### a law's facts, from its tables -/
def allX (ck : CK) : List Str := ck.exs.map (·.1)
def faOf (ck : CK) (L : TabL) : List He.Fa := (L.flatMap fun e => [.glo e.2.2.x, .keep e.2.2.x]) ++ (ck.exs.flatMap fun p => [.glo p.1, .exc p.1]) ++ bltNames.map .free ++
  (if ck.hots.isEmpty then [] else ck.exs.map fun p => .exm p.1 ((ck.exs.head?.map (·.1)).getD "") true)
def fnsOf (L : TabL) : List He.FnD := L.map fun e => ⟨(e.2.2.x, none), e.2.2.x, e.2.2.x, defArgs e.2.2.st, defBody e.2.2.st, defScope e.2.2.st⟩
def fbOf (ck : CK) : List Fb := (ck.cst.map fun p => .con p.1 p.2) ++ (if ck.hots.isEmpty then [] else (ck.exs.flatMap fun p => [.excC p.1, .kv p.1]) ++ (ck.exs.flatMap fun p => (ck.exs.filter fun q => q.2 != 0).map fun q => .kk p.1 q.1 (p.2 == q.2)))
def faddr (K : PySem.W.Frag) (L : TabL) (f : Nat) : Addr := match L.lookup f with
  | some (_, i) => He.ga K i.x
  | none => 0
def caddr (K : PySem.W.Frag) (ck : CK) (k : Nat) : Addr := match ck.exs.find? fun p => p.2 == k with
  | some p => He.ga K p.1
  | none => He.ga K ((ck.exs.head?.map (·.1)).getD "")
def cnOf (K : PySem.W.Frag) (ck : CK) (L : TabL) : Cn := ⟨K, faddr K L, caddr K ck, 0, 0⟩
/-- what is looked up of the tables alone -/
def tabB (ck : CK) (L : TabL) : Bool :=
  !ck.hot && ((ck.fns.all fun p => match L.lookup p.2 with
    | some (d, i) => decide (i.x = p.1) && defB ck d i
    | none => false) && ((ck.hots.all fun p => match L.lookup p.2 with
    | some (d, i) => decide (i.x = p.1) && (defB (hotCk ck) d i && decide (i.ps.length = 1))
    | none => false) && ((ck.exs.all fun p => decide ((ck.exs.find? fun q => q.2 == p.2) = some p)) && (ck.hots.isEmpty || decide (ck.exs.head?.map (·.2) = some 0)))))
def AllBnd : TabL → Prop
  | [] => True
  | e :: r => Bnd e.2.2 ∧ AllBnd r
theorem AllBnd.at : ∀ {L : TabL} {e : Nat × Wi.Def × DI}, AllBnd L → e ∈ L → Bnd e.2.2
  | _ :: _, e, h, hm => by
    rcases List.mem_cons.mp hm with rfl | hm
    · exact h.1
    · exact AllBnd.at h.2 hm
section
variable {ck : CK} {L : TabL} {K : PySem.W.Frag} {h : Heap} {mg : Str → Option Value}
theorem fun_of (c : SaysW (faOf ck L) (fnsOf L) (fbOf ck) K) {e : Nat × Wi.Def × DI} (hm : e ∈ L) : ∃ fd, Fun K e.2.2.x e.2.2.x e.2.2.st (He.ga K e.2.2.x) fd := by
  obtain ⟨oc, od, osl, kV, doc, pm, an, cdv, ct, h1, h2⟩ := c.def_ (d := ⟨(e.2.2.x, none), e.2.2.x, e.2.2.x, defArgs e.2.2.st, defBody e.2.2.st, defScope e.2.2.st⟩) (List.mem_map.mpr ⟨e, hm, rfl⟩)
  refine ⟨_, fun_mk (osl := osl) (oc := oc) (od := od) h1 h2 ?_⟩
  exact He.keep_ok (c.fa (f := .keep e.2.2.x) (List.mem_append_left _ (List.mem_append_left _ (List.mem_append_left _ (List.mem_flatMap.mpr ⟨e, hm, List.mem_cons_of_mem _ List.mem_cons_self⟩)))))
theorem hf_of (c : SaysW (faOf ck L) (fnsOf L) (fbOf ck) K) (X : K.In h) (G : h.Ns mainGlobals mg) (tb : tabB ck L = true) (bn : AllBnd L) : HF K mg (cnOf K ck L) ck L := by
  obtain ⟨t1, tb⟩ := and_of tb
  obtain ⟨t2, tb⟩ := and_of tb
  obtain ⟨t3, tb⟩ := and_of tb
  obtain ⟨t4, t5⟩ := and_of tb
  have glo : ∀ {e : Nat × Wi.Def × DI}, e ∈ L → mg e.2.2.x = some (.ref (He.ga K e.2.2.x)) := fun {e} hm =>
    He.glo_ok X G (c.fa (f := .glo e.2.2.x) (List.mem_append_left _ (List.mem_append_left _ (List.mem_append_left _ (List.mem_flatMap.mpr ⟨e, hm, List.mem_cons_self⟩)))))
  have faE : ∀ {f : Nat} {d : Wi.Def} {i : DI}, L.lookup f = some (d, i) → faddr K L f = He.ga K i.x := fun {f d i} e => by unfold faddr; rw [e]
  have xa : ∀ {p : Str × Nat}, p ∈ ck.exs → caddr K ck p.2 = He.ga K p.1 := fun {p} hp => by
    have := of_decide_eq_true (List.all_eq_true.mp t4 p hp)
    unfold caddr
    rw [this]
  have hot : ∀ {y : Str} {f : Nat}, ck.hots.lookup y = some f → ck.hots.isEmpty = false := fun {y f} e => by
    cases q : ck.hots with
    | nil => rw [q] at e; cases e
    | cons _ _ => rfl
  refine ⟨rfl, cool t1, fun x f hx => ?_, fun x hx => ?_, fun x d hx => ?_, fun x k hx => ?_, fun y f hy => ?_, fun y f hy k hk => ?_⟩
  · have hm := List.all_eq_true.mp t2 (x, f) (PySem.mem_of_lookup hx)
    cases e : L.lookup f with
    | none =>
      have hm : (match L.lookup f with
        | some (d, i) => decide (i.x = x) && defB ck d i
        | none => false) = true := hm
      rw [e] at hm; exact bad hm
    | some p =>
      obtain ⟨d, i⟩ := p
      have hm : (match L.lookup f with
        | some (d, i) => decide (i.x = x) && defB ck d i
        | none => false) = true := hm
      rw [e] at hm
      obtain ⟨m1, m2⟩ := and_of hm
      have m1 := of_decide_eq_true m1
      have me := mem_lk e
      subst m1
      have := fun_of c me
      refine ⟨d, i, rfl, rfl, ?_, m2, bn.at me, ?_⟩
      · show mg i.x = some (.ref (faddr K L f))
        rw [faE e]; exact glo me
      · show ∃ fd, Fun K i.x i.x i.st (faddr K L f) fd
        rw [faE e]; exact this
  · exact He.free_ok X G (c.fa (f := .free x) (List.mem_append_left _ (List.mem_append_right _ (List.mem_map.mpr ⟨x, hx, rfl⟩))))
  · have hm := PySem.mem_of_lookup hx
    have q := c.fb (f := .con x d) (List.mem_append_left _ (List.mem_map.mpr ⟨(x, d), hm, rfl⟩))
    have q : (match PySem.W.nsIn K mainGlobals x with
      | some (some u) => repVB K d u
      | _ => false) = true := q
    split at q
    · rename_i u e
      obtain ⟨v, r1, r2⟩ := repVB_ok d u q
      exact ⟨u, v, PySem.W.mg_of X G e, r1, r2⟩
    · exact bad q
  · have hm := PySem.mem_of_lookup hx
    have e : caddr K ck k = He.ga K x := xa hm
    have g1 := He.glo_ok X G (c.fa (f := .glo x) (List.mem_append_left _ (List.mem_append_left _ (List.mem_append_right _ (List.mem_flatMap.mpr ⟨(x, k), hm, List.mem_cons_self⟩)))))
    have g2 := He.exc_ok (c.fa (f := .exc x) (List.mem_append_left _ (List.mem_append_left _ (List.mem_append_right _ (List.mem_flatMap.mpr ⟨(x, k), hm, List.mem_cons_of_mem _ List.mem_cons_self⟩)))))
    show mg x = some (.ref (caddr K ck k)) ∧ PySem.W.excIn K (caddr K ck k) _ _ = true ∧ PySem.W.keepIn K (.ref (caddr K ck k)) = true ∧ PySem.W.subIn K (.ref (caddr K ck k)) _ = _ ∧ PySem.W.typeIn K (.ref (caddr K ck k)) = _
    rw [e]
    exact ⟨g1, g2⟩
  · have hm := List.all_eq_true.mp t3 (y, f) (PySem.mem_of_lookup hy)
    have hm : (match L.lookup f with
      | some (d, i) => decide (i.x = y) && (defB (hotCk ck) d i && decide (i.ps.length = 1))
      | none => false) = true := hm
    cases e : L.lookup f with
    | none => rw [e] at hm; exact bad hm
    | some p =>
      obtain ⟨d, i⟩ := p
      rw [e] at hm
      obtain ⟨m1, m2⟩ := and_of hm
      obtain ⟨m2, m3⟩ := and_of m2
      have m1 := of_decide_eq_true m1
      have me := mem_lk e
      subst m1
      have := fun_of c me
      refine ⟨d, i, rfl, rfl, ?_, m2, of_decide_eq_true m3, bn.at me, ?_⟩
      · show mg i.x = some (.ref (faddr K L f))
        rw [faE e]; exact glo me
      · show ∃ fd, Fun K i.x i.x i.st (faddr K L f) fd
        rw [faE e]; exact this
  · have he := hot hy
    rw [he, Bool.false_or] at t5
    have t5 := of_decide_eq_true t5
    cases e0 : ck.exs with
    | nil => rw [e0] at t5; cases t5
    | cons p0 r0 =>
      have h0 : p0 ∈ ck.exs := by rw [e0]; exact List.mem_cons_self
      have z0 : p0.2 = 0 := by rw [e0] at t5; simpa using t5
      have e1 := xa h0
      rw [z0] at e1
      -- the class that stands for k: its own, or the first
      obtain ⟨p, hp, e, hj⟩ : ∃ p ∈ ck.exs, caddr K ck k = He.ga K p.1 ∧ ∀ x j, (x, j) ∈ ck.exs → j ≠ 0 → (p.2 == j) = (k == j) := by
        cases ef : ck.exs.find? fun q => q.2 == k with
        | some p =>
          have hpk : p.2 = k := by simpa using List.find?_some ef
          exact ⟨p, List.mem_of_find?_eq_some ef, by unfold caddr; rw [ef], fun x j _ _ => by rw [hpk]⟩
        | none =>
          refine ⟨p0, h0, by unfold caddr; rw [ef, e0]; rfl, fun x j hm hj => ?_⟩
          have h1 := List.find?_eq_none.mp ef (x, j) hm
          have h1 : ¬ j = k := by simpa using h1
          rw [z0]
          have a1 : (0 == j) = false := by simpa using fun h => hj h.symm
          have a2 : (k == j) = false := by simpa using fun h => h1 h.symm
          rw [a1, a2]
      have fx : ∀ {f : He.Fa}, (∃ p ∈ ck.exs, f = .exm p.1 ((ck.exs.head?.map (·.1)).getD "") true) → f.ok K = true := fun {f} ⟨p, hp, ef⟩ => c.fa (List.mem_append_right _ (by
        rw [if_neg (by rw [he]; decide)]
        exact List.mem_map.mpr ⟨p, hp, ef.symm⟩))
      have x1 := He.exm_ok (fx (f := .exm p.1 p0.1 true) ⟨p, hp, by rw [e0]; rfl⟩)
      have fy : ∀ {f : Fb}, f ∈ (ck.exs.flatMap fun p => [Fb.excC p.1, Fb.kv p.1]) ++ (ck.exs.flatMap fun p => (ck.exs.filter fun q => q.2 != 0).map fun q => Fb.kk p.1 q.1 (p.2 == q.2)) → f.ok K = true := fun {f} hf => c.fb (List.mem_append_right _ (by
        rw [if_neg (by rw [he]; decide)]
        exact hf))
      have y1 := fy (f := .excC p.1) (List.mem_append_left _ (List.mem_flatMap.mpr ⟨p, hp, List.mem_cons_self⟩))
      have y2 := fy (f := .kv p.1) (List.mem_append_left _ (List.mem_flatMap.mpr ⟨p, hp, List.mem_cons_of_mem _ List.mem_cons_self⟩))
      show PySem.W.exmOne K (.ref (caddr K ck k)) (.ref (caddr K ck 0)) = _ ∧ ExcC K (caddr K ck k) ∧ PySem.W.kitOne K (.ref (caddr K ck k)) _ = _ ∧ ∀ x j, _ → _ → PySem.W.kitOne K (.ref (caddr K ck k)) (.ref (caddr K ck j)) = _
      rw [e, e1]
      refine ⟨x1, excCB_ok y1, of_decide_eq_true y2, fun x j hx hj0 => ?_⟩
      have hxm := PySem.mem_of_lookup hx
      rw [← e0] at hxm
      have ex := xa hxm
      have y3 := fy (f := .kk p.1 x (p.2 == j)) (List.mem_append_right _ (List.mem_flatMap.mpr ⟨p, hp, List.mem_map.mpr ⟨(x, j), List.mem_filter.mpr ⟨hxm, by simpa using hj0⟩, rfl⟩⟩))
      have ex : caddr K ck j = He.ga K x := ex
      rw [ex, ← hj x j hxm hj0]
      exact of_decide_eq_true y3
/-- weaker words on what may be let out -/
theorem fn_cx {P : Program} {w : World} {base : Heap} {C C' : CXT} {k : Nat} {f : Addr} {fd : FuncData} {ps : List Str} {sp : Sp} (F : FnOk P w K mg base C k f fd ps sp) (hc : ∀ o H s E u s', C o H s E u s' → C' o H s E u s') : FnOk P w K mg base C' k f fd ps sp :=
  ⟨F.len, fun A outer s H args us vs Q E hr e0 hb rv hs => codeAny_mono (F.run A outer s H args us vs Q E hr e0 hb rv hs) fun r s' h => by
    cases r with
    | error e => exact hc _ _ _ _ _ _ h
    | ok fl => cases fl <;> exact h⟩
def CXw (P : Program) : CXT := fun o H s E u s' => ∃ w, L2N.CX P w o H s E u s'
/-- the law's end -/
theorem law_end {l : PySem.W.OpenLaw} {k fl n : Nat} {q : Program} {loose : List Str} {XP : (Str → Option Value) → Heap → Prop} {d : DefRec} {dl : Wi.Def} {il : DI} {x : Str} (hl : L.lookup fl = some (dl, il)) (hps : il.ps = [x]) (hln : ck.fns.lookup il.x = some fl)
    (hd : d.name = il.x) (hm : l.most = some n) (hn2 : n ≤ sizeLine) (hdf : d.params.defaults = []) (hr : Room k callerA) (tb : tabB ck L = true) (bn : AllBnd L) (m : Nat)
    (pl : ∀ ns : List Int, ns.length ≤ n → ∃ sh, callN (tabOf L) k fl [.ro (ns.map .int)] [] = .ok (.v (.bl true)) sh) :
    PySem.W.WalkO q loose XP (hookW m (faOf ck L) (fnsOf L) (fbOf ck)).says l.row.toRowW d [] (fun f vs => PySem.call f vs) := by
  refine L2.walk_ofE (l := l) (n := n) (k := k) (x := x) (CX := CXw l.prog) hm hn2 hdf hr ?_ ?_
  · intro w mg fa h Y G hmg
    obtain ⟨K, KX, c⟩ := Y
    have F := hf_of c KX G tb bn
    obtain ⟨d', i', e1, e2, e3, e4, e5, fd, e6⟩ := F.fn il.x fl hln
    rw [hl] at e1; cases e1
    rw [hd, e3] at hmg
    cases hmg
    refine ⟨K, fd, spOf (cnOf K ck L) (callN (tabOf L) k) fl 1, KX, fun s u => ?_, fun H a ns h1 _ hS => ?_, fun base hK hN => ?_⟩
    · obtain ⟨oc, od, kV, doc, pm, an, cdv, ct, osl, rfl, _, _⟩ := e6.ex
      have := e5 kV doc pm an cdv ct [u] (by rw [hps]; rfl)
      rw [hps] at this
      exact BindsTo.of_eq this
    · obtain ⟨sh, e⟩ := pl ns h1
      exact law_sp e rfl hS
    · have := defs_ok (P := l.prog) (w := w) (base := base) F k il.x fl dl il fd hln hl e4 e6
      rw [hps] at this
      exact fn_cx this fun o H s E u s' h => ⟨w, h⟩
  · rintro H s e s' ⟨w, h⟩
    obtain ⟨_, _, _, _, _, _, _, _, _, _, _, _, z⟩ := h
    exact z
end
end Wi

/-! Two tables that agree where a def's calls lead. -/
namespace Wi
section
variable (K : Nat → Bool)
mutual
def okE : E → Bool
  | .stuck => true | .const _ => true | .glob _ => true | .slot _ => true
  | .bin _ a b => okE a && okE b | .neg a => okE a | .not a => okE a | .and a b => okE a && okE b | .or a b => okE a && okE b
  | .ite c a b => okE c && (okE a && okE b)
  | .cmp _ a b => okE a && okE b | .cmp2 _ _ a b c => okE a && (okE b && okE c)
  | .cmpS _ _ b => okE b | .inS _ a _ => okE a
  | .tup es => okEs es | .lst es => okEs es | .dict ks vs => okEs ks && okEs vs | .pick _ es k => okEs es && okE k
  | .call f es => K f && okEs es | .callSel fs k es => fs.all K && (okE k && okEs es)
  | .bi _ es => okEs es | .lenS _ => true | .join _ e => okE e | .meth _ o es => okE o && okEs es
  | .sub a i => okE a && okE i | .subS _ i => okE i | .cut a lo hi => okE a && (okE lo && okE hi) | .rev a => okE a | .step a k => okE a && okE k
  | .isin e _ => okE e | .rangeL a => okE a
  | .comp elt _ _ it cond _ => okE elt && (okIt it && okO cond)
def okO : Option' → Bool
  | .none => true | .some e => okE e
def okEs : Es → Bool
  | .nil => true | .cons e es => okE e && okEs es
def okIt : It → Bool
  | .val e => okE e | .range1 a => okE a | .range2 a b => okE a && okE b | .range3 a b c => okE a && (okE b && okE c) | .enum a => okE a | .zip a b => okE a && okE b
end
def okHd : Hd → Bool
  | .which _ f => K f | .const _ => true
mutual
def okS : S → Bool
  | .set _ e => okE K e | .shr _ => true | .unp _ e => okE K e | .par _ es => okEs K es | .expr e => okE K e
  | .app _ e => okE K e | .ext _ e => okE K e | .put _ k e => okE K k && okE K e
  | .ite c a b => okE K c && (okSs a && okSs b) | .for _ _ it b => okIt K it && okSs b | .while c b => okE K c && okSs b
  | .ret e => okE K e | .retS _ => true | .raise _ => true | .cont => true | .pass => true | .tryRet b _ h => okSs b && okHd K h | .stuck => true
def okSs : Ss → Bool
  | .nil => true | .cons s ss => okS s && okSs ss
end
end
theorem and2 {a b : Bool} (h : (a && b) = true) : a = true ∧ b = true := by simpa using h
section
variable {T : Nat → Bool} {g g' : Gam}
theorem callR_ag {f : Nat} (h : g f = g' f) : callR g f = callR g' f := by
  funext xs s; unfold callR; rw [h]
mutual
theorem ev_ag (hg : ∀ f, T f = true → g f = g' f) : ∀ e : E, okE T e = true → ev g e = ev g' e
  | .stuck, _ => rfl
  | .const _, _ => rfl
  | .glob _, _ => rfl
  | .slot _, _ => rfl
  | .bin op a b, h => by
    obtain ⟨h1, h2⟩ := and2 h
    funext s; simp only [ev, ev_ag hg a h1, ev_ag hg b h2]
  | .neg a, h => by funext s; simp only [ev, ev_ag hg a h]
  | .not a, h => by funext s; simp only [ev, ev_ag hg a h]
  | .and a b, h => by
    obtain ⟨h1, h2⟩ := and2 h
    funext s; simp only [ev, ev_ag hg a h1, ev_ag hg b h2]
  | .or a b, h => by
    obtain ⟨h1, h2⟩ := and2 h
    funext s; simp only [ev, ev_ag hg a h1, ev_ag hg b h2]
  | .ite c a b, h => by
    obtain ⟨h0, h⟩ := and2 h
    obtain ⟨h1, h2⟩ := and2 h
    funext s; simp only [ev, ev_ag hg c h0, ev_ag hg a h1, ev_ag hg b h2]
  | .cmp op a b, h => by
    obtain ⟨h1, h2⟩ := and2 h
    funext s; simp only [ev, ev_ag hg a h1, ev_ag hg b h2]
  | .cmp2 op op' a b c, h => by
    obtain ⟨h0, h⟩ := and2 h
    obtain ⟨h1, h2⟩ := and2 h
    funext s; simp only [ev, ev_ag hg a h0, ev_ag hg b h1, ev_ag hg c h2]
  | .cmpS op i b, h => by funext s; simp only [ev, ev_ag hg b h]
  | .inS n a i, h => by funext s; simp only [ev, ev_ag hg a h]
  | .tup es, h => by funext s; simp only [ev, evs_ag hg es h]
  | .lst es, h => by funext s; simp only [ev, evs_ag hg es h]
  | .dict ks vs, h => by funext s; simp only [ev]
  | .pick ks es k, h => by
    obtain ⟨h1, h2⟩ := and2 h
    funext s; simp only [ev, evs_ag hg es h1, ev_ag hg k h2]
  | .call f es, h => by
    obtain ⟨h1, h2⟩ := and2 h
    funext s; simp only [ev, evs_ag hg es h2, callR_ag (hg f h1)]
  | .callSel fs k es, h => by
    obtain ⟨h0, h⟩ := and2 h
    obtain ⟨h1, h2⟩ := and2 h
    funext s; simp only [ev, ev_ag hg k h1, evs_ag hg es h2]
    congr 1
    funext x s
    cases x with
    | v d => cases d with
      | int i =>
        cases e : atL fs i with
        | none => simp only [e]
        | some f =>
          have : f ∈ fs := by
            unfold atL at e
            obtain ⟨j, _, e⟩ := Option.bind_eq_some_iff.mp e
            exact List.mem_of_getElem? e
          have := callR_ag (hg f (List.all_eq_true.mp h0 f this))
          simp only [e, this]
      | _ => rfl
    | _ => rfl
  | .bi b es, h => by funext s; simp only [ev, evs_ag hg es h]
  | .lenS i, _ => rfl
  | .join sep e, h => by funext s; simp only [ev, ev_ag hg e h]
  | .meth m o es, h => by
    obtain ⟨h1, h2⟩ := and2 h
    funext s; simp only [ev, ev_ag hg o h1, evs_ag hg es h2]
  | .sub a i, h => by
    obtain ⟨h1, h2⟩ := and2 h
    funext s; simp only [ev, ev_ag hg a h1, ev_ag hg i h2]
  | .subS k i, h => by funext s; simp only [ev, ev_ag hg i h]
  | .cut a lo hi, h => by
    obtain ⟨h0, h⟩ := and2 h
    obtain ⟨h1, h2⟩ := and2 h
    funext s; simp only [ev, ev_ag hg a h0, ev_ag hg lo h1, ev_ag hg hi h2]
  | .rev a, h => by funext s; simp only [ev, ev_ag hg a h]
  | .step a k, h => by funext s; simp only [ev]
  | .isin e ts, h => by funext s; simp only [ev, ev_ag hg e h]
  | .rangeL e, h => by funext s; simp only [ev, ev_ag hg e h]
  | .comp elt tg one it cond vs, h => by
    obtain ⟨h0, h⟩ := and2 h
    obtain ⟨h1, h2⟩ := and2 h
    funext s; simp only [ev, ev_ag hg elt h0, evIt_ag hg it h1, evO_ag hg cond h2]
theorem evO_ag (hg : ∀ f, T f = true → g f = g' f) : ∀ e : Option', okO T e = true → evO g e = evO g' e
  | .none, _ => rfl
  | .some e, h => by funext s; simp only [evO, ev_ag hg e h]
theorem evs_ag (hg : ∀ f, T f = true → g f = g' f) : ∀ e : Es, okEs T e = true → evs g e = evs g' e
  | .nil, _ => rfl
  | .cons e es, h => by
    obtain ⟨h1, h2⟩ := and2 h
    funext s; simp only [evs, ev_ag hg e h1, evs_ag hg es h2]
theorem evIt_ag (hg : ∀ f, T f = true → g f = g' f) : ∀ e : It, okIt T e = true → evIt g e = evIt g' e
  | .val e, h => by funext s; simp only [evIt, ev_ag hg e h]
  | .range1 a, h => by funext s; simp only [evIt, ev_ag hg a h]
  | .range2 a b, h => by
    obtain ⟨h1, h2⟩ := and2 h
    funext s; simp only [evIt, ev_ag hg a h1, ev_ag hg b h2]
  | .range3 a b c, h => by
    obtain ⟨h0, h⟩ := and2 h
    obtain ⟨h1, h2⟩ := and2 h
    funext s; simp only [evIt, ev_ag hg a h0, ev_ag hg b h1, ev_ag hg c h2]
  | .enum a, h => by funext s; simp only [evIt, ev_ag hg a h]
  | .zip a b, h => by
    obtain ⟨h1, h2⟩ := and2 h
    funext s; simp only [evIt, ev_ag hg a h1, ev_ag hg b h2]
end
theorem handed_ag (hg : ∀ f, T f = true → g f = g' f) (h : Hd) (k : Nat) (hh : okHd T h = true) : handed g h k = handed g' h k := by
  funext s
  cases h with
  | which x f => simp only [handed, hg f hh]
  | const d => rfl
mutual
theorem exec_ag (hg : ∀ f, T f = true → g f = g' f) : ∀ e : S, okS T e = true → exec g e = exec g' e
  | .set i e, h => by funext s; simp only [exec, ev_ag hg e h]
  | .shr i, _ => rfl
  | .unp is e, h => by funext s; simp only [exec, ev_ag hg e h]
  | .par is es, h => by funext s; simp only [exec, evs_ag hg es h]
  | .expr e, h => by funext s; simp only [exec, ev_ag hg e h]
  | .app i e, h => by funext s; simp only [exec, ev_ag hg e h]
  | .ext i e, h => by funext s; simp only [exec, ev_ag hg e h]
  | .put i k e, h => by
    obtain ⟨h1, h2⟩ := and2 h
    funext s; simp only [exec, ev_ag hg k h1, ev_ag hg e h2]
  | .ite c a b, h => by
    obtain ⟨h0, h⟩ := and2 h
    obtain ⟨h1, h2⟩ := and2 h
    funext s; simp only [exec, ev_ag hg c h0, execs_ag hg a h1, execs_ag hg b h2]
  | .for tg one it b, h => by
    obtain ⟨h1, h2⟩ := and2 h
    funext s; simp only [exec, evIt_ag hg it h1, execs_ag hg b h2]
  | .while c b, h => by
    obtain ⟨h1, h2⟩ := and2 h
    funext s; simp only [exec, ev_ag hg c h1, execs_ag hg b h2]
  | .ret e, h => by funext s; simp only [exec, ev_ag hg e h]
  | .retS i, _ => rfl
  | .raise k, _ => rfl
  | .cont, _ => rfl
  | .pass, _ => rfl
  | .tryRet b ks h, hh => by
    obtain ⟨h1, h2⟩ := and2 hh
    funext s; simp only [exec, execs_ag hg b h1, handed_ag hg h _ h2]
  | .stuck, _ => rfl
theorem execs_ag (hg : ∀ f, T f = true → g f = g' f) : ∀ e : Ss, okSs T e = true → execs g e = execs g' e
  | .nil, _ => rfl
  | .cons a b, h => by
    obtain ⟨h1, h2⟩ := and2 h
    funext s; simp only [execs, exec_ag hg a h1, execs_ag hg b h2]
end
theorem callN_ag {A B : Nat → Option Def} (h : ∀ f, T f = true → A f = B f) (hc : ∀ f, T f = true → ∀ d, A f = some d → okSs T d.body = true) : ∀ k f, T f = true → callN A k f = callN B k f
  | 0, _, _ => rfl
  | k + 1, f, hf => by
    funext args sh
    simp only [callN, ← h f hf]
    cases e : A f with
    | none => rfl
    | some d =>
      have := execs_ag (callN_ag h hc k) d.body (hc f hf d e)
      simp only [this]
end
end Wi

/-! All defs, by number. -/
namespace Wi
def l_wall_0 : Ss := .cons .pass .nil
def b_wall : Ss := .cons (.while (.const (.bl true)) l_wall_0) .nil
def d_wall : Def := ⟨1, 1, b_wall⟩
abbrev f_wall : Nat := 0
def b_is_whole : Ss := .cons (.ret (.and (.isin (.slot 0) [.int]) (.and (.not (.isin (.slot 0) [.bool])) (.cmp2 .le .le (.slot 1) (.slot 0) (.slot 2))))) .nil
def d_is_whole : Def := ⟨3, 3, b_is_whole⟩
abbrev f_is_whole : Nat := 1
def b_is_one_of : Ss := .cons (.ret (.and (.isin (.slot 0) [.str]) (.inS false (.slot 0) 1))) .nil
def d_is_one_of : Def := ⟨2, 2, b_is_one_of⟩
abbrev f_is_one_of : Nat := 2
def b_is_form : Ss := .cons (.ite (.or (.not (.isin (.slot 0) [.tuple])) (.or (.cmp .ne (.lenS 0) (.const (.int 5))) (.not (.call 1 (.cons (.subS 0 (.const (.int 0))) (.cons (.const (.int 1)) (.cons (.glob (.v (.int 6))) .nil))))))) (.cons (.ret (.const (.bl false))) .nil) .nil) (.cons (.ite (.or (.not (.call 1 (.cons (.subS 0 (.const (.int 1))) (.cons (.glob (.v (.int 4))) (.cons (.glob (.v (.int 6))) .nil))))) (.not (.call 2 (.cons (.subS 0 (.const (.int 2))) (.cons (.glob (.v (.tup [.str [108, 111, 119], .str [104, 105, 103, 104]]))) .nil))))) (.cons (.ret (.const (.bl false))) .nil) .nil) (.cons (.ret (.and (.call 2 (.cons (.subS 0 (.const (.int 3))) (.cons (.glob (.v (.tup [.str [110, 111, 110, 101], .str [101, 118, 101, 110], .str [111, 100, 100]]))) .nil))) (.call 1 (.cons (.subS 0 (.const (.int 4))) (.cons (.const (.int 1)) (.cons (.const (.int 2)) .nil)))))) .nil))
def d_is_form : Def := ⟨1, 1, b_is_form⟩
abbrev f_is_form : Nat := 3
def b_need_form : Ss := .cons (.ite (.not (.call 3 (.cons (.slot 0) .nil))) (.cons (.raise 1) .nil) .nil) .nil
def d_need_form : Def := ⟨1, 1, b_need_form⟩
abbrev f_need_form : Nat := 4
def b_top_of : Ss := .cons (.ret (.sub (.tup (.cons (.const (.int 15)) (.cons (.const (.int 31)) (.cons (.const (.int 63)) .nil)))) (.bin .sub (.slot 0) (.glob (.v (.int 4)))))) .nil
def d_top_of : Def := ⟨1, 1, b_top_of⟩
abbrev f_top_of : Nat := 5
def b_is_word : Ss := .cons (.ret (.call 1 (.cons (.slot 1) (.cons (.const (.int 0)) (.cons (.call 5 (.cons (.subS 0 (.const (.int 1))) .nil)) .nil))))) .nil
def d_is_word : Def := ⟨2, 2, b_is_word⟩
abbrev f_is_word : Nat := 6
def l_bits_of_0 : Ss := .cons (.app 2 (.bin .mod (.slot 1) (.const (.int 2)))) (.cons (.set 1 (.bin .fdiv (.slot 1) (.const (.int 2)))) .nil)
def b_bits_of : Ss := .cons (.set 2 (.lst .nil)) (.cons (.for [3] true (.range1 (.subS 0 (.const (.int 1)))) l_bits_of_0) (.cons (.ret (.ite (.cmp .eq (.subS 0 (.const (.int 2))) (.const (.str [108, 111, 119]))) (.slot 2) (.rev (.slot 2)))) .nil))
def d_bits_of : Def := ⟨4, 2, b_bits_of⟩
abbrev f_bits_of : Nat := 7
def l_word_of_0 : Ss := .cons (.set 2 (.bin .add (.bin .mul (.const (.int 2)) (.slot 2)) (.slot 3))) .nil
def b_word_of : Ss := .cons (.set 2 (.const (.int 0))) (.cons (.for [3] true (.val (.ite (.cmp .eq (.subS 0 (.const (.int 2))) (.const (.str [108, 111, 119]))) (.rev (.slot 1)) (.slot 1))) l_word_of_0) (.cons (.retS 2) .nil))
def d_word_of : Def := ⟨4, 2, b_word_of⟩
abbrev f_word_of : Nat := 8
def b_parity_of : Ss := .cons (.ret (.pick [[110, 111, 110, 101], [101, 118, 101, 110], [111, 100, 100]] (.cons (.lst .nil) (.cons (.lst (.cons (.bin .mod (.bi .sum (.cons (.slot 1) .nil)) (.const (.int 2))) .nil)) (.cons (.lst (.cons (.bin .sub (.const (.int 1)) (.bin .mod (.bi .sum (.cons (.slot 1) .nil)) (.const (.int 2)))) .nil)) .nil))) (.subS 0 (.const (.int 3))))) .nil
def d_parity_of : Def := ⟨2, 2, b_parity_of⟩
abbrev f_parity_of : Nat := 9
def c_framed_0 : E := .comp (.bin .mul (.bi .str (.cons (.slot 4) .nil)) (.subS 0 (.const (.int 0)))) [4] true (.val (.slot 3)) .none [4]
def b_framed : Ss := .cons (.set 2 (.call 7 (.cons (.slot 0) (.cons (.slot 1) .nil)))) (.cons (.set 3 (.bin .add (.bin .add (.bin .add (.lst (.cons (.const (.int 0)) .nil)) (.slot 2)) (.call 9 (.cons (.slot 0) (.cons (.slot 2) .nil)))) (.bin .mul (.lst (.cons (.const (.int 1)) .nil)) (.subS 0 (.const (.int 4)))))) (.cons (.ret (.join [] c_framed_0)) .nil))
def d_framed : Def := ⟨5, 2, b_framed⟩
abbrev f_framed : Nat := 10
def b_frame : Ss := .cons (.expr (.call 4 (.cons (.slot 0) .nil))) (.cons (.ite (.not (.call 6 (.cons (.slot 0) (.cons (.slot 1) .nil)))) (.cons (.raise 4) .nil) .nil) (.cons (.ret (.call 10 (.cons (.slot 0) (.cons (.slot 1) .nil)))) .nil))
def d_frame : Def := ⟨2, 2, b_frame⟩
abbrev f_frame : Nat := 11
def b_long_of : Ss := .cons (.ret (.bin .mul (.subS 0 (.const (.int 0))) (.bin .add (.bin .add (.bin .add (.const (.int 1)) (.subS 0 (.const (.int 1)))) (.bi .int (.cons (.cmp .ne (.subS 0 (.const (.int 3))) (.const (.str [110, 111, 110, 101]))) .nil))) (.subS 0 (.const (.int 4)))))) .nil
def d_long_of : Def := ⟨1, 1, b_long_of⟩
abbrev f_long_of : Nat := 12
def b_is_row : Ss := .cons (.ret (.and (.isin (.slot 1) [.tuple]) (.and (.cmp .eq (.lenS 1) (.const (.int 2))) (.and (.call 1 (.cons (.subS 1 (.const (.int 0))) (.cons (.const (.int 0)) (.cons (.glob (.v (.int 200))) .nil)))) (.call 6 (.cons (.slot 0) (.cons (.subS 1 (.const (.int 1))) .nil))))))) .nil
def d_is_row : Def := ⟨2, 2, b_is_row⟩
abbrev f_is_row : Nat := 13
def c_sent_of_0 : E := .comp (.bin .add (.bin .mul (.const (.str [49])) (.slot 3)) (.call 10 (.cons (.slot 0) (.cons (.slot 4) .nil)))) [3, 4] false (.val (.slot 1)) .none [3, 4]
def b_sent_of : Ss := .cons (.ret (.bin .add (.join [] c_sent_of_0) (.bin .mul (.const (.str [49])) (.slot 2)))) .nil
def d_sent_of : Def := ⟨5, 3, b_sent_of⟩
abbrev f_sent_of : Nat := 14
def c_sent_0 : E := .comp (.call 13 (.cons (.slot 0) (.cons (.slot 4) .nil))) [4] true (.val (.slot 1)) .none [4]
def b_sent : Ss := .cons (.expr (.call 4 (.cons (.slot 0) .nil))) (.cons (.ite (.or (.not (.isin (.slot 1) [.tuple])) (.or (.not (.cmp2 .le .le (.const (.int 1)) (.lenS 1) (.glob (.v (.int 40))))) (.not (.bi .all (.cons c_sent_0 .nil))))) (.cons (.raise 3) .nil) .nil) (.cons (.ite (.not (.call 1 (.cons (.slot 2) (.cons (.const (.int 0)) (.cons (.glob (.v (.int 200))) .nil))))) (.cons (.raise 5) .nil) .nil) (.cons (.set 3 (.call 14 (.cons (.slot 0) (.cons (.slot 1) (.cons (.slot 2) .nil))))) (.cons (.ite (.cmp .gt (.lenS 3) (.glob (.v (.int 200)))) (.cons (.raise 6) .nil) .nil) (.cons (.retS 3) .nil)))))
def d_sent : Def := ⟨5, 3, b_sent⟩
abbrev f_sent : Nat := 15
def c_need_samples_0 : E := .comp (.cmp .isin (.slot 1) (.const (.str [48, 49]))) [1] true (.val (.slot 0)) .none [1]
def b_need_samples : Ss := .cons (.ite (.or (.not (.isin (.slot 0) [.str])) (.or (.not (.cmp2 .le .le (.const (.int 1)) (.lenS 0) (.glob (.v (.int 200))))) (.not (.bi .all (.cons c_need_samples_0 .nil))))) (.cons (.raise 2) .nil) .nil) .nil
def d_need_samples : Def := ⟨2, 1, b_need_samples⟩
abbrev f_need_samples : Nat := 16
def l_ones_ahead_0 : Ss := .cons (.app 1 (.bin .add (.subS 1 (.neg (.const (.int 1)))) (.bi .int (.cons (.slot 2) .nil)))) .nil
def b_ones_ahead : Ss := .cons (.set 1 (.lst (.cons (.const (.int 0)) .nil))) (.cons (.for [2] true (.val (.slot 0)) l_ones_ahead_0) (.cons (.retS 1) .nil))
def d_ones_ahead : Def := ⟨3, 1, b_ones_ahead⟩
abbrev f_ones_ahead : Nat := 17
def l_row_at_0 : Ss := .cons (.set 5 (.bin .add (.slot 2) (.bin .mul (.slot 4) (.subS 0 (.const (.int 0)))))) (.cons (.set 6 (.bin .sub (.subS 1 (.bin .add (.slot 5) (.subS 0 (.const (.int 0))))) (.subS 1 (.slot 5)))) (.cons (.app 3 (.tup (.cons (.slot 6) (.cons (.bin .sub (.subS 0 (.const (.int 0))) (.slot 6)) .nil)))) .nil))
def b_row_at : Ss := .cons (.set 3 (.lst .nil)) (.cons (.for [4] true (.range1 (.bin .fdiv (.call 12 (.cons (.slot 0) .nil)) (.subS 0 (.const (.int 0))))) l_row_at_0) (.cons (.retS 3) .nil))
def d_row_at : Def := ⟨7, 3, b_row_at⟩
abbrev f_row_at : Nat := 18
def l_best_bits_0 : Ss := .cons (.set 11 (.tup (.cons (.bin .add (.slot 7) (.slot 10)) (.cons (.bin .add (.slot 8) (.lst (.cons (.slot 9) .nil))) .nil)))) (.cons (.set 12 (.bin .mod (.bin .add (.slot 6) (.slot 9)) (.const (.int 2)))) (.cons (.ite (.or (.inS true (.slot 12) 5) (.cmp .lt (.slot 11) (.subS 5 (.slot 12)))) (.cons (.put 5 (.slot 12) (.slot 11)) .nil) .nil) .nil))
def l_best_bits_1 : Ss := .cons (.unp [7, 8] (.subS 2 (.slot 6))) (.cons (.for [9, 10] false (.val (.tup (.cons (.tup (.cons (.const (.int 0)) (.cons (.slot 3) .nil))) (.cons (.tup (.cons (.const (.int 1)) (.cons (.slot 4) .nil))) .nil)))) l_best_bits_0) .nil)
def l_best_bits_2 : Ss := .cons .stuck (.cons (.for [6] true (.val (.slot 2)) l_best_bits_1) (.cons (.set 2 (.slot 5)) .nil))
def b_best_bits : Ss := .cons .stuck (.cons (.for [3, 4] false (.val (.slot 0)) l_best_bits_2) (.cons (.ite (.cmp .eq (.slot 1) (.const (.str [110, 111, 110, 101]))) (.cons .stuck .nil) .nil) (.cons (.ret (.subS 2 (.bi .int (.cons (.cmp .eq (.slot 1) (.const (.str [111, 100, 100]))) .nil)))) .nil)))
def d_best_bits : Def := ⟨13, 2, b_best_bits⟩
abbrev f_best_bits : Nat := 19
def c_frame_at_0 : E := .comp (.slot 9) [8, 9] false (.val (.cut (.slot 3) (.bin .sub (.lenS 3) (.subS 0 (.const (.int 4)))) (.const .non))) .none [8, 9]
def b_frame_at : Ss := .cons (.set 3 (.call 18 (.cons (.slot 0) (.cons (.slot 1) (.cons (.slot 2) .nil))))) (.cons (.set 4 (.cut (.slot 3) (.const (.int 1)) (.bin .sub (.lenS 3) (.subS 0 (.const (.int 4)))))) (.cons (.unp [6, 7] (.call 19 (.cons (.slot 4) (.cons (.subS 0 (.const (.int 3))) .nil)))) (.cons (.set 5 (.bi .sum (.cons c_frame_at_0 .nil))) (.cons (.ret (.tup (.cons (.bin .add (.bin .add (.sub (.subS 3 (.const (.int 0))) (.const (.int 0))) (.slot 6)) (.slot 5)) (.cons (.bin .add (.bin .add (.lst (.cons (.const (.int 0)) .nil)) (.slot 7)) (.bin .mul (.lst (.cons (.const (.int 1)) .nil)) (.subS 0 (.const (.int 4))))) .nil)))) .nil))))
def d_frame_at : Def := ⟨10, 3, b_frame_at⟩
abbrev f_frame_at : Nat := 20
def l_steps_from_0 : Ss := .cons (.set 8 (.bin .add (.bi .int (.cons (.cmp .eq (.subS 1 (.slot 5)) (.const (.str [48]))) .nil)) (.sub (.subS 4 (.tup (.cons (.bin .add (.slot 5) (.const (.int 1))) (.cons (.slot 7) .nil)))) (.const (.int 0))))) (.cons (.put 4 (.tup (.cons (.slot 5) (.cons (.slot 7) .nil))) (.bi .min (.cons (.tup (.cons (.slot 8) (.cons (.const (.bl false)) .nil))) (.cons (.tup (.cons (.slot 6) (.cons (.const (.bl true)) .nil))) .nil)))) .nil)
def l_steps_from_1 : Ss := .cons (.set 6 (.glob (.v (.int 100000)))) (.cons (.ite (.cmp .le (.bin .add (.slot 5) (.slot 3)) (.lenS 1)) (.cons (.set 6 (.bin .add (.sub (.call 20 (.cons (.slot 0) (.cons (.slot 2) (.cons (.slot 5) .nil)))) (.const (.int 0))) (.sub (.subS 4 (.tup (.cons (.bin .add (.slot 5) (.slot 3)) (.cons (.const (.bl false)) .nil)))) (.const (.int 0))))) .nil) .nil) (.cons (.for [7] true (.val (.tup (.cons (.const (.bl false)) (.cons (.const (.bl true)) .nil)))) l_steps_from_0) .nil))
def b_steps_from : Ss := .cons (.set 2 (.call 17 (.cons (.slot 1) .nil))) (.cons (.set 3 (.call 12 (.cons (.slot 0) .nil))) (.cons .stuck (.cons (.for [5] true (.range3 (.bin .sub (.lenS 1) (.const (.int 1))) (.neg (.const (.int 1))) (.neg (.const (.int 1)))) l_steps_from_1) (.cons (.retS 4) .nil))))
def d_steps_from : Def := ⟨9, 2, b_steps_from⟩
abbrev f_steps_from : Nat := 21
def b_turns_of : Ss := .cons (.set 2 (.sub (.sub (.call 21 (.cons (.slot 0) (.cons (.slot 1) .nil))) (.tup (.cons (.const (.int 0)) (.cons (.const (.bl true)) .nil)))) (.const (.int 0)))) (.cons (.ret (.ite (.cmp .lt (.slot 2) (.glob (.v (.int 100000)))) (.slot 2) (.const .non))) .nil)
def d_turns_of : Def := ⟨3, 2, b_turns_of⟩
abbrev f_turns_of : Nat := 22
def b_turns : Ss := .cons (.expr (.call 4 (.cons (.slot 0) .nil))) (.cons (.expr (.call 16 (.cons (.slot 1) .nil))) (.cons (.ret (.call 22 (.cons (.slot 0) (.cons (.slot 1) .nil)))) .nil))
def d_turns : Def := ⟨2, 2, b_turns⟩
abbrev f_turns : Nat := 23
def c_mend_0 : E := .comp (.bin .mul (.bi .str (.cons (.slot 7) .nil)) (.subS 0 (.const (.int 0)))) [7] true (.val (.slot 6)) .none [7]
def l_mend_0 : Ss := .cons (.ite (.sub (.subS 2 (.tup (.cons (.lenS 4) (.cons (.slot 5) .nil)))) (.const (.int 1))) (.cons (.set 6 (.sub (.call 20 (.cons (.slot 0) (.cons (.slot 3) (.cons (.lenS 4) .nil)))) (.const (.int 1)))) (.cons (.set 4 (.bin .add (.slot 4) (.join [] c_mend_0))) (.cons (.set 5 (.const (.bl false))) .nil))) (.cons (.set 4 (.bin .add (.slot 4) (.const (.str [49])))) .nil)) .nil
def b_mend : Ss := .cons (.expr (.call 4 (.cons (.slot 0) .nil))) (.cons (.expr (.call 16 (.cons (.slot 1) .nil))) (.cons (.set 2 (.call 21 (.cons (.slot 0) (.cons (.slot 1) .nil)))) (.cons (.ite (.cmp .ge (.sub (.subS 2 (.tup (.cons (.const (.int 0)) (.cons (.const (.bl true)) .nil)))) (.const (.int 0))) (.glob (.v (.int 100000)))) (.cons (.ret (.const .non)) .nil) .nil) (.cons (.set 3 (.call 17 (.cons (.slot 1) .nil))) (.cons (.set 4 (.const (.str []))) (.cons (.set 5 (.const (.bl true))) (.cons (.while (.cmp .lt (.lenS 4) (.lenS 1)) l_mend_0) (.cons (.retS 4) .nil))))))))
def d_mend : Def := ⟨8, 2, b_mend⟩
abbrev f_mend : Nat := 24
def b_bit_of : Ss := .cons (.ite (.or (.cmp .eq (.slot 0) (.const (.str []))) (.cmp .ne (.slot 0) (.bin .mul (.subS 0 (.const (.int 0))) (.lenS 0)))) (.cons (.ret (.const .non)) .nil) .nil) (.cons (.ret (.bi .int (.cons (.subS 0 (.const (.int 0))) .nil))) .nil)
def d_bit_of : Def := ⟨1, 1, b_bit_of⟩
abbrev f_bit_of : Nat := 25
def c_word_at_0 : E := .comp (.call 25 (.cons (.cut (.slot 4) (.slot 7) (.bin .add (.slot 7) (.subS 0 (.const (.int 0))))) .nil)) [7] true (.range3 (.const (.int 0)) (.slot 3) (.subS 0 (.const (.int 0)))) .none [7]
def b_word_at : Ss := .cons (.set 3 (.call 12 (.cons (.slot 0) .nil))) (.cons (.set 4 (.cut (.slot 1) (.slot 2) (.bin .add (.slot 2) (.slot 3)))) (.cons (.ite (.cmp .lt (.lenS 4) (.slot 3)) (.cons (.ret (.const .non)) .nil) .nil) (.cons (.set 5 c_word_at_0) (.cons (.ite (.or (.inS false (.const .non) 5) (.cmp .ne (.subS 5 (.const (.int 0))) (.const (.int 0)))) (.cons (.ret (.const .non)) .nil) .nil) (.cons (.set 6 (.cut (.slot 5) (.const (.int 1)) (.bin .add (.const (.int 1)) (.subS 0 (.const (.int 1)))))) (.cons (.ite (.cmp .ne (.cut (.slot 5) (.bin .add (.const (.int 1)) (.subS 0 (.const (.int 1)))) (.const .non)) (.bin .add (.call 9 (.cons (.slot 0) (.cons (.slot 6) .nil))) (.bin .mul (.lst (.cons (.const (.int 1)) .nil)) (.subS 0 (.const (.int 4)))))) (.cons (.ret (.const .non)) .nil) .nil) (.cons (.ret (.call 8 (.cons (.slot 0) (.cons (.slot 6) .nil)))) .nil)))))))
def d_word_at : Def := ⟨8, 3, b_word_at⟩
abbrev f_word_at : Nat := 26
def l_rows_in_0 : Ss := .cons (.ite (.cmp .eq (.subS 1 (.slot 3)) (.const (.str [49]))) (.cons (.set 4 (.bin .add (.slot 4) (.const (.int 1)))) (.cons (.set 3 (.bin .add (.slot 3) (.const (.int 1)))) .nil)) (.cons (.set 5 (.call 26 (.cons (.slot 0) (.cons (.slot 1) (.cons (.slot 3) .nil))))) (.cons (.ite (.cmp .isN (.slot 5) (.const .non)) (.cons (.ret (.const .non)) .nil) .nil) (.cons (.set 2 (.bin .add (.slot 2) (.tup (.cons (.tup (.cons (.slot 4) (.cons (.slot 5) .nil))) .nil)))) (.cons (.set 4 (.const (.int 0))) (.cons (.set 3 (.bin .add (.slot 3) (.call 12 (.cons (.slot 0) .nil)))) .nil)))))) .nil
def b_rows_in : Ss := .cons (.set 2 (.tup .nil)) (.cons (.set 3 (.const (.int 0))) (.cons (.set 4 (.const (.int 0))) (.cons (.while (.cmp .lt (.slot 3) (.lenS 1)) l_rows_in_0) (.cons (.ret (.ite (.cmp .ne (.slot 2) (.tup .nil)) (.tup (.cons (.slot 2) (.cons (.slot 4) .nil))) (.const .non))) .nil))))
def d_rows_in : Def := ⟨6, 2, b_rows_in⟩
abbrev f_rows_in : Nat := 27
def b_read_by : Ss := .cons (.expr (.call 4 (.cons (.slot 0) .nil))) (.cons (.expr (.call 16 (.cons (.slot 1) .nil))) (.cons (.ret (.call 27 (.cons (.slot 0) (.cons (.slot 1) .nil)))) .nil))
def d_read_by : Def := ⟨2, 2, b_read_by⟩
abbrev f_read_by : Nat := 28
def c_words_in_0 : E := .comp (.slot 2) [1, 2] false (.val (.subS 0 (.const (.int 0)))) .none [1, 2]
def b_words_in : Ss := .cons (.ret (.bi .tuple (.cons c_words_in_0 .nil))) .nil
def d_words_in : Def := ⟨3, 1, b_words_in⟩
abbrev f_words_in : Nat := 29
def c_is_settled_0 : E := .comp (.tup (.cons (.const (.int 0)) (.cons (.slot 4) .nil))) [4] true (.val (.slot 2)) .none [4]
def b_is_settled : Ss := .cons (.set 3 (.call 27 (.cons (.slot 1) (.cons (.call 14 (.cons (.slot 0) (.cons c_is_settled_0 (.cons (.glob (.v (.int 60))) .nil)))) .nil)))) (.cons (.ret (.or (.cmp .isN (.slot 3) (.const .non)) (.cmp .ne (.call 29 (.cons (.slot 3) .nil)) (.slot 2)))) .nil)
def d_is_settled : Def := ⟨5, 3, b_is_settled⟩
abbrev f_is_settled : Nat := 30
def l_settling_0 : Ss := .cons (.ite (.call 30 (.cons (.slot 0) (.cons (.slot 1) (.cons (.tup (.cons (.slot 3) .nil)) .nil)))) (.cons (.ret (.tup (.cons (.slot 3) .nil))) .nil) .nil) .nil
def l_settling_1 : Ss := .cons (.ite (.call 30 (.cons (.slot 0) (.cons (.slot 1) (.cons (.tup (.cons (.slot 3) (.cons (.slot 4) .nil))) .nil)))) (.cons (.ret (.tup (.cons (.slot 3) (.cons (.slot 4) .nil)))) .nil) .nil) .nil
def l_settling_2 : Ss := .cons (.for [4] true (.val (.slot 2)) l_settling_1) .nil
def b_settling : Ss := .cons (.expr (.call 4 (.cons (.slot 0) .nil))) (.cons (.expr (.call 4 (.cons (.slot 1) .nil))) (.cons (.set 2 (.rangeL (.bin .add (.call 5 (.cons (.subS 0 (.const (.int 1))) .nil)) (.const (.int 1))))) (.cons (.for [3] true (.val (.slot 2)) l_settling_0) (.cons (.for [3] true (.val (.slot 2)) l_settling_2) (.cons (.ret (.const .non)) .nil)))))
def d_settling : Def := ⟨5, 2, b_settling⟩
abbrev f_settling : Nat := 31
def b_many_text : Ss := .cons (.ret (.bin .add (.bin .add (.bin .add (.bi .str (.cons (.slot 0) .nil)) (.const (.str [32]))) (.slot 1)) (.bin .mul (.const (.str [115])) (.bi .int (.cons (.cmp .gt (.slot 0) (.const (.int 1))) .nil))))) .nil
def d_many_text : Def := ⟨2, 2, b_many_text⟩
abbrev f_many_text : Nat := 32
def b_form_text : Ss := .cons (.unp [2, 3, 4, 5, 6] (.slot 0)) (.cons (.set 1 (.lst (.cons (.call 32 (.cons (.slot 2) (.cons (.const (.str [116, 105, 99, 107])) .nil))) (.cons (.bin .add (.bin .add (.bin .add (.call 32 (.cons (.slot 3) (.cons (.const (.str [98, 105, 116])) .nil))) (.const (.str [32]))) (.slot 4)) (.const (.str [32, 102, 105, 114, 115, 116]))) .nil)))) (.cons (.app 1 (.bin .add (.ite (.cmp .eq (.slot 5) (.const (.str [110, 111, 110, 101]))) (.const (.str [110, 111])) (.slot 5)) (.const (.str [32, 112, 97, 114, 105, 116, 121])))) (.cons (.ret (.join [44, 32] (.bin .add (.slot 1) (.lst (.cons (.call 32 (.cons (.slot 6) (.cons (.const (.str [115, 116, 111, 112])) .nil))) .nil))))) .nil)))
def d_form_text : Def := ⟨7, 1, b_form_text⟩
abbrev f_form_text : Nat := 33
def b_shown : Ss := .cons (.expr (.call 4 (.cons (.slot 0) .nil))) (.cons (.ret (.call 33 (.cons (.slot 0) .nil))) .nil)
def d_shown : Def := ⟨1, 1, b_shown⟩
abbrev f_shown : Nat := 34
def b_law_cell_at : Ss := .cons (.ite (.cmp .lt (.slot 1) (.lenS 0)) (.cons (.ret (.subS 0 (.slot 1))) .nil) .nil) (.cons (.ite (.cmpS .eq 0 (.lst .nil)) (.cons (.ret (.const (.int 0))) .nil) .nil) (.cons (.ret (.bin .add (.bin .mul (.subS 0 (.bin .mod (.slot 1) (.lenS 0))) (.const (.int 31))) (.slot 1))) .nil))
def d_law_cell_at : Def := ⟨2, 2, b_law_cell_at⟩
abbrev f_law_cell_at : Nat := 35
def b_law_mixed : Ss := .cons (.set 3 (.bin .mod (.bin .add (.bin .add (.bin .mul (.call 35 (.cons (.slot 0) (.cons (.slot 1) .nil))) (.const (.int 1103515245))) (.bin .mul (.const (.int 7919)) (.slot 1))) (.const (.int 12345))) (.const (.int 2147483647)))) (.cons (.ret (.bin .mod (.bin .mod (.bin .mod (.bin .pow (.slot 3) (.const (.int 5))) (.const (.int 2147483647))) (.const (.int 999983))) (.slot 2))) .nil)
def d_law_mixed : Def := ⟨4, 3, b_law_mixed⟩
abbrev f_law_mixed : Nat := 36
def b_law_draw : Ss := .cons (.app 1 (.const (.int 0))) (.cons (.ret (.call 36 (.cons (.slot 0) (.cons (.lenS 1) (.cons (.slot 2) .nil))))) .nil)
def d_law_draw : Def := ⟨3, 3, b_law_draw⟩
abbrev f_law_draw : Nat := 37
def b_law_pick : Ss := .cons (.ret (.subS 2 (.call 37 (.cons (.slot 0) (.cons (.slot 1) (.cons (.lenS 2) .nil)))))) .nil
def d_law_pick : Def := ⟨3, 3, b_law_pick⟩
abbrev f_law_pick : Nat := 38
def b_law_form : Ss := .cons (.set 2 (.call 38 (.cons (.slot 0) (.cons (.slot 1) (.cons (.lst (.cons (.const (.str [108, 111, 119])) (.cons (.const (.str [104, 105, 103, 104])) .nil))) .nil))))) (.cons (.set 3 (.call 38 (.cons (.slot 0) (.cons (.slot 1) (.cons (.lst (.cons (.const (.str [110, 111, 110, 101])) (.cons (.const (.str [101, 118, 101, 110])) (.cons (.const (.str [111, 100, 100])) .nil)))) .nil))))) (.cons (.par [4, 5] (.cons (.bin .add (.const (.int 1)) (.call 37 (.cons (.slot 0) (.cons (.slot 1) (.cons (.const (.int 6)) .nil))))) (.cons (.bin .add (.const (.int 4)) (.call 37 (.cons (.slot 0) (.cons (.slot 1) (.cons (.const (.int 3)) .nil))))) .nil))) (.cons (.ret (.tup (.cons (.slot 4) (.cons (.slot 5) (.cons (.slot 2) (.cons (.slot 3) (.cons (.bin .add (.const (.int 1)) (.call 37 (.cons (.slot 0) (.cons (.slot 1) (.cons (.const (.int 2)) .nil))))) .nil))))))) .nil)))
def d_law_form : Def := ⟨6, 2, b_law_form⟩
abbrev f_law_form : Nat := 39
def b_law_which : Ss := .cons (.set 1 (.lst (.cons (.isin (.slot 0) [.cls 1]) (.cons (.isin (.slot 0) [.cls 2]) (.cons (.isin (.slot 0) [.cls 3]) (.cons (.isin (.slot 0) [.cls 4]) .nil)))))) (.cons (.ext 1 (.lst (.cons (.isin (.slot 0) [.cls 5]) (.cons (.isin (.slot 0) [.cls 6]) (.cons (.isin (.slot 0) [.cls 7]) (.cons (.isin (.slot 0) [.cls 8]) .nil)))))) (.cons (.app 1 (.isin (.slot 0) [.cls 9])) (.cons (.ite (.or (.cmp .ne (.meth .count (.slot 1) (.cons (.const (.bl true)) .nil)) (.const (.int 1))) (.not (.isin (.slot 0) [.valueError]))) (.cons (.ret (.tup (.cons (.const (.str [114, 101, 102, 117, 115, 101, 100])) (.cons (.neg (.const (.int 1))) .nil)))) .nil) .nil) (.cons (.ret (.tup (.cons (.const (.str [114, 101, 102, 117, 115, 101, 100])) (.cons (.meth .index (.slot 1) (.cons (.const (.bl true)) .nil)) .nil)))) .nil))))
def d_law_which : Def := ⟨2, 1, b_law_which⟩
abbrev f_law_which : Nat := 40
def b_law_ask : Ss := .cons (.tryRet (.cons (.ite (.cmp .lt (.slot 0) (.const (.int 5))) (.cons (.ret (.callSel [11, 24, 23, 28, 31] (.slot 0) (.cons (.slot 1) (.cons (.slot 2) .nil)))) .nil) .nil) (.cons (.ite (.cmp .lt (.slot 0) (.const (.int 7))) (.cons (.ret (.ite (.cmp .eq (.slot 0) (.const (.int 5))) (.call 15 (.cons (.slot 1) (.cons (.slot 2) (.cons (.slot 2) .nil)))) (.call 31 (.cons (.tup (.cons (.const (.int 1)) (.cons (.const (.int 4)) (.cons (.const (.str [108, 111, 119])) (.cons (.const (.str [110, 111, 110, 101])) (.cons (.const (.int 1)) .nil)))))) (.cons (.slot 1) .nil))))) .nil) .nil) (.cons .stuck .nil))) [0] (.which 3 40)) .nil
def d_law_ask : Def := ⟨4, 3, b_law_ask⟩
abbrev f_law_ask : Nat := 41
def b_law_number : Ss := .cons (.ret (.and (.isin (.slot 0) [.int]) (.and (.not (.isin (.slot 0) [.bool])) (.cmp2 .le .le (.slot 1) (.slot 0) (.slot 2))))) .nil
def d_law_number : Def := ⟨3, 3, b_law_number⟩
abbrev f_law_number : Nat := 42
def b_law_is_form : Ss := .cons (.ite (.or (.not (.isin (.slot 0) [.tuple])) (.cmp .ne (.lenS 0) (.const (.int 5)))) (.cons (.ret (.const (.bl false))) .nil) .nil) (.cons (.ite (.or (.not (.call 42 (.cons (.subS 0 (.const (.int 0))) (.cons (.const (.int 1)) (.cons (.const (.int 6)) .nil))))) (.or (.not (.call 42 (.cons (.subS 0 (.const (.int 1))) (.cons (.const (.int 4)) (.cons (.const (.int 6)) .nil))))) (.not (.call 42 (.cons (.subS 0 (.const (.int 4))) (.cons (.const (.int 1)) (.cons (.const (.int 2)) .nil))))))) (.cons (.ret (.const (.bl false))) .nil) .nil) (.cons (.ite (.or (.not (.isin (.subS 0 (.const (.int 2))) [.str])) (.not (.isin (.subS 0 (.const (.int 3))) [.str]))) (.cons (.ret (.const (.bl false))) .nil) .nil) (.cons (.ret (.and (.cmp .isin (.subS 0 (.const (.int 2))) (.tup (.cons (.const (.str [108, 111, 119])) (.cons (.const (.str [104, 105, 103, 104])) .nil)))) (.cmp .isin (.subS 0 (.const (.int 3))) (.tup (.cons (.const (.str [110, 111, 110, 101])) (.cons (.const (.str [101, 118, 101, 110])) (.cons (.const (.str [111, 100, 100])) .nil))))))) .nil)))
def d_law_is_form : Def := ⟨1, 1, b_law_is_form⟩
abbrev f_law_is_form : Nat := 43
def l_law_k01_0 : Ss := .cons (.set 6 (.call 37 (.cons (.slot 0) (.cons (.slot 1) (.cons (.const (.int 5)) .nil))))) (.cons (.set 2 (.bin .add (.bin .add (.cut (.slot 2) (.const .non) (.slot 6)) (.tup (.cons (.call 38 (.cons (.slot 0) (.cons (.slot 1) (.cons (.slot 3) .nil)))) .nil))) (.cut (.slot 2) (.bin .add (.slot 6) (.const (.int 1))) (.const .non)))) .nil)
def c_law_k01_0 : E := .comp (.call 41 (.cons (.slot 7) (.cons (.slot 2) (.cons (.const .non) .nil)))) [7] true (.range1 (.const (.int 9))) .none [7]
def c_law_k01_1 : E := .comp (.call 41 (.cons (.slot 7) (.cons (.slot 2) (.cons (.const .non) .nil)))) [7] true (.val (.tup (.cons (.const (.int 0)) (.cons (.const (.int 3)) (.cons (.const (.int 5)) .nil))))) .none [7]
def b_law_k01 : Ss := .cons (.shr 1) (.cons (.set 2 (.call 39 (.cons (.slot 0) (.cons (.slot 1) .nil)))) (.cons (.set 3 (.lst (.cons (.const (.int 0)) (.cons (.const (.int 1)) (.cons (.const (.int 2)) (.cons (.const (.int 3)) (.cons (.const (.int 4)) (.cons (.const (.int 5)) (.cons (.const (.int 6)) (.cons (.const (.int 7)) (.cons (.neg (.const (.int 1))) (.cons (.const (.bl true)) (.cons (.const .non) (.cons (.const (.str [108, 111, 119])) (.cons (.const (.str [104, 105, 103, 104])) (.cons (.const (.str [110, 111, 110, 101])) (.cons (.const (.str [101, 118, 101, 110])) (.cons (.const (.str [111, 100, 100])) (.cons (.const (.str [108, 111])) (.cons (.const (.str [])) (.cons (.tup .nil) (.cons (.const (.str [76, 111, 119])) .nil)))))))))))))))))))))) (.cons (.for [4] true (.range1 (.call 37 (.cons (.slot 0) (.cons (.slot 1) (.cons (.const (.int 3)) .nil))))) l_law_k01_0) (.cons (.ite (.cmp .eq (.call 37 (.cons (.slot 0) (.cons (.slot 1) (.cons (.const (.int 6)) .nil)))) (.const (.int 0))) (.cons (.set 2 (.call 38 (.cons (.slot 0) (.cons (.slot 1) (.cons (.lst (.cons (.const .non) (.cons (.bi .list (.cons (.slot 2) .nil)) (.cons (.cut (.slot 2) (.const .non) (.const (.int 4))) (.cons (.bin .add (.slot 2) (.cut (.slot 2) (.const .non) (.const (.int 1)))) (.cons (.const (.str [102, 111, 114, 109])) (.cons (.const (.int 5)) (.cons (.tup .nil) (.cons (.rev (.slot 2)) .nil))))))))) .nil))))) .nil) .nil) (.cons (.set 5 (.call 43 (.cons (.slot 2) .nil))) (.cons (.ite (.or (.cmp .ne (.call 3 (.cons (.slot 2) .nil)) (.slot 5)) (.not (.isin (.call 3 (.cons (.slot 2) .nil)) [.bool]))) (.cons (.ret (.const (.bl false))) .nil) .nil) (.cons (.ite (.not (.slot 5)) (.cons (.ret (.cmp .eq c_law_k01_0 (.bin .mul (.lst (.cons (.tup (.cons (.const (.str [114, 101, 102, 117, 115, 101, 100])) (.cons (.const (.int 0)) .nil))) .nil)) (.const (.int 9))))) .nil) .nil) (.cons (.ite (.cmp .ne c_law_k01_1 (.lst (.cons (.tup (.cons (.const (.str [114, 101, 102, 117, 115, 101, 100])) (.cons (.const (.int 3)) .nil))) (.cons (.tup (.cons (.const (.str [114, 101, 102, 117, 115, 101, 100])) (.cons (.const (.int 1)) .nil))) (.cons (.tup (.cons (.const (.str [114, 101, 102, 117, 115, 101, 100])) (.cons (.const (.int 2)) .nil))) .nil))))) (.cons (.ret (.const (.bl false))) .nil) .nil) (.cons (.ret (.cmp .eq (.call 41 (.cons (.const (.int 8)) (.cons (.slot 2) (.cons (.const .non) .nil)))) (.const (.bl true)))) .nil)))))))))
def d_law_k01 : Def := ⟨8, 1, b_law_k01⟩
abbrev f_law_k01 : Nat := 44
def b_law_form_2 : Ss := .cons (.set 2 (.call 38 (.cons (.slot 0) (.cons (.slot 1) (.cons (.lst (.cons (.const (.str [108, 111, 119])) (.cons (.const (.str [104, 105, 103, 104])) .nil))) .nil))))) (.cons (.set 3 (.call 38 (.cons (.slot 0) (.cons (.slot 1) (.cons (.lst (.cons (.const (.str [110, 111, 110, 101])) (.cons (.const (.str [101, 118, 101, 110])) (.cons (.const (.str [111, 100, 100])) .nil)))) .nil))))) (.cons (.par [4, 5] (.cons (.bin .add (.const (.int 1)) (.call 37 (.cons (.slot 0) (.cons (.slot 1) (.cons (.const (.int 6)) .nil))))) (.cons (.bin .add (.const (.int 4)) (.call 37 (.cons (.slot 0) (.cons (.slot 1) (.cons (.const (.int 3)) .nil))))) .nil))) (.cons (.ret (.tup (.cons (.slot 4) (.cons (.slot 5) (.cons (.slot 2) (.cons (.slot 3) (.cons (.bin .add (.const (.int 1)) (.call 37 (.cons (.slot 0) (.cons (.slot 1) (.cons (.const (.int 2)) .nil))))) .nil))))))) .nil)))
def d_law_form_2 : Def := ⟨6, 2, b_law_form_2⟩
abbrev f_law_form_2 : Nat := 45
def l_law_bits_0 : Ss := .cons (.app 2 (.bin .mod (.bin .fdiv (.slot 1) (.sub (.lst (.cons (.const (.int 1)) (.cons (.const (.int 2)) (.cons (.const (.int 4)) (.cons (.const (.int 8)) (.cons (.const (.int 16)) (.cons (.const (.int 32)) .nil))))))) (.slot 3))) (.const (.int 2)))) .nil
def b_law_bits : Ss := .cons (.set 2 (.lst .nil)) (.cons (.for [3] true (.range1 (.subS 0 (.const (.int 1)))) l_law_bits_0) (.cons (.ret (.ite (.cmp .eq (.subS 0 (.const (.int 2))) (.const (.str [104, 105, 103, 104]))) (.rev (.slot 2)) (.slot 2))) .nil))
def d_law_bits : Def := ⟨4, 2, b_law_bits⟩
abbrev f_law_bits : Nat := 46
def c_law_frame_0 : E := .comp (.bin .mul (.bi .str (.cons (.slot 4) .nil)) (.subS 0 (.const (.int 0)))) [4] true (.val (.slot 3)) .none [4]
def b_law_frame : Ss := .cons (.set 2 (.call 46 (.cons (.slot 0) (.cons (.slot 1) .nil)))) (.cons (.set 3 (.bin .add (.lst (.cons (.const (.int 0)) .nil)) (.slot 2))) (.cons (.ite (.cmp .eq (.subS 0 (.const (.int 3))) (.const (.str [101, 118, 101, 110]))) (.cons (.app 3 (.bi .int (.cons (.cmp .isin (.meth .count (.slot 2) (.cons (.const (.int 1)) .nil)) (.tup (.cons (.const (.int 1)) (.cons (.const (.int 3)) (.cons (.const (.int 5)) .nil))))) .nil))) .nil) .nil) (.cons (.ite (.cmp .eq (.subS 0 (.const (.int 3))) (.const (.str [111, 100, 100]))) (.cons (.app 3 (.bi .int (.cons (.cmp .isin (.meth .count (.slot 2) (.cons (.const (.int 1)) .nil)) (.tup (.cons (.const (.int 0)) (.cons (.const (.int 2)) (.cons (.const (.int 4)) (.cons (.const (.int 6)) .nil)))))) .nil))) .nil) .nil) (.cons (.ext 3 (.bin .mul (.lst (.cons (.const (.int 1)) .nil)) (.subS 0 (.const (.int 4))))) (.cons (.ret (.join [] c_law_frame_0)) .nil)))))
def d_law_frame : Def := ⟨5, 2, b_law_frame⟩
abbrev f_law_frame : Nat := 47
def b_law_long : Ss := .cons (.ret (.bi .len (.cons (.call 47 (.cons (.slot 0) (.cons (.const (.int 0)) .nil))) .nil))) .nil
def d_law_long : Def := ⟨1, 1, b_law_long⟩
abbrev f_law_long : Nat := 48
def l_law_rows_0 : Ss := .cons (.set 7 (.call 37 (.cons (.slot 0) (.cons (.slot 1) (.cons (.call 38 (.cons (.slot 0) (.cons (.slot 1) (.cons (.lst (.cons (.const (.int 1)) (.cons (.const (.int 3)) (.cons (.const (.int 30)) .nil)))) .nil)))) .nil))))) (.cons (.set 7 (.bi .min (.cons (.slot 7) (.cons (.bi .max (.cons (.const (.int 0)) (.cons (.bin .sub (.slot 4) (.call 48 (.cons (.slot 2) .nil))) .nil))) .nil)))) (.cons (.ite (.cmp .le (.bin .add (.slot 7) (.call 48 (.cons (.slot 2) .nil))) (.slot 4)) (.cons (.set 4 (.bin .sub (.bin .sub (.slot 4) (.slot 7)) (.call 48 (.cons (.slot 2) .nil)))) (.cons (.app 5 (.tup (.cons (.slot 7) (.cons (.call 37 (.cons (.slot 0) (.cons (.slot 1) (.cons (.sub (.lst (.cons (.const (.int 16)) (.cons (.const (.int 32)) (.cons (.const (.int 64)) .nil)))) (.bin .sub (.subS 2 (.const (.int 1))) (.const (.int 4)))) .nil)))) .nil)))) .nil)) .nil) .nil))
def b_law_rows : Ss := .cons (.set 4 (.slot 3)) (.cons (.set 5 (.lst .nil)) (.cons (.for [6] true (.range1 (.bin .add (.const (.int 1)) (.call 37 (.cons (.slot 0) (.cons (.slot 1) (.cons (.const (.int 5)) .nil)))))) l_law_rows_0) (.cons (.ret (.tup (.cons (.bi .tuple (.cons (.slot 5) .nil)) (.cons (.call 37 (.cons (.slot 0) (.cons (.slot 1) (.cons (.bi .min (.cons (.const (.int 9)) (.cons (.bin .add (.slot 4) (.const (.int 1))) .nil))) .nil)))) .nil)))) .nil)))
def d_law_rows : Def := ⟨8, 4, b_law_rows⟩
abbrev f_law_rows : Nat := 49
def c_law_sent_0 : E := .comp (.bin .add (.bin .mul (.const (.str [49])) (.slot 3)) (.call 47 (.cons (.slot 0) (.cons (.slot 4) .nil)))) [3, 4] false (.val (.slot 1)) .none [3, 4]
def b_law_sent : Ss := .cons (.ret (.bin .add (.join [] c_law_sent_0) (.bin .mul (.const (.str [49])) (.slot 2)))) .nil
def d_law_sent : Def := ⟨5, 3, b_law_sent⟩
abbrev f_law_sent : Nat := 50
def b_law_ask_2 : Ss := .cons (.tryRet (.cons (.ret (.ite (.cmp .eq (.slot 0) (.const (.int 0))) (.call 11 (.cons (.slot 1) (.cons (.slot 2) .nil))) (.call 15 (.cons (.slot 1) (.cons (.slot 2) (.cons (.slot 3) .nil)))))) .nil) [0] (.which 4 40)) .nil
def d_law_ask_2 : Def := ⟨5, 4, b_law_ask_2⟩
abbrev f_law_ask_2 : Nat := 51
def b_law_k02 : Ss := .cons (.shr 1) (.cons (.set 2 (.call 45 (.cons (.slot 0) (.cons (.slot 1) .nil)))) (.cons (.set 3 (.sub (.lst (.cons (.const (.int 16)) (.cons (.const (.int 32)) (.cons (.const (.int 64)) .nil)))) (.bin .sub (.subS 2 (.const (.int 1))) (.const (.int 4))))) (.cons (.set 4 (.call 37 (.cons (.slot 0) (.cons (.slot 1) (.cons (.slot 3) .nil))))) (.cons (.ite (.cmp .ne (.call 51 (.cons (.const (.int 0)) (.cons (.slot 2) (.cons (.slot 4) (.cons (.const .non) .nil))))) (.call 47 (.cons (.slot 2) (.cons (.slot 4) .nil)))) (.cons (.ret (.const (.bl false))) .nil) .nil) (.cons (.unp [9, 10] (.call 49 (.cons (.slot 0) (.cons (.slot 1) (.cons (.slot 2) (.cons (.const (.int 200)) .nil)))))) (.cons (.set 5 (.call 50 (.cons (.slot 2) (.cons (.slot 9) (.cons (.slot 10) .nil))))) (.cons (.ite (.cmp .ne (.call 51 (.cons (.const (.int 1)) (.cons (.slot 2) (.cons (.slot 9) (.cons (.slot 10) .nil))))) (.slot 5)) (.cons (.ret (.const (.bl false))) .nil) .nil) (.cons (.set 6 (.bin .sub (.const (.int 200)) (.lenS 5))) (.cons (.ite (.cmp .ne (.call 51 (.cons (.const (.int 1)) (.cons (.slot 2) (.cons (.slot 9) (.cons (.bin .add (.slot 10) (.slot 6)) .nil))))) (.bin .add (.slot 5) (.bin .mul (.const (.str [49])) (.slot 6)))) (.cons (.ret (.const (.bl false))) .nil) .nil) (.cons (.ite (.cmp .ne (.call 51 (.cons (.const (.int 1)) (.cons (.slot 2) (.cons (.slot 9) (.cons (.bin .add (.bin .add (.slot 10) (.slot 6)) (.const (.int 1))) .nil))))) (.tup (.cons (.const (.str [114, 101, 102, 117, 115, 101, 100])) (.cons (.const (.int 5)) .nil)))) (.cons (.ret (.const (.bl false))) .nil) .nil) (.cons (.set 7 (.call 38 (.cons (.slot 0) (.cons (.slot 1) (.cons (.lst (.cons (.neg (.const (.int 1))) (.cons (.slot 3) (.cons (.const .non) (.cons (.const (.bl true)) (.cons (.const (.str [48])) .nil)))))) .nil))))) (.cons (.ite (.cmp .ne (.call 51 (.cons (.const (.int 0)) (.cons (.slot 2) (.cons (.slot 7) (.cons (.const .non) .nil))))) (.tup (.cons (.const (.str [114, 101, 102, 117, 115, 101, 100])) (.cons (.const (.int 3)) .nil)))) (.cons (.ret (.const (.bl false))) .nil) .nil) (.cons (.set 8 (.lst (.cons (.const .non) (.cons (.tup .nil) (.cons (.bi .list (.cons (.slot 9) .nil)) (.cons (.bin .add (.slot 9) (.tup (.cons (.const .non) .nil))) (.cons (.bin .add (.slot 9) (.tup (.cons (.tup (.cons (.const (.int 0)) (.cons (.slot 3) .nil))) .nil))) (.cons (.bin .add (.slot 9) (.tup (.cons (.tup (.cons (.neg (.const (.int 1))) (.cons (.const (.int 0)) .nil))) .nil))) (.cons (.bin .add (.slot 9) (.tup (.cons (.tup (.cons (.const (.int 201)) (.cons (.const (.int 0)) .nil))) .nil))) .nil))))))))) (.cons (.ext 8 (.lst (.cons (.bin .add (.slot 9) (.tup (.cons (.tup (.cons (.const (.int 0)) .nil)) .nil))) (.cons (.bin .mul (.tup (.cons (.tup (.cons (.const (.int 0)) (.cons (.const (.int 0)) .nil))) .nil)) (.const (.int 41))) .nil)))) (.cons (.ite (.cmp .ne (.call 51 (.cons (.const (.int 1)) (.cons (.slot 2) (.cons (.call 38 (.cons (.slot 0) (.cons (.slot 1) (.cons (.slot 8) .nil)))) (.cons (.const .non) .nil))))) (.tup (.cons (.const (.str [114, 101, 102, 117, 115, 101, 100])) (.cons (.const (.int 2)) .nil)))) (.cons (.ret (.const (.bl false))) .nil) .nil) (.cons (.set 7 (.call 38 (.cons (.slot 0) (.cons (.slot 1) (.cons (.lst (.cons (.neg (.const (.int 1))) (.cons (.const (.int 201)) (.cons (.const .non) (.cons (.const (.bl true)) (.cons (.const (.str [48])) .nil)))))) .nil))))) (.cons (.ret (.and (.cmp .eq (.call 51 (.cons (.const (.int 1)) (.cons (.slot 2) (.cons (.slot 9) (.cons (.slot 7) .nil))))) (.tup (.cons (.const (.str [114, 101, 102, 117, 115, 101, 100])) (.cons (.const (.int 4)) .nil)))) (.cmp .eq (.call 51 (.cons (.const (.int 1)) (.cons (.slot 2) (.cons (.tup (.cons (.tup (.cons (.const (.int 200)) (.cons (.const (.int 0)) .nil))) .nil)) (.cons (.const (.int 0)) .nil))))) (.tup (.cons (.const (.str [114, 101, 102, 117, 115, 101, 100])) (.cons (.const (.int 5)) .nil)))))) .nil)))))))))))))))))
def d_law_k02 : Def := ⟨11, 1, b_law_k02⟩
abbrev f_law_k02 : Nat := 52
def c_all_forms_0 : E := .comp (.tup (.cons (.slot 1) (.cons (.slot 2) (.cons (.slot 3) (.cons (.slot 4) (.cons (.slot 5) .nil)))))) [5] true (.val (.tup (.cons (.const (.int 1)) (.cons (.const (.int 2)) .nil)))) .none [5]
def l_all_forms_0 : Ss := .cons (.ext 0 c_all_forms_0) .nil
def l_all_forms_1 : Ss := .cons (.for [4] true (.val (.glob (.v (.tup [.str [110, 111, 110, 101], .str [101, 118, 101, 110], .str [111, 100, 100]])))) l_all_forms_0) .nil
def l_all_forms_2 : Ss := .cons (.for [3] true (.val (.glob (.v (.tup [.str [108, 111, 119], .str [104, 105, 103, 104]])))) l_all_forms_1) .nil
def l_all_forms_3 : Ss := .cons (.for [2] true (.range2 (.glob (.v (.int 4))) (.bin .add (.glob (.v (.int 6))) (.const (.int 1)))) l_all_forms_2) .nil
def b_all_forms : Ss := .cons (.set 0 (.lst .nil)) (.cons (.for [1] true (.range2 (.const (.int 1)) (.bin .add (.glob (.v (.int 6))) (.const (.int 1)))) l_all_forms_3) (.cons (.ret (.bi .sorted (.cons (.slot 0) .nil))) .nil))
def d_all_forms : Def := ⟨6, 0, b_all_forms⟩
abbrev f_all_forms : Nat := 53
def c_forms_for_0 : E := .comp (.slot 1) [1] true (.val (.call 53 .nil)) (.some (.cmp .notN (.call 27 (.cons (.slot 1) (.cons (.slot 0) .nil))) (.const .non))) [1]
def b_forms_for : Ss := .cons (.expr (.call 16 (.cons (.slot 0) .nil))) (.cons (.ret c_forms_for_0) .nil)
def d_forms_for : Def := ⟨2, 1, b_forms_for⟩
abbrev f_forms_for : Nat := 54
def c_law_reads_0 : E := .comp (.slot 9) [9, 10] false (.zip (.tup (.cons (.const (.int 1)) (.cons (.const (.int 2)) (.cons (.const (.int 4)) (.cons (.const (.int 8)) (.cons (.const (.int 16)) (.cons (.const (.int 32)) .nil))))))) (.slot 7)) (.some (.cmp .eq (.slot 10) (.const (.str [49])))) [9, 10]
def l_law_reads_0 : Ss := .cons (.set 5 (.meth .index (.slot 4) (.cons (.const (.str [48])) .nil))) (.cons (.set 6 (.cut (.slot 4) (.slot 5) (.bin .add (.slot 5) (.slot 2)))) (.cons .stuck (.cons (.set 7 (.ite (.cmp .eq (.subS 0 (.const (.int 2))) (.const (.str [108, 111, 119]))) (.slot 7) (.rev (.slot 7)))) (.cons (.set 8 (.bi .sum (.cons c_law_reads_0 .nil))) (.cons (.ite (.cmp .ne (.slot 6) (.call 47 (.cons (.slot 0) (.cons (.slot 8) .nil)))) (.cons (.ret (.const .non)) .nil) .nil) (.cons (.app 3 (.tup (.cons (.slot 5) (.cons (.slot 8) .nil)))) (.cons (.set 4 (.cut (.slot 4) (.bin .add (.slot 5) (.slot 2)) (.const .non))) .nil)))))))
def b_law_reads : Ss := .cons (.set 2 (.call 48 (.cons (.slot 0) .nil))) (.cons (.set 3 (.lst .nil)) (.cons (.set 4 (.slot 1)) (.cons (.while (.inS false (.const (.str [48])) 4) l_law_reads_0) (.cons (.ret (.ite (.cmpS .ne 3 (.lst .nil)) (.tup (.cons (.bi .tuple (.cons (.slot 3) .nil)) (.cons (.lenS 4) .nil))) (.const .non))) .nil))))
def d_law_reads : Def := ⟨11, 2, b_law_reads⟩
abbrev f_law_reads : Nat := 55
def c_law_forms_0 : E := .comp (.tup (.cons (.slot 1) (.cons (.slot 2) (.cons (.slot 4) (.cons (.slot 3) (.cons (.slot 5) .nil)))))) [5] true (.val (.tup (.cons (.const (.int 1)) (.cons (.const (.int 2)) .nil)))) .none [5]
def l_law_forms_0 : Ss := .cons (.ext 0 c_law_forms_0) .nil
def l_law_forms_1 : Ss := .cons (.for [4] true (.val (.tup (.cons (.const (.str [108, 111, 119])) (.cons (.const (.str [104, 105, 103, 104])) .nil)))) l_law_forms_0) .nil
def l_law_forms_2 : Ss := .cons (.for [3] true (.val (.tup (.cons (.const (.str [110, 111, 110, 101])) (.cons (.const (.str [101, 118, 101, 110])) (.cons (.const (.str [111, 100, 100])) .nil))))) l_law_forms_1) .nil
def l_law_forms_3 : Ss := .cons (.for [2] true (.val (.tup (.cons (.const (.int 4)) (.cons (.const (.int 5)) (.cons (.const (.int 6)) .nil))))) l_law_forms_2) .nil
def b_law_forms : Ss := .cons (.set 0 (.lst .nil)) (.cons (.for [1] true (.range2 (.const (.int 1)) (.const (.int 7))) l_law_forms_3) (.cons (.ret (.bi .sorted (.cons (.slot 0) .nil))) .nil))
def d_law_forms : Def := ⟨6, 0, b_law_forms⟩
abbrev f_law_forms : Nat := 56
def b_law_ask_3 : Ss := .cons (.tryRet (.cons (.ret (.ite (.cmp .eq (.slot 0) (.const (.int 0))) (.call 28 (.cons (.slot 1) (.cons (.slot 2) .nil))) (.call 54 (.cons (.slot 2) .nil)))) .nil) [0] (.which 3 40)) .nil
def d_law_ask_3 : Def := ⟨4, 3, b_law_ask_3⟩
abbrev f_law_ask_3 : Nat := 57
def c_law_samples_0 : E := .comp (.call 38 (.cons (.slot 0) (.cons (.slot 1) (.cons (.lst (.cons (.const (.str [48])) (.cons (.const (.str [49])) (.cons (.const (.str [49, 49])) (.cons (.const (.str [48, 48])) .nil))))) .nil)))) [8] true (.range1 (.const (.int 9))) .none [8]
def b_law_samples : Ss := .cons (.unp [4, 5] (.call 49 (.cons (.slot 0) (.cons (.slot 1) (.cons (.slot 2) (.cons (.call 38 (.cons (.slot 0) (.cons (.slot 1) (.cons (.lst (.cons (.const (.int 60)) (.cons (.const (.int 100)) (.cons (.const (.int 200)) .nil)))) .nil)))) .nil)))))) (.cons (.set 3 (.call 50 (.cons (.slot 2) (.cons (.slot 4) (.cons (.slot 5) .nil))))) (.cons (.ite (.cmp .eq (.call 37 (.cons (.slot 0) (.cons (.slot 1) (.cons (.const (.int 4)) .nil)))) (.const (.int 0))) (.cons (.set 6 (.call 37 (.cons (.slot 0) (.cons (.slot 1) (.cons (.lenS 3) .nil))))) (.cons (.set 7 (.sub (.const (.str [49, 48])) (.bi .int (.cons (.subS 3 (.slot 6)) .nil)))) (.cons (.set 3 (.bin .add (.bin .add (.cut (.slot 3) (.const .non) (.slot 6)) (.slot 7)) (.cut (.slot 3) (.bin .add (.slot 6) (.const (.int 1))) (.const .non)))) .nil))) .nil) (.cons (.ite (.cmp .eq (.call 37 (.cons (.slot 0) (.cons (.slot 1) (.cons (.const (.int 8)) .nil)))) (.const (.int 0))) (.cons (.set 3 (.join [] c_law_samples_0)) .nil) .nil) (.cons (.retS 3) .nil))))
def d_law_samples : Def := ⟨9, 3, b_law_samples⟩
abbrev f_law_samples : Nat := 58
def l_law_k03_0 : Ss := .cons (.set 10 (.call 57 (.cons (.const (.int 0)) (.cons (.slot 3) (.cons (.slot 2) .nil))))) (.cons (.ite (.or (.cmp .ne (.slot 10) (.call 55 (.cons (.slot 3) (.cons (.slot 2) .nil)))) (.and (.cmp .notN (.slot 10) (.const .non)) (.cmp .ne (.call 15 (.cons (.slot 3) (.cons (.subS 10 (.const (.int 0))) (.cons (.subS 10 (.const (.int 1))) .nil)))) (.slot 2)))) (.cons (.ret (.const (.bl false))) .nil) .nil) .nil)
def c_law_k03_0 : E := .comp (.slot 3) [3] true (.val (.call 56 .nil)) (.some (.cmp .notN (.call 55 (.cons (.slot 3) (.cons (.slot 4) .nil))) (.const .non))) [3]
def c_law_k03_1 : E := .comp (.call 57 (.cons (.slot 11) (.cons (.slot 6) (.cons (.slot 5) .nil)))) [11] true (.range1 (.const (.int 2))) .none [11]
def b_law_k03 : Ss := .cons (.shr 1) (.cons (.par [6, 7] (.cons (.call 45 (.cons (.slot 0) (.cons (.slot 1) .nil))) (.cons (.call 45 (.cons (.slot 0) (.cons (.slot 1) .nil))) .nil))) (.cons (.unp [8, 9] (.call 49 (.cons (.slot 0) (.cons (.slot 1) (.cons (.slot 6) (.cons (.const (.int 200)) .nil)))))) (.cons (.ite (.cmp .ne (.call 57 (.cons (.const (.int 0)) (.cons (.slot 6) (.cons (.call 50 (.cons (.slot 6) (.cons (.slot 8) (.cons (.slot 9) .nil)))) .nil)))) (.tup (.cons (.slot 8) (.cons (.slot 9) .nil)))) (.cons (.ret (.const (.bl false))) .nil) .nil) (.cons (.set 2 (.call 58 (.cons (.slot 0) (.cons (.slot 1) (.cons (.slot 6) .nil))))) (.cons (.for [3] true (.val (.tup (.cons (.slot 6) (.cons (.slot 7) .nil)))) l_law_k03_0) (.cons (.set 4 (.cut (.slot 2) (.const .non) (.const (.int 80)))) (.cons (.ite (.cmp .ne (.call 57 (.cons (.const (.int 1)) (.cons (.const .non) (.cons (.slot 4) .nil)))) c_law_k03_0) (.cons (.ret (.const (.bl false))) .nil) .nil) (.cons (.set 5 (.call 38 (.cons (.slot 0) (.cons (.slot 1) (.cons (.lst (.cons (.const .non) (.cons (.const (.str [])) (.cons (.bin .mul (.const (.str [48])) (.const (.int 201))) (.cons (.const (.str [48, 49, 50])) (.cons (.const (.int 1)) (.cons (.lst (.cons (.const (.str [49])) .nil)) (.cons (.const (.str [49, 32, 48])) .nil)))))))) .nil))))) (.cons (.ite (.cmp .ne (.call 57 (.cons (.const (.int 1)) (.cons (.const .non) (.cons (.bin .mul (.const (.str [49])) (.const (.int 200))) .nil)))) (.lst .nil)) (.cons (.ret (.const (.bl false))) .nil) .nil) (.cons (.ret (.cmp .eq c_law_k03_1 (.bin .mul (.lst (.cons (.tup (.cons (.const (.str [114, 101, 102, 117, 115, 101, 100])) (.cons (.const (.int 1)) .nil))) .nil)) (.const (.int 2))))) .nil))))))))))
def d_law_k03 : Def := ⟨12, 1, b_law_k03⟩
abbrev f_law_k03 : Nat := 59
def c_readings_0 : E := .comp (.call 27 (.cons (.slot 2) (.cons (.slot 0) .nil))) [2] true (.val (.call 53 .nil)) .none [2]
def c_readings_1 : E := .comp (.call 29 (.cons (.slot 3) .nil)) [3] true (.val (.slot 1)) (.some (.cmp .notN (.slot 3) (.const .non))) [3]
def b_readings : Ss := .cons (.expr (.call 16 (.cons (.slot 0) .nil))) (.cons (.set 1 c_readings_0) (.cons (.ret (.bi .sorted (.cons (.bi .set (.cons c_readings_1 .nil)) .nil))) .nil))
def d_readings : Def := ⟨4, 1, b_readings⟩
abbrev f_readings : Nat := 60
def c_law_reads_2_0 : E := .comp (.slot 9) [9, 10] false (.zip (.tup (.cons (.const (.int 1)) (.cons (.const (.int 2)) (.cons (.const (.int 4)) (.cons (.const (.int 8)) (.cons (.const (.int 16)) (.cons (.const (.int 32)) .nil))))))) (.slot 7)) (.some (.cmp .eq (.slot 10) (.const (.str [49])))) [9, 10]
def l_law_reads_2_0 : Ss := .cons (.set 5 (.meth .index (.slot 4) (.cons (.const (.str [48])) .nil))) (.cons (.set 6 (.cut (.slot 4) (.slot 5) (.bin .add (.slot 5) (.slot 2)))) (.cons .stuck (.cons (.set 7 (.ite (.cmp .eq (.subS 0 (.const (.int 2))) (.const (.str [108, 111, 119]))) (.slot 7) (.rev (.slot 7)))) (.cons (.set 8 (.bi .sum (.cons c_law_reads_2_0 .nil))) (.cons (.ite (.cmp .ne (.slot 6) (.call 47 (.cons (.slot 0) (.cons (.slot 8) .nil)))) (.cons (.ret (.const .non)) .nil) .nil) (.cons (.app 3 (.tup (.cons (.slot 5) (.cons (.slot 8) .nil)))) (.cons (.set 4 (.cut (.slot 4) (.bin .add (.slot 5) (.slot 2)) (.const .non))) .nil)))))))
def b_law_reads_2 : Ss := .cons (.set 2 (.call 48 (.cons (.slot 0) .nil))) (.cons (.set 3 (.lst .nil)) (.cons (.set 4 (.slot 1)) (.cons (.while (.inS false (.const (.str [48])) 4) l_law_reads_2_0) (.cons (.ret (.ite (.cmpS .ne 3 (.lst .nil)) (.tup (.cons (.bi .tuple (.cons (.slot 3) .nil)) (.cons (.lenS 4) .nil))) (.const .non))) .nil))))
def d_law_reads_2 : Def := ⟨11, 2, b_law_reads_2⟩
abbrev f_law_reads_2 : Nat := 61
def b_law_table : Ss := .cons .stuck .nil
def d_law_table : Def := ⟨2, 1, b_law_table⟩
abbrev f_law_table : Nat := 62
def c_law_settled_0 : E := .comp (.subS 0 (.slot 7)) [7] true (.val (.slot 2)) .none [7]
def l_law_settled_0 : Ss := .cons (.set 6 (.meth .index (.slot 4) (.cons (.const (.str [48])) .nil))) (.cons .stuck (.cons (.set 4 (.cut (.slot 4) (.bin .add (.slot 6) (.slot 3)) (.const .non))) .nil))
def b_law_settled : Ss := .cons (.set 3 (.bi .len (.cons (.sub (.bi .list (.cons (.slot 1) .nil)) (.const (.int 0))) .nil))) (.cons (.set 4 (.bin .add (.join [] c_law_settled_0) (.bin .mul (.const (.str [49])) (.const (.int 60))))) (.cons (.set 5 (.lst .nil)) (.cons (.while (.inS false (.const (.str [48])) 4) l_law_settled_0) (.cons (.ret (.cmp .ne (.slot 5) (.bi .list (.cons (.slot 2) .nil)))) .nil))))
def d_law_settled : Def := ⟨8, 3, b_law_settled⟩
abbrev f_law_settled : Nat := 63
def c_law_least_0 : E := .comp (.call 47 (.cons (.slot 0) (.cons (.slot 3) .nil))) [3] true (.range1 (.slot 2)) .none [3]
def l_law_least_0 : Ss := .cons (.ite (.call 63 (.cons (.slot 4) (.cons (.slot 5) (.cons (.tup (.cons (.slot 3) .nil)) .nil)))) (.cons (.ret (.tup (.cons (.slot 3) .nil))) .nil) .nil) .nil
def l_law_least_1 : Ss := .cons (.ite (.call 63 (.cons (.slot 4) (.cons (.slot 5) (.cons (.tup (.cons (.slot 3) (.cons (.slot 6) .nil))) .nil)))) (.cons (.ret (.tup (.cons (.slot 3) (.cons (.slot 6) .nil)))) .nil) .nil) .nil
def l_law_least_2 : Ss := .cons (.for [6] true (.range1 (.slot 2)) l_law_least_1) .nil
def b_law_least : Ss := .cons (.set 2 (.sub (.lst (.cons (.const (.int 16)) (.cons (.const (.int 32)) (.cons (.const (.int 64)) .nil)))) (.bin .sub (.subS 0 (.const (.int 1))) (.const (.int 4))))) (.cons (.par [4, 5] (.cons c_law_least_0 (.cons (.call 62 (.cons (.slot 1) .nil)) .nil))) (.cons (.for [3] true (.range1 (.slot 2)) l_law_least_0) (.cons (.ite (.cmp .gt (.slot 2) (.const (.int 16))) (.cons (.ret (.const .non)) .nil) .nil) (.cons (.for [3] true (.range1 (.slot 2)) l_law_least_2) (.cons (.ret (.const .non)) .nil)))))
def d_law_least : Def := ⟨7, 2, b_law_least⟩
abbrev f_law_least : Nat := 64
def c_law_k04_0 : E := .comp (.call 47 (.cons (.slot 9) (.cons (.slot 12) .nil))) [12] true (.range1 (.sub (.lst (.cons (.const (.int 16)) (.cons (.const (.int 32)) (.cons (.const (.int 64)) .nil)))) (.bin .sub (.subS 9 (.const (.int 1))) (.const (.int 4))))) .none [12]
def c_law_k04_1 : E := .comp (.call 61 (.cons (.slot 13) (.cons (.slot 6) .nil))) [13] true (.val (.call 56 .nil)) .none [13]
def c_law_k04_2 : E := .comp (.slot 12) [14, 12] false (.val (.subS 13 (.const (.int 0)))) .none [12, 14]
def c_law_k04_3 : E := .comp (.bi .tuple (.cons c_law_k04_2 .nil)) [13] true (.val (.slot 7)) (.some (.cmp .notN (.slot 13) (.const .non))) [13]
def b_law_k04 : Ss := .cons (.shr 1) (.cons (.par [9, 10] (.cons (.call 45 (.cons (.slot 0) (.cons (.slot 1) .nil))) (.cons (.call 45 (.cons (.slot 0) (.cons (.slot 1) .nil))) .nil))) (.cons (.set 2 (.call 37 (.cons (.slot 0) (.cons (.slot 1) (.cons (.const (.int 6)) .nil))))) (.cons (.ite (.cmp .lt (.slot 2) (.const (.int 5))) (.cons (.set 10 (.bin .add (.bin .add (.cut (.slot 9) (.const .non) (.slot 2)) (.cut (.slot 10) (.slot 2) (.bin .add (.slot 2) (.const (.int 1))))) (.cut (.slot 9) (.bin .add (.slot 2) (.const (.int 1))) (.const .non)))) .nil) .nil) (.cons (.set 3 (.call 31 (.cons (.slot 9) (.cons (.slot 10) .nil)))) (.cons (.ite (.and (.cmp .eq (.slot 9) (.slot 10)) (.cmp .notN (.slot 3) (.const .non))) (.cons (.ret (.const (.bl false))) .nil) .nil) (.cons (.set 4 c_law_k04_0) (.cons (.ite (.and (.cmp .notN (.slot 3) (.const .non)) (.not (.call 63 (.cons (.slot 4) (.cons (.call 62 (.cons (.slot 10) .nil)) (.cons (.slot 3) .nil)))))) (.cons (.ret (.const (.bl false))) .nil) .nil) (.cons (.ite (.and (.cmp .notN (.slot 3) (.const .non)) (.not (.cmp2 .le .le (.const (.int 1)) (.lenS 3) (.const (.int 2))))) (.cons (.ret (.const (.bl false))) .nil) .nil) (.cons (.set 5 (.call 64 (.cons (.slot 9) (.cons (.slot 10) .nil)))) (.cons (.ite (.or (.and (.cmp .notN (.slot 5) (.const .non)) (.cmp .ne (.slot 3) (.slot 5))) (.and (.cmp .isN (.slot 5) (.const .non)) (.and (.cmp .eq (.subS 9 (.const (.int 1))) (.const (.int 4))) (.cmp .notN (.slot 3) (.const .non))))) (.cons (.ret (.const (.bl false))) .nil) .nil) (.cons (.unp [4, 11] (.call 49 (.cons (.slot 0) (.cons (.slot 1) (.cons (.slot 9) (.cons (.const (.int 70)) .nil)))))) (.cons (.set 6 (.call 50 (.cons (.slot 9) (.cons (.slot 4) (.cons (.slot 11) .nil))))) (.cons (.set 7 c_law_k04_1) (.cons (.set 8 c_law_k04_3) (.cons (.ite (.or (.cmp .ne (.call 60 (.cons (.slot 6) .nil)) (.bi .sorted (.cons (.bi .set (.cons (.slot 8) .nil)) .nil))) (.cmp .notin (.slot 9) (.call 54 (.cons (.slot 6) .nil)))) (.cons (.ret (.const (.bl false))) .nil) .nil) (.cons (.ret (.and (.cmp .eq (.call 15 (.cons (.slot 9) (.cons (.slot 4) (.cons (.slot 11) .nil)))) (.slot 6)) (.cmp .eq (.call 28 (.cons (.slot 9) (.cons (.slot 6) .nil))) (.tup (.cons (.slot 4) (.cons (.slot 11) .nil)))))) .nil))))))))))))))))
def d_law_k04 : Def := ⟨15, 1, b_law_k04⟩
abbrev f_law_k04 : Nat := 65
def b_law_ask_4 : Ss := .cons (.tryRet (.cons (.ret (.callSel [23, 24] (.slot 0) (.cons (.slot 1) (.cons (.slot 2) .nil)))) .nil) [0] (.which 3 40)) .nil
def d_law_ask_4 : Def := ⟨4, 3, b_law_ask_4⟩
abbrev f_law_ask_4 : Nat := 66
def c_law_unlike_0 : E := .comp (.slot 2) [2] true (.range1 (.lenS 0)) (.some (.cmp .ne (.subS 0 (.slot 2)) (.subS 1 (.slot 2)))) [2]
def b_law_unlike : Ss := .cons (.ret (.bi .len (.cons c_law_unlike_0 .nil))) .nil
def d_law_unlike : Def := ⟨3, 2, b_law_unlike⟩
abbrev f_law_unlike : Nat := 67
def c_law_least_2_0 : E := .comp (.call 47 (.cons (.slot 0) (.cons (.slot 8) .nil))) [8] true (.range1 (.sub (.lst (.cons (.const (.int 16)) (.cons (.const (.int 32)) (.cons (.const (.int 64)) .nil)))) (.bin .sub (.subS 0 (.const (.int 1))) (.const (.int 4))))) .none [8]
def c_law_least_2_1 : E := .comp (.call 67 (.cons (.slot 10) (.cons (.cut (.slot 1) (.slot 5) (.bin .add (.slot 5) (.slot 3))) .nil))) [10] true (.val (.slot 2)) .none [10]
def c_law_least_2_2 : E := .comp (.slot 10) [10, 11] false (.val (.slot 7)) .none [10, 11]
def c_law_least_2_3 : E := .comp (.slot 11) [10, 11] false (.val (.slot 7)) .none [10, 11]
def l_law_least_2_0 : Ss := .cons (.set 6 (.bi .int (.cons (.cmp .eq (.subS 1 (.slot 5)) (.const (.str [48]))) .nil))) (.cons (.set 7 (.lst (.cons (.tup (.cons (.bin .add (.slot 6) (.sub (.subS 4 (.bin .add (.slot 5) (.const (.int 1)))) (.const (.int 0)))) (.cons (.bin .add (.slot 6) (.sub (.subS 4 (.bin .add (.slot 5) (.const (.int 1)))) (.const (.int 1)))) .nil))) .nil))) (.cons (.ite (.cmp .le (.bin .add (.slot 5) (.slot 3)) (.lenS 1)) (.cons (.set 9 (.bin .add (.bi .min (.cons c_law_least_2_1 .nil)) (.sub (.subS 4 (.bin .add (.slot 5) (.slot 3))) (.const (.int 0))))) (.cons (.app 7 (.tup (.cons (.slot 9) (.cons (.slot 9) .nil)))) .nil)) .nil) (.cons (.put 4 (.slot 5) (.tup (.cons (.bi .min (.cons c_law_least_2_2 .nil)) (.cons (.bi .min (.cons c_law_least_2_3 .nil)) .nil)))) .nil)))
def b_law_least_2 : Ss := .cons (.set 2 c_law_least_2_0) (.cons (.set 3 (.call 48 (.cons (.slot 0) .nil))) (.cons .stuck (.cons (.for [5] true (.range3 (.bin .sub (.lenS 1) (.const (.int 1))) (.neg (.const (.int 1))) (.neg (.const (.int 1)))) l_law_least_2_0) (.cons (.ret (.ite (.cmp .lt (.sub (.subS 4 (.const (.int 0))) (.const (.int 1))) (.const (.int 9999))) (.sub (.subS 4 (.const (.int 0))) (.const (.int 1))) (.const .non))) .nil))))
def d_law_least_2 : Def := ⟨12, 2, b_law_least_2⟩
abbrev f_law_least_2 : Nat := 68
def l_law_k05_0 : Ss := .cons (.set 9 (.call 37 (.cons (.slot 0) (.cons (.slot 1) (.cons (.lenS 4) .nil))))) (.cons (.set 4 (.bin .add (.bin .add (.cut (.slot 4) (.const .non) (.slot 9)) (.sub (.const (.str [49, 48])) (.bi .int (.cons (.subS 4 (.slot 9)) .nil)))) (.cut (.slot 4) (.bin .add (.slot 9) (.const (.int 1))) (.const .non)))) .nil)
def c_law_k05_0 : E := .comp (.call 38 (.cons (.slot 0) (.cons (.slot 1) (.cons (.const (.str [48, 49])) .nil)))) [5] true (.range1 (.bin .add (.const (.int 1)) (.call 37 (.cons (.slot 0) (.cons (.slot 1) (.cons (.const (.int 30)) .nil)))))) .none [5]
def c_law_k05_1 : E := .comp (.call 66 (.cons (.slot 12) (.cons (.slot 2) (.cons (.slot 6) .nil)))) [12] true (.range1 (.const (.int 2))) .none [12]
def b_law_k05 : Ss := .cons (.shr 1) (.cons (.set 2 (.call 45 (.cons (.slot 0) (.cons (.slot 1) .nil)))) (.cons (.set 3 (.call 37 (.cons (.slot 0) (.cons (.slot 1) (.cons (.const (.int 6)) .nil))))) (.cons (.unp [7, 8] (.call 49 (.cons (.slot 0) (.cons (.slot 1) (.cons (.slot 2) (.cons (.call 38 (.cons (.slot 0) (.cons (.slot 1) (.cons (.lst (.cons (.const (.int 60)) (.cons (.const (.int 80)) (.cons (.const (.int 120)) .nil)))) .nil)))) .nil)))))) (.cons (.set 4 (.call 50 (.cons (.slot 2) (.cons (.slot 7) (.cons (.slot 8) .nil))))) (.cons (.for [5] true (.range1 (.slot 3)) l_law_k05_0) (.cons (.ite (.cmp .gt (.or (.call 66 (.cons (.const (.int 0)) (.cons (.slot 2) (.cons (.slot 4) .nil)))) (.const (.int 0))) (.slot 3)) (.cons (.ret (.const (.bl false))) .nil) .nil) (.cons (.ite (.cmp .eq (.call 37 (.cons (.slot 0) (.cons (.slot 1) (.cons (.const (.int 3)) .nil)))) (.const (.int 0))) (.cons (.set 4 (.join [] c_law_k05_0)) .nil) .nil) (.cons (.par [10, 11] (.cons (.call 66 (.cons (.const (.int 0)) (.cons (.slot 2) (.cons (.slot 4) .nil)))) (.cons (.call 66 (.cons (.const (.int 1)) (.cons (.slot 2) (.cons (.slot 4) .nil)))) .nil))) (.cons (.ite (.or (.cmp .ne (.cmp .isN (.slot 10) (.const .non)) (.cmp .lt (.lenS 4) (.call 48 (.cons (.slot 2) .nil)))) (.cmp .ne (.cmp .isN (.slot 11) (.const .non)) (.cmp .isN (.slot 10) (.const .non)))) (.cons (.ret (.const (.bl false))) .nil) .nil) (.cons (.ite (.cmp .notN (.slot 10) (.const .non)) (.cons (.ite (.or (.cmp .ne (.lenS 11) (.lenS 4)) (.or (.cmp .ne (.call 67 (.cons (.slot 11) (.cons (.slot 4) .nil))) (.slot 10)) (.cmp .isN (.call 61 (.cons (.slot 2) (.cons (.slot 11) .nil))) (.const .non)))) (.cons (.ret (.const (.bl false))) .nil) .nil) (.cons (.ite (.cmp .ne (.cmp .eq (.slot 10) (.const (.int 0))) (.cmp .notN (.call 28 (.cons (.slot 2) (.cons (.slot 4) .nil))) (.const .non))) (.cons (.ret (.const (.bl false))) .nil) .nil) .nil)) .nil) (.cons (.ite (.and (.cmp .lt (.lenS 4) (.const (.int 70))) (.cmp .ne (.slot 10) (.call 68 (.cons (.slot 2) (.cons (.slot 4) .nil))))) (.cons (.ret (.const (.bl false))) .nil) .nil) (.cons (.set 6 (.call 38 (.cons (.slot 0) (.cons (.slot 1) (.cons (.lst (.cons (.const .non) (.cons (.const (.str [])) (.cons (.bin .mul (.const (.str [48])) (.const (.int 201))) (.cons (.const (.str [48, 49, 50])) (.cons (.const (.int 1)) .nil)))))) .nil))))) (.cons (.ret (.cmp .eq c_law_k05_1 (.bin .mul (.lst (.cons (.tup (.cons (.const (.str [114, 101, 102, 117, 115, 101, 100])) (.cons (.const (.int 1)) .nil))) .nil)) (.const (.int 2))))) .nil)))))))))))))
def d_law_k05 : Def := ⟨13, 1, b_law_k05⟩
abbrev f_law_k05 : Nat := 69
def l_likeliest_0 : Ss := .cons (.set 4 (.call 22 (.cons (.slot 2) (.cons (.slot 0) .nil)))) (.cons (.ite (.cmp .notN (.slot 4) (.const .non)) (.cons (.put 1 (.slot 2) (.slot 4)) .nil) .nil) .nil)
def c_likeliest_0 : E := .comp (.subS 1 (.slot 2)) [2] true (.val (.slot 1)) .none [2]
def c_likeliest_1 : E := .comp (.slot 2) [2] true (.val (.slot 1)) (.some (.cmp .eq (.subS 1 (.slot 2)) (.slot 3))) [2]
def b_likeliest : Ss := .cons (.expr (.call 16 (.cons (.slot 0) .nil))) (.cons .stuck (.cons (.for [2] true (.val (.call 53 .nil)) l_likeliest_0) (.cons (.set 3 (.bi .min (.cons (.bin .add (.lst (.cons (.glob (.v (.int 100000))) .nil)) c_likeliest_0) .nil))) (.cons (.ret c_likeliest_1) .nil))))
def d_likeliest : Def := ⟨5, 1, b_likeliest⟩
abbrev f_likeliest : Nat := 70
def b_law_ask_5 : Ss := .cons (.tryRet (.cons (.ret (.call 70 (.cons (.slot 0) .nil))) .nil) [0] (.which 1 40)) .nil
def d_law_ask_5 : Def := ⟨2, 1, b_law_ask_5⟩
abbrev f_law_ask_5 : Nat := 71
def l_law_k06_0 : Ss := .cons (.set 8 (.call 37 (.cons (.slot 0) (.cons (.slot 1) (.cons (.lenS 3) .nil))))) (.cons (.set 3 (.bin .add (.bin .add (.cut (.slot 3) (.const .non) (.slot 8)) (.sub (.const (.str [49, 48])) (.bi .int (.cons (.subS 3 (.slot 8)) .nil)))) (.cut (.slot 3) (.bin .add (.slot 8) (.const (.int 1))) (.const .non)))) .nil)
def c_law_k06_0 : E := .comp (.tup (.cons (.slot 9) (.cons (.call 23 (.cons (.slot 9) (.cons (.slot 3) .nil))) .nil))) [9] true (.val (.call 56 .nil)) .none [9]
def c_law_k06_1 : E := .comp (.slot 10) [9, 10] false (.val (.slot 5)) (.some (.cmp .notN (.slot 10) (.const .non))) [9, 10]
def c_law_k06_2 : E := .comp (.slot 9) [9, 10] false (.val (.slot 5)) (.some (.cmp .eq (.slot 10) (.slot 6))) [9, 10]
def c_law_k06_3 : E := .comp (.slot 9) [9, 10] false (.val (.slot 5)) (.some (.cmp .eq (.slot 10) (.const (.int 0)))) [9, 10]
def b_law_k06 : Ss := .cons (.shr 1) (.cons (.set 2 (.call 45 (.cons (.slot 0) (.cons (.slot 1) .nil)))) (.cons (.set 2 (.bin .add (.tup (.cons (.bin .add (.const (.int 1)) (.bin .mod (.subS 2 (.const (.int 0))) (.const (.int 3)))) .nil)) (.cut (.slot 2) (.const (.int 1)) (.const .non)))) (.cons (.set 3 (.bin .add (.call 47 (.cons (.slot 2) (.cons (.call 37 (.cons (.slot 0) (.cons (.slot 1) (.cons (.const (.int 16)) .nil)))) .nil))) (.bin .mul (.const (.str [49])) (.call 37 (.cons (.slot 0) (.cons (.slot 1) (.cons (.const (.int 5)) .nil))))))) (.cons (.for [4] true (.range1 (.call 37 (.cons (.slot 0) (.cons (.slot 1) (.cons (.const (.int 3)) .nil))))) l_law_k06_0) (.cons (.set 5 c_law_k06_0) (.cons (.set 6 (.bi .min (.cons c_law_k06_1 .nil))) (.cons (.ite (.cmp .ne (.call 71 (.cons (.slot 3) .nil)) c_law_k06_2) (.cons (.ret (.const (.bl false))) .nil) .nil) (.cons (.ite (.cmp .ne (.call 54 (.cons (.slot 3) .nil)) c_law_k06_3) (.cons (.ret (.const (.bl false))) .nil) .nil) (.cons (.ite (.or (.cmp .ne (.call 71 (.cons (.bin .mul (.const (.str [49])) (.bin .add (.const (.int 1)) (.call 37 (.cons (.slot 0) (.cons (.slot 1) (.cons (.const (.int 5)) .nil)))))) .nil)) (.lst .nil)) (.cmp .eq (.call 71 (.cons (.const (.str [48, 49, 49, 49, 49, 48])) .nil)) (.lst .nil))) (.cons (.ret (.const (.bl false))) .nil) .nil) (.cons (.set 7 (.call 38 (.cons (.slot 0) (.cons (.slot 1) (.cons (.lst (.cons (.const .non) (.cons (.const (.str [])) (.cons (.bin .mul (.const (.str [48])) (.const (.int 201))) (.cons (.const (.str [48, 49, 50])) (.cons (.const (.int 1)) .nil)))))) .nil))))) (.cons (.ret (.cmp .eq (.call 71 (.cons (.slot 7) .nil)) (.tup (.cons (.const (.str [114, 101, 102, 117, 115, 101, 100])) (.cons (.const (.int 1)) .nil))))) .nil)))))))))))
def d_law_k06 : Def := ⟨11, 1, b_law_k06⟩
abbrev f_law_k06 : Nat := 72
def c_need_words_0 : E := .comp (.call 1 (.cons (.slot 2) (.cons (.const (.int 0)) (.cons (.call 5 (.cons (.slot 0) .nil)) .nil)))) [2] true (.val (.slot 1)) .none [2]
def b_need_words : Ss := .cons (.ite (.not (.call 1 (.cons (.slot 0) (.cons (.glob (.v (.int 4))) (.cons (.glob (.v (.int 6))) .nil))))) (.cons (.raise 1) .nil) .nil) (.cons (.ite (.or (.not (.isin (.slot 1) [.tuple])) (.not (.cmp2 .le .le (.const (.int 1)) (.lenS 1) (.glob (.v (.int 40)))))) (.cons (.raise 4) .nil) .nil) (.cons (.ite (.not (.bi .all (.cons c_need_words_0 .nil))) (.cons (.raise 4) .nil) .nil) .nil))
def d_need_words : Def := ⟨3, 2, b_need_words⟩
abbrev f_need_words : Nat := 73
def b_is_layer : Ss := .cons (.ite (.or (.not (.isin (.slot 1) [.tuple])) (.or (.cmp .eq (.slot 1) (.tup .nil)) (.not (.isin (.subS 1 (.const (.int 0))) [.str])))) (.cons (.ret (.const (.bl false))) .nil) .nil) (.cons (.ite (.cmp .eq (.subS 1 (.const (.int 0))) (.const (.str [102, 105, 120, 101, 100]))) (.cons (.ret (.and (.cmp .eq (.lenS 1) (.const (.int 2))) (.call 1 (.cons (.subS 1 (.const (.int 1))) (.cons (.const (.int 1)) (.cons (.glob (.v (.int 9))) .nil)))))) .nil) .nil) (.cons (.ite (.cmp .eq (.subS 1 (.const (.int 0))) (.const (.str [109, 97, 114, 107]))) (.cons (.ret (.and (.cmp .eq (.lenS 1) (.const (.int 2))) (.call 1 (.cons (.subS 1 (.const (.int 1))) (.cons (.const (.int 0)) (.cons (.call 5 (.cons (.slot 0) .nil)) .nil)))))) .nil) .nil) (.cons (.ret (.and (.cmp .eq (.subS 1 (.const (.int 0))) (.const (.str [108, 101, 110, 103, 116, 104]))) (.cmp .eq (.lenS 1) (.const (.int 1))))) .nil)))
def d_is_layer : Def := ⟨2, 2, b_is_layer⟩
abbrev f_is_layer : Nat := 74
def b_first_of : Ss := .cons (.ite (.cmp .eq (.subS 0 (.const (.int 0))) (.const (.str [109, 97, 114, 107]))) (.cons (.ite (.inS true (.subS 0 (.const (.int 1))) 1) (.cons (.ret (.const .non)) .nil) .nil) (.cons (.set 4 (.meth .index (.slot 1) (.cons (.subS 0 (.const (.int 1))) .nil))) (.cons (.ret (.tup (.cons (.cut (.slot 1) (.const .non) (.slot 4)) (.cons (.cut (.slot 1) (.bin .add (.slot 4) (.const (.int 1))) (.const .non)) .nil)))) .nil))) .nil) (.cons (.set 2 (.ite (.cmp .eq (.subS 0 (.const (.int 0))) (.const (.str [102, 105, 120, 101, 100]))) (.subS 0 (.const (.int 1))) (.subS 1 (.const (.int 0))))) (.cons (.set 3 (.bi .int (.cons (.cmp .eq (.subS 0 (.const (.int 0))) (.const (.str [108, 101, 110, 103, 116, 104]))) .nil))) (.cons (.ite (.cmp .lt (.lenS 1) (.bin .add (.slot 3) (.slot 2))) (.cons (.ret (.const .non)) .nil) .nil) (.cons (.ret (.tup (.cons (.cut (.slot 1) (.slot 3) (.bin .add (.slot 3) (.slot 2))) (.cons (.cut (.slot 1) (.bin .add (.slot 3) (.slot 2)) (.const .non)) .nil)))) .nil))))
def d_first_of : Def := ⟨5, 2, b_first_of⟩
abbrev f_first_of : Nat := 75
def l_xor_of_0 : Ss := .cons (.set 2 (.bin .add (.slot 2) (.bin .mul (.slot 3) (.bi .int (.cons (.cmp .ne (.bin .mod (.slot 0) (.const (.int 2))) (.bin .mod (.slot 1) (.const (.int 2)))) .nil))))) (.cons (.par [0, 1, 3] (.cons (.bin .fdiv (.slot 0) (.const (.int 2))) (.cons (.bin .fdiv (.slot 1) (.const (.int 2))) (.cons (.bin .mul (.const (.int 2)) (.slot 3)) .nil)))) .nil)
def b_xor_of : Ss := .cons (.set 2 (.const (.int 0))) (.cons (.set 3 (.const (.int 1))) (.cons (.while (.or (.cmp .gt (.slot 0) (.const (.int 0))) (.cmp .gt (.slot 1) (.const (.int 0)))) l_xor_of_0) (.cons (.retS 2) .nil)))
def d_xor_of : Def := ⟨4, 2, b_xor_of⟩
abbrev f_xor_of : Nat := 76
def l_checked_0 : Ss := .cons (.set 3 (.ite (.cmp .eq (.slot 2) (.const (.str [115, 117, 109]))) (.bin .mod (.bin .add (.slot 3) (.slot 4)) (.bin .add (.call 5 (.cons (.slot 0) .nil)) (.const (.int 1)))) (.call 76 (.cons (.slot 3) (.cons (.slot 4) .nil))))) .nil
def b_checked : Ss := .cons (.ite (.cmp .eq (.slot 2) (.const (.str [110, 111, 110, 101]))) (.cons (.ret (.ite (.cmp .ne (.slot 1) (.tup .nil)) (.slot 1) (.const .non))) .nil) .nil) (.cons (.ite (.cmp .lt (.lenS 1) (.const (.int 2))) (.cons (.ret (.const .non)) .nil) .nil) (.cons (.set 3 (.const (.int 0))) (.cons (.for [4] true (.val (.cut (.slot 1) (.const .non) (.neg (.const (.int 1))))) l_checked_0) (.cons (.ret (.ite (.cmp .eq (.slot 3) (.subS 1 (.neg (.const (.int 1))))) (.cut (.slot 1) (.const .non) (.neg (.const (.int 1)))) (.const .non))) .nil))))
def d_checked : Def := ⟨5, 3, b_checked⟩
abbrev f_checked : Nat := 77
def l_packets_in_0 : Ss := .cons (.set 5 (.call 75 (.cons (.slot 2) (.cons (.slot 1) .nil)))) (.cons (.ite (.cmp .isN (.slot 5) (.const .non)) (.cons (.ret (.const .non)) .nil) .nil) (.cons (.set 6 (.call 77 (.cons (.slot 0) (.cons (.subS 5 (.const (.int 0))) (.cons (.slot 3) .nil))))) (.cons (.ite (.cmp .isN (.slot 6) (.const .non)) (.cons (.ret (.const .non)) .nil) .nil) (.cons (.app 4 (.slot 6)) (.cons (.set 1 (.subS 5 (.const (.int 1)))) .nil)))))
def b_packets_in : Ss := .cons (.set 4 (.lst .nil)) (.cons (.while (.cmp .ne (.slot 1) (.tup .nil)) l_packets_in_0) (.cons (.retS 4) .nil))
def d_packets_in : Def := ⟨7, 4, b_packets_in⟩
abbrev f_packets_in : Nat := 78
def b_parted : Ss := .cons (.expr (.call 73 (.cons (.slot 0) (.cons (.slot 1) .nil)))) (.cons (.ite (.or (.not (.call 74 (.cons (.slot 0) (.cons (.slot 2) .nil)))) (.not (.call 2 (.cons (.slot 3) (.cons (.glob (.v (.tup [.str [110, 111, 110, 101], .str [115, 117, 109], .str [120, 111, 114]]))) .nil))))) (.cons (.raise 7) .nil) .nil) (.cons (.ret (.call 78 (.cons (.slot 0) (.cons (.slot 1) (.cons (.slot 2) (.cons (.slot 3) .nil)))))) .nil))
def d_parted : Def := ⟨4, 4, b_parted⟩
abbrev f_parted : Nat := 79
def c_layers_for_0 : E := .comp (.tup (.cons (.const (.str [102, 105, 120, 101, 100])) (.cons (.slot 5) .nil))) [5] true (.range2 (.const (.int 1)) (.bin .add (.glob (.v (.int 9))) (.const (.int 1)))) .none [5]
def c_layers_for_1 : E := .comp (.tup (.cons (.const (.str [109, 97, 114, 107])) (.cons (.slot 6) .nil))) [6] true (.range1 (.bin .add (.call 5 (.cons (.slot 0) .nil)) (.const (.int 1)))) .none [6]
def c_layers_for_2 : E := .comp (.tup (.cons (.slot 4) (.cons (.slot 7) .nil))) [7] true (.val (.glob (.v (.tup [.str [110, 111, 110, 101], .str [115, 117, 109], .str [120, 111, 114]])))) (.some (.cmp .notN (.call 78 (.cons (.slot 0) (.cons (.slot 1) (.cons (.slot 4) (.cons (.slot 7) .nil))))) (.const .non))) [7]
def l_layers_for_0 : Ss := .cons (.ext 3 c_layers_for_2) .nil
def b_layers_for : Ss := .cons (.expr (.call 73 (.cons (.slot 0) (.cons (.slot 1) .nil)))) (.cons (.set 2 (.bin .add c_layers_for_0 (.lst (.cons (.tup (.cons (.const (.str [108, 101, 110, 103, 116, 104])) .nil)) .nil)))) (.cons (.ext 2 c_layers_for_1) (.cons (.set 3 (.lst .nil)) (.cons (.for [4] true (.val (.slot 2)) l_layers_for_0) (.cons (.ret (.bi .sorted (.cons (.slot 3) .nil))) .nil)))))
def d_layers_for : Def := ⟨8, 2, b_layers_for⟩
abbrev f_layers_for : Nat := 80
def b_law_ask_6 : Ss := .cons (.tryRet (.cons (.ret (.ite (.cmp .eq (.slot 0) (.const (.int 0))) (.call 79 (.cons (.slot 1) (.cons (.slot 2) (.cons (.slot 3) (.cons (.slot 4) .nil))))) (.call 80 (.cons (.slot 1) (.cons (.slot 2) .nil))))) .nil) [0] (.which 5 40)) .nil
def d_law_ask_6 : Def := ⟨6, 5, b_law_ask_6⟩
abbrev f_law_ask_6 : Nat := 81
def c_law_together_0 : E := .comp (.slot 5) [5] true (.val (.tup (.cons (.const (.int 1)) (.cons (.const (.int 2)) (.cons (.const (.int 4)) (.cons (.const (.int 8)) (.cons (.const (.int 16)) (.cons (.const (.int 32)) .nil)))))))) (.some (.cmp .ne (.bin .mod (.bin .fdiv (.slot 3) (.slot 5)) (.const (.int 2))) (.bin .mod (.bin .fdiv (.slot 4) (.slot 5)) (.const (.int 2))))) [5]
def l_law_together_0 : Ss := .cons (.ite (.cmp .eq (.slot 2) (.const (.str [115, 117, 109]))) (.cons (.set 3 (.bin .mod (.bin .add (.slot 3) (.slot 4)) (.sub (.lst (.cons (.const (.int 16)) (.cons (.const (.int 32)) (.cons (.const (.int 64)) .nil)))) (.bin .sub (.slot 0) (.const (.int 4)))))) .nil) (.cons (.set 3 (.bi .sum (.cons c_law_together_0 .nil))) .nil)) .nil
def b_law_together : Ss := .cons (.set 3 (.const (.int 0))) (.cons (.for [4] true (.val (.slot 1)) l_law_together_0) (.cons (.retS 3) .nil))
def d_law_together : Def := ⟨6, 3, b_law_together⟩
abbrev f_law_together : Nat := 82
def l_law_parted_0 : Ss := .cons .stuck (.cons (.ite (.cmp .eq (.subS 2 (.const (.int 0))) (.const (.str [109, 97, 114, 107]))) (.cons (.ite (.inS true (.subS 2 (.const (.int 1))) 4) (.cons (.ret (.const .non)) .nil) .nil) (.cons (.set 6 (.bin .add (.meth .index (.slot 4) (.cons (.subS 2 (.const (.int 1))) .nil)) (.const (.int 1)))) .nil)) .nil) (.cons (.par [7, 4, 8] (.cons (.cut (.slot 4) (.const .non) (.slot 6)) (.cons (.cut (.slot 4) (.slot 6) (.const .non)) (.cons (.cmp .lt (.lenS 4) (.slot 6)) .nil)))) (.cons (.ite (.cmp .ne (.subS 2 (.const (.int 0))) (.const (.str [102, 105, 120, 101, 100]))) (.cons (.set 7 (.ite (.cmp .eq (.subS 2 (.const (.int 0))) (.const (.str [108, 101, 110, 103, 116, 104]))) (.cut (.slot 7) (.const (.int 1)) (.const .non)) (.cut (.slot 7) (.const .non) (.neg (.const (.int 1)))))) .nil) .nil) (.cons (.ite (.and (.cmp .ne (.slot 3) (.const (.str [110, 111, 110, 101]))) (.cmpS .ne 7 (.lst .nil))) (.cons (.ite (.cmp .ne (.call 82 (.cons (.slot 0) (.cons (.cut (.slot 7) (.const .non) (.neg (.const (.int 1)))) (.cons (.slot 3) .nil)))) (.subS 7 (.neg (.const (.int 1))))) (.cons (.ret (.const .non)) .nil) .nil) (.cons (.set 7 (.cut (.slot 7) (.const .non) (.neg (.const (.int 1))))) .nil)) .nil) (.cons (.ite (.or (.slot 8) (.cmpS .eq 7 (.lst .nil))) (.cons (.ret (.const .non)) .nil) .nil) (.cons (.app 5 (.bi .tuple (.cons (.slot 7) .nil))) .nil))))))
def b_law_parted : Ss := .cons (.set 4 (.bi .list (.cons (.slot 1) .nil))) (.cons (.set 5 (.lst .nil)) (.cons (.while (.cmpS .ne 4 (.lst .nil)) l_law_parted_0) (.cons (.retS 5) .nil)))
def d_law_parted : Def := ⟨9, 4, b_law_parted⟩
abbrev f_law_parted : Nat := 83
def c_law_laid_0 : E := .comp (.call 37 (.cons (.slot 0) (.cons (.slot 1) (.cons (.call 38 (.cons (.slot 0) (.cons (.slot 1) (.cons (.lst (.cons (.const (.int 3)) (.cons (.slot 5) .nil))) .nil)))) .nil)))) [11] true (.range1 (.slot 9)) .none [11]
def l_law_laid_0 : Ss := .cons (.set 9 (.bin .add (.const (.int 1)) (.call 37 (.cons (.slot 0) (.cons (.slot 1) (.cons (.const (.int 5)) .nil)))))) (.cons (.ite (.cmp .eq (.subS 3 (.const (.int 0))) (.const (.str [102, 105, 120, 101, 100]))) (.cons (.set 9 (.bi .max (.cons (.const (.int 1)) (.cons (.bin .sub (.subS 3 (.const (.int 1))) (.bi .int (.cons (.cmp .ne (.slot 4) (.const (.str [110, 111, 110, 101]))) .nil))) .nil)))) .nil) .nil) (.cons (.set 10 c_law_laid_0) (.cons (.app 7 (.bi .tuple (.cons (.slot 10) .nil))) (.cons (.ite (.cmp .ne (.slot 4) (.const (.str [110, 111, 110, 101]))) (.cons (.set 10 (.bin .add (.slot 10) (.lst (.cons (.call 82 (.cons (.slot 2) (.cons (.slot 10) (.cons (.slot 4) .nil)))) .nil)))) .nil) .nil) (.cons (.set 10 (.ite (.cmp .eq (.subS 3 (.const (.int 0))) (.const (.str [108, 101, 110, 103, 116, 104]))) (.bin .add (.lst (.cons (.lenS 10) .nil)) (.slot 10)) (.slot 10))) (.cons (.ext 8 (.bin .add (.slot 10) (.bin .mul (.lst (.cons (.subS 3 (.neg (.const (.int 1)))) .nil)) (.bi .int (.cons (.cmp .eq (.subS 3 (.const (.int 0))) (.const (.str [109, 97, 114, 107]))) .nil))))) .nil))))))
def b_law_laid : Ss := .cons (.set 5 (.sub (.lst (.cons (.const (.int 16)) (.cons (.const (.int 32)) (.cons (.const (.int 64)) .nil)))) (.bin .sub (.slot 2) (.const (.int 4))))) (.cons (.par [7, 8] (.cons (.lst .nil) (.cons (.lst .nil) .nil))) (.cons (.for [6] true (.range1 (.bin .add (.const (.int 1)) (.call 37 (.cons (.slot 0) (.cons (.slot 1) (.cons (.const (.int 4)) .nil)))))) l_law_laid_0) (.cons (.ret (.tup (.cons (.slot 7) (.cons (.bi .tuple (.cons (.slot 8) .nil)) .nil)))) .nil)))
def d_law_laid : Def := ⟨12, 5, b_law_laid⟩
abbrev f_law_laid : Nat := 84
def c_law_refused_0 : E := .comp (.call 81 (.cons (.slot 8) (.cons (.slot 6) (.cons (.const .non) (.cons (.const .non) (.cons (.const .non) .nil)))))) [8] true (.range1 (.const (.int 2))) .none [8]
def c_law_refused_1 : E := .comp (.call 81 (.cons (.slot 8) (.cons (.slot 2) (.cons (.slot 6) (.cons (.const .non) (.cons (.const .non) .nil)))))) [8] true (.range1 (.const (.int 2))) .none [8]
def b_law_refused : Ss := .cons (.set 5 (.sub (.lst (.cons (.const (.int 16)) (.cons (.const (.int 32)) (.cons (.const (.int 64)) .nil)))) (.bin .sub (.slot 2) (.const (.int 4))))) (.cons (.set 6 (.call 38 (.cons (.slot 0) (.cons (.slot 1) (.cons (.lst (.cons (.const (.int 3)) (.cons (.const (.int 7)) (.cons (.const .non) (.cons (.const (.bl true)) (.cons (.const (.str [52])) .nil)))))) .nil))))) (.cons (.ite (.cmp .ne c_law_refused_0 (.bin .mul (.lst (.cons (.tup (.cons (.const (.str [114, 101, 102, 117, 115, 101, 100])) (.cons (.const (.int 0)) .nil))) .nil)) (.const (.int 2)))) (.cons (.ret (.const (.bl false))) .nil) .nil) (.cons (.set 6 (.call 38 (.cons (.slot 0) (.cons (.slot 1) (.cons (.lst (.cons (.const .non) (.cons (.tup .nil) (.cons (.bi .list (.cons (.slot 3) .nil)) (.cons (.bin .add (.slot 3) (.tup (.cons (.slot 5) .nil))) (.cons (.bin .add (.slot 3) (.tup (.cons (.neg (.const (.int 1))) .nil))) (.cons (.bin .mul (.tup (.cons (.const (.int 0)) .nil)) (.const (.int 41))) (.cons (.tup (.cons (.const (.bl true)) .nil)) .nil)))))))) .nil))))) (.cons (.ite (.cmp .ne c_law_refused_1 (.bin .mul (.lst (.cons (.tup (.cons (.const (.str [114, 101, 102, 117, 115, 101, 100])) (.cons (.const (.int 3)) .nil))) .nil)) (.const (.int 2)))) (.cons (.ret (.const (.bl false))) .nil) .nil) (.cons (.set 7 (.lst (.cons (.const .non) (.cons (.tup .nil) (.cons (.tup (.cons (.const (.str [102, 105, 120, 101, 100])) .nil)) (.cons (.tup (.cons (.const (.str [102, 105, 120, 101, 100])) (.cons (.const (.int 0)) .nil))) (.cons (.tup (.cons (.const (.str [102, 105, 120, 101, 100])) (.cons (.const (.int 10)) .nil))) (.cons (.tup (.cons (.const (.str [109, 97, 114, 107])) (.cons (.slot 5) .nil))) (.cons (.tup (.cons (.const (.str [109, 97, 114, 107])) .nil)) (.cons (.tup (.cons (.const (.str [108, 101, 110, 103, 116, 104])) (.cons (.const (.int 1)) .nil))) (.cons (.lst (.cons (.const (.str [108, 101, 110, 103, 116, 104])) .nil)) .nil))))))))))) (.cons (.set 6 (.call 38 (.cons (.slot 0) (.cons (.slot 1) (.cons (.slot 7) .nil))))) (.cons (.ite (.cmp .ne (.call 81 (.cons (.const (.int 0)) (.cons (.slot 2) (.cons (.slot 3) (.cons (.slot 6) (.cons (.const (.str [110, 111, 110, 101])) .nil)))))) (.tup (.cons (.const (.str [114, 101, 102, 117, 115, 101, 100])) (.cons (.const (.int 6)) .nil)))) (.cons (.ret (.const (.bl false))) .nil) .nil) (.cons (.ret (.cmp .eq (.call 81 (.cons (.const (.int 0)) (.cons (.slot 2) (.cons (.slot 3) (.cons (.slot 4) (.cons (.call 38 (.cons (.slot 0) (.cons (.slot 1) (.cons (.lst (.cons (.const .non) (.cons (.const (.str [])) (.cons (.const (.str [99, 114, 99])) (.cons (.const (.int 0)) .nil))))) .nil)))) .nil)))))) (.tup (.cons (.const (.str [114, 101, 102, 117, 115, 101, 100])) (.cons (.const (.int 6)) .nil))))) .nil))))))))
def d_law_refused : Def := ⟨9, 5, b_law_refused⟩
abbrev f_law_refused : Nat := 85
def c_law_k07_0 : E := .comp (.tup (.cons (.const (.str [102, 105, 120, 101, 100])) (.cons (.slot 17) .nil))) [17] true (.range2 (.const (.int 1)) (.const (.int 10))) .none [17]
def c_law_k07_1 : E := .comp (.tup (.cons (.const (.str [109, 97, 114, 107])) (.cons (.slot 16) .nil))) [16] true (.range1 (.slot 3)) .none [16]
def l_law_k07_0 : Ss := .cons (.set 15 (.call 83 (.cons (.slot 2) (.cons (.slot 12) (.cons (.slot 10) (.cons (.slot 14) .nil)))))) (.cons (.ext 9 (.bin .mul (.lst (.cons (.tup (.cons (.slot 10) (.cons (.slot 14) .nil))) .nil)) (.bi .int (.cons (.cmp .notN (.slot 15) (.const .non)) .nil)))) (.cons (.ite (.and (.cmp .eq (.subS 10 (.const (.int 0))) (.subS 5 (.const (.int 0)))) (.cmp .ne (.call 81 (.cons (.const (.int 0)) (.cons (.slot 2) (.cons (.slot 12) (.cons (.slot 10) (.cons (.slot 14) .nil)))))) (.slot 15))) (.cons (.ret (.const (.bl false))) .nil) .nil) .nil))
def l_law_k07_1 : Ss := .cons (.for [14] true (.val (.tup (.cons (.const (.str [110, 111, 110, 101])) (.cons (.const (.str [115, 117, 109])) (.cons (.const (.str [120, 111, 114])) .nil))))) l_law_k07_0) .nil
def b_law_k07 : Ss := .cons (.shr 1) (.cons (.set 2 (.bin .add (.const (.int 4)) (.call 37 (.cons (.slot 0) (.cons (.slot 1) (.cons (.const (.int 3)) .nil)))))) (.cons (.set 3 (.sub (.lst (.cons (.const (.int 16)) (.cons (.const (.int 32)) (.cons (.const (.int 64)) .nil)))) (.bin .sub (.slot 2) (.const (.int 4))))) (.cons (.set 4 (.tup (.cons (.const (.str [109, 97, 114, 107])) (.cons (.call 37 (.cons (.slot 0) (.cons (.slot 1) (.cons (.slot 3) .nil)))) .nil)))) (.cons (.set 5 (.call 38 (.cons (.slot 0) (.cons (.slot 1) (.cons (.lst (.cons (.tup (.cons (.const (.str [102, 105, 120, 101, 100])) (.cons (.bin .add (.const (.int 1)) (.call 37 (.cons (.slot 0) (.cons (.slot 1) (.cons (.const (.int 9)) .nil))))) .nil))) (.cons (.tup (.cons (.const (.str [108, 101, 110, 103, 116, 104])) .nil)) (.cons (.slot 4) .nil)))) .nil))))) (.cons (.set 6 (.call 38 (.cons (.slot 0) (.cons (.slot 1) (.cons (.lst (.cons (.const (.str [110, 111, 110, 101])) (.cons (.const (.str [115, 117, 109])) (.cons (.const (.str [120, 111, 114])) .nil)))) .nil))))) (.cons (.unp [11, 12] (.call 84 (.cons (.slot 0) (.cons (.slot 1) (.cons (.slot 2) (.cons (.slot 5) (.cons (.slot 6) .nil))))))) (.cons (.ite (.cmp .gt (.lenS 12) (.const (.int 40))) (.cons (.ret (.cmp .eq (.call 81 (.cons (.const (.int 0)) (.cons (.slot 2) (.cons (.slot 12) (.cons (.slot 5) (.cons (.slot 6) .nil)))))) (.tup (.cons (.const (.str [114, 101, 102, 117, 115, 101, 100])) (.cons (.const (.int 3)) .nil))))) .nil) .nil) (.cons (.set 7 (.or (.cmp .ne (.subS 5 (.const (.int 0))) (.const (.str [109, 97, 114, 107]))) (.cmp .eq (.meth .count (.slot 12) (.cons (.subS 5 (.const (.int 1))) .nil)) (.lenS 11)))) (.cons (.set 8 (.or (.cmp .ne (.subS 5 (.const (.int 0))) (.const (.str [102, 105, 120, 101, 100]))) (.or (.cmp .eq (.slot 6) (.const (.str [110, 111, 110, 101]))) (.cmp .gt (.subS 5 (.const (.int 1))) (.const (.int 1)))))) (.cons (.ite (.and (.slot 7) (.and (.slot 8) (.cmp .ne (.call 81 (.cons (.const (.int 0)) (.cons (.slot 2) (.cons (.slot 12) (.cons (.slot 5) (.cons (.slot 6) .nil)))))) (.slot 11)))) (.cons (.ret (.const (.bl false))) .nil) .nil) (.cons (.ite (.cmp .eq (.call 37 (.cons (.slot 0) (.cons (.slot 1) (.cons (.const (.int 3)) .nil)))) (.const (.int 0))) (.cons (.set 13 (.call 37 (.cons (.slot 0) (.cons (.slot 1) (.cons (.lenS 12) .nil))))) (.cons (.set 12 (.bin .add (.bin .add (.cut (.slot 12) (.const .non) (.slot 13)) (.tup (.cons (.call 37 (.cons (.slot 0) (.cons (.slot 1) (.cons (.slot 3) .nil)))) .nil))) (.cut (.slot 12) (.bin .add (.slot 13) (.const (.int 1))) (.const .non)))) .nil)) .nil) (.cons (.set 9 (.lst .nil)) (.cons (.for [10] true (.val (.bin .add (.bin .add c_law_k07_0 (.lst (.cons (.tup (.cons (.const (.str [108, 101, 110, 103, 116, 104])) .nil)) .nil))) c_law_k07_1)) l_law_k07_1) (.cons (.ite (.cmp .ne (.call 81 (.cons (.const (.int 1)) (.cons (.slot 2) (.cons (.slot 12) (.cons (.const .non) (.cons (.const .non) .nil)))))) (.bi .sorted (.cons (.slot 9) .nil))) (.cons (.ret (.const (.bl false))) .nil) .nil) (.cons (.ret (.call 85 (.cons (.slot 0) (.cons (.slot 1) (.cons (.slot 2) (.cons (.slot 12) (.cons (.slot 5) .nil))))))) .nil)))))))))))))))
def d_law_k07 : Def := ⟨18, 1, b_law_k07⟩
abbrev f_law_k07 : Nat := 86
def c_read_0 : E := .comp (.slot 2) [2] true (.val (.call 53 .nil)) (.some (.and (.isin (.slot 0) [.str]) (.cmp .eq (.call 33 (.cons (.slot 2) .nil)) (.slot 0)))) [2]
def b_read : Ss := .cons (.set 1 c_read_0) (.cons (.ite (.cmpS .eq 1 (.lst .nil)) (.cons (.raise 8) .nil) .nil) (.cons (.ret (.subS 1 (.const (.int 0)))) .nil))
def d_read : Def := ⟨3, 1, b_read⟩
abbrev f_read : Nat := 87
def b_law_ask_7 : Ss := .cons (.tryRet (.cons (.ret (.call 87 (.cons (.slot 0) .nil))) .nil) [0] (.which 1 40)) .nil
def d_law_ask_7 : Def := ⟨2, 1, b_law_ask_7⟩
abbrev f_law_ask_7 : Nat := 88
def b_law_text : Ss := .cons (.set 1 (.ite (.cmp .eq (.subS 0 (.const (.int 0))) (.const (.int 1))) (.const (.str [49, 32, 116, 105, 99, 107])) (.bin .add (.bi .str (.cons (.subS 0 (.const (.int 0))) .nil)) (.const (.str [32, 116, 105, 99, 107, 115]))))) (.cons (.set 2 (.ite (.cmp .eq (.subS 0 (.const (.int 4))) (.const (.int 1))) (.const (.str [49, 32, 115, 116, 111, 112])) (.const (.str [50, 32, 115, 116, 111, 112, 115])))) (.cons (.set 3 (.pick [[110, 111, 110, 101], [101, 118, 101, 110], [111, 100, 100]] (.cons (.const (.str [110, 111])) (.cons (.const (.str [101, 118, 101, 110])) (.cons (.const (.str [111, 100, 100])) .nil))) (.subS 0 (.const (.int 3))))) (.cons (.set 4 (.bin .add (.bin .add (.bin .add (.bi .str (.cons (.subS 0 (.const (.int 1))) .nil)) (.const (.str [32, 98, 105, 116, 115, 32]))) (.subS 0 (.const (.int 2)))) (.const (.str [32, 102, 105, 114, 115, 116, 44, 32])))) (.cons (.ret (.bin .add (.bin .add (.bin .add (.bin .add (.bin .add (.slot 1) (.const (.str [44, 32]))) (.slot 4)) (.slot 3)) (.const (.str [32, 112, 97, 114, 105, 116, 121, 44, 32]))) (.slot 2))) .nil))))
def d_law_text : Def := ⟨5, 1, b_law_text⟩
abbrev f_law_text : Nat := 89
def l_law_k08_0 : Ss := .cons (.set 10 (.call 37 (.cons (.slot 0) (.cons (.slot 1) (.cons (.bin .add (.lenS 4) (.const (.int 1))) .nil))))) (.cons (.set 11 (.call 38 (.cons (.slot 0) (.cons (.slot 1) (.cons (.slot 5) .nil))))) (.cons (.set 4 (.bin .add (.bin .add (.cut (.slot 4) (.const .non) (.slot 10)) (.slot 11)) (.cut (.slot 4) (.bin .add (.slot 10) (.call 37 (.cons (.slot 0) (.cons (.slot 1) (.cons (.const (.int 4)) .nil))))) (.const .non)))) .nil))
def b_law_k08 : Ss := .cons (.shr 1) (.cons (.set 2 (.call 37 (.cons (.slot 0) (.cons (.slot 1) (.cons (.const (.int 3)) .nil))))) (.cons (.set 3 (.call 39 (.cons (.slot 0) (.cons (.slot 1) .nil)))) (.cons (.set 4 (.call 34 (.cons (.slot 3) .nil))) (.cons (.ite (.or (.cmp .ne (.slot 4) (.call 89 (.cons (.slot 3) .nil))) (.cmp .ne (.call 88 (.cons (.slot 4) .nil)) (.slot 3))) (.cons (.ret (.const (.bl false))) .nil) .nil) (.cons (.set 5 (.lst (.cons (.const (.str [])) (.cons (.const (.str [32])) (.cons (.const (.str [44])) (.cons (.const (.str [115])) (.cons (.const (.str [49])) (.cons (.const (.str [50])) (.cons (.const (.str [52])) (.cons (.const (.str [110, 111])) (.cons (.const (.str [101, 118, 101, 110])) (.cons (.const (.str [111, 100, 100])) (.cons (.const (.str [108, 111, 119])) (.cons (.const (.str [104, 105, 103, 104])) (.cons (.const (.str [102, 105, 114, 115, 116])) (.cons (.const (.str [116, 105, 99, 107])) (.cons (.const (.str [48])) .nil))))))))))))))))) (.cons (.for [6] true (.range1 (.slot 2)) l_law_k08_0) (.cons (.set 7 (.call 88 (.cons (.slot 4) .nil))) (.cons (.ite (.or (.and (.cmp .ne (.slot 7) (.tup (.cons (.const (.str [114, 101, 102, 117, 115, 101, 100])) (.cons (.const (.int 7)) .nil)))) (.cmp .ne (.call 89 (.cons (.slot 7) .nil)) (.slot 4))) (.and (.cmp .eq (.slot 7) (.tup (.cons (.const (.str [114, 101, 102, 117, 115, 101, 100])) (.cons (.const (.int 7)) .nil)))) (.cmp .eq (.slot 2) (.const (.int 0))))) (.cons (.ret (.const (.bl false))) .nil) .nil) (.cons (.set 8 (.const (.str [51, 32, 116, 105, 99, 107, 115, 44, 32, 53, 32, 98, 105, 116, 115, 32, 108, 111, 119, 32, 102, 105, 114, 115, 116, 44, 32, 101, 118, 101, 110, 32, 112, 97, 114, 105, 116, 121, 44, 32, 50, 32, 115, 116, 111, 112, 115]))) (.cons (.ite (.cmp .ne (.call 88 (.cons (.slot 8) .nil)) (.tup (.cons (.const (.int 3)) (.cons (.const (.int 5)) (.cons (.const (.str [108, 111, 119])) (.cons (.const (.str [101, 118, 101, 110])) (.cons (.const (.int 2)) .nil))))))) (.cons (.ret (.const (.bl false))) .nil) .nil) (.cons (.set 9 (.lst (.cons (.const .non) (.cons (.const (.int 1)) (.cons (.const (.str [])) (.cons (.lst (.cons (.slot 8) .nil)) (.cons (.bin .add (.slot 8) (.const (.str [32]))) (.cons (.bin .add (.const (.str [32])) (.slot 8)) (.cons (.cut (.slot 8) (.const .non) (.neg (.const (.int 1)))) (.cons (.const (.str [49, 32, 116, 105, 99, 107, 115, 44, 32, 53, 32, 98, 105, 116, 115, 32, 108, 111, 119, 32, 102, 105, 114, 115, 116, 44, 32, 101, 118, 101, 110, 32, 112, 97, 114, 105, 116, 121, 44, 32, 50, 32, 115, 116, 111, 112, 115])) .nil)))))))))) (.cons (.ext 9 (.lst (.cons (.const (.str [51, 32, 116, 105, 99, 107, 115, 44, 32, 53, 32, 98, 105, 116, 115, 32, 108, 111, 119, 32, 102, 105, 114, 115, 116, 44, 32, 110, 111, 110, 101, 32, 112, 97, 114, 105, 116, 121, 44, 32, 50, 32, 115, 116, 111, 112, 115])) (.cons (.const (.str [51, 32, 116, 105, 99, 107, 115, 44, 32, 53, 32, 98, 105, 116, 115, 32, 108, 111, 119, 32, 102, 105, 114, 115, 116, 44, 32, 101, 118, 101, 110, 32, 112, 97, 114, 105, 116, 121, 44, 32, 49, 32, 115, 116, 111, 112, 115])) .nil)))) (.cons (.ext 9 (.lst (.cons (.const (.str [55, 32, 116, 105, 99, 107, 115, 44, 32, 53, 32, 98, 105, 116, 115, 32, 108, 111, 119, 32, 102, 105, 114, 115, 116, 44, 32, 101, 118, 101, 110, 32, 112, 97, 114, 105, 116, 121, 44, 32, 50, 32, 115, 116, 111, 112, 115])) (.cons (.const (.str [51, 32, 116, 105, 99, 107, 115, 44, 32, 51, 32, 98, 105, 116, 115, 32, 108, 111, 119, 32, 102, 105, 114, 115, 116, 44, 32, 101, 118, 101, 110, 32, 112, 97, 114, 105, 116, 121, 44, 32, 50, 32, 115, 116, 111, 112, 115])) .nil)))) (.cons (.ret (.cmp .eq (.call 88 (.cons (.call 38 (.cons (.slot 0) (.cons (.slot 1) (.cons (.slot 9) .nil)))) .nil)) (.tup (.cons (.const (.str [114, 101, 102, 117, 115, 101, 100])) (.cons (.const (.int 7)) .nil))))) .nil))))))))))))))
def d_law_k08 : Def := ⟨12, 1, b_law_k08⟩
abbrev f_law_k08 : Nat := 90
def b_law_do : Ss := .cons (.tryRet (.cons .stuck .nil) [0] (.which 2 40)) .nil
def d_law_do : Def := ⟨3, 2, b_law_do⟩
abbrev f_law_do : Nat := 91
def c_law_told_0 : E := .comp (.bin .add (.bin .add (.slot 10) (.bin .mul (.slot 17) (.slot 3))) (.bin .fdiv (.slot 3) (.const (.int 2)))) [17] true (.range1 (.slot 2)) .none [17]
def c_law_told_1 : E := .comp (.bi .int (.cons (.subS 1 (.slot 18)) .nil)) [18] true (.val (.slot 12)) .none [18]
def c_law_told_2 : E := .comp (.bi .str (.cons (.slot 20) .nil)) [20] true (.val (.slot 13)) .none [20]
def c_law_told_3 : E := .comp (.slot 19) [19] true (.range1 (.sub (.lst (.cons (.const (.int 16)) (.cons (.const (.int 32)) (.cons (.const (.int 64)) .nil)))) (.bin .sub (.slot 4) (.const (.int 4))))) (.some (.cmp .eq (.call 47 (.cons (.slot 16) (.cons (.slot 19) .nil))) (.slot 15))) [19]
def l_law_told_0 : Ss := .cons (.set 11 (.const .non)) (.cons (.ite (.cmp .eq (.subS 1 (.slot 10)) (.const (.str [48]))) (.cons (.set 12 c_law_told_0) (.cons (.ite (.cmp .ge (.subS 12 (.neg (.const (.int 1)))) (.lenS 1)) (.cons (.ret (.tup (.cons (.slot 8) (.cons (.slot 9) (.cons (.const (.bl false)) (.cons (.const .non) .nil)))))) .nil) .nil) (.cons (.set 13 c_law_told_1) (.cons (.par [15, 16] (.cons (.join [] c_law_told_2) (.cons (.bin .add (.tup (.cons (.const (.int 1)) .nil)) (.cut (.slot 0) (.const (.int 1)) (.const .non))) .nil))) (.cons (.set 14 c_law_told_3) (.cons (.ext 8 (.slot 14)) (.cons (.set 9 (.bin .add (.slot 9) (.bi .int (.cons (.cmpS .eq 14 (.lst .nil)) .nil)))) (.cons (.set 11 (.ite (.cmpS .ne 14 (.lst .nil)) (.tup (.cons (.const (.str [119, 111, 114, 100])) (.cons (.subS 14 (.const (.int 0))) .nil))) (.tup (.cons (.const (.str [102, 97, 117, 108, 116])) .nil)))) (.cons (.set 10 (.subS 12 (.neg (.const (.int 1))))) .nil))))))))) .nil) (.cons (.set 10 (.bin .add (.slot 10) (.const (.int 1)))) .nil))
def b_law_told : Ss := .cons (.unp [3, 4, 5, 6, 7] (.slot 0)) (.cons (.set 2 (.bin .add (.bin .add (.bin .add (.const (.int 1)) (.slot 4)) (.bi .int (.cons (.cmp .ne (.slot 6) (.const (.str [110, 111, 110, 101]))) .nil))) (.slot 7))) (.cons (.par [8, 9, 10, 11] (.cons (.lst .nil) (.cons (.const (.int 0)) (.cons (.const (.int 0)) (.cons (.const .non) .nil))))) (.cons (.while (.cmp .lt (.slot 10) (.lenS 1)) l_law_told_0) (.cons (.ret (.tup (.cons (.slot 8) (.cons (.slot 9) (.cons (.const (.bl true)) (.cons (.slot 11) .nil)))))) .nil))))
def d_law_told : Def := ⟨21, 2, b_law_told⟩
abbrev f_law_told : Nat := 92
def l_law_k09_0 : Ss := .cons (.set 14 (.call 37 (.cons (.slot 0) (.cons (.slot 1) (.cons (.lenS 4) .nil))))) (.cons (.set 4 (.bin .add (.bin .add (.cut (.slot 4) (.const .non) (.slot 14)) (.sub (.const (.str [49, 48])) (.bi .int (.cons (.subS 4 (.slot 14)) .nil)))) (.cut (.slot 4) (.bin .add (.slot 14) (.const (.int 1))) (.const .non)))) .nil)
def c_law_k09_0 : E := .comp (.call 38 (.cons (.slot 0) (.cons (.slot 1) (.cons (.lst (.cons (.const (.str [48])) (.cons (.const (.str [49])) (.cons (.const (.str [48, 48])) (.cons (.const (.str [49, 49, 49])) .nil))))) .nil)))) [10] true (.range1 (.const (.int 30))) .none [10]
def l_law_k09_1 : Ss := .cons (.set 5 (.bin .add (.slot 5) (.slot 6))) (.cons (.unp [15, 16, 17, 18] (.call 92 (.cons (.slot 2) (.cons (.slot 5) .nil)))) (.cons (.ite (.cmp .ne (.call 91 (.cons (.slot 11) (.cons (.slot 6) .nil))) (.slot 18)) (.cons (.ret (.const (.bl false))) .nil) .nil) (.cons .stuck (.cons (.set 13 (.call 38 (.cons (.slot 0) (.cons (.slot 1) (.cons (.lst (.cons (.const .non) (.cons (.const (.str [])) (.cons (.const (.str [50])) (.cons (.const (.str [48, 49])) (.cons (.const (.int 0)) (.cons (.const (.bl true)) .nil))))))) .nil))))) (.cons .stuck (.cons (.ite (.cmp .eq (.call 37 (.cons (.slot 0) (.cons (.slot 1) (.cons (.const (.int 9)) .nil)))) (.const (.int 0))) (.cons (.ite (.or (.cmp .ne (.call 91 (.cons (.slot 11) (.cons (.const (.str [98, 97, 99, 107])) .nil))) (.slot 6)) (.cmp .ne (.call 91 (.cons (.slot 11) (.cons (.slot 6) .nil))) (.slot 18))) (.cons (.ret (.const (.bl false))) .nil) .nil) .nil) .nil) .nil))))))
def c_law_k09_1 : E := .comp (.slot 20) [19, 20] false (.val (.slot 8)) .none [19, 20]
def c_law_k09_2 : E := .comp (.cmp .eq (.call 91 (.cons (.slot 11) (.cons (.const (.str [98, 97, 99, 107])) .nil))) (.slot 6)) [6] true (.val (.rev (.slot 5))) .none [6]
def b_law_k09 : Ss := .cons (.shr 1) (.cons (.set 2 (.call 45 (.cons (.slot 0) (.cons (.slot 1) .nil)))) (.cons (.set 3 (.call 37 (.cons (.slot 0) (.cons (.slot 1) (.cons (.const (.int 3)) .nil))))) (.cons (.unp [8, 9] (.call 49 (.cons (.slot 0) (.cons (.slot 1) (.cons (.slot 2) (.cons (.const (.int 90)) .nil)))))) (.cons (.set 4 (.call 50 (.cons (.slot 2) (.cons (.slot 8) (.cons (.slot 9) .nil))))) (.cons (.ite (.cmp .eq (.slot 3) (.const (.int 0))) (.cons (.for [10] true (.range1 (.const (.int 3))) l_law_k09_0) .nil) .nil) (.cons (.ite (.cmp .eq (.slot 3) (.const (.int 1))) (.cons (.set 4 (.join [] c_law_k09_0)) .nil) .nil) (.cons .stuck (.cons (.set 5 (.const (.str []))) (.cons (.for [6] true (.val (.slot 4)) l_law_k09_1) (.cons (.set 7 (.bi .tuple (.cons c_law_k09_1 .nil))) (.cons .stuck (.cons (.ite (.not (.bi .all (.cons c_law_k09_2 .nil))) (.cons (.ret (.const (.bl false))) .nil) .nil) (.cons .stuck .nil)))))))))))))
def d_law_k09 : Def := ⟨21, 1, b_law_k09⟩
abbrev f_law_k09 : Nat := 93
def l_law_turned_0 : Ss := .cons (.set 2 (.bin .add (.bin .mul (.const (.int 2)) (.slot 2)) (.bin .mod (.bin .fdiv (.slot 1) (.sub (.lst (.cons (.const (.int 1)) (.cons (.const (.int 2)) (.cons (.const (.int 4)) (.cons (.const (.int 8)) (.cons (.const (.int 16)) (.cons (.const (.int 32)) .nil))))))) (.slot 3))) (.const (.int 2))))) .nil
def b_law_turned : Ss := .cons (.set 2 (.const (.int 0))) (.cons (.for [3] true (.range1 (.slot 0)) l_law_turned_0) (.cons (.retS 2) .nil))
def d_law_turned : Def := ⟨4, 2, b_law_turned⟩
abbrev f_law_turned : Nat := 94
def c_law_k10_0 : E := .comp (.bin .mul (.slot 13) (.const (.int 2))) [13] true (.val (.slot 5)) .none [13]
def c_law_k10_1 : E := .comp (.tup (.cons (.bin .mul (.const (.int 2)) (.slot 15)) (.cons (.slot 16) .nil))) [15, 16] false (.val (.slot 11)) .none [15, 16]
def c_law_k10_2 : E := .comp (.tup (.cons (.slot 15) (.cons (.call 94 (.cons (.subS 2 (.const (.int 1))) (.cons (.slot 16) .nil))) .nil))) [15, 16] false (.val (.slot 11)) .none [15, 16]
def c_law_k10_3 : E := .comp (.bin .mul (.slot 13) (.const (.int 2))) [13] true (.val (.slot 9)) .none [13]
def c_law_k10_4 : E := .comp (.slot 14) [14] true (.val (.call 54 (.cons (.slot 5) .nil))) (.some (.and (.cmp .eq (.subS 14 (.const (.int 0))) (.subS 2 (.const (.int 0)))) (.cmp .notin (.slot 14) (.call 54 (.cons (.slot 10) .nil))))) [14]
def b_law_k10 : Ss := .cons (.shr 1) (.cons (.set 2 (.call 45 (.cons (.slot 0) (.cons (.slot 1) .nil)))) (.cons (.set 2 (.bin .add (.tup (.cons (.bin .add (.const (.int 1)) (.bin .mod (.subS 2 (.const (.int 0))) (.const (.int 3)))) .nil)) (.cut (.slot 2) (.const (.int 1)) (.const .non)))) (.cons (.set 3 (.bin .add (.tup (.cons (.bin .mul (.const (.int 2)) (.subS 2 (.const (.int 0)))) .nil)) (.cut (.slot 2) (.const (.int 1)) (.const .non)))) (.cons (.set 4 (.bin .add (.bin .add (.cut (.slot 2) (.const .non) (.const (.int 2))) (.tup (.cons (.pick [[108, 111, 119], [104, 105, 103, 104]] (.cons (.const (.str [104, 105, 103, 104])) (.cons (.const (.str [108, 111, 119])) .nil)) (.subS 2 (.const (.int 2)))) .nil))) (.cut (.slot 2) (.const (.int 3)) (.const .non)))) (.cons (.unp [11, 12] (.call 49 (.cons (.slot 0) (.cons (.slot 1) (.cons (.slot 2) (.cons (.const (.int 90)) .nil)))))) (.cons (.set 5 (.call 50 (.cons (.slot 2) (.cons (.slot 11) (.cons (.slot 12) .nil))))) (.cons (.set 6 (.join [] c_law_k10_0)) (.cons (.set 7 (.call 28 (.cons (.slot 3) (.cons (.slot 6) .nil)))) (.cons (.ite (.or (.cmp .ne (.slot 7) (.tup (.cons (.bi .tuple (.cons c_law_k10_1 .nil)) (.cons (.bin .mul (.const (.int 2)) (.slot 12)) .nil)))) (.cmp .notin (.slot 2) (.call 54 (.cons (.slot 5) .nil)))) (.cons (.ret (.const (.bl false))) .nil) .nil) (.cons (.ite (.cmp .ne (.call 28 (.cons (.slot 4) (.cons (.slot 5) .nil))) (.tup (.cons (.bi .tuple (.cons c_law_k10_2 .nil)) (.cons (.slot 12) .nil)))) (.cons (.ret (.const (.bl false))) .nil) .nil) (.cons (.ite (.cmp .ne (.call 15 (.cons (.slot 4) (.cons (.slot 11) (.cons (.slot 12) .nil)))) (.call 15 (.cons (.slot 2) (.cons (.bi .tuple (.cons c_law_k10_2 .nil)) (.cons (.slot 12) .nil))))) (.cons (.ret (.const (.bl false))) .nil) .nil) (.cons (.set 8 (.call 37 (.cons (.slot 0) (.cons (.slot 1) (.cons (.lenS 5) .nil))))) (.cons (.set 9 (.bin .add (.bin .add (.cut (.slot 5) (.const .non) (.slot 8)) (.sub (.const (.str [49, 48])) (.bi .int (.cons (.subS 5 (.slot 8)) .nil)))) (.cut (.slot 5) (.bin .add (.slot 8) (.const (.int 1))) (.const .non)))) (.cons (.ite (.or (.cmp .ne (.call 23 (.cons (.slot 4) (.cons (.slot 9) .nil))) (.call 23 (.cons (.slot 2) (.cons (.slot 9) .nil)))) (.cmp .gt (.call 23 (.cons (.slot 2) (.cons (.slot 9) .nil))) (.const (.int 1)))) (.cons (.ret (.const (.bl false))) .nil) .nil) (.cons (.ite (.cmp .gt (.call 23 (.cons (.slot 3) (.cons (.join [] c_law_k10_3) .nil))) (.bin .mul (.const (.int 2)) (.call 23 (.cons (.slot 2) (.cons (.slot 9) .nil))))) (.cons (.ret (.const (.bl false))) .nil) .nil) (.cons (.set 10 (.bin .add (.slot 5) (.bin .mul (.const (.str [49])) (.call 37 (.cons (.slot 0) (.cons (.slot 1) (.cons (.bin .sub (.const (.int 201)) (.lenS 5)) .nil))))))) (.cons (.ite (.or (.cmp .ne (.sub (.call 28 (.cons (.slot 2) (.cons (.slot 10) .nil))) (.const (.int 0))) (.slot 11)) (.cmp .ne (.bi .len (.cons (.call 11 (.cons (.slot 2) (.cons (.sub (.subS 11 (.const (.int 0))) (.const (.int 1))) .nil))) .nil)) (.bi .len (.cons (.call 11 (.cons (.slot 4) (.cons (.sub (.subS 11 (.const (.int 0))) (.const (.int 1))) .nil))) .nil)))) (.cons (.ret (.const (.bl false))) .nil) .nil) (.cons (.ret (.cmp .eq c_law_k10_4 (.lst .nil))) .nil))))))))))))))))))
def d_law_k10 : Def := ⟨17, 1, b_law_k10⟩
abbrev f_law_k10 : Nat := 95
def b_law_ask_8 : Ss := .cons (.tryRet (.cons (.ite (.cmp .lt (.slot 0) (.const (.int 5))) (.cons (.ret (.callSel [11, 24, 23, 28, 31] (.slot 0) (.cons (.slot 1) (.cons (.slot 2) .nil)))) .nil) .nil) (.cons (.ite (.cmp .lt (.slot 0) (.const (.int 7))) (.cons .stuck .nil) .nil) (.cons (.ite (.cmp .lt (.slot 0) (.const (.int 12))) (.cons (.ret (.callSel [54, 60, 70, 34, 87] (.bin .sub (.slot 0) (.const (.int 7))) (.cons (.slot 1) .nil))) .nil) .nil) (.cons (.ret (.ite (.cmp .eq (.slot 0) (.const (.int 12))) (.call 80 (.cons (.slot 1) (.cons (.slot 2) .nil))) (.call 79 (.cons (.slot 1) (.cons (.slot 2) (.cons (.slot 3) (.cons (.slot 3) .nil))))))) .nil)))) [0] (.which 4 40)) .nil
def d_law_ask_8 : Def := ⟨5, 4, b_law_ask_8⟩
abbrev f_law_ask_8 : Nat := 96
def c_law_k11_0 : E := .comp (.call 96 (.cons (.slot 5) (.cons (.slot 2) (.cons (.slot 2) (.cons (.slot 2) .nil))))) [5] true (.range1 (.const (.int 14))) .none [5]
def c_law_k11_1 : E := .comp (.tup (.cons (.const (.str [114, 101, 102, 117, 115, 101, 100])) (.cons (.slot 6) .nil))) [6] true (.val (.slot 4)) .none [6]
def c_law_k11_2 : E := .comp (.call 96 (.cons (.slot 5) (.cons (.slot 3) (.cons (.slot 2) (.cons (.slot 2) .nil))))) [5] true (.range1 (.const (.int 7))) .none [5]
def c_law_k11_3 : E := .comp (.call 96 (.cons (.slot 5) (.cons (.const (.int 4)) (.cons (.slot 2) (.cons (.slot 2) .nil))))) [5] true (.val (.tup (.cons (.const (.int 12)) (.cons (.const (.int 13)) .nil)))) .none [5]
def b_law_k11 : Ss := .cons (.shr 1) (.cons .stuck (.cons (.set 3 (.call 39 (.cons (.slot 0) (.cons (.slot 1) .nil)))) (.cons (.set 4 (.bin .add (.bin .mul (.lst (.cons (.const (.int 0)) .nil)) (.const (.int 7))) (.lst (.cons (.const (.int 1)) (.cons (.const (.int 1)) (.cons (.const (.int 1)) (.cons (.const (.int 0)) (.cons (.const (.int 7)) (.cons (.const (.int 0)) (.cons (.const (.int 0)) .nil)))))))))) (.cons (.ite (.cmp .ne c_law_k11_0 c_law_k11_1) (.cons (.ret (.const (.bl false))) .nil) .nil) (.cons (.set 4 (.lst (.cons (.const (.int 3)) (.cons (.const (.int 1)) (.cons (.const (.int 1)) (.cons (.const (.int 1)) (.cons (.const (.int 0)) (.cons (.const (.int 2)) (.cons (.const (.int 1)) .nil))))))))) (.cons (.ite (.cmp .ne c_law_k11_2 c_law_k11_1) (.cons (.ret (.const (.bl false))) .nil) .nil) (.cons (.ite (.or (.cmp .ne (.call 96 (.cons (.const (.int 5)) (.cons (.slot 3) (.cons (.tup (.cons (.tup (.cons (.const (.int 0)) (.cons (.const (.int 1)) .nil))) .nil)) (.cons (.slot 2) .nil))))) (.tup (.cons (.const (.str [114, 101, 102, 117, 115, 101, 100])) (.cons (.const (.int 4)) .nil)))) (.cmp .ne (.call 96 (.cons (.const (.int 5)) (.cons (.slot 3) (.cons (.tup (.cons (.tup (.cons (.const (.int 200)) (.cons (.const (.int 1)) .nil))) .nil)) (.cons (.slot 2) .nil))))) (.tup (.cons (.const (.str [114, 101, 102, 117, 115, 101, 100])) (.cons (.const (.int 4)) .nil))))) (.cons (.ret (.const (.bl false))) .nil) .nil) (.cons (.ite (.cmp .ne c_law_k11_3 (.bin .mul (.lst (.cons (.tup (.cons (.const (.str [114, 101, 102, 117, 115, 101, 100])) (.cons (.const (.int 3)) .nil))) .nil)) (.const (.int 2)))) (.cons (.ret (.const (.bl false))) .nil) .nil) (.cons (.ret (.and (.cmp .eq (.call 96 (.cons (.const (.int 13)) (.cons (.const (.int 4)) (.cons (.tup (.cons (.const (.int 1)) (.cons (.const (.int 2)) .nil))) (.cons (.slot 2) .nil))))) (.tup (.cons (.const (.str [114, 101, 102, 117, 115, 101, 100])) (.cons (.const (.int 6)) .nil)))) (.cmp .eq (.call 96 (.cons (.const (.int 5)) (.cons (.slot 3) (.cons (.tup (.cons (.tup (.cons (.const (.int 200)) (.cons (.const (.int 1)) .nil))) .nil)) (.cons (.const (.int 0)) .nil))))) (.tup (.cons (.const (.str [114, 101, 102, 117, 115, 101, 100])) (.cons (.const (.int 5)) .nil)))))) .nil)))))))))
def d_law_k11 : Def := ⟨7, 1, b_law_k11⟩
abbrev f_law_k11 : Nat := 97
def b_law_lists : Ss := .cons (.set 2 (.lst (.cons (.call 54 (.cons (.slot 0) .nil)) (.cons (.call 60 (.cons (.slot 0) .nil)) (.cons (.call 80 (.cons (.const (.int 4)) (.cons (.slot 1) .nil))) (.cons (.call 70 (.cons (.cut (.slot 0) (.const .non) (.const (.int 20))) .nil)) .nil)))))) (.cons (.ret (.bin .add (.slot 2) (.lst (.cons (.call 79 (.cons (.const (.int 4)) (.cons (.slot 1) (.cons (.tup (.cons (.const (.str [102, 105, 120, 101, 100])) (.cons (.const (.int 1)) .nil))) (.cons (.const (.str [110, 111, 110, 101])) .nil))))) .nil)))) .nil)
def d_law_lists : Def := ⟨3, 2, b_law_lists⟩
abbrev f_law_lists : Nat := 98
def b_law_rest : Ss := .cons (.ret (.lst (.cons (.call 28 (.cons (.slot 0) (.cons (.slot 1) .nil))) (.cons (.call 23 (.cons (.slot 0) (.cons (.slot 1) .nil))) (.cons (.call 24 (.cons (.slot 0) (.cons (.slot 1) .nil))) (.cons (.call 34 (.cons (.slot 0) .nil)) .nil)))))) .nil
def d_law_rest : Def := ⟨2, 2, b_law_rest⟩
abbrev f_law_rest : Nat := 99
def c_law_k12_0 : E := .comp (.call 37 (.cons (.slot 0) (.cons (.slot 1) (.cons (.const (.int 16)) .nil)))) [15] true (.range1 (.bin .add (.const (.int 1)) (.call 37 (.cons (.slot 0) (.cons (.slot 1) (.cons (.const (.int 9)) .nil)))))) .none [15]
def l_law_k12_0 : Ss := .cons .stuck .nil
def c_law_k12_1 : E := .comp (.bi .list (.cons (.slot 14) .nil)) [14] true (.val (.call 98 (.cons (.slot 3) (.cons (.slot 4) .nil)))) .none [14]
def l_law_k12_1 : Ss := .cons (.app 14 (.const .non)) (.cons .stuck .nil)
def l_law_k12_2 : Ss := .cons (.for [14] true (.val (.call 98 (.cons (.slot 3) (.cons (.slot 4) .nil)))) l_law_k12_1) (.cons .stuck .nil)
def c_law_k12_2 : E := .comp (.subS 16 (.const (.int 1))) [16] true (.val (.slot 10)) .none [16]
def b_law_k12 : Ss := .cons (.shr 1) (.cons (.set 2 (.call 45 (.cons (.slot 0) (.cons (.slot 1) .nil)))) (.cons (.set 2 (.bin .add (.tup (.cons (.bin .add (.const (.int 1)) (.bin .mod (.subS 2 (.const (.int 0))) (.const (.int 3)))) .nil)) (.cut (.slot 2) (.const (.int 1)) (.const .non)))) (.cons (.unp [10, 11] (.call 49 (.cons (.slot 0) (.cons (.slot 1) (.cons (.slot 2) (.cons (.const (.int 60)) .nil)))))) (.cons (.set 3 (.call 15 (.cons (.slot 2) (.cons (.slot 10) (.cons (.slot 11) .nil))))) (.cons (.set 4 (.bi .tuple (.cons c_law_k12_0 .nil))) (.cons .stuck (.cons (.for [5] true (.val (.slot 3)) l_law_k12_0) (.cons (.set 6 c_law_k12_1) (.cons (.set 7 (.call 99 (.cons (.slot 2) (.cons (.slot 3) .nil)))) (.cons .stuck (.cons (.for [9] true (.range1 (.const (.int 2))) l_law_k12_2) (.cons (.ite (.or (.cmp .ne (.call 98 (.cons (.slot 3) (.cons (.slot 4) .nil))) (.slot 6)) (.cmp .ne (.call 99 (.cons (.slot 2) (.cons (.slot 3) .nil))) (.slot 7))) (.cons (.ret (.const (.bl false))) .nil) .nil) (.cons .stuck (.cons .stuck (.cons (.ret (.cmp .eq (.subS 8 (.const (.int 0))) (.bi .tuple (.cons c_law_k12_2 .nil)))) .nil)))))))))))))))
def d_law_k12 : Def := ⟨17, 1, b_law_k12⟩
abbrev f_law_k12 : Nat := 100
def b_law_ask_9 : Ss := .cons (.tryRet (.cons (.ite (.cmp .lt (.slot 0) (.const (.int 3))) (.cons (.ret (.callSel [28, 23, 24] (.slot 0) (.cons (.slot 1) (.cons (.slot 2) .nil)))) .nil) .nil) (.cons (.ite (.cmp .eq (.slot 0) (.const (.int 3))) (.cons (.ret (.call 15 (.cons (.slot 1) (.cons (.slot 2) (.cons (.slot 3) .nil))))) .nil) .nil) (.cons (.ret (.ite (.cmp .eq (.slot 0) (.const (.int 4))) (.call 79 (.cons (.slot 1) (.cons (.slot 2) (.cons (.slot 3) (.cons (.const (.str [110, 111, 110, 101])) .nil))))) (.call 54 (.cons (.slot 1) .nil)))) .nil))) [0] (.which 4 40)) .nil
def d_law_ask_9 : Def := ⟨5, 4, b_law_ask_9⟩
abbrev f_law_ask_9 : Nat := 101
def c_law_more_0 : E := .comp (.call 101 (.cons (.slot 5) (.cons (.slot 0) (.cons (.bin .add (.slot 2) (.const (.str [49]))) (.cons (.const .non) .nil))))) [5] true (.range1 (.const (.int 3))) .none [5]
def b_law_more : Ss := .cons (.set 2 (.bin .add (.bin .mul (.const (.str [49])) (.const (.int 194))) (.call 11 (.cons (.slot 0) (.cons (.const (.int 5)) .nil))))) (.cons (.ite (.cmp .ne (.call 101 (.cons (.const (.int 0)) (.cons (.slot 0) (.cons (.slot 2) (.cons (.const .non) .nil))))) (.tup (.cons (.tup (.cons (.tup (.cons (.const (.int 194)) (.cons (.const (.int 5)) .nil))) .nil)) (.cons (.const (.int 0)) .nil)))) (.cons (.ret (.const (.bl false))) .nil) .nil) (.cons (.ite (.cmp .ne c_law_more_0 (.bin .mul (.lst (.cons (.tup (.cons (.const (.str [114, 101, 102, 117, 115, 101, 100])) (.cons (.const (.int 1)) .nil))) .nil)) (.const (.int 3)))) (.cons (.ret (.const (.bl false))) .nil) .nil) (.cons (.ite (.cmp .ne (.call 101 (.cons (.const (.int 0)) (.cons (.slot 0) (.cons (.bin .add (.bin .mul (.call 11 (.cons (.slot 0) (.cons (.const (.int 7)) .nil))) (.const (.int 33))) (.const (.str [49, 49]))) (.cons (.const .non) .nil))))) (.tup (.cons (.bin .mul (.tup (.cons (.tup (.cons (.const (.int 0)) (.cons (.const (.int 7)) .nil))) .nil)) (.const (.int 33))) (.cons (.const (.int 2)) .nil)))) (.cons (.ret (.const (.bl false))) .nil) .nil) (.cons (.ite (.or (.cmp .notN (.call 101 (.cons (.const (.int 1)) (.cons (.slot 1) (.cons (.bin .mul (.const (.str [49])) (.const (.int 59))) (.cons (.const .non) .nil))))) (.const .non)) (.cmp .isN (.call 101 (.cons (.const (.int 1)) (.cons (.slot 1) (.cons (.bin .mul (.const (.str [49])) (.const (.int 60))) (.cons (.const .non) .nil))))) (.const .non))) (.cons (.ret (.const (.bl false))) .nil) .nil) (.cons (.ite (.or (.cmp .notN (.call 101 (.cons (.const (.int 2)) (.cons (.slot 1) (.cons (.bin .mul (.const (.str [49])) (.const (.int 59))) (.cons (.const .non) .nil))))) (.const .non)) (.cmp .ne (.bi .len (.cons (.call 101 (.cons (.const (.int 2)) (.cons (.slot 1) (.cons (.bin .mul (.const (.str [49])) (.const (.int 60))) (.cons (.const .non) .nil))))) .nil)) (.const (.int 60)))) (.cons (.ret (.const (.bl false))) .nil) .nil) (.cons (.ite (.or (.cmp .ne (.call 101 (.cons (.const (.int 5)) (.cons (.bin .mul (.const (.str [49])) (.const (.int 200))) (.cons (.const .non) (.cons (.const .non) .nil))))) (.lst .nil)) (.cmp .ne (.call 101 (.cons (.const (.int 5)) (.cons (.bin .mul (.const (.str [49])) (.const (.int 201))) (.cons (.const .non) (.cons (.const .non) .nil))))) (.tup (.cons (.const (.str [114, 101, 102, 117, 115, 101, 100])) (.cons (.const (.int 1)) .nil))))) (.cons (.ret (.const (.bl false))) .nil) .nil) (.cons (.set 3 (.tup (.cons (.const (.str [102, 105, 120, 101, 100])) (.cons (.const (.int 8)) .nil)))) (.cons (.ite (.or (.cmp .ne (.call 101 (.cons (.const (.int 4)) (.cons (.const (.int 4)) (.cons (.bin .mul (.tup (.cons (.const (.int 1)) .nil)) (.const (.int 40))) (.cons (.slot 3) .nil))))) (.bin .mul (.lst (.cons (.bin .mul (.tup (.cons (.const (.int 1)) .nil)) (.const (.int 8))) .nil)) (.const (.int 5)))) (.cmp .ne (.call 101 (.cons (.const (.int 4)) (.cons (.const (.int 4)) (.cons (.bin .mul (.tup (.cons (.const (.int 1)) .nil)) (.const (.int 41))) (.cons (.slot 3) .nil))))) (.tup (.cons (.const (.str [114, 101, 102, 117, 115, 101, 100])) (.cons (.const (.int 3)) .nil))))) (.cons (.ret (.const (.bl false))) .nil) .nil) (.cons (.set 4 (.bin .mul (.tup (.cons (.const (.int 1)) .nil)) (.const (.int 9)))) (.cons (.ite (.or (.cmp .ne (.call 101 (.cons (.const (.int 4)) (.cons (.const (.int 4)) (.cons (.slot 4) (.cons (.tup (.cons (.const (.str [102, 105, 120, 101, 100])) (.cons (.const (.int 9)) .nil))) .nil))))) (.lst (.cons (.slot 4) .nil))) (.cmp .ne (.call 101 (.cons (.const (.int 4)) (.cons (.const (.int 4)) (.cons (.slot 4) (.cons (.tup (.cons (.const (.str [102, 105, 120, 101, 100])) (.cons (.const (.int 10)) .nil))) .nil))))) (.tup (.cons (.const (.str [114, 101, 102, 117, 115, 101, 100])) (.cons (.const (.int 6)) .nil))))) (.cons (.ret (.const (.bl false))) .nil) .nil) (.cons (.ite (.cmp .notN (.call 31 (.cons (.slot 0) (.cons (.slot 0) .nil))) (.const .non)) (.cons (.ret (.const (.bl false))) .nil) .nil) (.cons (.ret (.cmp .isin (.tup (.cons (.tup (.cons (.const (.str [108, 101, 110, 103, 116, 104])) .nil)) (.cons (.const (.str [110, 111, 110, 101])) .nil))) (.call 80 (.cons (.const (.int 4)) (.cons (.bin .add (.tup (.cons (.const (.int 15)) .nil)) (.bin .mul (.tup (.cons (.const (.int 0)) .nil)) (.const (.int 15)))) .nil))))) .nil))))))))))))
def d_law_more : Def := ⟨6, 2, b_law_more⟩
abbrev f_law_more : Nat := 102
def l_law_k13_0 : Ss := .cons (.ite (.cmp .ne (.call 3 (.cons (.slot 2) .nil)) (.const (.bl false))) (.cons (.ret (.const (.bl false))) .nil) .nil) .nil
def l_law_k13_1 : Ss := .cons (.ite (.cmp .ne (.call 101 (.cons (.const (.int 3)) (.cons (.slot 4) (.cons (.bin .mul (.tup (.cons (.tup (.cons (.const (.int 0)) (.cons (.const (.int 9)) .nil))) .nil)) (.slot 6)) (.cons (.const (.int 0)) .nil))))) (.tup (.cons (.const (.str [114, 101, 102, 117, 115, 101, 100])) (.cons (.slot 7) .nil)))) (.cons (.ret (.const (.bl false))) .nil) .nil) .nil
def b_law_k13 : Ss := .cons (.shr 1) (.cons (.par [4, 5] (.cons (.tup (.cons (.const (.int 1)) (.cons (.const (.int 4)) (.cons (.const (.str [108, 111, 119])) (.cons (.const (.str [110, 111, 110, 101])) (.cons (.const (.int 1)) .nil)))))) (.cons (.tup (.cons (.const (.int 6)) (.cons (.const (.int 6)) (.cons (.const (.str [104, 105, 103, 104])) (.cons (.const (.str [111, 100, 100])) (.cons (.const (.int 2)) .nil)))))) .nil))) (.cons (.ite (.or (.cmp .ne (.bi .len (.cons (.call 11 (.cons (.slot 4) (.cons (.const (.int 15)) .nil))) .nil)) (.const (.int 6))) (.or (.cmp .ne (.bi .len (.cons (.call 11 (.cons (.slot 5) (.cons (.const (.int 63)) .nil))) .nil)) (.const (.int 60))) (.cmp .ne (.call 11 (.cons (.slot 4) (.cons (.const (.int 1)) .nil))) (.const (.str [48, 49, 48, 48, 48, 49]))))) (.cons (.ret (.const (.bl false))) .nil) .nil) (.cons (.for [2] true (.val (.tup (.cons (.bin .add (.tup (.cons (.const (.int 0)) .nil)) (.cut (.slot 4) (.const (.int 1)) (.const .non))) (.cons (.bin .add (.tup (.cons (.const (.int 7)) .nil)) (.cut (.slot 4) (.const (.int 1)) (.const .non))) (.cons (.bin .add (.tup (.cons (.const (.int 1)) (.cons (.const (.int 3)) .nil))) (.cut (.slot 4) (.const (.int 2)) (.const .non))) (.cons (.bin .add (.tup (.cons (.const (.int 1)) (.cons (.const (.int 7)) .nil))) (.cut (.slot 4) (.const (.int 2)) (.const .non))) .nil)))))) l_law_k13_0) (.cons (.ite (.or (.cmp .ne (.call 3 (.cons (.bin .add (.cut (.slot 4) (.const .non) (.const (.int 4))) (.tup (.cons (.const (.int 0)) .nil))) .nil)) (.const (.bl false))) (.or (.cmp .ne (.call 3 (.cons (.bin .add (.cut (.slot 4) (.const .non) (.const (.int 4))) (.tup (.cons (.const (.int 3)) .nil))) .nil)) (.const (.bl false))) (.cmp .ne (.call 3 (.cons (.slot 5) .nil)) (.const (.bl true))))) (.cons (.ret (.const (.bl false))) .nil) .nil) (.cons (.set 3 (.bin .sub (.const (.int 194)) (.call 37 (.cons (.slot 0) (.cons (.slot 1) (.cons (.const (.int 9)) .nil)))))) (.cons (.ite (.cmp .ne (.call 101 (.cons (.const (.int 3)) (.cons (.slot 4) (.cons (.tup (.cons (.tup (.cons (.slot 3) (.cons (.const (.int 9)) .nil))) .nil)) (.cons (.bin .sub (.const (.int 194)) (.slot 3)) .nil))))) (.bin .add (.bin .add (.bin .mul (.const (.str [49])) (.slot 3)) (.call 11 (.cons (.slot 4) (.cons (.const (.int 9)) .nil)))) (.bin .mul (.const (.str [49])) (.bin .sub (.const (.int 194)) (.slot 3))))) (.cons (.ret (.const (.bl false))) .nil) .nil) (.cons (.ite (.cmp .ne (.call 101 (.cons (.const (.int 3)) (.cons (.slot 4) (.cons (.tup (.cons (.tup (.cons (.slot 3) (.cons (.const (.int 9)) .nil))) .nil)) (.cons (.bin .sub (.const (.int 195)) (.slot 3)) .nil))))) (.tup (.cons (.const (.str [114, 101, 102, 117, 115, 101, 100])) (.cons (.const (.int 5)) .nil)))) (.cons (.ret (.const (.bl false))) .nil) .nil) (.cons (.ite (.cmp .ne (.call 101 (.cons (.const (.int 3)) (.cons (.slot 4) (.cons (.tup (.cons (.tup (.cons (.const (.int 201)) (.cons (.const (.int 9)) .nil))) .nil)) (.cons (.const (.int 0)) .nil))))) (.tup (.cons (.const (.str [114, 101, 102, 117, 115, 101, 100])) (.cons (.const (.int 2)) .nil)))) (.cons (.ret (.const (.bl false))) .nil) .nil) (.cons (.ite (.or (.cmp .ne (.call 101 (.cons (.const (.int 3)) (.cons (.slot 4) (.cons (.tup (.cons (.tup (.cons (.const (.int 0)) (.cons (.const (.int 9)) .nil))) .nil)) (.cons (.const (.int 201)) .nil))))) (.tup (.cons (.const (.str [114, 101, 102, 117, 115, 101, 100])) (.cons (.const (.int 4)) .nil)))) (.cmp .ne (.bi .len (.cons (.call 101 (.cons (.const (.int 3)) (.cons (.slot 4) (.cons (.bin .mul (.tup (.cons (.tup (.cons (.const (.int 0)) (.cons (.const (.int 9)) .nil))) .nil)) (.const (.int 33))) (.cons (.const (.int 2)) .nil))))) .nil)) (.const (.int 200)))) (.cons (.ret (.const (.bl false))) .nil) .nil) (.cons (.for [6, 7] false (.val (.tup (.cons (.tup (.cons (.const (.int 40)) (.cons (.const (.int 5)) .nil))) (.cons (.tup (.cons (.const (.int 41)) (.cons (.const (.int 2)) .nil))) .nil)))) l_law_k13_1) (.cons (.ret (.call 102 (.cons (.slot 4) (.cons (.slot 5) .nil)))) .nil)))))))))))
def d_law_k13 : Def := ⟨8, 1, b_law_k13⟩
abbrev f_law_k13 : Nat := 103
def c_are_packets_0 : E := .comp (.call 1 (.cons (.slot 3) (.cons (.const (.int 0)) (.cons (.call 5 (.cons (.slot 0) .nil)) .nil)))) [3] true (.val (.slot 2)) .none [3]
def l_are_packets_0 : Ss := .cons (.ite (.or (.not (.isin (.slot 2) [.tuple])) (.not (.cmp2 .le .le (.const (.int 1)) (.lenS 2) (.glob (.v (.int 40)))))) (.cons (.ret (.const (.bl false))) .nil) .nil) (.cons (.ite (.not (.bi .all (.cons c_are_packets_0 .nil))) (.cons (.ret (.const (.bl false))) .nil) .nil) .nil)
def b_are_packets : Ss := .cons (.ite (.or (.not (.isin (.slot 1) [.list])) (.not (.cmp2 .le .le (.const (.int 1)) (.lenS 1) (.glob (.v (.int 10)))))) (.cons (.ret (.const (.bl false))) .nil) .nil) (.cons (.for [2] true (.val (.slot 1)) l_are_packets_0) (.cons (.ret (.const (.bl true))) .nil))
def d_are_packets : Def := ⟨4, 2, b_are_packets⟩
abbrev f_are_packets : Nat := 104
def b_need_all : Ss := .cons (.ite (.not (.call 1 (.cons (.slot 0) (.cons (.glob (.v (.int 4))) (.cons (.glob (.v (.int 6))) .nil))))) (.cons (.raise 1) .nil) .nil) (.cons (.ite (.not (.call 104 (.cons (.slot 0) (.cons (.slot 1) .nil)))) (.cons (.raise 10) .nil) .nil) (.cons (.ite (.or (.not (.call 74 (.cons (.slot 0) (.cons (.slot 2) .nil)))) (.not (.call 2 (.cons (.slot 3) (.cons (.glob (.v (.tup [.str [110, 111, 110, 101], .str [115, 117, 109], .str [120, 111, 114]]))) .nil))))) (.cons (.raise 7) .nil) .nil) .nil))
def d_need_all : Def := ⟨4, 4, b_need_all⟩
abbrev f_need_all : Nat := 105
def l_check_of_0 : Ss := .cons (.set 3 (.ite (.cmp .eq (.slot 2) (.const (.str [115, 117, 109]))) (.bin .mod (.bin .add (.slot 3) (.slot 4)) (.bin .add (.call 5 (.cons (.slot 0) .nil)) (.const (.int 1)))) (.call 76 (.cons (.slot 3) (.cons (.slot 4) .nil))))) .nil
def b_check_of : Ss := .cons (.set 3 (.const (.int 0))) (.cons (.for [4] true (.val (.slot 1)) l_check_of_0) (.cons (.ret (.ite (.cmp .eq (.slot 2) (.const (.str [110, 111, 110, 101]))) (.tup .nil) (.tup (.cons (.slot 3) .nil)))) .nil))
def d_check_of : Def := ⟨5, 3, b_check_of⟩
abbrev f_check_of : Nat := 106
def b_one_packed : Ss := .cons (.ite (.cmp .eq (.subS 0 (.const (.int 0))) (.const (.str [109, 97, 114, 107]))) (.cons (.ret (.bin .add (.slot 1) (.tup (.cons (.subS 0 (.const (.int 1))) .nil)))) .nil) .nil) (.cons (.ret (.ite (.cmp .eq (.subS 0 (.const (.int 0))) (.const (.str [102, 105, 120, 101, 100]))) (.slot 1) (.bin .add (.tup (.cons (.lenS 1) .nil)) (.slot 1)))) .nil)
def d_one_packed : Def := ⟨2, 2, b_one_packed⟩
abbrev f_one_packed : Nat := 107
def l_packed_0 : Ss := .cons (.set 4 (.bin .add (.slot 4) (.call 107 (.cons (.slot 2) (.cons (.bin .add (.slot 5) (.call 106 (.cons (.slot 0) (.cons (.slot 5) (.cons (.slot 3) .nil))))) .nil))))) .nil
def c_packed_0 : E := .comp (.cmp .le (.slot 6) (.call 5 (.cons (.slot 0) .nil))) [6] true (.val (.slot 4)) .none [6]
def b_packed : Ss := .cons (.expr (.call 105 (.cons (.slot 0) (.cons (.slot 1) (.cons (.slot 2) (.cons (.slot 3) .nil)))))) (.cons (.set 4 (.tup .nil)) (.cons (.for [5] true (.val (.slot 1)) l_packed_0) (.cons (.ite (.or (.not (.bi .all (.cons c_packed_0 .nil))) (.cmp .ne (.call 78 (.cons (.slot 0) (.cons (.slot 4) (.cons (.slot 2) (.cons (.slot 3) .nil))))) (.slot 1))) (.cons (.raise 10) .nil) .nil) (.cons (.ite (.cmp .gt (.lenS 4) (.glob (.v (.int 40)))) (.cons (.raise 6) .nil) .nil) (.cons (.retS 4) .nil)))))
def d_packed : Def := ⟨7, 4, b_packed⟩
abbrev f_packed : Nat := 108
def b_law_layer : Ss := .cons (.set 3 (.call 37 (.cons (.slot 0) (.cons (.slot 1) (.cons (.const (.int 3)) .nil))))) (.cons (.ite (.cmp .eq (.slot 3) (.const (.int 0))) (.cons (.ret (.tup (.cons (.const (.str [102, 105, 120, 101, 100])) (.cons (.bin .add (.const (.int 1)) (.call 37 (.cons (.slot 0) (.cons (.slot 1) (.cons (.const (.int 5)) .nil))))) .nil)))) .nil) .nil) (.cons (.ite (.cmp .eq (.slot 3) (.const (.int 1))) (.cons (.ret (.tup (.cons (.const (.str [108, 101, 110, 103, 116, 104])) .nil))) .nil) .nil) (.cons (.ret (.tup (.cons (.const (.str [109, 97, 114, 107])) (.cons (.call 37 (.cons (.slot 0) (.cons (.slot 1) (.cons (.sub (.lst (.cons (.const (.int 16)) (.cons (.const (.int 32)) (.cons (.const (.int 64)) .nil)))) (.bin .sub (.slot 2) (.const (.int 4)))) .nil)))) .nil)))) .nil)))
def d_law_layer : Def := ⟨4, 3, b_law_layer⟩
abbrev f_law_layer : Nat := 109
def c_law_packets_0 : E := .comp (.call 37 (.cons (.slot 0) (.cons (.slot 1) (.cons (.sub (.lst (.cons (.const (.int 16)) (.cons (.const (.int 32)) (.cons (.const (.int 64)) .nil)))) (.bin .sub (.slot 2) (.const (.int 4)))) .nil)))) [9] true (.range1 (.slot 8)) .none [9]
def l_law_packets_0 : Ss := .cons (.set 8 (.ite (.cmp .gt (.slot 4) (.const (.int 0))) (.slot 5) (.bin .add (.const (.int 1)) (.call 37 (.cons (.slot 0) (.cons (.slot 1) (.cons (.const (.int 5)) .nil))))))) (.cons (.app 6 (.bi .tuple (.cons c_law_packets_0 .nil))) .nil)
def b_law_packets : Ss := .cons (.set 4 (.call 37 (.cons (.slot 0) (.cons (.slot 1) (.cons (.const (.int 3)) .nil))))) (.cons (.set 5 (.bin .add (.const (.int 1)) (.call 37 (.cons (.slot 0) (.cons (.slot 1) (.cons (.const (.int 4)) .nil)))))) (.cons (.set 6 (.lst .nil)) (.cons (.for [7] true (.range1 (.bin .add (.const (.int 1)) (.call 37 (.cons (.slot 0) (.cons (.slot 1) (.cons (.slot 3) .nil)))))) l_law_packets_0) (.cons (.retS 6) .nil))))
def d_law_packets : Def := ⟨10, 4, b_law_packets⟩
abbrev f_law_packets : Nat := 110
def c_law_check_0 : E := .comp (.slot 5) [5] true (.val (.tup (.cons (.const (.int 1)) (.cons (.const (.int 2)) (.cons (.const (.int 4)) (.cons (.const (.int 8)) (.cons (.const (.int 16)) (.cons (.const (.int 32)) .nil)))))))) (.some (.cmp .ne (.bin .mod (.bin .fdiv (.slot 3) (.slot 5)) (.const (.int 2))) (.bin .mod (.bin .fdiv (.slot 4) (.slot 5)) (.const (.int 2))))) [5]
def l_law_check_0 : Ss := .cons (.ite (.cmp .eq (.slot 2) (.const (.str [115, 117, 109]))) (.cons (.set 3 (.bin .mod (.bin .add (.slot 3) (.slot 4)) (.sub (.lst (.cons (.const (.int 16)) (.cons (.const (.int 32)) (.cons (.const (.int 64)) .nil)))) (.bin .sub (.slot 0) (.const (.int 4)))))) .nil) (.cons (.set 3 (.bi .sum (.cons c_law_check_0 .nil))) .nil)) .nil
def b_law_check : Ss := .cons (.set 3 (.const (.int 0))) (.cons (.for [4] true (.val (.slot 1)) l_law_check_0) (.cons (.ret (.ite (.cmp .eq (.slot 2) (.const (.str [110, 111, 110, 101]))) (.tup .nil) (.tup (.cons (.slot 3) .nil)))) .nil))
def d_law_check : Def := ⟨6, 3, b_law_check⟩
abbrev f_law_check : Nat := 111
def l_law_packed_0 : Ss := .cons (.set 5 (.bin .add (.slot 5) (.call 111 (.cons (.slot 0) (.cons (.slot 5) (.cons (.slot 3) .nil)))))) (.cons (.ite (.or (.and (.cmp .eq (.subS 2 (.const (.int 0))) (.const (.str [102, 105, 120, 101, 100]))) (.cmp .ne (.lenS 5) (.subS 2 (.const (.int 1))))) (.and (.cmp .eq (.subS 2 (.const (.int 0))) (.const (.str [109, 97, 114, 107]))) (.inS false (.subS 2 (.const (.int 1))) 5))) (.cons (.ret (.const .non)) .nil) .nil) (.cons (.ite (.and (.cmp .eq (.subS 2 (.const (.int 0))) (.const (.str [108, 101, 110, 103, 116, 104]))) (.cmp .ge (.lenS 5) (.sub (.lst (.cons (.const (.int 16)) (.cons (.const (.int 32)) (.cons (.const (.int 64)) .nil)))) (.bin .sub (.slot 0) (.const (.int 4)))))) (.cons (.ret (.const .non)) .nil) .nil) (.cons (.set 6 (.ite (.cmp .eq (.subS 2 (.const (.int 0))) (.const (.str [108, 101, 110, 103, 116, 104]))) (.tup (.cons (.lenS 5) .nil)) (.tup .nil))) (.cons (.set 4 (.bin .add (.bin .add (.bin .add (.slot 4) (.slot 6)) (.slot 5)) (.ite (.cmp .eq (.subS 2 (.const (.int 0))) (.const (.str [109, 97, 114, 107]))) (.tup (.cons (.subS 2 (.const (.int 1))) .nil)) (.tup .nil)))) .nil))))
def b_law_packed : Ss := .cons (.set 4 (.tup .nil)) (.cons (.for [5] true (.val (.slot 1)) l_law_packed_0) (.cons (.retS 4) .nil))
def d_law_packed : Def := ⟨7, 4, b_law_packed⟩
abbrev f_law_packed : Nat := 112
def b_law_which_2 : Ss := .cons (.set 1 (.lst (.cons (.isin (.slot 0) [.cls 1]) (.cons (.isin (.slot 0) [.cls 2]) (.cons (.isin (.slot 0) [.cls 3]) (.cons (.isin (.slot 0) [.cls 4]) .nil)))))) (.cons (.ext 1 (.lst (.cons (.isin (.slot 0) [.cls 5]) (.cons (.isin (.slot 0) [.cls 6]) (.cons (.isin (.slot 0) [.cls 7]) (.cons (.isin (.slot 0) [.cls 8]) .nil)))))) (.cons (.ext 1 (.lst (.cons (.isin (.slot 0) [.cls 9]) (.cons (.isin (.slot 0) [.cls 10]) (.cons (.isin (.slot 0) [.cls 11]) (.cons (.isin (.slot 0) [.cls 12]) .nil)))))) (.cons (.ite (.or (.cmp .ne (.meth .count (.slot 1) (.cons (.const (.bl true)) .nil)) (.const (.int 1))) (.not (.isin (.slot 0) [.valueError]))) (.cons (.ret (.tup (.cons (.const (.str [114, 101, 102, 117, 115, 101, 100])) (.cons (.neg (.const (.int 1))) .nil)))) .nil) .nil) (.cons (.ret (.tup (.cons (.const (.str [114, 101, 102, 117, 115, 101, 100])) (.cons (.meth .index (.slot 1) (.cons (.const (.bl true)) .nil)) .nil)))) .nil))))
def d_law_which_2 : Def := ⟨2, 1, b_law_which_2⟩
abbrev f_law_which_2 : Nat := 113
def b_law_ask_10 : Ss := .cons (.tryRet (.cons (.ret (.call 108 (.cons (.slot 0) (.cons (.slot 1) (.cons (.slot 2) (.cons (.slot 3) .nil)))))) .nil) [0] (.which 4 113)) .nil
def d_law_ask_10 : Def := ⟨5, 4, b_law_ask_10⟩
abbrev f_law_ask_10 : Nat := 114
def b_law_k14 : Ss := .cons (.shr 1) (.cons (.set 2 (.bin .add (.const (.int 4)) (.call 37 (.cons (.slot 0) (.cons (.slot 1) (.cons (.const (.int 3)) .nil)))))) (.cons (.set 3 (.call 109 (.cons (.slot 0) (.cons (.slot 1) (.cons (.slot 2) .nil))))) (.cons (.set 4 (.call 38 (.cons (.slot 0) (.cons (.slot 1) (.cons (.lst (.cons (.const (.str [110, 111, 110, 101])) (.cons (.const (.str [115, 117, 109])) (.cons (.const (.str [120, 111, 114])) .nil)))) .nil))))) (.cons (.set 5 (.call 110 (.cons (.slot 0) (.cons (.slot 1) (.cons (.slot 2) (.cons (.const (.int 9)) .nil)))))) (.cons (.ite (.and (.cmp .eq (.subS 3 (.const (.int 0))) (.const (.str [102, 105, 120, 101, 100]))) (.cmp .gt (.call 37 (.cons (.slot 0) (.cons (.slot 1) (.cons (.const (.int 3)) .nil)))) (.const (.int 0)))) (.cons (.set 3 (.tup (.cons (.const (.str [102, 105, 120, 101, 100])) (.cons (.bin .add (.bi .len (.cons (.subS 5 (.const (.int 0))) .nil)) (.bi .int (.cons (.cmp .ne (.slot 4) (.const (.str [110, 111, 110, 101]))) .nil))) .nil)))) .nil) .nil) (.cons (.set 6 (.call 112 (.cons (.slot 2) (.cons (.slot 5) (.cons (.slot 3) (.cons (.slot 4) .nil)))))) (.cons (.set 7 (.call 114 (.cons (.slot 2) (.cons (.slot 5) (.cons (.slot 3) (.cons (.slot 4) .nil)))))) (.cons (.ite (.cmp .isN (.slot 6) (.const .non)) (.cons (.ret (.cmp .eq (.slot 7) (.tup (.cons (.const (.str [114, 101, 102, 117, 115, 101, 100])) (.cons (.const (.int 9)) .nil))))) .nil) .nil) (.cons (.ite (.cmp .gt (.lenS 6) (.const (.int 40))) (.cons (.ret (.cmp .eq (.slot 7) (.tup (.cons (.const (.str [114, 101, 102, 117, 115, 101, 100])) (.cons (.const (.int 5)) .nil))))) .nil) .nil) (.cons (.ret (.and (.cmp .eq (.slot 7) (.slot 6)) (.cmp .eq (.call 79 (.cons (.slot 2) (.cons (.slot 7) (.cons (.slot 3) (.cons (.slot 4) .nil))))) (.slot 5)))) .nil))))))))))
def d_law_k14 : Def := ⟨8, 1, b_law_k14⟩
abbrev f_law_k14 : Nat := 115
def c_layers_of_0 : E := .comp (.tup (.cons (.const (.str [102, 105, 120, 101, 100])) (.cons (.slot 5) .nil))) [5] true (.range2 (.const (.int 1)) (.const (.int 10))) .none [5]
def c_layers_of_1 : E := .comp (.tup (.cons (.const (.str [109, 97, 114, 107])) (.cons (.slot 6) .nil))) [6] true (.range1 (.bin .add (.call 5 (.cons (.slot 0) .nil)) (.const (.int 1)))) .none [6]
def c_layers_of_2 : E := .comp (.tup (.cons (.slot 4) (.cons (.slot 7) .nil))) [7] true (.val (.glob (.v (.tup [.str [110, 111, 110, 101], .str [115, 117, 109], .str [120, 111, 114]])))) (.some (.call 117 (.cons (.slot 0) (.cons (.slot 1) (.cons (.slot 4) (.cons (.slot 7) .nil)))))) [7]
def l_layers_of_0 : Ss := .cons (.ext 3 c_layers_of_2) .nil
def b_layers_of : Ss := .cons (.expr (.call 105 (.cons (.slot 0) (.cons (.slot 1) (.cons (.tup (.cons (.const (.str [108, 101, 110, 103, 116, 104])) .nil)) (.cons (.const (.str [110, 111, 110, 101])) .nil)))))) (.cons (.set 2 (.bin .add c_layers_of_0 (.lst (.cons (.tup (.cons (.const (.str [108, 101, 110, 103, 116, 104])) .nil)) .nil)))) (.cons (.ext 2 c_layers_of_1) (.cons (.set 3 (.lst .nil)) (.cons (.for [4] true (.val (.slot 2)) l_layers_of_0) (.cons (.ret (.bi .sorted (.cons (.slot 3) .nil))) .nil)))))
def d_layers_of : Def := ⟨8, 2, b_layers_of⟩
abbrev f_layers_of : Nat := 116
def b_is_packed : Ss := .cons .stuck .nil
def d_is_packed : Def := ⟨4, 4, b_is_packed⟩
abbrev f_is_packed : Nat := 117
def c_law_k15_0 : E := .comp (.tup (.cons (.const (.str [102, 105, 120, 101, 100])) (.cons (.slot 10) .nil))) [10] true (.range2 (.const (.int 1)) (.const (.int 10))) .none [10]
def c_law_k15_1 : E := .comp (.tup (.cons (.const (.str [109, 97, 114, 107])) (.cons (.slot 11) .nil))) [11] true (.range1 (.sub (.lst (.cons (.const (.int 16)) (.cons (.const (.int 32)) .nil))) (.bin .sub (.slot 2) (.const (.int 4))))) .none [11]
def l_law_k15_0 : Ss := .cons (.set 9 (.call 112 (.cons (.slot 2) (.cons (.slot 3) (.cons (.slot 6) (.cons (.slot 8) .nil)))))) (.cons (.ite (.and (.cmp .notN (.slot 9) (.const .non)) (.cmp .le (.lenS 9) (.const (.int 40)))) (.cons (.app 5 (.tup (.cons (.slot 6) (.cons (.slot 8) .nil)))) .nil) .nil) .nil)
def l_law_k15_1 : Ss := .cons (.for [8] true (.val (.tup (.cons (.const (.str [110, 111, 110, 101])) (.cons (.const (.str [115, 117, 109])) (.cons (.const (.str [120, 111, 114])) .nil))))) l_law_k15_0) .nil
def b_law_k15 : Ss := .cons (.shr 1) (.cons (.set 2 (.bin .add (.const (.int 4)) (.call 37 (.cons (.slot 0) (.cons (.slot 1) (.cons (.const (.int 2)) .nil)))))) (.cons (.set 3 (.call 110 (.cons (.slot 0) (.cons (.slot 1) (.cons (.slot 2) (.cons (.const (.int 8)) .nil)))))) (.cons (.set 4 (.bin .add c_law_k15_0 (.lst (.cons (.tup (.cons (.const (.str [108, 101, 110, 103, 116, 104])) .nil)) .nil)))) (.cons (.set 4 (.bin .add (.slot 4) c_law_k15_1)) (.cons (.set 5 (.lst .nil)) (.cons (.for [6] true (.val (.slot 4)) l_law_k15_1) (.cons (.set 7 (.call 116 (.cons (.slot 2) (.cons (.slot 3) .nil)))) (.cons (.ite (.cmp .ne (.slot 7) (.bi .sorted (.cons (.slot 5) .nil))) (.cons (.ret (.const (.bl false))) .nil) .nil) (.cons (.ite (.cmpS .eq 7 (.lst .nil)) (.cons (.ret (.const (.bl true))) .nil) .nil) (.cons (.unp [6, 8] (.call 38 (.cons (.slot 0) (.cons (.slot 1) (.cons (.slot 7) .nil))))) (.cons (.ret (.cmp .isin (.tup (.cons (.slot 6) (.cons (.slot 8) .nil))) (.call 80 (.cons (.slot 2) (.cons (.call 108 (.cons (.slot 2) (.cons (.slot 3) (.cons (.slot 6) (.cons (.slot 8) .nil))))) .nil))))) .nil)))))))))))
def d_law_k15 : Def := ⟨12, 1, b_law_k15⟩
abbrev f_law_k15 : Nat := 118
def b_law_ask_11 : Ss := .cons (.tryRet (.cons (.ret (.ite (.cmp .eq (.slot 0) (.const (.int 0))) (.call 108 (.cons (.slot 1) (.cons (.slot 2) (.cons (.slot 3) (.cons (.slot 4) .nil))))) (.call 116 (.cons (.slot 1) (.cons (.slot 2) .nil))))) .nil) [0] (.which 5 113)) .nil
def d_law_ask_11 : Def := ⟨6, 5, b_law_ask_11⟩
abbrev f_law_ask_11 : Nat := 119
def c_law_k16_0 : E := .comp (.call 119 (.cons (.slot 8) (.cons (.slot 2) (.cons (.slot 4) (.cons (.slot 5) (.cons (.const .non) .nil)))))) [8] true (.range1 (.const (.int 2))) .none [8]
def c_law_k16_1 : E := .comp (.call 119 (.cons (.slot 8) (.cons (.const (.int 4)) (.cons (.slot 4) (.cons (.slot 5) (.cons (.const .non) .nil)))))) [8] true (.range1 (.const (.int 2))) .none [8]
def b_law_k16 : Ss := .cons (.shr 1) (.cons (.set 2 (.call 38 (.cons (.slot 0) (.cons (.slot 1) (.cons (.lst (.cons (.const .non) (.cons (.const (.int 3)) (.cons (.const (.int 7)) (.cons (.const (.bl true)) (.cons (.const (.str [52])) (.cons (.tup (.cons (.const (.int 4)) .nil)) .nil))))))) .nil))))) (.cons (.set 3 (.lst (.cons (.const .non) (.cons (.lst .nil) (.cons (.tup .nil) (.cons (.lst (.cons (.tup .nil) .nil)) (.cons (.bin .mul (.lst (.cons (.tup (.cons (.const (.int 1)) .nil)) .nil)) (.const (.int 11))) (.cons (.lst (.cons (.tup (.cons (.const (.int 16)) .nil)) .nil)) (.cons (.lst (.cons (.lst (.cons (.const (.int 1)) .nil)) .nil)) (.cons (.tup (.cons (.tup (.cons (.const (.int 1)) .nil)) .nil)) (.cons (.lst (.cons (.tup (.cons (.const (.int 1)) .nil)) (.cons (.const (.int 5)) .nil))) (.cons (.lst (.cons (.tup (.cons (.neg (.const (.int 1))) .nil)) .nil)) (.cons (.lst (.cons (.tup (.cons (.const (.bl true)) .nil)) .nil)) .nil))))))))))))) (.cons (.set 4 (.call 38 (.cons (.slot 0) (.cons (.slot 1) (.cons (.slot 3) .nil))))) (.cons (.set 5 (.call 38 (.cons (.slot 0) (.cons (.slot 1) (.cons (.lst (.cons (.const .non) (.cons (.tup .nil) (.cons (.tup (.cons (.const (.str [102, 105, 120, 101, 100])) .nil)) (.cons (.tup (.cons (.const (.str [102, 105, 120, 101, 100])) (.cons (.const (.int 0)) .nil))) (.cons (.tup (.cons (.const (.str [102, 105, 120, 101, 100])) (.cons (.const (.int 10)) .nil))) (.cons (.tup (.cons (.const (.str [108, 101, 110, 103, 116, 104])) (.cons (.const (.int 1)) .nil))) (.cons (.tup (.cons (.const (.str [109, 97, 114, 107])) (.cons (.const (.int 16)) .nil))) .nil)))))))) .nil))))) (.cons (.ite (.cmp .ne c_law_k16_0 (.bin .mul (.lst (.cons (.tup (.cons (.const (.str [114, 101, 102, 117, 115, 101, 100])) (.cons (.const (.int 0)) .nil))) .nil)) (.const (.int 2)))) (.cons (.ret (.const (.bl false))) .nil) .nil) (.cons (.ite (.cmp .ne c_law_k16_1 (.bin .mul (.lst (.cons (.tup (.cons (.const (.str [114, 101, 102, 117, 115, 101, 100])) (.cons (.const (.int 9)) .nil))) .nil)) (.const (.int 2)))) (.cons (.ret (.const (.bl false))) .nil) .nil) (.cons (.set 6 (.lst (.cons (.tup (.cons (.const (.int 1)) (.cons (.const (.int 2)) .nil))) (.cons (.tup (.cons (.const (.int 3)) (.cons (.const (.int 4)) .nil))) .nil)))) (.cons (.ite (.cmp .ne (.call 119 (.cons (.const (.int 0)) (.cons (.const (.int 4)) (.cons (.slot 6) (.cons (.slot 5) (.cons (.const (.str [110, 111, 110, 101])) .nil)))))) (.tup (.cons (.const (.str [114, 101, 102, 117, 115, 101, 100])) (.cons (.const (.int 6)) .nil)))) (.cons (.ret (.const (.bl false))) .nil) .nil) (.cons (.set 7 (.call 38 (.cons (.slot 0) (.cons (.slot 1) (.cons (.lst (.cons (.const .non) (.cons (.const (.str [])) (.cons (.const (.str [97, 100, 100])) (.cons (.const (.int 5)) (.cons (.tup (.cons (.const (.str [115, 117, 109])) .nil)) .nil)))))) .nil))))) (.cons (.ite (.cmp .ne (.call 119 (.cons (.const (.int 0)) (.cons (.const (.int 4)) (.cons (.slot 6) (.cons (.tup (.cons (.const (.str [108, 101, 110, 103, 116, 104])) .nil)) (.cons (.slot 7) .nil)))))) (.tup (.cons (.const (.str [114, 101, 102, 117, 115, 101, 100])) (.cons (.const (.int 6)) .nil)))) (.cons (.ret (.const (.bl false))) .nil) .nil) (.cons (.ret (.cmp .eq (.call 119 (.cons (.const (.int 0)) (.cons (.const (.int 4)) (.cons (.slot 6) (.cons (.tup (.cons (.const (.str [102, 105, 120, 101, 100])) (.cons (.const (.int 3)) .nil))) (.cons (.const (.str [110, 111, 110, 101])) .nil)))))) (.tup (.cons (.const (.str [114, 101, 102, 117, 115, 101, 100])) (.cons (.const (.int 9)) .nil))))) .nil)))))))))))
def d_law_k16 : Def := ⟨9, 1, b_law_k16⟩
abbrev f_law_k16 : Nat := 120
def l_runs_of_0 : Ss := .cons (.ite (.and (.cmpS .ne 1 (.lst .nil)) (.cmp .eq (.sub (.subS 1 (.neg (.const (.int 1)))) (.const (.int 0))) (.slot 2))) (.cons (.put 1 (.neg (.const (.int 1))) (.tup (.cons (.slot 2) (.cons (.bin .add (.sub (.subS 1 (.neg (.const (.int 1)))) (.const (.int 1))) (.const (.int 1))) .nil)))) .nil) (.cons (.app 1 (.tup (.cons (.slot 2) (.cons (.const (.int 1)) .nil)))) .nil)) .nil
def b_runs_of : Ss := .cons (.set 1 (.lst .nil)) (.cons (.for [2] true (.val (.slot 0)) l_runs_of_0) (.cons (.retS 1) .nil))
def d_runs_of : Def := ⟨3, 1, b_runs_of⟩
abbrev f_runs_of : Nat := 121
def b_runs : Ss := .cons (.expr (.call 16 (.cons (.slot 0) .nil))) (.cons (.ret (.call 121 (.cons (.slot 0) .nil))) .nil)
def d_runs : Def := ⟨1, 1, b_runs⟩
abbrev f_runs : Nat := 122
def l_are_runs_0 : Ss := .cons (.ite (.or (.not (.isin (.slot 1) [.tuple])) (.or (.cmp .ne (.lenS 1) (.const (.int 2))) (.or (.not (.isin (.subS 1 (.const (.int 0))) [.str])) (.cmp .notin (.subS 1 (.const (.int 0))) (.tup (.cons (.const (.str [48])) (.cons (.const (.str [49])) .nil))))))) (.cons (.ret (.const (.bl false))) .nil) .nil) (.cons (.ite (.not (.call 1 (.cons (.subS 1 (.const (.int 1))) (.cons (.const (.int 1)) (.cons (.glob (.v (.int 200))) .nil))))) (.cons (.ret (.const (.bl false))) .nil) .nil) .nil)
def c_are_runs_0 : E := .comp (.cmp .ne (.subS 1 (.const (.int 0))) (.subS 2 (.const (.int 0)))) [1, 2] false (.zip (.slot 0) (.cut (.slot 0) (.const (.int 1)) (.const .non))) .none [1, 2]
def b_are_runs : Ss := .cons (.ite (.or (.not (.isin (.slot 0) [.list])) (.cmpS .eq 0 (.lst .nil))) (.cons (.ret (.const (.bl false))) .nil) .nil) (.cons (.for [1] true (.val (.slot 0)) l_are_runs_0) (.cons (.ret (.bi .all (.cons c_are_runs_0 .nil))) .nil))
def d_are_runs : Def := ⟨3, 1, b_are_runs⟩
abbrev f_are_runs : Nat := 123
def c_from_runs_0 : E := .comp (.slot 2) [1, 2] false (.val (.slot 0)) .none [1, 2]
def c_from_runs_1 : E := .comp (.bin .mul (.slot 1) (.slot 2)) [1, 2] false (.val (.slot 0)) .none [1, 2]
def b_from_runs : Ss := .cons (.ite (.not (.call 123 (.cons (.slot 0) .nil))) (.cons (.raise 11) .nil) .nil) (.cons (.ite (.cmp .gt (.bi .sum (.cons c_from_runs_0 .nil)) (.glob (.v (.int 200)))) (.cons (.raise 6) .nil) .nil) (.cons (.ret (.join [] c_from_runs_1)) .nil))
def d_from_runs : Def := ⟨3, 1, b_from_runs⟩
abbrev f_from_runs : Nat := 124
def c_slower_0 : E := .comp (.bin .mul (.slot 2) (.slot 1)) [2] true (.val (.slot 0)) .none [2]
def b_slower : Ss := .cons (.expr (.call 16 (.cons (.slot 0) .nil))) (.cons (.ite (.not (.call 1 (.cons (.slot 1) (.cons (.const (.int 1)) (.cons (.glob (.v (.int 6))) .nil))))) (.cons (.raise 12) .nil) .nil) (.cons (.ite (.cmp .gt (.bin .mul (.slot 1) (.lenS 0)) (.glob (.v (.int 200)))) (.cons (.raise 6) .nil) .nil) (.cons (.ret (.join [] c_slower_0)) .nil)))
def d_slower : Def := ⟨3, 2, b_slower⟩
abbrev f_slower : Nat := 125
def c_falls_0 : E := .comp (.slot 1) [1] true (.range1 (.lenS 0)) (.some (.and (.cmp .eq (.subS 0 (.slot 1)) (.const (.str [48]))) (.or (.cmp .eq (.slot 1) (.const (.int 0))) (.cmp .eq (.subS 0 (.bin .sub (.slot 1) (.const (.int 1)))) (.const (.str [49])))))) [1]
def b_falls : Ss := .cons (.expr (.call 16 (.cons (.slot 0) .nil))) (.cons (.ret c_falls_0) .nil)
def d_falls : Def := ⟨2, 1, b_falls⟩
abbrev f_falls : Nat := 126
def b_law_form_3 : Ss := .cons (.set 2 (.call 38 (.cons (.slot 0) (.cons (.slot 1) (.cons (.lst (.cons (.const (.int 1)) (.cons (.const (.int 1)) (.cons (.const (.int 2)) (.cons (.const (.int 2)) (.cons (.const (.int 3)) (.cons (.const (.int 4)) (.cons (.const (.int 5)) (.cons (.const (.int 6)) .nil))))))))) .nil))))) (.cons (.set 3 (.call 38 (.cons (.slot 0) (.cons (.slot 1) (.cons (.lst (.cons (.const (.str [108, 111, 119])) (.cons (.const (.str [104, 105, 103, 104])) .nil))) .nil))))) (.cons (.set 4 (.call 38 (.cons (.slot 0) (.cons (.slot 1) (.cons (.lst (.cons (.const (.str [110, 111, 110, 101])) (.cons (.const (.str [101, 118, 101, 110])) (.cons (.const (.str [111, 100, 100])) .nil)))) .nil))))) (.cons (.ret (.tup (.cons (.slot 2) (.cons (.bin .add (.const (.int 4)) (.call 37 (.cons (.slot 0) (.cons (.slot 1) (.cons (.const (.int 3)) .nil))))) (.cons (.slot 3) (.cons (.slot 4) (.cons (.bin .add (.const (.int 1)) (.call 37 (.cons (.slot 0) (.cons (.slot 1) (.cons (.const (.int 2)) .nil))))) .nil))))))) .nil)))
def d_law_form_3 : Def := ⟨5, 2, b_law_form_3⟩
abbrev f_law_form_3 : Nat := 127
def c_law_frame_2_0 : E := .comp (.bin .mod (.bin .fdiv (.slot 1) (.sub (.lst (.cons (.const (.int 1)) (.cons (.const (.int 2)) (.cons (.const (.int 4)) (.cons (.const (.int 8)) (.cons (.const (.int 16)) (.cons (.const (.int 32)) .nil))))))) (.slot 10))) (.const (.int 2))) [10] true (.range1 (.slot 6)) .none [10]
def c_law_frame_2_1 : E := .comp (.bin .mul (.bi .str (.cons (.slot 11) .nil)) (.slot 5)) [11] true (.val (.bin .add (.bin .add (.bin .add (.lst (.cons (.const (.int 0)) .nil)) (.slot 2)) (.slot 4)) (.bin .mul (.lst (.cons (.const (.int 1)) .nil)) (.slot 9)))) .none [11]
def b_law_frame_2 : Ss := .cons (.unp [5, 6, 7, 8, 9] (.slot 0)) (.cons (.set 2 c_law_frame_2_0) (.cons (.set 2 (.ite (.cmp .eq (.slot 7) (.const (.str [108, 111, 119]))) (.slot 2) (.rev (.slot 2)))) (.cons (.set 3 (.bin .mod (.bi .sum (.cons (.slot 2) .nil)) (.const (.int 2)))) (.cons (.set 4 (.pick [[110, 111, 110, 101], [101, 118, 101, 110], [111, 100, 100]] (.cons (.lst .nil) (.cons (.lst (.cons (.slot 3) .nil)) (.cons (.lst (.cons (.bin .sub (.const (.int 1)) (.slot 3)) .nil)) .nil))) (.slot 8))) (.cons (.ret (.join [] c_law_frame_2_1)) .nil)))))
def d_law_frame_2 : Def := ⟨12, 2, b_law_frame_2⟩
abbrev f_law_frame_2 : Nat := 128
def b_law_long_2 : Ss := .cons (.ret (.bi .len (.cons (.call 128 (.cons (.slot 0) (.cons (.const (.int 0)) .nil))) .nil))) .nil
def d_law_long_2 : Def := ⟨1, 1, b_law_long_2⟩
abbrev f_law_long_2 : Nat := 129
def l_law_samples_2_0 : Ss := .cons (.set 8 (.call 37 (.cons (.slot 0) (.cons (.slot 1) (.cons (.call 38 (.cons (.slot 0) (.cons (.slot 1) (.cons (.lst (.cons (.const (.int 1)) (.cons (.const (.int 4)) (.cons (.const (.int 12)) .nil)))) .nil)))) .nil))))) (.cons (.set 9 (.call 37 (.cons (.slot 0) (.cons (.slot 1) (.cons (.sub (.lst (.cons (.const (.int 16)) (.cons (.const (.int 32)) (.cons (.const (.int 64)) .nil)))) (.bin .sub (.subS 2 (.const (.int 1))) (.const (.int 4)))) .nil))))) (.cons (.set 10 (.bin .add (.bin .mul (.const (.str [49])) (.slot 8)) (.call 128 (.cons (.slot 2) (.cons (.slot 9) .nil))))) (.cons (.ite (.cmp .le (.bi .len (.cons (.bin .add (.slot 6) (.slot 10)) .nil)) (.slot 3)) (.cons (.par [6, 7] (.cons (.bin .add (.slot 6) (.slot 10)) (.cons (.bin .add (.slot 7) (.tup (.cons (.tup (.cons (.slot 8) (.cons (.slot 9) .nil))) .nil))) .nil))) .nil) .nil) .nil)))
def b_law_samples_2 : Ss := .cons (.par [6, 7] (.cons (.const (.str [])) (.cons (.tup .nil) .nil))) (.cons (.for [4] true (.range1 (.bin .add (.const (.int 1)) (.call 37 (.cons (.slot 0) (.cons (.slot 1) (.cons (.const (.int 4)) .nil)))))) l_law_samples_2_0) (.cons (.ite (.cmp .eq (.slot 7) (.tup .nil)) (.cons (.par [6, 7] (.cons (.call 128 (.cons (.slot 2) (.cons (.const (.int 1)) .nil))) (.cons (.tup (.cons (.tup (.cons (.const (.int 0)) (.cons (.const (.int 1)) .nil))) .nil)) .nil))) .nil) .nil) (.cons (.set 5 (.call 37 (.cons (.slot 0) (.cons (.slot 1) (.cons (.const (.int 9)) .nil))))) (.cons (.ret (.tup (.cons (.bin .add (.slot 6) (.bin .mul (.const (.str [49])) (.slot 5))) (.cons (.slot 7) (.cons (.slot 5) .nil))))) .nil))))
def d_law_samples_2 : Def := ⟨11, 4, b_law_samples_2⟩
abbrev f_law_samples_2 : Nat := 130
def c_law_k17_0 : E := .comp (.call 38 (.cons (.slot 0) (.cons (.slot 1) (.cons (.lst (.cons (.const (.str [48])) (.cons (.const (.str [49])) .nil))) .nil)))) [14] true (.range1 (.bin .add (.const (.int 1)) (.call 37 (.cons (.slot 0) (.cons (.slot 1) (.cons (.const (.int 60)) .nil)))))) .none [14]
def c_law_k17_1 : E := .comp (.bin .mul (.slot 12) (.slot 13)) [12, 13] false (.val (.slot 5)) .none [12, 13]
def c_law_k17_2 : E := .comp (.slot 13) [12, 13] false (.val (.slot 5)) .none [12, 13]
def l_law_k17_0 : Ss := .cons (.ite (.cmp .eq (.subS 8 (.const (.int 0))) (.subS 9 (.const (.int 0)))) (.cons (.ret (.const (.bl false))) .nil) .nil) .nil
def l_law_k17_1 : Ss := .cons (.set 10 (.bin .add (.slot 10) (.bin .mul (.lst (.cons (.slot 11) .nil)) (.bi .int (.cons (.cmp .eq (.slot 12) (.const (.str [48]))) .nil))))) (.cons (.set 11 (.bin .add (.slot 11) (.slot 13))) .nil)
def c_law_k17_3 : E := .comp (.tup (.cons (.slot 12) (.cons (.bin .mul (.slot 13) (.slot 6)) .nil))) [12, 13] false (.val (.slot 5)) .none [12, 13]
def b_law_k17 : Ss := .cons (.shr 1) (.cons (.set 2 (.call 37 (.cons (.slot 0) (.cons (.slot 1) (.cons (.const (.int 2)) .nil))))) (.cons (.set 3 (.call 127 (.cons (.slot 0) (.cons (.slot 1) .nil)))) (.cons (.set 4 (.sub (.call 130 (.cons (.slot 0) (.cons (.slot 1) (.cons (.slot 3) (.cons (.const (.int 180)) .nil))))) (.const (.int 0)))) (.cons (.ite (.cmp .eq (.slot 2) (.const (.int 0))) (.cons (.set 4 (.join [] c_law_k17_0)) .nil) .nil) (.cons (.set 5 (.call 122 (.cons (.slot 4) .nil))) (.cons (.ite (.or (.cmp .ne (.join [] c_law_k17_1) (.slot 4)) (.cmp .lt (.bi .min (.cons c_law_k17_2 .nil)) (.const (.int 1)))) (.cons (.ret (.const (.bl false))) .nil) .nil) (.cons (.for [8, 9] false (.zip (.slot 5) (.cut (.slot 5) (.const (.int 1)) (.const .non))) l_law_k17_0) (.cons (.par [10, 11] (.cons (.lst .nil) (.cons (.const (.int 0)) .nil))) (.cons (.for [12, 13] false (.val (.slot 5)) l_law_k17_1) (.cons (.ite (.or (.cmp .ne (.call 124 (.cons (.slot 5) .nil)) (.slot 4)) (.cmp .ne (.call 126 (.cons (.slot 4) .nil)) (.slot 10))) (.cons (.ret (.const (.bl false))) .nil) .nil) (.cons (.set 6 (.bin .add (.const (.int 1)) (.call 37 (.cons (.slot 0) (.cons (.slot 1) (.cons (.bi .max (.cons (.const (.int 1)) (.cons (.bi .min (.cons (.const (.int 6)) (.cons (.bin .fdiv (.const (.int 200)) (.lenS 4)) .nil))) .nil))) .nil)))))) (.cons (.set 7 (.call 125 (.cons (.slot 4) (.cons (.slot 6) .nil)))) (.cons .stuck .nil)))))))))))))
def d_law_k17 : Def := ⟨15, 1, b_law_k17⟩
abbrev f_law_k17 : Nat := 131
def c_paces_0 : E := .comp (.subS 1 (.const (.int 0))) [1] true (.val (.call 54 (.cons (.slot 0) .nil))) .none [1]
def b_paces : Ss := .cons (.ret (.bi .sorted (.cons (.bi .set (.cons c_paces_0 .nil)) .nil))) .nil
def d_paces : Def := ⟨2, 1, b_paces⟩
abbrev f_paces : Nat := 132
def c_law_k18_0 : E := .comp (.subS 12 (.const (.int 0))) [12] true (.val (.call 54 (.cons (.slot 7) .nil))) .none [12]
def c_law_k18_1 : E := .comp (.tup (.cons (.bin .mul (.slot 4) (.slot 10)) (.cons (.slot 11) .nil))) [10, 11] false (.val (.slot 8)) .none [10, 11]
def b_law_k18 : Ss := .cons (.shr 1) (.cons (.set 2 (.call 127 (.cons (.slot 0) (.cons (.slot 1) .nil)))) (.cons (.unp [7, 8, 9] (.call 130 (.cons (.slot 0) (.cons (.slot 1) (.cons (.slot 2) (.cons (.const (.int 180)) .nil)))))) (.cons (.ite (.cmp .ne (.call 28 (.cons (.slot 2) (.cons (.slot 7) .nil))) (.tup (.cons (.slot 8) (.cons (.slot 9) .nil)))) (.cons (.ret (.const (.bl false))) .nil) .nil) (.cons (.set 3 (.call 132 (.cons (.slot 7) .nil))) (.cons (.ite (.or (.cmp .ne (.slot 3) (.bi .sorted (.cons (.bi .set (.cons c_law_k18_0 .nil)) .nil))) (.inS true (.subS 2 (.const (.int 0))) 3)) (.cons (.ret (.const (.bl false))) .nil) .nil) (.cons (.set 4 (.bin .add (.const (.int 1)) (.call 37 (.cons (.slot 0) (.cons (.slot 1) (.cons (.const (.int 6)) .nil)))))) (.cons (.ite (.or (.cmp .gt (.bin .mul (.slot 4) (.subS 2 (.const (.int 0)))) (.const (.int 6))) (.cmp .gt (.bin .mul (.slot 4) (.lenS 7)) (.const (.int 200)))) (.cons (.ret (.const (.bl true))) .nil) .nil) (.cons (.set 5 (.call 125 (.cons (.slot 7) (.cons (.slot 4) .nil)))) (.cons (.set 6 (.tup (.cons (.bi .tuple (.cons c_law_k18_1 .nil)) (.cons (.bin .mul (.slot 4) (.slot 9)) .nil)))) (.cons (.ret (.and (.cmp .eq (.call 28 (.cons (.bin .add (.tup (.cons (.bin .mul (.slot 4) (.subS 2 (.const (.int 0)))) .nil)) (.cut (.slot 2) (.const (.int 1)) (.const .non))) (.cons (.slot 5) .nil))) (.slot 6)) (.cmp .isin (.bin .mul (.slot 4) (.subS 2 (.const (.int 0)))) (.call 132 (.cons (.slot 5) .nil))))) .nil))))))))))
def d_law_k18 : Def := ⟨13, 1, b_law_k18⟩
abbrev f_law_k18 : Nat := 133
def b_law_odd_form : Ss := .cons (.set 2 (.lst (.cons (.const .non) (.cons (.const (.int 5)) (.cons (.tup .nil) (.cons (.tup (.cons (.const (.int 1)) (.cons (.const (.int 4)) (.cons (.const (.str [108, 111, 119])) (.cons (.const (.str [110, 111, 110, 101])) .nil))))) (.cons (.tup (.cons (.const (.int 0)) (.cons (.const (.int 4)) (.cons (.const (.str [108, 111, 119])) (.cons (.const (.str [110, 111, 110, 101])) (.cons (.const (.int 1)) .nil)))))) (.cons (.tup (.cons (.const (.int 7)) (.cons (.const (.int 4)) (.cons (.const (.str [108, 111, 119])) (.cons (.const (.str [110, 111, 110, 101])) (.cons (.const (.int 1)) .nil)))))) .nil)))))))) (.cons (.set 2 (.bin .add (.slot 2) (.lst (.cons (.tup (.cons (.const (.int 1)) (.cons (.const (.int 3)) (.cons (.const (.str [108, 111, 119])) (.cons (.const (.str [110, 111, 110, 101])) (.cons (.const (.int 1)) .nil)))))) (.cons (.tup (.cons (.const (.int 1)) (.cons (.const (.int 7)) (.cons (.const (.str [108, 111, 119])) (.cons (.const (.str [110, 111, 110, 101])) (.cons (.const (.int 1)) .nil)))))) (.cons (.tup (.cons (.const (.int 1)) (.cons (.const (.int 4)) (.cons (.const (.str [108, 101, 97, 115, 116])) (.cons (.const (.str [110, 111, 110, 101])) (.cons (.const (.int 1)) .nil)))))) .nil)))))) (.cons (.set 2 (.bin .add (.slot 2) (.lst (.cons (.tup (.cons (.const (.int 1)) (.cons (.const (.int 4)) (.cons (.const (.str [108, 111, 119])) (.cons (.const (.str [110, 111])) (.cons (.const (.int 1)) .nil)))))) (.cons (.tup (.cons (.const (.int 1)) (.cons (.const (.int 4)) (.cons (.const (.str [108, 111, 119])) (.cons (.const (.str [110, 111, 110, 101])) (.cons (.const (.int 3)) .nil)))))) (.cons (.tup (.cons (.const (.bl true)) (.cons (.const (.int 4)) (.cons (.const (.str [108, 111, 119])) (.cons (.const (.str [110, 111, 110, 101])) (.cons (.const (.int 1)) .nil)))))) .nil)))))) (.cons (.ret (.call 38 (.cons (.slot 0) (.cons (.slot 1) (.cons (.bin .add (.slot 2) (.lst (.cons (.lst (.cons (.const (.int 1)) (.cons (.const (.int 4)) (.cons (.const (.str [108, 111, 119])) (.cons (.const (.str [110, 111, 110, 101])) (.cons (.const (.int 1)) .nil)))))) (.cons (.tup (.cons (.const (.int 1)) (.cons (.const (.int 4)) (.cons (.const (.str [108, 111, 119])) (.cons (.const .non) (.cons (.const (.int 1)) .nil)))))) (.cons (.const (.str [49, 32, 116, 105, 99, 107])) .nil))))) .nil))))) .nil)))
def d_law_odd_form : Def := ⟨3, 2, b_law_odd_form⟩
abbrev f_law_odd_form : Nat := 134
def b_law_odd_samples : Ss := .cons (.ret (.call 38 (.cons (.slot 0) (.cons (.slot 1) (.cons (.lst (.cons (.const .non) (.cons (.const (.int 5)) (.cons (.const (.str [])) (.cons (.const (.str [50])) (.cons (.const (.str [48, 49, 32])) (.cons (.bin .mul (.const (.str [48])) (.const (.int 201))) (.cons (.tup (.cons (.const (.str [48])) (.cons (.const (.str [49])) .nil))) (.cons (.lst (.cons (.const (.str [48])) .nil)) (.cons (.const (.str [79])) .nil)))))))))) .nil))))) .nil
def d_law_odd_samples : Def := ⟨2, 2, b_law_odd_samples⟩
abbrev f_law_odd_samples : Nat := 135
def b_law_ask_12 : Ss := .cons (.tryRet (.cons (.ite (.cmp .lt (.slot 0) (.const (.int 2))) (.cons (.ret (.ite (.cmp .eq (.slot 0) (.const (.int 0))) (.call 124 (.cons (.slot 1) .nil)) (.call 125 (.cons (.slot 1) (.cons (.slot 2) .nil))))) .nil) .nil) (.cons (.ret (.callSel [122, 132, 126] (.bin .sub (.slot 0) (.const (.int 2))) (.cons (.slot 1) .nil))) .nil)) [0] (.which 3 113)) .nil
def d_law_ask_12 : Def := ⟨4, 3, b_law_ask_12⟩
abbrev f_law_ask_12 : Nat := 136
def c_law_k19_0 : E := .comp (.call 136 (.cons (.slot 5) (.cons (.slot 2) (.cons (.const .non) .nil)))) [5] true (.range2 (.const (.int 1)) (.const (.int 5))) .none [5]
def b_law_k19 : Ss := .cons (.shr 1) (.cons (.set 2 (.call 135 (.cons (.slot 0) (.cons (.slot 1) .nil)))) (.cons (.ite (.cmp .ne c_law_k19_0 (.bin .mul (.lst (.cons (.tup (.cons (.const (.str [114, 101, 102, 117, 115, 101, 100])) (.cons (.const (.int 1)) .nil))) .nil)) (.const (.int 4)))) (.cons (.ret (.const (.bl false))) .nil) .nil) (.cons (.set 3 (.lst (.cons (.const .non) (.cons (.lst .nil) (.cons (.tup .nil) (.cons (.lst (.cons (.tup (.cons (.const (.str [48])) (.cons (.const (.int 1)) .nil))) (.cons (.tup (.cons (.const (.str [48])) (.cons (.const (.int 1)) .nil))) .nil))) (.cons (.lst (.cons (.tup (.cons (.const (.str [48])) (.cons (.const (.int 0)) .nil))) .nil)) (.cons (.lst (.cons (.tup (.cons (.const (.str [50])) (.cons (.const (.int 1)) .nil))) .nil)) (.cons (.lst (.cons (.tup (.cons (.const (.str [48])) (.cons (.const (.int 201)) .nil))) .nil)) (.cons (.lst (.cons (.lst (.cons (.const (.str [48])) (.cons (.const (.int 1)) .nil))) .nil)) (.cons (.lst (.cons (.tup (.cons (.const (.str [48])) .nil)) .nil)) (.cons (.const (.str [48])) .nil)))))))))))) (.cons (.set 3 (.bin .add (.slot 3) (.lst (.cons (.lst (.cons (.tup (.cons (.const (.str [48])) (.cons (.const (.bl true)) .nil))) .nil)) (.cons (.lst (.cons (.tup (.cons (.const (.int 0)) (.cons (.const (.int 1)) .nil))) .nil)) (.cons (.tup (.cons (.tup (.cons (.const (.str [48])) (.cons (.const (.int 1)) .nil))) .nil)) (.cons (.lst (.cons (.tup (.cons (.const (.str [48])) (.cons (.const (.int 1)) .nil))) (.cons (.const .non) .nil))) .nil))))))) (.cons (.ite (.cmp .ne (.call 136 (.cons (.const (.int 0)) (.cons (.call 38 (.cons (.slot 0) (.cons (.slot 1) (.cons (.slot 3) .nil)))) (.cons (.const .non) .nil)))) (.tup (.cons (.const (.str [114, 101, 102, 117, 115, 101, 100])) (.cons (.const (.int 10)) .nil)))) (.cons (.ret (.const (.bl false))) .nil) .nil) (.cons (.ite (.cmp .ne (.call 136 (.cons (.const (.int 0)) (.cons (.lst (.cons (.tup (.cons (.const (.str [48])) (.cons (.const (.int 100)) .nil))) (.cons (.tup (.cons (.const (.str [49])) (.cons (.const (.int 101)) .nil))) .nil))) (.cons (.const .non) .nil)))) (.tup (.cons (.const (.str [114, 101, 102, 117, 115, 101, 100])) (.cons (.const (.int 5)) .nil)))) (.cons (.ret (.const (.bl false))) .nil) .nil) (.cons (.ite (.cmp .ne (.call 136 (.cons (.const (.int 1)) (.cons (.const (.str [48, 49])) (.cons (.call 38 (.cons (.slot 0) (.cons (.slot 1) (.cons (.lst (.cons (.const .non) (.cons (.const (.int 0)) (.cons (.const (.int 7)) (.cons (.const (.bl true)) (.cons (.const (.str [50])) .nil)))))) .nil)))) .nil)))) (.tup (.cons (.const (.str [114, 101, 102, 117, 115, 101, 100])) (.cons (.const (.int 11)) .nil)))) (.cons (.ret (.const (.bl false))) .nil) .nil) (.cons (.set 4 (.bin .add (.const (.int 2)) (.call 37 (.cons (.slot 0) (.cons (.slot 1) (.cons (.const (.int 5)) .nil)))))) (.cons (.ret (.and (.cmp .eq (.call 136 (.cons (.const (.int 1)) (.cons (.bin .mul (.const (.str [48])) (.bin .add (.bin .fdiv (.const (.int 200)) (.slot 4)) (.const (.int 1)))) (.cons (.slot 4) .nil)))) (.tup (.cons (.const (.str [114, 101, 102, 117, 115, 101, 100])) (.cons (.const (.int 5)) .nil)))) (.cmp .eq (.call 136 (.cons (.const (.int 0)) (.cons (.lst (.cons (.tup (.cons (.const (.str [49])) (.cons (.const (.int 200)) .nil))) .nil)) (.cons (.const .non) .nil)))) (.bin .mul (.const (.str [49])) (.const (.int 200)))))) .nil)))))))))
def d_law_k19 : Def := ⟨6, 1, b_law_k19⟩
abbrev f_law_k19 : Nat := 137
def l_ways_0 : Ss := .cons (.set 4 (.subS 2 (.bin .sub (.slot 3) (.const (.int 1))))) (.cons (.ite (.cmp .ge (.slot 3) (.call 12 (.cons (.slot 0) .nil))) (.cons (.set 4 (.bin .add (.slot 4) (.bin .mul (.bin .add (.call 5 (.cons (.subS 0 (.const (.int 1))) .nil)) (.const (.int 1))) (.subS 2 (.bin .sub (.slot 3) (.call 12 (.cons (.slot 0) .nil))))))) .nil) .nil) (.cons (.app 2 (.slot 4)) .nil))
def b_ways : Ss := .cons (.set 2 (.lst (.cons (.const (.int 1)) .nil))) (.cons (.for [3] true (.range2 (.const (.int 1)) (.bin .add (.slot 1) (.const (.int 1)))) l_ways_0) (.cons (.retS 2) .nil))
def d_ways : Def := ⟨5, 2, b_ways⟩
abbrev f_ways : Nat := 138
def b_need_ticks : Ss := .cons (.ite (.not (.call 1 (.cons (.slot 0) (.cons (.const (.int 1)) (.cons (.glob (.v (.int 60))) .nil))))) (.cons (.raise 12) .nil) .nil) .nil
def d_need_ticks : Def := ⟨1, 1, b_need_ticks⟩
abbrev f_need_ticks : Nat := 139
def b_how_many : Ss := .cons (.expr (.call 4 (.cons (.slot 0) .nil))) (.cons (.expr (.call 139 (.cons (.slot 1) .nil))) (.cons (.ret (.bin .sub (.sub (.call 138 (.cons (.slot 0) (.cons (.slot 1) .nil))) (.slot 1)) (.const (.int 1)))) .nil))
def d_how_many : Def := ⟨2, 2, b_how_many⟩
abbrev f_how_many : Nat := 140
def c_frames_rising_0 : E := .comp (.call 10 (.cons (.slot 0) (.cons (.slot 1) .nil))) [1] true (.range1 (.bin .add (.call 5 (.cons (.subS 0 (.const (.int 1))) .nil)) (.const (.int 1)))) .none [1]
def b_frames_rising : Ss := .cons (.ret (.bi .sorted (.cons c_frames_rising_0 .nil))) .nil
def d_frames_rising : Def := ⟨2, 1, b_frames_rising⟩
abbrev f_frames_rising : Nat := 141
def l_samples_at_0 : Ss := .cons (.set 5 (.bin .sub (.bin .sub (.slot 1) (.lenS 4)) (.call 12 (.cons (.slot 0) .nil)))) (.cons (.set 6 (.ite (.cmp .ge (.slot 5) (.const (.int 0))) (.subS 3 (.slot 5)) (.const (.int 0)))) (.cons (.ite (.cmp .lt (.slot 2) (.bin .mul (.slot 6) (.bin .add (.call 5 (.cons (.subS 0 (.const (.int 1))) .nil)) (.const (.int 1))))) (.cons (.set 4 (.bin .add (.slot 4) (.sub (.call 141 (.cons (.slot 0) .nil)) (.bin .fdiv (.slot 2) (.slot 6))))) (.cons (.set 2 (.bin .mod (.slot 2) (.slot 6))) .nil)) (.cons (.set 2 (.bin .sub (.slot 2) (.bin .mul (.slot 6) (.bin .add (.call 5 (.cons (.subS 0 (.const (.int 1))) .nil)) (.const (.int 1)))))) (.cons (.set 4 (.bin .add (.slot 4) (.const (.str [49])))) .nil))) .nil))
def b_samples_at : Ss := .cons (.expr (.call 4 (.cons (.slot 0) .nil))) (.cons (.expr (.call 139 (.cons (.slot 1) .nil))) (.cons (.ite (.not (.call 1 (.cons (.slot 2) (.cons (.const (.int 0)) (.cons (.bin .sub (.sub (.call 138 (.cons (.slot 0) (.cons (.slot 1) .nil))) (.slot 1)) (.const (.int 2))) .nil))))) (.cons (.raise 12) .nil) .nil) (.cons (.set 3 (.call 138 (.cons (.slot 0) (.cons (.slot 1) .nil)))) (.cons (.set 4 (.const (.str []))) (.cons (.while (.cmp .lt (.lenS 4) (.slot 1)) l_samples_at_0) (.cons (.retS 4) .nil))))))
def d_samples_at : Def := ⟨7, 3, b_samples_at⟩
abbrev f_samples_at : Nat := 142
def l_number_in_0 : Ss := .cons (.set 5 (.bin .sub (.bin .sub (.lenS 1) (.slot 4)) (.call 12 (.cons (.slot 0) .nil)))) (.cons (.set 6 (.ite (.cmp .ge (.slot 5) (.const (.int 0))) (.subS 2 (.slot 5)) (.const (.int 0)))) (.cons (.ite (.cmp .eq (.subS 1 (.slot 4)) (.const (.str [48]))) (.cons (.set 7 (.call 10 (.cons (.slot 0) (.cons (.call 26 (.cons (.slot 0) (.cons (.slot 1) (.cons (.slot 4) .nil)))) .nil)))) (.cons (.set 3 (.bin .add (.slot 3) (.bin .mul (.slot 6) (.meth .index (.call 141 (.cons (.slot 0) .nil)) (.cons (.slot 7) .nil))))) (.cons (.set 4 (.bin .add (.slot 4) (.call 12 (.cons (.slot 0) .nil)))) .nil))) (.cons (.set 3 (.bin .add (.slot 3) (.bin .mul (.slot 6) (.bin .add (.call 5 (.cons (.subS 0 (.const (.int 1))) .nil)) (.const (.int 1)))))) (.cons (.set 4 (.bin .add (.slot 4) (.const (.int 1)))) .nil))) .nil))
def b_number_in : Ss := .cons (.expr (.call 4 (.cons (.slot 0) .nil))) (.cons (.expr (.call 16 (.cons (.slot 1) .nil))) (.cons (.ite (.or (.cmp .gt (.lenS 1) (.glob (.v (.int 60)))) (.cmp .isN (.call 27 (.cons (.slot 0) (.cons (.slot 1) .nil))) (.const .non))) (.cons (.raise 2) .nil) .nil) (.cons (.set 2 (.call 138 (.cons (.slot 0) (.cons (.lenS 1) .nil)))) (.cons (.set 3 (.const (.int 0))) (.cons (.set 4 (.const (.int 0))) (.cons (.while (.cmp .lt (.slot 4) (.lenS 1)) l_number_in_0) (.cons (.retS 3) .nil)))))))
def d_number_in : Def := ⟨8, 2, b_number_in⟩
abbrev f_number_in : Nat := 143
def c_law_all_0 : E := .comp (.call 128 (.cons (.slot 0) (.cons (.slot 7) .nil))) [7] true (.range1 (.sub (.lst (.cons (.const (.int 16)) (.cons (.const (.int 32)) (.cons (.const (.int 64)) .nil)))) (.bin .sub (.subS 0 (.const (.int 1))) (.const (.int 4))))) .none [7]
def c_law_all_1 : E := .comp (.bin .add (.const (.str [49])) (.slot 9)) [9] true (.val (.subS 4 (.bin .sub (.slot 5) (.const (.int 1))))) .none [9]
def c_law_all_2 : E := .comp (.bin .add (.slot 8) (.slot 9)) [9] true (.val (.subS 4 (.bin .sub (.slot 5) (.slot 2)))) .none [9]
def l_law_all_0 : Ss := .cons (.ext 6 c_law_all_2) .nil
def l_law_all_1 : Ss := .cons (.set 6 c_law_all_1) (.cons (.ite (.cmp .ge (.slot 5) (.slot 2)) (.cons (.for [8] true (.val (.slot 3)) l_law_all_0) .nil) .nil) (.cons (.app 4 (.slot 6)) .nil))
def b_law_all : Ss := .cons (.set 2 (.call 129 (.cons (.slot 0) .nil))) (.cons (.set 3 c_law_all_0) (.cons (.set 4 (.lst (.cons (.lst (.cons (.const (.str [])) .nil)) .nil))) (.cons (.for [5] true (.range2 (.const (.int 1)) (.bin .add (.slot 1) (.const (.int 1)))) l_law_all_1) (.cons (.ret (.cut (.bi .sorted (.cons (.subS 4 (.slot 1)) .nil)) (.const .non) (.neg (.const (.int 1))))) .nil))))
def d_law_all : Def := ⟨10, 2, b_law_all⟩
abbrev f_law_all : Nat := 144
def l_law_k20_0 : Ss := .cons (.ite (.or (.cmp .ne (.call 142 (.cons (.slot 3) (.cons (.slot 4) (.cons (.slot 6) .nil)))) (.subS 5 (.slot 6))) (.cmp .ne (.call 143 (.cons (.slot 3) (.cons (.subS 5 (.slot 6)) .nil))) (.slot 6))) (.cons (.ret (.const (.bl false))) .nil) .nil) .nil
def b_law_k20 : Ss := .cons (.shr 1) (.cons (.set 2 (.call 37 (.cons (.slot 0) (.cons (.slot 1) (.cons (.const (.int 9973)) .nil))))) (.cons (.set 3 (.call 127 (.cons (.slot 0) (.cons (.slot 1) .nil)))) (.cons (.set 4 (.bi .min (.cons (.const (.int 60)) (.cons (.bin .add (.call 129 (.cons (.slot 3) .nil)) (.call 37 (.cons (.slot 0) (.cons (.slot 1) (.cons (.const (.int 6)) .nil))))) .nil)))) (.cons (.set 5 (.call 144 (.cons (.slot 3) (.cons (.slot 4) .nil)))) (.cons (.ite (.cmp .ne (.call 140 (.cons (.slot 3) (.cons (.slot 4) .nil))) (.lenS 5)) (.cons (.ret (.const (.bl false))) .nil) .nil) (.cons (.for [6] true (.val (.bi .sorted (.cons (.bi .set (.cons (.lst (.cons (.const (.int 0)) (.cons (.bin .mod (.slot 2) (.lenS 5)) (.cons (.bin .sub (.lenS 5) (.const (.int 1))) .nil)))) .nil)) .nil))) l_law_k20_0) (.cons (.ret (.cmp .eq (.call 140 (.cons (.slot 3) (.cons (.bin .sub (.call 129 (.cons (.slot 3) .nil)) (.const (.int 1))) .nil))) (.const (.int 0)))) .nil)))))))
def d_law_k20 : Def := ⟨7, 1, b_law_k20⟩
abbrev f_law_k20 : Nat := 145
def c_law_k21_0 : E := .comp (.call 128 (.cons (.slot 2) (.cons (.slot 12) .nil))) [12] true (.range1 (.sub (.lst (.cons (.const (.int 16)) (.cons (.const (.int 32)) (.cons (.const (.int 64)) .nil)))) (.bin .sub (.subS 2 (.const (.int 1))) (.const (.int 4))))) .none [12]
def b_law_k21 : Ss := .cons (.shr 1) (.cons (.par [6, 7] (.cons (.call 37 (.cons (.slot 0) (.cons (.slot 1) (.cons (.const (.int 999979)) .nil)))) (.cons (.call 37 (.cons (.slot 0) (.cons (.slot 1) (.cons (.const (.int 999961)) .nil)))) .nil))) (.cons (.set 2 (.call 127 (.cons (.slot 0) (.cons (.slot 1) .nil)))) (.cons (.set 3 (.bin .add (.call 129 (.cons (.slot 2) .nil)) (.call 37 (.cons (.slot 0) (.cons (.slot 1) (.cons (.bi .max (.cons (.const (.int 1)) (.cons (.bin .sub (.const (.int 61)) (.call 129 (.cons (.slot 2) .nil))) .nil))) .nil)))))) (.cons (.ite (.cmp .gt (.slot 3) (.const (.int 60))) (.cons (.ret (.cmp .ge (.call 140 (.cons (.slot 2) (.cons (.const (.int 60)) .nil))) (.const (.int 0)))) .nil) .nil) (.cons (.set 4 (.call 140 (.cons (.slot 2) (.cons (.slot 3) .nil)))) (.cons (.par [8, 9] (.cons (.bin .mod (.bin .mul (.slot 6) (.const (.int 7919))) (.slot 4)) (.cons (.bin .mod (.bin .mul (.slot 7) (.const (.int 104729))) (.slot 4)) .nil))) (.cons (.par [10, 11] (.cons (.call 142 (.cons (.slot 2) (.cons (.slot 3) (.cons (.slot 8) .nil)))) (.cons (.call 142 (.cons (.slot 2) (.cons (.slot 3) (.cons (.slot 9) .nil)))) .nil))) (.cons (.ite (.or (.cmp .ne (.lenS 10) (.slot 3)) (.or (.cmp .isN (.call 28 (.cons (.slot 2) (.cons (.slot 10) .nil))) (.const .non)) (.cmp .ne (.call 143 (.cons (.slot 2) (.cons (.slot 10) .nil))) (.slot 8)))) (.cons (.ret (.const (.bl false))) .nil) .nil) (.cons (.ite (.or (.cmp .ne (.cmp .lt (.slot 8) (.slot 9)) (.cmp .lt (.slot 10) (.slot 11))) (.cmp .ne (.cmp .eq (.slot 8) (.slot 9)) (.cmp .eq (.slot 10) (.slot 11)))) (.cons (.ret (.const (.bl false))) .nil) .nil) (.cons (.set 5 (.bi .sorted (.cons c_law_k21_0 .nil))) (.cons (.ret (.cmp .eq (.call 142 (.cons (.slot 2) (.cons (.slot 3) (.cons (.bin .sub (.slot 4) (.const (.int 1))) .nil)))) (.bin .add (.bin .mul (.const (.str [49])) (.bin .sub (.slot 3) (.call 129 (.cons (.slot 2) .nil)))) (.subS 5 (.neg (.const (.int 1))))))) .nil)))))))))))
def d_law_k21 : Def := ⟨13, 1, b_law_k21⟩
abbrev f_law_k21 : Nat := 146
def b_law_ask_13 : Ss := .cons (.tryRet (.cons (.ret (.ite (.cmp .eq (.slot 0) (.const (.int 0))) (.call 140 (.cons (.slot 1) (.cons (.slot 2) .nil))) (.ite (.cmp .eq (.slot 0) (.const (.int 1))) (.call 142 (.cons (.slot 1) (.cons (.slot 2) (.cons (.slot 3) .nil)))) (.call 143 (.cons (.slot 1) (.cons (.slot 2) .nil)))))) .nil) [0] (.which 4 113)) .nil
def d_law_ask_13 : Def := ⟨5, 4, b_law_ask_13⟩
abbrev f_law_ask_13 : Nat := 147
def c_law_k22_0 : E := .comp (.call 147 (.cons (.slot 10) (.cons (.slot 2) (.cons (.slot 3) (.cons (.const .non) .nil))))) [10] true (.range1 (.const (.int 2))) .none [10]
def b_law_k22 : Ss := .cons (.shr 1) (.cons (.par [8, 9] (.cons (.call 134 (.cons (.slot 0) (.cons (.slot 1) .nil))) (.cons (.call 135 (.cons (.slot 0) (.cons (.slot 1) .nil))) .nil))) (.cons (.set 2 (.call 127 (.cons (.slot 0) (.cons (.slot 1) .nil)))) (.cons (.set 3 (.call 38 (.cons (.slot 0) (.cons (.slot 1) (.cons (.lst (.cons (.const .non) (.cons (.const (.int 0)) (.cons (.const (.int 61)) (.cons (.const (.bl true)) (.cons (.const (.str [57])) (.cons (.neg (.const (.int 1))) .nil))))))) .nil))))) (.cons (.set 4 (.lst (.cons (.call 147 (.cons (.const (.int 0)) (.cons (.slot 8) (.cons (.slot 3) (.cons (.const .non) .nil))))) (.cons (.call 147 (.cons (.const (.int 1)) (.cons (.slot 8) (.cons (.slot 3) (.cons (.const .non) .nil))))) (.cons (.call 147 (.cons (.const (.int 2)) (.cons (.slot 8) (.cons (.slot 9) (.cons (.const .non) .nil))))) .nil))))) (.cons (.ite (.cmp .ne (.slot 4) (.bin .mul (.lst (.cons (.tup (.cons (.const (.str [114, 101, 102, 117, 115, 101, 100])) (.cons (.const (.int 0)) .nil))) .nil)) (.const (.int 3)))) (.cons (.ret (.const (.bl false))) .nil) .nil) (.cons (.ite (.cmp .ne c_law_k22_0 (.bin .mul (.lst (.cons (.tup (.cons (.const (.str [114, 101, 102, 117, 115, 101, 100])) (.cons (.const (.int 11)) .nil))) .nil)) (.const (.int 2)))) (.cons (.ret (.const (.bl false))) .nil) .nil) (.cons (.set 5 (.call 140 (.cons (.slot 2) (.cons (.const (.int 60)) .nil)))) (.cons (.ite (.cmp .ne (.call 147 (.cons (.const (.int 1)) (.cons (.slot 2) (.cons (.const (.int 60)) (.cons (.call 38 (.cons (.slot 0) (.cons (.slot 1) (.cons (.lst (.cons (.const .non) (.cons (.neg (.const (.int 1))) (.cons (.slot 5) (.cons (.bin .add (.slot 5) (.const (.int 9))) (.cons (.const (.bl true)) (.cons (.const (.str [48])) .nil))))))) .nil)))) .nil))))) (.tup (.cons (.const (.str [114, 101, 102, 117, 115, 101, 100])) (.cons (.const (.int 11)) .nil)))) (.cons (.ret (.const (.bl false))) .nil) .nil) (.cons (.set 6 (.bin .mul (.const (.str [49])) (.const (.int 61)))) (.cons (.set 7 (.lst (.cons (.slot 9) (.cons (.const (.str [49])) (.cons (.const (.str [48])) (.cons (.slot 6) (.cons (.cut (.call 128 (.cons (.slot 2) (.cons (.const (.int 0)) .nil))) (.const .non) (.neg (.const (.int 1)))) (.cons (.bin .add (.call 128 (.cons (.slot 2) (.cons (.const (.int 0)) .nil))) (.slot 6)) .nil)))))))) (.cons (.ret (.cmp .eq (.call 147 (.cons (.const (.int 2)) (.cons (.slot 2) (.cons (.call 38 (.cons (.slot 0) (.cons (.slot 1) (.cons (.slot 7) .nil)))) (.cons (.const .non) .nil))))) (.tup (.cons (.const (.str [114, 101, 102, 117, 115, 101, 100])) (.cons (.const (.int 1)) .nil))))) .nil)))))))))))
def d_law_k22 : Def := ⟨11, 1, b_law_k22⟩
abbrev f_law_k22 : Nat := 148
def c_ticks_apart_0 : E := .comp (.slot 2) [2] true (.range1 (.lenS 0)) (.some (.cmp .ne (.subS 0 (.slot 2)) (.subS 1 (.slot 2)))) [2]
def b_ticks_apart : Ss := .cons (.ret (.bi .len (.cons c_ticks_apart_0 .nil))) .nil
def d_ticks_apart : Def := ⟨3, 2, b_ticks_apart⟩
abbrev f_ticks_apart : Nat := 149
def c_nearest_words_0 : E := .comp (.call 149 (.cons (.call 10 (.cons (.slot 0) (.cons (.slot 3) .nil))) (.cons (.slot 1) .nil))) [3] true (.range1 (.bin .add (.call 5 (.cons (.subS 0 (.const (.int 1))) .nil)) (.const (.int 1)))) .none [3]
def c_nearest_words_1 : E := .comp (.slot 3) [3, 4] false (.enum (.slot 2)) (.some (.cmp .eq (.slot 4) (.bi .min (.cons (.slot 2) .nil)))) [3, 4]
def b_nearest_words : Ss := .cons (.expr (.call 4 (.cons (.slot 0) .nil))) (.cons (.expr (.call 16 (.cons (.slot 1) .nil))) (.cons (.ite (.cmp .ne (.lenS 1) (.call 12 (.cons (.slot 0) .nil))) (.cons (.raise 2) .nil) .nil) (.cons (.set 2 c_nearest_words_0) (.cons (.ret (.tup (.cons (.bi .min (.cons (.slot 2) .nil)) (.cons c_nearest_words_1 .nil)))) .nil))))
def d_nearest_words : Def := ⟨5, 2, b_nearest_words⟩
abbrev f_nearest_words : Nat := 150
def c_law_unlike_2_0 : E := .comp (.slot 2) [2] true (.range1 (.lenS 0)) (.some (.cmp .ne (.subS 0 (.slot 2)) (.subS 1 (.slot 2)))) [2]
def b_law_unlike_2 : Ss := .cons (.ret (.bi .len (.cons c_law_unlike_2_0 .nil))) .nil
def d_law_unlike_2 : Def := ⟨3, 2, b_law_unlike_2⟩
abbrev f_law_unlike_2 : Nat := 151
def l_law_k23_0 : Ss := .cons (.set 9 (.call 37 (.cons (.slot 0) (.cons (.slot 1) (.cons (.lenS 6) .nil))))) (.cons (.set 6 (.bin .add (.bin .add (.cut (.slot 6) (.const .non) (.slot 9)) (.call 38 (.cons (.slot 0) (.cons (.slot 1) (.cons (.lst (.cons (.const (.str [48])) (.cons (.const (.str [49])) .nil))) .nil))))) (.cut (.slot 6) (.bin .add (.slot 9) (.const (.int 1))) (.const .non)))) .nil)
def c_law_k23_0 : E := .comp (.call 151 (.cons (.call 128 (.cons (.slot 3) (.cons (.slot 10) .nil))) (.cons (.slot 6) .nil))) [10] true (.range1 (.slot 4)) .none [10]
def c_law_k23_1 : E := .comp (.slot 10) [10] true (.range1 (.slot 4)) (.some (.cmp .eq (.subS 8 (.slot 10)) (.bi .min (.cons (.slot 8) .nil)))) [10]
def b_law_k23 : Ss := .cons (.shr 1) (.cons (.set 2 (.call 37 (.cons (.slot 0) (.cons (.slot 1) (.cons (.const (.int 9)) .nil))))) (.cons (.set 3 (.call 127 (.cons (.slot 0) (.cons (.slot 1) .nil)))) (.cons (.set 4 (.sub (.lst (.cons (.const (.int 16)) (.cons (.const (.int 32)) (.cons (.const (.int 64)) .nil)))) (.bin .sub (.subS 3 (.const (.int 1))) (.const (.int 4))))) (.cons (.set 5 (.call 37 (.cons (.slot 0) (.cons (.slot 1) (.cons (.slot 4) .nil))))) (.cons (.set 6 (.call 128 (.cons (.slot 3) (.cons (.slot 5) .nil)))) (.cons (.ite (.cmp .ne (.call 150 (.cons (.slot 3) (.cons (.slot 6) .nil))) (.tup (.cons (.const (.int 0)) (.cons (.lst (.cons (.slot 5) .nil)) .nil)))) (.cons (.ret (.const (.bl false))) .nil) .nil) (.cons (.for [7] true (.range1 (.slot 2)) l_law_k23_0) (.cons (.set 8 c_law_k23_0) (.cons (.ret (.cmp .eq (.call 150 (.cons (.slot 3) (.cons (.slot 6) .nil))) (.tup (.cons (.bi .min (.cons (.slot 8) .nil)) (.cons c_law_k23_1 .nil))))) .nil)))))))))
def d_law_k23 : Def := ⟨11, 1, b_law_k23⟩
abbrev f_law_k23 : Nat := 152
def b_apart : Ss := .cons (.expr (.call 16 (.cons (.slot 0) .nil))) (.cons (.expr (.call 16 (.cons (.slot 1) .nil))) (.cons (.ite (.cmp .ne (.lenS 0) (.lenS 1)) (.cons (.raise 2) .nil) .nil) (.cons (.ret (.call 149 (.cons (.slot 0) (.cons (.slot 1) .nil)))) .nil)))
def d_apart : Def := ⟨2, 2, b_apart⟩
abbrev f_apart : Nat := 153
def c_least_apart_0 : E := .comp (.call 10 (.cons (.slot 0) (.cons (.slot 4) .nil))) [4] true (.range1 (.bin .add (.call 5 (.cons (.subS 0 (.const (.int 1))) .nil)) (.const (.int 1)))) .none [4]
def c_least_apart_1 : E := .comp (.call 149 (.cons (.subS 1 (.slot 3)) (.cons (.subS 1 (.slot 5)) .nil))) [5] true (.range1 (.slot 3)) .none [5]
def l_least_apart_0 : Ss := .cons (.ext 2 c_least_apart_1) .nil
def b_least_apart : Ss := .cons (.expr (.call 4 (.cons (.slot 0) .nil))) (.cons (.set 1 c_least_apart_0) (.cons (.set 2 (.lst .nil)) (.cons (.for [3] true (.range1 (.lenS 1)) l_least_apart_0) (.cons (.ret (.bi .min (.cons (.slot 2) .nil))) .nil))))
def d_least_apart : Def := ⟨6, 1, b_least_apart⟩
abbrev f_least_apart : Nat := 154
def b_heard_wrong : Ss := .cons (.set 3 (.call 10 (.cons (.slot 0) (.cons (.slot 1) .nil)))) (.cons (.set 4 (.ite (.cmp .eq (.subS 3 (.slot 2)) (.const (.str [48]))) (.const (.str [49])) (.const (.str [48])))) (.cons (.ret (.sub (.call 150 (.cons (.slot 0) (.cons (.bin .add (.bin .add (.cut (.slot 3) (.const .non) (.slot 2)) (.slot 4)) (.cut (.slot 3) (.bin .add (.slot 2) (.const (.int 1))) (.const .non))) .nil))) (.const (.int 1)))) .nil))
def d_heard_wrong : Def := ⟨5, 3, b_heard_wrong⟩
abbrev f_heard_wrong : Nat := 155
def c_is_mended_0 : E := .comp (.cmp .eq (.call 155 (.cons (.slot 0) (.cons (.slot 1) (.cons (.slot 2) .nil)))) (.lst (.cons (.slot 1) .nil))) [2] true (.range1 (.call 12 (.cons (.slot 0) .nil))) .none [2]
def l_is_mended_0 : Ss := .cons (.ite (.not (.bi .all (.cons c_is_mended_0 .nil))) (.cons (.ret (.const (.bl false))) .nil) .nil) .nil
def b_is_mended : Ss := .cons (.expr (.call 4 (.cons (.slot 0) .nil))) (.cons (.for [1] true (.range1 (.bin .add (.call 5 (.cons (.subS 0 (.const (.int 1))) .nil)) (.const (.int 1)))) l_is_mended_0) (.cons (.ret (.const (.bl true))) .nil))
def d_is_mended : Def := ⟨3, 1, b_is_mended⟩
abbrev f_is_mended : Nat := 156
def l_law_k24_0 : Ss := .cons (.set 9 (.call 153 (.cons (.call 128 (.cons (.slot 2) (.cons (.slot 5) .nil))) (.cons (.call 128 (.cons (.slot 2) (.cons (.slot 7) .nil))) .nil)))) (.cons (.ite (.or (.cmp .ne (.cmp .eq (.slot 9) (.const (.int 0))) (.cmp .eq (.slot 7) (.slot 5))) (.cmp2 .lt .lt (.const (.int 0)) (.slot 9) (.slot 4))) (.cons (.ret (.const (.bl false))) .nil) .nil) (.cons (.app 6 (.slot 9)) .nil))
def b_law_k24 : Ss := .cons (.shr 1) (.cons (.set 2 (.call 127 (.cons (.slot 0) (.cons (.slot 1) .nil)))) (.cons (.set 3 (.sub (.lst (.cons (.const (.int 16)) (.cons (.const (.int 32)) (.cons (.const (.int 64)) .nil)))) (.bin .sub (.subS 2 (.const (.int 1))) (.const (.int 4))))) (.cons (.set 4 (.call 154 (.cons (.slot 2) .nil))) (.cons (.ite (.cmp .ne (.slot 4) (.bin .mul (.subS 2 (.const (.int 0))) (.ite (.cmp .eq (.subS 2 (.const (.int 3))) (.const (.str [110, 111, 110, 101]))) (.const (.int 1)) (.const (.int 2))))) (.cons (.ret (.const (.bl false))) .nil) .nil) (.cons (.set 5 (.call 37 (.cons (.slot 0) (.cons (.slot 1) (.cons (.slot 3) .nil))))) (.cons (.set 6 (.lst .nil)) (.cons (.for [7] true (.range1 (.slot 3)) l_law_k24_0) (.cons (.ite (.inS true (.slot 4) 6) (.cons (.ret (.const (.bl false))) .nil) .nil) (.cons (.set 2 (.bin .add (.tup (.cons (.bin .add (.const (.int 1)) (.bin .mod (.subS 2 (.const (.int 0))) (.const (.int 3)))) (.cons (.const (.int 4)) .nil))) (.cut (.slot 2) (.const (.int 2)) (.const .non)))) (.cons (.set 8 (.cmp .gt (.call 154 (.cons (.slot 2) .nil)) (.const (.int 2)))) (.cons (.ret (.and (.cmp .eq (.call 156 (.cons (.slot 2) .nil)) (.slot 8)) (.isin (.call 156 (.cons (.slot 2) .nil)) [.bool]))) .nil)))))))))))
def d_law_k24 : Def := ⟨10, 1, b_law_k24⟩
abbrev f_law_k24 : Nat := 157
def c_law_k25_0 : E := .comp (.call 38 (.cons (.slot 0) (.cons (.slot 1) (.cons (.lst (.cons (.const (.str [48])) (.cons (.const (.str [49])) .nil))) .nil)))) [12] true (.range1 (.slot 2)) .none [12]
def l_law_k25_0 : Ss := .cons (.app 3 (.join [] c_law_k25_0)) .nil
def c_law_k25_1 : E := .comp (.slot 11) [11] true (.range1 (.slot 2)) (.some (.cmp .ne (.subS 8 (.slot 11)) (.subS 9 (.slot 11)))) [11]
def b_law_k25 : Ss := .cons (.shr 1) (.cons (.set 2 (.bin .add (.const (.int 1)) (.call 37 (.cons (.slot 0) (.cons (.slot 1) (.cons (.const (.int 60)) .nil)))))) (.cons (.set 3 (.lst .nil)) (.cons (.for [4] true (.range1 (.const (.int 3))) l_law_k25_0) (.cons (.unp [8, 9, 10] (.slot 3)) (.cons (.set 5 (.bi .len (.cons c_law_k25_1 .nil))) (.cons (.ite (.or (.cmp .ne (.call 153 (.cons (.slot 8) (.cons (.slot 9) .nil))) (.slot 5)) (.or (.cmp .ne (.call 153 (.cons (.slot 9) (.cons (.slot 8) .nil))) (.slot 5)) (.cmp .ne (.call 153 (.cons (.slot 8) (.cons (.slot 8) .nil))) (.const (.int 0))))) (.cons (.ret (.const (.bl false))) .nil) .nil) (.cons (.ite (.cmp .gt (.call 153 (.cons (.slot 8) (.cons (.slot 10) .nil))) (.bin .add (.slot 5) (.call 153 (.cons (.slot 9) (.cons (.slot 10) .nil))))) (.cons (.ret (.const (.bl false))) .nil) .nil) (.cons (.set 6 (.call 127 (.cons (.slot 0) (.cons (.slot 1) .nil)))) (.cons (.set 7 (.call 24 (.cons (.slot 6) (.cons (.slot 8) .nil)))) (.cons (.ret (.or (.cmp .isN (.slot 7) (.const .non)) (.cmp .eq (.call 153 (.cons (.slot 8) (.cons (.slot 7) .nil))) (.call 23 (.cons (.slot 6) (.cons (.slot 8) .nil)))))) .nil))))))))))
def d_law_k25 : Def := ⟨13, 1, b_law_k25⟩
abbrev f_law_k25 : Nat := 158
def b_law_ask_14 : Ss := .cons (.tryRet (.cons (.ite (.cmp .lt (.slot 0) (.const (.int 2))) (.cons (.ret (.callSel [150, 153] (.slot 0) (.cons (.slot 1) (.cons (.slot 2) .nil)))) .nil) .nil) (.cons (.ret (.ite (.cmp .eq (.slot 0) (.const (.int 2))) (.call 154 (.cons (.slot 1) .nil)) (.call 156 (.cons (.slot 1) .nil)))) .nil)) [0] (.which 3 113)) .nil
def d_law_ask_14 : Def := ⟨4, 3, b_law_ask_14⟩
abbrev f_law_ask_14 : Nat := 159
def c_law_k26_0 : E := .comp (.call 159 (.cons (.slot 8) (.cons (.slot 6) (.cons (.slot 7) .nil)))) [8] true (.val (.tup (.cons (.const (.int 0)) (.cons (.const (.int 2)) (.cons (.const (.int 3)) .nil))))) .none [8]
def b_law_k26 : Ss := .cons (.shr 1) (.cons (.par [6, 7] (.cons (.call 134 (.cons (.slot 0) (.cons (.slot 1) .nil))) (.cons (.call 135 (.cons (.slot 0) (.cons (.slot 1) .nil))) .nil))) (.cons (.ite (.cmp .ne c_law_k26_0 (.bin .mul (.lst (.cons (.tup (.cons (.const (.str [114, 101, 102, 117, 115, 101, 100])) (.cons (.const (.int 0)) .nil))) .nil)) (.const (.int 3)))) (.cons (.ret (.const (.bl false))) .nil) .nil) (.cons (.set 2 (.call 127 (.cons (.slot 0) (.cons (.slot 1) .nil)))) (.cons (.set 3 (.call 128 (.cons (.slot 2) (.cons (.const (.int 3)) .nil)))) (.cons (.set 4 (.lst (.cons (.slot 7) (.cons (.cut (.slot 3) (.const .non) (.neg (.const (.int 1)))) (.cons (.bin .add (.slot 3) (.const (.str [49]))) .nil))))) (.cons (.ite (.cmp .ne (.call 159 (.cons (.const (.int 0)) (.cons (.slot 2) (.cons (.call 38 (.cons (.slot 0) (.cons (.slot 1) (.cons (.slot 4) .nil)))) .nil)))) (.tup (.cons (.const (.str [114, 101, 102, 117, 115, 101, 100])) (.cons (.const (.int 1)) .nil)))) (.cons (.ret (.const (.bl false))) .nil) .nil) (.cons (.set 5 (.lst (.cons (.call 159 (.cons (.const (.int 1)) (.cons (.slot 7) (.cons (.const (.str [49])) .nil)))) (.cons (.call 159 (.cons (.const (.int 1)) (.cons (.const (.str [49])) (.cons (.slot 7) .nil)))) (.cons (.call 159 (.cons (.const (.int 1)) (.cons (.const (.str [48, 49])) (.cons (.const (.str [48])) .nil)))) (.cons (.call 159 (.cons (.const (.int 1)) (.cons (.const (.str [48])) (.cons (.const (.str [48, 49])) .nil)))) .nil)))))) (.cons (.ret (.and (.cmp .eq (.slot 5) (.bin .mul (.lst (.cons (.tup (.cons (.const (.str [114, 101, 102, 117, 115, 101, 100])) (.cons (.const (.int 1)) .nil))) .nil)) (.const (.int 4)))) (.cmp .eq (.call 159 (.cons (.const (.int 1)) (.cons (.bin .mul (.const (.str [48])) (.const (.int 200))) (.cons (.bin .mul (.const (.str [49])) (.const (.int 200))) .nil)))) (.const (.int 200))))) .nil))))))))
def d_law_k26 : Def := ⟨9, 1, b_law_k26⟩
abbrev f_law_k26 : Nat := 160
def l_heard_of_0 : Ss := .cons .stuck (.cons (.ite (.cmp .notN (.slot 6) (.const .non)) (.cons (.app 3 (.tup (.cons (.slot 4) (.cons (.ite (.cmp .eq (.subS 6 (.const (.int 0))) (.const (.str [119, 111, 114, 100]))) (.subS 6 (.const (.int 1))) (.const .non)) .nil)))) .nil) .nil) .nil)
def b_heard_of : Ss := .cons .stuck (.cons (.set 3 (.lst .nil)) (.cons (.for [4, 5] false (.enum (.slot 1)) l_heard_of_0) (.cons (.retS 3) .nil)))
def d_heard_of : Def := ⟨7, 2, b_heard_of⟩
abbrev f_heard_of : Nat := 161
def b_heard : Ss := .cons (.expr (.call 4 (.cons (.slot 0) .nil))) (.cons (.expr (.call 16 (.cons (.slot 1) .nil))) (.cons (.ret (.call 161 (.cons (.slot 0) (.cons (.slot 1) .nil)))) .nil))
def d_heard : Def := ⟨2, 2, b_heard⟩
abbrev f_heard : Nat := 162
def c_law_listens_0 : E := .comp (.bin .add (.bin .add (.slot 9) (.bin .mul (.slot 3) (.slot 14))) (.bin .fdiv (.slot 3) (.const (.int 2)))) [14] true (.range1 (.slot 2)) .none [14]
def c_law_listens_1 : E := .comp (.subS 1 (.slot 15)) [15] true (.val (.slot 10)) .none [15]
def l_law_listens_0 : Ss := .cons .stuck .nil
def l_law_listens_1 : Ss := .cons (.ite (.cmp .eq (.subS 1 (.slot 9)) (.const (.str [49]))) (.cons (.set 9 (.bin .add (.slot 9) (.const (.int 1)))) (.cons .cont .nil)) .nil) (.cons (.set 10 c_law_listens_0) (.cons (.ite (.cmp .ge (.subS 10 (.neg (.const (.int 1)))) (.lenS 1)) (.cons (.retS 8) .nil) .nil) (.cons (.set 11 c_law_listens_1) (.cons (.set 12 (.const .non)) (.cons (.for [13] true (.range1 (.sub (.lst (.cons (.const (.int 16)) (.cons (.const (.int 32)) (.cons (.const (.int 64)) .nil)))) (.bin .sub (.slot 4) (.const (.int 4))))) l_law_listens_0) (.cons (.app 8 (.tup (.cons (.subS 10 (.neg (.const (.int 1)))) (.cons (.slot 12) .nil)))) (.cons (.set 9 (.bin .add (.subS 10 (.neg (.const (.int 1)))) (.const (.int 1)))) .nil)))))))
def b_law_listens : Ss := .cons (.unp [3, 4, 5, 6, 7] (.slot 0)) (.cons (.set 2 (.bin .add (.bin .add (.bin .add (.const (.int 1)) (.slot 4)) (.bi .int (.cons (.cmp .ne (.slot 6) (.const (.str [110, 111, 110, 101]))) .nil))) (.slot 7))) (.cons (.par [8, 9] (.cons (.lst .nil) (.cons (.const (.int 0)) .nil))) (.cons (.while (.cmp .lt (.slot 9) (.lenS 1)) l_law_listens_1) (.cons (.retS 8) .nil))))
def d_law_listens : Def := ⟨16, 2, b_law_listens⟩
abbrev f_law_listens : Nat := 163
def l_law_noisy_0 : Ss := .cons (.set 6 (.call 37 (.cons (.slot 0) (.cons (.slot 1) (.cons (.lenS 4) .nil))))) (.cons (.set 4 (.bin .add (.bin .add (.cut (.slot 4) (.const .non) (.slot 6)) (.call 38 (.cons (.slot 0) (.cons (.slot 1) (.cons (.lst (.cons (.const (.str [48])) (.cons (.const (.str [49])) .nil))) .nil))))) (.cut (.slot 4) (.bin .add (.slot 6) (.const (.int 1))) (.const .non)))) .nil)
def c_law_noisy_0 : E := .comp (.call 38 (.cons (.slot 0) (.cons (.slot 1) (.cons (.lst (.cons (.const (.str [48])) (.cons (.const (.str [49])) .nil))) .nil)))) [5] true (.range1 (.bin .add (.const (.int 1)) (.call 37 (.cons (.slot 0) (.cons (.slot 1) (.cons (.const (.int 80)) .nil)))))) .none [5]
def b_law_noisy : Ss := .cons (.set 3 (.call 37 (.cons (.slot 0) (.cons (.slot 1) (.cons (.const (.int 6)) .nil))))) (.cons (.set 4 (.sub (.call 130 (.cons (.slot 0) (.cons (.slot 1) (.cons (.slot 2) (.cons (.const (.int 190)) .nil))))) (.const (.int 0)))) (.cons (.for [5] true (.range1 (.slot 3)) l_law_noisy_0) (.cons (.ite (.cmp .eq (.slot 3) (.const (.int 5))) (.cons (.set 4 (.join [] c_law_noisy_0)) .nil) .nil) (.cons (.retS 4) .nil))))
def d_law_noisy : Def := ⟨7, 3, b_law_noisy⟩
abbrev f_law_noisy : Nat := 164
def c_law_k27_0 : E := .comp (.slot 10) [9, 10] false (.val (.call 162 (.cons (.slot 2) (.cons (.bin .add (.slot 6) (.bin .mul (.const (.str [49])) (.const (.int 7)))) .nil)))) .none [9, 10]
def c_law_k27_1 : E := .comp (.slot 10) [11, 10] false (.val (.slot 7)) .none [10, 11]
def b_law_k27 : Ss := .cons (.shr 1) (.cons (.set 2 (.call 127 (.cons (.slot 0) (.cons (.slot 1) .nil)))) (.cons (.set 3 (.call 164 (.cons (.slot 0) (.cons (.slot 1) (.cons (.slot 2) .nil))))) (.cons (.set 4 (.call 162 (.cons (.slot 2) (.cons (.slot 3) .nil)))) (.cons (.ite (.or (.cmp .ne (.slot 4) (.call 163 (.cons (.slot 2) (.cons (.slot 3) .nil)))) (.not (.isin (.slot 4) [.list]))) (.cons (.ret (.const (.bl false))) .nil) .nil) (.cons (.unp [6, 7, 8] (.call 130 (.cons (.slot 0) (.cons (.slot 1) (.cons (.slot 2) (.cons (.const (.int 150)) .nil)))))) (.cons (.set 5 c_law_k27_0) (.cons (.ret (.and (.cmp .eq (.slot 5) c_law_k27_1) (.cmp .eq (.call 28 (.cons (.slot 2) (.cons (.slot 6) .nil))) (.tup (.cons (.slot 7) (.cons (.slot 8) .nil)))))) .nil)))))))
def d_law_k27 : Def := ⟨12, 1, b_law_k27⟩
abbrev f_law_k27 : Nat := 165
def b_line_of : Ss := .cons (.ret (.bin .add (.bin .add (.bi .str (.cons (.subS 0 (.const (.int 0))) .nil)) (.const (.str [32]))) (.ite (.cmp .notN (.subS 0 (.const (.int 1))) (.const .non)) (.bi .str (.cons (.subS 0 (.const (.int 1))) .nil)) (.const (.str [102, 97, 117, 108, 116]))))) .nil
def d_line_of : Def := ⟨1, 1, b_line_of⟩
abbrev f_line_of : Nat := 166
def c_heard_text_0 : E := .comp (.call 166 (.cons (.slot 2) .nil)) [2] true (.val (.call 162 (.cons (.slot 0) (.cons (.slot 1) .nil)))) .none [2]
def b_heard_text : Ss := .cons (.ret (.join [10] c_heard_text_0)) .nil
def d_heard_text : Def := ⟨3, 2, b_heard_text⟩
abbrev f_heard_text : Nat := 167
def b_number_of : Ss := .cons .stuck (.cons (.ret (.bi .int (.cons (.slot 0) .nil))) .nil)
def d_number_of : Def := ⟨2, 2, b_number_of⟩
abbrev f_number_of : Nat := 168
def b_read_row : Ss := .cons .stuck (.cons (.ite (.cmp .ne (.lenS 1) (.const (.int 2))) (.cons (.raise 8) .nil) .nil) (.cons (.ret (.tup (.cons (.call 168 (.cons (.subS 1 (.const (.int 0))) (.cons (.bin .sub (.glob (.v (.int 200))) (.const (.int 1))) .nil))) (.cons (.ite (.cmp .eq (.subS 1 (.const (.int 1))) (.const (.str [102, 97, 117, 108, 116]))) (.const .non) (.call 168 (.cons (.subS 1 (.const (.int 1))) (.cons (.const (.int 63)) .nil)))) .nil)))) .nil))
def d_read_row : Def := ⟨2, 1, b_read_row⟩
abbrev f_read_row : Nat := 169
def c_read_heard_0 : E := .comp (.cmp .lt (.subS 3 (.const (.int 0))) (.subS 4 (.const (.int 0)))) [3, 4] false (.zip (.slot 1) (.cut (.slot 1) (.const (.int 1)) (.const .non))) .none [3, 4]
def b_read_heard : Ss := .cons (.ite (.not (.isin (.slot 0) [.str])) (.cons (.raise 8) .nil) .nil) (.cons .stuck (.cons (.ite (.not (.bi .all (.cons c_read_heard_0 .nil))) (.cons (.raise 8) .nil) .nil) (.cons (.retS 1) .nil)))
def d_read_heard : Def := ⟨5, 1, b_read_heard⟩
abbrev f_read_heard : Nat := 170
def b_law_ask_15 : Ss := .cons (.tryRet (.cons (.ret (.call 170 (.cons (.slot 0) .nil))) .nil) [0] (.which 1 113)) .nil
def d_law_ask_15 : Def := ⟨2, 1, b_law_ask_15⟩
abbrev f_law_ask_15 : Nat := 171
def c_law_due_0 : E := .comp (.bi .str (.cons (.slot 6) .nil)) [6] true (.range1 (.const (.int 200))) .none [6]
def c_law_due_1 : E := .comp (.subS 7 (.const (.int 0))) [7] true (.val (.slot 1)) .none [7]
def b_law_due : Ss := .cons (.set 1 (.lst .nil)) (.cons (.set 2 c_law_due_0) (.cons .stuck (.cons (.set 4 c_law_due_1) (.cons (.ret (.ite (.cmp .eq (.slot 4) (.bi .sorted (.cons (.bi .set (.cons (.slot 4) .nil)) .nil))) (.slot 1) (.const .non))) .nil))))
def d_law_due : Def := ⟨8, 1, b_law_due⟩
abbrev f_law_due : Nat := 172
def c_law_k28_0 : E := .comp (.bin .add (.bin .add (.bi .str (.cons (.slot 13) .nil)) (.const (.str [32]))) (.ite (.cmp .isN (.slot 14) (.const .non)) (.const (.str [102, 97, 117, 108, 116])) (.bi .str (.cons (.slot 14) .nil)))) [13, 14] false (.val (.slot 5)) .none [13, 14]
def l_law_k28_0 : Ss := .cons (.set 11 (.call 37 (.cons (.slot 0) (.cons (.slot 1) (.cons (.bin .add (.lenS 7) (.const (.int 1))) .nil))))) (.cons (.set 12 (.call 38 (.cons (.slot 0) (.cons (.slot 1) (.cons (.lst (.cons (.const (.str [])) (.cons (.const (.str [48])) (.cons (.const (.str [49])) (.cons (.const (.str [57])) (.cons (.const (.str [32])) (.cons (.const (.str [10])) (.cons (.const (.str [102])) (.cons (.const (.str [102, 97, 117, 108, 116])) (.cons (.const (.str [45])) .nil)))))))))) .nil))))) (.cons (.set 7 (.bin .add (.bin .add (.cut (.slot 7) (.const .non) (.slot 11)) (.slot 12)) (.cut (.slot 7) (.bin .add (.slot 11) (.call 37 (.cons (.slot 0) (.cons (.slot 1) (.cons (.const (.int 2)) .nil))))) (.const .non)))) .nil))
def b_law_k28 : Ss := .cons (.shr 1) (.cons (.set 2 (.call 37 (.cons (.slot 0) (.cons (.slot 1) (.cons (.const (.int 3)) .nil))))) (.cons (.set 3 (.call 127 (.cons (.slot 0) (.cons (.slot 1) .nil)))) (.cons (.set 4 (.call 164 (.cons (.slot 0) (.cons (.slot 1) (.cons (.slot 3) .nil))))) (.cons (.set 5 (.call 162 (.cons (.slot 3) (.cons (.slot 4) .nil)))) (.cons (.set 6 c_law_k28_0) (.cons (.set 7 (.join [10] (.slot 6))) (.cons (.ite (.or (.cmp .ne (.call 167 (.cons (.slot 3) (.cons (.slot 4) .nil))) (.slot 7)) (.cmp .ne (.call 170 (.cons (.slot 7) .nil)) (.slot 5))) (.cons (.ret (.const (.bl false))) .nil) .nil) (.cons (.for [8] true (.range1 (.slot 2)) l_law_k28_0) (.cons (.set 9 (.call 172 (.cons (.slot 7) .nil))) (.cons (.ite (.cmp .ne (.call 171 (.cons (.slot 7) .nil)) (.ite (.cmp .notN (.slot 9) (.const .non)) (.slot 9) (.tup (.cons (.const (.str [114, 101, 102, 117, 115, 101, 100])) (.cons (.const (.int 7)) .nil))))) (.cons (.ret (.const (.bl false))) .nil) .nil) (.cons (.set 10 (.lst (.cons (.const .non) (.cons (.const (.int 5)) (.cons (.const (.str [32])) (.cons (.const (.str [49])) (.cons (.const (.str [49, 32, 54, 52])) (.cons (.const (.str [50, 48, 48, 32, 49])) (.cons (.const (.str [48, 49, 32, 49])) (.cons (.const (.str [49, 32, 48, 49])) (.cons (.const (.str [49, 32, 70, 97, 117, 108, 116])) (.cons (.const (.str [50, 32, 49, 10, 49, 32, 49])) (.cons (.const (.str [49, 32, 49, 10, 49, 32, 50])) (.cons (.tup (.cons (.const (.str [49, 32, 49])) .nil)) (.cons (.const (.str [49, 32, 49, 10])) .nil))))))))))))))) (.cons (.ret (.cmp .eq (.call 171 (.cons (.call 38 (.cons (.slot 0) (.cons (.slot 1) (.cons (.slot 10) .nil)))) .nil)) (.tup (.cons (.const (.str [114, 101, 102, 117, 115, 101, 100])) (.cons (.const (.int 7)) .nil))))) .nil))))))))))))
def d_law_k28 : Def := ⟨15, 1, b_law_k28⟩
abbrev f_law_k28 : Nat := 173
def c_heard_again_0 : E := .comp (.ite (.inS true (.slot 4) 2) (.subS 1 (.slot 4)) (.sub (.const (.str [49, 48])) (.bi .int (.cons (.subS 1 (.slot 4)) .nil)))) [4] true (.range1 (.lenS 1)) .none [4]
def b_heard_again : Ss := .cons (.set 3 (.join [] c_heard_again_0)) (.cons (.ret (.call 161 (.cons (.slot 0) (.cons (.slot 3) .nil)))) .nil)
def d_heard_again : Def := ⟨5, 3, b_heard_again⟩
abbrev f_heard_again : Nat := 174
def c_faulty_ticks_0 : E := .comp (.slot 3) [3] true (.range1 (.lenS 1)) (.some (.cmp .ne (.call 174 (.cons (.slot 0) (.cons (.slot 1) (.cons (.lst (.cons (.slot 3) .nil)) .nil)))) (.slot 2))) [3]
def b_faulty_ticks : Ss := .cons (.expr (.call 4 (.cons (.slot 0) .nil))) (.cons (.expr (.call 16 (.cons (.slot 1) .nil))) (.cons (.set 2 (.call 161 (.cons (.slot 0) (.cons (.slot 1) .nil)))) (.cons (.ret c_faulty_ticks_0) .nil)))
def d_faulty_ticks : Def := ⟨4, 2, b_faulty_ticks⟩
abbrev f_faulty_ticks : Nat := 175
def l_law_k29_0 : Ss := .cons (.set 10 (.ite (.cmp .eq (.subS 3 (.slot 6)) (.const (.str [48]))) (.const (.str [49])) (.const (.str [48])))) (.cons (.ite (.cmp .ne (.call 163 (.cons (.slot 2) (.cons (.bin .add (.bin .add (.cut (.slot 3) (.const .non) (.slot 6)) (.slot 10)) (.cut (.slot 3) (.bin .add (.slot 6) (.const (.int 1))) (.const .non))) .nil))) (.slot 4)) (.cons (.app 5 (.slot 6)) .nil) .nil) .nil)
def c_law_k29_0 : E := .comp (.slot 6) [6] true (.range1 (.lenS 8)) (.some (.cmp .eq (.bin .mod (.slot 6) (.subS 2 (.const (.int 0)))) (.bin .fdiv (.subS 2 (.const (.int 0))) (.const (.int 2))))) [6]
def c_law_k29_1 : E := .comp (.slot 6) [6] true (.val (.slot 9)) (.some (.cmp .notin (.slot 6) (.call 175 (.cons (.slot 2) (.cons (.slot 8) .nil))))) [6]
def b_law_k29 : Ss := .cons (.shr 1) (.cons (.set 2 (.call 127 (.cons (.slot 0) (.cons (.slot 1) .nil)))) (.cons (.set 3 (.cut (.call 164 (.cons (.slot 0) (.cons (.slot 1) (.cons (.slot 2) .nil)))) (.const .non) (.const (.int 90)))) (.cons (.set 4 (.call 163 (.cons (.slot 2) (.cons (.slot 3) .nil)))) (.cons (.set 5 (.lst .nil)) (.cons (.for [6] true (.range1 (.lenS 3)) l_law_k29_0) (.cons (.set 7 (.call 175 (.cons (.slot 2) (.cons (.slot 3) .nil)))) (.cons (.ite (.or (.cmp .ne (.slot 7) (.slot 5)) (.not (.isin (.slot 7) [.list]))) (.cons (.ret (.const (.bl false))) .nil) .nil) (.cons (.set 8 (.call 128 (.cons (.slot 2) (.cons (.call 37 (.cons (.slot 0) (.cons (.slot 1) (.cons (.const (.int 16)) .nil)))) .nil)))) (.cons (.set 9 c_law_k29_0) (.cons (.ret (.cmp .eq c_law_k29_1 (.lst .nil))) .nil))))))))))
def d_law_k29 : Def := ⟨11, 1, b_law_k29⟩
abbrev f_law_k29 : Nat := 176
def b_law_ask_16 : Ss := .cons (.tryRet (.cons (.ret (.callSel [162, 167, 175] (.slot 0) (.cons (.slot 1) (.cons (.slot 2) .nil)))) .nil) [0] (.which 3 113)) .nil
def d_law_ask_16 : Def := ⟨4, 3, b_law_ask_16⟩
abbrev f_law_ask_16 : Nat := 177
def c_law_k30_0 : E := .comp (.call 177 (.cons (.slot 6) (.cons (.slot 4) (.cons (.slot 5) .nil)))) [6] true (.range1 (.const (.int 3))) .none [6]
def c_law_k30_1 : E := .comp (.call 177 (.cons (.slot 6) (.cons (.slot 2) (.cons (.slot 5) .nil)))) [6] true (.range1 (.const (.int 3))) .none [6]
def c_law_k30_2 : E := .comp (.call 177 (.cons (.slot 6) (.cons (.slot 2) (.cons (.slot 3) .nil)))) [6] true (.range1 (.const (.int 2))) .none [6]
def b_law_k30 : Ss := .cons (.shr 1) (.cons (.par [4, 5] (.cons (.call 134 (.cons (.slot 0) (.cons (.slot 1) .nil))) (.cons (.call 135 (.cons (.slot 0) (.cons (.slot 1) .nil))) .nil))) (.cons (.set 2 (.call 127 (.cons (.slot 0) (.cons (.slot 1) .nil)))) (.cons (.ite (.cmp .ne c_law_k30_0 (.bin .mul (.lst (.cons (.tup (.cons (.const (.str [114, 101, 102, 117, 115, 101, 100])) (.cons (.const (.int 0)) .nil))) .nil)) (.const (.int 3)))) (.cons (.ret (.const (.bl false))) .nil) .nil) (.cons (.ite (.cmp .ne c_law_k30_1 (.bin .mul (.lst (.cons (.tup (.cons (.const (.str [114, 101, 102, 117, 115, 101, 100])) (.cons (.const (.int 1)) .nil))) .nil)) (.const (.int 3)))) (.cons (.ret (.const (.bl false))) .nil) .nil) (.cons (.set 3 (.bin .mul (.const (.str [49])) (.bin .add (.const (.int 1)) (.call 37 (.cons (.slot 0) (.cons (.slot 1) (.cons (.const (.int 200)) .nil))))))) (.cons (.ret (.cmp .eq c_law_k30_2 (.lst (.cons (.lst .nil) (.cons (.const (.str [])) .nil))))) .nil))))))
def d_law_k30 : Def := ⟨7, 1, b_law_k30⟩
abbrev f_law_k30 : Nat := 178
def b_other_order : Ss := .cons (.expr (.call 4 (.cons (.slot 0) .nil))) (.cons (.ret (.bin .add (.bin .add (.cut (.slot 0) (.const .non) (.const (.int 2))) (.tup (.cons (.ite (.cmp .eq (.subS 0 (.const (.int 2))) (.const (.str [108, 111, 119]))) (.const (.str [104, 105, 103, 104])) (.const (.str [108, 111, 119]))) .nil))) (.cut (.slot 0) (.const (.int 3)) (.const .non)))) .nil)
def d_other_order : Def := ⟨1, 1, b_other_order⟩
abbrev f_other_order : Nat := 179
def b_turned_word : Ss := .cons (.set 2 (.tup (.cons (.const (.int 1)) (.cons (.slot 0) (.cons (.const (.str [108, 111, 119])) (.cons (.const (.str [110, 111, 110, 101])) (.cons (.const (.int 1)) .nil))))))) (.cons (.expr (.call 4 (.cons (.slot 2) .nil))) (.cons (.ite (.not (.call 6 (.cons (.slot 2) (.cons (.slot 1) .nil)))) (.cons (.raise 4) .nil) .nil) (.cons (.ret (.call 8 (.cons (.slot 2) (.cons (.rev (.call 7 (.cons (.slot 2) (.cons (.slot 1) .nil)))) .nil)))) .nil)))
def d_turned_word : Def := ⟨3, 2, b_turned_word⟩
abbrev f_turned_word : Nat := 180
def b_with_pace : Ss := .cons (.expr (.call 4 (.cons (.slot 0) .nil))) (.cons (.set 2 (.bin .add (.tup (.cons (.slot 1) .nil)) (.cut (.slot 0) (.const (.int 1)) (.const .non)))) (.cons (.ite (.not (.call 1 (.cons (.slot 1) (.cons (.const (.int 1)) (.cons (.const (.int 6)) .nil))))) (.cons (.raise 1) .nil) .nil) (.cons (.retS 2) .nil)))
def d_with_pace : Def := ⟨3, 2, b_with_pace⟩
abbrev f_with_pace : Nat := 181
def l_law_k31_0 : Ss := .cons (.set 12 (.bin .add (.bin .mul (.const (.int 2)) (.slot 12)) (.bin .mod (.bin .fdiv (.slot 10) (.sub (.lst (.cons (.const (.int 1)) (.cons (.const (.int 2)) (.cons (.const (.int 4)) (.cons (.const (.int 8)) (.cons (.const (.int 16)) (.cons (.const (.int 32)) .nil))))))) (.slot 13))) (.const (.int 2))))) .nil
def l_law_k31_1 : Ss := .cons (.set 11 (.call 180 (.cons (.subS 2 (.const (.int 1))) (.cons (.slot 10) .nil)))) (.cons (.set 12 (.const (.int 0))) (.cons (.for [13] true (.range1 (.subS 2 (.const (.int 1)))) l_law_k31_0) (.cons (.ite (.or (.cmp .ne (.slot 11) (.slot 12)) (.or (.cmp .ne (.call 180 (.cons (.subS 2 (.const (.int 1))) (.cons (.slot 11) .nil))) (.slot 10)) (.cmp .ne (.call 11 (.cons (.slot 3) (.cons (.slot 11) .nil))) (.call 11 (.cons (.slot 2) (.cons (.slot 10) .nil)))))) (.cons (.ret (.const (.bl false))) .nil) .nil) .nil)))
def c_law_k31_0 : E := .comp (.tup (.cons (.slot 9) (.cons (.call 180 (.cons (.subS 2 (.const (.int 1))) (.cons (.slot 10) .nil))) .nil))) [9, 10] false (.val (.slot 7)) .none [9, 10]
def b_law_k31 : Ss := .cons (.shr 1) (.cons (.set 2 (.call 127 (.cons (.slot 0) (.cons (.slot 1) .nil)))) (.cons (.unp [6, 7, 8] (.call 130 (.cons (.slot 0) (.cons (.slot 1) (.cons (.slot 2) (.cons (.const (.int 190)) .nil)))))) (.cons (.set 3 (.call 179 (.cons (.slot 2) .nil))) (.cons (.ite (.or (.cmp .ne (.slot 3) (.bin .add (.bin .add (.cut (.slot 2) (.const .non) (.const (.int 2))) (.tup (.cons (.ite (.cmp .eq (.subS 2 (.const (.int 2))) (.const (.str [104, 105, 103, 104]))) (.const (.str [108, 111, 119])) (.const (.str [104, 105, 103, 104]))) .nil))) (.cut (.slot 2) (.const (.int 3)) (.const .non)))) (.cmp .ne (.call 179 (.cons (.slot 3) .nil)) (.slot 2))) (.cons (.ret (.const (.bl false))) .nil) .nil) (.cons (.for [9, 10] false (.val (.slot 7)) l_law_k31_1) (.cons (.ite (.cmp .ne (.call 28 (.cons (.slot 3) (.cons (.slot 6) .nil))) (.tup (.cons (.bi .tuple (.cons c_law_k31_0 .nil)) (.cons (.slot 8) .nil)))) (.cons (.ret (.const (.bl false))) .nil) .nil) (.cons (.set 4 (.bin .add (.const (.int 1)) (.call 37 (.cons (.slot 0) (.cons (.slot 1) (.cons (.const (.int 6)) .nil)))))) (.cons (.set 5 (.call 181 (.cons (.slot 2) (.cons (.slot 4) .nil)))) (.cons (.ret (.and (.cmp .eq (.slot 5) (.bin .add (.tup (.cons (.slot 4) .nil)) (.cut (.slot 2) (.const (.int 1)) (.const .non)))) (.cmp .eq (.bin .mul (.bi .len (.cons (.call 11 (.cons (.slot 5) (.cons (.const (.int 1)) .nil))) .nil)) (.subS 2 (.const (.int 0)))) (.bin .mul (.bi .len (.cons (.call 11 (.cons (.slot 2) (.cons (.const (.int 1)) .nil))) .nil)) (.slot 4))))) .nil)))))))))
def d_law_k31 : Def := ⟨14, 1, b_law_k31⟩
abbrev f_law_k31 : Nat := 182
def b_spoken_alike : Ss := .cons (.expr (.call 4 (.cons (.slot 0) .nil))) (.cons (.expr (.call 4 (.cons (.slot 1) .nil))) (.cons (.expr (.call 16 (.cons (.slot 2) .nil))) (.cons (.par [3, 4] (.cons (.call 27 (.cons (.slot 0) (.cons (.slot 2) .nil))) (.cons (.call 27 (.cons (.slot 1) (.cons (.slot 2) .nil))) .nil))) (.cons (.ret (.ite (.or (.cmp .isN (.slot 3) (.const .non)) (.cmp .isN (.slot 4) (.const .non))) (.const .non) (.cmp .eq (.slot 3) (.slot 4)))) .nil))))
def d_spoken_alike : Def := ⟨5, 3, b_spoken_alike⟩
abbrev f_spoken_alike : Nat := 183
def c_total_rest_0 : E := .comp (.slot 3) [3, 4] false (.val (.subS 2 (.const (.int 0)))) .none [3, 4]
def b_total_rest : Ss := .cons (.expr (.call 4 (.cons (.slot 0) .nil))) (.cons (.expr (.call 16 (.cons (.slot 1) .nil))) (.cons (.set 2 (.call 27 (.cons (.slot 0) (.cons (.slot 1) .nil)))) (.cons (.ret (.ite (.cmp .isN (.slot 2) (.const .non)) (.const .non) (.bin .add (.bi .sum (.cons c_total_rest_0 .nil)) (.subS 2 (.const (.int 1)))))) .nil)))
def d_total_rest : Def := ⟨5, 2, b_total_rest⟩
abbrev f_total_rest : Nat := 184
def c_law_k32_0 : E := .comp (.slot 12) [12, 13] false (.val (.slot 8)) .none [12, 13]
def l_law_k32_0 : Ss := .cons (.set 10 (.call 28 (.cons (.slot 4) (.cons (.slot 7) .nil)))) (.cons (.ite (.cmp .ne (.cmp .isN (.call 184 (.cons (.slot 4) (.cons (.slot 7) .nil))) (.const .non)) (.cmp .isN (.slot 10) (.const .non))) (.cons (.ret (.const (.bl false))) .nil) .nil) (.cons (.set 11 (.ite (.cmp .isN (.slot 10) (.const .non)) (.const .non) (.cmp .eq (.slot 10) (.tup (.cons (.slot 8) (.cons (.slot 9) .nil)))))) (.cons (.ite (.or (.cmp .ne (.call 183 (.cons (.slot 5) (.cons (.slot 4) (.cons (.slot 7) .nil)))) (.slot 11)) (.cmp .ne (.call 183 (.cons (.slot 4) (.cons (.slot 5) (.cons (.slot 7) .nil)))) (.slot 11))) (.cons (.ret (.const (.bl false))) .nil) .nil) .nil)))
def b_law_k32 : Ss := .cons (.shr 1) (.cons (.set 2 (.call 37 (.cons (.slot 0) (.cons (.slot 1) (.cons (.const (.int 9973)) .nil))))) (.cons (.par [5, 6] (.cons (.call 127 (.cons (.slot 0) (.cons (.slot 1) .nil))) (.cons (.call 127 (.cons (.slot 0) (.cons (.slot 1) .nil))) .nil))) (.cons (.unp [7, 8, 9] (.call 130 (.cons (.slot 0) (.cons (.slot 1) (.cons (.slot 5) (.cons (.const (.int 150)) .nil)))))) (.cons (.ite (.cmp .ne (.call 184 (.cons (.slot 5) (.cons (.slot 7) .nil))) (.bin .add (.bi .sum (.cons c_law_k32_0 .nil)) (.slot 9))) (.cons (.ret (.const (.bl false))) .nil) .nil) (.cons (.ite (.cmp .ne (.call 184 (.cons (.slot 5) (.cons (.slot 7) .nil))) (.bin .sub (.lenS 7) (.bin .mul (.lenS 8) (.call 129 (.cons (.slot 5) .nil))))) (.cons (.ret (.const (.bl false))) .nil) .nil) (.cons (.set 3 (.call 54 (.cons (.slot 7) .nil))) (.cons (.for [4] true (.val (.tup (.cons (.slot 6) (.cons (.call 179 (.cons (.slot 5) .nil)) (.cons (.subS 3 (.bin .mod (.slot 2) (.lenS 3))) .nil))))) l_law_k32_0) (.cons (.ret (.cmp .isv (.call 183 (.cons (.slot 5) (.cons (.slot 5) (.cons (.slot 7) .nil)))) (.const (.bl true)))) .nil))))))))
def d_law_k32 : Def := ⟨14, 1, b_law_k32⟩
abbrev f_law_k32 : Nat := 185
def b_law_ask_17 : Ss := .cons (.tryRet (.cons (.ite (.cmp .lt (.slot 0) (.const (.int 3))) (.cons (.ret (.callSel [181, 180, 184] (.slot 0) (.cons (.slot 1) (.cons (.slot 2) .nil)))) .nil) .nil) (.cons (.ret (.ite (.cmp .eq (.slot 0) (.const (.int 3))) (.call 179 (.cons (.slot 1) .nil)) (.call 183 (.cons (.slot 1) (.cons (.slot 2) (.cons (.slot 3) .nil)))))) .nil)) [0] (.which 4 113)) .nil
def d_law_ask_17 : Def := ⟨5, 4, b_law_ask_17⟩
abbrev f_law_ask_17 : Nat := 186
def b_law_k33 : Ss := .cons (.shr 1) (.cons (.par [5, 6] (.cons (.call 134 (.cons (.slot 0) (.cons (.slot 1) .nil))) (.cons (.call 135 (.cons (.slot 0) (.cons (.slot 1) .nil))) .nil))) (.cons (.set 2 (.call 127 (.cons (.slot 0) (.cons (.slot 1) .nil)))) (.cons (.set 3 (.lst (.cons (.call 186 (.cons (.const (.int 0)) (.cons (.slot 5) (.cons (.const .non) (.cons (.const .non) .nil))))) (.cons (.call 186 (.cons (.const (.int 2)) (.cons (.slot 5) (.cons (.slot 6) (.cons (.const .non) .nil))))) (.cons (.call 186 (.cons (.const (.int 3)) (.cons (.slot 5) (.cons (.const .non) (.cons (.const .non) .nil))))) .nil))))) (.cons (.set 3 (.bin .add (.slot 3) (.lst (.cons (.call 186 (.cons (.const (.int 4)) (.cons (.slot 5) (.cons (.slot 5) (.cons (.slot 6) .nil))))) (.cons (.call 186 (.cons (.const (.int 4)) (.cons (.slot 2) (.cons (.slot 5) (.cons (.slot 6) .nil))))) .nil))))) (.cons (.app 3 (.call 186 (.cons (.const (.int 0)) (.cons (.slot 2) (.cons (.call 38 (.cons (.slot 0) (.cons (.slot 1) (.cons (.lst (.cons (.const .non) (.cons (.const (.int 0)) (.cons (.const (.int 7)) (.cons (.const (.bl true)) (.cons (.const (.str [49])) .nil)))))) .nil)))) (.cons (.const .non) .nil)))))) (.cons (.app 3 (.call 186 (.cons (.const (.int 1)) (.cons (.call 38 (.cons (.slot 0) (.cons (.slot 1) (.cons (.lst (.cons (.const .non) (.cons (.const (.int 3)) (.cons (.const (.int 7)) (.cons (.const (.bl true)) (.cons (.const (.str [52])) .nil)))))) .nil)))) (.cons (.const .non) (.cons (.const .non) .nil)))))) (.cons (.ite (.cmp .ne (.slot 3) (.bin .mul (.lst (.cons (.tup (.cons (.const (.str [114, 101, 102, 117, 115, 101, 100])) (.cons (.const (.int 0)) .nil))) .nil)) (.const (.int 7)))) (.cons (.ret (.const (.bl false))) .nil) .nil) (.cons (.set 4 (.call 38 (.cons (.slot 0) (.cons (.slot 1) (.cons (.lst (.cons (.const .non) (.cons (.neg (.const (.int 1))) (.cons (.sub (.lst (.cons (.const (.int 16)) (.cons (.const (.int 32)) (.cons (.const (.int 64)) .nil)))) (.bin .sub (.subS 2 (.const (.int 1))) (.const (.int 4)))) (.cons (.const (.bl true)) (.cons (.const (.str [49])) .nil)))))) .nil))))) (.cons (.ite (.cmp .ne (.call 186 (.cons (.const (.int 1)) (.cons (.subS 2 (.const (.int 1))) (.cons (.slot 4) (.cons (.const .non) .nil))))) (.tup (.cons (.const (.str [114, 101, 102, 117, 115, 101, 100])) (.cons (.const (.int 3)) .nil)))) (.cons (.ret (.const (.bl false))) .nil) .nil) (.cons (.ret (.cmp .eq (.lst (.cons (.call 186 (.cons (.const (.int 2)) (.cons (.slot 2) (.cons (.slot 6) (.cons (.const .non) .nil))))) (.cons (.call 186 (.cons (.const (.int 4)) (.cons (.slot 2) (.cons (.slot 2) (.cons (.slot 6) .nil))))) .nil))) (.bin .mul (.lst (.cons (.tup (.cons (.const (.str [114, 101, 102, 117, 115, 101, 100])) (.cons (.const (.int 1)) .nil))) .nil)) (.const (.int 2))))) .nil))))))))))
def d_law_k33 : Def := ⟨7, 1, b_law_k33⟩
abbrev f_law_k33 : Nat := 187
def c_law_k34_0 : E := .comp (.tup (.cons (.const (.int 0)) (.cons (.slot 9) .nil))) [9] true (.val (.slot 5)) .none [9]
def c_law_k34_1 : E := .comp (.slot 9) [10, 9] false (.val (.subS 6 (.const (.int 0)))) .none [9, 10]
def b_law_k34 : Ss := .cons (.shr 1) (.cons (.set 2 (.call 127 (.cons (.slot 0) (.cons (.slot 1) .nil)))) (.cons (.set 2 (.bin .add (.tup (.cons (.const (.int 1)) .nil)) (.cut (.slot 2) (.const (.int 1)) (.const .non)))) (.cons (.set 3 (.call 110 (.cons (.slot 0) (.cons (.slot 1) (.cons (.subS 2 (.const (.int 1))) (.cons (.const (.int 3)) .nil)))))) (.cons (.set 4 (.call 116 (.cons (.subS 2 (.const (.int 1))) (.cons (.slot 3) .nil)))) (.cons (.ite (.cmpS .eq 4 (.lst .nil)) (.cons (.ret (.const (.bl true))) .nil) .nil) (.cons (.unp [7, 8] (.call 38 (.cons (.slot 0) (.cons (.slot 1) (.cons (.slot 4) .nil))))) (.cons (.set 5 (.call 108 (.cons (.subS 2 (.const (.int 1))) (.cons (.slot 3) (.cons (.slot 7) (.cons (.slot 8) .nil)))))) (.cons (.ite (.cmp .gt (.bin .mul (.lenS 5) (.call 129 (.cons (.slot 2) .nil))) (.const (.int 200))) (.cons (.ret (.cmp .le (.lenS 5) (.const (.int 40)))) .nil) .nil) (.cons (.set 6 (.call 28 (.cons (.slot 2) (.cons (.call 15 (.cons (.slot 2) (.cons (.bi .tuple (.cons c_law_k34_0 .nil)) (.cons (.const (.int 0)) .nil)))) .nil)))) (.cons (.ite (.or (.cmp .isN (.slot 6) (.const .non)) (.or (.cmp .ne (.bi .tuple (.cons c_law_k34_1 .nil)) (.slot 5)) (.cmp .ne (.subS 6 (.const (.int 1))) (.const (.int 0))))) (.cons (.ret (.const (.bl false))) .nil) .nil) (.cons (.ite (.cmp .ne (.call 79 (.cons (.subS 2 (.const (.int 1))) (.cons (.slot 5) (.cons (.slot 7) (.cons (.slot 8) .nil))))) (.slot 3)) (.cons (.ret (.const (.bl false))) .nil) .nil) (.cons (.ret (.cmp .isin (.tup (.cons (.slot 7) (.cons (.slot 8) .nil))) (.call 80 (.cons (.subS 2 (.const (.int 1))) (.cons (.slot 5) .nil))))) .nil))))))))))))
def d_law_k34 : Def := ⟨11, 1, b_law_k34⟩
abbrev f_law_k34 : Nat := 188
def b_law_k35 : Ss := .cons (.shr 1) (.cons (.set 2 (.call 37 (.cons (.slot 0) (.cons (.slot 1) (.cons (.const (.int 999979)) .nil))))) (.cons (.set 3 (.call 127 (.cons (.slot 0) (.cons (.slot 1) .nil)))) (.cons (.set 4 (.cut (.call 164 (.cons (.slot 0) (.cons (.slot 1) (.cons (.slot 3) .nil)))) (.const .non) (.const (.int 60)))) (.cons (.set 5 (.call 140 (.cons (.slot 3) (.cons (.lenS 4) .nil)))) (.cons (.set 6 (.call 24 (.cons (.slot 3) (.cons (.slot 4) .nil)))) (.cons (.ite (.or (.cmp .ne (.cmp .isN (.slot 6) (.const .non)) (.cmp .eq (.slot 5) (.const (.int 0)))) (.cmp .ne (.cmp .isN (.call 23 (.cons (.slot 3) (.cons (.slot 4) .nil))) (.const .non)) (.cmp .eq (.slot 5) (.const (.int 0))))) (.cons (.ret (.const (.bl false))) .nil) .nil) (.cons (.ite (.cmp .isN (.slot 6) (.const .non)) (.cons (.ret (.const (.bl true))) .nil) .nil) (.cons (.ite (.or (.cmp .ne (.call 142 (.cons (.slot 3) (.cons (.lenS 4) (.cons (.call 143 (.cons (.slot 3) (.cons (.slot 6) .nil))) .nil)))) (.slot 6)) (.cmp .ne (.call 153 (.cons (.slot 4) (.cons (.slot 6) .nil))) (.call 23 (.cons (.slot 3) (.cons (.slot 4) .nil))))) (.cons (.ret (.const (.bl false))) .nil) .nil) (.cons (.ret (.cmp .ge (.call 153 (.cons (.slot 4) (.cons (.call 142 (.cons (.slot 3) (.cons (.lenS 4) (.cons (.bin .mod (.slot 2) (.slot 5)) .nil)))) .nil))) (.call 23 (.cons (.slot 3) (.cons (.slot 4) .nil))))) .nil)))))))))
def d_law_k35 : Def := ⟨7, 1, b_law_k35⟩
abbrev f_law_k35 : Nat := 189
def c_law_k36_0 : E := .comp (.tup (.cons (.bin .add (.slot 8) (.slot 4)) (.cons (.slot 9) .nil))) [8, 9] false (.val (.slot 5)) .none [8, 9]
def c_law_k36_1 : E := .comp (.slot 9) [8, 9] false (.val (.slot 7)) .none [8, 9]
def c_law_k36_2 : E := .comp (.slot 9) [8, 9] false (.val (.slot 5)) .none [8, 9]
def b_law_k36 : Ss := .cons (.shr 1) (.cons (.set 2 (.call 127 (.cons (.slot 0) (.cons (.slot 1) .nil)))) (.cons (.set 3 (.sub (.call 130 (.cons (.slot 0) (.cons (.slot 1) (.cons (.slot 2) (.cons (.const (.int 90)) .nil))))) (.const (.int 0)))) (.cons (.set 4 (.call 37 (.cons (.slot 0) (.cons (.slot 1) (.cons (.const (.int 60)) .nil))))) (.cons (.set 5 (.call 162 (.cons (.slot 2) (.cons (.slot 3) .nil)))) (.cons (.ite (.cmp .ne (.call 162 (.cons (.slot 2) (.cons (.bin .add (.bin .mul (.const (.str [49])) (.slot 4)) (.slot 3)) .nil))) c_law_k36_0) (.cons (.ret (.const (.bl false))) .nil) .nil) (.cons (.set 6 (.bin .add (.const (.int 1)) (.call 37 (.cons (.slot 0) (.cons (.slot 1) (.cons (.bin .fdiv (.const (.int 6)) (.subS 2 (.const (.int 0)))) .nil)))))) (.cons (.ite (.cmp .gt (.bin .mul (.slot 6) (.lenS 3)) (.const (.int 200))) (.cons (.ret (.const (.bl true))) .nil) .nil) (.cons (.set 7 (.call 162 (.cons (.call 181 (.cons (.slot 2) (.cons (.bin .mul (.slot 6) (.subS 2 (.const (.int 0)))) .nil))) (.cons (.call 125 (.cons (.slot 3) (.cons (.slot 6) .nil))) .nil)))) (.cons (.ite (.cmp .ne c_law_k36_1 c_law_k36_2) (.cons (.ret (.const (.bl false))) .nil) .nil) (.cons .stuck .nil))))))))))
def d_law_k36 : Def := ⟨11, 1, b_law_k36⟩
abbrev f_law_k36 : Nat := 190
def c_law_k37_0 : E := .comp (.slot 11) [11, 12] false (.val (.slot 3)) (.some (.cmp .eq (.slot 11) (.const (.str [48])))) [11, 12]
def c_law_k37_1 : E := .comp (.slot 12) [11, 12] false (.val (.slot 3)) (.some (.and (.cmp .eq (.slot 11) (.const (.str [48]))) (.cmp .ne (.bin .mod (.slot 12) (.subS 2 (.const (.int 0)))) (.const (.int 0))))) [11, 12]
def l_law_k37_0 : Ss := .cons (.set 4 (.bin .add (.slot 4) (.slot 10))) (.cons (.ite (.cmp .notin (.slot 4) (.call 126 (.cons (.slot 7) .nil))) (.cons (.ret (.const (.bl false))) .nil) .nil) (.cons (.set 4 (.bin .add (.slot 4) (.call 129 (.cons (.slot 2) .nil)))) .nil))
def c_law_k37_2 : E := .comp (.slot 12) [11, 12] false (.val (.call 122 (.cons (.slot 6) .nil))) (.some (.cmp .ne (.bin .mod (.slot 12) (.subS 2 (.const (.int 0)))) (.const (.int 0)))) [11, 12]
def b_law_k37 : Ss := .cons (.shr 1) (.cons (.set 2 (.call 127 (.cons (.slot 0) (.cons (.slot 1) .nil)))) (.cons (.unp [7, 8, 9] (.call 130 (.cons (.slot 0) (.cons (.slot 1) (.cons (.slot 2) (.cons (.const (.int 190)) .nil)))))) (.cons (.set 3 (.call 122 (.cons (.slot 7) .nil))) (.cons (.ite (.cmp .ne (.bi .len (.cons (.call 126 (.cons (.slot 7) .nil)) .nil)) (.bi .len (.cons c_law_k37_0 .nil))) (.cons (.ret (.const (.bl false))) .nil) .nil) (.cons (.ite (.cmp .ne c_law_k37_1 (.lst .nil)) (.cons (.ret (.const (.bl false))) .nil) .nil) (.cons (.set 4 (.const (.int 0))) (.cons (.for [10, 5] false (.val (.slot 8)) l_law_k37_0) (.cons (.set 5 (.sub (.subS 8 (.const (.int 0))) (.const (.int 1)))) (.cons (.set 6 (.call 11 (.cons (.slot 2) (.cons (.slot 5) .nil)))) (.cons (.ite (.or (.cmp .ne (.sub (.call 126 (.cons (.slot 6) .nil)) (.const (.int 0))) (.const (.int 0))) (.cmp .ne c_law_k37_2 (.lst .nil))) (.cons (.ret (.const (.bl false))) .nil) .nil) (.cons (.ret (.cmp .eq (.call 122 (.cons (.call 11 (.cons (.call 179 (.cons (.slot 2) .nil)) (.cons (.call 180 (.cons (.subS 2 (.const (.int 1))) (.cons (.slot 5) .nil))) .nil))) .nil)) (.call 122 (.cons (.slot 6) .nil)))) .nil)))))))))))
def d_law_k37 : Def := ⟨13, 1, b_law_k37⟩
abbrev f_law_k37 : Nat := 191
def c_law_k38_0 : E := .comp (.tup (.cons (.const (.int 0)) (.cons (.slot 10) .nil))) [10] true (.val (.slot 2)) .none [10]
def c_law_k38_1 : E := .comp (.slot 10) [10] true (.range1 (.sub (.lst (.cons (.const (.int 16)) (.cons (.const (.int 32)) (.cons (.const (.int 64)) .nil)))) (.bin .sub (.subS 7 (.const (.int 1))) (.const (.int 4))))) (.some (.cmp .ne (.call 180 (.cons (.subS 7 (.const (.int 1))) (.cons (.slot 10) .nil))) (.slot 10))) [10]
def b_law_k38 : Ss := .cons (.shr 1) (.cons (.par [7, 8] (.cons (.call 127 (.cons (.slot 0) (.cons (.slot 1) .nil))) (.cons (.call 127 (.cons (.slot 0) (.cons (.slot 1) .nil))) .nil))) (.cons (.par [7, 8] (.cons (.bin .add (.bin .add (.cut (.slot 7) (.const .non) (.const (.int 1))) (.tup (.cons (.bi .min (.cons (.const (.int 5)) (.cons (.subS 7 (.const (.int 1))) .nil))) .nil))) (.cut (.slot 7) (.const (.int 2)) (.const .non))) (.cons (.bin .add (.bin .add (.cut (.slot 8) (.const .non) (.const (.int 1))) (.tup (.cons (.bi .min (.cons (.const (.int 5)) (.cons (.subS 8 (.const (.int 1))) .nil))) .nil))) (.cut (.slot 8) (.const (.int 2)) (.const .non))) .nil))) (.cons (.set 2 (.call 31 (.cons (.slot 7) (.cons (.slot 8) .nil)))) (.cons (.set 3 (.bin .add (.tup (.cons (.subS 7 (.const (.int 0))) (.cons (.const (.int 4)) .nil))) (.cut (.slot 7) (.const (.int 2)) (.const .non)))) (.cons (.ite (.or (.cmp .notN (.call 31 (.cons (.slot 3) (.cons (.slot 3) .nil))) (.const .non)) (.and (.cmp .eq (.slot 7) (.slot 8)) (.cmp .notN (.slot 2) (.const .non)))) (.cons (.ret (.const (.bl false))) .nil) .nil) (.cons (.ite (.cmp .notN (.slot 2) (.const .non)) (.cons (.ite (.cmp .gt (.bin .add (.bin .mul (.lenS 2) (.call 129 (.cons (.slot 7) .nil))) (.const (.int 60))) (.const (.int 200))) (.cons (.ret (.const (.bl true))) .nil) .nil) (.cons (.set 9 (.call 15 (.cons (.slot 7) (.cons (.bi .tuple (.cons c_law_k38_0 .nil)) (.cons (.const (.int 60)) .nil))))) (.cons (.ite (.or (.cmp .isv (.call 183 (.cons (.slot 7) (.cons (.slot 8) (.cons (.slot 9) .nil)))) (.const (.bl true))) (.cmp .notin (.slot 2) (.call 60 (.cons (.slot 9) .nil)))) (.cons (.ret (.const (.bl false))) .nil) .nil) .nil))) .nil) (.cons (.set 4 (.call 179 (.cons (.slot 7) .nil))) (.cons (.set 5 (.call 31 (.cons (.slot 7) (.cons (.slot 4) .nil)))) (.cons (.set 6 c_law_k38_1) (.cons (.ret (.cmp .eq (.slot 5) (.tup (.cons (.subS 6 (.const (.int 0))) .nil)))) .nil))))))))))
def d_law_k38 : Def := ⟨11, 1, b_law_k38⟩
abbrev f_law_k38 : Nat := 192
def c_law_k39_0 : E := .comp (.subS 15 (.const (.int 1))) [15] true (.val (.slot 9)) .none [15]
def c_law_k39_1 : E := .comp (.subS 15 (.const (.int 1))) [15] true (.val (.slot 13)) .none [15]
def b_law_k39 : Ss := .cons (.shr 1) (.cons (.set 2 (.call 127 (.cons (.slot 0) (.cons (.slot 1) .nil)))) (.cons (.set 3 (.call 37 (.cons (.slot 0) (.cons (.slot 1) (.cons (.sub (.lst (.cons (.const (.int 16)) (.cons (.const (.int 32)) (.cons (.const (.int 64)) .nil)))) (.bin .sub (.subS 2 (.const (.int 1))) (.const (.int 4)))) .nil))))) (.cons (.set 4 (.call 128 (.cons (.slot 2) (.cons (.slot 3) .nil)))) (.cons (.set 5 (.call 37 (.cons (.slot 0) (.cons (.slot 1) (.cons (.lenS 4) .nil))))) (.cons (.set 6 (.bin .add (.bin .add (.cut (.slot 4) (.const .non) (.slot 5)) (.ite (.cmp .eq (.subS 4 (.slot 5)) (.const (.str [48]))) (.const (.str [49])) (.const (.str [48])))) (.cut (.slot 4) (.bin .add (.slot 5) (.const (.int 1))) (.const .non)))) (.cons (.unp [10, 11] (.call 150 (.cons (.slot 2) (.cons (.slot 6) .nil)))) (.cons (.ite (.or (.cmp .gt (.slot 10) (.const (.int 1))) (.and (.cmp .eq (.slot 10) (.const (.int 1))) (.inS true (.slot 3) 11))) (.cons (.ret (.const (.bl false))) .nil) .nil) (.cons (.set 7 (.and (.cmp .lt (.subS 2 (.const (.int 0))) (.const (.int 4))) (.cmp .eq (.subS 2 (.const (.int 1))) (.const (.int 4))))) (.cons (.ite (.and (.slot 7) (.and (.call 156 (.cons (.slot 2) .nil)) (.cmp .ne (.slot 11) (.lst (.cons (.slot 3) .nil))))) (.cons (.ret (.const (.bl false))) .nil) .nil) (.cons (.ite (.or (.cmp .gt (.call 23 (.cons (.slot 2) (.cons (.slot 6) .nil))) (.const (.int 1))) (.cmp .ne (.call 23 (.cons (.slot 2) (.cons (.slot 4) .nil))) (.const (.int 0)))) (.cons (.ret (.const (.bl false))) .nil) .nil) (.cons (.set 8 (.call 70 (.cons (.slot 6) .nil))) (.cons (.ite (.or (.cmpS .eq 8 (.lst .nil)) (.cmp .gt (.call 23 (.cons (.subS 8 (.const (.int 0))) (.cons (.slot 6) .nil))) (.call 23 (.cons (.slot 2) (.cons (.slot 6) .nil))))) (.cons (.ret (.const (.bl false))) .nil) .nil) (.cons (.unp [12, 13, 14] (.call 130 (.cons (.slot 0) (.cons (.slot 1) (.cons (.slot 2) (.cons (.const (.int 120)) .nil)))))) (.cons (.ite (.cmp .ne (.call 28 (.cons (.slot 2) (.cons (.slot 12) .nil))) (.tup (.cons (.slot 13) (.cons (.slot 14) .nil)))) (.cons (.ret (.const (.bl false))) .nil) .nil) (.cons (.set 9 (.call 162 (.cons (.slot 2) (.cons (.slot 12) .nil)))) (.cons (.ret (.cmp .eq c_law_k39_0 c_law_k39_1)) .nil))))))))))))))))
def d_law_k39 : Def := ⟨16, 1, b_law_k39⟩
abbrev f_law_k39 : Nat := 193
def b_law_ask_18 : Ss := .cons (.ite (.cmp .eq (.slot 0) (.const (.int 0))) (.cons (.ret (.call 122 (.cons (.slot 2) .nil))) .nil) .nil) (.cons (.ite (.cmp .eq (.slot 0) (.const (.int 1))) (.cons (.ret (.call 132 (.cons (.slot 2) .nil))) .nil) .nil) (.cons (.ite (.cmp .eq (.slot 0) (.const (.int 2))) (.cons (.ret (.call 126 (.cons (.slot 2) .nil))) .nil) .nil) (.cons (.ite (.cmp .eq (.slot 0) (.const (.int 3))) (.cons (.ret (.call 162 (.cons (.slot 1) (.cons (.bin .add (.slot 2) (.bin .mul (.const (.str [49])) (.const (.int 9)))) .nil)))) .nil) .nil) (.cons (.ite (.cmp .eq (.slot 0) (.const (.int 4))) (.cons (.ret (.call 116 (.cons (.subS 1 (.const (.int 1))) (.cons (.slot 3) .nil)))) .nil) .nil) (.cons (.ret (.ite (.cmp .eq (.slot 0) (.const (.int 5))) (.call 175 (.cons (.slot 1) (.cons (.slot 2) .nil))) (.call 54 (.cons (.slot 2) .nil)))) .nil)))))
def d_law_ask_18 : Def := ⟨4, 4, b_law_ask_18⟩
abbrev f_law_ask_18 : Nat := 194
def l_law_k40_0 : Ss := .cons (.set 10 (.bin .mod (.bin .add (.slot 2) (.bin .mul (.const (.int 3)) (.slot 7))) (.const (.int 7)))) (.cons (.set 11 (.call 194 (.cons (.slot 10) (.cons (.slot 3) (.cons (.slot 4) (.cons (.slot 5) .nil)))))) (.cons (.set 12 (.bi .list (.cons (.slot 11) .nil))) (.cons (.app 11 (.const (.str [99, 104, 97, 110, 103, 101, 100]))) (.cons (.put 11 (.const (.int 0)) (.const .non)) (.cons (.set 13 (.call 194 (.cons (.slot 10) (.cons (.slot 3) (.cons (.slot 4) (.cons (.slot 5) .nil)))))) (.cons (.ite (.or (.cmp .ne (.slot 13) (.slot 12)) (.not (.isin (.slot 13) [.list]))) (.cons (.ret (.const (.bl false))) .nil) .nil) .nil))))))
def l_law_k40_1 : Ss := .cons (.expr (.call 108 (.cons (.const (.int 4)) (.cons (.slot 5) (.cons (.slot 14) (.cons (.slot 15) .nil)))))) (.cons (.expr (.call 80 (.cons (.const (.int 4)) (.cons (.call 108 (.cons (.const (.int 4)) (.cons (.slot 5) (.cons (.slot 14) (.cons (.slot 15) .nil))))) .nil)))) .nil)
def b_law_k40 : Ss := .cons (.shr 1) (.cons (.set 2 (.call 37 (.cons (.slot 0) (.cons (.slot 1) (.cons (.const (.int 7)) .nil))))) (.cons (.set 3 (.call 127 (.cons (.slot 0) (.cons (.slot 1) .nil)))) (.cons (.set 4 (.sub (.call 130 (.cons (.slot 0) (.cons (.slot 1) (.cons (.slot 3) (.cons (.const (.int 40)) .nil))))) (.const (.int 0)))) (.cons (.set 5 (.call 110 (.cons (.slot 0) (.cons (.slot 1) (.cons (.const (.int 4)) (.cons (.const (.int 3)) .nil)))))) (.cons (.set 3 (.bin .add (.bin .add (.cut (.slot 3) (.const .non) (.const (.int 1))) (.tup (.cons (.const (.int 4)) .nil))) (.cut (.slot 3) (.const (.int 2)) (.const .non)))) (.cons (.set 4 (.call 128 (.cons (.slot 3) (.cons (.const (.int 5)) .nil)))) (.cons (.set 6 (.bi .list (.cons (.slot 5) .nil))) (.cons (.for [7] true (.range1 (.const (.int 7))) l_law_k40_0) (.cons (.set 8 (.call 122 (.cons (.slot 4) .nil))) (.cons (.set 9 (.bi .list (.cons (.slot 8) .nil))) (.cons (.expr (.call 124 (.cons (.slot 8) .nil))) (.cons (.for [14, 15] false (.val (.call 116 (.cons (.const (.int 4)) (.cons (.slot 5) .nil)))) l_law_k40_1) (.cons (.ret (.and (.cmp .eq (.slot 5) (.slot 6)) (.cmp .eq (.slot 8) (.slot 9)))) .nil)))))))))))))
def d_law_k40 : Def := ⟨16, 1, b_law_k40⟩
abbrev f_law_k40 : Nat := 195
def MTl : List (Option Def) := [some d_wall, some d_is_whole, some d_is_one_of, some d_is_form, some d_need_form, some d_top_of, some d_is_word, some d_bits_of, some d_word_of, some d_parity_of, some d_framed, some d_frame, some d_long_of, some d_is_row, some d_sent_of, some d_sent, some d_need_samples, some d_ones_ahead, some d_row_at, some d_best_bits, some d_frame_at, some d_steps_from, some d_turns_of, some d_turns, some d_mend, some d_bit_of, some d_word_at, some d_rows_in, some d_read_by, some d_words_in, some d_is_settled, some d_settling, some d_many_text, some d_form_text, some d_shown, some d_law_cell_at, some d_law_mixed, some d_law_draw, some d_law_pick, some d_law_form, some d_law_which, some d_law_ask, some d_law_number, some d_law_is_form, some d_law_k01, some d_law_form_2, some d_law_bits, some d_law_frame, some d_law_long, some d_law_rows, some d_law_sent, some d_law_ask_2, some d_law_k02, some d_all_forms, some d_forms_for, some d_law_reads, some d_law_forms, some d_law_ask_3, some d_law_samples, some d_law_k03, some d_readings, some d_law_reads_2, some d_law_table, some d_law_settled, some d_law_least, some d_law_k04, some d_law_ask_4, some d_law_unlike, some d_law_least_2, some d_law_k05, some d_likeliest, some d_law_ask_5, some d_law_k06, some d_need_words, some d_is_layer, some d_first_of, some d_xor_of, some d_checked, some d_packets_in, some d_parted, some d_layers_for, some d_law_ask_6, some d_law_together, some d_law_parted, some d_law_laid, some d_law_refused, some d_law_k07, some d_read, some d_law_ask_7, some d_law_text, some d_law_k08, some d_law_do, some d_law_told, some d_law_k09, some d_law_turned, some d_law_k10, some d_law_ask_8, some d_law_k11, some d_law_lists, some d_law_rest, some d_law_k12, some d_law_ask_9, some d_law_more, some d_law_k13, some d_are_packets, some d_need_all, some d_check_of, some d_one_packed, some d_packed, some d_law_layer, some d_law_packets, some d_law_check, some d_law_packed, some d_law_which_2, some d_law_ask_10, some d_law_k14, some d_layers_of, some d_is_packed, some d_law_k15, some d_law_ask_11, some d_law_k16, some d_runs_of, some d_runs, some d_are_runs, some d_from_runs, some d_slower, some d_falls, some d_law_form_3, some d_law_frame_2, some d_law_long_2, some d_law_samples_2, some d_law_k17, some d_paces, some d_law_k18, some d_law_odd_form, some d_law_odd_samples, some d_law_ask_12, some d_law_k19, some d_ways, some d_need_ticks, some d_how_many, some d_frames_rising, some d_samples_at, some d_number_in, some d_law_all, some d_law_k20, some d_law_k21, some d_law_ask_13, some d_law_k22, some d_ticks_apart, some d_nearest_words, some d_law_unlike_2, some d_law_k23, some d_apart, some d_least_apart, some d_heard_wrong, some d_is_mended, some d_law_k24, some d_law_k25, some d_law_ask_14, some d_law_k26, some d_heard_of, some d_heard, some d_law_listens, some d_law_noisy, some d_law_k27, some d_line_of, some d_heard_text, some d_number_of, some d_read_row, some d_read_heard, some d_law_ask_15, some d_law_due, some d_law_k28, some d_heard_again, some d_faulty_ticks, some d_law_k29, some d_law_ask_16, some d_law_k30, some d_other_order, some d_turned_word, some d_with_pace, some d_law_k31, some d_spoken_alike, some d_total_rest, some d_law_k32, some d_law_ask_17, some d_law_k33, some d_law_k34, some d_law_k35, some d_law_k36, some d_law_k37, some d_law_k38, some d_law_k39, some d_law_ask_18, some d_law_k40]
def MT (n : Nat) : Option Def := (MTl[n]?).getD none
theorem u_wall (k : Nat) (a0 : Rv) (sh : Sh) : callN MT (k + 1) 0 [a0] sh = ending (execs (callN MT k) b_wall ⟨[some a0], sh⟩) := rfl
theorem u_is_whole (k : Nat) (a0 a1 a2 : Rv) (sh : Sh) : callN MT (k + 1) 1 [a0, a1, a2] sh = ending (execs (callN MT k) b_is_whole ⟨[some a0, some a1, some a2], sh⟩) := rfl
theorem u_is_one_of (k : Nat) (a0 a1 : Rv) (sh : Sh) : callN MT (k + 1) 2 [a0, a1] sh = ending (execs (callN MT k) b_is_one_of ⟨[some a0, some a1], sh⟩) := rfl
theorem u_is_form (k : Nat) (a0 : Rv) (sh : Sh) : callN MT (k + 1) 3 [a0] sh = ending (execs (callN MT k) b_is_form ⟨[some a0], sh⟩) := rfl
theorem u_need_form (k : Nat) (a0 : Rv) (sh : Sh) : callN MT (k + 1) 4 [a0] sh = ending (execs (callN MT k) b_need_form ⟨[some a0], sh⟩) := rfl
theorem u_top_of (k : Nat) (a0 : Rv) (sh : Sh) : callN MT (k + 1) 5 [a0] sh = ending (execs (callN MT k) b_top_of ⟨[some a0], sh⟩) := rfl
theorem u_is_word (k : Nat) (a0 a1 : Rv) (sh : Sh) : callN MT (k + 1) 6 [a0, a1] sh = ending (execs (callN MT k) b_is_word ⟨[some a0, some a1], sh⟩) := rfl
theorem u_bits_of (k : Nat) (a0 a1 : Rv) (sh : Sh) : callN MT (k + 1) 7 [a0, a1] sh = ending (execs (callN MT k) b_bits_of ⟨[some a0, some a1, none, none], sh⟩) := rfl
theorem u_word_of (k : Nat) (a0 a1 : Rv) (sh : Sh) : callN MT (k + 1) 8 [a0, a1] sh = ending (execs (callN MT k) b_word_of ⟨[some a0, some a1, none, none], sh⟩) := rfl
theorem u_parity_of (k : Nat) (a0 a1 : Rv) (sh : Sh) : callN MT (k + 1) 9 [a0, a1] sh = ending (execs (callN MT k) b_parity_of ⟨[some a0, some a1], sh⟩) := rfl
theorem u_framed (k : Nat) (a0 a1 : Rv) (sh : Sh) : callN MT (k + 1) 10 [a0, a1] sh = ending (execs (callN MT k) b_framed ⟨[some a0, some a1, none, none, none], sh⟩) := rfl
theorem u_frame (k : Nat) (a0 a1 : Rv) (sh : Sh) : callN MT (k + 1) 11 [a0, a1] sh = ending (execs (callN MT k) b_frame ⟨[some a0, some a1], sh⟩) := rfl
theorem u_long_of (k : Nat) (a0 : Rv) (sh : Sh) : callN MT (k + 1) 12 [a0] sh = ending (execs (callN MT k) b_long_of ⟨[some a0], sh⟩) := rfl
theorem u_is_row (k : Nat) (a0 a1 : Rv) (sh : Sh) : callN MT (k + 1) 13 [a0, a1] sh = ending (execs (callN MT k) b_is_row ⟨[some a0, some a1], sh⟩) := rfl
theorem u_sent_of (k : Nat) (a0 a1 a2 : Rv) (sh : Sh) : callN MT (k + 1) 14 [a0, a1, a2] sh = ending (execs (callN MT k) b_sent_of ⟨[some a0, some a1, some a2, none, none], sh⟩) := rfl
theorem u_sent (k : Nat) (a0 a1 a2 : Rv) (sh : Sh) : callN MT (k + 1) 15 [a0, a1, a2] sh = ending (execs (callN MT k) b_sent ⟨[some a0, some a1, some a2, none, none], sh⟩) := rfl
theorem u_need_samples (k : Nat) (a0 : Rv) (sh : Sh) : callN MT (k + 1) 16 [a0] sh = ending (execs (callN MT k) b_need_samples ⟨[some a0, none], sh⟩) := rfl
theorem u_ones_ahead (k : Nat) (a0 : Rv) (sh : Sh) : callN MT (k + 1) 17 [a0] sh = ending (execs (callN MT k) b_ones_ahead ⟨[some a0, none, none], sh⟩) := rfl
theorem u_row_at (k : Nat) (a0 a1 a2 : Rv) (sh : Sh) : callN MT (k + 1) 18 [a0, a1, a2] sh = ending (execs (callN MT k) b_row_at ⟨[some a0, some a1, some a2, none, none, none, none], sh⟩) := rfl
theorem u_best_bits (k : Nat) (a0 a1 : Rv) (sh : Sh) : callN MT (k + 1) 19 [a0, a1] sh = ending (execs (callN MT k) b_best_bits ⟨[some a0, some a1, none, none, none, none, none, none, none, none, none, none, none], sh⟩) := rfl
theorem u_frame_at (k : Nat) (a0 a1 a2 : Rv) (sh : Sh) : callN MT (k + 1) 20 [a0, a1, a2] sh = ending (execs (callN MT k) b_frame_at ⟨[some a0, some a1, some a2, none, none, none, none, none, none, none], sh⟩) := rfl
theorem u_steps_from (k : Nat) (a0 a1 : Rv) (sh : Sh) : callN MT (k + 1) 21 [a0, a1] sh = ending (execs (callN MT k) b_steps_from ⟨[some a0, some a1, none, none, none, none, none, none, none], sh⟩) := rfl
theorem u_turns_of (k : Nat) (a0 a1 : Rv) (sh : Sh) : callN MT (k + 1) 22 [a0, a1] sh = ending (execs (callN MT k) b_turns_of ⟨[some a0, some a1, none], sh⟩) := rfl
theorem u_turns (k : Nat) (a0 a1 : Rv) (sh : Sh) : callN MT (k + 1) 23 [a0, a1] sh = ending (execs (callN MT k) b_turns ⟨[some a0, some a1], sh⟩) := rfl
theorem u_mend (k : Nat) (a0 a1 : Rv) (sh : Sh) : callN MT (k + 1) 24 [a0, a1] sh = ending (execs (callN MT k) b_mend ⟨[some a0, some a1, none, none, none, none, none, none], sh⟩) := rfl
theorem u_bit_of (k : Nat) (a0 : Rv) (sh : Sh) : callN MT (k + 1) 25 [a0] sh = ending (execs (callN MT k) b_bit_of ⟨[some a0], sh⟩) := rfl
theorem u_word_at (k : Nat) (a0 a1 a2 : Rv) (sh : Sh) : callN MT (k + 1) 26 [a0, a1, a2] sh = ending (execs (callN MT k) b_word_at ⟨[some a0, some a1, some a2, none, none, none, none, none], sh⟩) := rfl
theorem u_rows_in (k : Nat) (a0 a1 : Rv) (sh : Sh) : callN MT (k + 1) 27 [a0, a1] sh = ending (execs (callN MT k) b_rows_in ⟨[some a0, some a1, none, none, none, none], sh⟩) := rfl
theorem u_read_by (k : Nat) (a0 a1 : Rv) (sh : Sh) : callN MT (k + 1) 28 [a0, a1] sh = ending (execs (callN MT k) b_read_by ⟨[some a0, some a1], sh⟩) := rfl
theorem u_words_in (k : Nat) (a0 : Rv) (sh : Sh) : callN MT (k + 1) 29 [a0] sh = ending (execs (callN MT k) b_words_in ⟨[some a0, none, none], sh⟩) := rfl
theorem u_is_settled (k : Nat) (a0 a1 a2 : Rv) (sh : Sh) : callN MT (k + 1) 30 [a0, a1, a2] sh = ending (execs (callN MT k) b_is_settled ⟨[some a0, some a1, some a2, none, none], sh⟩) := rfl
theorem u_settling (k : Nat) (a0 a1 : Rv) (sh : Sh) : callN MT (k + 1) 31 [a0, a1] sh = ending (execs (callN MT k) b_settling ⟨[some a0, some a1, none, none, none], sh⟩) := rfl
theorem u_many_text (k : Nat) (a0 a1 : Rv) (sh : Sh) : callN MT (k + 1) 32 [a0, a1] sh = ending (execs (callN MT k) b_many_text ⟨[some a0, some a1], sh⟩) := rfl
theorem u_form_text (k : Nat) (a0 : Rv) (sh : Sh) : callN MT (k + 1) 33 [a0] sh = ending (execs (callN MT k) b_form_text ⟨[some a0, none, none, none, none, none, none], sh⟩) := rfl
theorem u_shown (k : Nat) (a0 : Rv) (sh : Sh) : callN MT (k + 1) 34 [a0] sh = ending (execs (callN MT k) b_shown ⟨[some a0], sh⟩) := rfl
theorem u_law_cell_at (k : Nat) (a0 a1 : Rv) (sh : Sh) : callN MT (k + 1) 35 [a0, a1] sh = ending (execs (callN MT k) b_law_cell_at ⟨[some a0, some a1], sh⟩) := rfl
theorem u_law_mixed (k : Nat) (a0 a1 a2 : Rv) (sh : Sh) : callN MT (k + 1) 36 [a0, a1, a2] sh = ending (execs (callN MT k) b_law_mixed ⟨[some a0, some a1, some a2, none], sh⟩) := rfl
theorem u_law_draw (k : Nat) (a0 a1 a2 : Rv) (sh : Sh) : callN MT (k + 1) 37 [a0, a1, a2] sh = ending (execs (callN MT k) b_law_draw ⟨[some a0, some a1, some a2], sh⟩) := rfl
theorem u_law_pick (k : Nat) (a0 a1 a2 : Rv) (sh : Sh) : callN MT (k + 1) 38 [a0, a1, a2] sh = ending (execs (callN MT k) b_law_pick ⟨[some a0, some a1, some a2], sh⟩) := rfl
theorem u_law_form (k : Nat) (a0 a1 : Rv) (sh : Sh) : callN MT (k + 1) 39 [a0, a1] sh = ending (execs (callN MT k) b_law_form ⟨[some a0, some a1, none, none, none, none], sh⟩) := rfl
theorem u_law_which (k : Nat) (a0 : Rv) (sh : Sh) : callN MT (k + 1) 40 [a0] sh = ending (execs (callN MT k) b_law_which ⟨[some a0, none], sh⟩) := rfl
theorem u_law_ask (k : Nat) (a0 a1 a2 : Rv) (sh : Sh) : callN MT (k + 1) 41 [a0, a1, a2] sh = ending (execs (callN MT k) b_law_ask ⟨[some a0, some a1, some a2, none], sh⟩) := rfl
theorem u_law_number (k : Nat) (a0 a1 a2 : Rv) (sh : Sh) : callN MT (k + 1) 42 [a0, a1, a2] sh = ending (execs (callN MT k) b_law_number ⟨[some a0, some a1, some a2], sh⟩) := rfl
theorem u_law_is_form (k : Nat) (a0 : Rv) (sh : Sh) : callN MT (k + 1) 43 [a0] sh = ending (execs (callN MT k) b_law_is_form ⟨[some a0], sh⟩) := rfl
theorem u_law_k01 (k : Nat) (a0 : Rv) (sh : Sh) : callN MT (k + 1) 44 [a0] sh = ending (execs (callN MT k) b_law_k01 ⟨[some a0, none, none, none, none, none, none, none], sh⟩) := rfl
theorem u_law_form_2 (k : Nat) (a0 a1 : Rv) (sh : Sh) : callN MT (k + 1) 45 [a0, a1] sh = ending (execs (callN MT k) b_law_form_2 ⟨[some a0, some a1, none, none, none, none], sh⟩) := rfl
theorem u_law_bits (k : Nat) (a0 a1 : Rv) (sh : Sh) : callN MT (k + 1) 46 [a0, a1] sh = ending (execs (callN MT k) b_law_bits ⟨[some a0, some a1, none, none], sh⟩) := rfl
theorem u_law_frame (k : Nat) (a0 a1 : Rv) (sh : Sh) : callN MT (k + 1) 47 [a0, a1] sh = ending (execs (callN MT k) b_law_frame ⟨[some a0, some a1, none, none, none], sh⟩) := rfl
theorem u_law_long (k : Nat) (a0 : Rv) (sh : Sh) : callN MT (k + 1) 48 [a0] sh = ending (execs (callN MT k) b_law_long ⟨[some a0], sh⟩) := rfl
theorem u_law_rows (k : Nat) (a0 a1 a2 a3 : Rv) (sh : Sh) : callN MT (k + 1) 49 [a0, a1, a2, a3] sh = ending (execs (callN MT k) b_law_rows ⟨[some a0, some a1, some a2, some a3, none, none, none, none], sh⟩) := rfl
theorem u_law_sent (k : Nat) (a0 a1 a2 : Rv) (sh : Sh) : callN MT (k + 1) 50 [a0, a1, a2] sh = ending (execs (callN MT k) b_law_sent ⟨[some a0, some a1, some a2, none, none], sh⟩) := rfl
theorem u_law_ask_2 (k : Nat) (a0 a1 a2 a3 : Rv) (sh : Sh) : callN MT (k + 1) 51 [a0, a1, a2, a3] sh = ending (execs (callN MT k) b_law_ask_2 ⟨[some a0, some a1, some a2, some a3, none], sh⟩) := rfl
theorem u_law_k02 (k : Nat) (a0 : Rv) (sh : Sh) : callN MT (k + 1) 52 [a0] sh = ending (execs (callN MT k) b_law_k02 ⟨[some a0, none, none, none, none, none, none, none, none, none, none], sh⟩) := rfl
theorem u_all_forms (k : Nat) (sh : Sh) : callN MT (k + 1) 53 [] sh = ending (execs (callN MT k) b_all_forms ⟨[none, none, none, none, none, none], sh⟩) := rfl
theorem u_forms_for (k : Nat) (a0 : Rv) (sh : Sh) : callN MT (k + 1) 54 [a0] sh = ending (execs (callN MT k) b_forms_for ⟨[some a0, none], sh⟩) := rfl
theorem u_law_reads (k : Nat) (a0 a1 : Rv) (sh : Sh) : callN MT (k + 1) 55 [a0, a1] sh = ending (execs (callN MT k) b_law_reads ⟨[some a0, some a1, none, none, none, none, none, none, none, none, none], sh⟩) := rfl
theorem u_law_forms (k : Nat) (sh : Sh) : callN MT (k + 1) 56 [] sh = ending (execs (callN MT k) b_law_forms ⟨[none, none, none, none, none, none], sh⟩) := rfl
theorem u_law_ask_3 (k : Nat) (a0 a1 a2 : Rv) (sh : Sh) : callN MT (k + 1) 57 [a0, a1, a2] sh = ending (execs (callN MT k) b_law_ask_3 ⟨[some a0, some a1, some a2, none], sh⟩) := rfl
theorem u_law_samples (k : Nat) (a0 a1 a2 : Rv) (sh : Sh) : callN MT (k + 1) 58 [a0, a1, a2] sh = ending (execs (callN MT k) b_law_samples ⟨[some a0, some a1, some a2, none, none, none, none, none, none], sh⟩) := rfl
theorem u_law_k03 (k : Nat) (a0 : Rv) (sh : Sh) : callN MT (k + 1) 59 [a0] sh = ending (execs (callN MT k) b_law_k03 ⟨[some a0, none, none, none, none, none, none, none, none, none, none, none], sh⟩) := rfl
theorem u_readings (k : Nat) (a0 : Rv) (sh : Sh) : callN MT (k + 1) 60 [a0] sh = ending (execs (callN MT k) b_readings ⟨[some a0, none, none, none], sh⟩) := rfl
theorem u_law_reads_2 (k : Nat) (a0 a1 : Rv) (sh : Sh) : callN MT (k + 1) 61 [a0, a1] sh = ending (execs (callN MT k) b_law_reads_2 ⟨[some a0, some a1, none, none, none, none, none, none, none, none, none], sh⟩) := rfl
theorem u_law_table (k : Nat) (a0 : Rv) (sh : Sh) : callN MT (k + 1) 62 [a0] sh = ending (execs (callN MT k) b_law_table ⟨[some a0, none], sh⟩) := rfl
theorem u_law_settled (k : Nat) (a0 a1 a2 : Rv) (sh : Sh) : callN MT (k + 1) 63 [a0, a1, a2] sh = ending (execs (callN MT k) b_law_settled ⟨[some a0, some a1, some a2, none, none, none, none, none], sh⟩) := rfl
theorem u_law_least (k : Nat) (a0 a1 : Rv) (sh : Sh) : callN MT (k + 1) 64 [a0, a1] sh = ending (execs (callN MT k) b_law_least ⟨[some a0, some a1, none, none, none, none, none], sh⟩) := rfl
theorem u_law_k04 (k : Nat) (a0 : Rv) (sh : Sh) : callN MT (k + 1) 65 [a0] sh = ending (execs (callN MT k) b_law_k04 ⟨[some a0, none, none, none, none, none, none, none, none, none, none, none, none, none, none], sh⟩) := rfl
theorem u_law_ask_4 (k : Nat) (a0 a1 a2 : Rv) (sh : Sh) : callN MT (k + 1) 66 [a0, a1, a2] sh = ending (execs (callN MT k) b_law_ask_4 ⟨[some a0, some a1, some a2, none], sh⟩) := rfl
theorem u_law_unlike (k : Nat) (a0 a1 : Rv) (sh : Sh) : callN MT (k + 1) 67 [a0, a1] sh = ending (execs (callN MT k) b_law_unlike ⟨[some a0, some a1, none], sh⟩) := rfl
theorem u_law_least_2 (k : Nat) (a0 a1 : Rv) (sh : Sh) : callN MT (k + 1) 68 [a0, a1] sh = ending (execs (callN MT k) b_law_least_2 ⟨[some a0, some a1, none, none, none, none, none, none, none, none, none, none], sh⟩) := rfl
theorem u_law_k05 (k : Nat) (a0 : Rv) (sh : Sh) : callN MT (k + 1) 69 [a0] sh = ending (execs (callN MT k) b_law_k05 ⟨[some a0, none, none, none, none, none, none, none, none, none, none, none, none], sh⟩) := rfl
theorem u_likeliest (k : Nat) (a0 : Rv) (sh : Sh) : callN MT (k + 1) 70 [a0] sh = ending (execs (callN MT k) b_likeliest ⟨[some a0, none, none, none, none], sh⟩) := rfl
theorem u_law_ask_5 (k : Nat) (a0 : Rv) (sh : Sh) : callN MT (k + 1) 71 [a0] sh = ending (execs (callN MT k) b_law_ask_5 ⟨[some a0, none], sh⟩) := rfl
theorem u_law_k06 (k : Nat) (a0 : Rv) (sh : Sh) : callN MT (k + 1) 72 [a0] sh = ending (execs (callN MT k) b_law_k06 ⟨[some a0, none, none, none, none, none, none, none, none, none, none], sh⟩) := rfl
theorem u_need_words (k : Nat) (a0 a1 : Rv) (sh : Sh) : callN MT (k + 1) 73 [a0, a1] sh = ending (execs (callN MT k) b_need_words ⟨[some a0, some a1, none], sh⟩) := rfl
theorem u_is_layer (k : Nat) (a0 a1 : Rv) (sh : Sh) : callN MT (k + 1) 74 [a0, a1] sh = ending (execs (callN MT k) b_is_layer ⟨[some a0, some a1], sh⟩) := rfl
theorem u_first_of (k : Nat) (a0 a1 : Rv) (sh : Sh) : callN MT (k + 1) 75 [a0, a1] sh = ending (execs (callN MT k) b_first_of ⟨[some a0, some a1, none, none, none], sh⟩) := rfl
theorem u_xor_of (k : Nat) (a0 a1 : Rv) (sh : Sh) : callN MT (k + 1) 76 [a0, a1] sh = ending (execs (callN MT k) b_xor_of ⟨[some a0, some a1, none, none], sh⟩) := rfl
theorem u_checked (k : Nat) (a0 a1 a2 : Rv) (sh : Sh) : callN MT (k + 1) 77 [a0, a1, a2] sh = ending (execs (callN MT k) b_checked ⟨[some a0, some a1, some a2, none, none], sh⟩) := rfl
theorem u_packets_in (k : Nat) (a0 a1 a2 a3 : Rv) (sh : Sh) : callN MT (k + 1) 78 [a0, a1, a2, a3] sh = ending (execs (callN MT k) b_packets_in ⟨[some a0, some a1, some a2, some a3, none, none, none], sh⟩) := rfl
theorem u_parted (k : Nat) (a0 a1 a2 a3 : Rv) (sh : Sh) : callN MT (k + 1) 79 [a0, a1, a2, a3] sh = ending (execs (callN MT k) b_parted ⟨[some a0, some a1, some a2, some a3], sh⟩) := rfl
theorem u_layers_for (k : Nat) (a0 a1 : Rv) (sh : Sh) : callN MT (k + 1) 80 [a0, a1] sh = ending (execs (callN MT k) b_layers_for ⟨[some a0, some a1, none, none, none, none, none, none], sh⟩) := rfl
theorem u_law_ask_6 (k : Nat) (a0 a1 a2 a3 a4 : Rv) (sh : Sh) : callN MT (k + 1) 81 [a0, a1, a2, a3, a4] sh = ending (execs (callN MT k) b_law_ask_6 ⟨[some a0, some a1, some a2, some a3, some a4, none], sh⟩) := rfl
theorem u_law_together (k : Nat) (a0 a1 a2 : Rv) (sh : Sh) : callN MT (k + 1) 82 [a0, a1, a2] sh = ending (execs (callN MT k) b_law_together ⟨[some a0, some a1, some a2, none, none, none], sh⟩) := rfl
theorem u_law_parted (k : Nat) (a0 a1 a2 a3 : Rv) (sh : Sh) : callN MT (k + 1) 83 [a0, a1, a2, a3] sh = ending (execs (callN MT k) b_law_parted ⟨[some a0, some a1, some a2, some a3, none, none, none, none, none], sh⟩) := rfl
theorem u_law_laid (k : Nat) (a0 a1 a2 a3 a4 : Rv) (sh : Sh) : callN MT (k + 1) 84 [a0, a1, a2, a3, a4] sh = ending (execs (callN MT k) b_law_laid ⟨[some a0, some a1, some a2, some a3, some a4, none, none, none, none, none, none, none], sh⟩) := rfl
theorem u_law_refused (k : Nat) (a0 a1 a2 a3 a4 : Rv) (sh : Sh) : callN MT (k + 1) 85 [a0, a1, a2, a3, a4] sh = ending (execs (callN MT k) b_law_refused ⟨[some a0, some a1, some a2, some a3, some a4, none, none, none, none], sh⟩) := rfl
theorem u_law_k07 (k : Nat) (a0 : Rv) (sh : Sh) : callN MT (k + 1) 86 [a0] sh = ending (execs (callN MT k) b_law_k07 ⟨[some a0, none, none, none, none, none, none, none, none, none, none, none, none, none, none, none, none, none], sh⟩) := rfl
theorem u_read (k : Nat) (a0 : Rv) (sh : Sh) : callN MT (k + 1) 87 [a0] sh = ending (execs (callN MT k) b_read ⟨[some a0, none, none], sh⟩) := rfl
theorem u_law_ask_7 (k : Nat) (a0 : Rv) (sh : Sh) : callN MT (k + 1) 88 [a0] sh = ending (execs (callN MT k) b_law_ask_7 ⟨[some a0, none], sh⟩) := rfl
theorem u_law_text (k : Nat) (a0 : Rv) (sh : Sh) : callN MT (k + 1) 89 [a0] sh = ending (execs (callN MT k) b_law_text ⟨[some a0, none, none, none, none], sh⟩) := rfl
theorem u_law_k08 (k : Nat) (a0 : Rv) (sh : Sh) : callN MT (k + 1) 90 [a0] sh = ending (execs (callN MT k) b_law_k08 ⟨[some a0, none, none, none, none, none, none, none, none, none, none, none], sh⟩) := rfl
theorem u_law_do (k : Nat) (a0 a1 : Rv) (sh : Sh) : callN MT (k + 1) 91 [a0, a1] sh = ending (execs (callN MT k) b_law_do ⟨[some a0, some a1, none], sh⟩) := rfl
theorem u_law_told (k : Nat) (a0 a1 : Rv) (sh : Sh) : callN MT (k + 1) 92 [a0, a1] sh = ending (execs (callN MT k) b_law_told ⟨[some a0, some a1, none, none, none, none, none, none, none, none, none, none, none, none, none, none, none, none, none, none, none], sh⟩) := rfl
theorem u_law_k09 (k : Nat) (a0 : Rv) (sh : Sh) : callN MT (k + 1) 93 [a0] sh = ending (execs (callN MT k) b_law_k09 ⟨[some a0, none, none, none, none, none, none, none, none, none, none, none, none, none, none, none, none, none, none, none, none], sh⟩) := rfl
theorem u_law_turned (k : Nat) (a0 a1 : Rv) (sh : Sh) : callN MT (k + 1) 94 [a0, a1] sh = ending (execs (callN MT k) b_law_turned ⟨[some a0, some a1, none, none], sh⟩) := rfl
theorem u_law_k10 (k : Nat) (a0 : Rv) (sh : Sh) : callN MT (k + 1) 95 [a0] sh = ending (execs (callN MT k) b_law_k10 ⟨[some a0, none, none, none, none, none, none, none, none, none, none, none, none, none, none, none, none], sh⟩) := rfl
theorem u_law_ask_8 (k : Nat) (a0 a1 a2 a3 : Rv) (sh : Sh) : callN MT (k + 1) 96 [a0, a1, a2, a3] sh = ending (execs (callN MT k) b_law_ask_8 ⟨[some a0, some a1, some a2, some a3, none], sh⟩) := rfl
theorem u_law_k11 (k : Nat) (a0 : Rv) (sh : Sh) : callN MT (k + 1) 97 [a0] sh = ending (execs (callN MT k) b_law_k11 ⟨[some a0, none, none, none, none, none, none], sh⟩) := rfl
theorem u_law_lists (k : Nat) (a0 a1 : Rv) (sh : Sh) : callN MT (k + 1) 98 [a0, a1] sh = ending (execs (callN MT k) b_law_lists ⟨[some a0, some a1, none], sh⟩) := rfl
theorem u_law_rest (k : Nat) (a0 a1 : Rv) (sh : Sh) : callN MT (k + 1) 99 [a0, a1] sh = ending (execs (callN MT k) b_law_rest ⟨[some a0, some a1], sh⟩) := rfl
theorem u_law_k12 (k : Nat) (a0 : Rv) (sh : Sh) : callN MT (k + 1) 100 [a0] sh = ending (execs (callN MT k) b_law_k12 ⟨[some a0, none, none, none, none, none, none, none, none, none, none, none, none, none, none, none, none], sh⟩) := rfl
theorem u_law_ask_9 (k : Nat) (a0 a1 a2 a3 : Rv) (sh : Sh) : callN MT (k + 1) 101 [a0, a1, a2, a3] sh = ending (execs (callN MT k) b_law_ask_9 ⟨[some a0, some a1, some a2, some a3, none], sh⟩) := rfl
theorem u_law_more (k : Nat) (a0 a1 : Rv) (sh : Sh) : callN MT (k + 1) 102 [a0, a1] sh = ending (execs (callN MT k) b_law_more ⟨[some a0, some a1, none, none, none, none], sh⟩) := rfl
theorem u_law_k13 (k : Nat) (a0 : Rv) (sh : Sh) : callN MT (k + 1) 103 [a0] sh = ending (execs (callN MT k) b_law_k13 ⟨[some a0, none, none, none, none, none, none, none], sh⟩) := rfl
theorem u_are_packets (k : Nat) (a0 a1 : Rv) (sh : Sh) : callN MT (k + 1) 104 [a0, a1] sh = ending (execs (callN MT k) b_are_packets ⟨[some a0, some a1, none, none], sh⟩) := rfl
theorem u_need_all (k : Nat) (a0 a1 a2 a3 : Rv) (sh : Sh) : callN MT (k + 1) 105 [a0, a1, a2, a3] sh = ending (execs (callN MT k) b_need_all ⟨[some a0, some a1, some a2, some a3], sh⟩) := rfl
theorem u_check_of (k : Nat) (a0 a1 a2 : Rv) (sh : Sh) : callN MT (k + 1) 106 [a0, a1, a2] sh = ending (execs (callN MT k) b_check_of ⟨[some a0, some a1, some a2, none, none], sh⟩) := rfl
theorem u_one_packed (k : Nat) (a0 a1 : Rv) (sh : Sh) : callN MT (k + 1) 107 [a0, a1] sh = ending (execs (callN MT k) b_one_packed ⟨[some a0, some a1], sh⟩) := rfl
theorem u_packed (k : Nat) (a0 a1 a2 a3 : Rv) (sh : Sh) : callN MT (k + 1) 108 [a0, a1, a2, a3] sh = ending (execs (callN MT k) b_packed ⟨[some a0, some a1, some a2, some a3, none, none, none], sh⟩) := rfl
theorem u_law_layer (k : Nat) (a0 a1 a2 : Rv) (sh : Sh) : callN MT (k + 1) 109 [a0, a1, a2] sh = ending (execs (callN MT k) b_law_layer ⟨[some a0, some a1, some a2, none], sh⟩) := rfl
theorem u_law_packets (k : Nat) (a0 a1 a2 a3 : Rv) (sh : Sh) : callN MT (k + 1) 110 [a0, a1, a2, a3] sh = ending (execs (callN MT k) b_law_packets ⟨[some a0, some a1, some a2, some a3, none, none, none, none, none, none], sh⟩) := rfl
theorem u_law_check (k : Nat) (a0 a1 a2 : Rv) (sh : Sh) : callN MT (k + 1) 111 [a0, a1, a2] sh = ending (execs (callN MT k) b_law_check ⟨[some a0, some a1, some a2, none, none, none], sh⟩) := rfl
theorem u_law_packed (k : Nat) (a0 a1 a2 a3 : Rv) (sh : Sh) : callN MT (k + 1) 112 [a0, a1, a2, a3] sh = ending (execs (callN MT k) b_law_packed ⟨[some a0, some a1, some a2, some a3, none, none, none], sh⟩) := rfl
theorem u_law_which_2 (k : Nat) (a0 : Rv) (sh : Sh) : callN MT (k + 1) 113 [a0] sh = ending (execs (callN MT k) b_law_which_2 ⟨[some a0, none], sh⟩) := rfl
theorem u_law_ask_10 (k : Nat) (a0 a1 a2 a3 : Rv) (sh : Sh) : callN MT (k + 1) 114 [a0, a1, a2, a3] sh = ending (execs (callN MT k) b_law_ask_10 ⟨[some a0, some a1, some a2, some a3, none], sh⟩) := rfl
theorem u_law_k14 (k : Nat) (a0 : Rv) (sh : Sh) : callN MT (k + 1) 115 [a0] sh = ending (execs (callN MT k) b_law_k14 ⟨[some a0, none, none, none, none, none, none, none], sh⟩) := rfl
theorem u_layers_of (k : Nat) (a0 a1 : Rv) (sh : Sh) : callN MT (k + 1) 116 [a0, a1] sh = ending (execs (callN MT k) b_layers_of ⟨[some a0, some a1, none, none, none, none, none, none], sh⟩) := rfl
theorem u_is_packed (k : Nat) (a0 a1 a2 a3 : Rv) (sh : Sh) : callN MT (k + 1) 117 [a0, a1, a2, a3] sh = ending (execs (callN MT k) b_is_packed ⟨[some a0, some a1, some a2, some a3], sh⟩) := rfl
theorem u_law_k15 (k : Nat) (a0 : Rv) (sh : Sh) : callN MT (k + 1) 118 [a0] sh = ending (execs (callN MT k) b_law_k15 ⟨[some a0, none, none, none, none, none, none, none, none, none, none, none], sh⟩) := rfl
theorem u_law_ask_11 (k : Nat) (a0 a1 a2 a3 a4 : Rv) (sh : Sh) : callN MT (k + 1) 119 [a0, a1, a2, a3, a4] sh = ending (execs (callN MT k) b_law_ask_11 ⟨[some a0, some a1, some a2, some a3, some a4, none], sh⟩) := rfl
theorem u_law_k16 (k : Nat) (a0 : Rv) (sh : Sh) : callN MT (k + 1) 120 [a0] sh = ending (execs (callN MT k) b_law_k16 ⟨[some a0, none, none, none, none, none, none, none, none], sh⟩) := rfl
theorem u_runs_of (k : Nat) (a0 : Rv) (sh : Sh) : callN MT (k + 1) 121 [a0] sh = ending (execs (callN MT k) b_runs_of ⟨[some a0, none, none], sh⟩) := rfl
theorem u_runs (k : Nat) (a0 : Rv) (sh : Sh) : callN MT (k + 1) 122 [a0] sh = ending (execs (callN MT k) b_runs ⟨[some a0], sh⟩) := rfl
theorem u_are_runs (k : Nat) (a0 : Rv) (sh : Sh) : callN MT (k + 1) 123 [a0] sh = ending (execs (callN MT k) b_are_runs ⟨[some a0, none, none], sh⟩) := rfl
theorem u_from_runs (k : Nat) (a0 : Rv) (sh : Sh) : callN MT (k + 1) 124 [a0] sh = ending (execs (callN MT k) b_from_runs ⟨[some a0, none, none], sh⟩) := rfl
theorem u_slower (k : Nat) (a0 a1 : Rv) (sh : Sh) : callN MT (k + 1) 125 [a0, a1] sh = ending (execs (callN MT k) b_slower ⟨[some a0, some a1, none], sh⟩) := rfl
theorem u_falls (k : Nat) (a0 : Rv) (sh : Sh) : callN MT (k + 1) 126 [a0] sh = ending (execs (callN MT k) b_falls ⟨[some a0, none], sh⟩) := rfl
theorem u_law_form_3 (k : Nat) (a0 a1 : Rv) (sh : Sh) : callN MT (k + 1) 127 [a0, a1] sh = ending (execs (callN MT k) b_law_form_3 ⟨[some a0, some a1, none, none, none], sh⟩) := rfl
theorem u_law_frame_2 (k : Nat) (a0 a1 : Rv) (sh : Sh) : callN MT (k + 1) 128 [a0, a1] sh = ending (execs (callN MT k) b_law_frame_2 ⟨[some a0, some a1, none, none, none, none, none, none, none, none, none, none], sh⟩) := rfl
theorem u_law_long_2 (k : Nat) (a0 : Rv) (sh : Sh) : callN MT (k + 1) 129 [a0] sh = ending (execs (callN MT k) b_law_long_2 ⟨[some a0], sh⟩) := rfl
theorem u_law_samples_2 (k : Nat) (a0 a1 a2 a3 : Rv) (sh : Sh) : callN MT (k + 1) 130 [a0, a1, a2, a3] sh = ending (execs (callN MT k) b_law_samples_2 ⟨[some a0, some a1, some a2, some a3, none, none, none, none, none, none, none], sh⟩) := rfl
theorem u_law_k17 (k : Nat) (a0 : Rv) (sh : Sh) : callN MT (k + 1) 131 [a0] sh = ending (execs (callN MT k) b_law_k17 ⟨[some a0, none, none, none, none, none, none, none, none, none, none, none, none, none, none], sh⟩) := rfl
theorem u_paces (k : Nat) (a0 : Rv) (sh : Sh) : callN MT (k + 1) 132 [a0] sh = ending (execs (callN MT k) b_paces ⟨[some a0, none], sh⟩) := rfl
theorem u_law_k18 (k : Nat) (a0 : Rv) (sh : Sh) : callN MT (k + 1) 133 [a0] sh = ending (execs (callN MT k) b_law_k18 ⟨[some a0, none, none, none, none, none, none, none, none, none, none, none, none], sh⟩) := rfl
theorem u_law_odd_form (k : Nat) (a0 a1 : Rv) (sh : Sh) : callN MT (k + 1) 134 [a0, a1] sh = ending (execs (callN MT k) b_law_odd_form ⟨[some a0, some a1, none], sh⟩) := rfl
theorem u_law_odd_samples (k : Nat) (a0 a1 : Rv) (sh : Sh) : callN MT (k + 1) 135 [a0, a1] sh = ending (execs (callN MT k) b_law_odd_samples ⟨[some a0, some a1], sh⟩) := rfl
theorem u_law_ask_12 (k : Nat) (a0 a1 a2 : Rv) (sh : Sh) : callN MT (k + 1) 136 [a0, a1, a2] sh = ending (execs (callN MT k) b_law_ask_12 ⟨[some a0, some a1, some a2, none], sh⟩) := rfl
theorem u_law_k19 (k : Nat) (a0 : Rv) (sh : Sh) : callN MT (k + 1) 137 [a0] sh = ending (execs (callN MT k) b_law_k19 ⟨[some a0, none, none, none, none, none], sh⟩) := rfl
theorem u_ways (k : Nat) (a0 a1 : Rv) (sh : Sh) : callN MT (k + 1) 138 [a0, a1] sh = ending (execs (callN MT k) b_ways ⟨[some a0, some a1, none, none, none], sh⟩) := rfl
theorem u_need_ticks (k : Nat) (a0 : Rv) (sh : Sh) : callN MT (k + 1) 139 [a0] sh = ending (execs (callN MT k) b_need_ticks ⟨[some a0], sh⟩) := rfl
theorem u_how_many (k : Nat) (a0 a1 : Rv) (sh : Sh) : callN MT (k + 1) 140 [a0, a1] sh = ending (execs (callN MT k) b_how_many ⟨[some a0, some a1], sh⟩) := rfl
theorem u_frames_rising (k : Nat) (a0 : Rv) (sh : Sh) : callN MT (k + 1) 141 [a0] sh = ending (execs (callN MT k) b_frames_rising ⟨[some a0, none], sh⟩) := rfl
theorem u_samples_at (k : Nat) (a0 a1 a2 : Rv) (sh : Sh) : callN MT (k + 1) 142 [a0, a1, a2] sh = ending (execs (callN MT k) b_samples_at ⟨[some a0, some a1, some a2, none, none, none, none], sh⟩) := rfl
theorem u_number_in (k : Nat) (a0 a1 : Rv) (sh : Sh) : callN MT (k + 1) 143 [a0, a1] sh = ending (execs (callN MT k) b_number_in ⟨[some a0, some a1, none, none, none, none, none, none], sh⟩) := rfl
theorem u_law_all (k : Nat) (a0 a1 : Rv) (sh : Sh) : callN MT (k + 1) 144 [a0, a1] sh = ending (execs (callN MT k) b_law_all ⟨[some a0, some a1, none, none, none, none, none, none, none, none], sh⟩) := rfl
theorem u_law_k20 (k : Nat) (a0 : Rv) (sh : Sh) : callN MT (k + 1) 145 [a0] sh = ending (execs (callN MT k) b_law_k20 ⟨[some a0, none, none, none, none, none, none], sh⟩) := rfl
theorem u_law_k21 (k : Nat) (a0 : Rv) (sh : Sh) : callN MT (k + 1) 146 [a0] sh = ending (execs (callN MT k) b_law_k21 ⟨[some a0, none, none, none, none, none, none, none, none, none, none, none, none], sh⟩) := rfl
theorem u_law_ask_13 (k : Nat) (a0 a1 a2 a3 : Rv) (sh : Sh) : callN MT (k + 1) 147 [a0, a1, a2, a3] sh = ending (execs (callN MT k) b_law_ask_13 ⟨[some a0, some a1, some a2, some a3, none], sh⟩) := rfl
theorem u_law_k22 (k : Nat) (a0 : Rv) (sh : Sh) : callN MT (k + 1) 148 [a0] sh = ending (execs (callN MT k) b_law_k22 ⟨[some a0, none, none, none, none, none, none, none, none, none, none], sh⟩) := rfl
theorem u_ticks_apart (k : Nat) (a0 a1 : Rv) (sh : Sh) : callN MT (k + 1) 149 [a0, a1] sh = ending (execs (callN MT k) b_ticks_apart ⟨[some a0, some a1, none], sh⟩) := rfl
theorem u_nearest_words (k : Nat) (a0 a1 : Rv) (sh : Sh) : callN MT (k + 1) 150 [a0, a1] sh = ending (execs (callN MT k) b_nearest_words ⟨[some a0, some a1, none, none, none], sh⟩) := rfl
theorem u_law_unlike_2 (k : Nat) (a0 a1 : Rv) (sh : Sh) : callN MT (k + 1) 151 [a0, a1] sh = ending (execs (callN MT k) b_law_unlike_2 ⟨[some a0, some a1, none], sh⟩) := rfl
theorem u_law_k23 (k : Nat) (a0 : Rv) (sh : Sh) : callN MT (k + 1) 152 [a0] sh = ending (execs (callN MT k) b_law_k23 ⟨[some a0, none, none, none, none, none, none, none, none, none, none], sh⟩) := rfl
theorem u_apart (k : Nat) (a0 a1 : Rv) (sh : Sh) : callN MT (k + 1) 153 [a0, a1] sh = ending (execs (callN MT k) b_apart ⟨[some a0, some a1], sh⟩) := rfl
theorem u_least_apart (k : Nat) (a0 : Rv) (sh : Sh) : callN MT (k + 1) 154 [a0] sh = ending (execs (callN MT k) b_least_apart ⟨[some a0, none, none, none, none, none], sh⟩) := rfl
theorem u_heard_wrong (k : Nat) (a0 a1 a2 : Rv) (sh : Sh) : callN MT (k + 1) 155 [a0, a1, a2] sh = ending (execs (callN MT k) b_heard_wrong ⟨[some a0, some a1, some a2, none, none], sh⟩) := rfl
theorem u_is_mended (k : Nat) (a0 : Rv) (sh : Sh) : callN MT (k + 1) 156 [a0] sh = ending (execs (callN MT k) b_is_mended ⟨[some a0, none, none], sh⟩) := rfl
theorem u_law_k24 (k : Nat) (a0 : Rv) (sh : Sh) : callN MT (k + 1) 157 [a0] sh = ending (execs (callN MT k) b_law_k24 ⟨[some a0, none, none, none, none, none, none, none, none, none], sh⟩) := rfl
theorem u_law_k25 (k : Nat) (a0 : Rv) (sh : Sh) : callN MT (k + 1) 158 [a0] sh = ending (execs (callN MT k) b_law_k25 ⟨[some a0, none, none, none, none, none, none, none, none, none, none, none, none], sh⟩) := rfl
theorem u_law_ask_14 (k : Nat) (a0 a1 a2 : Rv) (sh : Sh) : callN MT (k + 1) 159 [a0, a1, a2] sh = ending (execs (callN MT k) b_law_ask_14 ⟨[some a0, some a1, some a2, none], sh⟩) := rfl
theorem u_law_k26 (k : Nat) (a0 : Rv) (sh : Sh) : callN MT (k + 1) 160 [a0] sh = ending (execs (callN MT k) b_law_k26 ⟨[some a0, none, none, none, none, none, none, none, none], sh⟩) := rfl
theorem u_heard_of (k : Nat) (a0 a1 : Rv) (sh : Sh) : callN MT (k + 1) 161 [a0, a1] sh = ending (execs (callN MT k) b_heard_of ⟨[some a0, some a1, none, none, none, none, none], sh⟩) := rfl
theorem u_heard (k : Nat) (a0 a1 : Rv) (sh : Sh) : callN MT (k + 1) 162 [a0, a1] sh = ending (execs (callN MT k) b_heard ⟨[some a0, some a1], sh⟩) := rfl
theorem u_law_listens (k : Nat) (a0 a1 : Rv) (sh : Sh) : callN MT (k + 1) 163 [a0, a1] sh = ending (execs (callN MT k) b_law_listens ⟨[some a0, some a1, none, none, none, none, none, none, none, none, none, none, none, none, none, none], sh⟩) := rfl
theorem u_law_noisy (k : Nat) (a0 a1 a2 : Rv) (sh : Sh) : callN MT (k + 1) 164 [a0, a1, a2] sh = ending (execs (callN MT k) b_law_noisy ⟨[some a0, some a1, some a2, none, none, none, none], sh⟩) := rfl
theorem u_law_k27 (k : Nat) (a0 : Rv) (sh : Sh) : callN MT (k + 1) 165 [a0] sh = ending (execs (callN MT k) b_law_k27 ⟨[some a0, none, none, none, none, none, none, none, none, none, none, none], sh⟩) := rfl
theorem u_line_of (k : Nat) (a0 : Rv) (sh : Sh) : callN MT (k + 1) 166 [a0] sh = ending (execs (callN MT k) b_line_of ⟨[some a0], sh⟩) := rfl
theorem u_heard_text (k : Nat) (a0 a1 : Rv) (sh : Sh) : callN MT (k + 1) 167 [a0, a1] sh = ending (execs (callN MT k) b_heard_text ⟨[some a0, some a1, none], sh⟩) := rfl
theorem u_number_of (k : Nat) (a0 a1 : Rv) (sh : Sh) : callN MT (k + 1) 168 [a0, a1] sh = ending (execs (callN MT k) b_number_of ⟨[some a0, some a1], sh⟩) := rfl
theorem u_read_row (k : Nat) (a0 : Rv) (sh : Sh) : callN MT (k + 1) 169 [a0] sh = ending (execs (callN MT k) b_read_row ⟨[some a0, none], sh⟩) := rfl
theorem u_read_heard (k : Nat) (a0 : Rv) (sh : Sh) : callN MT (k + 1) 170 [a0] sh = ending (execs (callN MT k) b_read_heard ⟨[some a0, none, none, none, none], sh⟩) := rfl
theorem u_law_ask_15 (k : Nat) (a0 : Rv) (sh : Sh) : callN MT (k + 1) 171 [a0] sh = ending (execs (callN MT k) b_law_ask_15 ⟨[some a0, none], sh⟩) := rfl
theorem u_law_due (k : Nat) (a0 : Rv) (sh : Sh) : callN MT (k + 1) 172 [a0] sh = ending (execs (callN MT k) b_law_due ⟨[some a0, none, none, none, none, none, none, none], sh⟩) := rfl
theorem u_law_k28 (k : Nat) (a0 : Rv) (sh : Sh) : callN MT (k + 1) 173 [a0] sh = ending (execs (callN MT k) b_law_k28 ⟨[some a0, none, none, none, none, none, none, none, none, none, none, none, none, none, none], sh⟩) := rfl
theorem u_heard_again (k : Nat) (a0 a1 a2 : Rv) (sh : Sh) : callN MT (k + 1) 174 [a0, a1, a2] sh = ending (execs (callN MT k) b_heard_again ⟨[some a0, some a1, some a2, none, none], sh⟩) := rfl
theorem u_faulty_ticks (k : Nat) (a0 a1 : Rv) (sh : Sh) : callN MT (k + 1) 175 [a0, a1] sh = ending (execs (callN MT k) b_faulty_ticks ⟨[some a0, some a1, none, none], sh⟩) := rfl
theorem u_law_k29 (k : Nat) (a0 : Rv) (sh : Sh) : callN MT (k + 1) 176 [a0] sh = ending (execs (callN MT k) b_law_k29 ⟨[some a0, none, none, none, none, none, none, none, none, none, none], sh⟩) := rfl
theorem u_law_ask_16 (k : Nat) (a0 a1 a2 : Rv) (sh : Sh) : callN MT (k + 1) 177 [a0, a1, a2] sh = ending (execs (callN MT k) b_law_ask_16 ⟨[some a0, some a1, some a2, none], sh⟩) := rfl
theorem u_law_k30 (k : Nat) (a0 : Rv) (sh : Sh) : callN MT (k + 1) 178 [a0] sh = ending (execs (callN MT k) b_law_k30 ⟨[some a0, none, none, none, none, none, none], sh⟩) := rfl
theorem u_other_order (k : Nat) (a0 : Rv) (sh : Sh) : callN MT (k + 1) 179 [a0] sh = ending (execs (callN MT k) b_other_order ⟨[some a0], sh⟩) := rfl
theorem u_turned_word (k : Nat) (a0 a1 : Rv) (sh : Sh) : callN MT (k + 1) 180 [a0, a1] sh = ending (execs (callN MT k) b_turned_word ⟨[some a0, some a1, none], sh⟩) := rfl
theorem u_with_pace (k : Nat) (a0 a1 : Rv) (sh : Sh) : callN MT (k + 1) 181 [a0, a1] sh = ending (execs (callN MT k) b_with_pace ⟨[some a0, some a1, none], sh⟩) := rfl
theorem u_law_k31 (k : Nat) (a0 : Rv) (sh : Sh) : callN MT (k + 1) 182 [a0] sh = ending (execs (callN MT k) b_law_k31 ⟨[some a0, none, none, none, none, none, none, none, none, none, none, none, none, none], sh⟩) := rfl
theorem u_spoken_alike (k : Nat) (a0 a1 a2 : Rv) (sh : Sh) : callN MT (k + 1) 183 [a0, a1, a2] sh = ending (execs (callN MT k) b_spoken_alike ⟨[some a0, some a1, some a2, none, none], sh⟩) := rfl
theorem u_total_rest (k : Nat) (a0 a1 : Rv) (sh : Sh) : callN MT (k + 1) 184 [a0, a1] sh = ending (execs (callN MT k) b_total_rest ⟨[some a0, some a1, none, none, none], sh⟩) := rfl
theorem u_law_k32 (k : Nat) (a0 : Rv) (sh : Sh) : callN MT (k + 1) 185 [a0] sh = ending (execs (callN MT k) b_law_k32 ⟨[some a0, none, none, none, none, none, none, none, none, none, none, none, none, none], sh⟩) := rfl
theorem u_law_ask_17 (k : Nat) (a0 a1 a2 a3 : Rv) (sh : Sh) : callN MT (k + 1) 186 [a0, a1, a2, a3] sh = ending (execs (callN MT k) b_law_ask_17 ⟨[some a0, some a1, some a2, some a3, none], sh⟩) := rfl
theorem u_law_k33 (k : Nat) (a0 : Rv) (sh : Sh) : callN MT (k + 1) 187 [a0] sh = ending (execs (callN MT k) b_law_k33 ⟨[some a0, none, none, none, none, none, none], sh⟩) := rfl
theorem u_law_k34 (k : Nat) (a0 : Rv) (sh : Sh) : callN MT (k + 1) 188 [a0] sh = ending (execs (callN MT k) b_law_k34 ⟨[some a0, none, none, none, none, none, none, none, none, none, none], sh⟩) := rfl
theorem u_law_k35 (k : Nat) (a0 : Rv) (sh : Sh) : callN MT (k + 1) 189 [a0] sh = ending (execs (callN MT k) b_law_k35 ⟨[some a0, none, none, none, none, none, none], sh⟩) := rfl
theorem u_law_k36 (k : Nat) (a0 : Rv) (sh : Sh) : callN MT (k + 1) 190 [a0] sh = ending (execs (callN MT k) b_law_k36 ⟨[some a0, none, none, none, none, none, none, none, none, none, none], sh⟩) := rfl
theorem u_law_k37 (k : Nat) (a0 : Rv) (sh : Sh) : callN MT (k + 1) 191 [a0] sh = ending (execs (callN MT k) b_law_k37 ⟨[some a0, none, none, none, none, none, none, none, none, none, none, none, none], sh⟩) := rfl
theorem u_law_k38 (k : Nat) (a0 : Rv) (sh : Sh) : callN MT (k + 1) 192 [a0] sh = ending (execs (callN MT k) b_law_k38 ⟨[some a0, none, none, none, none, none, none, none, none, none, none], sh⟩) := rfl
theorem u_law_k39 (k : Nat) (a0 : Rv) (sh : Sh) : callN MT (k + 1) 193 [a0] sh = ending (execs (callN MT k) b_law_k39 ⟨[some a0, none, none, none, none, none, none, none, none, none, none, none, none, none, none, none], sh⟩) := rfl
theorem u_law_ask_18 (k : Nat) (a0 a1 a2 a3 : Rv) (sh : Sh) : callN MT (k + 1) 194 [a0, a1, a2, a3] sh = ending (execs (callN MT k) b_law_ask_18 ⟨[some a0, some a1, some a2, some a3], sh⟩) := rfl
theorem u_law_k40 (k : Nat) (a0 : Rv) (sh : Sh) : callN MT (k + 1) 195 [a0] sh = ending (execs (callN MT k) b_law_k40 ⟨[some a0, none, none, none, none, none, none, none, none, none, none, none, none, none, none, none], sh⟩) := rfl
end Wi

/-! A law's own table and the table of all. -/
namespace Wi
def AllMT : TabL → Prop
  | [] => True
  | e :: r => MT e.1 = some e.2.1 ∧ AllMT r
theorem AllMT.at : ∀ {L : TabL} {e : Nat × Wi.Def × DI}, AllMT L → e ∈ L → MT e.1 = some e.2.1
  | _ :: _, e, h, hm => by
    rcases List.mem_cons.mp hm with rfl | hm
    · exact h.1
    · exact AllMT.at h.2 hm
def inTab (L : TabL) (f : Nat) : Bool := (L.lookup f).isSome
theorem tab_ag {L : TabL} (h : AllMT L) (hc : (L.all fun e => okSs (inTab L) e.2.1.body) = true) (k f : Nat) (hf : inTab L f = true) : callN (tabOf L) k f = callN MT k f := by
  have key : ∀ f, inTab L f = true → ∃ e ∈ L, e.1 = f ∧ tabOf L f = some e.2.1 := by
    intro f hf
    obtain ⟨p, hp⟩ := Option.isSome_iff_exists.mp hf
    refine ⟨(f, p), mem_lk hp, rfl, ?_⟩
    unfold tabOf
    rw [hp]; rfl
  refine callN_ag (T := inTab L) (fun f hf => ?_) (fun f hf d hd => ?_) k f hf
  · obtain ⟨e, he, rfl, h2⟩ := key f hf
    rw [h2, AllMT.at h he]
  · obtain ⟨e, he, rfl, h2⟩ := key f hf
    rw [h2] at hd
    cases hd
    exact List.all_eq_true.mp hc e he
theorem plain_of {L : TabL} (h : AllMT L) (hc : (L.all fun e => okSs (inTab L) e.2.1.body) = true) {k f : Nat} (hf : inTab L f = true) {a : List Rv} {sh' : Sh} {r : Rv} (hp : callN MT k f a [] = .ok r sh') : callN (tabOf L) k f a [] = .ok r sh' := by
  rw [tab_ag h hc k f hf]; exact hp
end Wi

/-! Steps of the evaluator as rewriting. -/
namespace Wi
/-- a test's two ways -/
def onB {α : Type} (x : Rv) (a b : Res α) : Res α := match x with | .v (.bl true) => a | .v (.bl false) => b | _ => .err
def nxF (f : Fl) (a : Res Fl) (s : St) : Res Fl := match f with | .nx => a | f => .ok f s
section
variable {α β : Type} {Γ : Gam} {sl : List (Option Rv)} {sh : Sh} {s : St}
theorem bind_cg {m m' : Res α} {f : α → St → Res β} (h : m = m') : m.bind f = m'.bind f := by rw [h]
theorem q_bok (a : α) (s : St) (f : α → St → Res β) : (Res.ok a s).bind f = f a s := rfl
theorem q_berr (f : α → St → Res β) : (Res.err : Res α).bind f = .err := rfl
theorem q_bexc (k : Nat) (s : St) (f : α → St → Res β) : (Res.exc k s : Res α).bind f = .exc k s := rfl
theorem q_bite (c : Prop) [Decidable c] (a b : Res α) (f : α → St → Res β) : (if c then a else b).bind f = if c then a.bind f else b.bind f := by split <;> rfl
theorem q_onB (c : Bool) (a b : Res α) : onB (.v (.bl c)) a b = if c = true then a else b := by cases c <;> rfl
theorem q_nx (a : Res Fl) (s : St) : nxF .nx a s = a := rfl
theorem q_rt (r : Rv) (a : Res Fl) (s : St) : nxF (.rt r) a s = .ok (.rt r) s := rfl
theorem q_ct (a : Res Fl) (s : St) : nxF .ct a s = .ok .ct s := rfl
theorem q_fz (m : Res Rv) : fzr m = m.bind fun r s => .ok (frz r) s := rfl
theorem q_frv (d : D) : frz (.v d) = .v d := rfl
theorem q_frfl (ds : List D) : frz (.fl ds) = .v (.lst ds) := rfl
theorem q_frro (ds : List D) : frz (.ro ds) = .ro ds := rfl
theorem q_frshr (i : Nat) : frz (.shr i) = .shr i := rfl
theorem q_frfn (i : Nat) : frz (.fn i) = .fn i := rfl
theorem q_oo (a : α) (s : St) : ofOpt (some a) s = .ok a s := rfl
theorem q_on (s : St) : (ofOpt none s : Res α) = .err := rfl
theorem q_oite (c : Prop) [Decidable c] (a b : Option α) (s : St) : ofOpt (if c then a else b) s = if c then ofOpt a s else ofOpt b s := by split <;> rfl
/-- of a test: both ways alike but for the answer -/
theorem q_and (c d : Bool) (s : St) : (if c = true then Res.ok (Rv.v (.bl d)) s else .ok (.v (.bl false)) s) = .ok (.v (.bl (c && d))) s := by cases c <;> rfl
theorem q_or (c d : Bool) (s : St) : (if c = true then Res.ok (Rv.v (.bl true)) s else .ok (.v (.bl d)) s) = .ok (.v (.bl (c || d))) s := by cases c <;> rfl
-- expressions
theorem e_const (d : D) (s : St) : ev Γ (.const d) s = .ok (.v d) s := rfl
theorem e_glob (r : Rv) (s : St) : ev Γ (.glob r) s = .ok r s := rfl
theorem e_slot (i : Nat) : ev Γ (.slot i) ⟨sl, sh⟩ = rd i ⟨sl, sh⟩ := rfl
theorem rd_v {i : Nat} {d : D} (h : sl[i]? = some (some (.v d))) : rd i ⟨sl, sh⟩ = .ok (.v d) ⟨sl, sh⟩ := by unfold rd; rw [h]
theorem rd_fl {i : Nat} {ds : List D} (h : sl[i]? = some (some (.fl ds))) : rd i ⟨sl, sh⟩ = .ok (.v (.lst ds)) ⟨sl.set i (some (.v (.lst ds))), sh⟩ := by unfold rd; rw [h]
theorem rd_ro {i : Nat} {ds : List D} (h : sl[i]? = some (some (.ro ds))) : rd i ⟨sl, sh⟩ = .ok (.ro ds) ⟨sl, sh⟩ := by unfold rd; rw [h]
theorem rd_shr {i j : Nat} (h : sl[i]? = some (some (.shr j))) : rd i ⟨sl, sh⟩ = .ok (.shr j) ⟨sl, sh⟩ := by unfold rd; rw [h]
theorem rd_exc {i j : Nat} (h : sl[i]? = some (some (.exc j))) : rd i ⟨sl, sh⟩ = .ok (.exc j) ⟨sl, sh⟩ := by unfold rd; rw [h]
theorem e_bin (op : BOp) (a b : E) : ev Γ (.bin op a b) ⟨sl, sh⟩ = (fzr (ev Γ a ⟨sl, sh⟩)).bind fun x s => (fzr (ev Γ b s)).bind fun y s => ofOpt (binD op x y) s := rfl
theorem e_neg (a : E) : ev Γ (.neg a) ⟨sl, sh⟩ = (fzr (ev Γ a ⟨sl, sh⟩)).bind fun x s => match x with | .v (.int i) => .ok (.v (.int (-i))) s | _ => .err := rfl
theorem e_not (a : E) : ev Γ (.not a) ⟨sl, sh⟩ = (ev Γ a ⟨sl, sh⟩).bind fun x s => match x with | .v (.bl b) => .ok (.v (.bl (!b))) s | _ => .err := rfl
theorem e_and (a b : E) : ev Γ (.and a b) ⟨sl, sh⟩ = (ev Γ a ⟨sl, sh⟩).bind fun x s => onB x (ev Γ b s) (.ok (.v (.bl false)) s) := by
  show Res.bind _ _ = Res.bind _ _
  rfl
theorem e_or (a b : E) : ev Γ (.or a b) ⟨sl, sh⟩ = (ev Γ a ⟨sl, sh⟩).bind fun x s => onB x (.ok (.v (.bl true)) s) (ev Γ b s) := by
  refine congrArg (Res.bind _) (funext fun x => funext fun s => ?_)
  cases x with
  | v d => cases d with
    | bl b => cases b <;> rfl
    | _ => rfl
  | _ => rfl
theorem e_ite (c a b : E) : ev Γ (.ite c a b) ⟨sl, sh⟩ = (ev Γ c ⟨sl, sh⟩).bind fun x s => onB x (ev Γ a s) (ev Γ b s) := rfl
theorem e_cmp (op : COp) (a b : E) : ev Γ (.cmp op a b) ⟨sl, sh⟩ = (fzr (ev Γ a ⟨sl, sh⟩)).bind fun x s => (fzr (ev Γ b s)).bind fun y s => (ofOpt (cmpD op x y) s).bind fun b s => .ok (.v (.bl b)) s := rfl
theorem e_cmp2 (op op' : COp) (a b c : E) : ev Γ (.cmp2 op op' a b c) ⟨sl, sh⟩ = (fzr (ev Γ a ⟨sl, sh⟩)).bind fun x s => (fzr (ev Γ b s)).bind fun y s => (ofOpt (cmpD op x y) s).bind fun t s =>
      if t = true then (fzr (ev Γ c s)).bind fun z s => (ofOpt (cmpD op' y z) s).bind fun b s => .ok (.v (.bl b)) s else .ok (.v (.bl false)) s := rfl
theorem e_cmpS (op : COp) (i : Nat) (b : E) : ev Γ (.cmpS op i b) ⟨sl, sh⟩ = if (peek i ⟨sl, sh⟩).isSome = true then (fzr (ev Γ b ⟨sl, sh⟩)).bind fun y s => match peek i s with
      | some x => (ofOpt (cmpD op (frz x) y) s).bind fun b s => .ok (.v (.bl b)) s
      | none => .err
    else .err := rfl
theorem e_inS (n : Bool) (a : E) (i : Nat) : ev Γ (.inS n a i) ⟨sl, sh⟩ = (fzr (ev Γ a ⟨sl, sh⟩)).bind fun x s => match peek i s with
      | some y => (ofOpt (cmpD (if n then .notin else .isin) x (frz y)) s).bind fun b s => .ok (.v (.bl b)) s
      | none => .err := rfl
def unV (r : Rv) : Option D := match r with | .v d => some d | _ => none
theorem e_tup (es : Es) : ev Γ (.tup es) ⟨sl, sh⟩ = (evs Γ es ⟨sl, sh⟩).bind fun xs s => match xs.mapM unV with
      | some ds => .ok (.v (.tup ds)) s
      | none => .err := rfl
theorem e_lst (es : Es) : ev Γ (.lst es) ⟨sl, sh⟩ = (evs Γ es ⟨sl, sh⟩).bind fun xs s => match xs.mapM unV with
      | some ds => .ok (.fl ds) s
      | none => .err := rfl
theorem q_mm0 : ([] : List Rv).mapM unV = some [] := rfl
theorem q_mm1 (d : D) (r : List Rv) : (Rv.v d :: r).mapM unV = (r.mapM unV).map (d :: ·) := by simp [List.mapM_cons, unV]; cases r.mapM unV <;> rfl
theorem q_om (a : α) (f : α → β) : (some a).map f = some (f a) := rfl
theorem e_pick (ks : List (List Nat)) (es : Es) (k : E) : ev Γ (.pick ks es k) ⟨sl, sh⟩ = (evs Γ es ⟨sl, sh⟩).bind fun xs s => (fzr (ev Γ k s)).bind fun y s => match y with
      | .v (.str z) => match (ks.zip xs).lookup z with
        | some r => .ok r s
        | none => .err
      | _ => .err := rfl
theorem e_call (f : Nat) (es : Es) : ev Γ (.call f es) ⟨sl, sh⟩ = (evs Γ es ⟨sl, sh⟩).bind fun xs s => callR Γ f xs s := rfl
theorem e_callSel (fs : List Nat) (k : E) (es : Es) : ev Γ (.callSel fs k es) ⟨sl, sh⟩ = (ev Γ k ⟨sl, sh⟩).bind fun x s => match x with
      | .v (.int i) => match atL fs i with
        | some f => (evs Γ es s).bind fun xs s => callR Γ f xs s
        | none => .err
      | _ => .err := rfl
theorem e_bi (b : BI) (es : Es) : ev Γ (.bi b es) ⟨sl, sh⟩ = (evs Γ es ⟨sl, sh⟩).bind fun xs s => ofOpt (biD b xs) s := rfl
theorem e_lenS (i : Nat) : ev Γ (.lenS i) ⟨sl, sh⟩ = match (peek i ⟨sl, sh⟩).bind lenD with
      | some (n : Nat) => .ok (.v (.int (n : Int))) ⟨sl, sh⟩
      | none => .err := rfl
theorem e_join (sep : List Nat) (e : E) : ev Γ (.join sep e) ⟨sl, sh⟩ = (fzr (ev Γ e ⟨sl, sh⟩)).bind fun x s => ofOpt (joinD sep x) s := rfl
theorem e_meth (m : Mt) (o : E) (es : Es) : ev Γ (.meth m o es) ⟨sl, sh⟩ = (fzr (ev Γ o ⟨sl, sh⟩)).bind fun x s => if isLst x = true then (evs Γ es s).bind fun xs s => ofOpt (methD m x xs) s else .err := rfl
theorem e_sub (a i : E) : ev Γ (.sub a i) ⟨sl, sh⟩ = (fzr (ev Γ a ⟨sl, sh⟩)).bind fun x s => (fzr (ev Γ i s)).bind fun y s => ofOpt (subD x y) s := rfl
theorem e_subS (k : Nat) (i : E) : ev Γ (.subS k i) ⟨sl, sh⟩ = if (peek k ⟨sl, sh⟩).isSome = true then (fzr (ev Γ i ⟨sl, sh⟩)).bind fun y s => match peek k s with
      | some x => ofOpt (subD x y) s
      | none => .err
    else .err := rfl
theorem e_cut (a lo hi : E) : ev Γ (.cut a lo hi) ⟨sl, sh⟩ = (fzr (ev Γ a ⟨sl, sh⟩)).bind fun x s => (fzr (ev Γ lo s)).bind fun l s => (ofOpt (partI lo l) s).bind fun ol s =>
      (fzr (ev Γ hi s)).bind fun h s => (ofOpt (partI hi h) s).bind fun oh s => ofOpt (cutD x ol oh) s := rfl
theorem e_rev (a : E) : ev Γ (.rev a) ⟨sl, sh⟩ = (fzr (ev Γ a ⟨sl, sh⟩)).bind fun x s => ofOpt (revD x) s := rfl
theorem e_isin (e : E) (ts : List Ty) : ev Γ (.isin e ts) ⟨sl, sh⟩ = (fzr (ev Γ e ⟨sl, sh⟩)).bind fun x s => (ofOpt (tysD ts x) s).bind fun b s => .ok (.v (.bl b)) s := rfl
theorem es_nil (s : St) : evs Γ .nil s = .ok [] s := rfl
theorem es_cons (e : E) (es : Es) : evs Γ (.cons e es) ⟨sl, sh⟩ = (ev Γ e ⟨sl, sh⟩).bind fun r s => (evs Γ es s).bind fun rs s => .ok (frz r :: rs) s := rfl
theorem i_val (e : E) : evIt Γ (.val e) ⟨sl, sh⟩ = (fzr (ev Γ e ⟨sl, sh⟩)).bind fun x s => ofOpt (itD x) s := rfl
theorem i_range1 (a : E) : evIt Γ (.range1 a) ⟨sl, sh⟩ = (fzr (ev Γ a ⟨sl, sh⟩)).bind fun x s => match x with | .v (.int i) => if okI i = true then .ok (rangeD 0 i.toNat) s else .err | _ => .err := rfl
theorem i_range2 (a b : E) : evIt Γ (.range2 a b) ⟨sl, sh⟩ = (fzr (ev Γ a ⟨sl, sh⟩)).bind fun x s => (fzr (ev Γ b s)).bind fun y s => match x, y with
      | .v (.int i), .v (.int j) => if okI i = true ∧ okI j = true then .ok (rangeD i (j - i).toNat) s else .err
      | _, _ => .err := rfl
theorem i_enum (a : E) : evIt Γ (.enum a) ⟨sl, sh⟩ = (fzr (ev Γ a ⟨sl, sh⟩)).bind fun x s => match x with | .v (.lst ds) => .ok (enumD 0 ds) s | _ => .err := rfl
theorem i_zip (a b : E) : evIt Γ (.zip a b) ⟨sl, sh⟩ = (fzr (ev Γ a ⟨sl, sh⟩)).bind fun x s => (fzr (ev Γ b s)).bind fun y s => match x, y with
      | .v (.lst xs), .v (.lst ys) => .ok (zipD xs ys) s
      | .v (.tup xs), .v (.tup ys) => .ok (zipD xs ys) s
      | _, _ => .err := rfl
-- statements
theorem x_nil (s : St) : execs Γ .nil s = .ok .nx s := rfl
theorem x_cons (a : S) (b : Ss) : execs Γ (.cons a b) ⟨sl, sh⟩ = (exec Γ a ⟨sl, sh⟩).bind fun f s => nxF f (execs Γ b s) s := by
  show Res.bind _ _ = Res.bind _ _
  rfl
theorem x_set (i : Nat) (e : E) : exec Γ (.set i e) ⟨sl, sh⟩ = (ev Γ e ⟨sl, sh⟩).bind fun r s => (put i r s).bind fun _ s => .ok .nx s := rfl
theorem x_shr (i : Nat) : exec Γ (.shr i) ⟨sl, sh⟩ = (put i (.shr sh.length) ⟨sl, sh ++ [.lst []]⟩).bind fun _ s => .ok .nx s := rfl
theorem x_unp (is : List Nat) (e : E) : exec Γ (.unp is e) ⟨sl, sh⟩ = (fzr (ev Γ e ⟨sl, sh⟩)).bind fun r s => match seqOf r with
      | some ds => (puts is ds s).bind fun _ s => .ok .nx s
      | none => .err := rfl
theorem x_par (is : List Nat) (es : Es) : exec Γ (.par is es) ⟨sl, sh⟩ = (evs Γ es ⟨sl, sh⟩).bind fun rs s => (putsR is rs s).bind fun _ s => .ok .nx s := rfl
theorem x_expr (e : E) : exec Γ (.expr e) ⟨sl, sh⟩ = (ev Γ e ⟨sl, sh⟩).bind fun _ s => .ok .nx s := rfl
theorem x_app (i : Nat) (e : E) : exec Γ (.app i e) ⟨sl, sh⟩ = if lstAt i ⟨sl, sh⟩ = true then (fzr (ev Γ e ⟨sl, sh⟩)).bind fun r s => match r with | .v d => app1 i d s | _ => .err else .err := rfl
theorem x_ext (i : Nat) (e : E) : exec Γ (.ext i e) ⟨sl, sh⟩ = if lstAt i ⟨sl, sh⟩ = true then (fzr (ev Γ e ⟨sl, sh⟩)).bind fun r s => match r with
      | .v (.lst ds) => ext1 i ds s
      | _ => .err else .err := rfl
theorem x_put (i : Nat) (k e : E) : exec Γ (.put i k e) ⟨sl, sh⟩ = (fzr (ev Γ e ⟨sl, sh⟩)).bind fun w s => if lstAt i s = true then (fzr (ev Γ k s)).bind fun k s => put1 i k w s else .err := rfl
theorem x_ite (c : E) (a b : Ss) : exec Γ (.ite c a b) ⟨sl, sh⟩ = (ev Γ c ⟨sl, sh⟩).bind fun x s => onB x (execs Γ a s) (execs Γ b s) := rfl
theorem x_for (tg : List Nat) (one : Bool) (it : It) (b : Ss) : exec Γ (.for tg one it b) ⟨sl, sh⟩ = (evIt Γ it ⟨sl, sh⟩).bind fun ds s => forL (fun d s => (setTg tg one d s).bind fun _ s => execs Γ b s) ds s := rfl
theorem x_while (c : E) (b : Ss) : exec Γ (.while c b) ⟨sl, sh⟩ = whileN (ev Γ c) (execs Γ b) WN ⟨sl, sh⟩ := rfl
theorem x_ret (e : E) : exec Γ (.ret e) ⟨sl, sh⟩ = (ev Γ e ⟨sl, sh⟩).bind fun r s => .ok (.rt r) s := rfl
theorem x_retS (i : Nat) : exec Γ (.retS i) ⟨sl, sh⟩ = match sl[i]? with
      | some (some r) => .ok (.rt r) ⟨sl, sh⟩
      | _ => .err := rfl
theorem x_raise (k : Nat) (s : St) : exec Γ (.raise k) s = .exc k s := rfl
theorem x_cont (s : St) : exec Γ .cont s = .ok .ct s := rfl
theorem x_pass (s : St) : exec Γ .pass s = .ok .nx s := rfl
theorem x_tryRet (b : Ss) (ks : List Nat) (h : Hd) : exec Γ (.tryRet b ks h) ⟨sl, sh⟩ = match execs Γ b ⟨sl, sh⟩ with
      | .exc k s => if caught ks k = true then handed Γ h k s else if k < 13 then .exc k s else .err
      | r => r := rfl
theorem put_is {i : Nat} {r : Rv} (h : i < sl.length) : put i r ⟨sl, sh⟩ = .ok () ⟨sl.set i (some r), sh⟩ := by unfold put; rw [if_pos h]
theorem callR_is {f : Nat} {xs : List Rv} {r : Rv} {sh' : Sh} (h : Γ f xs sh = .ok r sh') : callR Γ f xs ⟨sl, sh⟩ = .ok r ⟨sl, sh'⟩ := by unfold callR; rw [h]
theorem callR_exc {f : Nat} {xs : List Rv} {k : Nat} {sh' : Sh} (h : Γ f xs sh = .exc k sh') : callR Γ f xs ⟨sl, sh⟩ = .exc k ⟨sl, sh'⟩ := by unfold callR; rw [h]
def endR (x : RC) (sl : List (Option Rv)) : Res Rv := match x with | .ok r sh => .ok r ⟨sl, sh⟩ | .exc k sh => .exc k ⟨sl, sh⟩ | .err => .err
theorem q_callR (f : Nat) (xs : List Rv) : callR Γ f xs ⟨sl, sh⟩ = endR (Γ f xs sh) sl := by unfold callR endR; cases Γ f xs sh <;> rfl
theorem q_eR1 (r : Rv) (sh : Sh) : endR (.ok r sh) sl = .ok r ⟨sl, sh⟩ := rfl
theorem q_eR2 (k : Nat) (sh : Sh) : endR (.exc k sh) sl = .exc k ⟨sl, sh⟩ := rfl
theorem q_eR3 : endR .err sl = .err := rfl
theorem q_eRi (c : Prop) [Decidable c] (a b : RC) : endR (if c then a else b) sl = if c then endR a sl else endR b sl := by split <;> rfl
theorem q_e1 (r : Rv) (sl : List (Option Rv)) (sh : Sh) : ending (.ok (.rt r) ⟨sl, sh⟩) = .ok r sh := rfl
theorem q_e2 (sl : List (Option Rv)) (sh : Sh) : ending (.ok .nx ⟨sl, sh⟩) = .ok (.v .non) sh := rfl
theorem q_e3 (k : Nat) (sl : List (Option Rv)) (sh : Sh) : ending (.exc k ⟨sl, sh⟩) = .exc k sh := rfl
theorem q_ei (c : Prop) [Decidable c] (a b : Res Fl) : ending (if c then a else b) = if c then ending a else ending b := by split <;> rfl
end
end Wi

/-! Values in natural numbers; the rewriting set. -/
namespace Wi
def nI (n : Nat) : D := .int (n : Int)
inductive Par where | none | even | odd
  deriving DecidableEq
structure Form where
  p : Nat
  b : Nat
  lo : Bool
  q : Par
  s : Nat
  hp : 1 ≤ p
  hp6 : p ≤ 6
  hb : 4 ≤ b
  hb6 : b ≤ 6
  hs : 1 ≤ s
  hs2 : s ≤ 2
def ordS (lo : Bool) : List Nat := if lo = true then [108, 111, 119] else [104, 105, 103, 104]
def parS : Par → List Nat
  | .none => [110, 111, 110, 101]
  | .even => [101, 118, 101, 110]
  | .odd => [111, 100, 100]
def Form.d (F : Form) : D := .tup [nI F.p, nI F.b, .str (ordS F.lo), .str (parS F.q), nI F.s]
def nL (l : List Nat) : List D := l.map nI
def rdK (o : Option (Option Rv)) (i : Nat) (sl : List (Option Rv)) (sh : Sh) : Res Rv := match o with
  | some (some r) => match r with
    | .fl ds => .ok (.v (.lst ds)) ⟨sl.set i (some (.v (.lst ds))), sh⟩
    | .fd ks vs => .ok (.fz ks vs) ⟨sl.set i (some (.fz ks vs)), sh⟩
    | r => .ok r ⟨sl, sh⟩
  | _ => .err
def rsK (o : Option (Option Rv)) (sl : List (Option Rv)) (sh : Sh) : Res Fl := match o with
  | some (some r) => .ok (.rt r) ⟨sl, sh⟩
  | _ => .err
def rgK (x : Rv) (s : St) : Res (List D) := match x with | .v (.int i) => if okI i = true then .ok (rangeD 0 i.toNat) s else .err | _ => .err
def rg2K (x y : Rv) (s : St) : Res (List D) := match x, y with
      | .v (.int i), .v (.int j) => if okI i = true ∧ okI j = true then .ok (rangeD i (j - i).toNat) s else .err
      | _, _ => .err
section
variable {Γ : Gam} {sl : List (Option Rv)} {sh : Sh} {s : St}
theorem e_slot' (i : Nat) : ev Γ (.slot i) ⟨sl, sh⟩ = rdK sl[i]? i sl sh := rfl
theorem x_retS' (i : Nat) : exec Γ (.retS i) ⟨sl, sh⟩ = rsK sl[i]? sl sh := rfl
theorem rsK_s (r : Rv) : rsK (some (some r)) sl sh = .ok (.rt r) ⟨sl, sh⟩ := rfl
theorem rdK_v (i : Nat) (d : D) : rdK (some (some (.v d))) i sl sh = .ok (.v d) ⟨sl, sh⟩ := rfl
theorem rdK_fl (i : Nat) (ds : List D) : rdK (some (some (.fl ds))) i sl sh = .ok (.v (.lst ds)) ⟨sl.set i (some (.v (.lst ds))), sh⟩ := rfl
theorem pick_par3 (q : Par) (a b c : Rv) : (([[110, 111, 110, 101], [101, 118, 101, 110], [111, 100, 100]] : List (List Nat)).zip [a, b, c]).lookup (parS q) = some (match q with | .none => a | .even => b | .odd => c) := by cases q <;> rfl
theorem rdK_z {r : Rv} {ds : List D} (h : frz r = .v (.lst ds)) (i : Nat) (h2 : sl[i]? = some (some r)) : rdK (some (some r)) i sl sh = .ok (.v (.lst ds)) ⟨sl.set i (some (.v (.lst ds))), sh⟩ := by
  cases r with
  | v d =>
    have h : Rv.v d = .v (.lst ds) := h
    cases h
    have : sl.set i (some (.v (.lst ds))) = sl := by
      apply List.ext_getElem?
      intro j
      rw [List.getElem?_set]
      split
      · rename_i e; subst e; rw [h2]; split <;> first | rfl | (rename_i q; rw [List.getElem?_eq_none (by omega)] at h2; cases h2)
      · rfl
    rw [this]; rfl
  | fl d =>
    have h : Rv.v (.lst d) = .v (.lst ds) := h
    cases h; rfl
  | _ => cases h
theorem rdK_ro (i : Nat) (ds : List D) : rdK (some (some (.ro ds))) i sl sh = .ok (.ro ds) ⟨sl, sh⟩ := rfl
theorem rdK_shr (i j : Nat) : rdK (some (some (.shr j))) i sl sh = .ok (.shr j) ⟨sl, sh⟩ := rfl
theorem rdK_exc (i j : Nat) : rdK (some (some (.exc j))) i sl sh = .ok (.exc j) ⟨sl, sh⟩ := rfl
theorem put_if (i : Nat) (r : Rv) : put i r ⟨sl, sh⟩ = if i < sl.length then .ok () ⟨sl.set i (some r), sh⟩ else .err := rfl
theorem fd_0 (F : Form) : subD (.v F.d) (.v (nI 0)) = some (.v (nI F.p)) := rfl
theorem fd_1 (F : Form) : subD (.v F.d) (.v (nI 1)) = some (.v (nI F.b)) := rfl
theorem fd_2 (F : Form) : subD (.v F.d) (.v (nI 2)) = some (.v (.str (ordS F.lo))) := rfl
theorem fd_3 (F : Form) : subD (.v F.d) (.v (nI 3)) = some (.v (.str (parS F.q))) := rfl
theorem fd_4 (F : Form) : subD (.v F.d) (.v (nI 4)) = some (.v (nI F.s)) := rfl
theorem fd_t (F : Form) : tyD .tuple (.v F.d) = some true := rfl
theorem fd_seq (F : Form) : seqOf (.v F.d) = some [nI F.p, nI F.b, .str (ordS F.lo), .str (parS F.q), nI F.s] := rfl
theorem fd_len (F : Form) : lenD (.v F.d) = some 5 := rfl
theorem fd_dep (F : Form) : F.d.dep = 1 := rfl
theorem ord_low (lo : Bool) : deq (.str (ordS lo)) (.str [108, 111, 119]) = lo := by cases lo <;> rfl
theorem ord_in (lo : Bool) : inL (.str (ordS lo)) [.str [108, 111, 119], .str [104, 105, 103, 104]] = true := by cases lo <;> rfl
theorem par_in (q : Par) : inL (.str (parS q)) [.str [110, 111, 110, 101], .str [101, 118, 101, 110], .str [111, 100, 100]] = true := by cases q <;> rfl
theorem par_none (q : Par) : deq (.str (parS q)) (.str [110, 111, 110, 101]) = decide (q = .none) := by cases q <;> rfl
theorem par_even (q : Par) : deq (.str (parS q)) (.str [101, 118, 101, 110]) = decide (q = .even) := by cases q <;> rfl
theorem par_odd (q : Par) : deq (.str (parS q)) (.str [111, 100, 100]) = decide (q = .odd) := by cases q <;> rfl
theorem len_s (x : List Nat) : lenD (.v (.str x)) = some x.length := rfl
theorem len_t (x : List D) : lenD (.v (.tup x)) = some x.length := rfl
theorem len_l (x : List D) : lenD (.v (.lst x)) = some x.length := rfl
theorem len_f (x : List D) : lenD (.fl x) = some x.length := rfl
theorem len_r (x : List D) : lenD (.ro x) = some x.length := rfl
theorem seq_t (x : List D) : seqOf (.v (.tup x)) = some x := rfl
theorem seq_l (x : List D) : seqOf (.v (.lst x)) = some x := rfl
def pkK (o : Option (Option Rv)) (sh : Sh) : Option Rv := match o with
  | some (some (.shr k)) => match sh[k]? with
    | some (.lst ds) => some (.fl ds)
    | _ => none
  | some (some r) => some r
  | _ => none
theorem peek' (i : Nat) : peek i ⟨sl, sh⟩ = pkK sl[i]? sh := rfl
theorem pkK_v (d : D) : pkK (some (some (.v d))) sh = some (.v d) := rfl
theorem pkK_fl (d : List D) : pkK (some (some (.fl d))) sh = some (.fl d) := rfl
theorem pkK_ro (d : List D) : pkK (some (some (.ro d))) sh = some (.ro d) := rfl
theorem n_eq (n : Nat) : D.int (n : Int) = nI n := rfl
theorem k_0 : D.int 0 = nI 0 := rfl
theorem k_1 : D.int 1 = nI 1 := rfl
theorem k_2 : D.int 2 = nI 2 := rfl
theorem k_3 : D.int 3 = nI 3 := rfl
theorem k_4 : D.int 4 = nI 4 := rfl
theorem k_5 : D.int 5 = nI 5 := rfl
theorem k_6 : D.int 6 = nI 6 := rfl
theorem k_7 : D.int 7 = nI 7 := rfl
theorem k_8 : D.int 8 = nI 8 := rfl
theorem k_9 : D.int 9 = nI 9 := rfl
theorem k_10 : D.int 10 = nI 10 := rfl
theorem k_11 : D.int 11 = nI 11 := rfl
theorem k_12 : D.int 12 = nI 12 := rfl
theorem k_13 : D.int 13 = nI 13 := rfl
theorem k_14 : D.int 14 = nI 14 := rfl
theorem k_15 : D.int 15 = nI 15 := rfl
theorem k_16 : D.int 16 = nI 16 := rfl
theorem k_20 : D.int 20 = nI 20 := rfl
theorem k_30 : D.int 30 = nI 30 := rfl
theorem k_31 : D.int 31 = nI 31 := rfl
theorem k_32 : D.int 32 = nI 32 := rfl
theorem k_33 : D.int 33 = nI 33 := rfl
theorem k_40 : D.int 40 = nI 40 := rfl
theorem k_41 : D.int 41 = nI 41 := rfl
theorem k_59 : D.int 59 = nI 59 := rfl
theorem k_60 : D.int 60 = nI 60 := rfl
theorem k_61 : D.int 61 = nI 61 := rfl
theorem k_63 : D.int 63 = nI 63 := rfl
theorem k_64 : D.int 64 = nI 64 := rfl
theorem k_70 : D.int 70 = nI 70 := rfl
theorem k_80 : D.int 80 = nI 80 := rfl
theorem k_90 : D.int 90 = nI 90 := rfl
theorem k_100 : D.int 100 = nI 100 := rfl
theorem k_101 : D.int 101 = nI 101 := rfl
theorem k_120 : D.int 120 = nI 120 := rfl
theorem k_150 : D.int 150 = nI 150 := rfl
theorem k_180 : D.int 180 = nI 180 := rfl
theorem k_190 : D.int 190 = nI 190 := rfl
theorem k_194 : D.int 194 = nI 194 := rfl
theorem k_195 : D.int 195 = nI 195 := rfl
theorem k_200 : D.int 200 = nI 200 := rfl
theorem k_201 : D.int 201 = nI 201 := rfl
theorem k_7919 : D.int 7919 = nI 7919 := rfl
theorem k_9973 : D.int 9973 = nI 9973 := rfl
theorem k_9999 : D.int 9999 = nI 9999 := rfl
theorem k_12345 : D.int 12345 = nI 12345 := rfl
theorem k_100000 : D.int 100000 = nI 100000 := rfl
theorem k_104729 : D.int 104729 = nI 104729 := rfl
theorem k_999961 : D.int 999961 = nI 999961 := rfl
theorem k_999979 : D.int 999979 = nI 999979 := rfl
theorem k_999983 : D.int 999983 = nI 999983 := rfl
theorem k_1103515245 : D.int 1103515245 = nI 1103515245 := rfl
theorem k_2147483647 : D.int 2147483647 = nI 2147483647 := rfl
theorem n_add (a b : Nat) : binD .add (.v (nI a)) (.v (nI b)) = some (.v (nI (a + b))) := rfl
theorem n_mul (a b : Nat) (h : a < 18446744073709551616 ∨ b < 18446744073709551616) : binD .mul (.v (nI a)) (.v (nI b)) = some (.v (nI (a * b))) := by
  show (if (small a || small b) = true then some (Rv.v (nI (a * b))) else none) = _
  rw [if_pos]
  unfold small
  rcases h with h | h
  · rw [decide_eq_true (by omega), decide_eq_true (by omega)]; rfl
  · rw [decide_eq_true (p := -(2 ^ 64) < (b : Int)) (by omega), decide_eq_true (p := (b : Int) < 2 ^ 64) (by omega)]; simp
theorem n_sub {a b : Nat} (h : b ≤ a) : binD .sub (.v (nI a)) (.v (nI b)) = some (.v (nI (a - b))) := by
  show some (Rv.v (.int ((a : Int) - b))) = _
  unfold nI; rw [Int.natCast_sub h]
theorem n_mod (a : Nat) {b : Nat} (h : 0 < b) : binD .mod (.v (nI a)) (.v (nI b)) = some (.v (nI (a % b))) := by
  show (if (0 : Int) < b then some (Rv.v (.int ((a : Int) % b))) else none) = _
  rw [if_pos (by omega)]; rfl
theorem n_div (a : Nat) {b : Nat} (h : 0 < b) (h2 : b < 18446744073709551616) : binD .fdiv (.v (nI a)) (.v (nI b)) = some (.v (nI (a / b))) := by
  show (if (0 : Int) < b ∧ (b : Int) < 18446744073709551616 then some (Rv.v (.int ((a : Int) / b))) else none) = _
  rw [if_pos (by omega)]; rfl
theorem n_lt (a b : Nat) : cmpD .lt (.v (nI a)) (.v (nI b)) = some (decide (a < b)) := by
  show some (decide ((a : Int) < b)) = _
  congr 1; exact decide_eq_decide.mpr Int.ofNat_lt
theorem n_le (a b : Nat) : cmpD .le (.v (nI a)) (.v (nI b)) = some (decide (a ≤ b)) := by
  show some (decide ((a : Int) ≤ b)) = _
  congr 1; exact decide_eq_decide.mpr Int.ofNat_le
theorem n_gt (a b : Nat) : cmpD .gt (.v (nI a)) (.v (nI b)) = some (decide (b < a)) := n_lt b a
theorem n_ge (a b : Nat) : cmpD .ge (.v (nI a)) (.v (nI b)) = some (decide (b ≤ a)) := n_le b a
theorem n_deq (a b : Nat) : deq (nI a) (nI b) = decide (a = b) := by
  show ((a : Int) == b) = _
  by_cases h : a = b
  · subst h; simp
  · rw [decide_eq_false h]; exact beq_eq_false_iff_ne.mpr (by omega)
theorem dp_non : D.dep .non = 0 := rfl
theorem dp_bl (x : Bool) : D.dep (.bl x) = 0 := rfl
theorem dp_int (x : Int) : D.dep (.int x) = 0 := rfl
theorem dp_str (x : List Nat) : D.dep (.str x) = 0 := rfl
theorem dp_tup (x : List D) : D.dep (.tup x) = 1 + D.depL x := rfl
theorem dp_lst (x : List D) : D.dep (.lst x) = 1 + D.depL x := rfl
theorem dpl_nil : D.depL [] = 0 := rfl
theorem dpl_cons (x : D) (l : List D) : D.depL (x :: l) = max x.dep (D.depL l) := rfl
theorem n_dep (a : Nat) : (nI a).dep = 0 := rfl
theorem n_ty (a : Nat) : tyD .int (.v (nI a)) = some true := rfl
theorem n_tyb (a : Nat) : tyD .bool (.v (nI a)) = some false := rfl
theorem n_tys (a : Nat) : tyD .str (.v (nI a)) = some false := rfl
theorem n_tyt (a : Nat) : tyD .tuple (.v (nI a)) = some false := rfl
theorem n_tyl (a : Nat) : tyD .list (.v (nI a)) = some false := rfl
theorem ty_int_non : tyD .int (.v .non) = some false := rfl
theorem ty_int_bl (b : Bool) : tyD .int (.v (.bl b)) = some true := rfl
theorem ty_int_str (z : List Nat) : tyD .int (.v (.str z)) = some false := rfl
theorem ty_int_tup (z : List D) : tyD .int (.v (.tup z)) = some false := rfl
theorem ty_int_lst (z : List D) : tyD .int (.v (.lst z)) = some false := rfl
theorem ty_int_int (z : Int) : tyD .int (.v (.int z)) = some true := rfl
theorem ty_bool_non : tyD .bool (.v .non) = some false := rfl
theorem ty_bool_bl (b : Bool) : tyD .bool (.v (.bl b)) = some true := rfl
theorem ty_bool_str (z : List Nat) : tyD .bool (.v (.str z)) = some false := rfl
theorem ty_bool_tup (z : List D) : tyD .bool (.v (.tup z)) = some false := rfl
theorem ty_bool_lst (z : List D) : tyD .bool (.v (.lst z)) = some false := rfl
theorem ty_bool_int (z : Int) : tyD .bool (.v (.int z)) = some false := rfl
theorem ty_str_non : tyD .str (.v .non) = some false := rfl
theorem ty_str_bl (b : Bool) : tyD .str (.v (.bl b)) = some false := rfl
theorem ty_str_str (z : List Nat) : tyD .str (.v (.str z)) = some true := rfl
theorem ty_str_tup (z : List D) : tyD .str (.v (.tup z)) = some false := rfl
theorem ty_str_lst (z : List D) : tyD .str (.v (.lst z)) = some false := rfl
theorem ty_str_int (z : Int) : tyD .str (.v (.int z)) = some false := rfl
theorem ty_tuple_non : tyD .tuple (.v .non) = some false := rfl
theorem ty_tuple_bl (b : Bool) : tyD .tuple (.v (.bl b)) = some false := rfl
theorem ty_tuple_str (z : List Nat) : tyD .tuple (.v (.str z)) = some false := rfl
theorem ty_tuple_tup (z : List D) : tyD .tuple (.v (.tup z)) = some true := rfl
theorem ty_tuple_lst (z : List D) : tyD .tuple (.v (.lst z)) = some false := rfl
theorem ty_tuple_int (z : Int) : tyD .tuple (.v (.int z)) = some false := rfl
theorem ty_list_non : tyD .list (.v .non) = some false := rfl
theorem ty_list_bl (b : Bool) : tyD .list (.v (.bl b)) = some false := rfl
theorem ty_list_str (z : List Nat) : tyD .list (.v (.str z)) = some false := rfl
theorem ty_list_tup (z : List D) : tyD .list (.v (.tup z)) = some false := rfl
theorem ty_list_lst (z : List D) : tyD .list (.v (.lst z)) = some true := rfl
theorem ty_list_int (z : Int) : tyD .list (.v (.int z)) = some false := rfl
theorem t_nil (x : Rv) : tysD [] x = some false := rfl
theorem t_cons (t : Ty) (r : List Ty) (x : Rv) : tysD (t :: r) x = (tyD t x).bind fun b => if b = true then some true else tysD r x := rfl
theorem q_eq (a b : D) (h : a.dep ≤ 16 ∨ b.dep ≤ 16) : cmpD .eq (.v a) (.v b) = some (deq a b) := by
  show (if a.dep ≤ 16 ∨ b.dep ≤ 16 then some (deq a b) else none) = _
  rw [if_pos h]
theorem q_ne (a b : D) (h : a.dep ≤ 16 ∨ b.dep ≤ 16) : cmpD .ne (.v a) (.v b) = some (!deq a b) := by
  show (if a.dep ≤ 16 ∨ b.dep ≤ 16 then some (!deq a b) else none) = _
  rw [if_pos h]
theorem q_in (a : D) (xs : List D) (h : a.dep ≤ 16) : cmpD .isin (.v a) (.v (.tup xs)) = some (inL a xs) := by
  cases a with
  | str z => rcases z with _ | ⟨c, _ | ⟨c2, r⟩⟩ <;> exact if_pos (e := none) h
  | _ => exact if_pos (e := none) h
theorem q_inl (a : D) (xs : List D) (h : a.dep ≤ 16) : cmpD .isin (.v a) (.v (.lst xs)) = some (inL a xs) := by
  cases a with
  | str z => rcases z with _ | ⟨c, _ | ⟨c2, r⟩⟩ <;> exact if_pos (e := none) h
  | _ => exact if_pos (e := none) h
theorem q_nin (a : D) (xs : List D) (h : a.dep ≤ 16) : cmpD .notin (.v a) (.v (.tup xs)) = some (!inL a xs) := by
  cases a with
  | str z => rcases z with _ | ⟨c, _ | ⟨c2, r⟩⟩ <;> exact if_pos (e := none) h
  | _ => exact if_pos (e := none) h
theorem q_ninl (a : D) (xs : List D) (h : a.dep ≤ 16) : cmpD .notin (.v a) (.v (.lst xs)) = some (!inL a xs) := by
  cases a with
  | str z => rcases z with _ | ⟨c, _ | ⟨c2, r⟩⟩ <;> exact if_pos (e := none) h
  | _ => exact if_pos (e := none) h
theorem nL_nil : nL [] = [] := rfl
theorem depL_nL : ∀ l : List Nat, D.depL (nL l) = 0
  | [] => rfl
  | a :: l => by
    show max (nI a).dep (D.depL (nL l)) = 0
    rw [depL_nL l]; rfl
theorem dep_nL (l : List Nat) : (D.lst (nL l)).dep = 1 := by
  show 1 + D.depL (nL l) = 1
  rw [depL_nL]
theorem len_nL (l : List Nat) : (nL l).length = l.length := List.length_map ..
theorem len_repL {α : Type} (n : Nat) (x : List α) : (repL n x).length = n * x.length := by
  unfold repL
  simp [List.length_flatten]
theorem n_addS (x y : List Nat) (h : x.length + y.length ≤ 100000) : binD .add (.v (.str x)) (.v (.str y)) = some (.v (.str (x ++ y))) := if_pos h
theorem n_addT (x y : List D) (h : x.length + y.length ≤ 100000) : binD .add (.v (.tup x)) (.v (.tup y)) = some (.v (.tup (x ++ y))) := if_pos h
theorem n_addL (x y : List D) (h : x.length + y.length ≤ 100000) : binD .add (.v (.lst x)) (.v (.lst y)) = some (.fl (x ++ y)) := if_pos h
theorem n_mulS (x : List Nat) (n : Nat) (h : n ≤ 100000) (h2 : x.length * n ≤ 100000) : binD .mul (.v (.str x)) (.v (nI n)) = some (.v (.str (repL n x))) := by
  show (if (0 : Int) ≤ n ∧ x.length * (n : Int).toNat ≤ LIM ∧ (n : Int) ≤ (LIM : Nat) then some (Rv.v (.str (repL (n : Int).toNat x))) else none) = _
  rw [Int.toNat_natCast, if_pos ⟨by omega, h2, by unfold LIM; omega⟩]
theorem n_mulL (x : List D) (n : Nat) (h : n ≤ 100000) (h2 : x.length * n ≤ 100000) : binD .mul (.v (.lst x)) (.v (nI n)) = some (.fl (repL n x)) := by
  show (if (0 : Int) ≤ n ∧ x.length * (n : Int).toNat ≤ LIM ∧ (n : Int) ≤ (LIM : Nat) then some (Rv.fl (repL (n : Int).toNat x)) else none) = _
  rw [Int.toNat_natCast, if_pos ⟨by omega, h2, by unfold LIM; omega⟩]
theorem intsD_nL : ∀ l : List Nat, intsD (nL l) = some (l.map fun (n : Nat) => (n : Int))
  | [] => rfl
  | a :: l => by
    show (intsD (nL l)).map _ = _
    rw [intsD_nL l]; rfl
theorem sum_cast : ∀ l : List Nat, (l.map fun (n : Nat) => (n : Int)).sum = ((l.sum : Nat) : Int)
  | [] => rfl
  | a :: l => by
    rw [List.map_cons, List.sum_cons, List.sum_cons, sum_cast l]; omega
theorem n_sum (l : List Nat) : biD .sum [.v (.lst (nL l))] = some (.v (nI l.sum)) := by
  show (intsD (nL l)).map _ = _
  rw [intsD_nL, Option.map_some, sum_cast]; rfl
theorem n_len (r : Rv) : biD .len [r] = (lenD r).map fun (n : Nat) => .v (nI n) := rfl
theorem n_intb (b : Bool) : biD .int [.v (.bl b)] = some (.v (nI b.toNat)) := by cases b <;> rfl
theorem n_inti (n : Nat) : biD .int [.v (nI n)] = some (.v (nI n)) := rfl
theorem n_tupl (l : List D) : biD .tuple [.v (.lst l)] = some (.v (.tup l)) := rfl
theorem n_lstt (l : List D) : biD .list [.v (.tup l)] = some (.fl l) := rfl
theorem n_lstl (l : List D) : biD .list [.v (.lst l)] = some (.fl l) := rfl
theorem boolsD_map : ∀ l : List Bool, boolsD (l.map D.bl) = some l
  | [] => rfl
  | a :: l => by
    show (boolsD (l.map D.bl)).map _ = _
    rw [boolsD_map l]; rfl
theorem n_all (l : List Bool) : biD .all [.v (.lst (l.map D.bl))] = some (.v (.bl (l.all id))) := by
  show (boolsD _).map _ = _
  rw [boolsD_map]; rfl
theorem n_any (l : List Bool) : biD .any [.v (.lst (l.map D.bl))] = some (.v (.bl (l.any id))) := by
  show (boolsD _).map _ = _
  rw [boolsD_map]; rfl
theorem natCodes_lt : ∀ n, n < 10 → natCodes n = [48 + n] := by decide
theorem n_str {n : Nat} (h : n < 10) : biD .str [.v (nI n)] = some (.v (.str [48 + n])) := by
  show (if (0 : Int) ≤ n ∧ (n : Int) < 1000000000 then some (Rv.v (.str (natCodes (n : Int).toNat))) else none) = _
  rw [if_pos (by omega), Int.toNat_natCast, natCodes_lt n h]
theorem strsD_map : ∀ l : List (List Nat), strsD (l.map D.str) = some l
  | [] => rfl
  | a :: l => by
    show (strsD (l.map D.str)).map _ = _
    rw [strsD_map l]; rfl
theorem joinL_nil : ∀ l : List (List Nat), joinL [] l = l.flatten
  | [] => rfl
  | [x] => by simp [joinL]
  | x :: y :: r => by
    have := joinL_nil (y :: r)
    simp [joinL] at this ⊢
    exact this
theorem n_join (l : List (List Nat)) (h : l.flatten.length ≤ 100000) : joinD [] (.v (.lst (l.map D.str))) = some (.v (.str l.flatten)) := by
  show (strsD _).bind _ = _
  rw [strsD_map, Option.bind_some]
  have e : (l.map List.length).sum = l.flatten.length := by rw [List.length_flatten]
  rw [if_pos (by rw [e]; show _ + _ * 0 ≤ 100000; omega), joinL_nil]
theorem revD_l (l : List D) : revD (.v (.lst l)) = some (.fl l.reverse) := rfl
theorem nL_rev (l : List Nat) : (nL l).reverse = nL l.reverse := List.map_reverse.symm
theorem nL_app (a b : List Nat) : nL a ++ nL b = nL (a ++ b) := List.map_append.symm
theorem app1_fl {i : Nat} {d : D} {ds : List D} (h : sl[i]? = some (some (.fl ds))) (h2 : ds.length < 100000) : app1 i d ⟨sl, sh⟩ = .ok .nx ⟨sl.set i (some (.fl (ds ++ [d]))), sh⟩ := by
  unfold app1; rw [h]; exact if_pos h2
def appK (o : Option (Option Rv)) (i : Nat) (d : D) (sl : List (Option Rv)) (sh : Sh) : Res Fl := match o with
  | some (some (.fl ds)) => if ds.length < LIM then .ok .nx ⟨sl.set i (some (.fl (ds ++ [d]))), sh⟩ else .err
  | some (some (.shr k)) => match sh[k]? with
    | some (.lst ds) => if ds.length < LIM then .ok .nx ⟨sl, sh.set k (.lst (ds ++ [d]))⟩ else .err
    | _ => .err
  | _ => .err
theorem app1' (i : Nat) (d : D) : app1 i d ⟨sl, sh⟩ = appK sl[i]? i d sl sh := rfl
theorem appK_fl (i : Nat) (d : D) (ds : List D) (h : ds.length < 100000) : appK (some (some (.fl ds))) i d sl sh = .ok .nx ⟨sl.set i (some (.fl (ds ++ [d]))), sh⟩ := if_pos h
def extK (o : Option (Option Rv)) (i : Nat) (xs : List D) (sl : List (Option Rv)) (sh : Sh) : Res Fl := match o with
  | some (some (.fl ds)) => if ds.length + xs.length ≤ LIM then .ok .nx ⟨sl.set i (some (.fl (ds ++ xs))), sh⟩ else .err
  | _ => .err
theorem ext1' (i : Nat) (xs : List D) : ext1 i xs ⟨sl, sh⟩ = extK sl[i]? i xs sl sh := rfl
theorem extK_fl (i : Nat) (xs ds : List D) (h : ds.length + xs.length ≤ 100000) : extK (some (some (.fl ds))) i xs sl sh = .ok .nx ⟨sl.set i (some (.fl (ds ++ xs))), sh⟩ := if_pos h
def lstK (o : Option (Option Rv)) (sh : Sh) : Bool := match o with
  | some (some (.fl _)) => true
  | some (some (.shr k)) => match sh[k]? with
    | some (.lst _) => true
    | _ => false
  | _ => false
theorem lstAt' (i : Nat) : lstAt i ⟨sl, sh⟩ = lstK sl[i]? sh := rfl
theorem lstK_fl (ds : List D) : lstK (some (some (.fl ds))) sh = true := rfl
theorem q_isN (a : D) : cmpD .isN (.v a) (.v .non) = some (!notNon a) := by cases a <;> rfl
theorem q_notN (a : D) : cmpD .notN (.v a) (.v .non) = some (notNon a) := by cases a <;> rfl
theorem nn_nI (n : Nat) : notNon (nI n) = true := rfl
theorem nn_non : notNon .non = false := rfl
theorem nn_bl (x : Bool) : notNon (.bl x) = true := rfl
theorem nn_str (x : List Nat) : notNon (.str x) = true := rfl
theorem nn_tup (x : List D) : notNon (.tup x) = true := rfl
theorem nn_lst (x : List D) : notNon (.lst x) = true := rfl
theorem q_ixn {n a : Nat} : ixN n (a : Int) = if a < n then some a else none := by
  unfold ixN; rw [if_pos (by omega)]
  by_cases h : a < n
  · rw [if_pos (by omega), if_pos h]; rfl
  · rw [if_neg (by omega), if_neg h]
theorem q_at {α : Type} (xs : List α) (n : Nat) : atL xs (n : Int) = xs[n]? := by
  unfold atL; rw [q_ixn]
  by_cases h : n < xs.length
  · rw [if_pos h]; rfl
  · rw [if_neg h, List.getElem?_eq_none (by omega)]; rfl
theorem n_subT (xs : List D) (n : Nat) : subD (.v (.tup xs)) (.v (nI n)) = xs[n]?.map Rv.v := by
  show (atL xs (n : Int)).map Rv.v = _
  rw [q_at]
theorem n_subL (xs : List D) (n : Nat) : subD (.v (.lst xs)) (.v (nI n)) = xs[n]?.map Rv.v := by
  show (atL xs (n : Int)).map Rv.v = _
  rw [q_at]
theorem n_subF (xs : List D) (n : Nat) : subD (.fl xs) (.v (nI n)) = xs[n]?.map Rv.v := by
  show (atL xs (n : Int)).map Rv.v = _
  rw [q_at]
theorem n_subS (xs : List Nat) (n : Nat) : subD (.v (.str xs)) (.v (nI n)) = xs[n]?.map fun c => Rv.v (.str [c]) := by
  show (atL xs (n : Int)).map _ = _
  rw [q_at]
theorem rangeD_eq : ∀ (n a : Nat), rangeD (a : Int) n = nL (List.range' a n)
  | 0, a => rfl
  | n + 1, a => by
    show D.int a :: rangeD ((a : Int) + 1) n = nL (a :: List.range' (a + 1) n)
    have := rangeD_eq n (a + 1)
    rw [show ((a + 1 : Nat) : Int) = (a : Int) + 1 from rfl] at this
    rw [this]; rfl
theorem okI_n {n : Nat} (h : n < 1000000) : okI (n : Int) = true := by
  unfold okI
  rw [decide_eq_true (by omega), decide_eq_true (by omega)]; rfl
theorem rgK_n {n : Nat} (h : n < 1000000) : rgK (.v (nI n)) s = .ok (nL (List.range n)) s := by
  have h2 := rangeD_eq n 0
  show (if okI (n : Int) = true then Res.ok (rangeD 0 (n : Int).toNat) s else .err) = _
  rw [okI_n h, if_pos rfl, Int.toNat_natCast, List.range_eq_range']
  exact congrArg (fun x => Res.ok x s) h2
theorem rg2K_n {n m : Nat} (h : n < 1000000) (h' : m < 1000000) : rg2K (.v (nI n)) (.v (nI m)) s = .ok (nL (List.range' n (m - n))) s := by
  have h2 := rangeD_eq (m - n) n
  show (if okI (n : Int) = true ∧ okI (m : Int) = true then Res.ok (rangeD n ((m : Int) - n).toNat) s else .err) = _
  rw [okI_n h, okI_n h', if_pos ⟨rfl, rfl⟩, show ((m : Int) - n).toNat = m - n by omega, h2]
theorem i_range1' (a : E) : evIt Γ (.range1 a) ⟨sl, sh⟩ = (fzr (ev Γ a ⟨sl, sh⟩)).bind rgK := rfl
theorem i_range2' (a b : E) : evIt Γ (.range2 a b) ⟨sl, sh⟩ = (fzr (ev Γ a ⟨sl, sh⟩)).bind fun x s => (fzr (ev Γ b s)).bind fun y s => rg2K x y s := rfl
end
/-! ### loops -/
def forB (Γ : Gam) (tg : List Nat) (one : Bool) (b : Ss) (ds : List D) (s : St) : Res Fl := forL (fun d s => (setTg tg one d s).bind fun _ s => execs Γ b s) ds s
theorem x_for' {Γ : Gam} {sl : List (Option Rv)} {sh : Sh} (tg : List Nat) (one : Bool) (it : It) (b : Ss) : exec Γ (.for tg one it b) ⟨sl, sh⟩ = (evIt Γ it ⟨sl, sh⟩).bind fun ds s => forB Γ tg one b ds s := rfl
def whileB (Γ : Gam) (c : E) (b : Ss) (n : Nat) (s : St) : Res Fl := whileN (ev Γ c) (execs Γ b) n s
theorem x_while' {Γ : Gam} {sl : List (Option Rv)} {sh : Sh} (c : E) (b : Ss) : exec Γ (.while c b) ⟨sl, sh⟩ = whileB Γ c b WN ⟨sl, sh⟩ := rfl
theorem forB_nil {Γ : Gam} {tg : List Nat} {one : Bool} {b : Ss} (s : St) : forB Γ tg one b [] s = .ok .nx s := rfl
theorem q_set1 (i : Nat) (d : D) (s : St) : setTg [i] true d s = put i (.v d) s := rfl
theorem q_setN (tg : List Nat) (ds : List D) (s : St) : setTg tg false (.tup ds) s = puts tg ds s := rfl
theorem q_puts0 (s : St) : puts [] [] s = .ok () s := rfl
theorem q_puts (i : Nat) (is : List Nat) (d : D) (ds : List D) (s : St) : puts (i :: is) (d :: ds) s = (put i (.v d) s).bind fun _ s => puts is ds s := rfl
theorem q_putsR0 (s : St) : putsR [] [] s = .ok () s := rfl
theorem q_putsR (i : Nat) (is : List Nat) (d : Rv) (ds : List Rv) (s : St) : putsR (i :: is) (d :: ds) s = (put i d s).bind fun _ s => putsR is ds s := rfl
def isGo : Fl → Bool | .rt _ => false | _ => true
section
variable {Γ : Gam} {tg : List Nat} {one : Bool} {body : Ss} {c : E}
theorem for_step {d : D} {ds : List D} {s s1 s2 : St} {fl : Fl} (h1 : setTg tg one d s = .ok () s1) (h2 : execs Γ body s1 = .ok fl s2) (h3 : isGo fl = true) : forB Γ tg one body (d :: ds) s = forB Γ tg one body ds s2 := by
  show ((setTg tg one d s).bind (fun _ s => execs Γ body s)).bind _ = _
  rw [h1, q_bok, h2]
  cases fl with
  | rt r => cases h3
  | nx => rfl
  | ct => rfl
theorem for_ret {d : D} {ds : List D} {s s1 s2 : St} {r : Rv} (h1 : setTg tg one d s = .ok () s1) (h2 : execs Γ body s1 = .ok (.rt r) s2) : forB Γ tg one body (d :: ds) s = .ok (.rt r) s2 := by
  show ((setTg tg one d s).bind (fun _ s => execs Γ body s)).bind _ = _
  rw [h1, q_bok, h2]; rfl
theorem for_exc {d : D} {ds : List D} {s s1 s2 : St} {k : Nat} (h1 : setTg tg one d s = .ok () s1) (h2 : execs Γ body s1 = .exc k s2) : forB Γ tg one body (d :: ds) s = .exc k s2 := by
  show ((setTg tg one d s).bind (fun _ s => execs Γ body s)).bind _ = _
  rw [h1, q_bok, h2]; rfl
theorem while_step {n : Nat} {s s1 s2 : St} {fl : Fl} (h1 : ev Γ c s = .ok (.v (.bl true)) s1) (h2 : execs Γ body s1 = .ok fl s2) (h3 : isGo fl = true) : whileB Γ c body (n + 1) s = whileB Γ c body n s2 := by
  show (ev Γ c s).bind _ = _
  rw [h1, q_bok]
  show (execs Γ body s1).bind _ = _
  rw [h2]
  cases fl with
  | rt r => cases h3
  | nx => rfl
  | ct => rfl
theorem while_stop {n : Nat} {s s1 : St} (h1 : ev Γ c s = .ok (.v (.bl false)) s1) : whileB Γ c body (n + 1) s = .ok .nx s1 := by
  show (ev Γ c s).bind _ = _
  rw [h1]; rfl
theorem while_ret {n : Nat} {s s1 s2 : St} {r : Rv} (h1 : ev Γ c s = .ok (.v (.bl true)) s1) (h2 : execs Γ body s1 = .ok (.rt r) s2) : whileB Γ c body (n + 1) s = .ok (.rt r) s2 := by
  show (ev Γ c s).bind _ = _
  rw [h1, q_bok]
  show (execs Γ body s1).bind _ = _
  rw [h2]; rfl
/-- a for that goes through -/
theorem for_go {α β ξ : Type} (enc : α → D) (σ : β → ξ → St) (g : β → α → β) (Pr : β → Prop) :
    ∀ (l : List α), (∀ a ∈ l, ∀ b x, Pr b → (∃ fl x', (setTg tg one (enc a) (σ b x)).bind (fun _ s => execs Γ body s) = .ok fl (σ (g b a) x') ∧ isGo fl = true) ∧ Pr (g b a)) →
    ∀ b x, Pr b → (∃ x', forB Γ tg one body (l.map enc) (σ b x) = .ok .nx (σ (l.foldl g b) x')) ∧ Pr (l.foldl g b)
  | [], _, b, x, hp => ⟨⟨x, rfl⟩, hp⟩
  | a :: l, h, b, x, hp => by
    obtain ⟨⟨fl, x1, e1, g1⟩, hp1⟩ := h a List.mem_cons_self b x hp
    obtain ⟨⟨x2, e2⟩, hp2⟩ := for_go enc σ g Pr l (fun a ha => h a (List.mem_cons_of_mem _ ha)) (g b a) x1 hp1
    refine ⟨⟨x2, ?_⟩, hp2⟩
    show ((setTg tg one (enc a) (σ b x)).bind (fun _ s => execs Γ body s)).bind _ = _
    rw [e1]
    cases fl with
    | rt r => cases g1
    | nx => exact e2
    | ct => exact e2
/-! ### comprehensions -/
theorem compL_gen {α ξ : Type} {elt : E} {tg : List Nat} {one : Bool} {cond : Option'} {vs : List Nat} {enc : α → D} (σ : ξ → St) (y : α → ξ) (R : α → D) (p : α → Bool) : ∀ (l : List α) (acc : List D) (x : ξ),
    (∀ a ∈ l, ∀ x, setTg tg one (enc a) (wipe vs (σ x)) = .ok () (σ (y a))) → (∀ a ∈ l, evO Γ cond (σ (y a)) = .ok (p a) (σ (y a))) → (∀ a ∈ l, p a = true → fzr (ev Γ elt (σ (y a))) = .ok (.v (R a)) (σ (y a))) →
    ∃ x', compL (fun d s => (setTg tg one d (wipe vs s)).bind fun _ s => (evO Γ cond s).bind fun b s =>
        if b = true then (fzr (ev Γ elt s)).bind fun r s => match r with | .v x => .ok (some x) s | _ => .err else .ok none s) (l.map enc) acc (σ x) = .ok (acc ++ (l.filter p).map R) (σ x')
  | [], acc, x, _, _, _ => ⟨x, by simp [compL]⟩
  | a :: l, acc, x, hw, hc, h => by
    have w := hw a List.mem_cons_self x
    have c := hc a List.mem_cons_self
    have h1 := h a List.mem_cons_self
    obtain ⟨x', e⟩ := compL_gen σ y R p l (if p a = true then acc ++ [R a] else acc) (y a) (fun a ha => hw a (List.mem_cons_of_mem _ ha)) (fun a ha => hc a (List.mem_cons_of_mem _ ha)) (fun a ha => h a (List.mem_cons_of_mem _ ha))
    refine ⟨x', ?_⟩
    show (match (setTg tg one (enc a) (wipe vs (σ x))).bind _ with | .ok (some x) s => compL _ (l.map enc) (acc ++ [x]) s | .ok none s => compL _ (l.map enc) acc s | _ => .err) = _
    rw [w, q_bok]
    show (match (evO Γ cond (σ (y a))).bind _ with | .ok (some x) s => compL _ (l.map enc) (acc ++ [x]) s | .ok none s => compL _ (l.map enc) acc s | _ => .err) = _
    rw [c, q_bok]
    cases hp : p a with
    | false =>
      rw [hp, if_neg (by decide)] at e
      refine Eq.trans e ?_
      simp [hp]
    | true =>
      rw [hp, if_pos rfl] at e
      rw [if_pos rfl, h1 hp, q_bok]
      refine Eq.trans e ?_
      simp [hp]
theorem comp_gen {α ξ : Type} {elt : E} {tg : List Nat} {one : Bool} {it : It} {cond : Option'} {vs : List Nat} {enc : α → D} {l : List α} {s s0 : St} (σ : ξ → St) (y : α → ξ) (R : α → D) (p : α → Bool)
    (hi : evIt Γ it s = .ok (l.map enc) s0) (x0 : ξ) (h0 : s0 = σ x0) (hv : vs.any (ownAt s0.sl) = false) (hl : l.length ≤ 100000)
    (hw : ∀ a ∈ l, ∀ x, setTg tg one (enc a) (wipe vs (σ x)) = .ok () (σ (y a))) (hc : ∀ a ∈ l, evO Γ cond (σ (y a)) = .ok (p a) (σ (y a))) (h : ∀ a ∈ l, p a = true → fzr (ev Γ elt (σ (y a))) = .ok (.v (R a)) (σ (y a)))
    (hb : ∀ x, back vs s0 (σ x) = s0) : ev Γ (.comp elt tg one it cond vs) s = .ok (.fl ((l.filter p).map R)) s0 := by
  obtain ⟨x', e⟩ := compL_gen (Γ := Γ) (elt := elt) (tg := tg) (one := one) (cond := cond) (vs := vs) (enc := enc) σ y R p l [] x0 hw hc h
  rw [← h0] at e
  show ((evIt Γ it s).bind fun ds s0 => if (vs.any (ownAt s0.sl) || decide (LIM < ds.length)) = true then Res.err else (compL _ ds [] s0).bind fun xs s => Res.ok (Rv.fl xs) (back vs s0 s)) = _
  rw [hi, q_bok]
  have hc : (vs.any (ownAt s0.sl) || decide (LIM < (l.map enc).length)) = false := by
    rw [hv, List.length_map, decide_eq_false (by unfold LIM; omega)]; rfl
  rw [hc, if_neg (by decide)]
  refine (congrArg (fun m => Res.bind m _) e).trans ?_
  rw [q_bok, hb, List.nil_append]
/-- all turns alike -/
theorem comp_map {α ξ : Type} {elt : E} {tg : List Nat} {one : Bool} {it : It} {vs : List Nat} {enc : α → D} {l : List α} {s s0 : St} (σ : ξ → St) (y : α → ξ) (R : α → D)
    (hi : evIt Γ it s = .ok (l.map enc) s0) (x0 : ξ) (h0 : s0 = σ x0) (hv : vs.any (ownAt s0.sl) = false) (hl : l.length ≤ 100000)
    (hw : ∀ a ∈ l, ∀ x, setTg tg one (enc a) (wipe vs (σ x)) = .ok () (σ (y a))) (h : ∀ a ∈ l, fzr (ev Γ elt (σ (y a))) = .ok (.v (R a)) (σ (y a)))
    (hb : ∀ x, back vs s0 (σ x) = s0) : ev Γ (.comp elt tg one it .none vs) s = .ok (.fl (l.map R)) s0 := by
  have := comp_gen (cond := .none) (p := fun _ => true) σ y R hi x0 h0 hv hl hw (fun _ _ => rfl) (fun a ha _ => h a ha) hb
  rwa [List.filter_eq_self.mpr fun _ _ => rfl] at this
/-- turns that carry a state on -/
def mapSt {α β : Type} (nx : β → α → β) (R : β → α → D) : β → List α → List D
  | _, [] => []
  | b, a :: l => R b a :: mapSt nx R (nx b a) l
theorem compL_st {α β ξ : Type} {elt : E} {tg : List Nat} {one : Bool} {vs : List Nat} {enc : α → D} (σ : β → ξ → St) (nx : β → α → β) (y : α → ξ) (R : β → α → D) (Pr : β → Prop) : ∀ (l : List α) (acc : List D) (b : β) (x : ξ), Pr b →
    (∀ a ∈ l, ∀ b x, setTg tg one (enc a) (wipe vs (σ b x)) = .ok () (σ b (y a))) → (∀ a ∈ l, ∀ b, Pr b → fzr (ev Γ elt (σ b (y a))) = .ok (.v (R b a)) (σ (nx b a) (y a)) ∧ Pr (nx b a)) →
    ∃ x', compL (fun d s => (setTg tg one d (wipe vs s)).bind fun _ s => (evO Γ .none s).bind fun b s =>
        if b = true then (fzr (ev Γ elt s)).bind fun r s => match r with | .v x => .ok (some x) s | _ => .err else .ok none s) (l.map enc) acc (σ b x) = .ok (acc ++ mapSt nx R b l) (σ (l.foldl nx b) x')
  | [], acc, b, x, _, _, _ => ⟨x, by simp [compL, mapSt]⟩
  | a :: l, acc, b, x, hp, hw, h => by
    have w := hw a List.mem_cons_self b x
    obtain ⟨h1, hp1⟩ := h a List.mem_cons_self b hp
    obtain ⟨x', e⟩ := compL_st σ nx y R Pr l (acc ++ [R b a]) (nx b a) (y a) hp1 (fun a ha => hw a (List.mem_cons_of_mem _ ha)) (fun a ha => h a (List.mem_cons_of_mem _ ha))
    refine ⟨x', ?_⟩
    show (match (setTg tg one (enc a) (wipe vs (σ b x))).bind _ with | .ok (some x) s => compL _ (l.map enc) (acc ++ [x]) s | .ok none s => compL _ (l.map enc) acc s | _ => .err) = _
    rw [w, q_bok]
    show (match (fzr (ev Γ elt (σ b (y a)))).bind _ with | .ok (some x) s => compL _ (l.map enc) (acc ++ [x]) s | .ok none s => compL _ (l.map enc) acc s | _ => .err) = _
    rw [h1, q_bok]
    refine Eq.trans e ?_
    simp [mapSt]
theorem comp_st {α β ξ : Type} {elt : E} {tg : List Nat} {one : Bool} {it : It} {vs : List Nat} {enc : α → D} {l : List α} {s s0 : St} (σ : β → ξ → St) (nx : β → α → β) (y : α → ξ) (R : β → α → D) (Pr : β → Prop)
    (hi : evIt Γ it s = .ok (l.map enc) s0) (b0 : β) (x0 : ξ) (h0 : s0 = σ b0 x0) (hp : Pr b0) (hv : vs.any (ownAt s0.sl) = false) (hl : l.length ≤ 100000)
    (hw : ∀ a ∈ l, ∀ b x, setTg tg one (enc a) (wipe vs (σ b x)) = .ok () (σ b (y a))) (h : ∀ a ∈ l, ∀ b, Pr b → fzr (ev Γ elt (σ b (y a))) = .ok (.v (R b a)) (σ (nx b a) (y a)) ∧ Pr (nx b a))
    (hb : ∀ b x, back vs s0 (σ b x) = σ b x0) : ev Γ (.comp elt tg one it .none vs) s = .ok (.fl (mapSt nx R b0 l)) (σ (l.foldl nx b0) x0) := by
  obtain ⟨x', e⟩ := compL_st (Γ := Γ) (elt := elt) (tg := tg) (one := one) (vs := vs) (enc := enc) σ nx y R Pr l [] b0 x0 hp hw h
  rw [← h0] at e
  show ((evIt Γ it s).bind fun ds s0 => if (vs.any (ownAt s0.sl) || decide (LIM < ds.length)) = true then Res.err else (compL _ ds [] s0).bind fun xs s => Res.ok (Rv.fl xs) (back vs s0 s)) = _
  rw [hi, q_bok]
  have hc : (vs.any (ownAt s0.sl) || decide (LIM < (l.map enc).length)) = false := by
    rw [hv, List.length_map, decide_eq_false (by unfold LIM; omega)]; rfl
  rw [hc, if_neg (by decide)]
  refine (congrArg (fun m => Res.bind m _) e).trans ?_
  rw [q_bok, hb, List.nil_append]
end
section
variable {Γ : Gam} {sl : List (Option Rv)} {sh : Sh}
def tryK (Γ : Gam) (ks : List Nat) (h : Hd) (m : Res Fl) : Res Fl := match m with
      | .exc k s => if caught ks k = true then handed Γ h k s else if k < 13 then .exc k s else .err
      | r => r
theorem x_try' (b : Ss) (ks : List Nat) (h : Hd) : exec Γ (.tryRet b ks h) ⟨sl, sh⟩ = tryK Γ ks h (execs Γ b ⟨sl, sh⟩) := rfl
theorem tryK_ok (ks : List Nat) (h : Hd) (f : Fl) (s : St) : tryK Γ ks h (.ok f s) = .ok f s := rfl
theorem tryK_exc (ks : List Nat) (h : Hd) (k : Nat) (hc : caught ks k = true) : tryK Γ ks h (.exc k ⟨sl, sh⟩) = handed Γ h k ⟨sl, sh⟩ := if_pos hc
theorem tryK_exc0 (h : Hd) (k : Nat) (hc : k ≤ 12) : tryK Γ [0] h (.exc k ⟨sl, sh⟩) = handed Γ h k ⟨sl, sh⟩ := by
  refine if_pos ?_
  unfold caught
  rw [decide_eq_true (by omega)]; rfl
theorem tryK_ite (ks : List Nat) (h : Hd) (c : Prop) [Decidable c] (a b : Res Fl) : tryK Γ ks h (if c then a else b) = if c then tryK Γ ks h a else tryK Γ ks h b := by split <;> rfl
def hdK (x : RC) (sl : List (Option Rv)) : Res Fl := match x with
  | .ok r sh => match r with
      | .v d => .ok (.rt (.v d)) ⟨sl, sh⟩
      | _ => .err
  | _ => .err
theorem handed' (x f k : Nat) : handed Γ (.which x f) k ⟨sl, sh⟩ = if x < sl.length then hdK (Γ f [.exc k] sh) sl else .err := rfl
theorem handedC (d : D) (k : Nat) (s : St) : handed Γ (.const d) k s = .ok (.rt (.v d)) s := rfl
theorem hdK_ok (d : D) (sh : Sh) : hdK (.ok (.v d) sh) sl = .ok (.rt (.v d)) ⟨sl, sh⟩ := rfl
def selK (Γ : Gam) (fs : List Nat) (es : Es) (x : Rv) (s : St) : Res Rv := match x with
      | .v (.int i) => match atL fs i with
        | some f => (evs Γ es s).bind fun xs s => callR Γ f xs s
        | none => .err
      | _ => .err
def selN (Γ : Gam) (es : Es) (f : Option Nat) (s : St) : Res Rv := match f with
        | some f => (evs Γ es s).bind fun xs s => callR Γ f xs s
        | none => .err
theorem e_sel' (fs : List Nat) (k : E) (es : Es) : ev Γ (.callSel fs k es) ⟨sl, sh⟩ = (ev Γ k ⟨sl, sh⟩).bind fun x s => selK Γ fs es x s := rfl
theorem selK_n (fs : List Nat) (es : Es) (n : Nat) (s : St) : selK Γ fs es (.v (nI n)) s = selN Γ es fs[n]? s := by
  show (match atL fs (n : Int) with
        | some f => (evs Γ es s).bind fun xs s => callR Γ f xs s
        | none => .err) = _
  rw [q_at]; rfl
theorem selN_s (es : Es) (f : Nat) : selN Γ es (some f) ⟨sl, sh⟩ = (evs Γ es ⟨sl, sh⟩).bind fun xs s => callR Γ f xs s := rfl
end
section
variable {Γ : Gam} {sl : List (Option Rv)} {sh : Sh}
theorem pt_none (r : Rv) : partI (.const .non) r = some none := rfl
def ptK (b : Bool) (r : Rv) : Option (Option Int) := if b = true then some none else match r with | .v (.int i) => some (some i) | _ => none
theorem partI' (e : E) (r : Rv) : partI e r = ptK (noneB e) r := rfl
theorem ptK_n (n : Nat) : ptK false (.v (nI n)) = some (some (n : Int)) := rfl
theorem ptK_i (n : Int) : ptK false (.v (.int n)) = some (some n) := rfl
theorem ptK_t (r : Rv) : ptK true r = some none := rfl
theorem nb_non : noneB (.const .non) = true := rfl
theorem nb_int (i : Nat) : noneB (.const (nI i)) = false := rfl
theorem nb_slot (i : Nat) : noneB (.slot i) = false := rfl
theorem nb_bin (op : BOp) (a b : E) : noneB (.bin op a b) = false := rfl
theorem nb_neg (a : E) : noneB (.neg a) = false := rfl
theorem nb_call (f : Nat) (a : Es) : noneB (.call f a) = false := rfl
theorem nb_subS (f : Nat) (a : E) : noneB (.subS f a) = false := rfl
theorem nb_sub (f a : E) : noneB (.sub f a) = false := rfl
theorem nb_lenS (i : Nat) : noneB (.lenS i) = false := rfl
theorem neg_n (n : Nat) : (match Rv.v (nI n) with | .v (.int i) => Res.ok (Rv.v (.int (-i))) (⟨sl, sh⟩ : St) | _ => .err) = .ok (.v (.int (-(n : Int)))) ⟨sl, sh⟩ := rfl
def ngK (x : Rv) (s : St) : Res Rv := match x with | .v (.int i) => .ok (.v (.int (-i))) s | _ => .err
theorem e_neg' (a : E) : ev Γ (.neg a) ⟨sl, sh⟩ = (fzr (ev Γ a ⟨sl, sh⟩)).bind fun x s => ngK x s := rfl
theorem ngK_n (n : Nat) (s : St) : ngK (.v (nI n)) s = .ok (.v (.int (-(n : Int)))) s := rfl
theorem cutS (x : List Nat) (a b : Option Int) : cutD (.v (.str x)) a b = some (.v (.str (cutL x a b))) := rfl
theorem cutT (x : List D) (a b : Option Int) : cutD (.v (.tup x)) a b = some (.v (.tup (cutL x a b))) := rfl
theorem cutLs (x : List D) (a b : Option Int) : cutD (.v (.lst x)) a b = some (.fl (cutL x a b)) := rfl
theorem sIx_n (n d a : Nat) : sIx n d (some (a : Int)) = min a n := by
  show (if (a : Int) < 0 then ((a : Int) + n).toNat else min (a : Int).toNat n) = _
  rw [if_neg (by omega)]; rfl
theorem cut_nn {α : Type} (x : List α) (a b : Nat) : cutL x (some (a : Int)) (some (b : Int)) = (x.drop a).take (b - a) := by
  unfold cutL
  rw [sIx_n, sIx_n]
  apply List.ext_getElem?
  intro i
  rw [List.getElem?_take, List.getElem?_take, List.getElem?_drop, List.getElem?_drop]
  by_cases h : a < x.length
  · rw [Nat.min_eq_left (Nat.le_of_lt h)]
    by_cases h2 : i < b - a
    · rw [if_pos h2]
      split
      · rfl
      · rw [List.getElem?_eq_none (by omega)]
    · rw [if_neg h2, if_neg (by omega)]
  · rw [List.getElem?_eq_none (l := x) (i := min a x.length + i) (by omega), List.getElem?_eq_none (l := x) (i := a + i) (by omega)]
    split <;> split <;> rfl
theorem cut_0n {α : Type} (x : List α) (b : Nat) : cutL x none (some (b : Int)) = x.take b := by
  unfold cutL
  rw [sIx_n]
  show (x.drop 0).take (min b x.length - 0) = _
  rw [List.drop_zero, Nat.sub_zero, List.take_eq_take_iff]
  omega
theorem cut_n0 {α : Type} (x : List α) (a : Nat) : cutL x (some (a : Int)) none = x.drop a := by
  unfold cutL
  rw [sIx_n]
  show (x.drop (min a x.length)).take (x.length - min a x.length) = _
  rw [List.take_of_length_le (by rw [List.length_drop]; omega)]
  by_cases h : a ≤ x.length
  · rw [Nat.min_eq_left h]
  · rw [Nat.min_eq_right (by omega), List.drop_length, List.drop_eq_nil_of_le (by omega)]
theorem cut_0m {α : Type} (x : List α) (b : Nat) (hb : 0 < b) : cutL x none (some (-(b : Int))) = x.take (x.length - b) := by
  show (x.drop 0).take ((if -(b : Int) < 0 then (-(b : Int) + (x.length : Int)).toNat else min (-(b : Int)).toNat x.length) - 0) = _
  rw [if_pos (show -(b : Int) < 0 by omega)]
  rw [List.drop_zero]
  congr 1; omega
end
mutual
theorem deq_refl : ∀ d : D, deq d d = true
  | .non => rfl
  | .bl a => by simp [deq]
  | .int a => by simp [deq]
  | .str a => by simp [deq]
  | .tup a => by simp only [deq]; exact deqL_refl a
  | .lst a => by simp only [deq]; exact deqL_refl a
theorem deqL_refl : ∀ d : List D, deqL d d = true
  | [] => rfl
  | a :: l => by simp only [deqL, deq_refl a, deqL_refl l, Bool.and_self]
end
theorem repL_D (n : Nat) (d : D) : repL n [d] = List.replicate n d := by
  unfold repL
  induction n with
  | zero => rfl
  | succ n ih => simp [List.replicate_succ, ih]
theorem comp_exc {Γ : Gam} {elt : E} {tg : List Nat} {one : Bool} {it : It} {cond : Option'} {vs : List Nat} {s s' : St} {n : Nat} (h : evIt Γ it s = .exc n s') : ev Γ (.comp elt tg one it cond vs) s = .exc n s' := by
  show (evIt Γ it s).bind _ = _
  rw [h]; rfl
def rg3K (x y z : Rv) (s : St) : Res (List D) := match x, y, z with
      | .v (.int i), .v (.int j), .v (.int k) => if (okI i && okI j && okI k && !(k == 0) && PySem.Builtin.Range.small i j k) = true then .ok (stepD i k (PySem.Builtin.Range.rangeSize i j k).toNat) s else .err
      | _, _, _ => .err
section
variable {Γ : Gam} {sl : List (Option Rv)} {sh : Sh} {s : St}
theorem i_range3' (a b c : E) : evIt Γ (.range3 a b c) ⟨sl, sh⟩ = (fzr (ev Γ a ⟨sl, sh⟩)).bind fun x s => (fzr (ev Γ b s)).bind fun y s => (fzr (ev Γ c s)).bind fun z s => rg3K x y z s := rfl
theorem stepD_up (p : Nat) : ∀ (n a : Nat), stepD (a : Int) (p : Int) n = nL ((List.range n).map fun i => a + i * p)
  | 0, a => rfl
  | n + 1, a => by
    show D.int a :: stepD ((a : Int) + p) p n = _
    have := stepD_up p n (a + p)
    rw [show ((a + p : Nat) : Int) = (a : Int) + p from rfl] at this
    rw [this, List.range_succ_eq_map, List.map_cons, List.map_map]
    show nI a :: _ = nI (a + 0 * p) :: nL _
    rw [Nat.zero_mul, Nat.add_zero]
    congr 2
    apply List.map_congr_left
    intro i _
    show a + p + i * p = a + (i + 1) * p
    rw [Nat.add_mul]; omega
theorem rg3K_eq (i j k : Int) (h : (okI i && okI j && okI k && !(k == 0) && PySem.Builtin.Range.small i j k) = true) : rg3K (.v (.int i)) (.v (.int j)) (.v (.int k)) s = .ok (stepD i k (PySem.Builtin.Range.rangeSize i j k).toNat) s := if_pos h
theorem size_up {p m : Nat} (hp : 0 < p) : PySem.Builtin.Range.rangeSize 0 ((p * m : Nat) : Int) (p : Int) = (m : Int) := by
  unfold PySem.Builtin.Range.rangeSize
  rw [if_pos (by omega)]
  cases m with
  | zero => rw [if_neg (by simp)]; rfl
  | succ n =>
    have e : ((p * (n + 1) : Nat) : Int) - 0 - 1 = ((p : Int) - 1) + (p : Int) * (n : Int) := by
      rw [Nat.mul_succ, Int.natCast_add, Int.natCast_mul]; omega
    have h0 : 0 < p * (n + 1) := Nat.mul_pos hp (by omega)
    rw [if_pos (by omega), e, Int.add_mul_ediv_left _ _ (by omega), Int.ediv_eq_zero_of_lt (by omega) (by omega)]
    omega
theorem fitsLong {i : Int} (h : -1000000000 < i) (h2 : i < 1000000000) : PySem.Builtin.Range.rangeFitsLong i = true := by
  unfold PySem.Builtin.Range.rangeFitsLong
  rw [Bool.and_eq_true]
  exact ⟨decide_eq_true (by omega), decide_eq_true (by omega)⟩
theorem rg3K_up {p m : Nat} (hp : 0 < p) (hp2 : p < 1000) (hm : m < 1000) : rg3K (.v (nI 0)) (.v (nI (p * m))) (.v (nI p)) s = .ok (nL ((List.range m).map (· * p))) s := by
  have hpm : p * m < 1000 * 1000 := by
    calc p * m ≤ 999 * 999 := Nat.mul_le_mul (by omega) (by omega)
      _ < _ := by omega
  have sz := size_up (p := p) (m := m) hp
  have hs : PySem.Builtin.Range.small (0 : Int) ((p * m : Nat) : Int) (p : Int) = true := by
    unfold PySem.Builtin.Range.small
    rw [sz, fitsLong (by omega) (by omega), fitsLong (by omega) (by omega), fitsLong (by omega) (by omega), fitsLong (by omega) (by omega), if_pos (by omega), fitsLong (by omega) (by omega)]
    simp
  have hk : (!((p : Int) == 0)) = true := by
    have : ¬ ((p : Int) = 0) := by omega
    simpa using this
  refine (rg3K_eq (0 : Int) ((p * m : Nat) : Int) (p : Int) ?_).trans ?_
  · rw [hs, hk, show okI (0 : Int) = true from okI_n (n := 0) (by omega), okI_n (by omega), okI_n (by omega)]; rfl
  · rw [sz, Int.toNat_natCast]
    have := stepD_up p m 0
    rw [show (fun i => 0 + i * p) = (· * p) from funext fun i => by omega] at this
    exact congrArg (fun x => Res.ok x s) this
end
def scr (ns : List Int) : Rv := .ro (ns.map .int)
theorem rdK_scr (i : Nat) (ns : List Int) (sl : List (Option Rv)) (sh : Sh) : rdK (some (some (scr ns))) i sl sh = .ok (scr ns) ⟨sl, sh⟩ := rfl
theorem pkK_scr (ns : List Int) (sh : Sh) : pkK (some (some (scr ns))) sh = some (scr ns) := rfl
theorem frz_scr (ns : List Int) : frz (scr ns) = scr ns := rfl
def town (n : Nat) : Sh := [.lst (List.replicate n (nI 0))]
theorem appK_shr (i : Nat) (sl : List (Option Rv)) (t : Nat) (h : t < 100000) : appK (some (some (.shr 0))) i (nI 0) sl (town t) = .ok .nx ⟨sl, town (t + 1)⟩ := by
  show (if (List.replicate t (nI 0)).length < LIM then Res.ok Fl.nx (⟨sl, [Ob.lst (List.replicate t (nI 0) ++ [nI 0])]⟩ : St) else .err) = _
  rw [List.length_replicate, if_pos (by unfold LIM; exact h)]
  have : List.replicate t (nI 0) ++ [nI 0] = List.replicate (t + 1) (nI 0) := by rw [List.replicate_succ']
  rw [this]; rfl
theorem lstK_shr (t : Nat) : lstK (some (some (.shr 0))) (town t) = true := rfl
theorem pkK_shr (t : Nat) : pkK (some (some (.shr 0))) (town t) = some (.fl (List.replicate t (nI 0))) := rfl
theorem town_0 (t : Nat) : (town t)[0]? = some (.lst (List.replicate t (nI 0))) := rfl
theorem town_init' : ([Ob.lst []] : Sh) = town 0 := rfl
theorem town_init : (([] : Sh) ++ [Ob.lst []]) = town 0 := rfl
/-- refused so -/
def REF (n : Nat) : D := .tup [.str [114, 101, 102, 117, 115, 101, 100], nI n]
theorem ref_eq (n : Nat) : D.tup [.str [114, 101, 102, 117, 115, 101, 100], nI n] = REF n := rfl
theorem ref_dep (n : Nat) : (REF n).dep = 1 := rfl
theorem ref_deq (n m : Nat) : deq (REF n) (REF m) = decide (n = m) := by
  unfold REF
  simp only [deq, deqL, n_deq, beq_self_eq_true, Bool.true_and, Bool.and_true]
end Wi

/-! Forms, frames. -/
namespace Wi
local macro_rules
  | `(tactic| simp! [$ls,*]) => `(tactic| simp -implicitDefEqProofs (maxSteps := 10000000) (disch := first | assumption | (simp -implicitDefEqProofs only [dp_non, dp_bl, dp_int, dp_str, dp_tup, dp_lst, dpl_nil, dpl_cons, fd_dep, ref_dep, n_dep, dep_nL, depL_nL, len_nL, len_repL, List.length_append, List.length_cons, List.length_nil, List.length_replicate, List.length_reverse, List.length_set, List.length_map, List.length_range, Nat.reduceAdd, Nat.reduceMul, Nat.reduceLT, Nat.reduceLeDiff, Nat.zero_le, true_or, or_true, List.getElem?_cons_succ, List.getElem?_cons_zero]; done) | omega | (simp -implicitDefEqProofs only [dp_non, dp_bl, dp_int, dp_str, dp_tup, dp_lst, dpl_nil, dpl_cons, fd_dep, ref_dep, n_dep, dep_nL, depL_nL, len_nL, len_repL, List.length_append, List.length_cons, List.length_nil, List.length_replicate, List.length_reverse, List.length_set, List.length_map, List.length_range, Nat.reduceAdd, Nat.reduceMul]; omega)) only [rdK_scr, frz_scr, pkK_scr, pkK_shr, lstK_shr, appK_shr, town_init', List.nil_append, q_bok, q_berr, q_bexc, q_bite, q_onB, q_nx, q_rt, q_ct, q_fz, q_frv, q_frfl, q_frro, q_frshr, q_frfn, q_oo, q_on, q_oite, q_and, q_or, n_eq, k_0, k_1, k_2, k_3, k_4, k_5, k_6, k_7, k_8, k_9, k_10, k_11, k_12, k_13, k_14, k_15, k_16, k_20, k_30, k_31, k_32, k_33, k_40, k_41, k_59, k_60, k_61, k_63, k_64, k_70, k_80, k_90, k_100, k_101, k_120, k_150, k_180, k_190, k_194, k_195, k_200, k_201, k_7919, k_9973, k_9999, k_12345, k_100000, k_104729, k_999961, k_999979, k_999983, k_1103515245, k_2147483647, e_const, e_glob, e_slot', rdK_v, rdK_fl, rdK_ro, rdK_shr, rdK_exc, e_bin, e_neg', ngK_n, partI', ptK_n, ptK_i, ptK_t, nb_non, nb_int, nb_slot, nb_bin, nb_neg, nb_call, nb_subS, nb_sub, nb_lenS, cutS, cutT, cutLs, cut_nn, cut_0n, cut_n0, cut_0m, e_not, e_and, e_or, e_ite, e_cmp, e_cmp2, e_cmpS, e_inS, e_tup, e_lst, q_mm0, q_mm1, q_om, e_pick, pick_par3, e_call, e_sel', selK_n, selN_s, e_bi, e_lenS, e_join, e_meth, e_sub, e_subS, e_cut, e_rev, e_isin, es_nil, es_cons, i_val, i_range1', i_range2', i_range3', i_enum, i_zip, x_nil, x_cons, x_set, x_shr, x_unp, x_par, x_expr, x_app, x_ext, x_put, x_ite, x_for', x_while', forB_nil, q_set1, q_setN, q_puts0, q_puts, q_putsR0, q_putsR, x_ret, x_retS', rsK_s, x_raise, x_cont, x_pass, x_try', tryK_ok, tryK_exc0, tryK_ite, handed', handedC, hdK_ok, put_if, q_callR, q_eR1, q_eR2, q_eR3, q_eRi, q_e1, q_e2, q_e3, q_ei, n_add, n_mul, n_sub, n_mod, n_div, n_lt, n_le, n_gt, n_ge, n_deq, n_dep, n_ty, n_tyb, n_tys, n_tyt, n_tyl, t_nil, t_cons, deq_refl, ref_eq, ref_deq, ref_dep, ty_int_non, ty_int_bl, ty_int_str, ty_int_tup, ty_int_lst, ty_int_int, ty_bool_non, ty_bool_bl, ty_bool_str, ty_bool_tup, ty_bool_lst, ty_bool_int, ty_str_non, ty_str_bl, ty_str_str, ty_str_tup, ty_str_lst, ty_str_int, ty_tuple_non, ty_tuple_bl, ty_tuple_str, ty_tuple_tup, ty_tuple_lst, ty_tuple_int, ty_list_non, ty_list_bl, ty_list_str, ty_list_tup, ty_list_lst, ty_list_int, q_eq, q_ne, q_in, q_inl, q_nin, q_ninl, dep_nL, fd_0, fd_1, fd_2, fd_3, fd_4, fd_t, fd_seq, fd_len, fd_dep, ord_low, ord_in, par_in, par_none, par_even, par_odd, n_addS, n_addT, n_addL, n_mulS, n_mulL, n_sum, n_len, n_intb, n_inti, n_tupl, n_lstt, n_lstl, n_str, revD_l, nL_rev, nL_app, app1', appK_fl, ext1', extK_fl, lstAt', lstK_fl, q_isN, q_notN, nn_nI, nn_non, nn_bl, nn_str, nn_tup, nn_lst, n_subT, n_subL, n_subF, n_subS, rgK_n, rg2K_n, ↓reduceIte, Bool.false_eq_true, List.length_map, List.length_cons, List.length_nil, List.getElem?_cons_zero, List.getElem?_cons_succ, List.getElem?_nil, List.set_cons_zero, List.set_cons_succ, Option.map_some, Option.map_none, Option.bind_some, Option.bind_none, Option.isSome_some, Nat.reduceAdd, Nat.reduceLT, Nat.reduceLeDiff, Nat.reduceSub, Nat.reduceMul, Nat.reduceEqDiff, decide_true, decide_false, Bool.true_and, Bool.and_true, Bool.false_and, Bool.and_false, Bool.or_true, Bool.true_or, Bool.false_or, Bool.or_false, Bool.not_true, Bool.not_false, peek', pkK_v, pkK_fl, pkK_ro, len_s, len_t, len_l, len_f, len_r, seq_t, seq_l, Bool.decide_eq_true, unV, $ls,*])
theorem is_whole_ok (k a b c : Nat) (sh : Sh) : callN MT (k + 1) 1 [.v (nI a), .v (nI b), .v (nI c)] sh = .ok (.v (.bl (decide (b ≤ a) && decide (a ≤ c)))) sh := by
  rw [u_is_whole]; unfold b_is_whole
  simp! []
theorem is_one_of_ok (k : Nat) (x : List Nat) (xs : List D) (sh : Sh) : callN MT (k + 1) 2 [.v (.str x), .v (.tup xs)] sh = .ok (.v (.bl (inL (.str x) xs))) sh := by
  rw [u_is_one_of]; unfold b_is_one_of
  simp! [cmpD, D.dep, Nat.zero_le]
theorem is_form_ok (k : Nat) (F : Form) (sh : Sh) : callN MT (k + 2) 3 [.v F.d] sh = .ok (.v (.bl true)) sh := by
  rw [u_is_form]; unfold b_is_form
  simp! [is_whole_ok, is_one_of_ok, F.hp, F.hp6, F.hb, F.hb6, F.hs, F.hs2]
theorem need_form_ok (k : Nat) (F : Form) (sh : Sh) : callN MT (k + 3) 4 [.v F.d] sh = .ok (.v .non) sh := by
  rw [u_need_form]; unfold b_need_form
  simp! [is_form_ok]

theorem top_of_ok (k : Nat) (F : Form) (sh : Sh) : callN MT (k + 1) 5 [.v (nI F.b)] sh = .ok (.v (nI (2 ^ F.b - 1))) sh := by
  rw [u_top_of]; unfold b_top_of
  have h : F.b = 4 ∨ F.b = 5 ∨ F.b = 6 := by have := F.hb; have := F.hb6; omega
  rcases h with h | h | h <;> rw [h] <;> simp! []
/-- n bits, the least first -/
def bitsLo : Nat → Nat → List Nat
  | 0, _ => []
  | n + 1, w => w % 2 :: bitsLo n (w / 2)
theorem bitsLo_len : ∀ n w, (bitsLo n w).length = n
  | 0, _ => rfl
  | n + 1, w => by simp [bitsLo, bitsLo_len n]
def bitsF (F : Form) (w : Nat) : List Nat := if F.lo = true then bitsLo F.b w else (bitsLo F.b w).reverse
theorem bitsF_len (F : Form) (w : Nat) : (bitsF F w).length = F.b := by unfold bitsF; split <;> simp [bitsLo_len]
theorem bits_of_loop (Γ : Gam) (f : D) (sh : Sh) : ∀ (l : List Nat) (w : Nat) (acc : List Nat) (x : Option Rv), acc.length + l.length < 1000 →
    ∃ w' x', forB Γ [3] true l_bits_of_0 (nL l) ⟨[some (.v f), some (.v (nI w)), some (.fl (nL acc)), x], sh⟩ = .ok .nx ⟨[some (.v f), some (.v (nI w')), some (.fl (nL (acc ++ bitsLo l.length w))), x'], sh⟩
  | [], w, acc, x, h => ⟨w, x, by simp [nL, bitsLo, forB_nil]⟩
  | a :: l, w, acc, x, h => by
    obtain ⟨w', x', e⟩ := bits_of_loop Γ f sh l (w / 2) (acc ++ [w % 2]) (some (.v (nI a))) (by simp at h ⊢; omega)
    refine ⟨w', x', ?_⟩
    simp at h
    refine (for_step (s2 := ⟨[some (.v f), some (.v (nI (w / 2))), some (.fl (nL (acc ++ [w % 2]))), some (.v (nI a))], sh⟩) (fl := .nx) rfl ?_ rfl).trans ?_
    · unfold l_bits_of_0
      simp! []
      simp [nL]
    · refine e.trans ?_
      simp [bitsLo, nL]
theorem bits_of_ok (k : Nat) (F : Form) (w : Nat) (sh : Sh) : callN MT (k + 1) 7 [.v F.d, .v (nI w)] sh = .ok (if F.lo = true then .v (.lst (nL (bitsF F w))) else .fl (nL (bitsF F w))) sh := by
  rw [u_bits_of]; unfold b_bits_of
  obtain ⟨w', x', e⟩ := bits_of_loop (callN MT k) F.d sh (List.range F.b) w [] none (by have := F.hb6; simp; omega)
  simp only [nL_nil, List.nil_append, List.length_range] at e
  have := F.hb6
  simp! [e]
  unfold bitsF
  split <;> rfl
theorem word_of_loop (Γ : Gam) (f : D) (g : Rv) (sh : Sh) : ∀ (l : List Nat) (w : Nat) (x : Option Rv),
    ∃ x', forB Γ [3] true l_word_of_0 (nL l) ⟨[some (.v f), some g, some (.v (nI w)), x], sh⟩ = .ok .nx ⟨[some (.v f), some g, some (.v (nI (l.foldl (fun a b => 2 * a + b) w))), x'], sh⟩
  | [], w, x => ⟨x, rfl⟩
  | a :: l, w, x => by
    obtain ⟨x', e⟩ := word_of_loop Γ f g sh l (2 * w + a) (some (.v (nI a)))
    refine ⟨x', ?_⟩
    refine (for_step (s2 := ⟨[some (.v f), some g, some (.v (nI (2 * w + a))), some (.v (nI a))], sh⟩) (fl := .nx) rfl ?_ rfl).trans e
    unfold l_word_of_0
    simp! []
def wordLo (l : List Nat) : Nat := l.reverse.foldl (fun a b => 2 * a + b) 0
def wordF (F : Form) (l : List Nat) : Nat := if F.lo = true then wordLo l else wordLo l.reverse
theorem word_of_ok (k : Nat) (F : Form) (l : List Nat) (sh : Sh) : callN MT (k + 1) 8 [.v F.d, .v (.lst (nL l))] sh = .ok (.v (nI (wordF F l))) sh := by
  rw [u_word_of]; unfold b_word_of
  cases h : F.lo
  · obtain ⟨x', e⟩ := word_of_loop (callN MT k) F.d (.v (.lst (nL l))) sh l 0 none
    simp! [e, h, itD]
    unfold wordF wordLo
    rw [h]; simp
  · obtain ⟨x', e⟩ := word_of_loop (callN MT k) F.d (.v (.lst (nL l))) sh l.reverse 0 none
    simp! [e, h, itD]
    unfold wordF wordLo
    rw [h]; simp
def parityB : Par → List Nat → List Nat
  | .none, _ => []
  | .even, l => [l.sum % 2]
  | .odd, l => [1 - l.sum % 2]
theorem parity_of_ok (k : Nat) (F : Form) (l : List Nat) (sh : Sh) : callN MT (k + 1) 9 [.v F.d, .v (.lst (nL l))] sh = .ok (.v (.lst (nL (parityB F.q l)))) sh := by
  rw [u_parity_of]; unfold b_parity_of
  cases h : F.q
  · simp! [h]
    rfl
  · simp! [h]
    rfl
  · have : l.sum % 2 ≤ 1 := by omega
    simp! [h]
    rfl
theorem bitsLo_lt : ∀ n w, ∀ b ∈ bitsLo n w, b < 2
  | 0, _, b, h => by cases h
  | n + 1, w, b, h => by
    rcases List.mem_cons.mp h with rfl | h
    · omega
    · exact bitsLo_lt n _ b h
theorem bitsF_lt (F : Form) (w : Nat) : ∀ b ∈ bitsF F w, b < 2 := by
  intro b hb
  unfold bitsF at hb
  split at hb
  · exact bitsLo_lt _ _ b hb
  · exact bitsLo_lt _ _ b (List.mem_reverse.mp hb)
theorem parityB_lt (q : Par) (l : List Nat) : ∀ b ∈ parityB q l, b < 2 := by
  intro b hb
  cases q <;> simp [parityB] at hb <;> omega
theorem parityB_len (q : Par) (l : List Nat) : (parityB q l).length = if q = .none then 0 else 1 := by cases q <;> rfl
def parN (q : Par) : Nat := if q = .none then 0 else 1
def row (F : Form) (w : Nat) : List Nat := 0 :: (bitsF F w ++ parityB F.q (bitsF F w) ++ List.replicate F.s 1)
theorem row_len (F : Form) (w : Nat) : (row F w).length = 1 + F.b + parN F.q + F.s := by
  simp [row, bitsF_len, parityB_len, parN]; split <;> omega
theorem row_lt (F : Form) (w : Nat) : ∀ b ∈ row F w, b < 2 := by
  intro b hb
  simp [row] at hb
  rcases hb with rfl | h | h | h
  · omega
  · exact bitsF_lt F w b h
  · exact parityB_lt _ _ b h
  · omega
/-- samples of bits -/
def tks (p : Nat) (l : List Nat) : List Nat := (l.map fun b => List.replicate p (48 + b)).flatten
theorem tks_len (p : Nat) (l : List Nat) : (tks p l).length = p * l.length := by
  unfold tks
  rw [List.length_flatten, List.map_map]
  have : (List.length ∘ fun (b : Nat) => List.replicate p (48 + b)) = fun _ => p := by funext b; simp
  rw [this]
  induction l with
  | nil => simp
  | cons a l ih => simp [ih, Nat.mul_add]; omega
def fr (F : Form) (w : Nat) : List Nat := tks F.p (row F w)
def lng (F : Form) : Nat := F.p * (1 + F.b + parN F.q + F.s)
theorem fr_len (F : Form) (w : Nat) : (fr F w).length = lng F := by unfold fr lng; rw [tks_len, row_len]
theorem parN_le (q : Par) : parN q ≤ 1 := by unfold parN; split <;> omega
theorem lng_pos (F : Form) : 6 ≤ lng F := by
  unfold lng
  have := F.hp; have := F.hb; have := F.hs
  have h : 6 ≤ 1 + F.b + parN F.q + F.s := by omega
  calc 6 = 1 * 6 := rfl
    _ ≤ _ := Nat.mul_le_mul F.hp h
theorem lng_le (F : Form) : lng F ≤ 60 := by
  unfold lng
  have := F.hp; have := F.hb6; have := F.hs2; have := parN_le F.q
  have h : 1 + F.b + parN F.q + F.s ≤ 10 := by omega
  calc _ ≤ 6 * 10 := Nat.mul_le_mul F.hp6 h
    _ = 60 := rfl
theorem repL_one (n c : Nat) : repL n [c] = List.replicate n c := by
  unfold repL
  induction n with
  | zero => rfl
  | succ n ih => simp [List.replicate_succ, ih]
theorem repL_oneD (n a : Nat) : repL n [nI a] = nL (List.replicate n a) := by
  unfold repL nL
  induction n with
  | zero => rfl
  | succ n ih => simp [List.replicate_succ, ih]
theorem framed_comp (k : Nat) (w b : Option Rv) (F : Form) (l : List Nat) (sh : Sh) (hl : l.length ≤ 1000) (h2 : ∀ b ∈ l, b < 2) : ev (callN MT k) c_framed_0 ⟨[some (.v F.d), w, b, some (.fl (nL l)), none], sh⟩ =
    .ok (.fl (l.map fun b => .str (List.replicate F.p (48 + b)))) ⟨[some (.v F.d), w, b, some (.v (.lst (nL l))), none], sh⟩ := by
  unfold c_framed_0
  refine comp_map (enc := nI) (l := l) (fun x => ⟨[some (.v F.d), w, b, some (.v (.lst (nL l))), x], sh⟩) (fun a => some (.v (nI a))) _ (by rfl) none rfl rfl (by omega) (fun _ _ _ => rfl) ?_ (fun _ => rfl)
  intro a ha
  have := h2 a ha
  have := F.hp6
  simp! [repL_one]
theorem framed_ok (k : Nat) (F : Form) (w : Nat) (sh : Sh) : callN MT (k + 2) 10 [.v F.d, .v (nI w)] sh = .ok (.v (.str (fr F w))) sh := by
  rw [u_framed]; unfold b_framed
  have h1 := bitsF_len F w
  have h2 : ((parityB F.q (bitsF F w))).length ≤ 1 := by rw [parityB_len]; split <;> omega
  have := F.hb6
  have := F.hs2
  have er : [nI 0] ++ nL (bitsF F w) ++ nL (parityB F.q (bitsF F w)) ++ nL (List.replicate F.s 1) = nL (row F w) := by simp [nL, row]
  have fl := fr_len F w
  have := lng_le F
  have c := fun (w' b' : Option Rv) => framed_comp (k + 1) w' b' F (row F w) sh (by rw [row_len]; have := parN_le F.q; omega) (row_lt F w)
  have ej : joinD [] (.v (.lst ((row F w).map fun b => D.str (List.replicate F.p (48 + b))))) = some (.v (.str (fr F w))) := by
    have := n_join ((row F w).map fun b => List.replicate F.p (48 + b)) (show (fr F w).length ≤ 100000 by omega)
    rw [List.map_map] at this
    exact this
  cases hlo : F.lo <;> simp! [bits_of_ok, parity_of_ok, hlo, repL_oneD, er, c, ej]
theorem is_word_ok (k : Nat) (F : Form) (w : Nat) (sh : Sh) : callN MT (k + 2) 6 [.v F.d, .v (nI w)] sh = .ok (.v (.bl (decide (w ≤ 2 ^ F.b - 1)))) sh := by
  rw [u_is_word]; unfold b_is_word
  simp! [top_of_ok, is_whole_ok, Nat.zero_le]
theorem frame_ok (k : Nat) (F : Form) (w : Nat) (hw : w ≤ 2 ^ F.b - 1) (sh : Sh) : callN MT (k + 4) 11 [.v F.d, .v (nI w)] sh = .ok (.v (.str (fr F w))) sh := by
  rw [u_frame]; unfold b_frame
  simp! [need_form_ok, is_word_ok, hw, framed_ok]
theorem parN_ne (q : Par) : (!decide (q = .none)).toNat = parN q := by cases q <;> rfl
theorem long_of_ok (k : Nat) (F : Form) (sh : Sh) : callN MT (k + 1) 12 [.v F.d] sh = .ok (.v (nI (lng F))) sh := by
  rw [u_long_of]; unfold b_long_of
  have := F.hp6
  simp! [parN_ne]
  rfl
end Wi

/-! The draws, as numbers. -/
namespace Wi
local macro_rules
  | `(tactic| simp! [$ls,*]) => `(tactic| simp -implicitDefEqProofs (maxSteps := 10000000) (disch := first | assumption | (simp -implicitDefEqProofs only [dp_non, dp_bl, dp_int, dp_str, dp_tup, dp_lst, dpl_nil, dpl_cons, fd_dep, ref_dep, n_dep, dep_nL, depL_nL, len_nL, len_repL, List.length_append, List.length_cons, List.length_nil, List.length_replicate, List.length_reverse, List.length_set, List.length_map, List.length_range, Nat.reduceAdd, Nat.reduceMul, Nat.reduceLT, Nat.reduceLeDiff, Nat.zero_le, true_or, or_true, List.getElem?_cons_succ, List.getElem?_cons_zero]; done) | omega | (simp -implicitDefEqProofs only [dp_non, dp_bl, dp_int, dp_str, dp_tup, dp_lst, dpl_nil, dpl_cons, fd_dep, ref_dep, n_dep, dep_nL, depL_nL, len_nL, len_repL, List.length_append, List.length_cons, List.length_nil, List.length_replicate, List.length_reverse, List.length_set, List.length_map, List.length_range, Nat.reduceAdd, Nat.reduceMul]; omega)) only [rdK_scr, frz_scr, pkK_scr, pkK_shr, lstK_shr, appK_shr, town_init', List.nil_append, q_bok, q_berr, q_bexc, q_bite, q_onB, q_nx, q_rt, q_ct, q_fz, q_frv, q_frfl, q_frro, q_frshr, q_frfn, q_oo, q_on, q_oite, q_and, q_or, n_eq, k_0, k_1, k_2, k_3, k_4, k_5, k_6, k_7, k_8, k_9, k_10, k_11, k_12, k_13, k_14, k_15, k_16, k_20, k_30, k_31, k_32, k_33, k_40, k_41, k_59, k_60, k_61, k_63, k_64, k_70, k_80, k_90, k_100, k_101, k_120, k_150, k_180, k_190, k_194, k_195, k_200, k_201, k_7919, k_9973, k_9999, k_12345, k_100000, k_104729, k_999961, k_999979, k_999983, k_1103515245, k_2147483647, e_const, e_glob, e_slot', rdK_v, rdK_fl, rdK_ro, rdK_shr, rdK_exc, e_bin, e_neg', ngK_n, partI', ptK_n, ptK_i, ptK_t, nb_non, nb_int, nb_slot, nb_bin, nb_neg, nb_call, nb_subS, nb_sub, nb_lenS, cutS, cutT, cutLs, cut_nn, cut_0n, cut_n0, cut_0m, e_not, e_and, e_or, e_ite, e_cmp, e_cmp2, e_cmpS, e_inS, e_tup, e_lst, q_mm0, q_mm1, q_om, e_pick, pick_par3, e_call, e_sel', selK_n, selN_s, e_bi, e_lenS, e_join, e_meth, e_sub, e_subS, e_cut, e_rev, e_isin, es_nil, es_cons, i_val, i_range1', i_range2', i_range3', i_enum, i_zip, x_nil, x_cons, x_set, x_shr, x_unp, x_par, x_expr, x_app, x_ext, x_put, x_ite, x_for', x_while', forB_nil, q_set1, q_setN, q_puts0, q_puts, q_putsR0, q_putsR, x_ret, x_retS', rsK_s, x_raise, x_cont, x_pass, x_try', tryK_ok, tryK_exc0, tryK_ite, handed', handedC, hdK_ok, put_if, q_callR, q_eR1, q_eR2, q_eR3, q_eRi, q_e1, q_e2, q_e3, q_ei, n_add, n_mul, n_sub, n_mod, n_div, n_lt, n_le, n_gt, n_ge, n_deq, n_dep, n_ty, n_tyb, n_tys, n_tyt, n_tyl, t_nil, t_cons, deq_refl, ref_eq, ref_deq, ref_dep, ty_int_non, ty_int_bl, ty_int_str, ty_int_tup, ty_int_lst, ty_int_int, ty_bool_non, ty_bool_bl, ty_bool_str, ty_bool_tup, ty_bool_lst, ty_bool_int, ty_str_non, ty_str_bl, ty_str_str, ty_str_tup, ty_str_lst, ty_str_int, ty_tuple_non, ty_tuple_bl, ty_tuple_str, ty_tuple_tup, ty_tuple_lst, ty_tuple_int, ty_list_non, ty_list_bl, ty_list_str, ty_list_tup, ty_list_lst, ty_list_int, q_eq, q_ne, q_in, q_inl, q_nin, q_ninl, dep_nL, fd_0, fd_1, fd_2, fd_3, fd_4, fd_t, fd_seq, fd_len, fd_dep, ord_low, ord_in, par_in, par_none, par_even, par_odd, n_addS, n_addT, n_addL, n_mulS, n_mulL, n_sum, n_len, n_intb, n_inti, n_tupl, n_lstt, n_lstl, n_str, revD_l, nL_rev, nL_app, app1', appK_fl, ext1', extK_fl, lstAt', lstK_fl, q_isN, q_notN, nn_nI, nn_non, nn_bl, nn_str, nn_tup, nn_lst, n_subT, n_subL, n_subF, n_subS, rgK_n, rg2K_n, ↓reduceIte, Bool.false_eq_true, List.length_map, List.length_cons, List.length_nil, List.getElem?_cons_zero, List.getElem?_cons_succ, List.getElem?_nil, List.set_cons_zero, List.set_cons_succ, Option.map_some, Option.map_none, Option.bind_some, Option.bind_none, Option.isSome_some, Nat.reduceAdd, Nat.reduceLT, Nat.reduceLeDiff, Nat.reduceSub, Nat.reduceMul, Nat.reduceEqDiff, decide_true, decide_false, Bool.true_and, Bool.and_true, Bool.false_and, Bool.and_false, Bool.or_true, Bool.true_or, Bool.false_or, Bool.or_false, Bool.not_true, Bool.not_false, peek', pkK_v, pkK_fl, pkK_ro, len_s, len_t, len_l, len_f, len_r, seq_t, seq_l, Bool.decide_eq_true, unV, $ls,*])
def cellV (ns : List Int) (k : Nat) : Int := if ns.length = 0 then 0 else if k < ns.length then ns[k]?.getD 0 else ns[k % ns.length]?.getD 0 * 31 + k
def mixV (x : Int) (k m : Nat) : Int := ((x * 1103515245 + 7919 * k + 12345) % 2147483647) ^ 5 % 2147483647 % 999983 % m
/-- the t-th draw below m -/
def dr (ns : List Int) (t m : Nat) : Nat := (mixV (cellV ns (t + 1)) (t + 1) m).toNat
theorem dr_lt (ns : List Int) (t : Nat) {m : Nat} (h : 0 < m) : dr ns t m < m := by
  unfold dr mixV
  have h1 := Int.emod_nonneg (((cellV ns (t + 1) * 1103515245 + 7919 * (t + 1 : Nat) + 12345) % 2147483647) ^ 5 % 2147483647 % 999983) (show (m : Int) ≠ 0 by omega)
  have h2 := Int.emod_lt_of_pos (((cellV ns (t + 1) * 1103515245 + 7919 * (t + 1 : Nat) + 12345) % 2147483647) ^ 5 % 2147483647 % 999983) (show (0 : Int) < m by omega)
  omega
theorem scr_at (ns : List Int) (n : Nat) (h : n < ns.length) : subD (scr ns) (.v (nI n)) = some (.v (.int (ns[n]?.getD 0))) := by
  show (atL (ns.map D.int) (n : Int)).map Rv.v = _
  rw [q_at, List.getElem?_map, List.getElem?_eq_getElem h]; rfl
theorem len_scr (ns : List Int) : lenD (scr ns) = some ns.length := by
  show some (ns.map D.int).length = _
  rw [List.length_map]
theorem eq_scr (ns : List Int) : cmpD .eq (scr ns) (.v (.lst [])) = some (decide (ns.length = 0)) := by
  show (if (D.lst []).dep ≤ 16 then some (deq (.lst (ns.map D.int)) (.lst [])) else none) = _
  rw [if_pos (by decide)]
  cases ns with
  | nil => rfl
  | cons a l => simp [deq, deqL]
theorem cell_ok (k : Nat) (ns : List Int) (n : Nat) (sh : Sh) : callN MT (k + 1) 35 [scr ns, .v (nI n)] sh = .ok (.v (.int (cellV ns n))) sh := by
  rw [u_law_cell_at]; unfold b_law_cell_at cellV
  by_cases h0 : ns.length = 0
  · have : ¬ n < ns.length := by omega
    simp! [rdK_scr, frz_scr, pkK_scr, len_scr, eq_scr, h0, this]; rfl
  by_cases h : n < ns.length
  · simp! [rdK_scr, frz_scr, pkK_scr, len_scr, eq_scr, h, h0, scr_at]
  · have := Nat.mod_lt n (show 0 < ns.length by omega)
    have e : ∀ x : Int, binD .mul (.v (.int x)) (.v (nI 31)) = some (.v (.int (x * 31))) := fun x => by
      show (if (small x || small 31) = true then some (Rv.v (.int (x * 31))) else none) = _
      have : small 31 = true := by decide
      rw [this, Bool.or_true]; rfl
    have e2 : ∀ x : Int, binD .add (.v (.int x)) (.v (nI n)) = some (.v (.int (x + n))) := fun x => rfl
    simp! [rdK_scr, frz_scr, pkK_scr, len_scr, eq_scr, h, h0, scr_at, e, e2]
theorem mixed_ok (k : Nat) (ns : List Int) (n m : Nat) (sh : Sh) (hm : 0 < m) : callN MT (k + 2) 36 [scr ns, .v (nI n), .v (nI m)] sh = .ok (.v (.int (mixV (cellV ns n) n m))) sh := by
  rw [u_law_mixed]; unfold b_law_mixed mixV
  generalize hd : (cellV ns n * 1103515245 + 7919 * (n : Int) + 12345) % 2147483647 = d
  have d0 : 0 ≤ d := by rw [← hd]; exact Int.emod_nonneg _ (by decide)
  have d1 : d < 2147483647 := by rw [← hd]; exact Int.emod_lt_of_pos _ (by decide)
  have sd : small d = true := by
    unfold small
    rw [decide_eq_true (by omega), decide_eq_true (by omega)]; rfl
  have e1 : ∀ x : Int, binD .mul (.v (.int x)) (.v (nI 1103515245)) = some (.v (.int (x * 1103515245))) := fun x => by
    show (if (small x || small 1103515245) = true then some (Rv.v (.int (x * 1103515245))) else none) = _
    have : small 1103515245 = true := by decide
    rw [this, Bool.or_true]; rfl
  have e2 : ∀ x : Int, binD .add (.v (.int x)) (.v (nI (7919 * n))) = some (.v (.int (x + 7919 * n))) := fun x => rfl
  have e3 : ∀ x : Int, binD .add (.v (.int x)) (.v (nI 12345)) = some (.v (.int (x + 12345))) := fun x => rfl
  have e4 : binD .mod (.v (.int (cellV ns n * 1103515245 + 7919 * (n : Int) + 12345))) (.v (nI 2147483647)) = some (.v (.int d)) := by rw [← hd]; rfl
  have e5 : binD .pow (.v (.int d)) (.v (nI 5)) = some (.v (.int (d ^ 5))) := by
    show (if (0 : Int) ≤ 5 ∧ (5 : Int) ≤ 1000000 ∧ small d = true then some (Rv.v (.int (d ^ (5 : Int).toNat))) else none) = _
    rw [if_pos ⟨by decide, by decide, sd⟩]; rfl
  have e6 : ∀ x : Int, binD .mod (.v (.int x)) (.v (nI 2147483647)) = some (.v (.int (x % 2147483647))) := fun x => rfl
  have e7 : ∀ x : Int, binD .mod (.v (.int x)) (.v (nI 999983)) = some (.v (.int (x % 999983))) := fun x => rfl
  have e8 : ∀ x : Int, binD .mod (.v (.int x)) (.v (nI m)) = some (.v (.int (x % m))) := fun x => by
    show (if (0 : Int) < m then some (Rv.v (.int (x % m))) else none) = _
    rw [if_pos (by omega)]
  simp! [rdK_scr, frz_scr, cell_ok, e1, e2, e3, e4, e5, e6, e7, e8]
theorem draw_ok (k : Nat) (ns : List Int) (t m : Nat) (ht : t < 10000) (hm : 0 < m) : callN MT (k + 3) 37 [scr ns, .shr 0, .v (nI m)] (town t) = .ok (.v (nI (dr ns t m))) (town (t + 1)) := by
  rw [u_law_draw]; unfold b_law_draw
  have e : D.int (mixV (cellV ns (t + 1)) (t + 1) m) = nI (dr ns t m) := by
    unfold dr nI
    rw [Int.toNat_of_nonneg]
    exact Int.emod_nonneg _ (by omega)
  simp! [rdK_scr, frz_scr, pkK_shr, appK_shr, lstK_shr, town_0, List.length_replicate, mixed_ok, e]
theorem pick_ok (k : Nat) (ns : List Int) (t : Nat) (xs : List D) (ht : t < 10000) (hm : 0 < xs.length) : callN MT (k + 4) 38 [scr ns, .shr 0, .v (.lst xs)] (town t) = .ok (.v (xs[dr ns t xs.length]?.getD .non)) (town (t + 1)) := by
  rw [u_law_pick]; unfold b_law_pick
  have h := dr_lt ns t hm
  have e : xs[dr ns t xs.length]? = some (xs[dr ns t xs.length]?.getD .non) := by rw [List.getElem?_eq_getElem h]; rfl
  simp! [rdK_scr, frz_scr, draw_ok]
  rw [e]
  simp! []
  rfl
end Wi

/-! What the laws' helpers draw. -/
namespace Wi
local macro_rules
  | `(tactic| simp! [$ls,*]) => `(tactic| simp -implicitDefEqProofs (maxSteps := 10000000) (disch := first | assumption | (simp -implicitDefEqProofs only [dp_non, dp_bl, dp_int, dp_str, dp_tup, dp_lst, dpl_nil, dpl_cons, fd_dep, ref_dep, n_dep, dep_nL, depL_nL, len_nL, len_repL, List.length_append, List.length_cons, List.length_nil, List.length_replicate, List.length_reverse, List.length_set, List.length_map, List.length_range, Nat.reduceAdd, Nat.reduceMul, Nat.reduceLT, Nat.reduceLeDiff, Nat.zero_le, true_or, or_true, List.getElem?_cons_succ, List.getElem?_cons_zero]; done) | omega | (simp -implicitDefEqProofs only [dp_non, dp_bl, dp_int, dp_str, dp_tup, dp_lst, dpl_nil, dpl_cons, fd_dep, ref_dep, n_dep, dep_nL, depL_nL, len_nL, len_repL, List.length_append, List.length_cons, List.length_nil, List.length_replicate, List.length_reverse, List.length_set, List.length_map, List.length_range, Nat.reduceAdd, Nat.reduceMul]; omega)) only [rdK_scr, frz_scr, pkK_scr, pkK_shr, lstK_shr, appK_shr, town_init', List.nil_append, q_bok, q_berr, q_bexc, q_bite, q_onB, q_nx, q_rt, q_ct, q_fz, q_frv, q_frfl, q_frro, q_frshr, q_frfn, q_oo, q_on, q_oite, q_and, q_or, n_eq, k_0, k_1, k_2, k_3, k_4, k_5, k_6, k_7, k_8, k_9, k_10, k_11, k_12, k_13, k_14, k_15, k_16, k_20, k_30, k_31, k_32, k_33, k_40, k_41, k_59, k_60, k_61, k_63, k_64, k_70, k_80, k_90, k_100, k_101, k_120, k_150, k_180, k_190, k_194, k_195, k_200, k_201, k_7919, k_9973, k_9999, k_12345, k_100000, k_104729, k_999961, k_999979, k_999983, k_1103515245, k_2147483647, e_const, e_glob, e_slot', rdK_v, rdK_fl, rdK_ro, rdK_shr, rdK_exc, e_bin, e_neg', ngK_n, partI', ptK_n, ptK_i, ptK_t, nb_non, nb_int, nb_slot, nb_bin, nb_neg, nb_call, nb_subS, nb_sub, nb_lenS, cutS, cutT, cutLs, cut_nn, cut_0n, cut_n0, cut_0m, e_not, e_and, e_or, e_ite, e_cmp, e_cmp2, e_cmpS, e_inS, e_tup, e_lst, q_mm0, q_mm1, q_om, e_pick, pick_par3, e_call, e_sel', selK_n, selN_s, e_bi, e_lenS, e_join, e_meth, e_sub, e_subS, e_cut, e_rev, e_isin, es_nil, es_cons, i_val, i_range1', i_range2', i_range3', i_enum, i_zip, x_nil, x_cons, x_set, x_shr, x_unp, x_par, x_expr, x_app, x_ext, x_put, x_ite, x_for', x_while', forB_nil, q_set1, q_setN, q_puts0, q_puts, q_putsR0, q_putsR, x_ret, x_retS', rsK_s, x_raise, x_cont, x_pass, x_try', tryK_ok, tryK_exc0, tryK_ite, handed', handedC, hdK_ok, put_if, q_callR, q_eR1, q_eR2, q_eR3, q_eRi, q_e1, q_e2, q_e3, q_ei, n_add, n_mul, n_sub, n_mod, n_div, n_lt, n_le, n_gt, n_ge, n_deq, n_dep, n_ty, n_tyb, n_tys, n_tyt, n_tyl, t_nil, t_cons, deq_refl, ref_eq, ref_deq, ref_dep, ty_int_non, ty_int_bl, ty_int_str, ty_int_tup, ty_int_lst, ty_int_int, ty_bool_non, ty_bool_bl, ty_bool_str, ty_bool_tup, ty_bool_lst, ty_bool_int, ty_str_non, ty_str_bl, ty_str_str, ty_str_tup, ty_str_lst, ty_str_int, ty_tuple_non, ty_tuple_bl, ty_tuple_str, ty_tuple_tup, ty_tuple_lst, ty_tuple_int, ty_list_non, ty_list_bl, ty_list_str, ty_list_tup, ty_list_lst, ty_list_int, q_eq, q_ne, q_in, q_inl, q_nin, q_ninl, dep_nL, fd_0, fd_1, fd_2, fd_3, fd_4, fd_t, fd_seq, fd_len, fd_dep, ord_low, ord_in, par_in, par_none, par_even, par_odd, n_addS, n_addT, n_addL, n_mulS, n_mulL, n_sum, n_len, n_intb, n_inti, n_tupl, n_lstt, n_lstl, n_str, revD_l, nL_rev, nL_app, app1', appK_fl, ext1', extK_fl, lstAt', lstK_fl, q_isN, q_notN, nn_nI, nn_non, nn_bl, nn_str, nn_tup, nn_lst, n_subT, n_subL, n_subF, n_subS, rgK_n, rg2K_n, ↓reduceIte, Bool.false_eq_true, List.length_map, List.length_cons, List.length_nil, List.getElem?_cons_zero, List.getElem?_cons_succ, List.getElem?_nil, List.set_cons_zero, List.set_cons_succ, Option.map_some, Option.map_none, Option.bind_some, Option.bind_none, Option.isSome_some, Nat.reduceAdd, Nat.reduceLT, Nat.reduceLeDiff, Nat.reduceSub, Nat.reduceMul, Nat.reduceEqDiff, decide_true, decide_false, Bool.true_and, Bool.and_true, Bool.false_and, Bool.and_false, Bool.or_true, Bool.true_or, Bool.false_or, Bool.or_false, Bool.not_true, Bool.not_false, peek', pkK_v, pkK_fl, pkK_ro, len_s, len_t, len_l, len_f, len_r, seq_t, seq_l, Bool.decide_eq_true, unV, $ls,*])
def pk {α : Type} [Inhabited α] (ns : List Int) (t : Nat) (l : List α) : α := l[dr ns t l.length]?.getD default
theorem pk_mem {α : Type} [Inhabited α] (ns : List Int) (t : Nat) (l : List α) (h : 0 < l.length) : pk ns t l ∈ l := by
  unfold pk
  have h := dr_lt ns t h
  rw [List.getElem?_eq_getElem h]
  exact List.getElem_mem h
theorem pick_enc {α : Type} [Inhabited α] (enc : α → D) (l : List α) {xs : List D} (hx : xs = l.map enc) (k : Nat) (ns : List Int) (t : Nat) (ht : t < 10000) (hm : 0 < l.length) :
    callN MT (k + 4) 38 [scr ns, .shr 0, .v (.lst xs)] (town t) = .ok (.v (enc (pk ns t l))) (town (t + 1)) := by
  subst hx
  rw [pick_ok k ns t _ ht (by simpa using hm)]
  have h := dr_lt ns t hm
  unfold pk
  rw [List.length_map, List.getElem?_map, List.getElem?_eq_getElem h]; rfl
theorem pick_D (xs : List D) (k : Nat) (ns : List Int) (t : Nat) (ht : t < 10000) (hm : 0 < xs.length) :
    callN MT (k + 4) 38 [scr ns, .shr 0, .v (.lst xs)] (town t) = .ok (.v (@pk D ⟨.non⟩ ns t xs)) (town (t + 1)) :=
  @pick_enc D ⟨.non⟩ id xs xs (by simp) k ns t ht hm
instance : Inhabited Par := ⟨.none⟩
def PACES : List Nat := [1, 1, 2, 2, 3, 4, 5, 6]
theorem paces_mem : ∀ x ∈ PACES, 1 ≤ x ∧ x ≤ 6 := by decide
/-- a form drawn -/
def drF3 (ns : List Int) (t : Nat) : Form where
  p := pk ns t PACES
  b := 4 + dr ns (t + 3) 3
  lo := pk ns (t + 1) [true, false]
  q := pk ns (t + 2) [.none, .even, .odd]
  s := 1 + dr ns (t + 4) 2
  hp := (paces_mem _ (pk_mem ns t PACES (by decide))).1
  hp6 := (paces_mem _ (pk_mem ns t PACES (by decide))).2
  hb := by omega
  hb6 := by have := dr_lt ns (t + 3) (m := 3) (by decide); omega
  hs := by omega
  hs2 := by have := dr_lt ns (t + 4) (m := 2) (by decide); omega
def drF1 (ns : List Int) (t : Nat) : Form where
  p := 1 + dr ns (t + 2) 6
  b := 4 + dr ns (t + 3) 3
  lo := pk ns t [true, false]
  q := pk ns (t + 1) [.none, .even, .odd]
  s := 1 + dr ns (t + 4) 2
  hp := by omega
  hp6 := by have := dr_lt ns (t + 2) (m := 6) (by decide); omega
  hb := by omega
  hb6 := by have := dr_lt ns (t + 3) (m := 3) (by decide); omega
  hs := by omega
  hs2 := by have := dr_lt ns (t + 4) (m := 2) (by decide); omega
theorem pick_ord (k : Nat) (ns : List Int) (t : Nat) (ht : t < 10000) : callN MT (k + 4) 38 [scr ns, .shr 0, .v (.lst [.str [108, 111, 119], .str [104, 105, 103, 104]])] (town t) = .ok (.v (.str (ordS (pk ns t [true, false])))) (town (t + 1)) :=
  pick_enc (fun b => .str (ordS b)) [true, false] rfl k ns t ht (by decide)
theorem pick_par (k : Nat) (ns : List Int) (t : Nat) (ht : t < 10000) : callN MT (k + 4) 38 [scr ns, .shr 0, .v (.lst [.str [110, 111, 110, 101], .str [101, 118, 101, 110], .str [111, 100, 100]])] (town t) = .ok (.v (.str (parS (pk ns t [Par.none, .even, .odd])))) (town (t + 1)) :=
  pick_enc (fun b => .str (parS b)) [Par.none, .even, .odd] rfl k ns t ht (by decide)
theorem pick_pace (k : Nat) (ns : List Int) (t : Nat) (ht : t < 10000) : callN MT (k + 4) 38 [scr ns, .shr 0, .v (.lst [nI 1, nI 1, nI 2, nI 2, nI 3, nI 4, nI 5, nI 6])] (town t) = .ok (.v (nI (pk ns t PACES))) (town (t + 1)) :=
  pick_enc nI PACES rfl k ns t ht (by decide)
theorem form3_ok (k : Nat) (ns : List Int) (t : Nat) (ht : t < 9000) : callN MT (k + 5) 127 [scr ns, .shr 0] (town t) = .ok (.v (drF3 ns t).d) (town (t + 5)) := by
  rw [u_law_form_3]; unfold b_law_form_3
  simp! [rdK_scr, frz_scr, pick_pace, pick_ord, pick_par, draw_ok]
  rfl
theorem form1_ok (k : Nat) (ns : List Int) (t : Nat) (ht : t < 9000) : callN MT (k + 5) 39 [scr ns, .shr 0] (town t) = .ok (.v (drF1 ns t).d) (town (t + 5)) := by
  rw [u_law_form]; unfold b_law_form
  simp! [rdK_scr, frz_scr, pick_ord, pick_par, draw_ok]
  rfl
theorem form2_ok (k : Nat) (ns : List Int) (t : Nat) (ht : t < 9000) : callN MT (k + 5) 45 [scr ns, .shr 0] (town t) = .ok (.v (drF1 ns t).d) (town (t + 5)) := by
  rw [u_law_form_2]; unfold b_law_form_2
  simp! [rdK_scr, frz_scr, pick_ord, pick_par, draw_ok]
  rfl
def sLow : D := .str [108, 111, 119]
def sNone : D := .str [110, 111, 110, 101]
def BAD : List D := [.non, nI 5, .tup [], .tup [nI 1, nI 4, sLow, sNone], .tup [nI 0, nI 4, sLow, sNone, nI 1], .tup [nI 7, nI 4, sLow, sNone, nI 1], .tup [nI 1, nI 3, sLow, sNone, nI 1], .tup [nI 1, nI 7, sLow, sNone, nI 1],
  .tup [nI 1, nI 4, .str [108, 101, 97, 115, 116], sNone, nI 1], .tup [nI 1, nI 4, sLow, .str [110, 111], nI 1], .tup [nI 1, nI 4, sLow, sNone, nI 3], .tup [.bl true, nI 4, sLow, sNone, nI 1], .lst [nI 1, nI 4, sLow, sNone, nI 1], .tup [nI 1, nI 4, sLow, .non, nI 1], .str [49, 32, 116, 105, 99, 107]]
def NONE : List D := [.non, nI 5, .str [], .str [50], .str [48, 49, 32], .str (List.replicate 201 48), .tup [.str [48], .str [49]], .lst [.str [48]], .str [79]]
instance : Inhabited D := ⟨.non⟩
theorem odd_form_ok (k : Nat) (ns : List Int) (t : Nat) (ht : t < 9000) : callN MT (k + 5) 134 [scr ns, .shr 0] (town t) = .ok (.v (pk ns t BAD)) (town (t + 1)) := by
  have e := pick_enc (id : D → D) BAD (xs := BAD) (by simp) k ns t (by omega) (by decide)
  rw [u_law_odd_form]; unfold b_law_odd_form
  simp! [rdK_scr, frz_scr]
  have e2 : BAD = [D.non, nI 5, D.tup [], D.tup [nI 1, nI 4, D.str [108, 111, 119], D.str [110, 111, 110, 101]]] ++ BAD.drop 4 := rfl
  unfold BAD sLow sNone at e
  simp only [List.cons_append, List.nil_append]
  rw [e]; rfl
theorem odd_samples_ok (k : Nat) (ns : List Int) (t : Nat) (ht : t < 9000) : callN MT (k + 5) 135 [scr ns, .shr 0] (town t) = .ok (.v (pk ns t NONE)) (town (t + 1)) := by
  have e := pick_enc (id : D → D) NONE (xs := NONE) (by simp) k ns t (by omega) (by decide)
  rw [u_law_odd_samples]; unfold b_law_odd_samples
  simp! [rdK_scr, frz_scr, repL_one]
  unfold NONE at e
  rw [e]; rfl
theorem which2_ok (k n : Nat) (h1 : 1 ≤ n) (h2 : n ≤ 12) (sh : Sh) : callN MT (k + 1) 113 [.exc n] sh = .ok (.v (REF (n - 1))) sh := by
  have : n = 1 ∨ n = 2 ∨ n = 3 ∨ n = 4 ∨ n = 5 ∨ n = 6 ∨ n = 7 ∨ n = 8 ∨ n = 9 ∨ n = 10 ∨ n = 11 ∨ n = 12 := by omega
  rcases this with h | h | h | h | h | h | h | h | h | h | h | h <;> subst h <;> kernel_rfl
theorem which1_ok (k n : Nat) (h1 : 1 ≤ n) (h2 : n ≤ 9) (sh : Sh) : callN MT (k + 1) 40 [.exc n] sh = .ok (.v (REF (n - 1))) sh := by
  have : n = 1 ∨ n = 2 ∨ n = 3 ∨ n = 4 ∨ n = 5 ∨ n = 6 ∨ n = 7 ∨ n = 8 ∨ n = 9 := by omega
  rcases this with h | h | h | h | h | h | h | h | h <;> subst h <;> kernel_rfl
theorem caught0 (n : Nat) (h : n ≤ 12) : caught [0] n = true := by
  unfold caught
  rw [decide_eq_true (by omega)]; rfl
theorem all_in {α : Type} {l : List α} {p : α → Bool} (h : l.all p = true) {x : α} (hx : x ∈ l) : p x = true := List.all_eq_true.mp h x hx
theorem need_form_bad {d : D} (h : d ∈ BAD) (k : Nat) (sh : Sh) : callN MT (k + 3) 4 [.v d] sh = .exc 1 sh := by
  simp only [BAD, List.mem_cons, List.not_mem_nil, or_false] at h
  rcases h with h | h | h | h | h | h | h | h | h | h | h | h | h | h | h <;> subst h <;> kernel_rfl
theorem need_samples_bad {d : D} (h : d ∈ NONE) (k : Nat) (sh : Sh) : callN MT (k + 1) 16 [.v d] sh = .exc 2 sh := by
  simp only [NONE, List.mem_cons, List.not_mem_nil, or_false] at h
  rcases h with h | h | h | h | h | h | h | h | h <;> subst h <;> kernel_rfl
end Wi

/-! Samples; the law's frames. -/
namespace Wi
local macro_rules
  | `(tactic| simp! [$ls,*]) => `(tactic| simp -implicitDefEqProofs (maxSteps := 10000000) (disch := first | assumption | (simp -implicitDefEqProofs only [dp_non, dp_bl, dp_int, dp_str, dp_tup, dp_lst, dpl_nil, dpl_cons, fd_dep, ref_dep, n_dep, dep_nL, depL_nL, len_nL, len_repL, List.length_append, List.length_cons, List.length_nil, List.length_replicate, List.length_reverse, List.length_set, List.length_map, List.length_range, Nat.reduceAdd, Nat.reduceMul, Nat.reduceLT, Nat.reduceLeDiff, Nat.zero_le, true_or, or_true, List.getElem?_cons_succ, List.getElem?_cons_zero]; done) | omega | (simp -implicitDefEqProofs only [dp_non, dp_bl, dp_int, dp_str, dp_tup, dp_lst, dpl_nil, dpl_cons, fd_dep, ref_dep, n_dep, dep_nL, depL_nL, len_nL, len_repL, List.length_append, List.length_cons, List.length_nil, List.length_replicate, List.length_reverse, List.length_set, List.length_map, List.length_range, Nat.reduceAdd, Nat.reduceMul]; omega)) only [rdK_scr, frz_scr, pkK_scr, pkK_shr, lstK_shr, appK_shr, town_init', List.nil_append, q_bok, q_berr, q_bexc, q_bite, q_onB, q_nx, q_rt, q_ct, q_fz, q_frv, q_frfl, q_frro, q_frshr, q_frfn, q_oo, q_on, q_oite, q_and, q_or, n_eq, k_0, k_1, k_2, k_3, k_4, k_5, k_6, k_7, k_8, k_9, k_10, k_11, k_12, k_13, k_14, k_15, k_16, k_20, k_30, k_31, k_32, k_33, k_40, k_41, k_59, k_60, k_61, k_63, k_64, k_70, k_80, k_90, k_100, k_101, k_120, k_150, k_180, k_190, k_194, k_195, k_200, k_201, k_7919, k_9973, k_9999, k_12345, k_100000, k_104729, k_999961, k_999979, k_999983, k_1103515245, k_2147483647, e_const, e_glob, e_slot', rdK_v, rdK_fl, rdK_ro, rdK_shr, rdK_exc, e_bin, e_neg', ngK_n, partI', ptK_n, ptK_i, ptK_t, nb_non, nb_int, nb_slot, nb_bin, nb_neg, nb_call, nb_subS, nb_sub, nb_lenS, cutS, cutT, cutLs, cut_nn, cut_0n, cut_n0, cut_0m, e_not, e_and, e_or, e_ite, e_cmp, e_cmp2, e_cmpS, e_inS, e_tup, e_lst, q_mm0, q_mm1, q_om, e_pick, pick_par3, e_call, e_sel', selK_n, selN_s, e_bi, e_lenS, e_join, e_meth, e_sub, e_subS, e_cut, e_rev, e_isin, es_nil, es_cons, i_val, i_range1', i_range2', i_range3', i_enum, i_zip, x_nil, x_cons, x_set, x_shr, x_unp, x_par, x_expr, x_app, x_ext, x_put, x_ite, x_for', x_while', forB_nil, q_set1, q_setN, q_puts0, q_puts, q_putsR0, q_putsR, x_ret, x_retS', rsK_s, x_raise, x_cont, x_pass, x_try', tryK_ok, tryK_exc0, tryK_ite, handed', handedC, hdK_ok, put_if, q_callR, q_eR1, q_eR2, q_eR3, q_eRi, q_e1, q_e2, q_e3, q_ei, n_add, n_mul, n_sub, n_mod, n_div, n_lt, n_le, n_gt, n_ge, n_deq, n_dep, n_ty, n_tyb, n_tys, n_tyt, n_tyl, t_nil, t_cons, deq_refl, ref_eq, ref_deq, ref_dep, ty_int_non, ty_int_bl, ty_int_str, ty_int_tup, ty_int_lst, ty_int_int, ty_bool_non, ty_bool_bl, ty_bool_str, ty_bool_tup, ty_bool_lst, ty_bool_int, ty_str_non, ty_str_bl, ty_str_str, ty_str_tup, ty_str_lst, ty_str_int, ty_tuple_non, ty_tuple_bl, ty_tuple_str, ty_tuple_tup, ty_tuple_lst, ty_tuple_int, ty_list_non, ty_list_bl, ty_list_str, ty_list_tup, ty_list_lst, ty_list_int, q_eq, q_ne, q_in, q_inl, q_nin, q_ninl, dep_nL, fd_0, fd_1, fd_2, fd_3, fd_4, fd_t, fd_seq, fd_len, fd_dep, ord_low, ord_in, par_in, par_none, par_even, par_odd, n_addS, n_addT, n_addL, n_mulS, n_mulL, n_sum, n_len, n_intb, n_inti, n_tupl, n_lstt, n_lstl, n_str, revD_l, nL_rev, nL_app, app1', appK_fl, ext1', extK_fl, lstAt', lstK_fl, q_isN, q_notN, nn_nI, nn_non, nn_bl, nn_str, nn_tup, nn_lst, n_subT, n_subL, n_subF, n_subS, rgK_n, rg2K_n, ↓reduceIte, Bool.false_eq_true, List.length_map, List.length_cons, List.length_nil, List.getElem?_cons_zero, List.getElem?_cons_succ, List.getElem?_nil, List.set_cons_zero, List.set_cons_succ, Option.map_some, Option.map_none, Option.bind_some, Option.bind_none, Option.isSome_some, Nat.reduceAdd, Nat.reduceLT, Nat.reduceLeDiff, Nat.reduceSub, Nat.reduceMul, Nat.reduceEqDiff, decide_true, decide_false, Bool.true_and, Bool.and_true, Bool.false_and, Bool.and_false, Bool.or_true, Bool.true_or, Bool.false_or, Bool.or_false, Bool.not_true, Bool.not_false, peek', pkK_v, pkK_fl, pkK_ro, len_s, len_t, len_l, len_f, len_r, seq_t, seq_l, Bool.decide_eq_true, unV, $ls,*])
structure OkS (x : List Nat) : Prop where
  one : 1 ≤ x.length
  le : x.length ≤ 200
  bit : ∀ c ∈ x, c = 48 ∨ c = 49
theorem need_samples_ok (k : Nat) (x : List Nat) (h : OkS x) (sh : Sh) : callN MT (k + 1) 16 [.v (.str x)] sh = .ok (.v .non) sh := by
  rw [u_need_samples]; unfold b_need_samples
  have c : ∀ sh, ev (callN MT k) c_need_samples_0 ⟨[some (.v (.str x)), none], sh⟩ = .ok (.fl (x.map fun _ => .bl true)) ⟨[some (.v (.str x)), none], sh⟩ := by
    intro sh
    unfold c_need_samples_0
    refine comp_map (enc := fun c => .str [c]) (l := x) (fun y => ⟨[some (.v (.str x)), y], sh⟩) (fun a => some (.v (.str [a]))) _ (by rfl) none rfl rfl (by have := h.le; omega) (fun _ _ _ => rfl) ?_ (fun _ => rfl)
    intro a ha
    rcases h.bit a ha with h | h <;> subst h <;> rfl
  have e : biD .all [.v (.lst (x.map fun _ => D.bl true))] = some (.v (.bl true)) := by
    have := n_all (x.map fun _ => true)
    rw [List.map_map] at this
    refine this.trans ?_
    simp
  have := h.one
  have := h.le
  simp! [c, e, h.one, h.le]
theorem bitsLo_get : ∀ (n w i : Nat), i < n → (bitsLo n w)[i]? = some (w / 2 ^ i % 2)
  | 0, _, _, h => by omega
  | n + 1, w, 0, _ => by simp [bitsLo]
  | n + 1, w, i + 1, h => by
    rw [bitsLo, List.getElem?_cons_succ, bitsLo_get n (w / 2) i (by omega), Nat.div_div_eq_div_mul, Nat.pow_succ, Nat.mul_comm]
theorem bitsLo_map (n w : Nat) : bitsLo n w = (List.range n).map fun i => w / 2 ^ i % 2 := by
  apply List.ext_getElem?
  intro i
  by_cases h : i < n
  · rw [bitsLo_get n w i h, List.getElem?_map, List.getElem?_range h]; rfl
  · rw [List.getElem?_eq_none (by rw [bitsLo_len]; omega), List.getElem?_eq_none (by simp; omega)]
theorem law_frame2_c0 (k : Nat) (b w : Nat) (hb : b ≤ 6) (y0 y2 y3 y4 y5 y7 y8 y9 y11 : Option Rv) (sh : Sh) : ev (callN MT k) c_law_frame_2_0 ⟨[y0, some (.v (nI w)), y2, y3, y4, y5, some (.v (nI b)), y7, y8, y9, none, y11], sh⟩ =
    .ok (.fl (nL (bitsLo b w))) ⟨[y0, some (.v (nI w)), y2, y3, y4, y5, some (.v (nI b)), y7, y8, y9, none, y11], sh⟩ := by
  unfold c_law_frame_2_0
  rw [bitsLo_map]
  unfold nL
  rw [List.map_map]
  refine comp_map (enc := nI) (l := List.range b) (fun y => ⟨[y0, some (.v (nI w)), y2, y3, y4, y5, some (.v (nI b)), y7, y8, y9, y, y11], sh⟩) (fun a => some (.v (nI a))) _ (by simp! []; rfl) none rfl rfl (by simp; omega) (fun _ _ _ => rfl) ?_ (fun _ => rfl)
  intro a ha
  have ha : a < 6 := by have := List.mem_range.mp ha; omega
  have : a = 0 ∨ a = 1 ∨ a = 2 ∨ a = 3 ∨ a = 4 ∨ a = 5 := by omega
  rcases this with h | h | h | h | h | h <;> subst h <;> simp! [] <;> rfl
theorem law_frame2_c1 (k : Nat) (l r0 m : List Nat) (p s : Nat) (y0 y1 y3 y6 y7 y8 y10 : Option Rv) (sh : Sh) (hr : r0 = 0 :: (l ++ m ++ List.replicate s 1)) (hl : r0.length ≤ 1000) (hp : p ≤ 1000) (hs : s ≤ 1000) (h2 : ∀ b ∈ r0, b < 2) (x2 x4 : Rv) (h2f : frz x2 = .v (.lst (nL l))) (h4 : frz x4 = .v (.lst (nL m))) :
    ev (callN MT k) c_law_frame_2_1 ⟨[y0, y1, some x2, y3, some x4, some (.v (nI p)), y6, y7, y8, some (.v (nI s)), y10, none], sh⟩ =
    .ok (.fl (r0.map fun b => .str (List.replicate p (48 + b)))) ⟨[y0, y1, some (.v (.lst (nL l))), y3, some (.v (.lst (nL m))), some (.v (nI p)), y6, y7, y8, some (.v (nI s)), y10, none], sh⟩ := by
  unfold c_law_frame_2_1
  have hlen : r0.length = 1 + l.length + m.length + s := by rw [hr]; simp; omega
  have e : [nI 0] ++ nL l ++ nL m ++ nL (List.replicate s 1) = r0.map nI := by rw [hr]; simp [nL]
  refine comp_map (enc := nI) (l := r0) (fun y => ⟨[y0, y1, some (.v (.lst (nL l))), y3, some (.v (.lst (nL m))), some (.v (nI p)), y6, y7, y8, some (.v (nI s)), y10, y], sh⟩) (fun a => some (.v (nI a))) _ (by simp! [rdK_z h2f, rdK_z h4, repL_oneD, e, itD]) none rfl rfl (by omega) (fun _ _ _ => rfl) ?_ (fun _ => rfl)
  intro a ha
  have := h2 a ha
  simp! [repL_one]
theorem law_frame2_ok (k : Nat) (F : Form) (w : Nat) (sh : Sh) : callN MT (k + 1) 128 [.v F.d, .v (nI w)] sh = .ok (.v (.str (fr F w))) sh := by
  rw [u_law_frame_2]; unfold b_law_frame_2
  have h1 := bitsF_len F w
  have h2 : ((parityB F.q (bitsF F w))).length ≤ 1 := by rw [parityB_len]; split <;> omega
  have := F.hb6
  have := F.hs2
  have fl := fr_len F w
  have := lng_le F
  have ej : joinD [] (.v (.lst ((row F w).map fun b => D.str (List.replicate F.p (48 + b))))) = some (.v (.str (fr F w))) := by
    have := n_join ((row F w).map fun b => List.replicate F.p (48 + b)) (show (fr F w).length ≤ 100000 by omega)
    rw [List.map_map] at this
    exact this
  have hm : (bitsF F w).sum % 2 ≤ 1 := by omega
  cases hlo : F.lo <;> cases hq : F.q <;> unfold bitsF at hm <;> simp only [hlo, if_true, Bool.false_eq_true, if_false] at hm <;> simp! [law_frame2_c0, hlo, hq]
  all_goals (
    rw [law_frame2_c1 k (bitsF F w) (row F w) (parityB F.q (bitsF F w)) F.p F.s (hr := rfl) (hl := by rw [row_len]; have := parN_le F.q; omega) (hp := by have := F.hp6; omega) (hs := by omega) (h2 := row_lt F w) (h2f := by simp [frz, bitsF, hlo]) (h4 := by simp [frz, parityB, hq, bitsF, hlo, nL])]
    simp! [ej])
end Wi

/-! How far samples are apart; k26. -/
namespace Wi
local macro_rules
  | `(tactic| simp! [$ls,*]) => `(tactic| simp -implicitDefEqProofs (maxSteps := 10000000) (disch := first | assumption | (simp -implicitDefEqProofs only [dp_non, dp_bl, dp_int, dp_str, dp_tup, dp_lst, dpl_nil, dpl_cons, fd_dep, ref_dep, n_dep, dep_nL, depL_nL, len_nL, len_repL, List.length_append, List.length_cons, List.length_nil, List.length_replicate, List.length_reverse, List.length_set, List.length_map, List.length_range, Nat.reduceAdd, Nat.reduceMul, Nat.reduceLT, Nat.reduceLeDiff, Nat.zero_le, true_or, or_true, List.getElem?_cons_succ, List.getElem?_cons_zero]; done) | omega | (simp -implicitDefEqProofs only [dp_non, dp_bl, dp_int, dp_str, dp_tup, dp_lst, dpl_nil, dpl_cons, fd_dep, ref_dep, n_dep, dep_nL, depL_nL, len_nL, len_repL, List.length_append, List.length_cons, List.length_nil, List.length_replicate, List.length_reverse, List.length_set, List.length_map, List.length_range, Nat.reduceAdd, Nat.reduceMul]; omega)) only [rdK_scr, frz_scr, pkK_scr, pkK_shr, lstK_shr, appK_shr, town_init', List.nil_append, q_bok, q_berr, q_bexc, q_bite, q_onB, q_nx, q_rt, q_ct, q_fz, q_frv, q_frfl, q_frro, q_frshr, q_frfn, q_oo, q_on, q_oite, q_and, q_or, n_eq, k_0, k_1, k_2, k_3, k_4, k_5, k_6, k_7, k_8, k_9, k_10, k_11, k_12, k_13, k_14, k_15, k_16, k_20, k_30, k_31, k_32, k_33, k_40, k_41, k_59, k_60, k_61, k_63, k_64, k_70, k_80, k_90, k_100, k_101, k_120, k_150, k_180, k_190, k_194, k_195, k_200, k_201, k_7919, k_9973, k_9999, k_12345, k_100000, k_104729, k_999961, k_999979, k_999983, k_1103515245, k_2147483647, e_const, e_glob, e_slot', rdK_v, rdK_fl, rdK_ro, rdK_shr, rdK_exc, e_bin, e_neg', ngK_n, partI', ptK_n, ptK_i, ptK_t, nb_non, nb_int, nb_slot, nb_bin, nb_neg, nb_call, nb_subS, nb_sub, nb_lenS, cutS, cutT, cutLs, cut_nn, cut_0n, cut_n0, cut_0m, e_not, e_and, e_or, e_ite, e_cmp, e_cmp2, e_cmpS, e_inS, e_tup, e_lst, q_mm0, q_mm1, q_om, e_pick, pick_par3, e_call, e_sel', selK_n, selN_s, e_bi, e_lenS, e_join, e_meth, e_sub, e_subS, e_cut, e_rev, e_isin, es_nil, es_cons, i_val, i_range1', i_range2', i_range3', i_enum, i_zip, x_nil, x_cons, x_set, x_shr, x_unp, x_par, x_expr, x_app, x_ext, x_put, x_ite, x_for', x_while', forB_nil, q_set1, q_setN, q_puts0, q_puts, q_putsR0, q_putsR, x_ret, x_retS', rsK_s, x_raise, x_cont, x_pass, x_try', tryK_ok, tryK_exc0, tryK_ite, handed', handedC, hdK_ok, put_if, q_callR, q_eR1, q_eR2, q_eR3, q_eRi, q_e1, q_e2, q_e3, q_ei, n_add, n_mul, n_sub, n_mod, n_div, n_lt, n_le, n_gt, n_ge, n_deq, n_dep, n_ty, n_tyb, n_tys, n_tyt, n_tyl, t_nil, t_cons, deq_refl, ref_eq, ref_deq, ref_dep, ty_int_non, ty_int_bl, ty_int_str, ty_int_tup, ty_int_lst, ty_int_int, ty_bool_non, ty_bool_bl, ty_bool_str, ty_bool_tup, ty_bool_lst, ty_bool_int, ty_str_non, ty_str_bl, ty_str_str, ty_str_tup, ty_str_lst, ty_str_int, ty_tuple_non, ty_tuple_bl, ty_tuple_str, ty_tuple_tup, ty_tuple_lst, ty_tuple_int, ty_list_non, ty_list_bl, ty_list_str, ty_list_tup, ty_list_lst, ty_list_int, q_eq, q_ne, q_in, q_inl, q_nin, q_ninl, dep_nL, fd_0, fd_1, fd_2, fd_3, fd_4, fd_t, fd_seq, fd_len, fd_dep, ord_low, ord_in, par_in, par_none, par_even, par_odd, n_addS, n_addT, n_addL, n_mulS, n_mulL, n_sum, n_len, n_intb, n_inti, n_tupl, n_lstt, n_lstl, n_str, revD_l, nL_rev, nL_app, app1', appK_fl, ext1', extK_fl, lstAt', lstK_fl, q_isN, q_notN, nn_nI, nn_non, nn_bl, nn_str, nn_tup, nn_lst, n_subT, n_subL, n_subF, n_subS, rgK_n, rg2K_n, ↓reduceIte, Bool.false_eq_true, List.length_map, List.length_cons, List.length_nil, List.getElem?_cons_zero, List.getElem?_cons_succ, List.getElem?_nil, List.set_cons_zero, List.set_cons_succ, Option.map_some, Option.map_none, Option.bind_some, Option.bind_none, Option.isSome_some, Nat.reduceAdd, Nat.reduceLT, Nat.reduceLeDiff, Nat.reduceSub, Nat.reduceMul, Nat.reduceEqDiff, decide_true, decide_false, Bool.true_and, Bool.and_true, Bool.false_and, Bool.and_false, Bool.or_true, Bool.true_or, Bool.false_or, Bool.or_false, Bool.not_true, Bool.not_false, peek', pkK_v, pkK_fl, pkK_ro, len_s, len_t, len_l, len_f, len_r, seq_t, seq_l, Bool.decide_eq_true, unV, $ls,*])
theorem rangeL_cast (n : Nat) : (nL (List.range n)) = (List.range n).map nI := rfl
/-- at how many places two lists are unlike -/
def ham : List Nat → List Nat → Nat
  | a :: x, b :: y => (if a = b then 0 else 1) + ham x y
  | _, _ => 0
theorem ham_eq : ∀ (x y : List Nat), x.length = y.length → ((List.range x.length).filter fun i => !decide (x[i]? = y[i]?)).length = ham x y
  | [], [], _ => rfl
  | a :: x, b :: y, h => by
    have ih := ham_eq x y (by simpa using h)
    rw [List.length_cons, List.range_succ_eq_map, List.filter_cons]
    have e : ((List.map Nat.succ (List.range x.length)).filter fun i => !decide ((a :: x)[i]? = (b :: y)[i]?)).length = ham x y := by
      rw [List.filter_map, List.length_map, ← ih]; rfl
    unfold ham
    by_cases hab : a = b
    · simp [hab] at e ⊢
      exact e
    · simp [hab] at e ⊢
      omega
theorem ticks_apart_ok (k : Nat) (x y : List Nat) (h : x.length = y.length) (hl : x.length ≤ 1000) (sh : Sh) : callN MT (k + 1) 149 [.v (.str x), .v (.str y)] sh = .ok (.v (nI (ham x y))) sh := by
  rw [u_ticks_apart]; unfold b_ticks_apart
  have c : ∀ sh, ev (callN MT k) c_ticks_apart_0 ⟨[some (.v (.str x)), some (.v (.str y)), none], sh⟩ = .ok (.fl (((List.range x.length).filter fun i => !decide (x[i]? = y[i]?)).map nI)) ⟨[some (.v (.str x)), some (.v (.str y)), none], sh⟩ := by
    intro sh
    unfold c_ticks_apart_0
    refine comp_gen (enc := nI) (l := List.range x.length) (fun z => ⟨[some (.v (.str x)), some (.v (.str y)), z], sh⟩) (fun a => some (.v (nI a))) _ _ (by simp! []; rfl) none rfl rfl (by simp; omega) (fun _ _ _ => rfl) ?_ ?_ (fun _ => rfl)
    · intro a ha
      have ha := List.mem_range.mp ha
      have e1 : x[a]? = some x[a] := List.getElem?_eq_getElem ha
      have e2 : y[a]? = some y[a] := List.getElem?_eq_getElem (by omega)
      have e3 : deq (.str [x[a]]) (.str [y[a]]) = decide (x[a]? = y[a]?) := by
        rw [e1, e2]
        simp [deq]
        rfl
      show (ev (callN MT k) _ _).bind _ = _
      simp! [e1, e2]
      rw [e3, e1, e2]
    · intro a ha _
      simp! []
  have e := ham_eq x y h
  simp! [c, e]
theorem ok_of_bits (p : Nat) (l : List Nat) (h : ∀ b ∈ l, b < 2) : ∀ c ∈ tks p l, c = 48 ∨ c = 49 := by
  intro c hc
  unfold tks at hc
  rw [List.mem_flatten] at hc
  obtain ⟨z, hz, hc⟩ := hc
  rw [List.mem_map] at hz
  obtain ⟨b, hb, rfl⟩ := hz
  have := h b hb
  have := (List.mem_replicate.mp hc).2
  omega
theorem fr_bit (F : Form) (w : Nat) : ∀ c ∈ fr F w, c = 48 ∨ c = 49 := ok_of_bits _ _ (row_lt F w)
theorem fr_ok (F : Form) (w : Nat) : OkS (fr F w) := ⟨by rw [fr_len]; have := lng_pos F; omega, by rw [fr_len]; have := lng_le F; omega, fr_bit F w⟩
theorem nearest_len (k : Nat) (F : Form) (x : List Nat) (h : OkS x) (hl : x.length ≠ lng F) (sh : Sh) : callN MT (k + 4) 150 [.v F.d, .v (.str x)] sh = .exc 2 sh := by
  rw [u_nearest_words]; unfold b_nearest_words
  simp! [need_form_ok, need_samples_ok _ x h, long_of_ok, hl]
theorem nearest_none (k : Nat) (F : Form) {d : D} (h : d ∈ NONE) (sh : Sh) : callN MT (k + 4) 150 [.v F.d, .v d] sh = .exc 2 sh := by
  rw [u_nearest_words]; unfold b_nearest_words
  simp! [need_form_ok, need_samples_bad h]
theorem nearest_bad (k : Nat) {b d : D} (h : b ∈ BAD) (sh : Sh) : callN MT (k + 4) 150 [.v b, .v d] sh = .exc 1 sh := by
  rw [u_nearest_words]; unfold b_nearest_words
  simp! [need_form_bad h]
theorem least_bad (k : Nat) {b : D} (h : b ∈ BAD) (sh : Sh) : callN MT (k + 4) 154 [.v b] sh = .exc 1 sh := by
  rw [u_least_apart]; unfold b_least_apart
  simp! [need_form_bad h]
theorem mended_bad (k : Nat) {b : D} (h : b ∈ BAD) (sh : Sh) : callN MT (k + 4) 156 [.v b] sh = .exc 1 sh := by
  rw [u_is_mended]; unfold b_is_mended
  simp! [need_form_bad h]
theorem apart_none1 (k : Nat) {b d : D} (h : b ∈ NONE) (sh : Sh) : callN MT (k + 2) 153 [.v b, .v d] sh = .exc 2 sh := by
  rw [u_apart]; unfold b_apart
  simp! [need_samples_bad h]
theorem apart_none2 (k : Nat) {d : D} (x : List Nat) (hx : OkS x) (h : d ∈ NONE) (sh : Sh) : callN MT (k + 2) 153 [.v (.str x), .v d] sh = .exc 2 sh := by
  rw [u_apart]; unfold b_apart
  simp! [need_samples_ok _ x hx, need_samples_bad h]
theorem apart_len (k : Nat) (x y : List Nat) (hx : OkS x) (hy : OkS y) (h : x.length ≠ y.length) (sh : Sh) : callN MT (k + 2) 153 [.v (.str x), .v (.str y)] sh = .exc 2 sh := by
  rw [u_apart]; unfold b_apart
  simp! [need_samples_ok _ x hx, need_samples_ok _ y hy, h]
theorem apart_ok (k : Nat) (x y : List Nat) (hx : OkS x) (hy : OkS y) (h : x.length = y.length) (sh : Sh) : callN MT (k + 2) 153 [.v (.str x), .v (.str y)] sh = .ok (.v (nI (ham x y))) sh := by
  have := hx.le
  rw [u_apart]; unfold b_apart
  simp! [need_samples_ok _ x hx, need_samples_ok _ y hy, h, ticks_apart_ok _ x y h (by omega)]
end Wi

/-! What a form reads. -/
namespace Wi
local macro_rules
  | `(tactic| simp! [$ls,*]) => `(tactic| simp -implicitDefEqProofs (maxSteps := 10000000) (disch := first | assumption | (simp -implicitDefEqProofs only [dp_non, dp_bl, dp_int, dp_str, dp_tup, dp_lst, dpl_nil, dpl_cons, fd_dep, ref_dep, n_dep, dep_nL, depL_nL, len_nL, len_repL, List.length_append, List.length_cons, List.length_nil, List.length_replicate, List.length_reverse, List.length_set, List.length_map, List.length_range, Nat.reduceAdd, Nat.reduceMul, Nat.reduceLT, Nat.reduceLeDiff, Nat.zero_le, true_or, or_true, List.getElem?_cons_succ, List.getElem?_cons_zero]; done) | omega | (simp -implicitDefEqProofs only [dp_non, dp_bl, dp_int, dp_str, dp_tup, dp_lst, dpl_nil, dpl_cons, fd_dep, ref_dep, n_dep, dep_nL, depL_nL, len_nL, len_repL, List.length_append, List.length_cons, List.length_nil, List.length_replicate, List.length_reverse, List.length_set, List.length_map, List.length_range, Nat.reduceAdd, Nat.reduceMul]; omega)) only [rdK_scr, frz_scr, pkK_scr, pkK_shr, lstK_shr, appK_shr, town_init', List.nil_append, q_bok, q_berr, q_bexc, q_bite, q_onB, q_nx, q_rt, q_ct, q_fz, q_frv, q_frfl, q_frro, q_frshr, q_frfn, q_oo, q_on, q_oite, q_and, q_or, n_eq, k_0, k_1, k_2, k_3, k_4, k_5, k_6, k_7, k_8, k_9, k_10, k_11, k_12, k_13, k_14, k_15, k_16, k_20, k_30, k_31, k_32, k_33, k_40, k_41, k_59, k_60, k_61, k_63, k_64, k_70, k_80, k_90, k_100, k_101, k_120, k_150, k_180, k_190, k_194, k_195, k_200, k_201, k_7919, k_9973, k_9999, k_12345, k_100000, k_104729, k_999961, k_999979, k_999983, k_1103515245, k_2147483647, e_const, e_glob, e_slot', rdK_v, rdK_fl, rdK_ro, rdK_shr, rdK_exc, e_bin, e_neg', ngK_n, partI', ptK_n, ptK_i, ptK_t, nb_non, nb_int, nb_slot, nb_bin, nb_neg, nb_call, nb_subS, nb_sub, nb_lenS, cutS, cutT, cutLs, cut_nn, cut_0n, cut_n0, cut_0m, e_not, e_and, e_or, e_ite, e_cmp, e_cmp2, e_cmpS, e_inS, e_tup, e_lst, q_mm0, q_mm1, q_om, e_pick, pick_par3, e_call, e_sel', selK_n, selN_s, e_bi, e_lenS, e_join, e_meth, e_sub, e_subS, e_cut, e_rev, e_isin, es_nil, es_cons, i_val, i_range1', i_range2', i_range3', i_enum, i_zip, x_nil, x_cons, x_set, x_shr, x_unp, x_par, x_expr, x_app, x_ext, x_put, x_ite, x_for', x_while', forB_nil, q_set1, q_setN, q_puts0, q_puts, q_putsR0, q_putsR, x_ret, x_retS', rsK_s, x_raise, x_cont, x_pass, x_try', tryK_ok, tryK_exc0, tryK_ite, handed', handedC, hdK_ok, put_if, q_callR, q_eR1, q_eR2, q_eR3, q_eRi, q_e1, q_e2, q_e3, q_ei, n_add, n_mul, n_sub, n_mod, n_div, n_lt, n_le, n_gt, n_ge, n_deq, n_dep, n_ty, n_tyb, n_tys, n_tyt, n_tyl, t_nil, t_cons, deq_refl, ref_eq, ref_deq, ref_dep, ty_int_non, ty_int_bl, ty_int_str, ty_int_tup, ty_int_lst, ty_int_int, ty_bool_non, ty_bool_bl, ty_bool_str, ty_bool_tup, ty_bool_lst, ty_bool_int, ty_str_non, ty_str_bl, ty_str_str, ty_str_tup, ty_str_lst, ty_str_int, ty_tuple_non, ty_tuple_bl, ty_tuple_str, ty_tuple_tup, ty_tuple_lst, ty_tuple_int, ty_list_non, ty_list_bl, ty_list_str, ty_list_tup, ty_list_lst, ty_list_int, q_eq, q_ne, q_in, q_inl, q_nin, q_ninl, dep_nL, fd_0, fd_1, fd_2, fd_3, fd_4, fd_t, fd_seq, fd_len, fd_dep, ord_low, ord_in, par_in, par_none, par_even, par_odd, n_addS, n_addT, n_addL, n_mulS, n_mulL, n_sum, n_len, n_intb, n_inti, n_tupl, n_lstt, n_lstl, n_str, revD_l, nL_rev, nL_app, app1', appK_fl, ext1', extK_fl, lstAt', lstK_fl, q_isN, q_notN, nn_nI, nn_non, nn_bl, nn_str, nn_tup, nn_lst, n_subT, n_subL, n_subF, n_subS, rgK_n, rg2K_n, ↓reduceIte, Bool.false_eq_true, List.length_map, List.length_cons, List.length_nil, List.getElem?_cons_zero, List.getElem?_cons_succ, List.getElem?_nil, List.set_cons_zero, List.set_cons_succ, Option.map_some, Option.map_none, Option.bind_some, Option.bind_none, Option.isSome_some, Nat.reduceAdd, Nat.reduceLT, Nat.reduceLeDiff, Nat.reduceSub, Nat.reduceMul, Nat.reduceEqDiff, decide_true, decide_false, Bool.true_and, Bool.and_true, Bool.false_and, Bool.and_false, Bool.or_true, Bool.true_or, Bool.false_or, Bool.or_false, Bool.not_true, Bool.not_false, peek', pkK_v, pkK_fl, pkK_ro, len_s, len_t, len_l, len_f, len_r, seq_t, seq_l, Bool.decide_eq_true, unV, $ls,*])
theorem deq_str (x y : List Nat) : deq (.str x) (.str y) = (x == y) := rfl
theorem n_int1 {c : Nat} (h : c = 48 ∨ c = 49) : biD .int [.v (.str [c])] = some (.v (nI (c - 48))) := by
  rcases h with h | h <;> subst h <;> kernel_rfl
def optD : Option Nat → D
  | none => .non
  | some n => nI n
def bitO (x : List Nat) : Option Nat := match x with
  | [] => none
  | c :: r => if c :: r = List.replicate (r.length + 1) c then some (c - 48) else none
theorem bit_of_ok (k : Nat) (x : List Nat) (hb : ∀ c ∈ x, c = 48 ∨ c = 49) (hl : x.length ≤ 1000) (sh : Sh) : callN MT (k + 1) 25 [.v (.str x)] sh = .ok (.v (optD (bitO x))) sh := by
  rw [u_bit_of]; unfold b_bit_of
  cases x with
  | nil => simp! [deq_str, beq_self_eq_true]; rfl
  | cons c r =>
    have e0 : ((c :: r) == ([] : List Nat)) = false := rfl
    have hc := hb c List.mem_cons_self
    rw [List.length_cons] at hl
    unfold bitO
    by_cases h : c :: r = List.replicate (r.length + 1) c
    · have e1 : ((c :: r) == List.replicate (r.length + 1) c) = true := by rw [beq_iff_eq]; exact h
      simp! [deq_str, e0, repL_one, e1, n_int1 hc]
      rw [if_pos h]; rfl
    · have e1 : ((c :: r) == List.replicate (r.length + 1) c) = false := by rw [beq_eq_false_iff_ne]; exact h
      simp! [deq_str, e0, repL_one, e1]
      rw [if_neg h]; rfl
def mB (F : Form) : Nat := 1 + F.b + parN F.q + F.s
theorem lng_eq (F : Form) : lng F = F.p * mB F := rfl
def rowO (F : Form) (part : List Nat) : List (Option Nat) := (List.range (mB F)).map fun i => bitO ((part.drop (i * F.p)).take F.p)
/-- the word of a part that is as long as a frame -/
def decode (F : Form) (part : List Nat) : Option Nat :=
  if none ∈ rowO F part ∨ (rowO F part)[0]? ≠ some (some 0) then none else
  if ((rowO F part).map (·.getD 0)).drop (1 + F.b) ≠ parityB F.q ((((rowO F part).map (·.getD 0)).drop 1).take F.b) ++ List.replicate F.s 1 then none
  else some (wordF F ((((rowO F part).map (·.getD 0)).drop 1).take F.b))
def wordAt (F : Form) (x : List Nat) (n : Nat) : Option Nat := if ((x.drop n).take (lng F)).length < lng F then none else decode F ((x.drop n).take (lng F))
theorem mB_le (F : Form) : mB F ≤ 10 := by
  unfold mB
  have := F.hb6; have := F.hs2; have := parN_le F.q
  omega
theorem mB_ge (F : Form) : 6 ≤ mB F := by
  unfold mB
  have := F.hb; have := F.hs
  omega
theorem rowO_len (F : Form) (part : List Nat) : (rowO F part).length = mB F := by unfold rowO; simp
theorem inL_opt : ∀ l : List (Option Nat), inL .non (l.map optD) = decide (none ∈ l)
  | [] => rfl
  | o :: l => by
    show (deq (optD o) .non || inL .non (l.map optD)) = _
    rw [inL_opt l]
    cases o with
    | none => simp [optD, deq]
    | some n => simp [optD, nI, deq]
theorem opt_nL : ∀ l : List (Option Nat), none ∉ l → l.map optD = nL (l.map (·.getD 0))
  | [], _ => rfl
  | o :: l, h => by
    cases o with
    | none => exact absurd List.mem_cons_self h
    | some n =>
      show nI n :: l.map optD = nI n :: nL _
      rw [opt_nL l fun hm => h (List.mem_cons_of_mem _ hm)]
theorem depL_opt : ∀ l : List (Option Nat), D.depL (l.map optD) = 0
  | [] => rfl
  | o :: l => by
    show max (optD o).dep (D.depL (l.map optD)) = 0
    rw [depL_opt l]
    cases o <;> rfl
theorem word_at_c (k : Nat) (F : Form) (x part : List Nat) (y1 y2 y5 y6 : Option Rv) (sh : Sh) (hb : ∀ c ∈ part, c = 48 ∨ c = 49) (hl : part.length ≤ 1000) :
    ev (callN MT (k + 1)) c_word_at_0 ⟨[some (.v F.d), y1, y2, some (.v (nI (lng F))), some (.v (.str part)), y5, y6, none], sh⟩ = .ok (.fl ((rowO F part).map optD)) ⟨[some (.v F.d), y1, y2, some (.v (nI (lng F))), some (.v (.str part)), y5, y6, none], sh⟩ := by
  have hp := F.hp
  have hp6 := F.hp6
  have hm := mB_le F
  unfold c_word_at_0 rowO
  rw [List.map_map]
  have ei : evIt (callN MT (k + 1)) (.range3 (.const (.int 0)) (.slot 3) (.subS 0 (.const (.int 0)))) ⟨[some (.v F.d), y1, y2, some (.v (nI (lng F))), some (.v (.str part)), y5, y6, none], sh⟩ =
      .ok ((List.range (mB F)).map fun i => nI (i * F.p)) ⟨[some (.v F.d), y1, y2, some (.v (nI (lng F))), some (.v (.str part)), y5, y6, none], sh⟩ := by
    simp! [lng_eq]
    rw [rg3K_up (by omega) (by omega) (by omega)]
    unfold nL
    rw [List.map_map]; rfl
  refine comp_map (enc := fun i => nI (i * F.p)) (l := List.range (mB F)) (fun z => ⟨[some (.v F.d), y1, y2, some (.v (nI (lng F))), some (.v (.str part)), y5, y6, z], sh⟩) (fun a => some (.v (nI (a * F.p)))) _ ei none rfl rfl (by simp; omega) (fun _ _ _ => rfl) ?_ (fun _ => rfl)
  intro a ha
  have e : a * F.p + F.p - a * F.p = F.p := by omega
  have hb2 : ∀ c ∈ (part.drop (a * F.p)).take F.p, c = 48 ∨ c = 49 := fun c hc => hb c (List.mem_of_mem_drop (List.mem_of_mem_take hc))
  have hl2 : ((part.drop (a * F.p)).take F.p).length ≤ 1000 := by rw [List.length_take]; omega
  simp! [e, bit_of_ok _ _ hb2 hl2]
  rfl
theorem word_at_ok (k : Nat) (F : Form) (x : List Nat) (n : Nat) (hb : ∀ c ∈ x, c = 48 ∨ c = 49) (sh : Sh) : callN MT (k + 2) 26 [.v F.d, .v (.str x), .v (nI n)] sh = .ok (.v (optD (wordAt F x n))) sh := by
  rw [u_word_at]; unfold b_word_at
  have hp := F.hp
  have hp6 := F.hp6
  have hb6 := F.hb6
  have hs := F.hs2
  have hm := mB_le F
  have ll := lng_le F
  have e : n + lng F - n = lng F := by omega
  unfold wordAt
  generalize hpt : (x.drop n).take (lng F) = part
  have hpl : part.length ≤ lng F := by rw [← hpt, List.length_take]; omega
  have hb2 : ∀ c ∈ part, c = 48 ∨ c = 49 := fun c hc => by rw [← hpt] at hc; exact hb c (List.mem_of_mem_drop (List.mem_of_mem_take hc))
  by_cases hlen : part.length < lng F
  · simp! [long_of_ok, e, hpt, hlen]; rfl
  rw [if_neg hlen]
  have c := fun (y1 y2 y5 y6 : Option Rv) => word_at_c k F x part y1 y2 y5 y6 sh hb2 (by omega)
  unfold decode
  have hrl := rowO_len F part
  generalize hr : rowO F part = row at c hrl
  have hge := mB_ge F
  by_cases hn : none ∈ row
  · have hd := depL_opt row
    simp! [long_of_ok, e, hpt, hlen, c, inL_opt, hn]
    rw [if_pos (.inl trivial)]; rfl
  · have en := opt_nL row hn
    generalize hr2 : row.map (·.getD 0) = r at en
    have hr2l : r.length = mB F := by rw [← hr2, List.length_map, hrl]
    have hf : inL .non (nL r) = false := by rw [← en, inL_opt]; simp [hn]
    rw [en] at c
    have h0 : (nL r)[0]? = some (nI (r[0]?.getD 0)) := by
      unfold nL
      rw [List.getElem?_map, List.getElem?_eq_getElem (by omega)]; rfl
    have hrow0 : (row[0]? = some (some 0)) ↔ r[0]?.getD 0 = 0 := by
      rw [← hr2, List.getElem?_map]
      have h1 : row[0]? = some row[0] := List.getElem?_eq_getElem (by omega)
      rw [h1]
      have h2 : row[0] ∈ row := List.getElem_mem _
      cases h3 : row[0] with
      | none => rw [h3] at h2; exact absurd h2 hn
      | some v => simp
    by_cases h00 : r[0]?.getD 0 = 0
    · have ec : ∀ (l : List Nat) (b : Nat), (nL l).take b = nL (l.take b) := fun l b => by unfold nL; rw [List.map_take]
      have ec2 : ∀ (a : Nat), (nL r).drop a = nL (r.drop a) := fun a => by unfold nL; rw [List.map_drop]
      have e3 : 1 + F.b - 1 = F.b := by omega
      have hpar : (parityB F.q ((r.drop 1).take F.b)).length ≤ 1 := by rw [parityB_len]; split <;> omega
      have hq : ∀ (a b : List Nat), deq (.lst (nL a)) (.lst (nL b)) = decide (a = b) := fun a b => by
        show deqL (nL a) (nL b) = _
        induction a generalizing b with
        | nil => cases b <;> simp [nL, deqL]
        | cons x a ih =>
          cases b with
          | nil => simp [nL, deqL]
          | cons y b =>
            show (deq (nI x) (nI y) && deqL (nL a) (nL b)) = _
            rw [n_deq, ih]
            by_cases h1 : x = y <;> by_cases h2 : a = b <;> simp [h1, h2]
      rw [if_neg (by rw [not_or]; exact ⟨hn, fun h => h (hrow0.mpr h00)⟩)]
      by_cases hx : r.drop (1 + F.b) = parityB F.q ((r.drop 1).take F.b) ++ List.replicate F.s 1
      · simp! [long_of_ok, e, hpt, hlen, c, hf, h0, h00, e3, ec, ec2, parity_of_ok, repL_oneD, hq, hx, word_of_ok]
        rw [if_neg (by simp)]; rfl
      · simp! [long_of_ok, e, hpt, hlen, c, hf, h0, h00, e3, ec, ec2, parity_of_ok, repL_oneD, hq, hx]
        rw [if_pos hx]; rfl
    · rw [if_pos (.inr fun h => h00 (hrow0.mp h))]
      simp! [long_of_ok, e, hpt, hlen, c, hf, h0, h00]
      rfl
/-- rows and the rest, sign by sign -/
def rdF (F : Form) : Nat → List Nat → Nat → Option (List (Nat × Nat) × Nat)
  | 0, _, _ => none
  | _ + 1, [], gap => some ([], gap)
  | n + 1, c :: r, gap => if c = 49 then rdF F n r (gap + 1) else match wordAt F (c :: r) 0 with
    | none => none
    | some w => (rdF F n ((c :: r).drop (lng F)) 0).map fun p => ((gap, w) :: p.1, p.2)
def readF (F : Form) (x : List Nat) : Option (List (Nat × Nat) × Nat) := match rdF F (x.length + 1) x 0 with
  | none => none
  | some p => if p.1 = [] then none else some p
def rwD (l : List (Nat × Nat)) : List D := l.map fun p => .tup [nI p.1, nI p.2]
def readD : Option (List (Nat × Nat) × Nat) → D
  | none => .non
  | some p => .tup [.tup (rwD p.1), nI p.2]
theorem wordAt_drop (F : Form) (x : List Nat) (n : Nat) : wordAt F x n = wordAt F (x.drop n) 0 := by
  unfold wordAt
  rw [List.drop_zero]
theorem rows_in_loop (k : Nat) (F : Form) (x : List Nat) (hb : ∀ c ∈ x, c = 48 ∨ c = 49) (hx : x.length ≤ 1000) (sh : Sh) : ∀ (n m at' gap : Nat) (acc : List (Nat × Nat)) (y : Option Rv), (x.drop at').length < n → n ≤ m → at' ≤ x.length → acc.length ≤ at' → gap ≤ at' →
    match rdF F n (x.drop at') gap with
    | none => ∃ s', whileB (callN MT (k + 2)) (.cmp .lt (.slot 3) (.lenS 1)) l_rows_in_0 m ⟨[some (.v F.d), some (.v (.str x)), some (.v (.tup (rwD acc))), some (.v (nI at')), some (.v (nI gap)), y], sh⟩ = .ok (.rt (.v .non)) s' ∧ s'.sh = sh
    | some p => ∃ y' a', whileB (callN MT (k + 2)) (.cmp .lt (.slot 3) (.lenS 1)) l_rows_in_0 m ⟨[some (.v F.d), some (.v (.str x)), some (.v (.tup (rwD acc))), some (.v (nI at')), some (.v (nI gap)), y], sh⟩ = .ok .nx ⟨[some (.v F.d), some (.v (.str x)), some (.v (.tup (rwD (acc ++ p.1)))), a', some (.v (nI p.2)), y'], sh⟩
  | 0, _, _, _, _, _, h, _, _, _, _ => absurd h (Nat.not_lt_zero _)
  | n + 1, 0, _, _, _, _, _, h, _, _, _ => absurd h (by omega)
  | n + 1, m + 1, at', gap, acc, y, h, hm, ha, hacc, hg => by
    have ll := lng_le F
    have lp := lng_pos F
    by_cases hend : at' < x.length
    · have e1 : x[at']? = some x[at'] := List.getElem?_eq_getElem hend
      have ed : x.drop at' = x[at'] :: x.drop (at' + 1) := List.drop_eq_getElem_cons hend
      have hc := hb _ (List.getElem_mem hend)
      have t1 : ev (callN MT (k + 2)) (.cmp .lt (.slot 3) (.lenS 1)) ⟨[some (.v F.d), some (.v (.str x)), some (.v (.tup (rwD acc))), some (.v (nI at')), some (.v (nI gap)), y], sh⟩ = .ok (.v (.bl true)) ⟨[some (.v F.d), some (.v (.str x)), some (.v (.tup (rwD acc))), some (.v (nI at')), some (.v (nI gap)), y], sh⟩ := by
        simp! [hend]
      have e49 : deq (.str [x[at']]) (.str [49]) = decide (x[at'] = 49) := by simp [deq]; rfl
      by_cases h49 : x[at'] = 49
      · have t2 : execs (callN MT (k + 2)) l_rows_in_0 ⟨[some (.v F.d), some (.v (.str x)), some (.v (.tup (rwD acc))), some (.v (nI at')), some (.v (nI gap)), y], sh⟩ = .ok .nx ⟨[some (.v F.d), some (.v (.str x)), some (.v (.tup (rwD acc))), some (.v (nI (at' + 1))), some (.v (nI (gap + 1))), y], sh⟩ := by
          unfold l_rows_in_0
          simp! [e1, e49, h49]
        have ih := rows_in_loop k F x hb hx sh n m (at' + 1) (gap + 1) acc y (by rw [List.length_drop] at h ⊢; omega) (by omega) (by omega) (by omega) (by omega)
        rw [ed, show rdF F (n + 1) (x[at'] :: x.drop (at' + 1)) gap = rdF F n (x.drop (at' + 1)) (gap + 1) from if_pos h49]
        rw [while_step t1 t2 rfl]
        exact ih
      · have er : rdF F (n + 1) (x.drop at') gap = match wordAt F (x.drop at') 0 with
            | none => none
            | some w => (rdF F n ((x.drop at').drop (lng F)) 0).map fun p => ((gap, w) :: p.1, p.2) := by
          rw [ed]; exact if_neg h49
        rw [er]
        have hw := word_at_ok k F x at' hb sh
        rw [wordAt_drop] at hw
        cases hwa : wordAt F (x.drop at') 0 with
        | none =>
          rw [hwa] at hw
          have hw : callN MT (k + 2) 26 [.v F.d, .v (.str x), .v (nI at')] sh = .ok (.v .non) sh := hw
          have t2 : execs (callN MT (k + 2)) l_rows_in_0 ⟨[some (.v F.d), some (.v (.str x)), some (.v (.tup (rwD acc))), some (.v (nI at')), some (.v (nI gap)), y], sh⟩ = .ok (.rt (.v .non)) ⟨[some (.v F.d), some (.v (.str x)), some (.v (.tup (rwD acc))), some (.v (nI at')), some (.v (nI gap)), some (.v .non)], sh⟩ := by
            unfold l_rows_in_0
            simp! [e1, e49, h49, hw]
          exact ⟨_, while_ret t1 t2, rfl⟩
        | some w =>
          rw [hwa] at hw
          have hw : callN MT (k + 2) 26 [.v F.d, .v (.str x), .v (nI at')] sh = .ok (.v (nI w)) sh := hw
          have hlen : at' + lng F ≤ x.length := by
            unfold wordAt at hwa
            rw [List.drop_zero] at hwa
            split at hwa
            · cases hwa
            · rename_i hh
              rw [List.length_take, List.length_drop] at hh
              omega
          have et : rwD acc ++ [.tup [nI gap, nI w]] = rwD (acc ++ [(gap, w)]) := by simp [rwD]
          have hal : (rwD acc).length = acc.length := by simp [rwD]
          have t2 : execs (callN MT (k + 2)) l_rows_in_0 ⟨[some (.v F.d), some (.v (.str x)), some (.v (.tup (rwD acc))), some (.v (nI at')), some (.v (nI gap)), y], sh⟩ = .ok .nx ⟨[some (.v F.d), some (.v (.str x)), some (.v (.tup (rwD (acc ++ [(gap, w)])))), some (.v (nI (at' + lng F))), some (.v (nI 0)), some (.v (nI w))], sh⟩ := by
            unfold l_rows_in_0
            simp! [e1, e49, h49, hw, et, long_of_ok]
          have edd : (x.drop at').drop (lng F) = x.drop (at' + lng F) := List.drop_drop
          have ih := rows_in_loop k F x hb hx sh n m (at' + lng F) 0 (acc ++ [(gap, w)]) (some (.v (nI w))) (by rw [List.length_drop] at h ⊢; omega) (by omega) (by omega) (by simp; omega) (by omega)
          rw [while_step t1 t2 rfl]
          show match (rdF F n ((x.drop at').drop (lng F)) 0).map fun p => ((gap, w) :: p.1, p.2) with | none => _ | some p => _
          rw [edd]
          cases hr : rdF F n (x.drop (at' + lng F)) 0 with
          | none => rw [hr] at ih; exact ih
          | some p =>
            rw [hr] at ih
            obtain ⟨y', a', ih⟩ := ih
            refine ⟨y', a', ih.trans ?_⟩
            simp
    · have ed : x.drop at' = [] := List.drop_eq_nil_of_le (by omega)
      rw [ed]
      refine ⟨y, some (.v (nI at')), ?_⟩
      show _ = Res.ok Fl.nx ⟨[some (.v F.d), some (.v (.str x)), some (.v (.tup (rwD (acc ++ [])))), some (.v (nI at')), some (.v (nI gap)), y], sh⟩
      rw [List.append_nil]
      refine while_stop ?_
      simp! [hend]
theorem rows_in_ok (k : Nat) (F : Form) (x : List Nat) (hb : ∀ c ∈ x, c = 48 ∨ c = 49) (hx : x.length ≤ 1000) (sh : Sh) : callN MT (k + 3) 27 [.v F.d, .v (.str x)] sh = .ok (.v (readD (readF F x))) sh := by
  rw [u_rows_in]; unfold b_rows_in readF
  have ih := rows_in_loop k F x hb hx sh (x.length + 1) WN 0 0 [] none (by simp) (by unfold WN; omega) (by omega) (by simp) (by omega)
  rw [List.drop_zero] at ih
  have e0 : D.tup (rwD []) = .tup [] := rfl
  have wn : WN = 4999 + 1 := rfl
  cases hr : rdF F (x.length + 1) x 0 with
  | none =>
    rw [hr] at ih
    obtain ⟨s', e, hs⟩ := ih
    rw [e0] at e
    obtain ⟨sl', sh'⟩ := s'
    dsimp only at hs
    subst hs
    simp! [e]
    rfl
  | some p =>
    rw [hr] at ih
    obtain ⟨y', a', e⟩ := ih
    rw [e0, List.nil_append] at e
    have hd : deq (.tup (rwD p.1)) (.tup []) = decide (p.1 = []) := by
      cases p.1 with
      | nil => rfl
      | cons a l => simp [rwD, deq, deqL]
    by_cases hp : p.1 = []
    · simp! [e, hd, hp]
      rfl
    · simp! [e, hd, hp]
      rfl
theorem read_by_ok (k : Nat) (F : Form) (x : List Nat) (h : OkS x) (sh : Sh) : callN MT (k + 4) 28 [.v F.d, .v (.str x)] sh = .ok (.v (readD (readF F x))) sh := by
  rw [u_read_by]; unfold b_read_by
  simp! [need_form_ok, need_samples_ok _ x h, rows_in_ok _ F x h.bit (by have := h.le; omega)]
end Wi

/-! Frames and readings: the mathematics. -/
namespace Wi
theorem wordLo_snoc (b : Nat) (l : List Nat) : wordLo (b :: l) = 2 * wordLo l + b := by
  unfold wordLo
  rw [List.reverse_cons, List.foldl_append]; rfl
theorem wordLo_bits : ∀ (n w : Nat), w < 2 ^ n → wordLo (bitsLo n w) = w
  | 0, w, h => by
    have : w = 0 := by simpa using h
    subst this; rfl
  | n + 1, w, h => by
    rw [bitsLo, wordLo_snoc, wordLo_bits n (w / 2) (by rw [Nat.pow_succ] at h; omega)]
    omega
theorem bits_wordLo : ∀ (l : List Nat), (∀ b ∈ l, b < 2) → bitsLo l.length (wordLo l) = l
  | [], _ => rfl
  | b :: l, h => by
    have hb := h b List.mem_cons_self
    have ih := bits_wordLo l fun x hx => h x (List.mem_cons_of_mem _ hx)
    rw [wordLo_snoc, List.length_cons, bitsLo]
    have e1 : (2 * wordLo l + b) % 2 = b := by omega
    have e2 : (2 * wordLo l + b) / 2 = wordLo l := by omega
    rw [e1, e2, ih]
theorem wordLo_lt : ∀ (l : List Nat), (∀ b ∈ l, b < 2) → wordLo l < 2 ^ l.length
  | [], _ => by decide
  | b :: l, h => by
    have hb := h b List.mem_cons_self
    have ih := wordLo_lt l fun x hx => h x (List.mem_cons_of_mem _ hx)
    rw [wordLo_snoc, List.length_cons, Nat.pow_succ]
    omega
theorem wordF_bits (F : Form) (w : Nat) (h : w < 2 ^ F.b) : wordF F (bitsF F w) = w := by
  unfold wordF bitsF
  cases F.lo
  · simp [wordLo_bits _ _ h]
  · simp [wordLo_bits _ _ h]
theorem bits_wordF (F : Form) (l : List Nat) (hl : l.length = F.b) (h : ∀ b ∈ l, b < 2) : bitsF F (wordF F l) = l := by
  unfold wordF bitsF
  cases F.lo
  · have := bits_wordLo l.reverse (fun b hb => h b (List.mem_reverse.mp hb))
    rw [List.length_reverse, hl] at this
    simp [this]
  · have := bits_wordLo l h
    rw [hl] at this
    simp [this]
theorem wordF_lt (F : Form) (l : List Nat) (hl : l.length = F.b) (h : ∀ b ∈ l, b < 2) : wordF F l < 2 ^ F.b := by
  unfold wordF
  cases F.lo
  · have := wordLo_lt l.reverse (fun b hb => h b (List.mem_reverse.mp hb))
    rw [List.length_reverse, hl] at this
    simpa using this
  · have := wordLo_lt l h
    rw [hl] at this
    simpa using this
/-! ### ticks of bits -/
theorem tks_cons (p b : Nat) (l : List Nat) : tks p (b :: l) = List.replicate p (48 + b) ++ tks p l := rfl
theorem tks_app (p : Nat) (l m : List Nat) : tks p (l ++ m) = tks p l ++ tks p m := by simp [tks]
theorem bitO_rep (p b : Nat) (hp : 0 < p) : bitO (List.replicate p (48 + b)) = some b := by
  cases p with
  | zero => omega
  | succ p =>
    rw [List.replicate_succ]
    show (if (48 + b) :: List.replicate p (48 + b) = List.replicate ((List.replicate p (48 + b)).length + 1) (48 + b) then some (48 + b - 48) else none) = some b
    rw [List.length_replicate, if_pos (by rw [List.replicate_succ])]
    congr 1; omega
theorem bitO_some {x : List Nat} {v : Nat} (h : bitO x = some v) (hb : ∀ c ∈ x, c = 48 ∨ c = 49) : x = List.replicate x.length (48 + v) ∧ v < 2 := by
  cases x with
  | nil => cases h
  | cons c r =>
    have h : (if c :: r = List.replicate (r.length + 1) c then some (c - 48) else none) = some v := h
    split at h
    · rename_i e
      have hc := hb c List.mem_cons_self
      have hv : c - 48 = v := by simpa using h
      have : 48 + v = c := by omega
      rw [this, List.length_cons]
      exact ⟨e, by omega⟩
    · cases h
/-- the parts of a list, p long each -/
def parts (p : Nat) : Nat → List Nat → List (List Nat)
  | 0, _ => []
  | m + 1, x => x.take p :: parts p m (x.drop p)
theorem parts_eq (p : Nat) : ∀ (m : Nat) (x : List Nat), parts p m x = (List.range m).map fun i => (x.drop (i * p)).take p
  | 0, _ => rfl
  | m + 1, x => by
    rw [parts, parts_eq p m, List.range_succ_eq_map, List.map_cons, List.map_map]
    congr 1
    · simp
    · apply List.map_congr_left
      intro i _
      show ((x.drop p).drop (i * p)).take p = (x.drop ((i + 1) * p)).take p
      rw [List.drop_drop, Nat.add_mul, Nat.one_mul, Nat.add_comm]
theorem parts_tks (p : Nat) : ∀ (l : List Nat), parts p l.length (tks p l) = l.map fun b => List.replicate p (48 + b)
  | [] => rfl
  | b :: l => by
    rw [List.length_cons, parts, tks_cons, List.take_left' (by simp), List.drop_left' (by simp), parts_tks p l]; rfl
theorem parts_flat (p : Nat) : ∀ (m : Nat) (x : List Nat), x.length = p * m → (parts p m x).flatten = x
  | 0, x, h => by
    have : x = [] := List.eq_nil_of_length_eq_zero (by simpa using h)
    rw [this]; rfl
  | m + 1, x, h => by
    rw [parts, List.flatten_cons, parts_flat p m _ (by rw [List.length_drop, h, Nat.mul_succ]; omega), List.take_append_drop]
theorem rowO_parts (F : Form) (x : List Nat) : rowO F x = (parts F.p (mB F) x).map bitO := by
  unfold rowO
  rw [parts_eq, List.map_map]; rfl
theorem row_len' (F : Form) (w : Nat) : (row F w).length = mB F := by rw [row_len]; rfl
theorem rowO_fr (F : Form) (w : Nat) : rowO F (fr F w) = (row F w).map some := by
  rw [rowO_parts]
  unfold fr
  rw [← row_len' F w, parts_tks, List.map_map]
  apply List.map_congr_left
  intro b _
  exact bitO_rep _ _ F.hp
theorem decode_fr (F : Form) (w : Nat) (h : w < 2 ^ F.b) : decode F (fr F w) = some w := by
  unfold decode
  rw [rowO_fr]
  have h1 : ¬ (none ∈ (row F w).map some ∨ ((row F w).map some)[0]? ≠ some (some 0)) := by
    rw [not_or]
    refine ⟨by simp, ?_⟩
    simp [row]
  rw [if_neg h1]
  have e : ((row F w).map some).map (·.getD 0) = row F w := by rw [List.map_map]; exact List.map_id' _
  rw [e]
  have hb := bitsF_len F w
  have e1 : ((row F w).drop 1).take F.b = bitsF F w := by
    show (bitsF F w ++ parityB F.q (bitsF F w) ++ List.replicate F.s 1).take F.b = _
    rw [List.append_assoc, List.take_left' hb]
  have e2 : (row F w).drop (1 + F.b) = parityB F.q (bitsF F w) ++ List.replicate F.s 1 := by
    rw [Nat.add_comm]
    show (bitsF F w ++ parityB F.q (bitsF F w) ++ List.replicate F.s 1).drop F.b = _
    rw [List.append_assoc, List.drop_left' hb]
  rw [e1, e2, if_neg (by simp), wordF_bits F w h]
theorem decode_some {F : Form} {x : List Nat} {w : Nat} (hx : x.length = lng F) (hb : ∀ c ∈ x, c = 48 ∨ c = 49) (h : decode F x = some w) : x = fr F w ∧ w < 2 ^ F.b := by
  unfold decode at h
  split at h
  · cases h
  rename_i h1
  rw [not_or] at h1
  obtain ⟨hn, h0⟩ := h1
  split at h
  · cases h
  rename_i h2
  have h2 : ((rowO F x).map (·.getD 0)).drop (1 + F.b) = parityB F.q ((((rowO F x).map (·.getD 0)).drop 1).take F.b) ++ List.replicate F.s 1 := by simpa using h2
  generalize hr : (rowO F x).map (·.getD 0) = r at h h2
  have hrl : r.length = mB F := by rw [← hr, List.length_map, rowO_len]
  have hm : mB F = 1 + F.b + parN F.q + F.s := rfl
  have hs := F.hs
  -- x is made of r
  have hxr : ∀ (m : Nat) (x : List Nat), x.length = F.p * m → (∀ c ∈ x, c = 48 ∨ c = 49) → none ∉ (parts F.p m x).map bitO → x = tks F.p (((parts F.p m x).map bitO).map (·.getD 0)) ∧ ∀ b ∈ ((parts F.p m x).map bitO).map (·.getD 0), b < 2 := by
    intro m
    induction m with
    | zero =>
      intro x hx _ _
      have : x = [] := List.eq_nil_of_length_eq_zero (by simpa using hx)
      rw [this]
      exact ⟨rfl, fun b hb => nomatch hb⟩
    | succ m ih =>
      intro x hx hb hn
      rw [parts, List.map_cons, List.map_cons] at *
      have hp := F.hp
      have hl : (x.take F.p).length = F.p := by rw [List.length_take, hx, Nat.mul_succ]; omega
      obtain ⟨i1, i2⟩ := ih (x.drop F.p) (by rw [List.length_drop, hx, Nat.mul_succ]; omega) (fun c hc => hb c (List.mem_of_mem_drop hc)) fun hm => hn (List.mem_cons_of_mem _ hm)
      cases e : bitO (x.take F.p) with
      | none => rw [e] at hn; exact absurd List.mem_cons_self hn
      | some v =>
        obtain ⟨j1, j2⟩ := bitO_some e fun c hc => hb c (List.mem_of_mem_take hc)
        rw [hl] at j1
        refine ⟨?_, fun b hbm => ?_⟩
        · rw [tks_cons, ← i1]
          show x = List.replicate F.p (48 + v) ++ x.drop F.p
          rw [← j1, List.take_append_drop]
        · rcases List.mem_cons.mp hbm with rfl | hbm
          · exact j2
          · exact i2 b hbm
  rw [rowO_parts] at hn hr
  obtain ⟨k1, k2⟩ := hxr (mB F) x (by rw [hx]; rfl) hb hn
  rw [hr] at k1 k2
  have hbl : ((r.drop 1).take F.b).length = F.b := by rw [List.length_take, List.length_drop]; omega
  have hb2 : ∀ b ∈ (r.drop 1).take F.b, b < 2 := fun b hb => k2 b (List.mem_of_mem_drop (List.mem_of_mem_take hb))
  have hw : w = wordF F ((r.drop 1).take F.b) := by simpa using h.symm
  have hbw : bitsF F w = (r.drop 1).take F.b := by rw [hw]; exact bits_wordF F _ hbl hb2
  have hr0 : r[0]? = some 0 := by
    rw [rowO_parts] at h0
    have h0 : ((parts F.p (mB F) x).map bitO)[0]? = some (some 0) := by simpa using h0
    rw [← hr, List.getElem?_map, h0]; rfl
  have hrow : r = row F w := by
    unfold row
    rw [hbw]
    cases r with
    | nil => cases hr0
    | cons a r =>
      have : a = 0 := by simpa using hr0
      subst this
      congr 1
      show r = (r.take F.b) ++ parityB F.q (r.take F.b) ++ List.replicate F.s 1
      have h3 : r.drop F.b = parityB F.q (r.take F.b) ++ List.replicate F.s 1 := by
        have := h2
        rw [Nat.add_comm] at this
        exact this
      rw [List.append_assoc, ← h3, List.take_append_drop]
  refine ⟨?_, by rw [hw]; exact wordF_lt F _ hbl hb2⟩
  rw [k1, hrow]; rfl
/-- the frame that begins at a place -/
theorem wordAt_fr (F : Form) (w : Nat) (h : w < 2 ^ F.b) (y : List Nat) : wordAt F (fr F w ++ y) 0 = some w := by
  unfold wordAt
  rw [List.drop_zero, List.take_left' (fr_len F w), fr_len, if_neg (Nat.lt_irrefl _), decode_fr F w h]
theorem wordAt_some {F : Form} {x : List Nat} {w : Nat} (hb : ∀ c ∈ x, c = 48 ∨ c = 49) (h : wordAt F x 0 = some w) : x = fr F w ++ x.drop (lng F) ∧ w < 2 ^ F.b ∧ lng F ≤ x.length := by
  unfold wordAt at h
  rw [List.drop_zero] at h
  split at h
  · cases h
  rename_i hl
  have hl2 : (x.take (lng F)).length = lng F := by rw [List.length_take] at hl ⊢; omega
  obtain ⟨h1, h2⟩ := decode_some hl2 (fun c hc => hb c (List.mem_of_mem_take hc)) h
  refine ⟨?_, h2, by rw [List.length_take] at hl2; omega⟩
  conv => lhs; rw [← List.take_append_drop (lng F) x, h1]
/-- what is sent of rows -/
def sentL (F : Form) : List (Nat × Nat) → Nat → List Nat
  | [], rest => List.replicate rest 49
  | p :: l, rest => List.replicate p.1 49 ++ (fr F p.2 ++ sentL F l rest)
theorem fr_head (F : Form) (w : Nat) : ∃ r, fr F w = 48 :: r := by
  unfold fr row
  rw [tks_cons]
  have hp := F.hp
  cases h : F.p with
  | zero => omega
  | succ p => exact ⟨_, by rw [List.replicate_succ]; rfl⟩
theorem rdF_ones (F : Form) : ∀ (g n : Nat) (x : List Nat) (gap : Nat), rdF F (n + g) (List.replicate g 49 ++ x) gap = rdF F n x (gap + g)
  | 0, n, x, gap => rfl
  | g + 1, n, x, gap => by
    rw [List.replicate_succ, List.cons_append]
    show (if (49 : Nat) = 49 then rdF F (n + g) (List.replicate g 49 ++ x) (gap + 1) else _) = _
    rw [if_pos rfl, rdF_ones F g n x (gap + 1)]
    congr 1; omega
theorem rdF_fr (F : Form) (w : Nat) (hw : w < 2 ^ F.b) (n : Nat) (x : List Nat) (gap : Nat) : rdF F (n + 1) (fr F w ++ x) gap = (rdF F n x 0).map fun p => ((gap, w) :: p.1, p.2) := by
  obtain ⟨r, hr⟩ := fr_head F w
  have h1 := wordAt_fr F w hw x
  have h2 : (fr F w ++ x).drop (lng F) = x := List.drop_left' (fr_len F w)
  rw [hr] at h1 h2 ⊢
  show (if (48 : Nat) = 49 then _ else match wordAt F (48 :: r ++ x) 0 with | none => none | some w => (rdF F n ((48 :: r ++ x).drop (lng F)) 0).map fun (p : List (Nat × Nat) × Nat) => ((gap, w) :: p.1, p.2)) = _
  rw [if_neg (by decide), h1, h2]
/-- more fuel does no harm -/
theorem rdF_more (F : Form) : ∀ (n : Nat) (x : List Nat) (gap : Nat), x.length < n → rdF F n x gap = rdF F (n + 1) x gap
  | 0, _, _, h => absurd h (Nat.not_lt_zero _)
  | n + 1, [], _, _ => rfl
  | n + 1, c :: r, gap, h => by
    have hl : r.length < n := by simpa using h
    show (if c = 49 then rdF F n r (gap + 1) else _) = (if c = 49 then rdF F (n + 1) r (gap + 1) else _)
    split
    · exact rdF_more F n r (gap + 1) hl
    · cases wordAt F (c :: r) 0 with
      | none => rfl
      | some w =>
        have := lng_pos F
        show (rdF F n _ 0).map _ = (rdF F (n + 1) _ 0).map _
        rw [rdF_more F n ((c :: r).drop (lng F)) 0 (by rw [List.length_drop, List.length_cons]; omega)]
theorem rdF_fuel (F : Form) (x : List Nat) (gap : Nat) : ∀ (k n : Nat), x.length < n → rdF F (n + k) x gap = rdF F n x gap
  | 0, _, _ => rfl
  | k + 1, n, h => by
    rw [show n + (k + 1) = (n + k) + 1 from rfl, ← rdF_more F (n + k) x gap (by omega), rdF_fuel F x gap k n h]
def okW (F : Form) (l : List (Nat × Nat)) : Prop := ∀ p ∈ l, p.2 < 2 ^ F.b
theorem rdF_sent (F : Form) : ∀ (l : List (Nat × Nat)) (rest n gap : Nat), okW F l → (sentL F l rest).length < n → rdF F n (sentL F l rest) gap = match l with
    | [] => some ([], gap + rest)
    | p :: l => some ((gap + p.1, p.2) :: l, rest)
  | [], rest, n, gap, _, h => by
    rw [sentL, List.length_replicate] at h
    obtain ⟨k, rfl⟩ : ∃ k, n = k + 1 + rest := ⟨n - 1 - rest, by omega⟩
    have := rdF_ones F rest (k + 1) [] gap
    rw [List.append_nil] at this
    rw [sentL, this]; rfl
  | (g, w) :: l, rest, n, gap, hw, h => by
    have hw1 : w < 2 ^ F.b := hw (g, w) List.mem_cons_self
    rw [sentL] at h ⊢
    rw [List.length_append, List.length_append, List.length_replicate, fr_len] at h
    have := lng_pos F
    obtain ⟨k, rfl⟩ : ∃ k, n = (k + 1) + g := ⟨n - 1 - g, by omega⟩
    rw [rdF_ones, rdF_fr F w hw1, rdF_sent F l rest k 0 (fun p hp => hw p (List.mem_cons_of_mem _ hp)) (by omega)]
    cases l with
    | nil => simp
    | cons p l => simp
/-- what is sent is read -/
theorem readF_sent (F : Form) (l : List (Nat × Nat)) (rest : Nat) (hl : l ≠ []) (hw : okW F l) : readF F (sentL F l rest) = some (l, rest) := by
  unfold readF
  rw [rdF_sent F l rest _ 0 hw (Nat.lt_succ_self _)]
  cases l with
  | nil => exact absurd rfl hl
  | cons p l => simp
theorem rdF_some {F : Form} : ∀ (n : Nat) (x : List Nat) (gap : Nat) {p : List (Nat × Nat) × Nat}, (∀ c ∈ x, c = 48 ∨ c = 49) → rdF F n x gap = some p → List.replicate gap 49 ++ x = sentL F p.1 p.2 ∧ okW F p.1
  | 0, _, _, _, _, h => by cases h
  | n + 1, [], gap, p, _, h => by
    cases h
    exact ⟨by simp [sentL], fun q hq => nomatch hq⟩
  | n + 1, c :: r, gap, p, hb, h => by
    have h : (if c = 49 then rdF F n r (gap + 1) else match wordAt F (c :: r) 0 with
      | none => none
      | some w => (rdF F n ((c :: r).drop (lng F)) 0).map fun p => ((gap, w) :: p.1, p.2)) = some p := h
    split at h
    · rename_i hc
      subst hc
      obtain ⟨h1, h2⟩ := rdF_some n r (gap + 1) (fun c hc => hb c (List.mem_cons_of_mem _ hc)) h
      refine ⟨?_, h2⟩
      rw [← h1, List.replicate_succ']
      simp
    · cases hw : wordAt F (c :: r) 0 with
      | none => rw [hw] at h; cases h
      | some w =>
        rw [hw] at h
        obtain ⟨q, hq, rfl⟩ := Option.map_eq_some_iff.mp h
        obtain ⟨w1, w2, w3⟩ := wordAt_some hb hw
        obtain ⟨h1, h2⟩ := rdF_some n ((c :: r).drop (lng F)) 0 (fun c hc => hb c (List.mem_of_mem_drop hc)) hq
        refine ⟨?_, fun z hz => ?_⟩
        · show _ = List.replicate gap 49 ++ (fr F w ++ sentL F q.1 q.2)
          rw [← h1]
          show _ = List.replicate gap 49 ++ (fr F w ++ (c :: r).drop (lng F))
          rw [← w1]
        · rcases List.mem_cons.mp hz with rfl | hz
          · exact w2
          · exact h2 z hz
/-- what is read was sent -/
theorem readF_some {F : Form} {x : List Nat} {l : List (Nat × Nat)} {rest : Nat} (hb : ∀ c ∈ x, c = 48 ∨ c = 49) (h : readF F x = some (l, rest)) : x = sentL F l rest ∧ l ≠ [] ∧ okW F l := by
  unfold readF at h
  cases hr : rdF F (x.length + 1) x 0 with
  | none => rw [hr] at h; cases h
  | some p =>
    rw [hr] at h
    dsimp only at h
    split at h
    · cases h
    · rename_i hp
      cases h
      obtain ⟨h1, h2⟩ := rdF_some _ _ _ hb hr
      exact ⟨h1, hp, h2⟩
theorem sentL_bit (F : Form) : ∀ (l : List (Nat × Nat)) (rest : Nat), ∀ c ∈ sentL F l rest, c = 48 ∨ c = 49
  | [], rest, c, h => .inr (List.mem_replicate.mp h).2
  | p :: l, rest, c, h => by
    rcases List.mem_append.mp h with h | h
    · exact .inr (List.mem_replicate.mp h).2
    · rcases List.mem_append.mp h with h | h
      · exact fr_bit F _ c h
      · exact sentL_bit F l rest c h
theorem sentL_len (F : Form) : ∀ (l : List (Nat × Nat)) (rest : Nat), (sentL F l rest).length = (l.map (·.1)).sum + l.length * lng F + rest
  | [], rest => by simp [sentL]
  | p :: l, rest => by
    rw [sentL, List.length_append, List.length_append, List.length_replicate, fr_len, sentL_len F l rest]
    simp [Nat.add_mul]; omega
end Wi

/-! Samples drawn by the laws from k17 on. -/
namespace Wi
local macro_rules
  | `(tactic| simp! [$ls,*]) => `(tactic| simp -implicitDefEqProofs (maxSteps := 10000000) (disch := first | assumption | (simp -implicitDefEqProofs only [dp_non, dp_bl, dp_int, dp_str, dp_tup, dp_lst, dpl_nil, dpl_cons, fd_dep, ref_dep, n_dep, dep_nL, depL_nL, len_nL, len_repL, List.length_append, List.length_cons, List.length_nil, List.length_replicate, List.length_reverse, List.length_set, List.length_map, List.length_range, Nat.reduceAdd, Nat.reduceMul, Nat.reduceLT, Nat.reduceLeDiff, Nat.zero_le, true_or, or_true, List.getElem?_cons_succ, List.getElem?_cons_zero]; done) | omega | (simp -implicitDefEqProofs only [dp_non, dp_bl, dp_int, dp_str, dp_tup, dp_lst, dpl_nil, dpl_cons, fd_dep, ref_dep, n_dep, dep_nL, depL_nL, len_nL, len_repL, List.length_append, List.length_cons, List.length_nil, List.length_replicate, List.length_reverse, List.length_set, List.length_map, List.length_range, Nat.reduceAdd, Nat.reduceMul]; omega)) only [rdK_scr, frz_scr, pkK_scr, pkK_shr, lstK_shr, appK_shr, town_init', List.nil_append, q_bok, q_berr, q_bexc, q_bite, q_onB, q_nx, q_rt, q_ct, q_fz, q_frv, q_frfl, q_frro, q_frshr, q_frfn, q_oo, q_on, q_oite, q_and, q_or, n_eq, k_0, k_1, k_2, k_3, k_4, k_5, k_6, k_7, k_8, k_9, k_10, k_11, k_12, k_13, k_14, k_15, k_16, k_20, k_30, k_31, k_32, k_33, k_40, k_41, k_59, k_60, k_61, k_63, k_64, k_70, k_80, k_90, k_100, k_101, k_120, k_150, k_180, k_190, k_194, k_195, k_200, k_201, k_7919, k_9973, k_9999, k_12345, k_100000, k_104729, k_999961, k_999979, k_999983, k_1103515245, k_2147483647, e_const, e_glob, e_slot', rdK_v, rdK_fl, rdK_ro, rdK_shr, rdK_exc, e_bin, e_neg', ngK_n, partI', ptK_n, ptK_i, ptK_t, nb_non, nb_int, nb_slot, nb_bin, nb_neg, nb_call, nb_subS, nb_sub, nb_lenS, cutS, cutT, cutLs, cut_nn, cut_0n, cut_n0, cut_0m, e_not, e_and, e_or, e_ite, e_cmp, e_cmp2, e_cmpS, e_inS, e_tup, e_lst, q_mm0, q_mm1, q_om, e_pick, pick_par3, e_call, e_sel', selK_n, selN_s, e_bi, e_lenS, e_join, e_meth, e_sub, e_subS, e_cut, e_rev, e_isin, es_nil, es_cons, i_val, i_range1', i_range2', i_range3', i_enum, i_zip, x_nil, x_cons, x_set, x_shr, x_unp, x_par, x_expr, x_app, x_ext, x_put, x_ite, x_for', x_while', forB_nil, q_set1, q_setN, q_puts0, q_puts, q_putsR0, q_putsR, x_ret, x_retS', rsK_s, x_raise, x_cont, x_pass, x_try', tryK_ok, tryK_exc0, tryK_ite, handed', handedC, hdK_ok, put_if, q_callR, q_eR1, q_eR2, q_eR3, q_eRi, q_e1, q_e2, q_e3, q_ei, n_add, n_mul, n_sub, n_mod, n_div, n_lt, n_le, n_gt, n_ge, n_deq, n_dep, n_ty, n_tyb, n_tys, n_tyt, n_tyl, t_nil, t_cons, deq_refl, ref_eq, ref_deq, ref_dep, ty_int_non, ty_int_bl, ty_int_str, ty_int_tup, ty_int_lst, ty_int_int, ty_bool_non, ty_bool_bl, ty_bool_str, ty_bool_tup, ty_bool_lst, ty_bool_int, ty_str_non, ty_str_bl, ty_str_str, ty_str_tup, ty_str_lst, ty_str_int, ty_tuple_non, ty_tuple_bl, ty_tuple_str, ty_tuple_tup, ty_tuple_lst, ty_tuple_int, ty_list_non, ty_list_bl, ty_list_str, ty_list_tup, ty_list_lst, ty_list_int, q_eq, q_ne, q_in, q_inl, q_nin, q_ninl, dep_nL, fd_0, fd_1, fd_2, fd_3, fd_4, fd_t, fd_seq, fd_len, fd_dep, ord_low, ord_in, par_in, par_none, par_even, par_odd, n_addS, n_addT, n_addL, n_mulS, n_mulL, n_sum, n_len, n_intb, n_inti, n_tupl, n_lstt, n_lstl, n_str, revD_l, nL_rev, nL_app, app1', appK_fl, ext1', extK_fl, lstAt', lstK_fl, q_isN, q_notN, nn_nI, nn_non, nn_bl, nn_str, nn_tup, nn_lst, n_subT, n_subL, n_subF, n_subS, rgK_n, rg2K_n, ↓reduceIte, Bool.false_eq_true, List.length_map, List.length_cons, List.length_nil, List.getElem?_cons_zero, List.getElem?_cons_succ, List.getElem?_nil, List.set_cons_zero, List.set_cons_succ, Option.map_some, Option.map_none, Option.bind_some, Option.bind_none, Option.isSome_some, Nat.reduceAdd, Nat.reduceLT, Nat.reduceLeDiff, Nat.reduceSub, Nat.reduceMul, Nat.reduceEqDiff, decide_true, decide_false, Bool.true_and, Bool.and_true, Bool.false_and, Bool.and_false, Bool.or_true, Bool.true_or, Bool.false_or, Bool.or_false, Bool.not_true, Bool.not_false, peek', pkK_v, pkK_fl, pkK_ro, len_s, len_t, len_l, len_f, len_r, seq_t, seq_l, Bool.decide_eq_true, unV, $ls,*])
def mdL (F : Form) (l : List (Nat × Nat)) : List Nat := (l.map fun p => List.replicate p.1 49 ++ fr F p.2).flatten
theorem mdL_sent (F : Form) (l : List (Nat × Nat)) (rest : Nat) : mdL F l ++ List.replicate rest 49 = sentL F l rest := by
  induction l with
  | nil => rfl
  | cons p l ih =>
    rw [sentL, ← ih]
    simp [mdL]
theorem mdL_snoc (F : Form) (l : List (Nat × Nat)) (g w : Nat) : mdL F (l ++ [(g, w)]) = mdL F l ++ (List.replicate g 49 ++ fr F w) := by simp [mdL]
theorem rwD_len (l : List (Nat × Nat)) : (rwD l).length = l.length := by simp [rwD]
theorem rwD_snoc (l : List (Nat × Nat)) (g w : Nat) : rwD l ++ [.tup [nI g, nI w]] = rwD (l ++ [(g, w)]) := by simp [rwD]
theorem rwD_nil (l : List (Nat × Nat)) : deq (.tup (rwD l)) (.tup []) = decide (l = []) := by
  cases l with
  | nil => rfl
  | cons a l => simp [rwD, deq, deqL]
theorem top_at (F : Form) : ([nI 16, nI 32, nI 64] : List D)[F.b - 4]? = some (nI (2 ^ F.b)) := by
  have h : F.b = 4 ∨ F.b = 5 ∨ F.b = 6 := by have := F.hb; have := F.hb6; omega
  rcases h with h | h | h <;> rw [h] <;> rfl
theorem pk_lt (ns : List Int) (t : Nat) (l : List Nat) (n : Nat) (h0 : 0 < l.length) (h : ∀ x ∈ l, 0 < x ∧ x ≤ n) : 0 < pk ns t l ∧ pk ns t l ≤ n := h _ (pk_mem ns t l h0)
theorem samples2_loop (k : Nat) (ns : List Int) (F : Form) (most : Nat) (hm : most ≤ 1000) : ∀ (l : List Nat) (t : Nat) (rows : List (Nat × Nat)) (x4 x8 x9 x10 : Option Rv), okW F rows → (mdL F rows).length ≤ most → (∀ p ∈ rows, p.1 < 12) → rows.length + l.length ≤ 100 → t + 3 * l.length < 9000 →
    ∃ rows' x4' x8' x9' x10', forB (callN MT (k + 5)) [4] true l_law_samples_2_0 (nL l) ⟨[some (scr ns), some (.shr 0), some (.v F.d), some (.v (nI most)), x4, none, some (.v (.str (mdL F rows))), some (.v (.tup (rwD rows))), x8, x9, x10], town t⟩ =
      .ok .nx ⟨[some (scr ns), some (.shr 0), some (.v F.d), some (.v (nI most)), x4', none, some (.v (.str (mdL F rows'))), some (.v (.tup (rwD rows'))), x8', x9', x10'], town (t + 3 * l.length)⟩ ∧
      okW F rows' ∧ (mdL F rows').length ≤ most ∧ (∀ p ∈ rows', p.1 < 12) ∧ rows'.length ≤ rows.length + l.length
  | [], t, rows, x4, x8, x9, x10, h1, h2, h3, h4, h5 => ⟨rows, x4, x8, x9, x10, rfl, h1, h2, h3, by simp⟩
  | a :: l, t, rows, x4, x8, x9, x10, h1, h2, h3, h4, h5 => by
    rw [List.length_cons] at h4 h5
    have hb := F.hb
    have hb6 := F.hb6
    have ll := lng_le F
    have p1 := fun k => pick_enc nI [1, 4, 12] (xs := [nI 1, nI 4, nI 12]) rfl k ns t (by omega) (by decide)
    obtain ⟨pk0, pk1⟩ := pk_lt ns t [1, 4, 12] 12 (by decide) (by decide)
    generalize pk ns t [1, 4, 12] = pg at p1 pk0 pk1
    have d1 := fun k => draw_ok k ns (t + 1) pg (by omega) pk0
    have g1 := dr_lt ns (t + 1) pk0
    generalize dr ns (t + 1) pg = gap at d1 g1
    have pw : 0 < 2 ^ F.b := Nat.two_pow_pos _
    have d2 := fun k => draw_ok k ns (t + 2) (2 ^ F.b) (by omega) pw
    have w1 := dr_lt ns (t + 2) pw
    generalize dr ns (t + 2) (2 ^ F.b) = w at d2 w1
    have hf := fr_len F w
    have hrl := rwD_len rows
    by_cases hle : (mdL F rows).length + (gap + lng F) ≤ most
    · obtain ⟨rows', x4', x8', x9', x10', e, r1, r2, r3, r4⟩ := samples2_loop k ns F most hm l (t + 3) (rows ++ [(gap, w)]) (some (.v (nI a))) (some (.v (nI gap))) (some (.v (nI w))) (some (.v (.str (List.replicate gap 49 ++ fr F w))))
        (fun p hp => by rcases List.mem_append.mp hp with hp | hp; exact h1 p hp; rw [List.mem_singleton.mp hp]; exact w1)
        (by rw [mdL_snoc]; simp [hf]; omega)
        (fun p hp => by rcases List.mem_append.mp hp with hp | hp; exact h3 p hp; rw [List.mem_singleton.mp hp]; show gap < 12; omega) (by simp; omega) (by omega)
      refine ⟨rows', x4', x8', x9', x10', ?_, r1, r2, r3, by simp only [List.length_append, List.length_cons, List.length_nil] at r4 ⊢; omega⟩
      rw [List.length_cons, show t + 3 * (l.length + 1) = t + 3 + 3 * l.length by omega]
      refine (for_step (fl := .nx) (s1 := ⟨[some (scr ns), some (.shr 0), some (.v F.d), some (.v (nI most)), some (.v (nI a)), none, some (.v (.str (mdL F rows))), some (.v (.tup (rwD rows))), x8, x9, x10], town t⟩) rfl ?_ rfl).trans e
      unfold l_law_samples_2_0
      simp! [rdK_scr, frz_scr, p1, d1, d2, top_at, law_frame2_ok, repL_one, List.length_append, List.length_replicate, hf, hle, rwD_snoc, mdL_snoc]
    · obtain ⟨rows', x4', x8', x9', x10', e, r1, r2, r3, r4⟩ := samples2_loop k ns F most hm l (t + 3) rows (some (.v (nI a))) (some (.v (nI gap))) (some (.v (nI w))) (some (.v (.str (List.replicate gap 49 ++ fr F w)))) h1 h2 h3 (by omega) (by omega)
      refine ⟨rows', x4', x8', x9', x10', ?_, r1, r2, r3, by rw [List.length_cons]; omega⟩
      rw [List.length_cons, show t + 3 * (l.length + 1) = t + 3 + 3 * l.length by omega]
      refine (for_step (fl := .nx) (s1 := ⟨[some (scr ns), some (.shr 0), some (.v F.d), some (.v (nI most)), some (.v (nI a)), none, some (.v (.str (mdL F rows))), some (.v (.tup (rwD rows))), x8, x9, x10], town t⟩) rfl ?_ rfl).trans e
      unfold l_law_samples_2_0
      simp! [rdK_scr, frz_scr, p1, d1, d2, top_at, law_frame2_ok, repL_one, List.length_append, List.length_replicate, hf, hle]
/-- samples drawn: rows of the form, a rest -/
theorem samples2_ok (k : Nat) (ns : List Int) (F : Form) (most : Nat) (hm : most ≤ 1000) (h60 : 60 ≤ most) (t : Nat) (ht : t < 8000) : ∃ rows rest t', callN MT (k + 6) 130 [scr ns, .shr 0, .v F.d, .v (nI most)] (town t) = .ok (.v (.tup [.str (sentL F rows rest), .tup (rwD rows), nI rest])) (town t') ∧
    rows ≠ [] ∧ okW F rows ∧ rest < 9 ∧ (mdL F rows).length ≤ most ∧ (∀ p ∈ rows, p.1 < 12) ∧ rows.length ≤ 4 ∧ t' ≤ t + 14 := by
  have d0 := fun k => draw_ok k ns t 4 (by omega) (by decide)
  have r0 := dr_lt ns t (m := 4) (by decide)
  generalize dr ns t 4 = n at d0 r0
  obtain ⟨rows, x4, x8, x9, x10, e, r1, r2, r3, r4⟩ := samples2_loop k ns F most hm (List.range (1 + n)) (t + 1) [] none none none none (fun _ h => nomatch h) (by show 0 ≤ _; omega) (fun _ h => nomatch h) (by simp; omega) (by simp; omega)
  rw [List.length_range] at e r4
  have d1 := fun k => draw_ok k ns (t + 1 + 3 * (1 + n)) 9 (by omega) (by decide)
  have r5 := dr_lt ns (t + 1 + 3 * (1 + n)) (m := 9) (by decide)
  generalize dr ns (t + 1 + 3 * (1 + n)) 9 = rest at d1 r5
  have e0 : D.tup (rwD []) = .tup [] := rfl
  have e1 : D.str (mdL F []) = .str [] := rfl
  rw [e0, e1] at e
  have ll := lng_le F
  have hf := fr_len F 1
  by_cases hr : rows = []
  · subst hr
    refine ⟨[(0, 1)], rest, t + 1 + 3 * (1 + n) + 1, ?_, by simp, ?_, r5, ?_, ?_, by simp, by omega⟩
    · rw [u_law_samples_2]; unfold b_law_samples_2
      have e2 : D.tup [.tup [nI 0, nI 1]] = .tup (rwD [(0, 1)]) := rfl
      have e3 : fr F 1 ++ List.replicate rest 49 = sentL F [(0, 1)] rest := by simp [sentL]
      rw [e0, e1] at e
      simp! [rdK_scr, frz_scr, d0, e, deq_refl, law_frame2_ok, d1, repL_one, e2, e3]
    · intro p hp
      rw [List.mem_singleton.mp hp]
      have : 2 ^ 4 ≤ 2 ^ F.b := Nat.pow_le_pow_right (by decide) F.hb
      show 1 < 2 ^ F.b
      omega
    · simp [mdL, hf]; omega
    · intro p hp
      rw [List.mem_singleton.mp hp]; decide
  · refine ⟨rows, rest, t + 1 + 3 * (1 + n) + 1, ?_, hr, r1, r5, r2, r3, by simp at r4; omega, by omega⟩
    rw [u_law_samples_2]; unfold b_law_samples_2
    simp! [rdK_scr, frz_scr, d0, e, rwD_nil, hr, d1, repL_one, mdL_sent]
end Wi

/-! Orders, paces. -/
namespace Wi
local macro_rules
  | `(tactic| simp! [$ls,*]) => `(tactic| simp -implicitDefEqProofs (maxSteps := 10000000) (disch := first | assumption | (simp -implicitDefEqProofs only [dp_non, dp_bl, dp_int, dp_str, dp_tup, dp_lst, dpl_nil, dpl_cons, fd_dep, ref_dep, n_dep, dep_nL, depL_nL, len_nL, len_repL, List.length_append, List.length_cons, List.length_nil, List.length_replicate, List.length_reverse, List.length_set, List.length_map, List.length_range, Nat.reduceAdd, Nat.reduceMul, Nat.reduceLT, Nat.reduceLeDiff, Nat.zero_le, true_or, or_true, List.getElem?_cons_succ, List.getElem?_cons_zero]; done) | omega | (simp -implicitDefEqProofs only [dp_non, dp_bl, dp_int, dp_str, dp_tup, dp_lst, dpl_nil, dpl_cons, fd_dep, ref_dep, n_dep, dep_nL, depL_nL, len_nL, len_repL, List.length_append, List.length_cons, List.length_nil, List.length_replicate, List.length_reverse, List.length_set, List.length_map, List.length_range, Nat.reduceAdd, Nat.reduceMul]; omega)) only [rdK_scr, frz_scr, pkK_scr, pkK_shr, lstK_shr, appK_shr, town_init', List.nil_append, q_bok, q_berr, q_bexc, q_bite, q_onB, q_nx, q_rt, q_ct, q_fz, q_frv, q_frfl, q_frro, q_frshr, q_frfn, q_oo, q_on, q_oite, q_and, q_or, n_eq, k_0, k_1, k_2, k_3, k_4, k_5, k_6, k_7, k_8, k_9, k_10, k_11, k_12, k_13, k_14, k_15, k_16, k_20, k_30, k_31, k_32, k_33, k_40, k_41, k_59, k_60, k_61, k_63, k_64, k_70, k_80, k_90, k_100, k_101, k_120, k_150, k_180, k_190, k_194, k_195, k_200, k_201, k_7919, k_9973, k_9999, k_12345, k_100000, k_104729, k_999961, k_999979, k_999983, k_1103515245, k_2147483647, e_const, e_glob, e_slot', rdK_v, rdK_fl, rdK_ro, rdK_shr, rdK_exc, e_bin, e_neg', ngK_n, partI', ptK_n, ptK_i, ptK_t, nb_non, nb_int, nb_slot, nb_bin, nb_neg, nb_call, nb_subS, nb_sub, nb_lenS, cutS, cutT, cutLs, cut_nn, cut_0n, cut_n0, cut_0m, e_not, e_and, e_or, e_ite, e_cmp, e_cmp2, e_cmpS, e_inS, e_tup, e_lst, q_mm0, q_mm1, q_om, e_pick, pick_par3, e_call, e_sel', selK_n, selN_s, e_bi, e_lenS, e_join, e_meth, e_sub, e_subS, e_cut, e_rev, e_isin, es_nil, es_cons, i_val, i_range1', i_range2', i_range3', i_enum, i_zip, x_nil, x_cons, x_set, x_shr, x_unp, x_par, x_expr, x_app, x_ext, x_put, x_ite, x_for', x_while', forB_nil, q_set1, q_setN, q_puts0, q_puts, q_putsR0, q_putsR, x_ret, x_retS', rsK_s, x_raise, x_cont, x_pass, x_try', tryK_ok, tryK_exc0, tryK_ite, handed', handedC, hdK_ok, put_if, q_callR, q_eR1, q_eR2, q_eR3, q_eRi, q_e1, q_e2, q_e3, q_ei, n_add, n_mul, n_sub, n_mod, n_div, n_lt, n_le, n_gt, n_ge, n_deq, n_dep, n_ty, n_tyb, n_tys, n_tyt, n_tyl, t_nil, t_cons, deq_refl, ref_eq, ref_deq, ref_dep, ty_int_non, ty_int_bl, ty_int_str, ty_int_tup, ty_int_lst, ty_int_int, ty_bool_non, ty_bool_bl, ty_bool_str, ty_bool_tup, ty_bool_lst, ty_bool_int, ty_str_non, ty_str_bl, ty_str_str, ty_str_tup, ty_str_lst, ty_str_int, ty_tuple_non, ty_tuple_bl, ty_tuple_str, ty_tuple_tup, ty_tuple_lst, ty_tuple_int, ty_list_non, ty_list_bl, ty_list_str, ty_list_tup, ty_list_lst, ty_list_int, q_eq, q_ne, q_in, q_inl, q_nin, q_ninl, dep_nL, fd_0, fd_1, fd_2, fd_3, fd_4, fd_t, fd_seq, fd_len, fd_dep, ord_low, ord_in, par_in, par_none, par_even, par_odd, n_addS, n_addT, n_addL, n_mulS, n_mulL, n_sum, n_len, n_intb, n_inti, n_tupl, n_lstt, n_lstl, n_str, revD_l, nL_rev, nL_app, app1', appK_fl, ext1', extK_fl, lstAt', lstK_fl, q_isN, q_notN, nn_nI, nn_non, nn_bl, nn_str, nn_tup, nn_lst, n_subT, n_subL, n_subF, n_subS, rgK_n, rg2K_n, ↓reduceIte, Bool.false_eq_true, List.length_map, List.length_cons, List.length_nil, List.getElem?_cons_zero, List.getElem?_cons_succ, List.getElem?_nil, List.set_cons_zero, List.set_cons_succ, Option.map_some, Option.map_none, Option.bind_some, Option.bind_none, Option.isSome_some, Nat.reduceAdd, Nat.reduceLT, Nat.reduceLeDiff, Nat.reduceSub, Nat.reduceMul, Nat.reduceEqDiff, decide_true, decide_false, Bool.true_and, Bool.and_true, Bool.false_and, Bool.and_false, Bool.or_true, Bool.true_or, Bool.false_or, Bool.or_false, Bool.not_true, Bool.not_false, peek', pkK_v, pkK_fl, pkK_ro, len_s, len_t, len_l, len_f, len_r, seq_t, seq_l, Bool.decide_eq_true, unV, $ls,*])
def otherF (F : Form) : Form := { F with lo := !F.lo }
def withP (F : Form) (n : Nat) (h : 1 ≤ n) (h6 : n ≤ 6) : Form := { F with p := n, hp := h, hp6 := h6 }
/-- a form of as many bits alone -/
def bareF (F : Form) : Form := ⟨1, F.b, true, .none, 1, by omega, by omega, F.hb, F.hb6, by omega, by omega⟩
theorem fd_cut2 (F : Form) : cutD (.v F.d) none (some ((2 : Nat) : Int)) = some (.v (.tup [nI F.p, nI F.b])) := rfl
theorem fd_cut3 (F : Form) : cutD (.v F.d) (some ((3 : Nat) : Int)) none = some (.v (.tup [.str (parS F.q), nI F.s])) := rfl
theorem fd_cut1 (F : Form) : cutD (.v F.d) (some ((1 : Nat) : Int)) none = some (.v (.tup [nI F.b, .str (ordS F.lo), .str (parS F.q), nI F.s])) := rfl
theorem fd_deq (F G : Form) : deq F.d G.d = (decide (F.p = G.p) && (decide (F.b = G.b) && ((ordS F.lo == ordS G.lo) && ((parS F.q == parS G.q) && decide (F.s = G.s))))) := by
  unfold Form.d
  simp only [deq, deqL, n_deq, Bool.and_true]
theorem other_order_ok (k : Nat) (F : Form) (sh : Sh) : callN MT (k + 4) 179 [.v F.d] sh = .ok (.v (otherF F).d) sh := by
  rw [u_other_order]; unfold b_other_order
  cases h : F.lo
  · simp! [need_form_ok, h, fd_cut2, fd_cut3]
    have : D.tup ([nI F.p, nI F.b] ++ [.str [108, 111, 119]] ++ [.str (parS F.q), nI F.s]) = (otherF F).d := by
      unfold otherF Form.d; rw [h]; rfl
    rw [this]
  · simp! [need_form_ok, h, fd_cut2, fd_cut3]
    have : D.tup ([nI F.p, nI F.b] ++ [.str [104, 105, 103, 104]] ++ [.str (parS F.q), nI F.s]) = (otherF F).d := by
      unfold otherF Form.d; rw [h]; rfl
    rw [this]
theorem otherF_other (F : Form) : otherF (otherF F) = F := by
  unfold otherF; simp
/-- a word's bits the other way round -/
def turnW (b w : Nat) : Nat := (bitsLo b w).foldl (fun a x => 2 * a + x) 0
theorem turnW_lo (b w : Nat) : turnW b w = wordLo (bitsLo b w).reverse := by unfold turnW wordLo; rw [List.reverse_reverse]
theorem turnW_lt (b w : Nat) : turnW b w < 2 ^ b := by
  rw [turnW_lo]
  have := wordLo_lt (bitsLo b w).reverse fun x hx => bitsLo_lt b w x (List.mem_reverse.mp hx)
  rwa [List.length_reverse, bitsLo_len] at this
theorem bits_turnW (b w : Nat) : bitsLo b (turnW b w) = (bitsLo b w).reverse := by
  rw [turnW_lo]
  have := bits_wordLo (bitsLo b w).reverse fun x hx => bitsLo_lt b w x (List.mem_reverse.mp hx)
  rwa [List.length_reverse, bitsLo_len] at this
theorem turnW_turn (b w : Nat) (h : w < 2 ^ b) : turnW b (turnW b w) = w := by
  rw [turnW_lo, bits_turnW, List.reverse_reverse, wordLo_bits b w h]
theorem turned_word_ok (k : Nat) (F : Form) (w : Nat) (hw : w < 2 ^ F.b) (sh : Sh) : callN MT (k + 4) 180 [.v (nI F.b), .v (nI w)] sh = .ok (.v (nI (turnW F.b w))) sh := by
  rw [u_turned_word]; unfold b_turned_word
  have e : D.tup [nI 1, nI F.b, .str [108, 111, 119], .str [110, 111, 110, 101], nI 1] = (bareF F).d := rfl
  have h1 := is_word_ok (k + 1) (bareF F) w sh
  have hw2 : w ≤ 2 ^ (bareF F).b - 1 := by show w ≤ 2 ^ F.b - 1; omega
  have hlo : (bareF F).lo = true := rfl
  have eb : bitsF (bareF F) w = bitsLo F.b w := rfl
  have ew : wordF (bareF F) (bitsLo F.b w).reverse = turnW F.b w := by rw [turnW_lo]; rfl
  simp! [e, need_form_ok, h1, hw2, bits_of_ok, hlo, eb, word_of_ok, ew]
theorem with_pace_ok (k : Nat) (F : Form) (n : Nat) (h : 1 ≤ n) (h6 : n ≤ 6) (sh : Sh) : callN MT (k + 4) 181 [.v F.d, .v (nI n)] sh = .ok (.v (withP F n h h6).d) sh := by
  rw [u_with_pace]; unfold b_with_pace
  have e : D.tup ([nI n] ++ [nI F.b, .str (ordS F.lo), .str (parS F.q), nI F.s]) = (withP F n h h6).d := rfl
  simp! [need_form_ok, fd_cut1, e, is_whole_ok, h, h6]
theorem row_other (F : Form) (w : Nat) : row (otherF F) (turnW F.b w) = row F w := by
  have e : bitsF (otherF F) (turnW F.b w) = bitsF F w := by
    unfold bitsF otherF
    show (if (!F.lo) = true then bitsLo F.b (turnW F.b w) else (bitsLo F.b (turnW F.b w)).reverse) = _
    rw [bits_turnW]
    cases F.lo <;> simp
  unfold row
  rw [e]; rfl
theorem fr_other (F : Form) (w : Nat) : fr (otherF F) (turnW F.b w) = fr F w := by
  unfold fr
  rw [row_other]; rfl
theorem lng_other (F : Form) : lng (otherF F) = lng F := rfl
def turnR (F : Form) (l : List (Nat × Nat)) : List (Nat × Nat) := l.map fun p => (p.1, turnW F.b p.2)
theorem sentL_other (F : Form) : ∀ (l : List (Nat × Nat)) (rest : Nat), sentL (otherF F) (turnR F l) rest = sentL F l rest
  | [], _ => rfl
  | p :: l, rest => by
    show List.replicate p.1 49 ++ (fr (otherF F) (turnW F.b p.2) ++ sentL (otherF F) (turnR F l) rest) = _
    rw [fr_other, sentL_other F l rest]; rfl
theorem okW_turn (F : Form) (l : List (Nat × Nat)) : okW (otherF F) (turnR F l) := by
  intro p hp
  obtain ⟨q, _, rfl⟩ := List.mem_map.mp hp
  exact turnW_lt F.b q.2
theorem read_other (F : Form) (l : List (Nat × Nat)) (rest : Nat) (hl : l ≠ []) : readF (otherF F) (sentL F l rest) = some (turnR F l, rest) := by
  rw [← sentL_other]
  exact readF_sent (otherF F) _ rest (by simpa [turnR] using hl) (okW_turn F l)
theorem deq_readD (F : Form) (l : List (Nat × Nat)) (rest : Nat) : readD (some (l, rest)) = .tup [.tup (rwD l), nI rest] := rfl
theorem depL_rw : ∀ l : List (Nat × Nat), D.depL (rwD l) ≤ 1
  | [] => by show 0 ≤ 1; omega
  | p :: l => by
    show max (D.tup [nI p.1, nI p.2]).dep (D.depL (rwD l)) ≤ 1
    have := depL_rw l
    have : (D.tup [nI p.1, nI p.2]).dep = 1 := rfl
    omega
end Wi

/-! Numbered samples: how many there are; refusals. -/
namespace Wi
local macro_rules
  | `(tactic| simp! [$ls,*]) => `(tactic| simp -implicitDefEqProofs (maxSteps := 10000000) (disch := first | assumption | (simp -implicitDefEqProofs only [dp_non, dp_bl, dp_int, dp_str, dp_tup, dp_lst, dpl_nil, dpl_cons, fd_dep, ref_dep, n_dep, dep_nL, depL_nL, len_nL, len_repL, List.length_append, List.length_cons, List.length_nil, List.length_replicate, List.length_reverse, List.length_set, List.length_map, List.length_range, Nat.reduceAdd, Nat.reduceMul, Nat.reduceLT, Nat.reduceLeDiff, Nat.zero_le, true_or, or_true, List.getElem?_cons_succ, List.getElem?_cons_zero]; done) | omega | (simp -implicitDefEqProofs only [dp_non, dp_bl, dp_int, dp_str, dp_tup, dp_lst, dpl_nil, dpl_cons, fd_dep, ref_dep, n_dep, dep_nL, depL_nL, len_nL, len_repL, List.length_append, List.length_cons, List.length_nil, List.length_replicate, List.length_reverse, List.length_set, List.length_map, List.length_range, Nat.reduceAdd, Nat.reduceMul]; omega)) only [rdK_scr, frz_scr, pkK_scr, pkK_shr, lstK_shr, appK_shr, town_init', List.nil_append, q_bok, q_berr, q_bexc, q_bite, q_onB, q_nx, q_rt, q_ct, q_fz, q_frv, q_frfl, q_frro, q_frshr, q_frfn, q_oo, q_on, q_oite, q_and, q_or, n_eq, k_0, k_1, k_2, k_3, k_4, k_5, k_6, k_7, k_8, k_9, k_10, k_11, k_12, k_13, k_14, k_15, k_16, k_20, k_30, k_31, k_32, k_33, k_40, k_41, k_59, k_60, k_61, k_63, k_64, k_70, k_80, k_90, k_100, k_101, k_120, k_150, k_180, k_190, k_194, k_195, k_200, k_201, k_7919, k_9973, k_9999, k_12345, k_100000, k_104729, k_999961, k_999979, k_999983, k_1103515245, k_2147483647, e_const, e_glob, e_slot', rdK_v, rdK_fl, rdK_ro, rdK_shr, rdK_exc, e_bin, e_neg', ngK_n, partI', ptK_n, ptK_i, ptK_t, nb_non, nb_int, nb_slot, nb_bin, nb_neg, nb_call, nb_subS, nb_sub, nb_lenS, cutS, cutT, cutLs, cut_nn, cut_0n, cut_n0, cut_0m, e_not, e_and, e_or, e_ite, e_cmp, e_cmp2, e_cmpS, e_inS, e_tup, e_lst, q_mm0, q_mm1, q_om, e_pick, pick_par3, e_call, e_sel', selK_n, selN_s, e_bi, e_lenS, e_join, e_meth, e_sub, e_subS, e_cut, e_rev, e_isin, es_nil, es_cons, i_val, i_range1', i_range2', i_range3', i_enum, i_zip, x_nil, x_cons, x_set, x_shr, x_unp, x_par, x_expr, x_app, x_ext, x_put, x_ite, x_for', x_while', forB_nil, q_set1, q_setN, q_puts0, q_puts, q_putsR0, q_putsR, x_ret, x_retS', rsK_s, x_raise, x_cont, x_pass, x_try', tryK_ok, tryK_exc0, tryK_ite, handed', handedC, hdK_ok, put_if, q_callR, q_eR1, q_eR2, q_eR3, q_eRi, q_e1, q_e2, q_e3, q_ei, n_add, n_mul, n_sub, n_mod, n_div, n_lt, n_le, n_gt, n_ge, n_deq, n_dep, n_ty, n_tyb, n_tys, n_tyt, n_tyl, t_nil, t_cons, deq_refl, ref_eq, ref_deq, ref_dep, ty_int_non, ty_int_bl, ty_int_str, ty_int_tup, ty_int_lst, ty_int_int, ty_bool_non, ty_bool_bl, ty_bool_str, ty_bool_tup, ty_bool_lst, ty_bool_int, ty_str_non, ty_str_bl, ty_str_str, ty_str_tup, ty_str_lst, ty_str_int, ty_tuple_non, ty_tuple_bl, ty_tuple_str, ty_tuple_tup, ty_tuple_lst, ty_tuple_int, ty_list_non, ty_list_bl, ty_list_str, ty_list_tup, ty_list_lst, ty_list_int, q_eq, q_ne, q_in, q_inl, q_nin, q_ninl, dep_nL, fd_0, fd_1, fd_2, fd_3, fd_4, fd_t, fd_seq, fd_len, fd_dep, ord_low, ord_in, par_in, par_none, par_even, par_odd, n_addS, n_addT, n_addL, n_mulS, n_mulL, n_sum, n_len, n_intb, n_inti, n_tupl, n_lstt, n_lstl, n_str, revD_l, nL_rev, nL_app, app1', appK_fl, ext1', extK_fl, lstAt', lstK_fl, q_isN, q_notN, nn_nI, nn_non, nn_bl, nn_str, nn_tup, nn_lst, n_subT, n_subL, n_subF, n_subS, rgK_n, rg2K_n, ↓reduceIte, Bool.false_eq_true, List.length_map, List.length_cons, List.length_nil, List.getElem?_cons_zero, List.getElem?_cons_succ, List.getElem?_nil, List.set_cons_zero, List.set_cons_succ, Option.map_some, Option.map_none, Option.bind_some, Option.bind_none, Option.isSome_some, Nat.reduceAdd, Nat.reduceLT, Nat.reduceLeDiff, Nat.reduceSub, Nat.reduceMul, Nat.reduceEqDiff, decide_true, decide_false, Bool.true_and, Bool.and_true, Bool.false_and, Bool.and_false, Bool.or_true, Bool.true_or, Bool.false_or, Bool.or_false, Bool.not_true, Bool.not_false, peek', pkK_v, pkK_fl, pkK_ro, len_s, len_t, len_l, len_f, len_r, seq_t, seq_l, Bool.decide_eq_true, unV, $ls,*])
/-- how many samples of so many ticks there are of frames and rest -/
def wayN (F : Form) (m : Nat) : Nat := match m with
  | 0 => 1
  | m + 1 => wayN F m + (if h : lng F ≤ m + 1 then 2 ^ F.b * wayN F (m + 1 - lng F) else 0)
termination_by m
decreasing_by
  · omega
  · have := lng_pos F; omega
theorem wayN_0 (F : Form) : wayN F 0 = 1 := by unfold wayN; rfl
theorem wayN_s (F : Form) (m : Nat) : wayN F (m + 1) = wayN F m + (if lng F ≤ m + 1 then 2 ^ F.b * wayN F (m + 1 - lng F) else 0) := by
  rw [wayN]
  split <;> rfl
def waysL (F : Form) (n : Nat) : List Nat := (List.range (n + 1)).map (wayN F)
theorem waysL_snoc (F : Form) (n : Nat) : waysL F (n + 1) = waysL F n ++ [wayN F (n + 1)] := by
  unfold waysL
  rw [List.range_succ, List.map_append]; rfl
theorem waysL_len (F : Form) (n : Nat) : (waysL F n).length = n + 1 := by unfold waysL; simp
theorem waysL_at (F : Form) (n i : Nat) (h : i ≤ n) : (nL (waysL F n))[i]? = some (nI (wayN F i)) := by
  unfold nL waysL
  rw [List.getElem?_map, List.getElem?_map, List.getElem?_range (by omega)]; rfl
theorem ways_loop (k : Nat) (F : Form) (n : Nat) (sh : Sh) : ∀ (c a : Nat) (x3 x4 : Option Rv), a + c ≤ 1000 → 1 ≤ a →
    ∃ x3' x4', forB (callN MT (k + 1)) [3] true l_ways_0 (nL (List.range' a c)) ⟨[some (.v F.d), some (.v (nI n)), some (.fl (nL (waysL F (a - 1)))), x3, x4], sh⟩ = .ok .nx ⟨[some (.v F.d), some (.v (nI n)), some (.fl (nL (waysL F (a - 1 + c)))), x3', x4'], sh⟩
  | 0, a, x3, x4, _, _ => ⟨x3, x4, rfl⟩
  | c + 1, a, x3, x4, h, ha => by
    obtain ⟨x3', x4', e⟩ := ways_loop k F n sh c (a + 1) (some (.v (nI a))) (some (.v (nI (wayN F a)))) (by omega) (by omega)
    refine ⟨x3', x4', ?_⟩
    have e2 : a - 1 + (c + 1) = a + 1 - 1 + c := by omega
    rw [e2, List.range'_succ]
    refine (for_step (fl := .nx) (s1 := ⟨[some (.v F.d), some (.v (nI n)), some (.fl (nL (waysL F (a - 1)))), some (.v (nI a)), x4], sh⟩) (s2 := ⟨[some (.v F.d), some (.v (nI n)), some (.fl (nL (waysL F (a + 1 - 1)))), some (.v (nI a)), some (.v (nI (wayN F a)))], sh⟩) rfl ?_ rfl).trans e
    have w1 := waysL_at F (a - 1) (a - 1) (Nat.le_refl _)
    have wl : (nL (waysL F (a - 1))).length = a := by rw [len_nL, waysL_len]; omega
    have ws := wayN_s F (a - 1)
    rw [show a - 1 + 1 = a by omega] at ws
    have wa : nL (waysL F (a - 1)) ++ [nI (wayN F a)] = nL (waysL F (a + 1 - 1)) := by
      have := waysL_snoc F (a - 1)
      rw [show a - 1 + 1 = a by omega] at this
      rw [show a + 1 - 1 = a by omega, this]
      simp [nL]
    have tp : 2 ^ F.b - 1 + 1 = 2 ^ F.b := by have := Nat.two_pow_pos F.b; omega
    have tl : 2 ^ F.b < 18446744073709551616 := by
      have : 2 ^ F.b ≤ 2 ^ 6 := Nat.pow_le_pow_right (by decide) F.hb6
      omega
    unfold l_ways_0
    by_cases hl : lng F ≤ a
    · have w2 := waysL_at F (a - 1) (a - lng F) (by have := lng_pos F; omega)
      rw [if_pos hl] at ws
      simp! [w1, long_of_ok, hl, top_of_ok, tp, w2, ← ws, wa]
    · rw [if_neg hl, Nat.add_zero] at ws
      rw [← ws] at w1
      simp! [w1, long_of_ok, hl, wa]
theorem ways_ok (k : Nat) (F : Form) (n : Nat) (hn : n < 900) (sh : Sh) : callN MT (k + 2) 138 [.v F.d, .v (nI n)] sh = .ok (.fl (nL (waysL F n))) sh := by
  rw [u_ways]; unfold b_ways
  obtain ⟨x3, x4, e⟩ := ways_loop k F n sh n 1 none none (by omega) (by omega)
  have e0 : nL (waysL F (1 - 1)) = [nI 1] := by
    show nL (waysL F 0) = _
    unfold waysL nL
    simp [wayN_0]
  rw [e0, show 1 - 1 + n = n by omega] at e
  have e1 : n + 1 - 1 = n := by omega
  simp! [e1, e]
theorem wayN_pos (F : Form) : ∀ m, 1 ≤ wayN F m
  | 0 => by rw [wayN_0]; omega
  | m + 1 => by
    rw [wayN_s]
    have := wayN_pos F m
    omega
theorem wayN_mono (F : Form) (m : Nat) : wayN F m ≤ wayN F (m + 1) := by
  rw [wayN_s]; omega
theorem wayN_big (F : Form) : ∀ m, lng F ≤ m → 2 ^ F.b + 1 ≤ wayN F m
  | 0, h => by have := lng_pos F; omega
  | m + 1, h => by
    by_cases hm : lng F ≤ m
    · exact Nat.le_trans (wayN_big F m hm) (wayN_mono F m)
    · rw [wayN_s, if_pos h, show m + 1 - lng F = 0 by omega, wayN_0]
      have := wayN_pos F m
      omega
/-- a whole number within bounds -/
def wholeD (d : D) (lo hi : Int) : Bool := match d with
  | .int i => decide (lo ≤ i) && decide (i ≤ hi)
  | _ => false
theorem is_whole_D (k : Nat) (d : D) (lo hi : Int) (sh : Sh) : callN MT (k + 1) 1 [.v d, .v (.int lo), .v (.int hi)] sh = .ok (.v (.bl (wholeD d lo hi))) sh := by
  rw [u_is_whole]; unfold b_is_whole
  have le : ∀ i j : Int, cmpD .le (.v (.int i)) (.v (.int j)) = some (decide (i ≤ j)) := fun _ _ => rfl
  cases d <;> simp! [le] <;> rfl
theorem need_ticks_ok (k : Nat) (n : Nat) (h1 : 1 ≤ n) (h2 : n ≤ 60) (sh : Sh) : callN MT (k + 2) 139 [.v (nI n)] sh = .ok (.v .non) sh := by
  rw [u_need_ticks]; unfold b_need_ticks
  simp! [is_whole_ok, h1, h2]
theorem need_ticks_no (k : Nat) (d : D) (h : wholeD d 1 60 = false) (sh : Sh) : callN MT (k + 2) 139 [.v d] sh = .exc 12 sh := by
  rw [u_need_ticks]; unfold b_need_ticks
  have e := is_whole_D k d 1 60 sh
  rw [h] at e
  have e : callN MT (k + 1) 1 [.v d, .v (nI 1), .v (nI 60)] sh = .ok (.v (.bl false)) sh := e
  simp! [e]
theorem how_many_ok (k : Nat) (F : Form) (n : Nat) (h1 : 1 ≤ n) (h2 : n ≤ 60) (sh : Sh) : callN MT (k + 4) 140 [.v F.d, .v (nI n)] sh = .ok (.v (nI (wayN F n - 1))) sh := by
  rw [u_how_many]; unfold b_how_many
  have := wayN_pos F n
  have w := waysL_at F n n (Nat.le_refl _)
  simp! [need_form_ok, need_ticks_ok _ n h1 h2, ways_ok, w]
theorem how_many_no (k : Nat) (F : Form) (d : D) (h : wholeD d 1 60 = false) (sh : Sh) : callN MT (k + 4) 140 [.v F.d, .v d] sh = .exc 12 sh := by
  rw [u_how_many]; unfold b_how_many
  simp! [need_form_ok, need_ticks_no _ d h]
theorem how_many_bad (k : Nat) {b d : D} (h : b ∈ BAD) (sh : Sh) : callN MT (k + 4) 140 [.v b, .v d] sh = .exc 1 sh := by
  rw [u_how_many]; unfold b_how_many
  simp! [need_form_bad h]
theorem samples_at_bad (k : Nat) {b d e : D} (h : b ∈ BAD) (sh : Sh) : callN MT (k + 4) 142 [.v b, .v d, .v e] sh = .exc 1 sh := by
  rw [u_samples_at]; unfold b_samples_at
  simp! [need_form_bad h]
theorem samples_at_no (k : Nat) (F : Form) (d e : D) (h : wholeD d 1 60 = false) (sh : Sh) : callN MT (k + 4) 142 [.v F.d, .v d, .v e] sh = .exc 12 sh := by
  rw [u_samples_at]; unfold b_samples_at
  simp! [need_form_ok, need_ticks_no _ d h]
theorem samples_at_num (k : Nat) (F : Form) (n : Nat) (h1 : 1 ≤ n) (h2 : n ≤ 60) (hw : 2 ≤ wayN F n) (e : D) (h : wholeD e 0 ((wayN F n - 2 : Nat) : Int) = false) (sh : Sh) : callN MT (k + 4) 142 [.v F.d, .v (nI n), .v e] sh = .exc 12 sh := by
  rw [u_samples_at]; unfold b_samples_at
  have w := waysL_at F n n (Nat.le_refl _)
  have q := is_whole_D (k + 2) e 0 ((wayN F n - 2 : Nat) : Int) sh
  rw [h] at q
  have q : callN MT (k + 3) 1 [.v e, .v (nI 0), .v (nI (wayN F n - 2))] sh = .ok (.v (.bl false)) sh := q
  simp! [need_form_ok, need_ticks_ok _ n h1 h2, ways_ok, w, q]
theorem number_in_bad (k : Nat) {b d : D} (h : b ∈ BAD) (sh : Sh) : callN MT (k + 4) 143 [.v b, .v d] sh = .exc 1 sh := by
  rw [u_number_in]; unfold b_number_in
  simp! [need_form_bad h]
theorem number_in_none (k : Nat) (F : Form) {d : D} (h : d ∈ NONE) (sh : Sh) : callN MT (k + 4) 143 [.v F.d, .v d] sh = .exc 2 sh := by
  rw [u_number_in]; unfold b_number_in
  simp! [need_form_ok, need_samples_bad h]
theorem number_in_long (k : Nat) (F : Form) (x : List Nat) (h : OkS x) (hl : 60 < x.length) (sh : Sh) : callN MT (k + 4) 143 [.v F.d, .v (.str x)] sh = .exc 2 sh := by
  rw [u_number_in]; unfold b_number_in
  simp! [need_form_ok, need_samples_ok _ x h, hl]
theorem number_in_unfit (k : Nat) (F : Form) (x : List Nat) (h : OkS x) (hr : readF F x = none) (sh : Sh) : callN MT (k + 4) 143 [.v F.d, .v (.str x)] sh = .exc 2 sh := by
  rw [u_number_in]; unfold b_number_in
  have r := rows_in_ok k F x h.bit (by have := h.le; omega) sh
  rw [hr] at r
  have r : callN MT (k + 3) 27 [.v F.d, .v (.str x)] sh = .ok (.v .non) sh := r
  by_cases hl : 60 < x.length
  · simp! [need_form_ok, need_samples_ok _ x h, hl]
  · simp! [need_form_ok, need_samples_ok _ x h, hl, r]
end Wi

/-! Least numbers; the words that are near. -/
namespace Wi
local macro_rules
  | `(tactic| simp! [$ls,*]) => `(tactic| simp -implicitDefEqProofs (maxSteps := 10000000) (disch := first | assumption | (simp -implicitDefEqProofs only [dp_non, dp_bl, dp_int, dp_str, dp_tup, dp_lst, dpl_nil, dpl_cons, fd_dep, ref_dep, n_dep, dep_nL, depL_nL, len_nL, len_repL, List.length_append, List.length_cons, List.length_nil, List.length_replicate, List.length_reverse, List.length_set, List.length_map, List.length_range, Nat.reduceAdd, Nat.reduceMul, Nat.reduceLT, Nat.reduceLeDiff, Nat.zero_le, true_or, or_true, List.getElem?_cons_succ, List.getElem?_cons_zero]; done) | omega | (simp -implicitDefEqProofs only [dp_non, dp_bl, dp_int, dp_str, dp_tup, dp_lst, dpl_nil, dpl_cons, fd_dep, ref_dep, n_dep, dep_nL, depL_nL, len_nL, len_repL, List.length_append, List.length_cons, List.length_nil, List.length_replicate, List.length_reverse, List.length_set, List.length_map, List.length_range, Nat.reduceAdd, Nat.reduceMul]; omega)) only [rdK_scr, frz_scr, pkK_scr, pkK_shr, lstK_shr, appK_shr, town_init', List.nil_append, q_bok, q_berr, q_bexc, q_bite, q_onB, q_nx, q_rt, q_ct, q_fz, q_frv, q_frfl, q_frro, q_frshr, q_frfn, q_oo, q_on, q_oite, q_and, q_or, n_eq, k_0, k_1, k_2, k_3, k_4, k_5, k_6, k_7, k_8, k_9, k_10, k_11, k_12, k_13, k_14, k_15, k_16, k_20, k_30, k_31, k_32, k_33, k_40, k_41, k_59, k_60, k_61, k_63, k_64, k_70, k_80, k_90, k_100, k_101, k_120, k_150, k_180, k_190, k_194, k_195, k_200, k_201, k_7919, k_9973, k_9999, k_12345, k_100000, k_104729, k_999961, k_999979, k_999983, k_1103515245, k_2147483647, e_const, e_glob, e_slot', rdK_v, rdK_fl, rdK_ro, rdK_shr, rdK_exc, e_bin, e_neg', ngK_n, partI', ptK_n, ptK_i, ptK_t, nb_non, nb_int, nb_slot, nb_bin, nb_neg, nb_call, nb_subS, nb_sub, nb_lenS, cutS, cutT, cutLs, cut_nn, cut_0n, cut_n0, cut_0m, e_not, e_and, e_or, e_ite, e_cmp, e_cmp2, e_cmpS, e_inS, e_tup, e_lst, q_mm0, q_mm1, q_om, e_pick, pick_par3, e_call, e_sel', selK_n, selN_s, e_bi, e_lenS, e_join, e_meth, e_sub, e_subS, e_cut, e_rev, e_isin, es_nil, es_cons, i_val, i_range1', i_range2', i_range3', i_enum, i_zip, x_nil, x_cons, x_set, x_shr, x_unp, x_par, x_expr, x_app, x_ext, x_put, x_ite, x_for', x_while', forB_nil, q_set1, q_setN, q_puts0, q_puts, q_putsR0, q_putsR, x_ret, x_retS', rsK_s, x_raise, x_cont, x_pass, x_try', tryK_ok, tryK_exc0, tryK_ite, handed', handedC, hdK_ok, put_if, q_callR, q_eR1, q_eR2, q_eR3, q_eRi, q_e1, q_e2, q_e3, q_ei, n_add, n_mul, n_sub, n_mod, n_div, n_lt, n_le, n_gt, n_ge, n_deq, n_dep, n_ty, n_tyb, n_tys, n_tyt, n_tyl, t_nil, t_cons, deq_refl, ref_eq, ref_deq, ref_dep, ty_int_non, ty_int_bl, ty_int_str, ty_int_tup, ty_int_lst, ty_int_int, ty_bool_non, ty_bool_bl, ty_bool_str, ty_bool_tup, ty_bool_lst, ty_bool_int, ty_str_non, ty_str_bl, ty_str_str, ty_str_tup, ty_str_lst, ty_str_int, ty_tuple_non, ty_tuple_bl, ty_tuple_str, ty_tuple_tup, ty_tuple_lst, ty_tuple_int, ty_list_non, ty_list_bl, ty_list_str, ty_list_tup, ty_list_lst, ty_list_int, q_eq, q_ne, q_in, q_inl, q_nin, q_ninl, dep_nL, fd_0, fd_1, fd_2, fd_3, fd_4, fd_t, fd_seq, fd_len, fd_dep, ord_low, ord_in, par_in, par_none, par_even, par_odd, n_addS, n_addT, n_addL, n_mulS, n_mulL, n_sum, n_len, n_intb, n_inti, n_tupl, n_lstt, n_lstl, n_str, revD_l, nL_rev, nL_app, app1', appK_fl, ext1', extK_fl, lstAt', lstK_fl, q_isN, q_notN, nn_nI, nn_non, nn_bl, nn_str, nn_tup, nn_lst, n_subT, n_subL, n_subF, n_subS, rgK_n, rg2K_n, ↓reduceIte, Bool.false_eq_true, List.length_map, List.length_cons, List.length_nil, List.getElem?_cons_zero, List.getElem?_cons_succ, List.getElem?_nil, List.set_cons_zero, List.set_cons_succ, Option.map_some, Option.map_none, Option.bind_some, Option.bind_none, Option.isSome_some, Nat.reduceAdd, Nat.reduceLT, Nat.reduceLeDiff, Nat.reduceSub, Nat.reduceMul, Nat.reduceEqDiff, decide_true, decide_false, Bool.true_and, Bool.and_true, Bool.false_and, Bool.and_false, Bool.or_true, Bool.true_or, Bool.false_or, Bool.or_false, Bool.not_true, Bool.not_false, peek', pkK_v, pkK_fl, pkK_ro, len_s, len_t, len_l, len_f, len_r, seq_t, seq_l, Bool.decide_eq_true, unV, $ls,*])
theorem ltD_n (a b : Nat) : ltD (nI a) (nI b) = decide (a < b) := by
  show PySem.W.dataLt (.int a) (.int b) = _
  rw [PySem.W.dataLt_int]
  exact decide_eq_decide.mpr Int.ofNat_lt
theorem likeD_n (a b : Nat) : likeD (nI a) (nI b) = true := by
  show PySem.W.alike (.int a) (.int b) = true
  rfl
theorem ordAll_n (l : List Nat) : ordAll (nL l) = true := by
  unfold ordAll nL
  rw [Bool.and_eq_true]
  refine ⟨List.all_eq_true.mpr fun x hx => List.all_eq_true.mpr fun y hy => ?_, List.all_eq_true.mpr fun x hx => ?_⟩
  · obtain ⟨a, _, rfl⟩ := List.mem_map.mp hx
    obtain ⟨b, _, rfl⟩ := List.mem_map.mp hy
    exact likeD_n a b
  · obtain ⟨a, _, rfl⟩ := List.mem_map.mp hx
    rfl
def minN : List Nat → Nat
  | [] => 0
  | a :: l => l.foldl (fun a y => if y < a then y else a) a
theorem minDD_n : ∀ (l : List Nat) (a : Nat), minDD (nI a) (nL l) = nI (l.foldl (fun a y => if y < a then y else a) a)
  | [], a => rfl
  | b :: l, a => by
    show minDD (if ltD (nI b) (nI a) = true then nI b else nI a) (nL l) = _
    rw [List.foldl_cons, ltD_n]
    by_cases h : b < a
    · rw [decide_eq_true h, if_pos rfl, if_pos h]; exact minDD_n l b
    · rw [decide_eq_false h, if_neg (by decide), if_neg h]; exact minDD_n l a
theorem n_min (l : List Nat) (h : l ≠ []) : biD .min [.v (.lst (nL l))] = some (.v (nI (minN l))) := by
  cases l with
  | nil => exact absurd rfl h
  | cons a l =>
    show (if ordAll (nL (a :: l)) = true then some (Rv.v (minDD (nI a) (nL l))) else none) = _
    rw [ordAll_n, if_pos rfl, minDD_n]; rfl
theorem foldmin_le : ∀ (l : List Nat) (a : Nat), l.foldl (fun a y => if y < a then y else a) a ≤ a ∧ (∀ y ∈ l, l.foldl (fun a y => if y < a then y else a) a ≤ y) ∧ (l.foldl (fun a y => if y < a then y else a) a = a ∨ l.foldl (fun a y => if y < a then y else a) a ∈ l)
  | [], a => ⟨Nat.le_refl _, (fun _ h => nomatch h), .inl rfl⟩
  | b :: l, a => by
    rw [List.foldl_cons]
    obtain ⟨h1, h2, h3⟩ := foldmin_le l (if b < a then b else a)
    have hl : (if b < a then b else a) ≤ a ∧ (if b < a then b else a) ≤ b := by split <;> omega
    refine ⟨by omega, fun y hy => ?_, ?_⟩
    · rcases List.mem_cons.mp hy with rfl | hy
      · omega
      · exact h2 y hy
    · rcases h3 with h3 | h3
      · by_cases hb : b < a
        · rw [if_pos hb] at h3 ⊢
          exact .inr (by rw [h3]; exact List.mem_cons_self)
        · rw [if_neg hb] at h3 ⊢
          exact .inl h3
      · exact .inr (List.mem_cons_of_mem _ h3)
theorem minN_le {l : List Nat} {y : Nat} (h : y ∈ l) : minN l ≤ y := by
  cases l with
  | nil => cases h
  | cons a l =>
    obtain ⟨h1, h2, _⟩ := foldmin_le l a
    rcases List.mem_cons.mp h with rfl | h
    · exact h1
    · exact h2 y h
theorem minN_mem {l : List Nat} (h : l ≠ []) : minN l ∈ l := by
  cases l with
  | nil => exact absurd rfl h
  | cons a l =>
    obtain ⟨_, _, h3⟩ := foldmin_le l a
    rcases h3 with h3 | h3
    · show List.foldl _ a l ∈ _
      rw [h3]; exact List.mem_cons_self
    · exact List.mem_cons_of_mem _ h3
/-! ### nearest words -/
def hamL (F : Form) (x : List Nat) : List Nat := (List.range (2 ^ F.b)).map fun w => ham (fr F w) x
def nearL (F : Form) (x : List Nat) : List Nat := (List.range (2 ^ F.b)).filter fun w => decide (ham (fr F w) x = minN (hamL F x))
theorem enumD_n : ∀ (l : List Nat) (n : Nat), enumD n (nL l) = (l.zipIdx n).map fun p => .tup [nI p.2, nI p.1]
  | [], _ => rfl
  | a :: l, n => by
    show D.tup [.int n, nI a] :: enumD (n + 1) (nL l) = _
    rw [enumD_n l (n + 1)]; rfl
theorem zipIdx_range (f : Nat → Nat) (n : Nat) : ((List.range n).map f).zipIdx = (List.range n).map fun i => (f i, i) := by
  apply List.ext_getElem?
  intro i
  rw [List.getElem?_zipIdx, List.getElem?_map, List.getElem?_map]
  by_cases h : i < n
  · rw [List.getElem?_range h]; simp
  · rw [List.getElem?_eq_none (by simp; omega)]; rfl
theorem pow_le (F : Form) : 2 ^ F.b ≤ 64 := by
  have : 2 ^ F.b ≤ 2 ^ 6 := Nat.pow_le_pow_right (by decide) F.hb6
  omega
theorem pow_ge (F : Form) : 16 ≤ 2 ^ F.b := by
  have : 2 ^ 4 ≤ 2 ^ F.b := Nat.pow_le_pow_right (by decide) F.hb
  omega
theorem top1 (F : Form) : 2 ^ F.b - 1 + 1 = 2 ^ F.b := by have := pow_ge F; omega
theorem hamL_len (F : Form) (x : List Nat) : (hamL F x).length = 2 ^ F.b := by unfold hamL; simp
theorem hamL_ne (F : Form) (x : List Nat) : hamL F x ≠ [] := by
  intro h
  have := hamL_len F x
  rw [h] at this
  have := pow_ge F
  simp at *; omega
theorem nearest_ok (k : Nat) (F : Form) (x : List Nat) (h : OkS x) (hl : x.length = lng F) (sh : Sh) : callN MT (k + 4) 150 [.v F.d, .v (.str x)] sh = .ok (.v (.tup [nI (minN (hamL F x)), .lst (nL (nearL F x))])) sh := by
  rw [u_nearest_words]; unfold b_nearest_words
  have h64 := pow_le F
  have ll := lng_le F
  have c0 : ∀ (y2 y4 : Option Rv), ev (callN MT (k + 3)) c_nearest_words_0 ⟨[some (.v F.d), some (.v (.str x)), y2, none, y4], sh⟩ = .ok (.fl (nL (hamL F x))) ⟨[some (.v F.d), some (.v (.str x)), y2, none, y4], sh⟩ := by
    intro y2 y4
    unfold c_nearest_words_0 hamL nL
    rw [List.map_map]
    refine comp_map (enc := nI) (l := List.range (2 ^ F.b)) (fun z => ⟨[some (.v F.d), some (.v (.str x)), y2, z, y4], sh⟩) (fun a => some (.v (nI a))) _ (by simp! [top_of_ok, top1]; rfl) none rfl rfl (by simp; omega) (fun _ _ _ => rfl) ?_ (fun _ => rfl)
    intro a ha
    have t := ticks_apart_ok (k + 2) (fr F a) x (by rw [fr_len, hl]) (by rw [fr_len]; omega) sh
    simp! [framed_ok, t]
    rfl
  have hm := n_min (hamL F x) (hamL_ne F x)
  have c1 : ev (callN MT (k + 3)) c_nearest_words_1 ⟨[some (.v F.d), some (.v (.str x)), some (.v (.lst (nL (hamL F x)))), none, none], sh⟩ = .ok (.fl (nL (nearL F x))) ⟨[some (.v F.d), some (.v (.str x)), some (.v (.lst (nL (hamL F x)))), none, none], sh⟩ := by
    have ez := zipIdx_range (fun w => ham (fr F w) x) (2 ^ F.b)
    have key := comp_gen (Γ := callN MT (k + 3)) (elt := .slot 3) (tg := [3, 4]) (one := false) (it := .enum (.slot 2)) (cond := .some (.cmp .eq (.slot 4) (.bi .min (.cons (.slot 2) .nil)))) (vs := [3, 4]) (enc := fun (i : Nat) => .tup [nI i, nI (ham (fr F i) x)]) (l := List.range (2 ^ F.b))
      (s := ⟨[some (.v F.d), some (.v (.str x)), some (.v (.lst (nL (hamL F x)))), none, none], sh⟩) (fun (z : Option Rv × Option Rv) => ⟨[some (.v F.d), some (.v (.str x)), some (.v (.lst (nL (hamL F x)))), z.1, z.2], sh⟩) (fun i => (some (.v (nI i)), some (.v (nI (ham (fr F i) x))))) nI (fun i => decide (ham (fr F i) x = minN (hamL F x)))
      (by
        simp! [enumD_n]
        unfold hamL
        rw [ez, List.map_map]; rfl) (none, none) rfl rfl (by simp; omega) (fun _ _ _ => rfl)
      (by
        intro a _
        show (ev _ _ _).bind _ = _
        simp! [hm])
      (by
        intro a _ _
        simp! [])
      (fun _ => rfl)
    exact key
  have hd := dep_nL
  simp! [need_form_ok, need_samples_ok _ x h, long_of_ok, hl, c0, hm, c1]
theorem ham_zero : ∀ (x y : List Nat), x.length = y.length → (ham x y = 0 ↔ x = y)
  | [], [], _ => by simp [ham]
  | a :: x, b :: y, h => by
    have ih := ham_zero x y (by simpa using h)
    unfold ham
    by_cases hab : a = b
    · subst hab
      simp [ih]
    · simp [hab]
theorem fr_inj (F : Form) {a w : Nat} (ha : a < 2 ^ F.b) (hw : w < 2 ^ F.b) (h : fr F a = fr F w) : a = w := by
  have h1 := decode_fr F a ha
  rw [h, decode_fr F w hw] at h1
  exact (Option.some.inj h1).symm
theorem filter_one : ∀ (n w : Nat), w < n → (List.range n).filter (fun i => decide (i = w)) = [w]
  | 0, w, h => by omega
  | n + 1, w, h => by
    rw [List.range_succ, List.filter_append]
    by_cases hw : w < n
    · rw [filter_one n w hw]
      have : ¬ n = w := by omega
      simp [this]
    · have : n = w := by omega
      subst this
      have : (List.range n).filter (fun i => decide (i = n)) = [] := by
        rw [List.filter_eq_nil_iff]
        intro a ha
        have := List.mem_range.mp ha
        simp; omega
      rw [this]; simp
theorem ham_fr (F : Form) {a w : Nat} (ha : a < 2 ^ F.b) (hw : w < 2 ^ F.b) : ham (fr F a) (fr F w) = 0 ↔ a = w := by
  rw [ham_zero _ _ (by rw [fr_len, fr_len])]
  exact ⟨fr_inj F ha hw, fun h => by rw [h]⟩
end Wi

/-! How far frames are from one another: the mathematics. -/
namespace Wi
theorem ham_nil (y : List Nat) : ham [] y = 0 := by cases y <;> rfl
theorem ham_nil' (y : List Nat) : ham y [] = 0 := by cases y <;> rfl
theorem ham_cons (a b : Nat) (x y : List Nat) : ham (a :: x) (b :: y) = (if a = b then 0 else 1) + ham x y := rfl
theorem ham_self : ∀ x : List Nat, ham x x = 0
  | [] => rfl
  | a :: x => by rw [ham_cons, ham_self x, if_pos rfl]
theorem ham_comm : ∀ x y : List Nat, ham x y = ham y x
  | [], y => by rw [ham_nil, ham_nil']
  | a :: x, [] => by rw [ham_nil, ham_nil']
  | a :: x, b :: y => by
    rw [ham_cons, ham_cons, ham_comm x y]
    by_cases h : a = b
    · rw [if_pos h, if_pos h.symm]
    · rw [if_neg h, if_neg fun e => h e.symm]
theorem ham_app : ∀ (x y u v : List Nat), x.length = y.length → ham (x ++ u) (y ++ v) = ham x y + ham u v
  | [], [], u, v, _ => by rw [List.nil_append, List.nil_append, ham_nil]; omega
  | a :: x, b :: y, u, v, h => by
    rw [List.cons_append, List.cons_append, ham_cons, ham_cons, ham_app x y u v (by simpa using h)]; omega
theorem ham_tri : ∀ (x y z : List Nat), x.length = y.length → y.length = z.length → ham x z ≤ ham x y + ham y z
  | [], _, z, _, _ => by rw [ham_nil]; omega
  | a :: x, b :: y, c :: z, h, h' => by
    have ih := ham_tri x y z (by simpa using h) (by simpa using h')
    rw [ham_cons, ham_cons, ham_cons]
    by_cases h1 : a = b
    · subst h1
      rw [if_pos rfl]; omega
    · rw [if_neg h1]
      split <;> omega
theorem ham_rep (p a b : Nat) : ham (List.replicate p a) (List.replicate p b) = p * (if a = b then 0 else 1) := by
  induction p with
  | zero => rw [List.replicate_zero, ham_nil]; omega
  | succ p ih => rw [List.replicate_succ, List.replicate_succ, ham_cons, ih, Nat.succ_mul]; omega
theorem ham_tks (p : Nat) : ∀ (l m : List Nat), l.length = m.length → ham (tks p l) (tks p m) = p * ham l m
  | [], [], _ => by rw [ham_nil]; show ham [] [] = _; rw [ham_nil]; omega
  | a :: l, b :: m, h => by
    rw [tks_cons, tks_cons, ham_app _ _ _ _ (by simp), ham_rep, ham_tks p l m (by simpa using h), ham_cons, Nat.mul_add]
    congr 2
    by_cases e : a = b
    · rw [if_pos e, if_pos (by omega)]
    · rw [if_neg e, if_neg (by omega)]
theorem ham_parity : ∀ (l m : List Nat), l.length = m.length → (∀ b ∈ l, b < 2) → (∀ b ∈ m, b < 2) → (l.sum + m.sum + ham l m) % 2 = 0
  | [], [], _, _, _ => rfl
  | a :: l, b :: m, h, h1, h2 => by
    have ih := ham_parity l m (by simpa using h) (fun x hx => h1 x (List.mem_cons_of_mem _ hx)) fun x hx => h2 x (List.mem_cons_of_mem _ hx)
    have ha := h1 a List.mem_cons_self
    have hb := h2 b List.mem_cons_self
    rw [ham_cons, List.sum_cons, List.sum_cons]
    split <;> omega
def mF (q : Par) : Nat := if q = .none then 1 else 2
theorem row_ham (F : Form) (a c : Nat) : ham (row F a) (row F c) = ham (bitsF F a) (bitsF F c) + if F.q = .none then 0 else ham (bitsF F a) (bitsF F c) % 2 := by
  unfold row
  have hl : (bitsF F a).length = (bitsF F c).length := by rw [bitsF_len, bitsF_len]
  rw [ham_cons, if_pos rfl, ham_app _ _ _ _ (by rw [List.length_append, List.length_append, hl, parityB_len, parityB_len]), ham_self, ham_app _ _ _ _ hl]
  have hp := ham_parity _ _ hl (bitsF_lt F a) (bitsF_lt F c)
  cases F.q with
  | none => show 0 + (ham (bitsF F a) (bitsF F c) + ham [] [] + 0) = _; rw [ham_nil, if_pos rfl]; omega
  | even =>
    rw [if_neg (by decide)]
    show 0 + (ham (bitsF F a) (bitsF F c) + ham [(bitsF F a).sum % 2] [(bitsF F c).sum % 2] + 0) = _
    rw [ham_cons, ham_nil]
    split <;> omega
  | odd =>
    rw [if_neg (by decide)]
    show 0 + (ham (bitsF F a) (bitsF F c) + ham [1 - (bitsF F a).sum % 2] [1 - (bitsF F c).sum % 2] + 0) = _
    rw [ham_cons, ham_nil]
    split <;> omega
theorem fr_ham (F : Form) (a c : Nat) : ham (fr F a) (fr F c) = F.p * ham (row F a) (row F c) := by
  unfold fr
  exact ham_tks F.p _ _ (by rw [row_len', row_len'])
theorem bits_ne (F : Form) {a c : Nat} (ha : a < 2 ^ F.b) (hc : c < 2 ^ F.b) (h : a ≠ c) : 1 ≤ ham (bitsF F a) (bitsF F c) := by
  have hz := ham_zero (bitsF F a) (bitsF F c) (by rw [bitsF_len, bitsF_len])
  have : ¬ ham (bitsF F a) (bitsF F c) = 0 := fun e => by
    have e := hz.mp e
    have h1 := wordF_bits F a ha
    rw [e, wordF_bits F c hc] at h1
    exact h h1.symm
  omega
/-- unlike words' frames are apart at least so much -/
theorem fr_far (F : Form) {a c : Nat} (ha : a < 2 ^ F.b) (hc : c < 2 ^ F.b) (h : a ≠ c) : F.p * mF F.q ≤ ham (fr F a) (fr F c) := by
  rw [fr_ham, row_ham]
  have := bits_ne F ha hc h
  apply Nat.mul_le_mul_left
  unfold mF
  split
  · omega
  · by_cases h1 : ham (bitsF F a) (bitsF F c) = 1
    · rw [h1]; decide
    · omega
/-- .. some just so much -/
theorem fr_near (F : Form) {w : Nat} (hw : w < 2 ^ F.b) : ∃ c, c < 2 ^ F.b ∧ c ≠ w ∧ ham (fr F w) (fr F c) = F.p * mF F.q := by
  have hb := bitsF_len F w
  have h4 := F.hb
  cases hl : bitsF F w with
  | nil => rw [hl] at hb; simp at hb; omega
  | cons x l =>
    have hx : x < 2 := bitsF_lt F w x (by rw [hl]; exact List.mem_cons_self)
    have hlt : ∀ b ∈ (1 - x) :: l, b < 2 := fun b hm => by
      rcases List.mem_cons.mp hm with rfl | hm
      · omega
      · exact bitsF_lt F w b (by rw [hl]; exact List.mem_cons_of_mem _ hm)
    have hlen : ((1 - x) :: l).length = F.b := by rw [hl] at hb; simpa using hb
    have hbits := bits_wordF F ((1 - x) :: l) hlen hlt
    have hne : ham (bitsF F w) (bitsF F (wordF F ((1 - x) :: l))) = 1 := by
      rw [hbits, hl, ham_cons, ham_self, if_neg (by omega)]
    refine ⟨wordF F ((1 - x) :: l), wordF_lt F _ hlen hlt, fun e => ?_, ?_⟩
    · rw [e, ham_self] at hne; cases hne
    · rw [fr_ham, row_ham, hne]
      unfold mF
      split <;> rfl
/-! ### one sample turned -/
def flipAt (x : List Nat) (i : Nat) : List Nat := x.take i ++ [if x[i]? = some 48 then 49 else 48] ++ x.drop (i + 1)
theorem flip_cons (a : Nat) (x : List Nat) (i : Nat) : flipAt (a :: x) (i + 1) = a :: flipAt x i := by
  unfold flipAt
  simp
theorem flip_zero (a : Nat) (x : List Nat) : flipAt (a :: x) 0 = (if a = 48 then 49 else 48) :: x := by
  unfold flipAt
  simp
theorem flip_len (x : List Nat) (i : Nat) (h : i < x.length) : (flipAt x i).length = x.length := by
  unfold flipAt
  simp only [List.length_append, List.length_take, List.length_drop, List.length_cons, List.length_nil]
  omega
/-- by one nearer or by one farther -/
theorem flip_ham : ∀ (x y : List Nat) (i : Nat), i < x.length → x.length = y.length → (∀ c ∈ x, c = 48 ∨ c = 49) → (∀ c ∈ y, c = 48 ∨ c = 49) →
    (x[i]? ≠ y[i]? → ham (flipAt x i) y + 1 = ham x y) ∧ (x[i]? = y[i]? → ham (flipAt x i) y = ham x y + 1)
  | a :: x, b :: y, 0, _, hl, h1, h2 => by
    rw [flip_zero, ham_cons, ham_cons]
    have ha := h1 a List.mem_cons_self
    have hb := h2 b List.mem_cons_self
    constructor
    · intro hne
      have hne : ¬ a = b := by simpa using hne
      rw [if_neg hne]
      have : (if a = 48 then 49 else 48) = b := by split <;> omega
      rw [if_pos this]; omega
    · intro he
      have he : a = b := by simpa using he
      rw [if_pos he]
      have : ¬ (if a = 48 then 49 else 48) = b := by split <;> omega
      rw [if_neg this]; omega
  | a :: x, b :: y, i + 1, hi, hl, h1, h2 => by
    have ih := flip_ham x y i (by simpa using hi) (by simpa using hl) (fun c hc => h1 c (List.mem_cons_of_mem _ hc)) fun c hc => h2 c (List.mem_cons_of_mem _ hc)
    rw [flip_cons, ham_cons, ham_cons, List.getElem?_cons_succ, List.getElem?_cons_succ]
    constructor
    · intro hne
      have := ih.1 hne
      omega
    · intro he
      have := ih.2 he
      omega
theorem ham_pos_at : ∀ (x y : List Nat), x.length = y.length → 0 < ham x y → ∃ i, i < x.length ∧ x[i]? ≠ y[i]?
  | [], [], _, h => by rw [ham_nil] at h; omega
  | a :: x, b :: y, hl, h => by
    by_cases hab : a = b
    · rw [ham_cons, if_pos hab] at h
      obtain ⟨i, h1, h2⟩ := ham_pos_at x y (by simpa using hl) (by omega)
      exact ⟨i + 1, by simpa using h1, by simpa using h2⟩
    · exact ⟨0, by simp, by simpa using hab⟩
theorem flip_ok {x : List Nat} {i : Nat} (h : OkS x) (hi : i < x.length) : OkS (flipAt x i) := by
  refine ⟨by rw [flip_len x i hi]; exact h.one, by rw [flip_len x i hi]; exact h.le, fun c hc => ?_⟩
  unfold flipAt at hc
  rcases List.mem_append.mp hc with hc | hc
  · rcases List.mem_append.mp hc with hc | hc
    · exact h.bit c (List.mem_of_mem_take hc)
    · have := List.mem_singleton.mp hc
      split at this <;> omega
  · exact h.bit c (List.mem_of_mem_drop hc)
theorem flip_self (x : List Nat) (i : Nat) (h : OkS x) (hi : i < x.length) : ham (flipAt x i) x = 1 := by
  have := (flip_ham x x i hi rfl h.bit h.bit).2 rfl
  rw [this, ham_self]
/-- of a frame with one sample turned: its word alone is near just if frames are apart by more than two -/
theorem near_flip (F : Form) (w i : Nat) (hw : w < 2 ^ F.b) (hi : i < lng F) (h3 : 3 ≤ F.p * mF F.q) : nearL F (flipAt (fr F w) i) = [w] := by
  have hi' : i < (fr F w).length := by rw [fr_len]; exact hi
  have fo := fr_ok F w
  have hself : ham (fr F w) (flipAt (fr F w) i) = 1 := by rw [ham_comm]; exact flip_self _ i fo hi'
  have hfar : ∀ c, c < 2 ^ F.b → c ≠ w → 2 ≤ ham (fr F c) (flipAt (fr F w) i) := fun c hc hne => by
    have h1 := fr_far F hw hc fun e => hne e.symm
    have h2 := flip_ham (fr F w) (fr F c) i hi' (by rw [fr_len, fr_len]) fo.bit (fr_bit F c)
    rw [ham_comm]
    by_cases e : (fr F w)[i]? = (fr F c)[i]?
    · have := h2.2 e; omega
    · have := h2.1 e; omega
  have hmin : minN (hamL F (flipAt (fr F w) i)) = 1 := by
    have hm : 1 ∈ hamL F (flipAt (fr F w) i) := List.mem_map.mpr ⟨w, List.mem_range.mpr hw, hself⟩
    have h1 := minN_le hm
    have h2 := minN_mem (hamL_ne F (flipAt (fr F w) i))
    obtain ⟨c, hc, e⟩ := List.mem_map.mp h2
    have hc := List.mem_range.mp hc
    by_cases hcw : c = w
    · subst hcw
      rw [hself] at e; exact e.symm
    · have := hfar c hc hcw
      omega
  unfold nearL
  rw [hmin, ← filter_one (2 ^ F.b) w hw]
  apply List.filter_congr
  intro a ha
  apply decide_eq_decide.mpr
  have ha := List.mem_range.mp ha
  constructor
  · intro e
    apply Classical.byContradiction
    intro hne
    have := hfar a ha hne
    omega
  · intro e
    rw [e]; exact hself
theorem near_flip_no (F : Form) (w : Nat) (hw : w < 2 ^ F.b) (h2 : F.p * mF F.q ≤ 2) : ∃ i, i < lng F ∧ nearL F (flipAt (fr F w) i) ≠ [w] := by
  obtain ⟨c, hc, hcw, hd⟩ := fr_near F hw
  have hfar := fr_far F hw hc fun e => hcw e.symm
  have hp := F.hp
  have hm : 1 ≤ mF F.q := by unfold mF; split <;> omega
  have hpos : 1 ≤ F.p * mF F.q := Nat.mul_le_mul hp hm
  obtain ⟨i, hi, hne⟩ := ham_pos_at (fr F w) (fr F c) (by rw [fr_len, fr_len]) (by omega)
  have fo := fr_ok F w
  have h1 := (flip_ham (fr F w) (fr F c) i hi (by rw [fr_len, fr_len]) fo.bit (fr_bit F c)).1 hne
  refine ⟨i, by rw [fr_len] at hi; exact hi, fun e => ?_⟩
  have hself : ham (fr F w) (flipAt (fr F w) i) = 1 := by rw [ham_comm]; exact flip_self _ i fo hi
  have hcc : ham (fr F c) (flipAt (fr F w) i) ≤ 1 := by rw [ham_comm]; omega
  have hin : ∀ a, a ∈ nearL F (flipAt (fr F w) i) ↔ a < 2 ^ F.b ∧ ham (fr F a) (flipAt (fr F w) i) = minN (hamL F (flipAt (fr F w) i)) := fun a => by
    unfold nearL
    rw [List.mem_filter, List.mem_range, decide_eq_true_eq]
  have hww := (hin w).mp (by rw [e]; exact List.mem_singleton.mpr rfl)
  have hmc : minN (hamL F (flipAt (fr F w) i)) ≤ ham (fr F c) (flipAt (fr F w) i) := minN_le (List.mem_map.mpr ⟨c, List.mem_range.mpr hc, rfl⟩)
  have hcin := (hin c).mpr ⟨hc, by omega⟩
  rw [e] at hcin
  exact hcw (List.mem_singleton.mp hcin)
end Wi

/-! runs -/
namespace Wi
def rn : List Nat → List (Nat × Nat)
  | [] => []
  | s :: x => match rn x with
    | [] => [(s, 1)]
    | (t, n) :: r => if t = s then (t, n + 1) :: r else (s, 1) :: (t, n) :: r
/-- one sign more behind; runs the other way round -/
def stR (A : List (Nat × Nat)) (s : Nat) : List (Nat × Nat) := match A with
  | [] => [(s, 1)]
  | (t, n) :: r => if t = s then (t, n + 1) :: r else (s, 1) :: (t, n) :: r
def jn (t n : Nat) (R : List (Nat × Nat)) : List (Nat × Nat) := match R with
  | [] => [(t, n)]
  | (u, m) :: q => if u = t then (t, n + m) :: q else (t, n) :: (u, m) :: q
theorem rn_cons (s : Nat) (x : List Nat) : rn (s :: x) = jn s 1 (rn x) := by
  show (match rn x with | [] => _ | (t, n) :: r => _) = _
  cases h : rn x with
  | nil => rfl
  | cons p r =>
    obtain ⟨t, n⟩ := p
    unfold jn
    by_cases e : t = s
    · subst e; simp [Nat.add_comm]
    · simp [e]
theorem jn_jn (t n m : Nat) (R : List (Nat × Nat)) : jn t n (jn t m R) = jn t (n + m) R := by
  cases R with
  | nil => simp [jn]
  | cons p r =>
    obtain ⟨u, k⟩ := p
    unfold jn
    by_cases e : u = t
    · subst e; simp [Nat.add_assoc]
    · simp [e]
theorem jn_ne (t n s m : Nat) (R : List (Nat × Nat)) (h : s ≠ t) : jn t n (jn s m R) = (t, n) :: jn s m R := by
  cases R with
  | nil => simp [jn, h]
  | cons p r =>
    obtain ⟨u, k⟩ := p
    unfold jn
    by_cases e : u = s
    · subst e; simp [h]
    · simp [e, h]
theorem stR_fold : ∀ (x : List Nat) (t n : Nat) (r : List (Nat × Nat)), (x.foldl stR ((t, n) :: r)).reverse = r.reverse ++ jn t n (rn x)
  | [], t, n, r => by simp [rn, jn]
  | s :: x, t, n, r => by
    rw [List.foldl_cons, rn_cons]
    have hst : stR ((t, n) :: r) s = if t = s then (t, n + 1) :: r else (s, 1) :: (t, n) :: r := rfl
    rw [hst]
    by_cases e : t = s
    · subst e
      simp only [↓reduceIte]
      rw [stR_fold x t (n + 1) r, jn_jn]
    · simp only [e, ↓reduceIte]
      rw [stR_fold x s 1 ((t, n) :: r), jn_ne _ _ _ _ _ (fun h => e h.symm), List.reverse_cons, List.append_assoc]; rfl
theorem stR_run (x : List Nat) : (x.foldl stR []).reverse = rn x := by
  cases x with
  | nil => rfl
  | cons s x => rw [List.foldl_cons, rn_cons]; exact stR_fold x s 1 []
theorem stR_len : ∀ (x : List Nat) (A : List (Nat × Nat)), (x.foldl stR A).length ≤ A.length + x.length
  | [], A => Nat.le_refl _
  | s :: x, A => by
    have := stR_len x (stR A s)
    have h2 : (stR A s).length ≤ A.length + 1 := by
      unfold stR
      split
      · exact Nat.le_refl _
      · split <;> simp
    rw [List.foldl_cons, List.length_cons]; omega
theorem rn_len (x : List Nat) : (rn x).length ≤ x.length := by
  have := stR_len x []
  rw [← stR_run, List.length_reverse]; simpa using this
theorem rn_ne {x : List Nat} (h : x ≠ []) : rn x ≠ [] := by
  cases x with
  | nil => exact absurd rfl h
  | cons s x =>
    rw [rn_cons]; unfold jn
    split
    · simp
    · split <;> simp
/-! what runs are -/
def unR (l : List (Nat × Nat)) : List Nat := (l.map fun p => List.replicate p.2 p.1).flatten
theorem unR_jn (t n : Nat) (R : List (Nat × Nat)) : unR (jn t n R) = List.replicate n t ++ unR R := by
  cases R with
  | nil => simp [jn, unR]
  | cons p r =>
    obtain ⟨u, k⟩ := p
    unfold jn
    by_cases e : u = t
    · subst e
      simp [unR, List.replicate_append_replicate, ← List.append_assoc]
    · simp [e, unR]
theorem unR_rn : ∀ x : List Nat, unR (rn x) = x
  | [] => rfl
  | s :: x => by rw [rn_cons, unR_jn, unR_rn x]; rfl
theorem jn_pos {t n : Nat} {R : List (Nat × Nat)} (hn : 0 < n) (h : ∀ p ∈ R, 0 < p.2) : ∀ p ∈ jn t n R, 0 < p.2 := by
  intro p hp
  unfold jn at hp
  split at hp
  · simp at hp; subst hp; exact hn
  · rename_i u m q
    split at hp
    · rcases List.mem_cons.mp hp with hp | hp
      · subst hp; show 0 < n + m; omega
      · exact h p (List.mem_cons_of_mem _ hp)
    · rcases List.mem_cons.mp hp with hp | hp
      · subst hp; exact hn
      · exact h p hp
theorem rn_pos : ∀ x : List Nat, ∀ p ∈ rn x, 0 < p.2
  | [] => by intro p hp; cases hp
  | s :: x => by rw [rn_cons]; exact jn_pos (by omega) (rn_pos x)
theorem jn_sign {t n : Nat} {R : List (Nat × Nat)} {p : Nat × Nat} (hp : p ∈ jn t n R) : p.1 = t ∨ p ∈ R := by
  unfold jn at hp
  split at hp
  · simp at hp; subst hp; exact .inl rfl
  · split at hp
    · rcases List.mem_cons.mp hp with hp | hp
      · subst hp; exact .inl rfl
      · exact .inr (List.mem_cons_of_mem _ hp)
    · rcases List.mem_cons.mp hp with hp | hp
      · subst hp; exact .inl rfl
      · exact .inr hp
theorem rn_sign : ∀ x : List Nat, ∀ p ∈ rn x, p.1 ∈ x
  | [] => by intro p hp; cases hp
  | s :: x => by
    intro p hp
    rw [rn_cons] at hp
    rcases jn_sign hp with h | h
    · rw [h]; exact List.mem_cons_self
    · exact List.mem_cons_of_mem _ (rn_sign x p h)
/-- neighbours are unlike -/
def altR : List (Nat × Nat) → Prop
  | p :: q :: l => p.1 ≠ q.1 ∧ altR (q :: l)
  | _ => True
theorem altR_jn (t n : Nat) (R : List (Nat × Nat)) (h : altR R) : altR (jn t n R) := by
  cases R with
  | nil => trivial
  | cons p r =>
    obtain ⟨u, k⟩ := p
    unfold jn
    by_cases e : u = t
    · subst e
      simp only [↓reduceIte]
      cases r with
      | nil => trivial
      | cons q r => exact h
    · simp only [e, ↓reduceIte]
      exact ⟨fun h => e h.symm, h⟩
theorem altR_rn : ∀ x : List Nat, altR (rn x)
  | [] => trivial
  | s :: x => by rw [rn_cons]; exact altR_jn _ _ _ (altR_rn x)
theorem rn_rep (s : Nat) (y : List Nat) : ∀ n, rn (List.replicate (n + 1) s ++ y) = jn s (n + 1) (rn y)
  | 0 => rn_cons s y
  | n + 1 => by
    rw [List.replicate_succ, List.cons_append, rn_cons, rn_rep s y n, jn_jn, Nat.add_comm 1]
theorem rn_rep' (s : Nat) (y : List Nat) {n : Nat} (h : 0 < n) : rn (List.replicate n s ++ y) = jn s n (rn y) := by
  obtain ⟨m, rfl⟩ : ∃ m, n = m + 1 := ⟨n - 1, by omega⟩
  exact rn_rep s y m
/-- runs told are the runs -/
theorem rn_unR : ∀ R : List (Nat × Nat), altR R → (∀ p ∈ R, 0 < p.2) → rn (unR R) = R
  | [], _, _ => rfl
  | (t, n) :: R, ha, hp => by
    have e : unR ((t, n) :: R) = List.replicate n t ++ unR R := rfl
    have hn : 0 < n := hp _ List.mem_cons_self
    have ha' : altR R := by
      cases R with
      | nil => trivial
      | cons q R => exact ha.2
    rw [e, rn_rep' t _ hn, rn_unR R ha' fun p h => hp p (List.mem_cons_of_mem _ h)]
    cases R with
    | nil => rfl
    | cons q R =>
      obtain ⟨u, m⟩ := q
      unfold jn
      have : ¬ u = t := fun h => ha.1 h.symm
      simp [this]
/-! multiples -/
theorem jn_all {P : Nat × Nat → Prop} {t n : Nat} {R : List (Nat × Nat)} (h0 : P (t, n)) (h1 : ∀ m, (t, m) ∈ R → P (t, m) → P (t, n + m)) (h : ∀ p ∈ R, P p) : ∀ p ∈ jn t n R, P p := by
  intro p hp
  unfold jn at hp
  split at hp
  · simp at hp; subst hp; exact h0
  · rename_i u m q
    split at hp
    · rename_i e
      subst e
      rcases List.mem_cons.mp hp with hp | hp
      · subst hp; exact h1 m List.mem_cons_self (h _ List.mem_cons_self)
      · exact h p (List.mem_cons_of_mem _ hp)
    · rcases List.mem_cons.mp hp with hp | hp
      · subst hp; exact h0
      · exact h p hp
theorem rn_tks (p : Nat) (hp : 0 < p) (P : Nat × Nat → Prop) (h0 : ∀ t, P (t, p)) (h1 : ∀ t m, P (t, m) → P (t, p + m)) (y : List Nat) (hy : ∀ q ∈ rn y, P q) : ∀ l : List Nat, ∀ q ∈ rn (tks p l ++ y), P q
  | [] => hy
  | b :: l => by
    have e : tks p (b :: l) ++ y = List.replicate p (48 + b) ++ (tks p l ++ y) := by rw [tks_cons, List.append_assoc]
    rw [e, rn_rep' _ _ hp]
    exact jn_all (h0 _) (fun m _ h => h1 _ m h) (rn_tks p hp P h0 h1 y hy l)
theorem rn_fr (F : Form) (w : Nat) : ∀ q ∈ rn (fr F w), q.2 % F.p = 0 := by
  have hp : 0 < F.p := by have := F.hp; omega
  have := rn_tks F.p hp (fun q => q.2 % F.p = 0) (fun _ => Nat.mod_self _) (fun _ m h => by show (F.p + m) % F.p = 0; rw [Nat.add_mod_left]; exact h) [] (by intro q hq; cases hq) (row F w)
  rwa [List.append_nil] at this
theorem rn_sentL (F : Form) : ∀ (l : List (Nat × Nat)) (rest : Nat), ∀ q ∈ rn (sentL F l rest), q.1 = 48 → q.2 % F.p = 0 := by
  have hp : 0 < F.p := by have := F.hp; omega
  have gap : ∀ (g : Nat) (y : List Nat), (∀ q ∈ rn y, q.1 = 48 → q.2 % F.p = 0) → ∀ q ∈ rn (List.replicate g 49 ++ y), q.1 = 48 → q.2 % F.p = 0 := by
    intro g y h
    cases g with
    | zero => exact h
    | succ g =>
      rw [rn_rep]
      exact jn_all (P := fun q => q.1 = 48 → q.2 % F.p = 0) (fun h => by simp at h) (fun m _ _ h => by simp at h) h
  intro l
  induction l with
  | nil =>
    intro rest
    have := gap rest [] (by intro q hq; cases hq)
    rwa [List.append_nil] at this
  | cons p l ih =>
    intro rest
    have e : sentL F (p :: l) rest = List.replicate p.1 49 ++ (fr F p.2 ++ sentL F l rest) := by
      cases p; simp [sentL]
    rw [e]
    refine gap _ _ ?_
    exact rn_tks F.p hp (fun q => q.1 = 48 → q.2 % F.p = 0) (fun _ _ => Nat.mod_self _) (fun _ m h h' => by show (F.p + m) % F.p = 0; rw [Nat.add_mod_left]; exact h h') _ (ih rest) (row F p.2)
/-! falls -/
def isFall (x : List Nat) (i : Nat) : Bool := decide (x[i]? = some 48) && (decide (i = 0) || decide (x[i - 1]? = some 49))
def fallsL (x : List Nat) : List Nat := (List.range x.length).filter (isFall x)
def fF (pv i : Nat) : List Nat → List Nat
  | [] => []
  | s :: x => if s = 48 ∧ pv = 49 then i :: fF s (i + 1) x else fF s (i + 1) x
theorem falls_from : ∀ (x pre : List Nat), (List.range' pre.length x.length).filter (isFall (pre ++ x)) = fF (pre.getLast?.getD 49) pre.length x
  | [], pre => rfl
  | s :: x, pre => by
    have ih := falls_from x (pre ++ [s])
    rw [List.append_assoc, List.length_append] at ih
    have e1 : (pre ++ [s]).getLast?.getD 49 = s := by simp
    rw [e1] at ih
    rw [List.length_cons, List.range'_succ, List.filter_cons, show pre ++ s :: x = pre ++ ([s] ++ x) from rfl]
    have ih : (List.range' (pre.length + 1) x.length).filter (isFall (pre ++ ([s] ++ x))) = fF s (pre.length + 1) x := ih
    rw [ih]
    have h1 : (pre ++ ([s] ++ x))[pre.length]? = some s := by simp
    have h2 : isFall (pre ++ ([s] ++ x)) pre.length = decide (s = 48 ∧ pre.getLast?.getD 49 = 49) := by
      unfold isFall
      rw [h1]
      rcases List.eq_nil_or_concat pre with hp | ⟨p, c, hp⟩
      · subst hp; simp
      · rw [List.concat_eq_append] at hp
        subst hp
        have : (p ++ [c] ++ ([s] ++ x))[(p ++ [c]).length - 1]? = some c := by simp
        rw [this]
        simp
    rw [h2]
    show _ = if s = 48 ∧ _ then _ else _
    by_cases h : s = 48 ∧ pre.getLast?.getD 49 = 49
    · rw [decide_eq_true h, if_pos rfl, if_pos h]
    · rw [decide_eq_false h, if_neg h, if_neg (by decide)]
theorem falls_fF (x : List Nat) : fallsL x = fF 49 0 x := by
  have := falls_from x []
  rw [List.nil_append] at this
  unfold fallsL
  rw [List.range_eq_range']
  exact this
def zeroR (R : List (Nat × Nat)) : List (Nat × Nat) := R.filter fun p => decide (p.1 = 48)
theorem fF_len : ∀ (x : List Nat), (∀ c ∈ x, c = 48 ∨ c = 49) → ∀ i, (fF 49 i x).length = (zeroR (rn x)).length ∧ (fF 48 i x).length + (if x.head? = some 48 then 1 else 0) = (zeroR (rn x)).length
  | [], _, i => ⟨rfl, rfl⟩
  | s :: x, h, i => by
    obtain ⟨h1, h2⟩ := fF_len x (fun c hc => h c (List.mem_cons_of_mem _ hc)) (i + 1)
    have hz : (zeroR (rn (s :: x))).length = (if s = 48 ∧ ¬ x.head? = some 48 then 1 else 0) + (zeroR (rn x)).length := by
      rw [rn_cons]
      cases x with
      | nil =>
        rcases h s List.mem_cons_self with h | h <;> subst h <;> rfl
      | cons c x =>
        have hc := h c (by simp)
        have hs := h s List.mem_cons_self
        rw [rn_cons]
        obtain ⟨n, r, e⟩ : ∃ n r, jn c 1 (rn x) = (c, n) :: r := by
          unfold jn
          split
          · exact ⟨_, _, rfl⟩
          · split
            · exact ⟨_, _, rfl⟩
            · exact ⟨_, _, rfl⟩
        rw [e]
        rcases hs with hs | hs <;> rcases hc with hc | hc <;> subst hs <;> subst hc <;> simp [jn, zeroR] <;> omega
    rcases h s List.mem_cons_self with hs | hs
    · subst hs
      rw [hz]
      by_cases e : x.head? = some 48
      · simp [fF, e] at h1 h2 ⊢; omega
      · simp [fF, e] at h1 h2 ⊢; omega
    · subst hs
      rw [hz]
      simp [fF] at h1 h2 ⊢
      exact h1
theorem falls_len (x : List Nat) (h : ∀ c ∈ x, c = 48 ∨ c = 49) : (fallsL x).length = (zeroR (rn x)).length := by
  rw [falls_fF]; exact (fF_len x h 0).1
theorem fr_last (F : Form) (w : Nat) : ∃ r, fr F w = r ++ [49] := by
  have hs := F.hs
  have hp := F.hp
  obtain ⟨m, hm⟩ : ∃ m, F.s = m + 1 := ⟨F.s - 1, by omega⟩
  obtain ⟨n, hn⟩ : ∃ n, F.p = n + 1 := ⟨F.p - 1, by omega⟩
  have e : row F w = (0 :: (bitsF F w ++ parityB F.q (bitsF F w) ++ List.replicate m 1)) ++ [1] := by
    unfold row
    rw [hm, List.replicate_succ', List.cons_append, List.append_assoc, List.append_assoc, List.append_assoc]
  have e2 : tks F.p [1] = List.replicate n 49 ++ [49] := by
    rw [tks_cons, hn, List.replicate_succ']
    show _ ++ [] = _
    rw [List.append_nil]
  refine ⟨tks F.p (0 :: (bitsF F w ++ parityB F.q (bitsF F w) ++ List.replicate m 1)) ++ List.replicate n 49, ?_⟩
  unfold fr
  rw [e, tks_app, e2]
  exact (List.append_assoc _ _ _).symm
theorem mem_falls (pre y : List Nat) (h : pre = [] ∨ ∃ r, pre = r ++ [49]) : pre.length ∈ fallsL (pre ++ 48 :: y) := by
  unfold fallsL
  rw [List.mem_filter, List.mem_range]
  refine ⟨by simp, ?_⟩
  unfold isFall
  have h1 : (pre ++ 48 :: y)[pre.length]? = some 48 := by simp
  rw [h1]
  rcases h with h | ⟨r, h⟩
  · subst h; rfl
  · subst h
    have : (r ++ [49] ++ 48 :: y)[(r ++ [49]).length - 1]? = some 49 := by simp
    rw [this]; simp
theorem falls_fr (F : Form) (w : Nat) : (fallsL (fr F w))[0]? = some 0 := by
  obtain ⟨r, e⟩ := fr_head F w
  rw [falls_fF, e]
  show (if (48 : Nat) = 48 ∧ 49 = 49 then _ else _)[0]? = _
  simp
end Wi

/-! runs, falls -/
namespace Wi
local macro_rules
  | `(tactic| simp! [$ls,*]) => `(tactic| simp -implicitDefEqProofs (maxSteps := 10000000) (disch := first | assumption | (simp -implicitDefEqProofs only [dp_non, dp_bl, dp_int, dp_str, dp_tup, dp_lst, dpl_nil, dpl_cons, fd_dep, ref_dep, n_dep, dep_nL, depL_nL, len_nL, len_repL, List.length_append, List.length_cons, List.length_nil, List.length_replicate, List.length_reverse, List.length_set, List.length_map, List.length_range, Nat.reduceAdd, Nat.reduceMul, Nat.reduceLT, Nat.reduceLeDiff, Nat.zero_le, true_or, or_true, List.getElem?_cons_succ, List.getElem?_cons_zero]; done) | omega | (simp -implicitDefEqProofs only [dp_non, dp_bl, dp_int, dp_str, dp_tup, dp_lst, dpl_nil, dpl_cons, fd_dep, ref_dep, n_dep, dep_nL, depL_nL, len_nL, len_repL, List.length_append, List.length_cons, List.length_nil, List.length_replicate, List.length_reverse, List.length_set, List.length_map, List.length_range, Nat.reduceAdd, Nat.reduceMul]; omega)) only [rdK_scr, frz_scr, pkK_scr, pkK_shr, lstK_shr, appK_shr, town_init', List.nil_append, q_bok, q_berr, q_bexc, q_bite, q_onB, q_nx, q_rt, q_ct, q_fz, q_frv, q_frfl, q_frro, q_frshr, q_frfn, q_oo, q_on, q_oite, q_and, q_or, n_eq, k_0, k_1, k_2, k_3, k_4, k_5, k_6, k_7, k_8, k_9, k_10, k_11, k_12, k_13, k_14, k_15, k_16, k_20, k_30, k_31, k_32, k_33, k_40, k_41, k_59, k_60, k_61, k_63, k_64, k_70, k_80, k_90, k_100, k_101, k_120, k_150, k_180, k_190, k_194, k_195, k_200, k_201, k_7919, k_9973, k_9999, k_12345, k_100000, k_104729, k_999961, k_999979, k_999983, k_1103515245, k_2147483647, e_const, e_glob, e_slot', rdK_v, rdK_fl, rdK_ro, rdK_shr, rdK_exc, e_bin, e_neg', ngK_n, partI', ptK_n, ptK_i, ptK_t, nb_non, nb_int, nb_slot, nb_bin, nb_neg, nb_call, nb_subS, nb_sub, nb_lenS, cutS, cutT, cutLs, cut_nn, cut_0n, cut_n0, cut_0m, e_not, e_and, e_or, e_ite, e_cmp, e_cmp2, e_cmpS, e_inS, e_tup, e_lst, q_mm0, q_mm1, q_om, e_pick, pick_par3, e_call, e_sel', selK_n, selN_s, e_bi, e_lenS, e_join, e_meth, e_sub, e_subS, e_cut, e_rev, e_isin, es_nil, es_cons, i_val, i_range1', i_range2', i_range3', i_enum, i_zip, x_nil, x_cons, x_set, x_shr, x_unp, x_par, x_expr, x_app, x_ext, x_put, x_ite, x_for', x_while', forB_nil, q_set1, q_setN, q_puts0, q_puts, q_putsR0, q_putsR, x_ret, x_retS', rsK_s, x_raise, x_cont, x_pass, x_try', tryK_ok, tryK_exc0, tryK_ite, handed', handedC, hdK_ok, put_if, q_callR, q_eR1, q_eR2, q_eR3, q_eRi, q_e1, q_e2, q_e3, q_ei, n_add, n_mul, n_sub, n_mod, n_div, n_lt, n_le, n_gt, n_ge, n_deq, n_dep, n_ty, n_tyb, n_tys, n_tyt, n_tyl, t_nil, t_cons, deq_refl, ref_eq, ref_deq, ref_dep, ty_int_non, ty_int_bl, ty_int_str, ty_int_tup, ty_int_lst, ty_int_int, ty_bool_non, ty_bool_bl, ty_bool_str, ty_bool_tup, ty_bool_lst, ty_bool_int, ty_str_non, ty_str_bl, ty_str_str, ty_str_tup, ty_str_lst, ty_str_int, ty_tuple_non, ty_tuple_bl, ty_tuple_str, ty_tuple_tup, ty_tuple_lst, ty_tuple_int, ty_list_non, ty_list_bl, ty_list_str, ty_list_tup, ty_list_lst, ty_list_int, q_eq, q_ne, q_in, q_inl, q_nin, q_ninl, dep_nL, fd_0, fd_1, fd_2, fd_3, fd_4, fd_t, fd_seq, fd_len, fd_dep, ord_low, ord_in, par_in, par_none, par_even, par_odd, n_addS, n_addT, n_addL, n_mulS, n_mulL, n_sum, n_len, n_intb, n_inti, n_tupl, n_lstt, n_lstl, n_str, revD_l, nL_rev, nL_app, app1', appK_fl, ext1', extK_fl, lstAt', lstK_fl, q_isN, q_notN, nn_nI, nn_non, nn_bl, nn_str, nn_tup, nn_lst, n_subT, n_subL, n_subF, n_subS, rgK_n, rg2K_n, ↓reduceIte, Bool.false_eq_true, List.length_map, List.length_cons, List.length_nil, List.getElem?_cons_zero, List.getElem?_cons_succ, List.getElem?_nil, List.set_cons_zero, List.set_cons_succ, Option.map_some, Option.map_none, Option.bind_some, Option.bind_none, Option.isSome_some, Nat.reduceAdd, Nat.reduceLT, Nat.reduceLeDiff, Nat.reduceSub, Nat.reduceMul, Nat.reduceEqDiff, decide_true, decide_false, Bool.true_and, Bool.and_true, Bool.false_and, Bool.and_false, Bool.or_true, Bool.true_or, Bool.false_or, Bool.or_false, Bool.not_true, Bool.not_false, peek', pkK_v, pkK_fl, pkK_ro, len_s, len_t, len_l, len_f, len_r, seq_t, seq_l, Bool.decide_eq_true, unV, $ls,*])
theorem deq_one (a b : Nat) : deq (.str [a]) (.str [b]) = decide (a = b) := by
  have : deq (.str [a]) (.str [b]) = ([a] == [b]) := rfl
  rw [this]
  by_cases h : a = b
  · subst h; simp
  · simp [h]
def rnD (l : List (Nat × Nat)) : List D := l.map fun p => .tup [.str [p.1], nI p.2]
theorem rnD_len (l : List (Nat × Nat)) : (rnD l).length = l.length := by simp [rnD]
theorem rnD_snoc (l : List (Nat × Nat)) (p : Nat × Nat) : rnD (l ++ [p]) = rnD l ++ [.tup [.str [p.1], nI p.2]] := by simp [rnD]
theorem depL_rn : ∀ l : List (Nat × Nat), D.depL (rnD l) ≤ 1
  | [] => Nat.zero_le _
  | p :: l => by
    exact Nat.max_le.mpr ⟨Nat.le_refl 1, depL_rn l⟩
def putK' (o : Option (Option Rv)) (i : Nat) (k w : Rv) (sl : List (Option Rv)) (sh : Sh) : Res Fl :=
  match o, k, w with
  | some (some (.fl ds)), .v (.int j), .v w => match ixN ds.length j with
    | some n => .ok .nx ⟨sl.set i (some (.fl (ds.set n w))), sh⟩
    | none => .err
  | some (some (.fd ks vs)), .v k, .v w => if k.dep ≤ 8 ∧ ks.length < LIM then let r := putK k w ks vs; .ok .nx ⟨sl.set i (some (.fd r.1 r.2)), sh⟩ else .err
  | _, _, _ => .err
theorem put1' (i : Nat) (k w : Rv) (sl : List (Option Rv)) (sh : Sh) : put1 i k w ⟨sl, sh⟩ = putK' sl[i]? i k w sl sh := rfl
theorem ix_last (n : Nat) : ixN (n + 1) (-((1 : Nat) : Int)) = some n := by
  unfold ixN
  rw [if_neg (by omega), if_pos (by omega)]
  congr 1
  omega
theorem sub_last (l : List D) (d : D) : subD (.fl (l ++ [d])) (.v (.int (-((1 : Nat) : Int)))) = some (.v d) := by
  show (atL (l ++ [d]) _).map Rv.v = _
  unfold atL
  rw [List.length_append, show [d].length = 1 from rfl, ix_last]
  simp
theorem sub_lastL (l : List D) (d : D) : subD (.v (.lst (l ++ [d]))) (.v (.int (-((1 : Nat) : Int)))) = some (.v d) := sub_last l d
theorem put_last (i : Nat) (l : List D) (d w : D) (sl : List (Option Rv)) (sh : Sh) : putK' (some (some (.fl (l ++ [d])))) i (.v (.int (-((1 : Nat) : Int)))) (.v w) sl sh = .ok .nx ⟨sl.set i (some (.fl (l ++ [w]))), sh⟩ := by
  show (match ixN (l ++ [d]).length _ with | some n => _ | none => _) = _
  rw [List.length_append, show [d].length = 1 from rfl, ix_last]
  simp
theorem ne_snoc (l : List D) (d : D) : deq (.lst (l ++ [d])) (.lst []) = false := by cases l <;> rfl
theorem put_at (i : Nat) (l : List D) (n : Nat) (w : D) (sl : List (Option Rv)) (sh : Sh) (h : n < l.length) : putK' (some (some (.fl l))) i (.v (nI n)) (.v w) sl sh = .ok .nx ⟨sl.set i (some (.fl (l.set n w))), sh⟩ := by
  show (match ixN l.length (n : Int) with | some n => _ | none => _) = _
  have : ixN l.length (n : Int) = some n := by
    unfold ixN; rw [if_pos (by omega), if_pos (by omega)]; rfl
  rw [this]
theorem inl_n (a : Nat) : ∀ l : List Nat, inL (nI a) (nL l) = decide (a ∈ l)
  | [] => rfl
  | x :: l => by
    show (deq (nI x) (nI a) || inL (nI a) (nL l)) = _
    rw [inl_n a l, n_deq]
    by_cases h : x = a
    · subst h; simp
    · have : ¬ a = x := fun e => h e.symm
      simp [h, this]
theorem law_long2_ok (k : Nat) (F : Form) (sh : Sh) : callN MT (k + 2) 129 [.v F.d] sh = .ok (.v (nI (lng F))) sh := by
  rw [u_law_long_2]; unfold b_law_long_2
  have h1 := fr_len F 0
  have h2 := lng_le F
  simp! [law_frame2_ok, h1]
theorem o_some (Γ : Gam) (e : E) (s : St) : evO Γ (.some e) s = (ev Γ e s).bind fun r s => match r with | .v (.bl b) => .ok b s | _ => .err := rfl
section runs
theorem runs_loop (k : Nat) (y0 : Option Rv) (sh : Sh) : ∀ (x : List Nat) (A : List (Nat × Nat)) (x2 : Option Rv), A.length + x.length ≤ 1000 →
    ∃ x2', forB (callN MT k) [2] true l_runs_of_0 (x.map fun c => .str [c]) ⟨[y0, some (.fl (rnD A.reverse)), x2], sh⟩ = .ok .nx ⟨[y0, some (.fl (rnD (x.foldl stR A).reverse)), x2'], sh⟩
  | [], A, x2, _ => ⟨x2, rfl⟩
  | c :: x, A, x2, h => by
    rw [List.length_cons] at h
    have hl : (stR A c).length ≤ A.length + 1 := by
      have := stR_len [c] A
      exact this
    obtain ⟨x2', e⟩ := runs_loop k y0 sh x (stR A c) (some (.v (.str [c]))) (by omega)
    refine ⟨x2', ?_⟩
    refine (for_step (fl := .nx) (s1 := ⟨[y0, some (.fl (rnD A.reverse)), some (.v (.str [c]))], sh⟩) rfl ?_ rfl).trans e
    unfold l_runs_of_0
    cases A with
    | nil => simp! [rnD, stR, List.reverse_nil, List.map_nil, List.reverse_cons, List.map_append, List.map_cons]
    | cons p r =>
      obtain ⟨t, n⟩ := p
      rw [List.length_cons] at h
      have hst : stR ((t, n) :: r) c = if t = c then (t, n + 1) :: r else (c, 1) :: (t, n) :: r := rfl
      have hd : deq (.str [t]) (.str [c]) = decide (t = c) := deq_one _ _
      have e1 : rnD ((t, n) :: r).reverse = rnD r.reverse ++ [.tup [.str [t], nI n]] := by rw [List.reverse_cons, rnD_snoc]
      have hlr := rnD_len r.reverse
      rw [List.length_reverse] at hlr
      rw [hst, e1]
      by_cases ht : t = c
      · subst ht
        have e2 : rnD ((t, n + 1) :: r).reverse = rnD r.reverse ++ [.tup [.str [t], nI (n + 1)]] := by rw [List.reverse_cons, rnD_snoc]
        simp! [ne_snoc, sub_last, hd, put1', put_last, e2]
      · have e2 : rnD ((c, 1) :: (t, n) :: r).reverse = rnD r.reverse ++ [.tup [.str [t], nI n]] ++ [.tup [.str [c], nI 1]] := by rw [List.reverse_cons, rnD_snoc, List.reverse_cons, rnD_snoc]
        simp! [ne_snoc, sub_last, hd, ht, put1', put_last, e2]
theorem runs_of_ok (k : Nat) (x : List Nat) (hl : x.length ≤ 1000) (sh : Sh) : callN MT (k + 1) 121 [.v (.str x)] sh = .ok (.fl (rnD (rn x))) sh := by
  rw [u_runs_of]; unfold b_runs_of
  obtain ⟨x2, e⟩ := runs_loop k (some (.v (.str x))) sh x [] none (by simpa using hl)
  rw [stR_run] at e
  have e : forB (callN MT k) [2] true l_runs_of_0 (x.map fun c => .str [c]) ⟨[some (.v (.str x)), some (.fl []), none], sh⟩ = _ := e
  simp! [itD, e]
theorem runs_ok (k : Nat) (x : List Nat) (h : OkS x) (sh : Sh) : callN MT (k + 2) 122 [.v (.str x)] sh = .ok (.fl (rnD (rn x))) sh := by
  rw [u_runs]; unfold b_runs
  simp! [need_samples_ok _ x h, runs_of_ok _ x (by have := h.le; omega)]
theorem falls_c (k : Nat) (x : List Nat) (hl : x.length ≤ 1000) (sh : Sh) : ev (callN MT k) c_falls_0 ⟨[some (.v (.str x)), none], sh⟩ = .ok (.fl (nL (fallsL x))) ⟨[some (.v (.str x)), none], sh⟩ := by
  unfold c_falls_0 fallsL
  refine comp_gen (enc := nI) (l := List.range x.length) (fun z => ⟨[some (.v (.str x)), z], sh⟩) (fun a => some (.v (nI a))) nI (isFall x) (by simp! []; rfl) none rfl rfl (by simp; omega) (fun _ _ _ => rfl) ?_ ?_ (fun _ => rfl)
  · intro a ha
    have ha := List.mem_range.mp ha
    have e1 : x[a]? = some x[a] := List.getElem?_eq_getElem ha
    have h48 : ∀ c : Nat, deq (.str [c]) (.str [48]) = decide (c = 48) := fun c => deq_one _ _
    have h49 : ∀ c : Nat, deq (.str [c]) (.str [49]) = decide (c = 49) := fun c => deq_one _ _
    show (ev _ _ _).bind _ = _
    unfold isFall
    cases a with
    | zero => simp! [e1, h48, h49, Option.some.injEq]
    | succ a =>
      have e2 : x[a]? = some x[a] := List.getElem?_eq_getElem (by omega)
      have hz : ¬ a + 1 = 0 := by omega
      have es : a + 1 - 1 = a := by omega
      simp! [e1, h48, h49, hz, es, e2, Option.some.injEq]
  · intro a ha _
    simp! []
theorem falls_ok (k : Nat) (x : List Nat) (h : OkS x) (sh : Sh) : callN MT (k + 2) 126 [.v (.str x)] sh = .ok (.fl (nL (fallsL x))) sh := by
  rw [u_falls]; unfold b_falls
  have := h.le
  simp! [need_samples_ok _ x h, falls_c _ x (by omega)]
end runs
end Wi

/-! texts in order; samples numbered -/
namespace Wi
/-! ### the order of texts -/
theorem lx_cons (a b : Nat) (x y : List Nat) : (a :: x < b :: y) ↔ (a < b ∨ a = b ∧ x < y) := List.cons_lt_cons_iff
theorem lx_irr (x : List Nat) : ¬ x < x := by
  induction x with
  | nil => exact fun h => by cases h
  | cons a x ih =>
    rw [lx_cons]
    rintro (h | ⟨_, h⟩)
    · omega
    · exact ih h
theorem lx_nil (x : List Nat) : ¬ x < [] := fun h => by cases h
theorem lx_pos (a : Nat) (x : List Nat) : [] < a :: x := List.Lex.nil
theorem lx_trans : ∀ {x y z : List Nat}, x < y → y < z → x < z
  | [], _, [], _, h => absurd h (lx_nil _)
  | [], _, _ :: _, _, _ => lx_pos _ _
  | _ :: _, [], _, h, _ => absurd h (lx_nil _)
  | _ :: _, _ :: _, [], _, h => absurd h (lx_nil _)
  | a :: x, b :: y, c :: z, h, h' => by
    rw [lx_cons] at h h' ⊢
    rcases h with h | ⟨rfl, h⟩ <;> rcases h' with h' | ⟨rfl, h'⟩
    · exact .inl (by omega)
    · exact .inl h
    · exact .inl h'
    · exact .inr ⟨rfl, lx_trans h h'⟩
theorem lx_tri : ∀ (x y : List Nat), x < y ∨ x = y ∨ y < x
  | [], [] => .inr (.inl rfl)
  | [], _ :: _ => .inl (lx_pos _ _)
  | _ :: _, [] => .inr (.inr (lx_pos _ _))
  | a :: x, b :: y => by
    rw [lx_cons, lx_cons]
    rcases Nat.lt_trichotomy a b with h | h | h
    · exact .inl (.inl h)
    · subst h
      rcases lx_tri x y with h | h | h
      · exact .inl (.inr ⟨rfl, h⟩)
      · subst h; exact .inr (.inl rfl)
      · exact .inr (.inr (.inr ⟨rfl, h⟩))
    · exact .inr (.inr (.inl h))
theorem lx_asymm {x y : List Nat} (h : x < y) : ¬ y < x := fun h' => lx_irr x (lx_trans h h')
theorem lx_left (u v : List Nat) : ∀ c : List Nat, (c ++ u < c ++ v) ↔ u < v
  | [] => Iff.rfl
  | a :: c => by
    show (a :: (c ++ u) < a :: (c ++ v)) ↔ _
    rw [lx_cons, lx_left u v c]
    constructor
    · rintro (h | ⟨_, h⟩)
      · omega
      · exact h
    · exact fun h => .inr ⟨rfl, h⟩
theorem lx_app (u v : List Nat) : ∀ {x y : List Nat}, x.length = y.length → x < y → x ++ u < y ++ v
  | [], [], _, h => absurd h (lx_nil _)
  | [], _ :: _, h, _ => by simp at h
  | _ :: _, [], h, _ => by simp at h
  | a :: x, b :: y, hl, h => by
    show a :: (x ++ u) < b :: (y ++ v)
    rw [lx_cons] at h ⊢
    rcases h with h | ⟨rfl, h⟩
    · exact .inl h
    · exact .inr ⟨rfl, lx_app u v (by simpa using hl) h⟩
/-! ### sorted texts -/
def insS (a : List Nat) : List (List Nat) → List (List Nat)
  | [] => [a]
  | b :: r => if b < a then b :: insS a r else a :: b :: r
def srt : List (List Nat) → List (List Nat)
  | [] => []
  | a :: r => insS a (srt r)
theorem ltD_s (x y : List Nat) : ltD (.str x) (.str y) = decide (x < y) := by
  show PySem.W.dataLt (.str (strV x)) (.str (strV y)) = _
  rw [PySem.W.dataLt_str]; rfl
theorem insD_s (a : List Nat) : ∀ l : List (List Nat), insD (.str a) (l.map .str) = (insS a l).map .str
  | [] => rfl
  | b :: r => by
    show (if ltD (.str b) (.str a) = true then D.str b :: insD (.str a) (r.map .str) else _) = _
    rw [ltD_s, insD_s a r]
    show _ = List.map D.str (if b < a then b :: insS a r else a :: b :: r)
    by_cases h : b < a
    · rw [if_pos h, if_pos (decide_eq_true h)]; rfl
    · rw [if_neg h, if_neg (by simpa using h)]; rfl
theorem isort_s : ∀ l : List (List Nat), isort (l.map .str) = (srt l).map .str
  | [] => rfl
  | a :: r => by
    show insD (.str a) (isort (r.map .str)) = _
    rw [isort_s r, insD_s]; rfl
theorem insS_perm (a : List Nat) : ∀ l : List (List Nat), (insS a l).Perm (a :: l)
  | [] => .refl _
  | b :: r => by
    unfold insS
    split
    · exact (List.Perm.cons b (insS_perm a r)).trans (.swap a b r)
    · exact .refl _
theorem srt_perm : ∀ l : List (List Nat), (srt l).Perm l
  | [] => .refl _
  | a :: r => (insS_perm a (srt r)).trans (.cons a (srt_perm r))
theorem srt_len (l : List (List Nat)) : (srt l).length = l.length := (srt_perm l).length_eq
theorem insS_lt (a : List Nat) : ∀ l : List (List Nat), l.Pairwise (· < ·) → a ∉ l → (insS a l).Pairwise (· < ·)
  | [], _, _ => by simp [insS]
  | b :: r, h, hm => by
    have h0 := List.pairwise_cons.mp h
    unfold insS
    by_cases hb : b < a
    · rw [if_pos hb]
      refine List.pairwise_cons.mpr ⟨fun c hc => ?_, insS_lt a r h0.2 fun z => hm (List.mem_cons_of_mem _ z)⟩
      rcases List.mem_cons.mp ((insS_perm a r).mem_iff.mp hc) with hc | hc
      · subst hc; exact hb
      · exact h0.1 c hc
    · rw [if_neg hb]
      have hab : a < b := by
        rcases lx_tri a b with z | z | z
        · exact z
        · exact absurd (z ▸ List.mem_cons_self) hm
        · exact absurd z hb
      refine List.pairwise_cons.mpr ⟨fun c hc => ?_, h⟩
      rcases List.mem_cons.mp hc with hc | hc
      · subst hc; exact hab
      · exact lx_trans hab (h0.1 c hc)
theorem srt_lt : ∀ l : List (List Nat), l.Nodup → (srt l).Pairwise (· < ·)
  | [], _ => List.Pairwise.nil
  | a :: r, h => by
    have h0 := List.nodup_cons.mp h
    exact insS_lt a (srt r) (srt_lt r h0.2) fun z => h0.1 ((srt_perm r).mem_iff.mp z)
/-- rising lists of the same texts are one -/
theorem rising_eq : ∀ (l m : List (List Nat)), l.Pairwise (· < ·) → m.Pairwise (· < ·) → (∀ x, x ∈ l ↔ x ∈ m) → l = m
  | [], [], _, _, _ => rfl
  | [], b :: m, _, _, h => absurd ((h b).mpr List.mem_cons_self) (by simp)
  | a :: l, [], _, _, h => absurd ((h a).mp List.mem_cons_self) (by simp)
  | a :: l, b :: m, hl, hm, h => by
    have l0 := List.pairwise_cons.mp hl
    have m0 := List.pairwise_cons.mp hm
    have hab : a = b := by
      rcases List.mem_cons.mp ((h a).mp List.mem_cons_self) with z | z
      · exact z
      · rcases List.mem_cons.mp ((h b).mpr List.mem_cons_self) with y | y
        · exact y.symm
        · exact absurd (m0.1 a z) (lx_asymm (l0.1 b y))
    subst hab
    congr 1
    refine rising_eq l m l0.2 m0.2 fun x => ⟨fun hx => ?_, fun hx => ?_⟩
    · rcases List.mem_cons.mp ((h x).mp (List.mem_cons_of_mem _ hx)) with z | z
      · subst z; exact absurd (l0.1 _ hx) (lx_irr _)
      · exact z
    · rcases List.mem_cons.mp ((h x).mpr (List.mem_cons_of_mem _ hx)) with z | z
      · subst z; exact absurd (m0.1 _ hx) (lx_irr _)
      · exact z
theorem ordAll_s (l : List (List Nat)) : ordAll (l.map .str) = true := by
  unfold ordAll
  rw [Bool.and_eq_true]
  refine ⟨List.all_eq_true.mpr fun x hx => List.all_eq_true.mpr fun y hy => ?_, List.all_eq_true.mpr fun x hx => ?_⟩
  · obtain ⟨a, _, rfl⟩ := List.mem_map.mp hx
    obtain ⟨b, _, rfl⟩ := List.mem_map.mp hy
    rfl
  · obtain ⟨a, _, rfl⟩ := List.mem_map.mp hx
    rfl
theorem sortB_s (l : List (List Nat)) : sortB (l.map .str) = true := by
  unfold sortB
  rw [Bool.or_eq_true]
  refine .inr (List.all_eq_true.mpr fun x hx => ?_)
  obtain ⟨a, _, rfl⟩ := List.mem_map.mp hx
  rfl
theorem n_sorted (l : List (List Nat)) (h : l.length ≤ 100000) : biD .sorted [.v (.lst (l.map .str))] = some (.fl ((srt l).map .str)) := by
  show (if ordAll (l.map .str) = true ∧ sortB (l.map .str) = true ∧ (l.map D.str).length ≤ LIM then some (Rv.fl (isort (l.map .str))) else none) = _
  rw [if_pos ⟨ordAll_s l, sortB_s l, by rw [List.length_map]; exact h⟩, isort_s]
/-! ### frames rising -/
def frsL (F : Form) : List (List Nat) := srt ((List.range (2 ^ F.b)).map (fr F))
theorem frs_len (F : Form) : (frsL F).length = 2 ^ F.b := by unfold frsL; rw [srt_len]; simp
theorem frs_mem {F : Form} {x : List Nat} : x ∈ frsL F ↔ ∃ w, w < 2 ^ F.b ∧ x = fr F w := by
  unfold frsL
  rw [(srt_perm _).mem_iff]
  constructor
  · intro h
    obtain ⟨w, hw, e⟩ := List.mem_map.mp h
    exact ⟨w, List.mem_range.mp hw, e.symm⟩
  · rintro ⟨w, hw, rfl⟩
    exact List.mem_map.mpr ⟨w, List.mem_range.mpr hw, rfl⟩
theorem range_nodup (F : Form) : ((List.range (2 ^ F.b)).map (fr F)).Nodup := by
  unfold List.Nodup
  rw [List.pairwise_map]
  refine List.Pairwise.imp_of_mem ?_ (List.pairwise_lt_range (n := 2 ^ F.b))
  intro a b ha hb hlt e
  have := fr_inj F (List.mem_range.mp ha) (List.mem_range.mp hb) e
  omega
theorem frs_lt (F : Form) : (frsL F).Pairwise (· < ·) := srt_lt _ (range_nodup F)
/-- the frame at a place -/
def frA (F : Form) (q : Nat) : List Nat := (frsL F)[q]?.getD []
theorem frA_at {F : Form} {q : Nat} (h : q < 2 ^ F.b) : (frsL F)[q]? = some (frA F q) := by
  have : q < (frsL F).length := by rw [frs_len]; exact h
  unfold frA
  rw [List.getElem?_eq_getElem this]; rfl
theorem frA_fr {F : Form} {q : Nat} (h : q < 2 ^ F.b) : ∃ w, w < 2 ^ F.b ∧ frA F q = fr F w := frs_mem.mp (List.mem_of_getElem? (frA_at h))
theorem frA_lt {F : Form} {q r : Nat} (h : q < r) (hr : r < 2 ^ F.b) : frA F q < frA F r := by
  have P := List.pairwise_iff_getElem.mp (frs_lt F) q r (by rw [frs_len]; omega) (by rw [frs_len]; exact hr) h
  have e1 := frA_at (F := F) (q := q) (by omega)
  have e2 := frA_at (F := F) (q := r) hr
  rw [List.getElem?_eq_getElem (by rw [frs_len]; omega)] at e1 e2
  rw [← Option.some.inj e1, ← Option.some.inj e2]
  exact P
theorem frA_len {F : Form} {q : Nat} (h : q < 2 ^ F.b) : (frA F q).length = lng F := by
  obtain ⟨w, _, e⟩ := frA_fr h
  rw [e, fr_len]
theorem lng_ge (F : Form) : F.b + 2 ≤ lng F := by
  have hp := F.hp
  have hs := F.hs
  unfold lng
  have : 1 * (1 + F.b + parN F.q + F.s) ≤ F.p * (1 + F.b + parN F.q + F.s) := Nat.mul_le_mul_right _ hp
  omega
theorem wayN_le (F : Form) : ∀ N n, n ≤ N → wayN F n ≤ 2 ^ n
  | 0, n, h => by
    have : n = 0 := by omega
    subst this
    rw [wayN_0]; decide
  | N + 1, 0, h => by rw [wayN_0]; decide
  | N + 1, n + 1, h => by
    have i1 := wayN_le F N n (by omega)
    have hg := lng_ge F
    rw [wayN_s]
    split
    · rename_i hl
      have i2 := wayN_le F N (n + 1 - lng F) (by omega)
      have h3 : 2 ^ F.b * wayN F (n + 1 - lng F) ≤ 2 ^ F.b * 2 ^ (n + 1 - lng F) := Nat.mul_le_mul_left _ i2
      rw [← Nat.pow_add] at h3
      have h4 : 2 ^ (F.b + (n + 1 - lng F)) ≤ 2 ^ n := Nat.pow_le_pow_right (by decide) (by omega)
      rw [Nat.pow_succ]; omega
    · rw [Nat.pow_succ]; omega
theorem wayN_small (F : Form) {n : Nat} (h : n ≤ 60) : wayN F n < 18446744073709551616 := by
  have h1 := wayN_le F n n (Nat.le_refl _)
  have h2 : 2 ^ n ≤ 2 ^ 60 := Nat.pow_le_pow_right (by decide) h
  have h3 : (2 : Nat) ^ 60 < 18446744073709551616 := by decide
  omega
/-! ### the samples of a number -/
def eachN (F : Form) (n : Nat) : Nat := if lng F ≤ n then wayN F (n - lng F) else 0
def sA (F : Form) : Nat → Nat → Nat → List Nat
  | 0, _, _ => []
  | f + 1, n, k => if n = 0 then [] else
    if k < eachN F n * 2 ^ F.b then frA F (k / eachN F n) ++ sA F f (n - lng F) (k % eachN F n)
    else 49 :: sA F f (n - 1) (k - eachN F n * 2 ^ F.b)
theorem way_each (F : Form) {n : Nat} (h : 0 < n) : wayN F n = wayN F (n - 1) + eachN F n * 2 ^ F.b := by
  obtain ⟨m, rfl⟩ : ∃ m, n = m + 1 := ⟨n - 1, by omega⟩
  rw [wayN_s]
  unfold eachN
  split
  · rw [Nat.mul_comm]; rfl
  · simp
theorem sA_step (F : Form) {n k : Nat} (hn : 0 < n) (hk : k < wayN F n) (hlt : k < eachN F n * 2 ^ F.b) : lng F ≤ n ∧ 0 < eachN F n ∧ k / eachN F n < 2 ^ F.b ∧ k % eachN F n < wayN F (n - lng F) := by
  have h1 : lng F ≤ n := by
    refine Decidable.byContradiction fun h => ?_
    unfold eachN at hlt
    rw [if_neg h] at hlt
    omega
  have h2 : eachN F n = wayN F (n - lng F) := by unfold eachN; rw [if_pos h1]
  have h3 := wayN_pos F (n - lng F)
  refine ⟨h1, by omega, ?_, by rw [h2]; exact Nat.mod_lt _ (by omega)⟩
  rw [Nat.div_lt_iff_lt_mul (by omega), Nat.mul_comm]
  exact hlt
theorem sA_rest (F : Form) {n k : Nat} (hn : 0 < n) (hk : k < wayN F n) (hlt : ¬ k < eachN F n * 2 ^ F.b) : k - eachN F n * 2 ^ F.b < wayN F (n - 1) := by
  have := way_each F hn
  omega
theorem sA_len (F : Form) : ∀ (f n k : Nat), n ≤ f → k < wayN F n → (sA F f n k).length = n
  | 0, n, k, h, _ => by have : n = 0 := by omega
                        subst this; rfl
  | f + 1, n, k, h, hk => by
    unfold sA
    by_cases hn : n = 0
    · rw [if_pos hn, hn]; rfl
    · have lp := lng_pos F
      rw [if_neg hn]
      by_cases hlt : k < eachN F n * 2 ^ F.b
      · obtain ⟨h1, h2, h3, h4⟩ := sA_step F (by omega) hk hlt
        rw [if_pos hlt, List.length_append, frA_len h3, sA_len F f _ _ (by omega) h4]
        omega
      · rw [if_neg hlt, List.length_cons, sA_len F f _ _ (by omega) (sA_rest F (by omega) hk hlt)]
        omega
/-- more numbers, later texts -/
theorem sA_lt (F : Form) : ∀ (f n j k : Nat), n ≤ f → k < wayN F n → j < k → sA F f n j < sA F f n k
  | 0, n, j, k, h, hk, hj => by
    have : n = 0 := by omega
    subst this
    rw [wayN_0] at hk
    omega
  | f + 1, n, j, k, h, hk, hj => by
    have hn : ¬ n = 0 := fun e => by subst e; rw [wayN_0] at hk; omega
    have lp := lng_pos F
    unfold sA
    rw [if_neg hn, if_neg hn]
    by_cases hk2 : k < eachN F n * 2 ^ F.b
    · have hj2 : j < eachN F n * 2 ^ F.b := by omega
      obtain ⟨h1, h2, h3, h4⟩ := sA_step F (by omega) hk hk2
      obtain ⟨_, _, g3, g4⟩ := sA_step F (by omega) (Nat.lt_trans hj hk) hj2
      rw [if_pos hk2, if_pos hj2]
      rcases Nat.lt_trichotomy (j / eachN F n) (k / eachN F n) with z | z | z
      · exact lx_app _ _ (by rw [frA_len g3, frA_len h3]) (frA_lt z h3)
      · rw [z, lx_left]
        refine sA_lt F f _ _ _ (by omega) h4 ?_
        have e1 := Nat.div_add_mod j (eachN F n)
        have e2 := Nat.div_add_mod k (eachN F n)
        rw [z] at e1
        omega
      · have := Nat.div_le_div_right (c := eachN F n) (Nat.le_of_lt hj)
        omega
    · rw [if_neg hk2]
      by_cases hj2 : j < eachN F n * 2 ^ F.b
      · rw [if_pos hj2]
        obtain ⟨_, _, g3, g4⟩ := sA_step F (by omega) (Nat.lt_trans hj hk) hj2
        obtain ⟨w, _, e⟩ := frA_fr g3
        obtain ⟨r, e2⟩ := fr_head F w
        rw [e, e2]
        show 48 :: (r ++ _) < 49 :: _
        rw [lx_cons]
        exact .inl (by decide)
      · rw [if_neg hj2, lx_cons]
        exact .inr ⟨rfl, sA_lt F f _ _ _ (by omega) (sA_rest F (by omega) hk hk2) (by omega)⟩
/-- what they are sent of -/
theorem sA_sent (F : Form) : ∀ (f n k : Nat), n ≤ f → k < wayN F n → ∃ rows rest, sA F f n k = sentL F rows rest ∧ okW F rows ∧ (k + 1 < wayN F n → rows ≠ [])
  | 0, n, k, h, hk => by
    have : n = 0 := by omega
    subst this
    exact ⟨[], 0, rfl, (fun _ h => nomatch h), fun h => by rw [wayN_0] at h; omega⟩
  | f + 1, n, k, h, hk => by
    have lp := lng_pos F
    unfold sA
    by_cases hn : n = 0
    · rw [if_pos hn]
      subst hn
      exact ⟨[], 0, rfl, (fun _ h => nomatch h), fun h => by rw [wayN_0] at h; omega⟩
    · rw [if_neg hn]
      by_cases hlt : k < eachN F n * 2 ^ F.b
      · obtain ⟨h1, h2, h3, h4⟩ := sA_step F (by omega) hk hlt
        obtain ⟨rows, rest, e, hw, _⟩ := sA_sent F f (n - lng F) (k % eachN F n) (by omega) h4
        obtain ⟨w, hw1, e2⟩ := frA_fr h3
        rw [if_pos hlt, e, e2]
        refine ⟨(0, w) :: rows, rest, by simp [sentL], ?_, fun _ => by simp⟩
        intro p hp
        rcases List.mem_cons.mp hp with hp | hp
        · subst hp; exact hw1
        · exact hw p hp
      · have hr := sA_rest F (by omega) hk hlt
        obtain ⟨rows, rest, e, hw, hne⟩ := sA_sent F f (n - 1) (k - eachN F n * 2 ^ F.b) (by omega) hr
        have we := way_each F (n := n) (by omega)
        rw [if_neg hlt, e]
        cases rows with
        | nil =>
          refine ⟨[], rest + 1, ?_, hw, fun h => absurd rfl (hne (by omega))⟩
          show 49 :: List.replicate rest 49 = List.replicate (rest + 1) 49
          rfl
        | cons p rows =>
          obtain ⟨g, w⟩ := p
          refine ⟨(g + 1, w) :: rows, rest, by simp [sentL, List.replicate_succ], ?_, fun _ => by simp⟩
          intro p hp
          rcases List.mem_cons.mp hp with hp | hp
          · subst hp; exact hw (g, w) List.mem_cons_self
          · exact hw p (List.mem_cons_of_mem _ hp)
/-- the last ones but rest alone -/
theorem sA_last (F : Form) : ∀ (f n : Nat), n ≤ f → lng F ≤ n → sA F f n (wayN F n - 2) = List.replicate (n - lng F) 49 ++ frA F (2 ^ F.b - 1)
  | 0, n, h, hl => by have := lng_pos F; omega
  | f + 1, n, h, hl => by
    have lp := lng_pos F
    have h16 := pow_ge F
    have we := way_each F (n := n) (by omega)
    unfold sA
    rw [if_neg (by omega)]
    by_cases hn : n = lng F
    · have e1 : eachN F n = 1 := by unfold eachN; rw [if_pos hl, hn, Nat.sub_self, wayN_0]
      have w1 : ∀ m, m < lng F → wayN F m = 1 := by
        intro m
        induction m with
        | zero => intro _; exact wayN_0 F
        | succ m ih => intro hm; rw [wayN_s, if_neg (by omega), ih (by omega)]
      have w2 := w1 (n - 1) (by omega)
      rw [e1, Nat.one_mul] at we ⊢
      have hv : wayN F n - 2 = 2 ^ F.b - 1 := by omega
      rw [hv, if_pos (by omega), Nat.div_one, Nat.mod_one, hn, Nat.sub_self]
      have : sA F f 0 0 = [] := by cases f <;> simp [sA]
      rw [this, List.append_nil]; rfl
    · have hb := wayN_big F (n - 1) (by omega)
      rw [if_neg (by omega)]
      have hv : wayN F n - 2 - eachN F n * 2 ^ F.b = wayN F (n - 1) - 2 := by omega
      rw [hv, sA_last F f (n - 1) (by omega) (by omega)]
      have : n - lng F = (n - 1 - lng F) + 1 := by omega
      rw [this, List.replicate_succ]; rfl
/-! ### the number of samples -/
def ixF (F : Form) (x : List Nat) : Nat := (frsL F).idxOf x
theorem ixF_frA {F : Form} {q : Nat} (h : q < 2 ^ F.b) : ixF F (frA F q) = q := by
  unfold ixF
  have hlt : q < (frsL F).length := by rw [frs_len]; exact h
  have e1 := frA_at h
  rw [List.getElem?_eq_getElem hlt] at e1
  rw [← Option.some.inj e1]
  have nd : (frsL F).Nodup := (frs_lt F).imp fun h e => by subst e; exact lx_irr _ h
  exact nd.idxOf_getElem q hlt
/-- by frames and rest from a place on -/
def numL (F : Form) : Nat → List Nat → Nat
  | 0, _ => 0
  | f + 1, x => if x = [] then 0 else
    if x.head? = some 48 then eachN F x.length * ixF F (x.take (lng F)) + numL F f (x.drop (lng F))
    else eachN F x.length * 2 ^ F.b + numL F f (x.drop 1)
theorem numL_sA (F : Form) : ∀ (f n k : Nat), n ≤ f → k < wayN F n → numL F f (sA F f n k) = k
  | 0, n, k, h, hk => by
    have : n = 0 := by omega
    subst this
    rw [wayN_0] at hk
    show 0 = k
    omega
  | f + 1, n, k, h, hk => by
    have lp := lng_pos F
    have sl := sA_len F (f + 1) n k h hk
    by_cases hn : n = 0
    · subst hn
      rw [wayN_0] at hk
      have : sA F (f + 1) 0 k = [] := by simp [sA]
      rw [this]
      show (if ([] : List Nat) = [] then 0 else _) = k
      rw [if_pos rfl]; omega
    · have hne : sA F (f + 1) n k ≠ [] := fun e => by rw [e] at sl; simp at sl; omega
      unfold numL
      rw [if_neg hne, sl]
      by_cases hlt : k < eachN F n * 2 ^ F.b
      · obtain ⟨h1, h2, h3, h4⟩ := sA_step F (by omega) hk hlt
        have e : sA F (f + 1) n k = frA F (k / eachN F n) ++ sA F f (n - lng F) (k % eachN F n) := by
          show (if n = 0 then [] else if _ then _ else _) = _
          rw [if_neg hn, if_pos hlt]
        have hlen := frA_len h3
        have hh : (sA F (f + 1) n k).head? = some 48 := by
          obtain ⟨w, _, e2⟩ := frA_fr h3
          obtain ⟨r, e3⟩ := fr_head F w
          rw [e, e2, e3]; rfl
        rw [if_pos hh, e, List.take_append_of_le_length (by omega), List.drop_append_of_le_length (by omega)]
        rw [List.take_of_length_le (by omega), List.drop_of_length_le (by omega), List.nil_append, ixF_frA h3, numL_sA F f _ _ (by omega) h4]
        exact Nat.div_add_mod k (eachN F n)
      · have e : sA F (f + 1) n k = 49 :: sA F f (n - 1) (k - eachN F n * 2 ^ F.b) := by
          show (if n = 0 then [] else if _ then _ else _) = _
          rw [if_neg hn, if_neg hlt]
        rw [e, if_neg (by simp)]
        show eachN F n * 2 ^ F.b + numL F f (sA F f (n - 1) _) = k
        rw [numL_sA F f _ _ (by omega) (sA_rest F (by omega) hk hlt)]
        omega
end Wi

/-! all forms -/
namespace Wi
local macro_rules
  | `(tactic| simp! [$ls,*]) => `(tactic| simp -implicitDefEqProofs (maxSteps := 10000000) (disch := first | assumption | (simp -implicitDefEqProofs only [dp_non, dp_bl, dp_int, dp_str, dp_tup, dp_lst, dpl_nil, dpl_cons, fd_dep, ref_dep, n_dep, dep_nL, depL_nL, len_nL, len_repL, List.length_append, List.length_cons, List.length_nil, List.length_replicate, List.length_reverse, List.length_set, List.length_map, List.length_range, Nat.reduceAdd, Nat.reduceMul, Nat.reduceLT, Nat.reduceLeDiff, Nat.zero_le, true_or, or_true, List.getElem?_cons_succ, List.getElem?_cons_zero]; done) | omega | (simp -implicitDefEqProofs only [dp_non, dp_bl, dp_int, dp_str, dp_tup, dp_lst, dpl_nil, dpl_cons, fd_dep, ref_dep, n_dep, dep_nL, depL_nL, len_nL, len_repL, List.length_append, List.length_cons, List.length_nil, List.length_replicate, List.length_reverse, List.length_set, List.length_map, List.length_range, Nat.reduceAdd, Nat.reduceMul]; omega)) only [rdK_scr, frz_scr, pkK_scr, pkK_shr, lstK_shr, appK_shr, town_init', List.nil_append, q_bok, q_berr, q_bexc, q_bite, q_onB, q_nx, q_rt, q_ct, q_fz, q_frv, q_frfl, q_frro, q_frshr, q_frfn, q_oo, q_on, q_oite, q_and, q_or, n_eq, k_0, k_1, k_2, k_3, k_4, k_5, k_6, k_7, k_8, k_9, k_10, k_11, k_12, k_13, k_14, k_15, k_16, k_20, k_30, k_31, k_32, k_33, k_40, k_41, k_59, k_60, k_61, k_63, k_64, k_70, k_80, k_90, k_100, k_101, k_120, k_150, k_180, k_190, k_194, k_195, k_200, k_201, k_7919, k_9973, k_9999, k_12345, k_100000, k_104729, k_999961, k_999979, k_999983, k_1103515245, k_2147483647, e_const, e_glob, e_slot', rdK_v, rdK_fl, rdK_ro, rdK_shr, rdK_exc, e_bin, e_neg', ngK_n, partI', ptK_n, ptK_i, ptK_t, nb_non, nb_int, nb_slot, nb_bin, nb_neg, nb_call, nb_subS, nb_sub, nb_lenS, cutS, cutT, cutLs, cut_nn, cut_0n, cut_n0, cut_0m, e_not, e_and, e_or, e_ite, e_cmp, e_cmp2, e_cmpS, e_inS, e_tup, e_lst, q_mm0, q_mm1, q_om, e_pick, pick_par3, e_call, e_sel', selK_n, selN_s, e_bi, e_lenS, e_join, e_meth, e_sub, e_subS, e_cut, e_rev, e_isin, es_nil, es_cons, i_val, i_range1', i_range2', i_range3', i_enum, i_zip, x_nil, x_cons, x_set, x_shr, x_unp, x_par, x_expr, x_app, x_ext, x_put, x_ite, x_for', x_while', forB_nil, q_set1, q_setN, q_puts0, q_puts, q_putsR0, q_putsR, x_ret, x_retS', rsK_s, x_raise, x_cont, x_pass, x_try', tryK_ok, tryK_exc0, tryK_ite, handed', handedC, hdK_ok, put_if, q_callR, q_eR1, q_eR2, q_eR3, q_eRi, q_e1, q_e2, q_e3, q_ei, n_add, n_mul, n_sub, n_mod, n_div, n_lt, n_le, n_gt, n_ge, n_deq, n_dep, n_ty, n_tyb, n_tys, n_tyt, n_tyl, t_nil, t_cons, deq_refl, ref_eq, ref_deq, ref_dep, ty_int_non, ty_int_bl, ty_int_str, ty_int_tup, ty_int_lst, ty_int_int, ty_bool_non, ty_bool_bl, ty_bool_str, ty_bool_tup, ty_bool_lst, ty_bool_int, ty_str_non, ty_str_bl, ty_str_str, ty_str_tup, ty_str_lst, ty_str_int, ty_tuple_non, ty_tuple_bl, ty_tuple_str, ty_tuple_tup, ty_tuple_lst, ty_tuple_int, ty_list_non, ty_list_bl, ty_list_str, ty_list_tup, ty_list_lst, ty_list_int, q_eq, q_ne, q_in, q_inl, q_nin, q_ninl, dep_nL, fd_0, fd_1, fd_2, fd_3, fd_4, fd_t, fd_seq, fd_len, fd_dep, ord_low, ord_in, par_in, par_none, par_even, par_odd, n_addS, n_addT, n_addL, n_mulS, n_mulL, n_sum, n_len, n_intb, n_inti, n_tupl, n_lstt, n_lstl, n_str, revD_l, nL_rev, nL_app, app1', appK_fl, ext1', extK_fl, lstAt', lstK_fl, q_isN, q_notN, nn_nI, nn_non, nn_bl, nn_str, nn_tup, nn_lst, n_subT, n_subL, n_subF, n_subS, rgK_n, rg2K_n, ↓reduceIte, Bool.false_eq_true, List.length_map, List.length_cons, List.length_nil, List.getElem?_cons_zero, List.getElem?_cons_succ, List.getElem?_nil, List.set_cons_zero, List.set_cons_succ, Option.map_some, Option.map_none, Option.bind_some, Option.bind_none, Option.isSome_some, Nat.reduceAdd, Nat.reduceLT, Nat.reduceLeDiff, Nat.reduceSub, Nat.reduceMul, Nat.reduceEqDiff, decide_true, decide_false, Bool.true_and, Bool.and_true, Bool.false_and, Bool.and_false, Bool.or_true, Bool.true_or, Bool.false_or, Bool.or_false, Bool.not_true, Bool.not_false, peek', pkK_v, pkK_fl, pkK_ro, len_s, len_t, len_l, len_f, len_r, seq_t, seq_l, Bool.decide_eq_true, unV, $ls,*])
def formOf (p b : Nat) (lo : Bool) (q : Par) (s : Nat) : Form := ⟨1 + p % 6, 4 + b % 3, lo, q, 1 + s % 2, by omega, by omega, by omega, by omega, by omega, by omega⟩
def allF : List Form := (List.range 6).flatMap fun p => (List.range 3).flatMap fun b => [false, true].flatMap fun lo => [Par.even, .none, .odd].flatMap fun q => [0, 1].map fun s => formOf p b lo q s
theorem mem_allF (F : Form) : F ∈ allF := by
  have hp := F.hp
  have hp6 := F.hp6
  have hb := F.hb
  have hb6 := F.hb6
  have hs := F.hs
  have hs2 := F.hs2
  unfold allF
  simp only [List.mem_flatMap, List.mem_map, List.mem_range]
  have hq : F.s - 1 ∈ [0, 1] := by
    have : F.s - 1 = 0 ∨ F.s - 1 = 1 := by omega
    rcases this with h | h <;> rw [h] <;> simp
  refine ⟨F.p - 1, by omega, F.b - 4, by omega, F.lo, by cases F.lo <;> simp, F.q, by cases F.q <;> simp, F.s - 1, hq, ?_⟩
  obtain ⟨p, b, lo, q, s, h1, h2, h3, h4, h5, h6⟩ := F
  unfold formOf
  simp only at hp hp6 hb hb6 hs hs2 ⊢
  have e1 : 1 + (p - 1) % 6 = p := by omega
  have e2 : 4 + (b - 4) % 3 = b := by omega
  have e3 : 1 + (s - 1) % 2 = s := by omega
  simp only [e1, e2, e3]
theorem allF_len : allF.length = 216 := by decide +kernel
theorem all_forms_ok (k : Nat) (sh : Sh) : callN MT (k + 1) 53 [] sh = .ok (.fl (allF.map Form.d)) sh := by
  rw [u_all_forms]
  kernel_rfl
end Wi

/-! forms that fit; rest -/
namespace Wi
local macro_rules
  | `(tactic| simp! [$ls,*]) => `(tactic| simp -implicitDefEqProofs (maxSteps := 10000000) (disch := first | assumption | (simp -implicitDefEqProofs only [dp_non, dp_bl, dp_int, dp_str, dp_tup, dp_lst, dpl_nil, dpl_cons, fd_dep, ref_dep, n_dep, dep_nL, depL_nL, len_nL, len_repL, List.length_append, List.length_cons, List.length_nil, List.length_replicate, List.length_reverse, List.length_set, List.length_map, List.length_range, Nat.reduceAdd, Nat.reduceMul, Nat.reduceLT, Nat.reduceLeDiff, Nat.zero_le, true_or, or_true, List.getElem?_cons_succ, List.getElem?_cons_zero]; done) | omega | (simp -implicitDefEqProofs only [dp_non, dp_bl, dp_int, dp_str, dp_tup, dp_lst, dpl_nil, dpl_cons, fd_dep, ref_dep, n_dep, dep_nL, depL_nL, len_nL, len_repL, List.length_append, List.length_cons, List.length_nil, List.length_replicate, List.length_reverse, List.length_set, List.length_map, List.length_range, Nat.reduceAdd, Nat.reduceMul]; omega)) only [rdK_scr, frz_scr, pkK_scr, pkK_shr, lstK_shr, appK_shr, town_init', List.nil_append, q_bok, q_berr, q_bexc, q_bite, q_onB, q_nx, q_rt, q_ct, q_fz, q_frv, q_frfl, q_frro, q_frshr, q_frfn, q_oo, q_on, q_oite, q_and, q_or, n_eq, k_0, k_1, k_2, k_3, k_4, k_5, k_6, k_7, k_8, k_9, k_10, k_11, k_12, k_13, k_14, k_15, k_16, k_20, k_30, k_31, k_32, k_33, k_40, k_41, k_59, k_60, k_61, k_63, k_64, k_70, k_80, k_90, k_100, k_101, k_120, k_150, k_180, k_190, k_194, k_195, k_200, k_201, k_7919, k_9973, k_9999, k_12345, k_100000, k_104729, k_999961, k_999979, k_999983, k_1103515245, k_2147483647, e_const, e_glob, e_slot', rdK_v, rdK_fl, rdK_ro, rdK_shr, rdK_exc, e_bin, e_neg', ngK_n, partI', ptK_n, ptK_i, ptK_t, nb_non, nb_int, nb_slot, nb_bin, nb_neg, nb_call, nb_subS, nb_sub, nb_lenS, cutS, cutT, cutLs, cut_nn, cut_0n, cut_n0, cut_0m, e_not, e_and, e_or, e_ite, e_cmp, e_cmp2, e_cmpS, e_inS, e_tup, e_lst, q_mm0, q_mm1, q_om, e_pick, pick_par3, e_call, e_sel', selK_n, selN_s, e_bi, e_lenS, e_join, e_meth, e_sub, e_subS, e_cut, e_rev, e_isin, es_nil, es_cons, i_val, i_range1', i_range2', i_range3', i_enum, i_zip, x_nil, x_cons, x_set, x_shr, x_unp, x_par, x_expr, x_app, x_ext, x_put, x_ite, x_for', x_while', forB_nil, q_set1, q_setN, q_puts0, q_puts, q_putsR0, q_putsR, x_ret, x_retS', rsK_s, x_raise, x_cont, x_pass, x_try', tryK_ok, tryK_exc0, tryK_ite, handed', handedC, hdK_ok, put_if, q_callR, q_eR1, q_eR2, q_eR3, q_eRi, q_e1, q_e2, q_e3, q_ei, n_add, n_mul, n_sub, n_mod, n_div, n_lt, n_le, n_gt, n_ge, n_deq, n_dep, n_ty, n_tyb, n_tys, n_tyt, n_tyl, t_nil, t_cons, deq_refl, ref_eq, ref_deq, ref_dep, ty_int_non, ty_int_bl, ty_int_str, ty_int_tup, ty_int_lst, ty_int_int, ty_bool_non, ty_bool_bl, ty_bool_str, ty_bool_tup, ty_bool_lst, ty_bool_int, ty_str_non, ty_str_bl, ty_str_str, ty_str_tup, ty_str_lst, ty_str_int, ty_tuple_non, ty_tuple_bl, ty_tuple_str, ty_tuple_tup, ty_tuple_lst, ty_tuple_int, ty_list_non, ty_list_bl, ty_list_str, ty_list_tup, ty_list_lst, ty_list_int, q_eq, q_ne, q_in, q_inl, q_nin, q_ninl, dep_nL, fd_0, fd_1, fd_2, fd_3, fd_4, fd_t, fd_seq, fd_len, fd_dep, ord_low, ord_in, par_in, par_none, par_even, par_odd, n_addS, n_addT, n_addL, n_mulS, n_mulL, n_sum, n_len, n_intb, n_inti, n_tupl, n_lstt, n_lstl, n_str, revD_l, nL_rev, nL_app, app1', appK_fl, ext1', extK_fl, lstAt', lstK_fl, q_isN, q_notN, nn_nI, nn_non, nn_bl, nn_str, nn_tup, nn_lst, n_subT, n_subL, n_subF, n_subS, rgK_n, rg2K_n, ↓reduceIte, Bool.false_eq_true, List.length_map, List.length_cons, List.length_nil, List.getElem?_cons_zero, List.getElem?_cons_succ, List.getElem?_nil, List.set_cons_zero, List.set_cons_succ, Option.map_some, Option.map_none, Option.bind_some, Option.bind_none, Option.isSome_some, Nat.reduceAdd, Nat.reduceLT, Nat.reduceLeDiff, Nat.reduceSub, Nat.reduceMul, Nat.reduceEqDiff, decide_true, decide_false, Bool.true_and, Bool.and_true, Bool.false_and, Bool.and_false, Bool.or_true, Bool.true_or, Bool.false_or, Bool.or_false, Bool.not_true, Bool.not_false, peek', pkK_v, pkK_fl, pkK_ro, len_s, len_t, len_l, len_f, len_r, seq_t, seq_l, Bool.decide_eq_true, unV, $ls,*])
def fitF (x : List Nat) : List Form := allF.filter fun F => (readF F x).isSome
theorem nn_readD (o : Option (List (Nat × Nat) × Nat)) : notNon (readD o) = o.isSome := by
  cases o with
  | none => rfl
  | some p => rfl
theorem forms_for_ok (k : Nat) (x : List Nat) (h : OkS x) (sh : Sh) : callN MT (k + 4) 54 [.v (.str x)] sh = .ok (.fl ((fitF x).map Form.d)) sh := by
  rw [u_forms_for]; unfold b_forms_for
  have hl := h.le
  have c0 : ev (callN MT (k + 3)) c_forms_for_0 ⟨[some (.v (.str x)), none], sh⟩ = .ok (.fl ((fitF x).map Form.d)) ⟨[some (.v (.str x)), none], sh⟩ := by
    unfold c_forms_for_0 fitF
    have hlen := allF_len
    refine comp_gen (enc := Form.d) (l := allF) (fun z => ⟨[some (.v (.str x)), z], sh⟩) (fun F => some (.v F.d)) Form.d _ (by simp! [all_forms_ok, itD]) none rfl rfl (by rw [hlen]; decide) (fun _ _ _ => rfl) ?_ ?_ (fun _ => rfl)
    · intro F _
      have r := rows_in_ok k F x h.bit (by omega) sh
      rw [o_some]
      simp! [r, nn_readD]
    · intro F _ _
      simp! []
  simp! [need_samples_ok _ x h, c0]
def gapS (l : List (Nat × Nat)) : Nat := (l.map (·.1)).sum
theorem read_len {F : Form} {x : List Nat} (h : OkS x) {p : List (Nat × Nat) × Nat} (e : readF F x = some p) : p.1.length ≤ 200 := by
  obtain ⟨l, r⟩ := p
  obtain ⟨h1, _, _⟩ := readF_some h.bit e
  have := sentL_len F l r
  rw [← h1] at this
  have := h.le
  have := lng_pos F
  have : l.length * 1 ≤ l.length * lng F := Nat.mul_le_mul_left _ (by omega)
  show l.length ≤ 200
  omega
theorem readD_dep (o : Option (List (Nat × Nat) × Nat)) : (readD o).dep ≤ 3 := by
  cases o with
  | none => exact Nat.zero_le _
  | some p =>
    have := depL_rw p.1
    show 1 + max (1 + D.depL (rwD p.1)) (max 0 0) ≤ 3
    omega
theorem deq_rw : ∀ a b : List (Nat × Nat), deqL (rwD a) (rwD b) = decide (a = b)
  | [], [] => rfl
  | [], _ :: _ => rfl
  | _ :: _, [] => rfl
  | p :: a, q :: b => by
    show (deq (.tup [nI p.1, nI p.2]) (.tup [nI q.1, nI q.2]) && deqL (rwD a) (rwD b)) = _
    rw [deq_rw a b]
    have : deq (.tup [nI p.1, nI p.2]) (.tup [nI q.1, nI q.2]) = decide (p = q) := by
      show (deq (nI p.1) (nI q.1) && (deq (nI p.2) (nI q.2) && true)) = _
      rw [n_deq, n_deq]
      obtain ⟨a, b⟩ := p
      obtain ⟨c, d⟩ := q
      by_cases h1 : a = c <;> by_cases h2 : b = d <;> simp [h1, h2]
    rw [this]
    by_cases h1 : p = q <;> by_cases h2 : a = b <;> simp [h1, h2]
theorem deq_read (a b : List (Nat × Nat) × Nat) : deq (readD (some a)) (readD (some b)) = decide (a = b) := by
  show (deqL (rwD a.1) (rwD b.1) && (deq (nI a.2) (nI b.2) && true)) = _
  rw [deq_rw, n_deq]
  obtain ⟨a1, a2⟩ := a
  obtain ⟨b1, b2⟩ := b
  by_cases h1 : a1 = b1 <;> by_cases h2 : a2 = b2 <;> simp [h1, h2]
def alikeD (o1 o2 : Option (List (Nat × Nat) × Nat)) : D := match o1, o2 with
  | some a, some b => .bl (decide (a = b))
  | _, _ => .non
theorem spoken_alike_ok (k : Nat) (F G : Form) (x : List Nat) (h : OkS x) (sh : Sh) : callN MT (k + 4) 183 [.v F.d, .v G.d, .v (.str x)] sh = .ok (.v (alikeD (readF F x) (readF G x))) sh := by
  rw [u_spoken_alike]; unfold b_spoken_alike
  have hl := h.le
  have r1 := rows_in_ok k F x h.bit (by omega) sh
  have r2 := rows_in_ok k G x h.bit (by omega) sh
  have d1 := readD_dep (readF F x)
  cases e1 : readF F x with
  | none =>
    rw [e1] at r1
    simp! [need_form_ok, need_samples_ok _ x h, r1, r2, nn_readD]
    rfl
  | some a =>
    cases e2 : readF G x with
    | none =>
      rw [e2] at r2
      rw [e1] at r1
      simp! [need_form_ok, need_samples_ok _ x h, r1, r2, nn_readD, Option.isSome_none]
      rfl
    | some b =>
      rw [e2] at r2
      rw [e1] at r1 d1
      have := deq_read a b
      simp! [need_form_ok, need_samples_ok _ x h, r1, r2, nn_readD, this]
      rfl
theorem total_rest_ok (k : Nat) (F : Form) (x : List Nat) (h : OkS x) (sh : Sh) : callN MT (k + 4) 184 [.v F.d, .v (.str x)] sh = .ok (.v (optD ((readF F x).map fun p => gapS p.1 + p.2))) sh := by
  rw [u_total_rest]; unfold b_total_rest
  have hl := h.le
  have r1 := rows_in_ok k F x h.bit (by omega) sh
  cases e1 : readF F x with
  | none =>
    rw [e1] at r1
    simp! [need_form_ok, need_samples_ok _ x h, r1, nn_readD, Option.isSome_none]
    rfl
  | some p =>
    rw [e1] at r1
    have hp := read_len h e1
    obtain ⟨l, r⟩ := p
    have c0 : ev (callN MT (k + 3)) c_total_rest_0 ⟨[some (.v F.d), some (.v (.str x)), some (.v (readD (some (l, r)))), none, none], sh⟩ = .ok (.fl (nL (l.map (·.1)))) ⟨[some (.v F.d), some (.v (.str x)), some (.v (readD (some (l, r)))), none, none], sh⟩ := by
      unfold c_total_rest_0 nL
      rw [List.map_map]
      have hs : subD (.v (readD (some (l, r)))) (.v (nI 0)) = some (.v (.tup (rwD l))) := rfl
      refine comp_map (enc := fun (p : Nat × Nat) => .tup [nI p.1, nI p.2]) (l := l) (fun (z : Option Rv × Option Rv) => ⟨[some (.v F.d), some (.v (.str x)), some (.v (readD (some (l, r)))), z.1, z.2], sh⟩) (fun p => (some (.v (nI p.1)), some (.v (nI p.2)))) _ (by simp! [itD, hs]; rfl) (none, none) rfl rfl (by show l.length ≤ _; have : l.length ≤ 200 := hp; omega) (fun _ _ _ => rfl) ?_ (fun _ => rfl)
      intro p _
      simp! []
      rfl
    have hs : subD (.v (readD (some (l, r)))) (.v (nI 1)) = some (.v (nI r)) := rfl
    simp! [need_form_ok, need_samples_ok _ x h, r1, nn_readD, c0, hs]
    rfl
end Wi

/-! numbering -/
namespace Wi
local macro_rules
  | `(tactic| simp! [$ls,*]) => `(tactic| simp -implicitDefEqProofs (maxSteps := 10000000) (disch := first | assumption | (simp -implicitDefEqProofs only [dp_non, dp_bl, dp_int, dp_str, dp_tup, dp_lst, dpl_nil, dpl_cons, fd_dep, ref_dep, n_dep, dep_nL, depL_nL, len_nL, len_repL, List.length_append, List.length_cons, List.length_nil, List.length_replicate, List.length_reverse, List.length_set, List.length_map, List.length_range, Nat.reduceAdd, Nat.reduceMul, Nat.reduceLT, Nat.reduceLeDiff, Nat.zero_le, true_or, or_true, List.getElem?_cons_succ, List.getElem?_cons_zero]; done) | omega | (simp -implicitDefEqProofs only [dp_non, dp_bl, dp_int, dp_str, dp_tup, dp_lst, dpl_nil, dpl_cons, fd_dep, ref_dep, n_dep, dep_nL, depL_nL, len_nL, len_repL, List.length_append, List.length_cons, List.length_nil, List.length_replicate, List.length_reverse, List.length_set, List.length_map, List.length_range, Nat.reduceAdd, Nat.reduceMul]; omega)) only [rdK_scr, frz_scr, pkK_scr, pkK_shr, lstK_shr, appK_shr, town_init', List.nil_append, q_bok, q_berr, q_bexc, q_bite, q_onB, q_nx, q_rt, q_ct, q_fz, q_frv, q_frfl, q_frro, q_frshr, q_frfn, q_oo, q_on, q_oite, q_and, q_or, n_eq, k_0, k_1, k_2, k_3, k_4, k_5, k_6, k_7, k_8, k_9, k_10, k_11, k_12, k_13, k_14, k_15, k_16, k_20, k_30, k_31, k_32, k_33, k_40, k_41, k_59, k_60, k_61, k_63, k_64, k_70, k_80, k_90, k_100, k_101, k_120, k_150, k_180, k_190, k_194, k_195, k_200, k_201, k_7919, k_9973, k_9999, k_12345, k_100000, k_104729, k_999961, k_999979, k_999983, k_1103515245, k_2147483647, e_const, e_glob, e_slot', rdK_v, rdK_fl, rdK_ro, rdK_shr, rdK_exc, e_bin, e_neg', ngK_n, partI', ptK_n, ptK_i, ptK_t, nb_non, nb_int, nb_slot, nb_bin, nb_neg, nb_call, nb_subS, nb_sub, nb_lenS, cutS, cutT, cutLs, cut_nn, cut_0n, cut_n0, cut_0m, e_not, e_and, e_or, e_ite, e_cmp, e_cmp2, e_cmpS, e_inS, e_tup, e_lst, q_mm0, q_mm1, q_om, e_pick, pick_par3, e_call, e_sel', selK_n, selN_s, e_bi, e_lenS, e_join, e_meth, e_sub, e_subS, e_cut, e_rev, e_isin, es_nil, es_cons, i_val, i_range1', i_range2', i_range3', i_enum, i_zip, x_nil, x_cons, x_set, x_shr, x_unp, x_par, x_expr, x_app, x_ext, x_put, x_ite, x_for', x_while', forB_nil, q_set1, q_setN, q_puts0, q_puts, q_putsR0, q_putsR, x_ret, x_retS', rsK_s, x_raise, x_cont, x_pass, x_try', tryK_ok, tryK_exc0, tryK_ite, handed', handedC, hdK_ok, put_if, q_callR, q_eR1, q_eR2, q_eR3, q_eRi, q_e1, q_e2, q_e3, q_ei, n_add, n_mul, n_sub, n_mod, n_div, n_lt, n_le, n_gt, n_ge, n_deq, n_dep, n_ty, n_tyb, n_tys, n_tyt, n_tyl, t_nil, t_cons, deq_refl, ref_eq, ref_deq, ref_dep, ty_int_non, ty_int_bl, ty_int_str, ty_int_tup, ty_int_lst, ty_int_int, ty_bool_non, ty_bool_bl, ty_bool_str, ty_bool_tup, ty_bool_lst, ty_bool_int, ty_str_non, ty_str_bl, ty_str_str, ty_str_tup, ty_str_lst, ty_str_int, ty_tuple_non, ty_tuple_bl, ty_tuple_str, ty_tuple_tup, ty_tuple_lst, ty_tuple_int, ty_list_non, ty_list_bl, ty_list_str, ty_list_tup, ty_list_lst, ty_list_int, q_eq, q_ne, q_in, q_inl, q_nin, q_ninl, dep_nL, fd_0, fd_1, fd_2, fd_3, fd_4, fd_t, fd_seq, fd_len, fd_dep, ord_low, ord_in, par_in, par_none, par_even, par_odd, n_addS, n_addT, n_addL, n_mulS, n_mulL, n_sum, n_len, n_intb, n_inti, n_tupl, n_lstt, n_lstl, n_str, revD_l, nL_rev, nL_app, app1', appK_fl, ext1', extK_fl, lstAt', lstK_fl, q_isN, q_notN, nn_nI, nn_non, nn_bl, nn_str, nn_tup, nn_lst, n_subT, n_subL, n_subF, n_subS, rgK_n, rg2K_n, ↓reduceIte, Bool.false_eq_true, List.length_map, List.length_cons, List.length_nil, List.getElem?_cons_zero, List.getElem?_cons_succ, List.getElem?_nil, List.set_cons_zero, List.set_cons_succ, Option.map_some, Option.map_none, Option.bind_some, Option.bind_none, Option.isSome_some, Nat.reduceAdd, Nat.reduceLT, Nat.reduceLeDiff, Nat.reduceSub, Nat.reduceMul, Nat.reduceEqDiff, decide_true, decide_false, Bool.true_and, Bool.and_true, Bool.false_and, Bool.and_false, Bool.or_true, Bool.true_or, Bool.false_or, Bool.or_false, Bool.not_true, Bool.not_false, peek', pkK_v, pkK_fl, pkK_ro, len_s, len_t, len_l, len_f, len_r, seq_t, seq_l, Bool.decide_eq_true, unV, $ls,*])
theorem n_subneg' (a b : Nat) : binD .sub (.v (nI a)) (.v (nI b)) = some (.v (.int ((a : Int) - b))) := rfl
theorem ge_neg (a b : Nat) (h : a < b) : cmpD .ge (.v (.int ((a : Int) - b))) (.v (nI 0)) = some false := by
  show some (decide (((a : Int) - b) ≥ ((0 : Nat) : Int))) = _
  rw [decide_eq_false (by omega)]
theorem frames_rising_ok (k : Nat) (F : Form) (sh : Sh) : callN MT (k + 3) 141 [.v F.d] sh = .ok (.fl ((frsL F).map .str)) sh := by
  rw [u_frames_rising]; unfold b_frames_rising
  have h64 := pow_le F
  have c0 : ev (callN MT (k + 2)) c_frames_rising_0 ⟨[some (.v F.d), none], sh⟩ = .ok (.fl (((List.range (2 ^ F.b)).map (fr F)).map .str)) ⟨[some (.v F.d), none], sh⟩ := by
    unfold c_frames_rising_0
    rw [List.map_map]
    refine comp_map (enc := nI) (l := List.range (2 ^ F.b)) (fun z => ⟨[some (.v F.d), z], sh⟩) (fun a => some (.v (nI a))) _ (by simp! [top_of_ok, top1]; rfl) none rfl rfl (by simp; omega) (fun _ _ _ => rfl) ?_ (fun _ => rfl)
    intro a _
    simp! [framed_ok]
    rfl
  have s := n_sorted ((List.range (2 ^ F.b)).map (fr F)) (by simp; omega)
  have s : biD .sorted [.v (.lst (((List.range (2 ^ F.b)).map (fr F)).map .str))] = some (.fl ((frsL F).map .str)) := s
  simp! [c0, s]
theorem each_step (F : Form) (n m : Nat) (hm : m ≤ n) : (if decide (lng F ≤ m) = true then (nL (waysL F n))[m - lng F]?.map Rv.v else some (.v (nI 0))) = some (.v (nI (eachN F m))) := by
  unfold eachN
  by_cases h : lng F ≤ m
  · rw [if_pos (decide_eq_true h), if_pos h, waysL_at F n (m - lng F) (by omega)]; rfl
  · rw [if_neg (by simpa using h), if_neg h]
theorem samples_at_loop (k : Nat) (F : Form) (n : Nat) (hn : n ≤ 60) (sh : Sh) : ∀ (f N m j : Nat) (x : List Nat) (y5 y6 : Option Rv), m ≤ f → f < N → x.length + m = n → j < wayN F m →
    ∃ y2' y5' y6', whileB (callN MT (k + 3)) (.cmp .lt (.lenS 4) (.slot 1)) l_samples_at_0 N ⟨[some (.v F.d), some (.v (nI n)), some (.v (nI j)), some (.fl (nL (waysL F n))), some (.v (.str x)), y5, y6], sh⟩ =
      .ok .nx ⟨[some (.v F.d), some (.v (nI n)), y2', some (.fl (nL (waysL F n))), some (.v (.str (x ++ sA F f m j))), y5', y6'], sh⟩
  | _, 0, _, _, _, _, _, _, h, _, _ => absurd h (Nat.not_lt_zero _)
  | 0, N + 1, m, j, x, y5, y6, hm, hN, hx, hj => by
    have hm0 : m = 0 := by omega
    subst hm0
    refine ⟨some (.v (nI j)), y5, y6, ?_⟩
    show _ = Res.ok Fl.nx ⟨[some (.v F.d), some (.v (nI n)), some (.v (nI j)), some (.fl (nL (waysL F n))), some (.v (.str (x ++ []))), y5, y6], sh⟩
    rw [List.append_nil]
    refine while_stop ?_
    have : ¬ x.length < n := by omega
    simp! [this]
  | f + 1, N + 1, m, j, x, y5, y6, hm, hN, hx, hj => by
    have ll := lng_le F
    have lp := lng_pos F
    have h64 := pow_le F
    by_cases hm0 : m = 0
    · subst hm0
      refine ⟨some (.v (nI j)), y5, y6, ?_⟩
      have e0 : sA F (f + 1) 0 j = [] := by simp [sA]
      rw [e0, List.append_nil]
      refine while_stop ?_
      have : ¬ x.length < n := by omega
      simp! [this]
    · have t1 : ev (callN MT (k + 3)) (.cmp .lt (.lenS 4) (.slot 1)) ⟨[some (.v F.d), some (.v (nI n)), some (.v (nI j)), some (.fl (nL (waysL F n))), some (.v (.str x)), y5, y6], sh⟩ = .ok (.v (.bl true)) ⟨[some (.v F.d), some (.v (nI n)), some (.v (nI j)), some (.fl (nL (waysL F n))), some (.v (.str x)), y5, y6], sh⟩ := by
        have : x.length < n := by omega
        simp! [this]
      have hnm : n - x.length = m := by omega
      have fo := frames_rising_ok k F sh
      by_cases hl : lng F ≤ m
      · have we := waysL_at F n (m - lng F) (by omega)
        have ee : eachN F m = wayN F (m - lng F) := by unfold eachN; rw [if_pos hl]
        have hw := wayN_pos F (m - lng F)
        have hsm := wayN_small F (n := m - lng F) (by omega)
        rw [← ee] at we hw hsm
        by_cases hlt : j < eachN F m * 2 ^ F.b
        · obtain ⟨g1, g2, g3, g4⟩ := sA_step F (by omega) hj hlt
          have fa := frA_at g3
          have fa' : ((frsL F).map D.str)[j / eachN F m]? = some (.str (frA F (j / eachN F m))) := by rw [List.getElem?_map, fa]; rfl
          have fll := frA_len g3
          obtain ⟨y2', y5', y6', e⟩ := samples_at_loop k F n hn sh f N (m - lng F) (j % eachN F m) (x ++ frA F (j / eachN F m)) (some (.v (nI (m - lng F)))) (some (.v (nI (eachN F m)))) (by omega) (by omega) (by rw [List.length_append, fll]; omega) g4
          refine ⟨y2', y5', y6', ?_⟩
          have es : sA F (f + 1) m j = frA F (j / eachN F m) ++ sA F f (m - lng F) (j % eachN F m) := by
            show (if m = 0 then [] else if _ then _ else _) = _
            rw [if_neg hm0, if_pos hlt]
          rw [es, ← List.append_assoc]
          refine (while_step (fl := .nx) t1 ?_ rfl).trans e
          unfold l_samples_at_0
          simp! [Nat.zero_le, hnm, long_of_ok, we, top_of_ok, top1, hlt, fo, fa']
        · have g1 := sA_rest F (by omega) hj hlt
          obtain ⟨y2', y5', y6', e⟩ := samples_at_loop k F n hn sh f N (m - 1) (j - eachN F m * 2 ^ F.b) (x ++ [49]) (some (.v (nI (m - lng F)))) (some (.v (nI (eachN F m)))) (by omega) (by omega) (by simp; omega) g1
          refine ⟨y2', y5', y6', ?_⟩
          have es : sA F (f + 1) m j = [49] ++ sA F f (m - 1) (j - eachN F m * 2 ^ F.b) := by
            show (if m = 0 then [] else if _ then _ else _) = _
            rw [if_neg hm0, if_neg hlt]; rfl
          rw [es, ← List.append_assoc]
          refine (while_step (fl := .nx) t1 ?_ rfl).trans e
          unfold l_samples_at_0
          simp! [Nat.zero_le, hnm, long_of_ok, we, top_of_ok, top1, hlt]
      · have ee : eachN F m = 0 := by unfold eachN; rw [if_neg hl]
        have hlt : ¬ j < eachN F m * 2 ^ F.b := by rw [ee]; omega
        have g1 := sA_rest F (by omega) hj hlt
        have ej : j - eachN F m * 2 ^ F.b = j := by rw [ee]; omega
        rw [ej] at g1
        obtain ⟨y2', y5', y6', e⟩ := samples_at_loop k F n hn sh f N (m - 1) j (x ++ [49]) (some (.v (.int ((m : Int) - lng F)))) (some (.v (nI 0))) (by omega) (by omega) (by simp; omega) g1
        refine ⟨y2', y5', y6', ?_⟩
        have es : sA F (f + 1) m j = [49] ++ sA F f (m - 1) j := by
          show (if m = 0 then [] else if _ then _ else 49 :: sA F f (m - 1) (j - _)) = _
          rw [if_neg hm0, if_neg hlt, ej]; rfl
        rw [es, ← List.append_assoc]
        refine (while_step (fl := .nx) t1 ?_ rfl).trans e
        have hs := n_subneg' m (lng F)
        have hg := ge_neg m (lng F) (by omega)
        have hz : ¬ j < 0 := by omega
        have hz1 : ¬ j < 0 * 2 ^ F.b := by omega
        have hz2 : j - 0 * 2 ^ F.b = j := by omega
        unfold l_samples_at_0
        simp! [hnm, long_of_ok, hs, hg, top_of_ok, top1, hz1, hz2]
theorem samples_at_ok (k : Nat) (F : Form) (n j : Nat) (h1 : 1 ≤ n) (h2 : n ≤ 60) (hj : j + 1 < wayN F n) (sh : Sh) : callN MT (k + 4) 142 [.v F.d, .v (nI n), .v (nI j)] sh = .ok (.v (.str (sA F n n j))) sh := by
  rw [u_samples_at]; unfold b_samples_at
  have w := fun k => ways_ok k F n (by omega)
  have hat := waysL_at F n n (Nat.le_refl _)
  have hw2 : 2 ≤ wayN F n := by omega
  have hj2 : j ≤ wayN F n - 2 := by omega
  have h0 : 0 ≤ j := Nat.zero_le _
  have wn : WN = 4999 + 1 := rfl
  obtain ⟨y2, y5, y6, e⟩ := samples_at_loop k F n h2 sh n WN n j [] none none (Nat.le_refl _) (by unfold WN; omega) (by simp) (by omega)
  rw [List.nil_append] at e
  simp! [need_form_ok, need_ticks_ok, w, hat, is_whole_ok, h0, hj2, e]
/-! the number of samples -/
theorem n_index (l : List (List Nat)) (x : List Nat) (hl : l.length ≤ 100000) (hx : x ∈ l) : methD .index (.v (.lst (l.map .str))) [.v (.str x)] = some (.v (nI (l.idxOf x))) := by
  have hf : (l.map D.str).all flatD = true := by
    rw [List.all_eq_true]
    intro d hd
    obtain ⟨n, _, rfl⟩ := List.mem_map.mp hd
    rfl
  have hi : ∀ l : List (List Nat), x ∈ l → ixOf (.str x) (l.map .str) = some (l.idxOf x) := by
    intro l
    induction l with
    | nil => intro h; cases h
    | cons a l ih =>
      intro h
      show (if deq (.str a) (.str x) = true then some 0 else (ixOf (.str x) (l.map .str)).map (· + 1)) = _
      have hd : deq (.str a) (.str x) = (a == x) := rfl
      rw [hd, List.idxOf_cons]
      by_cases e : a = x
      · subst e; simp
      · have hne : (a == x) = false := by simpa using e
        rcases List.mem_cons.mp h with h | h
        · exact absurd h.symm e
        · rw [hne, ih h]; rfl
  show (if flatD (.str x) = true ∧ (l.map D.str).all flatD = true ∧ (l.map D.str).length ≤ LIM then _ else none) = _
  rw [if_pos ⟨rfl, hf, by rw [List.length_map]; exact hl⟩, hi l hx]
  rfl
theorem number_in_loop (k : Nat) (F : Form) (x : List Nat) (ox : OkS x) (hx : x.length ≤ 60) (sh : Sh) : ∀ (f N at' tot : Nat) (rows : List (Nat × Nat)) (rest : Nat) (y5 y6 y7 : Option Rv), x.length - at' ≤ f → f < N → at' ≤ x.length → x.drop at' = sentL F rows rest → okW F rows →
    ∃ y4' y5' y6' y7', whileB (callN MT (k + 3)) (.cmp .lt (.slot 4) (.lenS 1)) l_number_in_0 N ⟨[some (.v F.d), some (.v (.str x)), some (.fl (nL (waysL F x.length))), some (.v (nI tot)), some (.v (nI at')), y5, y6, y7], sh⟩ =
      .ok .nx ⟨[some (.v F.d), some (.v (.str x)), some (.fl (nL (waysL F x.length))), some (.v (nI (tot + numL F f (x.drop at')))), y4', y5', y6', y7'], sh⟩
  | _, 0, _, _, _, _, _, _, _, _, h, _, _, _ => absurd h (Nat.not_lt_zero _)
  | 0, N + 1, at', tot, rows, rest, y5, y6, y7, hm, hN, ha, hd, hw => by
    refine ⟨some (.v (nI at')), y5, y6, y7, ?_⟩
    refine while_stop ?_
    have : ¬ at' < x.length := by omega
    simp! [this]
    rfl
  | f + 1, N + 1, at', tot, rows, rest, y5, y6, y7, hm, hN, ha, hd, hw => by
    have ll := lng_le F
    have lp := lng_pos F
    have h64 := pow_le F
    by_cases hend : at' < x.length
    · have e1 : x[at']? = some x[at'] := List.getElem?_eq_getElem hend
      have ed : x.drop at' = x[at'] :: x.drop (at' + 1) := List.drop_eq_getElem_cons hend
      have hc := ox.bit _ (List.getElem_mem hend)
      have hdl : (x.drop at').length = x.length - at' := List.length_drop ..
      have t1 : ev (callN MT (k + 3)) (.cmp .lt (.slot 4) (.lenS 1)) ⟨[some (.v F.d), some (.v (.str x)), some (.fl (nL (waysL F x.length))), some (.v (nI tot)), some (.v (nI at')), y5, y6, y7], sh⟩ = .ok (.v (.bl true)) ⟨[some (.v F.d), some (.v (.str x)), some (.fl (nL (waysL F x.length))), some (.v (nI tot)), some (.v (nI at')), y5, y6, y7], sh⟩ := by
        simp! [hend]
      have e48 := deq_one x[at'] 48
      have hne : x.drop at' ≠ [] := fun h => by rw [h] at hdl; simp at hdl; omega
      have hhd : (x.drop at').head? = some x[at'] := by rw [List.head?_drop, e1]
      by_cases h48 : x[at'] = 48
      · -- a frame
        obtain ⟨w, rows', er, hw1⟩ : ∃ w rows', rows = (0, w) :: rows' ∧ w < 2 ^ F.b := by
          cases rows with
          | nil =>
            have : x.drop at' = List.replicate rest 49 := hd
            rw [ed] at this
            have hm := List.eq_of_mem_replicate (this ▸ List.mem_cons_self : x[at'] ∈ List.replicate rest 49)
            omega
          | cons p rows' =>
            obtain ⟨g, w⟩ := p
            have es : sentL F ((g, w) :: rows') rest = List.replicate g 49 ++ (fr F w ++ sentL F rows' rest) := by simp [sentL]
            cases g with
            | zero => exact ⟨w, rows', rfl, hw _ List.mem_cons_self⟩
            | succ g =>
              rw [es, ed, List.replicate_succ, List.cons_append] at hd
              have := (List.cons.inj hd).1
              omega
        subst er
        have es : x.drop at' = fr F w ++ sentL F rows' rest := by rw [hd]; simp [sentL]
        have hlen : at' + lng F ≤ x.length := by
          have := congrArg List.length es
          rw [hdl, List.length_append, fr_len] at this
          omega
        have ek : (x.drop at').take (lng F) = fr F w := by rw [es, List.take_append_of_le_length (by rw [fr_len]; omega), List.take_of_length_le (by rw [fr_len]; omega)]
        have edd : (x.drop at').drop (lng F) = x.drop (at' + lng F) := List.drop_drop
        have es2 : x.drop (at' + lng F) = sentL F rows' rest := by rw [← edd, es, List.drop_append_of_le_length (by rw [fr_len]; omega), List.drop_of_length_le (by rw [fr_len]; omega), List.nil_append]
        have hwa : wordAt F x at' = some w := by rw [wordAt_drop, es]; exact wordAt_fr F w hw1 _
        have wo := word_at_ok (k + 1) F x at' ox.bit sh
        rw [hwa] at wo
        have wo : callN MT (k + 3) 26 [.v F.d, .v (.str x), .v (nI at')] sh = .ok (.v (nI w)) sh := wo
        have fo := frames_rising_ok k F sh
        have ni := n_index (frsL F) (fr F w) (by rw [frs_len]; omega) (frs_mem.mpr ⟨w, hw1, rfl⟩)
        have ni : methD .index (.v (.lst ((frsL F).map .str))) [.v (.str (fr F w))] = some (.v (nI (ixF F (fr F w)))) := ni
        have we := waysL_at F x.length (x.length - at' - lng F) (by omega)
        have ee : eachN F (x.length - at') = wayN F (x.length - at' - lng F) := by unfold eachN; rw [if_pos (by omega)]
        rw [← ee] at we
        have hib : ixF F (fr F w) < 2 ^ F.b := by
          have := List.idxOf_lt_length_of_mem (frs_mem.mpr ⟨w, hw1, rfl⟩)
          rw [frs_len] at this
          exact this
        have hsub : lng F ≤ x.length - at' := by omega
        obtain ⟨y4', y5', y6', y7', e⟩ := number_in_loop k F x ox hx sh f N (at' + lng F) (tot + eachN F (x.length - at') * ixF F (fr F w)) rows' rest (some (.v (nI (x.length - at' - lng F)))) (some (.v (nI (eachN F (x.length - at'))))) (some (.v (.str (fr F w)))) (by omega) (by omega) (by omega) es2 (fun p hp => hw p (List.mem_cons_of_mem _ hp))
        refine ⟨y4', y5', y6', y7', ?_⟩
        have en : numL F (f + 1) (x.drop at') = eachN F (x.length - at') * ixF F (fr F w) + numL F f (x.drop (at' + lng F)) := by
          show (if x.drop at' = [] then 0 else if (x.drop at').head? = some 48 then eachN F (x.drop at').length * ixF F ((x.drop at').take (lng F)) + numL F f ((x.drop at').drop (lng F)) else _) = _
          rw [if_neg hne, if_pos (by rw [hhd, h48]), hdl, ek, edd]
        rw [en, ← Nat.add_assoc]
        refine (while_step (fl := .nx) t1 ?_ rfl).trans e
        have isl : ∀ l, isLst (.v (.lst l)) = true := fun _ => rfl
        unfold l_number_in_0
        simp! [Nat.zero_le, isl, long_of_ok, we, e1, e48, h48, wo, framed_ok, fo, ni]
      · have h49 : x[at'] = 49 := by omega
        -- a tick of rest
        obtain ⟨rows', rest', es2, hw2⟩ : ∃ rows' rest', x.drop (at' + 1) = sentL F rows' rest' ∧ okW F rows' := by
          cases rows with
          | nil =>
            have hd' : x.drop at' = List.replicate rest 49 := hd
            rw [ed] at hd'
            cases rest with
            | zero => cases hd'
            | succ r =>
              rw [List.replicate_succ] at hd'
              exact ⟨[], r, (List.cons.inj hd').2, hw⟩
          | cons p rows' =>
            obtain ⟨g, w⟩ := p
            have es : sentL F ((g, w) :: rows') rest = List.replicate g 49 ++ (fr F w ++ sentL F rows' rest) := by simp [sentL]
            cases g with
            | zero =>
              obtain ⟨r, hr⟩ := fr_head F w
              rw [es, ed, hr] at hd
              have := (List.cons.inj hd).1
              omega
            | succ g =>
              rw [es, ed, List.replicate_succ, List.cons_append] at hd
              refine ⟨(g, w) :: rows', rest, ?_, fun p hp => ?_⟩
              · rw [(List.cons.inj hd).2]; simp [sentL]
              · rcases List.mem_cons.mp hp with hp | hp
                · subst hp; exact hw (g + 1, w) List.mem_cons_self
                · exact hw p (List.mem_cons_of_mem _ hp)
        have en : numL F (f + 1) (x.drop at') = eachN F (x.length - at') * 2 ^ F.b + numL F f (x.drop (at' + 1)) := by
          show (if x.drop at' = [] then 0 else if (x.drop at').head? = some 48 then _ else eachN F (x.drop at').length * 2 ^ F.b + numL F f ((x.drop at').drop 1)) = _
          rw [if_neg hne, if_neg (by rw [hhd, h49]; simp), hdl, List.drop_drop]
        rw [en, ← Nat.add_assoc]
        by_cases hl : lng F ≤ x.length - at'
        · have we := waysL_at F x.length (x.length - at' - lng F) (by omega)
          have ee : eachN F (x.length - at') = wayN F (x.length - at' - lng F) := by unfold eachN; rw [if_pos (by omega)]
          rw [← ee] at we
          obtain ⟨y4', y5', y6', y7', e⟩ := number_in_loop k F x ox hx sh f N (at' + 1) (tot + eachN F (x.length - at') * 2 ^ F.b) rows' rest' (some (.v (nI (x.length - at' - lng F)))) (some (.v (nI (eachN F (x.length - at'))))) y7 (by omega) (by omega) (by omega) es2 hw2
          refine ⟨y4', y5', y6', y7', ?_⟩
          refine (while_step (fl := .nx) t1 ?_ rfl).trans e
          unfold l_number_in_0
          simp! [Nat.zero_le, long_of_ok, we, e1, e48, h48, top_of_ok, top1]
        · have ee : eachN F (x.length - at') = 0 := by unfold eachN; rw [if_neg hl]
          obtain ⟨y4', y5', y6', y7', e⟩ := number_in_loop k F x ox hx sh f N (at' + 1) (tot + 0 * 2 ^ F.b) rows' rest' (some (.v (.int (((x.length - at' : Nat) : Int) - lng F)))) (some (.v (nI 0))) y7 (by omega) (by omega) (by omega) es2 hw2
          refine ⟨y4', y5', y6', y7', ?_⟩
          rw [ee]
          refine (while_step (fl := .nx) t1 ?_ rfl).trans e
          have hs := n_subneg' (x.length - at') (lng F)
          have hg := ge_neg (x.length - at') (lng F) (by omega)
          unfold l_number_in_0
          simp! [long_of_ok, hs, hg, e1, e48, h48, top_of_ok, top1]
    · have ed : x.drop at' = [] := List.drop_eq_nil_of_le (by omega)
      refine ⟨some (.v (nI at')), y5, y6, y7, ?_⟩
      refine while_stop ?_
      have en : numL F (f + 1) (x.drop at') = 0 := by rw [ed]; rfl
      rw [en]
      simp! [hend]
      rfl
theorem number_in_ok (k : Nat) (F : Form) (x : List Nat) (ox : OkS x) (hx : x.length ≤ 60) (rows : List (Nat × Nat)) (rest : Nat) (hr : readF F x = some (rows, rest)) (sh : Sh) : callN MT (k + 4) 143 [.v F.d, .v (.str x)] sh = .ok (.v (nI (numL F x.length x))) sh := by
  rw [u_number_in]; unfold b_number_in
  obtain ⟨h1, h2, h3⟩ := readF_some ox.bit hr
  have ri := rows_in_ok k F x ox.bit (by omega) sh
  rw [hr] at ri
  have w := ways_ok (k + 1) F x.length (by omega) sh
  have ns := need_samples_ok (k + 2) x ox sh
  have h60 : ¬ 60 < x.length := by omega
  have wn : WN = 4999 + 1 := rfl
  obtain ⟨y4, y5, y6, y7, e⟩ := number_in_loop k F x ox hx sh x.length WN 0 0 rows rest none none none (by omega) (by unfold WN; omega) (by omega) (by rw [List.drop_zero]; exact h1) h3
  rw [List.drop_zero, Nat.zero_add] at e
  simp! [need_form_ok, ns, h60, ri, nn_readD, Option.isSome_some, w, e]
end Wi

/-! sending -/
namespace Wi
local macro_rules
  | `(tactic| simp! [$ls,*]) => `(tactic| simp -implicitDefEqProofs (maxSteps := 10000000) (disch := first | assumption | (simp -implicitDefEqProofs only [dp_non, dp_bl, dp_int, dp_str, dp_tup, dp_lst, dpl_nil, dpl_cons, fd_dep, ref_dep, n_dep, dep_nL, depL_nL, len_nL, len_repL, List.length_append, List.length_cons, List.length_nil, List.length_replicate, List.length_reverse, List.length_set, List.length_map, List.length_range, Nat.reduceAdd, Nat.reduceMul, Nat.reduceLT, Nat.reduceLeDiff, Nat.zero_le, true_or, or_true, List.getElem?_cons_succ, List.getElem?_cons_zero]; done) | omega | (simp -implicitDefEqProofs only [dp_non, dp_bl, dp_int, dp_str, dp_tup, dp_lst, dpl_nil, dpl_cons, fd_dep, ref_dep, n_dep, dep_nL, depL_nL, len_nL, len_repL, List.length_append, List.length_cons, List.length_nil, List.length_replicate, List.length_reverse, List.length_set, List.length_map, List.length_range, Nat.reduceAdd, Nat.reduceMul]; omega)) only [rdK_scr, frz_scr, pkK_scr, pkK_shr, lstK_shr, appK_shr, town_init', List.nil_append, q_bok, q_berr, q_bexc, q_bite, q_onB, q_nx, q_rt, q_ct, q_fz, q_frv, q_frfl, q_frro, q_frshr, q_frfn, q_oo, q_on, q_oite, q_and, q_or, n_eq, k_0, k_1, k_2, k_3, k_4, k_5, k_6, k_7, k_8, k_9, k_10, k_11, k_12, k_13, k_14, k_15, k_16, k_20, k_30, k_31, k_32, k_33, k_40, k_41, k_59, k_60, k_61, k_63, k_64, k_70, k_80, k_90, k_100, k_101, k_120, k_150, k_180, k_190, k_194, k_195, k_200, k_201, k_7919, k_9973, k_9999, k_12345, k_100000, k_104729, k_999961, k_999979, k_999983, k_1103515245, k_2147483647, e_const, e_glob, e_slot', rdK_v, rdK_fl, rdK_ro, rdK_shr, rdK_exc, e_bin, e_neg', ngK_n, partI', ptK_n, ptK_i, ptK_t, nb_non, nb_int, nb_slot, nb_bin, nb_neg, nb_call, nb_subS, nb_sub, nb_lenS, cutS, cutT, cutLs, cut_nn, cut_0n, cut_n0, cut_0m, e_not, e_and, e_or, e_ite, e_cmp, e_cmp2, e_cmpS, e_inS, e_tup, e_lst, q_mm0, q_mm1, q_om, e_pick, pick_par3, e_call, e_sel', selK_n, selN_s, e_bi, e_lenS, e_join, e_meth, e_sub, e_subS, e_cut, e_rev, e_isin, es_nil, es_cons, i_val, i_range1', i_range2', i_range3', i_enum, i_zip, x_nil, x_cons, x_set, x_shr, x_unp, x_par, x_expr, x_app, x_ext, x_put, x_ite, x_for', x_while', forB_nil, q_set1, q_setN, q_puts0, q_puts, q_putsR0, q_putsR, x_ret, x_retS', rsK_s, x_raise, x_cont, x_pass, x_try', tryK_ok, tryK_exc0, tryK_ite, handed', handedC, hdK_ok, put_if, q_callR, q_eR1, q_eR2, q_eR3, q_eRi, q_e1, q_e2, q_e3, q_ei, n_add, n_mul, n_sub, n_mod, n_div, n_lt, n_le, n_gt, n_ge, n_deq, n_dep, n_ty, n_tyb, n_tys, n_tyt, n_tyl, t_nil, t_cons, deq_refl, ref_eq, ref_deq, ref_dep, ty_int_non, ty_int_bl, ty_int_str, ty_int_tup, ty_int_lst, ty_int_int, ty_bool_non, ty_bool_bl, ty_bool_str, ty_bool_tup, ty_bool_lst, ty_bool_int, ty_str_non, ty_str_bl, ty_str_str, ty_str_tup, ty_str_lst, ty_str_int, ty_tuple_non, ty_tuple_bl, ty_tuple_str, ty_tuple_tup, ty_tuple_lst, ty_tuple_int, ty_list_non, ty_list_bl, ty_list_str, ty_list_tup, ty_list_lst, ty_list_int, q_eq, q_ne, q_in, q_inl, q_nin, q_ninl, dep_nL, fd_0, fd_1, fd_2, fd_3, fd_4, fd_t, fd_seq, fd_len, fd_dep, ord_low, ord_in, par_in, par_none, par_even, par_odd, n_addS, n_addT, n_addL, n_mulS, n_mulL, n_sum, n_len, n_intb, n_inti, n_tupl, n_lstt, n_lstl, n_str, revD_l, nL_rev, nL_app, app1', appK_fl, ext1', extK_fl, lstAt', lstK_fl, q_isN, q_notN, nn_nI, nn_non, nn_bl, nn_str, nn_tup, nn_lst, n_subT, n_subL, n_subF, n_subS, rgK_n, rg2K_n, ↓reduceIte, Bool.false_eq_true, List.length_map, List.length_cons, List.length_nil, List.getElem?_cons_zero, List.getElem?_cons_succ, List.getElem?_nil, List.set_cons_zero, List.set_cons_succ, Option.map_some, Option.map_none, Option.bind_some, Option.bind_none, Option.isSome_some, Nat.reduceAdd, Nat.reduceLT, Nat.reduceLeDiff, Nat.reduceSub, Nat.reduceMul, Nat.reduceEqDiff, decide_true, decide_false, Bool.true_and, Bool.and_true, Bool.false_and, Bool.and_false, Bool.or_true, Bool.true_or, Bool.false_or, Bool.or_false, Bool.not_true, Bool.not_false, peek', pkK_v, pkK_fl, pkK_ro, len_s, len_t, len_l, len_f, len_r, seq_t, seq_l, Bool.decide_eq_true, unV, $ls,*])
theorem n_min2 (a b : Nat) : biD .min [.v (nI a), .v (nI b)] = some (.v (nI (min a b))) := by
  show some (Rv.v (.int (if (b : Int) < a then b else a))) = _
  unfold nI
  by_cases h : (b : Int) < a
  · rw [if_pos h, Nat.min_eq_right (by omega)]
  · rw [if_neg h, Nat.min_eq_left (by omega)]
theorem n_max2 (a b : Nat) : biD .max [.v (nI a), .v (nI b)] = some (.v (nI (max a b))) := by
  show some (Rv.v (.int (if (b : Int) > a then b else a))) = _
  unfold nI
  by_cases h : (b : Int) > a
  · rw [if_pos h, Nat.max_eq_right (by omega)]
  · rw [if_neg h, Nat.max_eq_left (by omega)]
theorem n_maxneg (a b : Nat) (h : a ≤ b) : biD .max [.v (nI 0), .v (.int ((a : Int) - b))] = some (.v (nI 0)) := by
  show some (Rv.v (.int (if ((a : Int) - b) > 0 then _ else 0))) = _
  rw [if_neg (by omega)]; rfl
theorem n_subneg (a b : Nat) : binD .sub (.v (nI a)) (.v (nI b)) = some (.v (.int ((a : Int) - b))) := rfl
theorem n_mulT (x : List D) (n : Nat) (h : 2 ≤ n) (h2 : n ≤ 1000) (h3 : 1 ≤ x.length) (h4 : x.length ≤ 1000) : binD .mul (.v (.tup x)) (.v (nI n)) = some (.v (.tup (repL n x))) := by
  show (if (2 : Int) ≤ n ∧ (n : Int) ≤ 1000 ∧ 1 ≤ x.length ∧ x.length ≤ 1000 then some (Rv.v (.tup (repL (n : Int).toNat x))) else none) = _
  rw [Int.toNat_natCast, if_pos ⟨by omega, by omega, h3, h4⟩]
theorem n_count (l : List Nat) (a : Nat) : methD .count (.v (.lst (nL l))) [.v (nI a)] = some (.v (nI (l.count a))) := by
  have h : (nL l).all flatD = true := by
    rw [List.all_eq_true]
    intro d hd
    obtain ⟨n, _, rfl⟩ := List.mem_map.mp hd
    rfl
  show (if flatD (nI a) = true ∧ (nL l).all flatD = true then some (Rv.v (.int _)) else none) = _
  rw [if_pos ⟨rfl, h⟩]
  have : (nL l).countP (fun y => deq y (nI a)) = l.count a := by
    unfold nL List.count
    rw [List.countP_map]
    congr 1
    funext y
    show deq (nI y) (nI a) = (y == a)
    rw [n_deq]
    by_cases h : y = a
    · subst h; simp
    · simp [h]
  rw [this]; rfl
/-! the laws' other words for frames -/
theorem powAt {i : Nat} (h : i < 6) : ([nI 1, nI 2, nI 4, nI 8, nI 16, nI 32] : List D)[i]? = some (nI (2 ^ i)) := by
  have : i = 0 ∨ i = 1 ∨ i = 2 ∨ i = 3 ∨ i = 4 ∨ i = 5 := by omega
  rcases this with h | h | h | h | h | h <;> subst h <;> rfl
theorem ordHigh (lo : Bool) : deq (.str (ordS lo)) (.str [104, 105, 103, 104]) = !lo := by cases lo <;> rfl
theorem law_bits_loop (k b w : Nat) (hb : b ≤ 6) (y0 : Option Rv) (sh : Sh) : ∀ (n a : Nat) (x3 : Option Rv), a + n = b →
    ∃ x3', forB (callN MT k) [3] true l_law_bits_0 (nL (List.range' a n)) ⟨[y0, some (.v (nI w)), some (.fl (nL ((List.range a).map fun i => w / 2 ^ i % 2))), x3], sh⟩ = .ok .nx ⟨[y0, some (.v (nI w)), some (.fl (nL ((List.range b).map fun i => w / 2 ^ i % 2))), x3'], sh⟩
  | 0, a, x3, h => ⟨x3, by have : a = b := by omega
                           subst this; rfl⟩
  | n + 1, a, x3, h => by
    obtain ⟨x3', e⟩ := law_bits_loop k b w hb y0 sh n (a + 1) (some (.v (nI a))) (by omega)
    refine ⟨x3', ?_⟩
    rw [List.range'_succ]
    refine (for_step (fl := .nx) (s1 := ⟨[y0, some (.v (nI w)), some (.fl (nL ((List.range a).map fun i => w / 2 ^ i % 2))), some (.v (nI a))], sh⟩) rfl ?_ rfl).trans e
    have ha : a < 6 := by omega
    have hq := powAt ha
    have hp : 0 < 2 ^ a := Nat.two_pow_pos _
    have hp2 : 2 ^ a < 1073741824 := by
      have : a = 0 ∨ a = 1 ∨ a = 2 ∨ a = 3 ∨ a = 4 ∨ a = 5 := by omega
      rcases this with h | h | h | h | h | h <;> subst h <;> decide
    have ea : nL ((List.range a).map fun i => w / 2 ^ i % 2) ++ [nI (w / 2 ^ a % 2)] = nL ((List.range (a + 1)).map fun i => w / 2 ^ i % 2) := by
      unfold nL
      rw [List.range_succ, List.map_append, List.map_append]; rfl
    unfold l_law_bits_0
    simp! [hq, ea]
theorem law_bits_ok (k : Nat) (F : Form) (w : Nat) (sh : Sh) : callN MT (k + 1) 46 [.v F.d, .v (nI w)] sh = .ok (if F.lo = true then .v (.lst (nL (bitsF F w))) else .fl (nL (bitsF F w))) sh := by
  rw [u_law_bits]; unfold b_law_bits
  have hb6 := F.hb6
  obtain ⟨x3, e⟩ := law_bits_loop k F.b w hb6 (some (.v F.d)) sh F.b 0 none (by omega)
  rw [← List.range_eq_range'] at e
  have e : forB (callN MT k) [3] true l_law_bits_0 (nL (List.range F.b)) ⟨[some (.v F.d), some (.v (nI w)), some (.fl []), none], sh⟩ = _ := e
  have hl := bitsLo_len F.b w
  unfold bitsF
  rw [bitsLo_map] at hl ⊢
  cases hlo : F.lo
  · simp! [e, hlo, ordHigh]
  · simp! [e, hlo, ordHigh]
theorem frz_bits (c : Bool) (l : List D) : frz (if c = true then Rv.v (.lst l) else .fl l) = .v (.lst l) := by cases c <;> rfl
theorem count_sum : ∀ l : List Nat, (∀ b ∈ l, b < 2) → l.count 1 = l.sum
  | [], _ => rfl
  | a :: l, h => by
    have ih := count_sum l fun b hb => h b (List.mem_cons_of_mem _ hb)
    have ha := h a List.mem_cons_self
    rw [List.count_cons, List.sum_cons, ih]
    have : a = 0 ∨ a = 1 := by omega
    rcases this with h | h <;> subst h <;> simp [Nat.add_comm]
theorem odd_in {n : Nat} (h : n ≤ 6) : inL (nI n) [nI 1, nI 3, nI 5] = decide (n % 2 = 1) := by
  have : n = 0 ∨ n = 1 ∨ n = 2 ∨ n = 3 ∨ n = 4 ∨ n = 5 ∨ n = 6 := by omega
  rcases this with h | h | h | h | h | h | h <;> subst h <;> rfl
theorem even_in {n : Nat} (h : n ≤ 6) : inL (nI n) [nI 0, nI 2, nI 4, nI 6] = decide (n % 2 = 0) := by
  have : n = 0 ∨ n = 1 ∨ n = 2 ∨ n = 3 ∨ n = 4 ∨ n = 5 ∨ n = 6 := by omega
  rcases this with h | h | h | h | h | h | h <;> subst h <;> rfl
theorem sum_le : ∀ l : List Nat, (∀ b ∈ l, b < 2) → l.sum ≤ l.length
  | [], _ => Nat.le_refl _
  | a :: l, h => by
    have ih := sum_le l fun b hb => h b (List.mem_cons_of_mem _ hb)
    have ha := h a List.mem_cons_self
    rw [List.sum_cons, List.length_cons]; omega
theorem law_frame_c (k : Nat) (F : Form) (l : List Nat) (y1 y2 : Option Rv) (hl : l.length ≤ 1000) (h2 : ∀ b ∈ l, b < 2) (sh : Sh) : ev (callN MT k) c_law_frame_0 ⟨[some (.v F.d), y1, y2, some (.fl (nL l)), none], sh⟩ =
    .ok (.fl ((l.map fun b => List.replicate F.p (48 + b)).map D.str)) ⟨[some (.v F.d), y1, y2, some (.v (.lst (nL l))), none], sh⟩ := by
  unfold c_law_frame_0
  rw [List.map_map]
  have hp := F.hp6
  refine comp_map (enc := nI) (l := l) (fun z => ⟨[some (.v F.d), y1, y2, some (.v (.lst (nL l))), z], sh⟩) (fun a => some (.v (nI a))) _ (by simp! [itD]; rfl) none rfl rfl (by omega) (fun _ _ _ => rfl) ?_ (fun _ => rfl)
  intro a ha
  have := h2 a ha
  have hs := n_str (n := a) (by omega)
  simp! [hs, repL_one]
  rfl
theorem law_frame_ok (k : Nat) (F : Form) (w : Nat) (sh : Sh) : callN MT (k + 2) 47 [.v F.d, .v (nI w)] sh = .ok (.v (.str (fr F w))) sh := by
  rw [u_law_frame]; unfold b_law_frame
  have h1 := bitsF_len F w
  have hb6 := F.hb6
  have hs2 := F.hs2
  have hb2 := bitsF_lt F w
  have lb := law_bits_ok k F w sh
  have hs := sum_le _ hb2
  have hcs := count_sum _ hb2
  have o1 := odd_in (n := (bitsF F w).sum) (by omega)
  have o2 := even_in (n := (bitsF F w).sum) (by omega)
  have ones : ∀ n, repL n [nI 1] = nL (List.replicate n 1) := fun n => repL_oneD n 1
  have fin : ∀ (y1 y2 : Option Rv), ev (callN MT (k + 1)) (.join [] c_law_frame_0) ⟨[some (.v F.d), y1, y2, some (.fl (nL (row F w))), none], sh⟩ = .ok (.v (.str (fr F w))) ⟨[some (.v F.d), y1, y2, some (.v (.lst (nL (row F w)))), none], sh⟩ := by
    intro y1 y2
    have rl := row_len' F w
    have m1 := mB_le F
    have c := law_frame_c (k + 1) F (row F w) y1 y2 (by omega) (row_lt F w) sh
    have fl := fr_len F w
    have l6 := lng_le F
    have ht : ((row F w).map fun b => List.replicate F.p (48 + b)).flatten = fr F w := rfl
    have j := n_join ((row F w).map fun b => List.replicate F.p (48 + b)) (by rw [ht]; omega)
    rw [ht] at j
    simp! [c, j]
  have el : (nL (bitsF F w)).length = F.b := by rw [len_nL, h1]
  have rr : ∀ m : List Nat, parityB F.q (bitsF F w) = m → nL (row F w) = [nI 0] ++ nL (bitsF F w) ++ nL m ++ nL (List.replicate F.s 1) := by
    intro m hm
    unfold row
    rw [hm]
    simp [nL]
  have par0 : (bitsF F w).sum % 2 = 0 ∨ (bitsF F w).sum % 2 = 1 := by omega
  have bin : ∀ n : Nat, n % 2 = 0 ∨ n % 2 = 1 → (decide (n % 2 = 1)).toNat = n % 2 ∧ (decide (n % 2 = 0)).toNat = 1 - n % 2 := by
    intro n h
    rcases h with h | h <;> rw [h] <;> decide
  obtain ⟨q1, q2⟩ := bin _ par0
  have lb2 : callN MT (k + 1) 46 [.v F.d, .v (nI w)] sh = .ok (.v (.lst (nL (bitsF F w)))) sh ∨ callN MT (k + 1) 46 [.v F.d, .v (nI w)] sh = .ok (.fl (nL (bitsF F w))) sh := by
    rw [lb]
    cases F.lo
    · exact .inr rfl
    · exact .inl rfl
  have isl : ∀ l, isLst (.v (.lst l)) = true := fun _ => rfl
  have n1 : decide (Par.none = Par.even) = false := rfl
  have n2 : decide (Par.none = Par.odd) = false := rfl
  have n3 : decide (Par.even = Par.odd) = false := rfl
  have n4 : decide (Par.odd = Par.even) = false := rfl
  have n5 : decide (Par.even = Par.even) = true := rfl
  have n6 : decide (Par.odd = Par.odd) = true := rfl
  cases hq : F.q
  · have er := rr [] (by rw [hq]; rfl)
    have er : [nI 0] ++ nL (bitsF F w) ++ nL (List.replicate F.s 1) = nL (row F w) := by rw [er]; simp [nL]
    rcases lb2 with lb2 | lb2 <;> simp! [isl, n1, n2, n3, n4, n5, n6, lb2, hq, ones, er, fin]
  · have er := rr [(bitsF F w).sum % 2] (by rw [hq]; rfl)
    have er : [nI 0] ++ nL (bitsF F w) ++ [nI ((bitsF F w).sum % 2)] ++ nL (List.replicate F.s 1) = nL (row F w) := by rw [er]; simp [nL]
    rcases lb2 with lb2 | lb2 <;> simp! [isl, n1, n2, n3, n4, n5, n6, lb2, hq, n_count, hcs, o1, q1, ones, er, fin]
  · have er := rr [1 - (bitsF F w).sum % 2] (by rw [hq]; rfl)
    have er : [nI 0] ++ nL (bitsF F w) ++ [nI (1 - (bitsF F w).sum % 2)] ++ nL (List.replicate F.s 1) = nL (row F w) := by rw [er]; simp [nL]
    rcases lb2 with lb2 | lb2 <;> simp! [isl, n1, n2, n3, n4, n5, n6, lb2, hq, n_count, hcs, o2, q2, ones, er, fin]
end Wi

/-! k21 -/
namespace Wi
local macro_rules
  | `(tactic| simp! [$ls,*]) => `(tactic| simp -implicitDefEqProofs (maxSteps := 10000000) (disch := first | assumption | (simp -implicitDefEqProofs only [dp_non, dp_bl, dp_int, dp_str, dp_tup, dp_lst, dpl_nil, dpl_cons, fd_dep, ref_dep, n_dep, dep_nL, depL_nL, len_nL, len_repL, List.length_append, List.length_cons, List.length_nil, List.length_replicate, List.length_reverse, List.length_set, List.length_map, List.length_range, Nat.reduceAdd, Nat.reduceMul, Nat.reduceLT, Nat.reduceLeDiff, Nat.zero_le, true_or, or_true, List.getElem?_cons_succ, List.getElem?_cons_zero]; done) | omega | (simp -implicitDefEqProofs only [dp_non, dp_bl, dp_int, dp_str, dp_tup, dp_lst, dpl_nil, dpl_cons, fd_dep, ref_dep, n_dep, dep_nL, depL_nL, len_nL, len_repL, List.length_append, List.length_cons, List.length_nil, List.length_replicate, List.length_reverse, List.length_set, List.length_map, List.length_range, Nat.reduceAdd, Nat.reduceMul]; omega)) only [rdK_scr, frz_scr, pkK_scr, pkK_shr, lstK_shr, appK_shr, town_init', List.nil_append, q_bok, q_berr, q_bexc, q_bite, q_onB, q_nx, q_rt, q_ct, q_fz, q_frv, q_frfl, q_frro, q_frshr, q_frfn, q_oo, q_on, q_oite, q_and, q_or, n_eq, k_0, k_1, k_2, k_3, k_4, k_5, k_6, k_7, k_8, k_9, k_10, k_11, k_12, k_13, k_14, k_15, k_16, k_20, k_30, k_31, k_32, k_33, k_40, k_41, k_59, k_60, k_61, k_63, k_64, k_70, k_80, k_90, k_100, k_101, k_120, k_150, k_180, k_190, k_194, k_195, k_200, k_201, k_7919, k_9973, k_9999, k_12345, k_100000, k_104729, k_999961, k_999979, k_999983, k_1103515245, k_2147483647, e_const, e_glob, e_slot', rdK_v, rdK_fl, rdK_ro, rdK_shr, rdK_exc, e_bin, e_neg', ngK_n, partI', ptK_n, ptK_i, ptK_t, nb_non, nb_int, nb_slot, nb_bin, nb_neg, nb_call, nb_subS, nb_sub, nb_lenS, cutS, cutT, cutLs, cut_nn, cut_0n, cut_n0, cut_0m, e_not, e_and, e_or, e_ite, e_cmp, e_cmp2, e_cmpS, e_inS, e_tup, e_lst, q_mm0, q_mm1, q_om, e_pick, pick_par3, e_call, e_sel', selK_n, selN_s, e_bi, e_lenS, e_join, e_meth, e_sub, e_subS, e_cut, e_rev, e_isin, es_nil, es_cons, i_val, i_range1', i_range2', i_range3', i_enum, i_zip, x_nil, x_cons, x_set, x_shr, x_unp, x_par, x_expr, x_app, x_ext, x_put, x_ite, x_for', x_while', forB_nil, q_set1, q_setN, q_puts0, q_puts, q_putsR0, q_putsR, x_ret, x_retS', rsK_s, x_raise, x_cont, x_pass, x_try', tryK_ok, tryK_exc0, tryK_ite, handed', handedC, hdK_ok, put_if, q_callR, q_eR1, q_eR2, q_eR3, q_eRi, q_e1, q_e2, q_e3, q_ei, n_add, n_mul, n_sub, n_mod, n_div, n_lt, n_le, n_gt, n_ge, n_deq, n_dep, n_ty, n_tyb, n_tys, n_tyt, n_tyl, t_nil, t_cons, deq_refl, ref_eq, ref_deq, ref_dep, ty_int_non, ty_int_bl, ty_int_str, ty_int_tup, ty_int_lst, ty_int_int, ty_bool_non, ty_bool_bl, ty_bool_str, ty_bool_tup, ty_bool_lst, ty_bool_int, ty_str_non, ty_str_bl, ty_str_str, ty_str_tup, ty_str_lst, ty_str_int, ty_tuple_non, ty_tuple_bl, ty_tuple_str, ty_tuple_tup, ty_tuple_lst, ty_tuple_int, ty_list_non, ty_list_bl, ty_list_str, ty_list_tup, ty_list_lst, ty_list_int, q_eq, q_ne, q_in, q_inl, q_nin, q_ninl, dep_nL, fd_0, fd_1, fd_2, fd_3, fd_4, fd_t, fd_seq, fd_len, fd_dep, ord_low, ord_in, par_in, par_none, par_even, par_odd, n_addS, n_addT, n_addL, n_mulS, n_mulL, n_sum, n_len, n_intb, n_inti, n_tupl, n_lstt, n_lstl, n_str, revD_l, nL_rev, nL_app, app1', appK_fl, ext1', extK_fl, lstAt', lstK_fl, q_isN, q_notN, nn_nI, nn_non, nn_bl, nn_str, nn_tup, nn_lst, n_subT, n_subL, n_subF, n_subS, rgK_n, rg2K_n, ↓reduceIte, Bool.false_eq_true, List.length_map, List.length_cons, List.length_nil, List.getElem?_cons_zero, List.getElem?_cons_succ, List.getElem?_nil, List.set_cons_zero, List.set_cons_succ, Option.map_some, Option.map_none, Option.bind_some, Option.bind_none, Option.isSome_some, Nat.reduceAdd, Nat.reduceLT, Nat.reduceLeDiff, Nat.reduceSub, Nat.reduceMul, Nat.reduceEqDiff, decide_true, decide_false, Bool.true_and, Bool.and_true, Bool.false_and, Bool.and_false, Bool.or_true, Bool.true_or, Bool.false_or, Bool.or_false, Bool.not_true, Bool.not_false, peek', pkK_v, pkK_fl, pkK_ro, len_s, len_t, len_l, len_f, len_r, seq_t, seq_l, Bool.decide_eq_true, unV, $ls,*])
section k21
theorem lt_str (x y : List Nat) : cmpD .lt (.v (.str x)) (.v (.str y)) = some (decide (x < y)) := by
  show (if ordD (.str x) (.str y) = true then some (ltD (.str x) (.str y)) else none) = _
  have h : ordD (.str x) (.str y) = true := rfl
  rw [if_pos h, ltD_s]
theorem deq_str' (x y : List Nat) : deq (.str x) (.str y) = decide (x = y) := by
  show (x == y) = _
  by_cases h : x = y
  · subst h; simp
  · simp [h]
theorem sub_lastN (l : List D) (n : Nat) (h : l.length = n + 1) : subD (.fl l) (.v (.int (-((1 : Nat) : Int)))) = l[n]?.map Rv.v := by
  show (atL l _).map Rv.v = _
  unfold atL
  rw [h, ix_last]; rfl
theorem plain21 (ns : List Int) : ∃ sh, callN MT 40 146 [scr ns] [] = .ok (.v (.bl true)) sh := by
  have d0 := draw_ok 36 ns 0 999979 (by omega) (by decide)
  have d1 := draw_ok 36 ns 1 999961 (by omega) (by decide)
  have b0 := dr_lt ns 0 (m := 999979) (by decide)
  have b1 := dr_lt ns 1 (m := 999961) (by decide)
  generalize dr ns 0 999979 = fi at d0 b0
  generalize dr ns 1 999961 = se at d1 b1
  generalize hF : drF3 ns 2 = F
  have hb4 := F.hb
  have ll := lng_le F
  have lp := lng_pos F
  have h16 := pow_ge F
  have h64 := pow_le F
  have hmx : max 1 (61 - lng F) = 61 - lng F := by omega
  have d2 := draw_ok 36 ns 7 (61 - lng F) (by omega) (by omega)
  have b2 := dr_lt ns 7 (m := 61 - lng F) (by omega)
  generalize dr ns 7 (61 - lng F) = r at d2 b2
  generalize hn : lng F + r = n
  have hn60 : n ≤ 60 := by omega
  have hnl : lng F ≤ n := by omega
  have hbig := wayN_big F n hnl
  have hsm := wayN_small F hn60
  have hm := how_many_ok 35 F n (by omega) hn60 (town 8)
  generalize hN : wayN F n - 1 = M at hm
  have hM0 : 0 < M := by omega
  have hj : fi * 7919 % M + 1 < wayN F n := by have := Nat.mod_lt (fi * 7919) hM0; omega
  have hk : se * 104729 % M + 1 < wayN F n := by have := Nat.mod_lt (se * 104729) hM0; omega
  have s1 := samples_at_ok 35 F n _ (by omega) hn60 hj (town 8)
  have s2 := samples_at_ok 35 F n _ (by omega) hn60 hk (town 8)
  have s3 := samples_at_ok 35 F n (M - 1) (by omega) hn60 (by omega) (town 8)
  have e3 : sA F n n (M - 1) = List.replicate (n - lng F) 49 ++ frA F (2 ^ F.b - 1) := by
    have : M - 1 = wayN F n - 2 := by omega
    rw [this]
    exact sA_last F n n (Nat.le_refl _) hnl
  rw [e3] at s3
  have l1 := sA_len F n n (fi * 7919 % M) (Nat.le_refl _) (by omega)
  have l2 := sA_len F n n (se * 104729 % M) (Nat.le_refl _) (by omega)
  obtain ⟨rows, rest, er, hw, hne⟩ := sA_sent F n n (fi * 7919 % M) (Nat.le_refl _) (by omega)
  have hne := hne hj
  have rd := readF_sent F rows rest hne hw
  rw [← er] at rd
  have ok1 : OkS (sA F n n (fi * 7919 % M)) := ⟨by omega, by omega, by rw [er]; exact sentL_bit F rows rest⟩
  have rb := read_by_ok 35 F _ ok1 (town 8)
  rw [rd] at rb
  have nu := number_in_ok 35 F _ ok1 (by omega) rows rest rd (town 8)
  rw [l1, numL_sA F n n _ (Nat.le_refl _) (by omega)] at nu
  have lt1 : decide (fi * 7919 % M < se * 104729 % M) = decide (sA F n n (fi * 7919 % M) < sA F n n (se * 104729 % M)) := by
    apply decide_eq_decide.mpr
    constructor
    · exact fun h => sA_lt F n n _ _ (Nat.le_refl _) (by omega) h
    · intro h
      rcases Nat.lt_trichotomy (fi * 7919 % M) (se * 104729 % M) with z | z | z
      · exact z
      · rw [z] at h; exact absurd h (lx_irr _)
      · exact absurd (sA_lt F n n _ _ (Nat.le_refl _) (by omega) z) (lx_asymm h)
  have eq1 : decide (fi * 7919 % M = se * 104729 % M) = decide (sA F n n (fi * 7919 % M) = sA F n n (se * 104729 % M)) := by
    apply decide_eq_decide.mpr
    constructor
    · exact fun h => by rw [h]
    · intro h
      rcases Nat.lt_trichotomy (fi * 7919 % M) (se * 104729 % M) with z | z | z
      · have := sA_lt F n n _ _ (Nat.le_refl _) (by omega) z
        rw [h] at this; exact absurd this (lx_irr _)
      · exact z
      · have := sA_lt F n n _ _ (Nat.le_refl _) (by omega) z
        rw [h] at this; exact absurd this (lx_irr _)
  have srtd : biD .sorted [.v (.lst (((List.range (2 ^ F.b)).map (fr F)).map .str))] = some (.fl ((frsL F).map .str)) := n_sorted ((List.range (2 ^ F.b)).map (fr F)) (by simp; omega)
  have c0 : ∀ (y3 y4 y5 y6 y7 y8 y9 y10 y11 : Option Rv) sh, ev (callN MT 39) c_law_k21_0 ⟨[some (scr ns), some (.shr 0), some (.v F.d), y3, y4, y5, y6, y7, y8, y9, y10, y11, none], sh⟩ = .ok (.fl (((List.range (2 ^ F.b)).map (fr F)).map .str)) ⟨[some (scr ns), some (.shr 0), some (.v F.d), y3, y4, y5, y6, y7, y8, y9, y10, y11, none], sh⟩ := by
    intro y3 y4 y5 y6 y7 y8 y9 y10 y11 sh
    unfold c_law_k21_0
    rw [List.map_map]
    refine comp_map (enc := nI) (l := List.range (2 ^ F.b)) (fun z => ⟨[some (scr ns), some (.shr 0), some (.v F.d), y3, y4, y5, y6, y7, y8, y9, y10, y11, z], sh⟩) (fun a => some (.v (nI a))) _ (by simp! [top_at]; rfl) none rfl rfl (by simp; omega) (fun _ _ _ => rfl) ?_ (fun _ => rfl)
    intro a _
    simp! [law_frame2_ok]
    rfl
  have lastF : subD (.fl ((frsL F).map .str)) (.v (.int (-((1 : Nat) : Int)))) = some (.v (.str (frA F (2 ^ F.b - 1)))) := by
    rw [sub_lastN _ (2 ^ F.b - 1) (by rw [List.length_map, frs_len]; omega), List.getElem?_map, frA_at (by omega)]; rfl
  have fl := frA_len (F := F) (q := 2 ^ F.b - 1) (by omega)
  have h60 : ¬ 60 < n := by omega
  have hg : 0 ≤ M := Nat.zero_le _
  generalize hx : sA F n n (fi * 7919 % M) = x at *
  generalize sA F n n (se * 104729 % M) = y at *
  simp only [Nat.reduceAdd] at d0 d1 d2 hm s1 s2 s3 rb nu
  refine ⟨town 8, ?_⟩
  rw [show (40 : Nat) = 39 + 1 from rfl, u_law_k21]; unfold b_law_k21
  have k1 : (D.int 999979) = nI 999979 := rfl
  have k2 : (D.int 999961) = nI 999961 := rfl
  simp! [d0, d1, form3_ok, hF, law_long2_ok, n_max2, hmx, d2, hn, h60, hm, s1, s2, l1, rb, nn_readD, Option.isSome_some, nu, lt_str, lt1, deq_str', eq1, c0, srtd, s3, repL_one, lastF]
end k21
end Wi

namespace Wl
open PySem PySem.Spec PyProof.Rows L2 Wi
def top (i : Nat) : Stmt := PySem.Challenge.pw_wirereadings_k21_whole_numbers_far.main.body.getD i (.Pass ⟨0, 0, 0, 0⟩)
def i_is_whole : DI := ⟨"is_whole", top 12, ["thing", "low", "most"], ["thing", "low", "most"]⟩
def i_is_one_of : DI := ⟨"is_one_of", top 13, ["thing", "words"], ["thing", "words"]⟩
def i_is_form : DI := ⟨"is_form", top 14, ["thing"], ["thing"]⟩
def i_need_form : DI := ⟨"need_form", top 15, ["thing"], ["thing"]⟩
def i_top_of : DI := ⟨"top_of", top 16, ["bits"], ["bits"]⟩
def i_bits_of : DI := ⟨"bits_of", top 17, ["form", "word", "made", "turn"], ["form", "word"]⟩
def i_word_of : DI := ⟨"word_of", top 18, ["form", "bits", "word", "bit"], ["form", "bits"]⟩
def i_parity_of : DI := ⟨"parity_of", top 19, ["form", "bits"], ["form", "bits"]⟩
def i_framed : DI := ⟨"framed", top 20, ["form", "word", "bits", "row", "bit"], ["form", "word"]⟩
def i_long_of : DI := ⟨"long_of", top 21, ["form"], ["form"]⟩
def i_need_samples : DI := ⟨"need_samples", top 22, ["thing", "sign"], ["thing"]⟩
def i_bit_of : DI := ⟨"bit_of", top 24, ["samples"], ["samples"]⟩
def i_word_at : DI := ⟨"word_at", top 25, ["form", "samples", "at", "long", "part", "row", "bits", "tick"], ["form", "samples", "at"]⟩
def i_rows_in : DI := ⟨"rows_in", top 26, ["form", "samples", "rows", "at", "gap", "word"], ["form", "samples"]⟩
def i_read_by : DI := ⟨"read_by", top 27, ["form", "samples"], ["form", "samples"]⟩
def i_ways : DI := ⟨"ways", top 30, ["form", "ticks", "made", "many", "total"], ["form", "ticks"]⟩
def i_need_ticks : DI := ⟨"need_ticks", top 31, ["ticks"], ["ticks"]⟩
def i_how_many : DI := ⟨"how_many", top 32, ["form", "ticks"], ["form", "ticks"]⟩
def i_frames_rising : DI := ⟨"frames_rising", top 33, ["form", "word"], ["form"]⟩
def i_samples_at : DI := ⟨"samples_at", top 34, ["form", "ticks", "number", "book", "made", "behind", "each"], ["form", "ticks", "number"]⟩
def i_number_in : DI := ⟨"number_in", top 35, ["form", "samples", "book", "total", "at", "behind", "each", "frame"], ["form", "samples"]⟩
def i_law_cell_at : DI := ⟨"_law_cell_at", top 37, ["_law_script", "_law_k"], ["_law_script", "_law_k"]⟩
def i_law_mixed : DI := ⟨"_law_mixed", top 38, ["_law_script", "_law_k", "_law_many", "_law_drawn"], ["_law_script", "_law_k", "_law_many"]⟩
def i_law_draw : DI := ⟨"_law_draw", top 39, ["_law_script", "_law_town", "_law_many"], ["_law_script", "_law_town", "_law_many"]⟩
def i_law_pick : DI := ⟨"_law_pick", top 40, ["_law_script", "_law_town", "_law_some"], ["_law_script", "_law_town", "_law_some"]⟩
def i_law_form_3 : DI := ⟨"_law_form", top 41, ["_law_script", "_law_town", "_law_pace", "_law_order", "_law_parity"], ["_law_script", "_law_town"]⟩
def i_law_frame_2 : DI := ⟨"_law_frame", top 42, ["_law_form_here", "_law_word", "_law_row", "_law_odd", "_law_more", "_law_pace", "_law_bits", "_law_order", "_law_parity", "_law_stops", "_law_place", "_law_bit"], ["_law_form_here", "_law_word"]⟩
def i_law_long_2 : DI := ⟨"_law_long", top 43, ["_law_form_here"], ["_law_form_here"]⟩
def i_law_samples_2 : DI := ⟨"_law_samples", top 44, ["_law_script", "_law_town", "_law_form_here", "_law_most", "_law_k", "_law_rest", "_law_made", "_law_rows", "_law_gap", "_law_word", "_law_part"], ["_law_script", "_law_town", "_law_form_here", "_law_most"]⟩
def i_law_k21 : DI := ⟨"law", top 45, ["_law_script", "_law_town", "_law_form_here", "_law_ticks", "_law_many", "_law_frames", "_law_first", "_law_second", "_law_one", "_law_other", "_law_here", "_law_there", "_law_word"], ["_law_script"]⟩
def L : TabL := ([(1, d_is_whole, i_is_whole), (2, d_is_one_of, i_is_one_of), (3, d_is_form, i_is_form), (4, d_need_form, i_need_form), (5, d_top_of, i_top_of), (7, d_bits_of, i_bits_of), (8, d_word_of, i_word_of), (9, d_parity_of, i_parity_of), (10, d_framed, i_framed), (12, d_long_of, i_long_of), (16, d_need_samples, i_need_samples), (25, d_bit_of, i_bit_of), (26, d_word_at, i_word_at), (27, d_rows_in, i_rows_in), (28, d_read_by, i_read_by), (138, d_ways, i_ways), (139, d_need_ticks, i_need_ticks), (140, d_how_many, i_how_many), (141, d_frames_rising, i_frames_rising), (142, d_samples_at, i_samples_at), (143, d_number_in, i_number_in), (35, d_law_cell_at, i_law_cell_at), (36, d_law_mixed, i_law_mixed), (37, d_law_draw, i_law_draw), (38, d_law_pick, i_law_pick), (127, d_law_form_3, i_law_form_3), (128, d_law_frame_2, i_law_frame_2), (129, d_law_long_2, i_law_long_2), (130, d_law_samples_2, i_law_samples_2), (146, d_law_k21, i_law_k21)] : List (Nat × Wi.Def × DI))
def ck : CK := { fns := ([("is_whole", 1), ("is_one_of", 2), ("is_form", 3), ("need_form", 4), ("top_of", 5), ("bits_of", 7), ("word_of", 8), ("parity_of", 9), ("framed", 10), ("long_of", 12), ("need_samples", 16), ("bit_of", 25), ("word_at", 26), ("rows_in", 27), ("read_by", 28), ("ways", 138), ("need_ticks", 139), ("how_many", 140), ("frames_rising", 141), ("samples_at", 142), ("number_in", 143), ("_law_cell_at", 35), ("_law_mixed", 36), ("_law_draw", 37), ("_law_pick", 38), ("_law_form", 127), ("_law_frame", 128), ("_law_long", 129), ("_law_samples", 130), ("law", 146)] : List (PySem.Str × Nat)), cst := ([("PACE", .int 6), ("LEAST", .int 4), ("MOST", .int 6), ("ORDERS", .tup [.str [108, 111, 119], .str [104, 105, 103, 104]]), ("PARITIES", .tup [.str [110, 111, 110, 101], .str [101, 118, 101, 110], .str [111, 100, 100]]), ("LONG", .int 200), ("TICKS", .int 60)] : List (PySem.Str × D)), exs := ([("WireError", 0), ("NoForm", 1), ("NoSamples", 2), ("NoNumber", 12)] : List (PySem.Str × Nat)), hot := false, hots := ([] : List (PySem.Str × Nat)) }
theorem bnd : AllBnd L := ⟨fun _ _ _ _ _ _ us hl => match us, hl with | [_, _, _], _ => rfl, ⟨fun _ _ _ _ _ _ us hl => match us, hl with | [_, _], _ => rfl, ⟨fun _ _ _ _ _ _ us hl => match us, hl with | [_], _ => rfl, ⟨fun _ _ _ _ _ _ us hl => match us, hl with | [_], _ => rfl, ⟨fun _ _ _ _ _ _ us hl => match us, hl with | [_], _ => rfl, ⟨fun _ _ _ _ _ _ us hl => match us, hl with | [_, _], _ => rfl, ⟨fun _ _ _ _ _ _ us hl => match us, hl with | [_, _], _ => rfl, ⟨fun _ _ _ _ _ _ us hl => match us, hl with | [_, _], _ => rfl, ⟨fun _ _ _ _ _ _ us hl => match us, hl with | [_, _], _ => rfl, ⟨fun _ _ _ _ _ _ us hl => match us, hl with | [_], _ => rfl, ⟨fun _ _ _ _ _ _ us hl => match us, hl with | [_], _ => rfl, ⟨fun _ _ _ _ _ _ us hl => match us, hl with | [_], _ => rfl, ⟨fun _ _ _ _ _ _ us hl => match us, hl with | [_, _, _], _ => rfl, ⟨fun _ _ _ _ _ _ us hl => match us, hl with | [_, _], _ => rfl, ⟨fun _ _ _ _ _ _ us hl => match us, hl with | [_, _], _ => rfl, ⟨fun _ _ _ _ _ _ us hl => match us, hl with | [_, _], _ => rfl, ⟨fun _ _ _ _ _ _ us hl => match us, hl with | [_], _ => rfl, ⟨fun _ _ _ _ _ _ us hl => match us, hl with | [_, _], _ => rfl, ⟨fun _ _ _ _ _ _ us hl => match us, hl with | [_], _ => rfl, ⟨fun _ _ _ _ _ _ us hl => match us, hl with | [_, _, _], _ => rfl, ⟨fun _ _ _ _ _ _ us hl => match us, hl with | [_, _], _ => rfl, ⟨fun _ _ _ _ _ _ us hl => match us, hl with | [_, _], _ => rfl, ⟨fun _ _ _ _ _ _ us hl => match us, hl with | [_, _, _], _ => rfl, ⟨fun _ _ _ _ _ _ us hl => match us, hl with | [_, _, _], _ => rfl, ⟨fun _ _ _ _ _ _ us hl => match us, hl with | [_, _, _], _ => rfl, ⟨fun _ _ _ _ _ _ us hl => match us, hl with | [_, _], _ => rfl, ⟨fun _ _ _ _ _ _ us hl => match us, hl with | [_, _], _ => rfl, ⟨fun _ _ _ _ _ _ us hl => match us, hl with | [_], _ => rfl, ⟨fun _ _ _ _ _ _ us hl => match us, hl with | [_, _, _, _], _ => rfl, ⟨fun _ _ _ _ _ _ us hl => match us, hl with | [_], _ => rfl, trivial⟩⟩⟩⟩⟩⟩⟩⟩⟩⟩⟩⟩⟩⟩⟩⟩⟩⟩⟩⟩⟩⟩⟩⟩⟩⟩⟩⟩⟩⟩
theorem amt : AllMT L := ⟨rfl, ⟨rfl, ⟨rfl, ⟨rfl, ⟨rfl, ⟨rfl, ⟨rfl, ⟨rfl, ⟨rfl, ⟨rfl, ⟨rfl, ⟨rfl, ⟨rfl, ⟨rfl, ⟨rfl, ⟨rfl, ⟨rfl, ⟨rfl, ⟨rfl, ⟨rfl, ⟨rfl, ⟨rfl, ⟨rfl, ⟨rfl, ⟨rfl, ⟨rfl, ⟨rfl, ⟨rfl, ⟨rfl, ⟨rfl, trivial⟩⟩⟩⟩⟩⟩⟩⟩⟩⟩⟩⟩⟩⟩⟩⟩⟩⟩⟩⟩⟩⟩⟩⟩⟩⟩⟩⟩⟩⟩
theorem aok : (L.all fun e => okSs (inTab L) e.2.1.body) = true := by kernel_rfl
theorem tb : tabB ck L = true := by kernel_rfl
abbrev R : PySem.W.OpenRow := PySem.W.OpenLaw.row PySem.Challenge.rw_wirereadings_k21_whole_numbers_far
abbrev hk : PySem.W.Hook := hookW 4 (faOf ck L) (fnsOf L) (fbOf ck)
def ob (s : PySem.W.SharedT) : He.Al × Bool := obsW 4 (faOf ck L) (fnsOf L) (fbOf ck) (HandSHeadRun.getT s)
theorem ob_eq (s : PySem.W.SharedT) : ob s = hk.obs s.abs := obsW_eq (HandSHeadRun.getT_eq s)
def loose : List PySem.Str := (["WireError", "NoForm", "NoSamples", "NoNumber", "PACE", "LEAST", "MOST", "ORDERS", "PARITIES", "LONG", "is_whole", "is_one_of", "is_form", "need_form", "top_of", "bits_of", "word_of", "parity_of", "framed", "long_of", "need_samples", "bit_of", "word_at", "rows_in", "read_by", "TICKS", "ways", "need_ticks", "how_many", "frames_rising"] : List (PySem.Str)) ++ (["samples_at", "number_in", "_law_cell_at", "_law_mixed", "_law_draw", "_law_pick", "_law_form", "_law_frame", "_law_long", "_law_samples"] : List (PySem.Str))
theorem run (w : World) : HandSHeadRun.RunEq R (PySem.W.view R.prog [45]) hk ob 20000 loose w := by
  intro os
  kernel_rfl
theorem plain (ns : List Int) (_ : ns.length ≤ 63) : ∃ sh, callN (tabOf L) 40 146 [.ro (ns.map .int)] [] = .ok (.v (.bl true)) sh :=
  (plain21 ns).elim fun _ h => ⟨_, plain_of amt aok (by kernel_rfl) h⟩
end Wl
open PySem PySem.W PySem.Calls PyProof.Rows
theorem PySem.Challenge.cw_wirereadings_k21_whole_numbers_far_holds : PySem.Challenge.rw_wirereadings_k21_whole_numbers_far.Holds := by
  w_on; o_law
  refine HandSHeadRun.head_any (r := OpenLaw.row PySem.Challenge.rw_wirereadings_k21_whole_numbers_far) (q := view (OpenLaw.row PySem.Challenge.rw_wirereadings_k21_whole_numbers_far).prog [45]) (H := Wl.hk) (ob := Wl.ob) (M := 20000) (loose := Wl.loose)
    (d := HandSHeadRun.topDef (OpenLaw.row PySem.Challenge.rw_wirereadings_k21_whole_numbers_far).prog 45) (kwd := []) Wl.ob_eq (by kernel_rfl) (fun s => by kernel_rfl) Wl.run (by kernel_rfl) (by kernel_rfl) (by kernel_rfl)
    (by rfl) (by first | assumption | decide +kernel) (by decide +kernel) ⟨rfl, rfl, rfl, rfl, rfl, by decide +kernel⟩ ?hw ?hc
  case hw => w_witness2
  case hc =>
    exact Wi.law_end (l := PySem.Challenge.rw_wirereadings_k21_whole_numbers_far) (k := 40) (fl := 146) (n := 63) (dl := Wi.d_law_k21) (il := Wl.i_law_k21) (x := "_law_script") (by rfl) rfl (by rfl)
      (by kernel_rfl) rfl (by decide) (by kernel_rfl) ⟨rfl, by decide, by decide⟩ Wl.tb Wl.bnd 4 Wl.plain

