import PyProof.Rows.All
import Wide.All
import OpenK.AllK
import Wide.FinOn
import KE.KStateDown
import HandS.ForMost
import HandS.ForExc
import HandS.ExcInit
import HandS.TryMany
import HandS.Defaults
import HandS.IsInst
import HandS.FStr
import HandS.DictComp
import HandS.Wide
import HandS.Star
import HandS.ClsMeth
import HandS.Deep
import HandS.HeadEnd
import HandS.HeadHook2
import HandS.OwnEq
import HandS.TupAny
import HandS.TupMul
import HandS.Style
import HandS.TupLe
import HandS.Conv
import HandS.TupLen
import HandS.RaiseMore
import HandS.Zip
import HandS.ListEq
import KE.GoesNew
import HandS.Walk
import HandS.ExcField
import HandS.CallRecv
import HandS.HeadWalk
import HandS.Flow
import HandS.Words
import HandS.EndBits
import PySem.Challenge.RW_benddraws_k11_late_and_reach
import HandS.Head2
/-! IpA -/
set_option Elab.async false
set_option linter.all false
set_option maxRecDepth 100000
/-! IpA: deep data, a store of cells, my own expressions and statements, and what they come to. -/
namespace IP
open PySem L2

/-! ### data -/
/-- the keys of a dict: ints and texts; tuples of them -/
inductive DK where
  | k | t
  deriving DecidableEq

inductive D where
  | non | bl (b : Bool) | int (i : Int) | str (x : Str)
  | tup (xs : List D) | lst (xs : List D)
  | dic (q : DK) (kvs : List (D × D))
  | ins (c : String) (fs : List (String × D))
  | cls (c : String) | ref (n : Nat)
  /-- the script -/
  | scr (xs : List D)

/-- a cell of the store: what may change -/
inductive MO where
  | lst (xs : List D) | dic (q : DK) (kvs : List (D × D)) | ins (c : String) (fs : List (String × D)) | dead

abbrev Mem := List MO
abbrev Ev := List (Option D)
structure Exc where
  cls : String
  fs : List (String × D)

inductive Res (α : Type) where
  | ok (a : α) (m : Mem) | ex (x : Exc) (m : Mem) | no
def Res.bind {α β : Type} (r : Res α) (f : α → Mem → Res β) : Res β := match r with
  | .ok a m => f a m
  | .ex x m => .ex x m
  | .no => .no
@[simp] theorem Res.bind_ok {α β : Type} (a : α) (m : Mem) (f : α → Mem → Res β) : (Res.ok a m).bind f = f a m := rfl
@[simp] theorem Res.bind_ex {α β : Type} (x : Exc) (m : Mem) (f : α → Mem → Res β) : (Res.ex x m : Res α).bind f = .ex x m := rfl
@[simp] theorem Res.bind_no {α β : Type} (f : α → Mem → Res β) : (Res.no : Res α).bind f = .no := rfl
def opt {α : Type} (o : Option α) (m : Mem) : Res α := match o with
  | some a => .ok a m
  | none => .no
@[simp] theorem opt_some {α : Type} (a : α) (m : Mem) : opt (some a) m = .ok a m := rfl
@[simp] theorem opt_none {α : Type} (m : Mem) : opt (none : Option α) m = .no := rfl

/-- how a statement ends -/
inductive Rs where
  | nx (e : Ev) (m : Mem) | rt (d : D) (m : Mem) | bk (e : Ev) (m : Mem) | ct (e : Ev) (m : Mem) | ex (x : Exc) (e : Ev) (m : Mem) | no
def Rs.seq (r : Rs) (f : Ev → Mem → Rs) : Rs := match r with
  | .nx e m => f e m
  | r => r
@[simp] theorem Rs.seq_nx (e : Ev) (m : Mem) (f : Ev → Mem → Rs) : (Rs.nx e m).seq f = f e m := rfl
@[simp] theorem Rs.seq_rt (d : D) (m : Mem) (f : Ev → Mem → Rs) : (Rs.rt d m).seq f = .rt d m := rfl
@[simp] theorem Rs.seq_bk (e : Ev) (m : Mem) (f : Ev → Mem → Rs) : (Rs.bk e m).seq f = .bk e m := rfl
@[simp] theorem Rs.seq_ct (e : Ev) (m : Mem) (f : Ev → Mem → Rs) : (Rs.ct e m).seq f = .ct e m := rfl
@[simp] theorem Rs.seq_ex (x : Exc) (e : Ev) (m : Mem) (f : Ev → Mem → Rs) : (Rs.ex x e m).seq f = .ex x e m := rfl
@[simp] theorem Rs.seq_no (f : Ev → Mem → Rs) : Rs.no.seq f = .no := rfl
/-- behind an expression -/
def Res.go {α : Type} (r : Res α) (e : Ev) (f : α → Mem → Rs) : Rs := match r with
  | .ok a m => f a m
  | .ex x m => .ex x e m
  | .no => .no
@[simp] theorem Res.go_ok {α : Type} (a : α) (m : Mem) (e : Ev) (f : α → Mem → Rs) : (Res.ok a m).go e f = f a m := rfl
@[simp] theorem Res.go_ex {α : Type} (x : Exc) (m : Mem) (e : Ev) (f : α → Mem → Rs) : (Res.ex x m : Res α).go e f = .ex x e m := rfl
@[simp] theorem Res.go_no {α : Type} (e : Ev) (f : α → Mem → Rs) : (Res.no : Res α).go e f = .no := rfl

/-! ### plain data as PyData, == -/
mutual
def D.py : D → Option PyData
  | .non => some .none
  | .bl b => some (.bool b)
  | .int i => some (.int i)
  | .str x => some (.str x)
  | .tup xs => (D.pys xs).map .tuple
  | .lst xs => (D.pys xs).map .list
  | .dic _ _ => none
  | .ins _ _ => none
  | .cls _ => none
  | .ref _ => none
  | .scr _ => none
def D.pys : List D → Option (List PyData)
  | [] => some []
  | x :: xs => match x.py, D.pys xs with
    | some a, some r => some (a :: r)
    | _, _ => none
end
def eqB (x y : D) : Option Bool := match x.py, y.py with
  | some a, some b => if SeqAt.shaped a && SeqAt.shaped b then some (PyData.eqv a b) else none
  | _, _ => none
/-- items: the same object, or plain -/
def eqI (x y : D) : Option Bool := match x, y with
  | .ref n, .ref k => if n = k then some true else none
  | _, _ => eqB x y
def eqIs : List D → List D → Option Bool
  | [], [] => some true
  | x :: xs, y :: ys => match eqI x y, eqIs xs ys with
    | some a, some b => some (a && b)
    | _, _ => none
  | _, _ => none
def eqC (x y : D) : Option Bool := match eqB x y with
  | some b => some b
  | none => match x, y with
    | .lst xs, .lst ys => eqIs xs ys
    | _, _ => none
def inB (x : D) (ys : List D) : Option Bool := match x.py, D.pys ys with
  | some a, some bs => if SeqAt.shaped a && SeqAt.shaped (.list bs) then some (bs.any fun z => PyData.eqv z a) else none
  | _, _ => none

def D.fl : D → Option V
  | .non => some .non
  | .bl b => some (.bl b)
  | .int i => some (.int i)
  | .str x => some (.str x)
  | _ => none
def fls : List D → Option (List V)
  | [] => some []
  | x :: xs => match x.fl, fls xs with
    | some a, some r => some (a :: r)
    | _, _ => none
/-- x in a tuple of flat things -/
def inT (x : D) (ys : List D) : Option Bool := match x.fl, fls ys with
  | some a, some bs => some (inV a bs)
  | _, _ => none
def leTup (ns ms : List Int) : Bool := Ob.lexAt (fun j => decide (ns.getD j 0 = ms.getD j 0)) (fun j => decide (ns.getD j 0 ≤ ms.getD j 0)) (decide (ns.length ≤ ms.length)) 0 (min ns.length ms.length)

/-- what stands behind a reference -/
def vw (m : Mem) : D → D
  | .ref n => match m[n]? with
    | some (.lst xs) => .lst xs
    | some (.dic q kvs) => .dic q kvs
    | some (.ins c fs) => .ins c fs
    | _ => .ref n
  | d => d

/-! ### numbers, operators -/
def mulOk (a b : Int) : Bool := decide (a.natAbs.log2 + b.natAbs.log2 < 1000000)
def divOk (b : Int) : Bool := decide (b ≠ 0) && decide (b.natAbs.log2 < 9000)
def powOk (a b : Int) : Bool := decide (0 ≤ b) && decide (((a.natAbs.log2 : Int) + 1) * b ≤ 134217728)
def lenOk (n : Nat) : Bool := decide (n ≤ sizeLine)
def intsD : List D → Option (List Int)
  | [] => some []
  | .int i :: r => (intsD r).map (i :: ·)
  | _ :: _ => none
def binP (op : Operator) (x y : D) : Option D := match op, x, y with
  | .Add, .int a, .int b => some (.int (a + b))
  | .Add, .str a, .str b => if lenOk (a.length + b.length) then some (.str (a ++ b)) else none
  | .Add, .lst a, .lst b => if lenOk (a.length + b.length) then some (.lst (a ++ b)) else none
  | .Add, .tup a, .tup b => if lenOk (a.length + b.length) then some (.tup (a ++ b)) else none
  | .Sub, .int a, .int b => some (.int (a - b))
  | .Mult, .int a, .int b => if mulOk a b then some (.int (a * b)) else none
  | .Mult, .lst a, .int b => if decide (-(2 ^ 63) ≤ b) && decide (b < 2 ^ 63) && lenOk (a.length * b.toNat) then some (.lst (List.replicate b.toNat a).flatten) else none
  | .Mult, .tup a, .int b => if !a.isEmpty && decide (1 ≤ b) && decide (b ≤ 1000) && decide (a.length ≤ 1000) then some (.tup (List.replicate b.toNat a).flatten) else none
  | .FloorDiv, .int a, .int b => if divOk b then some (.int (a.fdiv b)) else none
  | .Mod, .int a, .int b => if b ≠ 0 then some (.int (a.fmod b)) else none
  | .Pow, .int a, .int b => if powOk a b then some (.int (a ^ b.toNat)) else none
  | _, _, _ => none

/-! ### comparisons of plain data -/
def keyD : D → Option Key
  | .int i => some (.inl i)
  | .str x => some (.inr x)
  | _ => none
def keyT : D → Option (List Key)
  | .tup (x :: xs) => (x :: xs).mapM keyD
  | _ => none
/-- a look into a dict -/
def getP (q : DK) (kvs : List (D × D)) (x : D) : Option (Option D) := match q with
  | .k => (keyD x).map fun k => (kvs.find? fun p => decide (keyD p.1 = some k)).map (·.2)
  | .t => (keyT x).map fun k => (kvs.find? fun p => decide (keyT p.1 = some k)).map (·.2)
def ltP (x y : D) : Option Bool := match x, y with
  | .int a, .int b => some (decide (a < b))
  | .str a, .str b => some (decide (a.cps.toList < b.cps.toList))
  | .tup a, .tup b => match intsD a, intsD b with
    | some is, some js => some (HT.lexLt is js)
    | _, _ => none
  | _, _ => none
def cmpP (op : CmpOp) (x y : D) : Option Bool := match op with
  | .Eq => eqC x y
  | .NotEq => (eqB x y).map not
  | .Lt => ltP x y
  | .Gt => match x, y with
    | .tup _, _ => none
    | _, _ => ltP y x
  | .LtE => match x, y with
    | .int a, .int b => some (decide (a ≤ b))
    | .tup a, .tup b => match intsD a, intsD b with
      | some is, some js => some (leTup is js)
      | _, _ => none
    | _, _ => none
  | .GtE => match x, y with
    | .int a, .int b => some (decide (b ≤ a))
    | _, _ => none
  | .Is => match y with
    | .non => some (match x with | .non => true | _ => false)
    | _ => none
  | .IsNot => match y with
    | .non => some (match x with | .non => false | _ => true)
    | _ => none
  | .In => match y with
    | .lst ys => inB x ys
    | .tup ys => inT x ys
    | .str z => match x with
      | .str a => (match a.cps.toList with | [c] => some (decide (c ∈ z.cps.toList)) | _ => none)
      | _ => none
    | .dic q kvs => (getP q kvs x).map Option.isSome
    | _ => none
  | .NotIn => match y with
    | .lst ys => (inB x ys).map not
    | .tup ys => (inT x ys).map not
    | .dic q kvs => (getP q kvs x).map fun o => !o.isSome
    | _ => none
def truth : D → Option Bool
  | .non => some false
  | .bl b => some b
  | .int i => some (i != 0)
  | .str x => if lenOk x.length then some ((x.length : Int) != 0) else none
  | .lst xs => some !xs.isEmpty
  | .tup xs => some !xs.isEmpty
  | _ => none
def subP (x i : D) : Option D := match x, i with
  | .lst xs, .int i => atI xs i
  | .tup xs, .int i => atI xs i
  | .scr xs, .int i => atI xs i
  | .str x, .int i => if lenOk x.length then (atI x.cps.toList i).map fun c => .str ⟨#[c]⟩ else none
  | .dic q kvs, i => (getP q kvs i).bind id
  | _, _ => none
def cut {α : Type} (xs : List α) (lo hi : Option Int) : List α := (xs.drop (HT.sIx xs.length 0 lo)).take (HT.sIx xs.length xs.length hi - HT.sIx xs.length 0 lo)
def slcP (x : D) (lo hi : Option Int) : Option D := match x with
  | .lst xs => some (.lst (cut xs lo hi))
  | .tup xs => some (.tup (cut xs lo hi))
  | .str x => if lenOk x.length then some (.str (cutS x lo hi)) else none
  | _ => none

/-! ### my expressions -/
inductive Ty where
  | bt (n : String) | own (c : String)
/-- built-in calls by values -/
inductive Bi where
  | len | abs | int | str | max2 | min2 | repr
/-- .. over what is walked -/
inductive Sq where
  | list (mu : Bool) | tuple | all | any | sum | sortS
/-- a built-in type's method -/
inductive Bm where
  | split | join
inductive Tg where
  | one (i : Nat) | many (is : List Nat)

mutual
inductive E where
  | loc (i : Nat)
  | con (d : D)
  | gcon (x : String) (d : D)
  | bin (op : Operator) (a b : E)
  | neg (a : E)
  | nt (a : E)
  | an (a b : E)
  | orr (a b : E)
  | cmp (op : CmpOp) (a b : E)
  | cmp2 (op1 op2 : CmpOp) (a b c : E)
  | ife (c a b : E)
  | tup (es : Es)
  | lst (mu : Bool) (es : Es)
  | dic (q : DK) (mu : Bool) (kvs : Kv)
  | comp (mu : Bool) (elt : E) (tg : Tg) (it : It) (cnd : Oe) (own : List Nat)
  | comp2 (mu : Bool) (elt : E) (tg : Tg) (it : It) (tg2 : Tg) (it2 : It) (cnd : Oe) (own : List Nat)
  | sub (a i : E)
  | slc (a : E) (lo hi : Oe)
  | rev (a : E)
  | att (a : E) (f : String)
  | exf (f : String)
  | call (c f : String) (es : Es) (ar : List Nat) (dv : List D)
  | meth (c m : String) (o : E) (es : Es) (ar : List Nat) (dv : List D)
  | make (mu : Bool) (c : String) (es : Es) (ar : List Nat) (dv : List D)
  | bi (b : Bi) (es : Es)
  | seq (t : Sq) (e : E)
  | bm (b : Bm) (o : E) (es : Es)
  | isi (a : E) (ts : List Ty)
  | fst (es : Es)
  | frz (a : E)
inductive Es where
  | nil
  | one (e : E) (r : Es)
  | star (e : E) (r : Es)
inductive Kv where
  | nil
  | cons (k v : E) (r : Kv)
inductive Oe where
  | non
  | som (e : E)
inductive It where
  | seq (e : E) | rng1 (a : E) | rng2 (a b : E) | rng3 (a b c : E) | enum (e : E) | zip (a b : E) | items (e : E) | vals (e : E)
end

mutual
inductive S where
  | expr (e : E)
  | set (i : Nat) (e : E)
  | unp (is : List Nat) (e : E)
  | par (i j : Nat) (a b : E)
  | fld (o : E) (f : String) (e : E)
  | sub (o i e : E)
  | app (o e : E)
  | ifs (c : E) (t u : Ss)
  | for_ (tg : Tg) (it : It) (b : Ss)
  | wh (c : E) (b : Ss)
  | ret (e : E)
  | ret0
  | rais (c : String) (es : Es)
  | try_ (b : Ss) (hs : Hs)
  | pass | brk | cnt
inductive Ss where
  | nil
  | cons (s : S) (r : Ss)
inductive Hs where
  | nil
  | cons (c : String) (slot : Option Nat) (b : Ss) (r : Hs)
end
/-! ### references -/
mutual
def D.und (n : Nat) : D → Bool
  | .ref k => decide (k < n)
  | .tup xs => D.unds n xs
  | .lst xs => D.unds n xs
  | .scr xs => D.unds n xs
  | .dic _ kvs => D.undK n kvs
  | .ins _ fs => D.undF n fs
  | _ => true
def D.unds (n : Nat) : List D → Bool
  | [] => true
  | x :: xs => x.und n && D.unds n xs
def D.undK (n : Nat) : List (D × D) → Bool
  | [] => true
  | (x, y) :: xs => x.und n && (y.und n && D.undK n xs)
def D.undF (n : Nat) : List (String × D) → Bool
  | [] => true
  | (_, y) :: xs => y.und n && D.undF n xs
end
def MO.und (n : Nat) : MO → Bool
  | .lst xs => D.unds n xs
  | .dic _ kvs => D.undK n kvs
  | .ins _ fs => D.undF n fs
  | .dead => true
def allB (n : Nat) : Mem → Bool
  | [] => true
  | c :: r => c.und n && allB n r
/-- what a def leaves: cells of its own that nobody holds are let go -/
def fin (n : Nat) (d : D) (m : Mem) : D × Mem :=
  if m.length ≤ n then (d, m)
  else if d.und n && allB n (m.take n) then (d, m.take n)
  else match d with
    | .ref k => match m[k]? with
      | some c => if decide (n ≤ k) && (c.und n && allB n (m.take n)) then (.ref n, m.take n ++ [c]) else (d, m)
      | none => (d, m)
    | _ => (d, m)
def finX (n : Nat) (x : Exc) (m : Mem) : Mem := if m.length ≤ n then m else if D.undF n x.fs && allB n (m.take n) then m.take n else m

/-! ### targets, walks -/
def wipeE (e : Ev) : List Nat → Ev
  | [] => e
  | v :: vs => (wipeE e vs).set v none
def setAll : List Nat → List D → Ev → Option Ev
  | [], [], e => some e
  | i :: is, d :: ds, e => setAll is ds (e.set i (some d))
  | _, _, _ => none
def bindT (tg : Tg) (d : D) (e : Ev) : Option Ev := match tg with
  | .one i => some (e.set i (some d))
  | .many is => match d with
    | .tup xs => setAll is xs e
    | _ => none
def tgL : Tg → List Nat
  | .one i => [i]
  | .many is => is
def compL (f : D → Mem → Res (List D)) : List D → Mem → Res (List D)
  | [], m => .ok [] m
  | d :: ds, m => match f d m with
    | .ok y m1 => match compL f ds m1 with
      | .ok r m2 => .ok (y ++ r) m2
      | _ => .no
    | _ => .no
def forL (f : D → Ev → Mem → Rs) : List D → Ev → Mem → Rs
  | [], e, m => .nx e m
  | d :: ds, e, m => match f d e m with
    | .nx e1 m1 => forL f ds e1 m1
    | .ct e1 m1 => forL f ds e1 m1
    | .bk e1 m1 => .nx e1 m1
    | r => r
/-- n turns at most -/
def whN (c : Ev → Mem → Res Bool) (f : Ev → Mem → Rs) : Nat → Ev → Mem → Option Rs
  | 0, _, _ => none
  | n + 1, e, m => match c e m with
    | .ok true m1 => match f e m1 with
      | .nx e2 m2 => whN c f n e2 m2
      | .ct e2 m2 => whN c f n e2 m2
      | .bk e2 m2 => some (.nx e2 m2)
      | r => some r
    | .ok false m1 => some (.nx e m1)
    | .ex x m1 => some (.ex x e m1)
    | .no => some .no
open Classical in
noncomputable def whL (c : Ev → Mem → Res Bool) (f : Ev → Mem → Rs) (e : Ev) (m : Mem) : Rs :=
  if h : ∃ n r, whN c f n e m = some r then (Classical.choose_spec h).choose else .no

/-! ### what is around -/
structure Gl where
  call : String → String → List D → Mem → Res D
  has : String → String → Bool
  cur : Option Exc
def Gl.hot (g : Gl) (x : Exc) : Gl := { g with cur := some x }
def arr {α : Type} (ar : List Nat) (vs : List α) : Option (List α) := match ar with
  | [] => some vs
  | _ => ar.mapM fun i => vs[i]?

def walkP (d : D) : Option (List D) := match d with
  | .lst xs => some xs
  | .tup xs => some xs
  | .scr xs => some xs
  | .str z => some (z.cps.toList.map fun c => .str ⟨#[c]⟩)
  | _ => none
def seqP (d : D) : Option (List D) := match d with
  | .lst xs => some xs
  | .tup xs => some xs
  | _ => none
def rngOk (i : Int) : Bool := decide (-(2 ^ 62) ≤ i) && decide (i < 2 ^ 62)
def rng (lo : Int) (n : Nat) : List D := (List.range n).map fun (k : Nat) => D.int (lo + (k : Int))
def rngDown (hi : Int) (n : Nat) : List D := (List.range n).map fun (k : Nat) => D.int (hi - (k : Int))
def newL (mu : Bool) (xs : List D) (m : Mem) : Res D := if lenOk xs.length then (if mu then .ok (.ref m.length) (m ++ [.lst xs]) else .ok (.lst xs) m) else .no
def frzD (n : Nat) (d : D) (m : Mem) : Res D := match d with
  | .ref k => match m[k]? with
    | some (.lst xs) => if decide (k = n) && (decide (m.length = n + 1) && (D.unds n xs && allB n (m.take n))) then .ok (.lst xs) (m.take n) else .ok (.lst xs) (m.set k .dead)
    | _ => .no
  | d => .ok d m
def isTy (m : Mem) (d : D) : Ty → Option Bool
  | .bt n => match vw m d with
    | .non => some false
    | .bl _ => some (n == "bool" || n == "int")
    | .int _ => some (n == "int")
    | .str _ => some (n == "str")
    | .lst _ => some (n == "list")
    | .scr _ => none
    | .tup _ => some (n == "tuple")
    | .dic _ _ => some (n == "dict")
    | .ins _ _ => some false
    | _ => none
  | .own c => match vw m d with
    | .ins c' _ => some (c == c')
    | .cls _ => none
    | .scr _ => none
    | .ref _ => none
    | _ => some false
def isAny (m : Mem) (d : D) : List Ty → Option Bool
  | [] => some false
  | t :: ts => match isTy m d t, isAny m d ts with
    | some a, some b => some (a || b)
    | _, _ => none
def bools : List D → Option (List Bool)
  | [] => some []
  | .bl b :: r => (bools r).map (b :: ·)
  | _ :: _ => none
def strsD : List D → Option (List Str)
  | [] => some []
  | .str x :: r => (strsD r).map (x :: ·)
  | _ :: _ => none
def intText (i : Int) : Option Str := if decide (i.natAbs.log2 < 1920) then some (toString i) else none
def biLen (g : Gl) : List D → Mem → Res D
  | [x], m => match vw m x with
    | .lst xs => .ok (.int xs.length) m
    | .tup xs => .ok (.int xs.length) m
    | .scr xs => .ok (.int xs.length) m
    | .dic _ xs => .ok (.int xs.length) m
    | .str z => if lenOk z.length then .ok (.int z.length) m else .no
    | .ins c _ => if g.has c "__len__" then (g.call c "__len__" [x] m).bind fun d m1 => (match d with | .int i => if decide (0 ≤ i) && decide (i < 2 ^ 63) then .ok (.int i) m1 else .no | _ => .no) else .no
    | _ => .no
  | _, _ => .no
def biAbs : List D → Mem → Res D
  | [.int i], m => .ok (.int (if i < 0 then -i else i)) m
  | _, _ => .no
def biInt : List D → Mem → Res D
  | [.int i], m => .ok (.int i) m
  | [.bl b], m => .ok (.int (if b then 1 else 0)) m
  | _, _ => .no
def biStr : List D → Mem → Res D
  | [.int i], m => opt ((intText i).map .str) m
  | [.str x], m => .ok (.str x) m
  | _, _ => .no
def biMax : List D → Mem → Res D
  | [.int i, .int j], m => .ok (.int (if j > i then j else i)) m
  | _, _ => .no
def biMin : List D → Mem → Res D
  | [.int i, .int j], m => .ok (.int (if j < i then j else i)) m
  | _, _ => .no
def biRepr : List D → Mem → Res D
  | [.int i], m => opt ((intText i).map .str) m
  | _, _ => .no
def biP (g : Gl) (b : Bi) (vs : List D) (m : Mem) : Res D := match b with
  | .len => biLen g vs m
  | .abs => biAbs vs m
  | .int => biInt vs m
  | .str => biStr vs m
  | .max2 => biMax vs m
  | .min2 => biMin vs m
  | .repr => biRepr vs m
def newM (mu : Bool) (xs : List D) (m : Mem) : Res D := if mu then .ok (.ref m.length) (m ++ [.lst xs]) else .ok (.lst xs) m
def sqP (t : Sq) (x : D) (m : Mem) : Res D := match t with
  | .list mu => match x with
    | .lst xs => newM mu xs m
    | .tup xs => newM mu xs m
    | .scr xs => newM mu xs m
    | _ => .no
  | .tuple => match x with
    | .lst xs => .ok (.tup xs) m
    | .tup xs => .ok (.tup xs) m
    | _ => .no
  | .all => match x with
    | .lst xs => opt ((bools xs).map fun bs => .bl (bs.all id)) m
    | _ => .no
  | .any => match x with
    | .lst xs => opt ((bools xs).map fun bs => .bl (bs.any id)) m
    | _ => .no
  | .sum => match x with
    | .lst xs => opt ((intsD xs).map fun is => .int is.sum) m
    | _ => .no
  | .sortS => .no
def bmP (b : Bm) (o : D) (vs : List D) (m : Mem) : Res D := .no

/-- a comparison -/
def cmpG (g : Gl) (op : CmpOp) (x y : D) (m : Mem) : Res Bool := match vw m x with
  | .ins c _ => match op with
    | .Eq => if g.has c "__eq__" && g.cur.isNone then (g.call c "__eq__" [x, y] m).bind fun d m1 => (match d with | .bl b => .ok b m1 | _ => .no) else .no
    | .NotEq => if g.has c "__eq__" && (!g.has c "__ne__" && g.cur.isNone) then (g.call c "__eq__" [x, y] m).bind fun d m1 => (match d with | .bl b => .ok (!b) m1 | _ => .no) else .no
    | .Lt => if g.has c "__lt__" && g.cur.isNone then (g.call c "__lt__" [x, y] m).bind fun d m1 => (match d with | .bl b => .ok b m1 | _ => .no) else .no
    | .LtE => if g.has c "__le__" && g.cur.isNone then (g.call c "__le__" [x, y] m).bind fun d m1 => (match d with | .bl b => .ok b m1 | _ => .no) else .no
    | .Is => opt (cmpP .Is (.ins c []) y) m
    | .IsNot => opt (cmpP .IsNot (.ins c []) y) m
    | _ => .no
  | x' => opt (cmpP op x' (vw m y)) m
def dunder : Operator → Option String
  | .Add => some "__add__"
  | .Sub => some "__sub__"
  | .Mult => some "__mul__"
  | _ => none
def binG (g : Gl) (op : Operator) (x y : D) (m : Mem) : Res D := match vw m x with
  | .ins c _ => match dunder op with
    | some nm => if g.has c nm && g.cur.isNone then g.call c nm [x, y] m else .no
    | none => .no
  | x' => opt (binP op x' (vw m y)) m
def putD (f : String) (d : D) : List (String × D) → List (String × D)
  | [] => [(f, d)]
  | (g, x) :: r => if g = f then (g, d) :: r else (g, x) :: putD f d r
/-- a dict display's keys: all ints or texts, no two alike -/
def keysOk (ps : List (D × D)) : Bool := match ps.mapM fun p => keyD p.1 with
  | some ks => decide ks.Nodup
  | none => false
def isL : Option MO → Bool
  | some (.lst _) => true
  | _ => false
def attG (x : D) (f : String) (m : Mem) : Option D := match vw m x with
  | .ins _ fs => fs.lookup f
  | _ => none
/-- C(..) -/
def makeG (g : Gl) (mu : Bool) (c : String) (vs : List D) (m : Mem) : Res D :=
  if g.cur.isNone then (g.call c "__init__" (.ref m.length :: vs) (m ++ [.ins c []])).bind fun d m1 => (match d with
    | .non => if mu then .ok (.ref m.length) m1 else (match m1[m.length]? with
      | some (.ins c' fs) => if c' == c && (decide (m1.length = m.length + 1) && (D.undF m.length fs && allB m.length (m1.take m.length))) then .ok (.ins c fs) (m1.take m.length) else .no
      | _ => .no)
    | _ => .no)
  else .no

mutual
def ev (g : Gl) : E → Ev → Mem → Res D
  | .loc i, e, m => match e[i]? with
    | some (some d) => .ok d m
    | _ => .no
  | .con d, _, m => .ok d m
  | .gcon _ d, _, m => .ok d m
  | .bin op a b, e, m => (ev g a e m).bind fun x m1 => (ev g b e m1).bind fun y m2 => binG g op x y m2
  | .neg a, e, m => (ev g a e m).bind fun x m1 => (match vw m1 x with
    | .int i => .ok (.int (-i)) m1
    | .ins c _ => if g.has c "__neg__" && g.cur.isNone then g.call c "__neg__" [x] m1 else .no
    | _ => .no)
  | .nt a, e, m => (ev g a e m).bind fun x m1 => opt ((truth (vw m1 x)).map fun b => .bl (!b)) m1
  | .an a b, e, m => (ev g a e m).bind fun x m1 => (match x with
    | .bl true => ev g b e m1
    | .bl false => .ok (.bl false) m1
    | _ => .no)
  | .orr a b, e, m => (ev g a e m).bind fun x m1 => (match x with
    | .bl true => .ok (.bl true) m1
    | .bl false => ev g b e m1
    | _ => .no)
  | .cmp op a b, e, m => (ev g a e m).bind fun x m1 => (ev g b e m1).bind fun y m2 => (cmpG g op x y m2).bind fun b m3 => .ok (.bl b) m3
  | .cmp2 op1 op2 a b c, e, m => (ev g a e m).bind fun x m1 => (ev g b e m1).bind fun y m2 => (cmpG g op1 x y m2).bind fun r m3 => (match r with
    | true => (ev g c e m3).bind fun z m4 => (cmpG g op2 y z m4).bind fun b m5 => .ok (.bl b) m5
    | false => .ok (.bl false) m3)
  | .ife c a b, e, m => (evT g c e m).bind fun t m1 => (match t with
    | true => ev g a e m1
    | false => ev g b e m1)
  | .tup es, e, m => (evs g es e m).bind fun xs m1 => if lenOk xs.length then .ok (.tup xs) m1 else .no
  | .lst mu es, e, m => (evs g es e m).bind fun xs m1 => newL mu xs m1
  | .dic q mu kvs, e, m => (match q with
    | .k => if mu then (evK g kvs e (m ++ [.dic .k []])).bind fun ps m1 => (match m1[m.length]? with
      | some (.dic .k []) => if decide (ps.length ≤ 15) && keysOk ps then .ok (.ref m.length) (m1.set m.length (.dic .k ps)) else .no
      | _ => .no) else .no
    | .t => .no)
  | .comp mu elt tg it cnd own, e, m => if g.cur.isNone then (evIt g it e m).bind fun xs m1 =>
      (compL (fun d m2 => match bindT tg d (wipeE e own) with
        | some e1 => (evO g cnd e1 m2).bind fun b m3 => (match b with
          | true => (ev g elt e1 m3).bind fun y m4 => .ok [y] m4
          | false => .ok [] m3)
        | none => .no) xs m1).bind fun ys m2 => newL mu ys m2 else .no
  | .comp2 mu elt tg it tg2 it2 cnd own, e, m => if g.cur.isNone then (evIt g it e m).bind fun xs m1 =>
      (compL (fun d m2 => match bindT tg d (wipeE e own) with
        | some e1 => (evIt g it2 e1 m2).bind fun zs m3 => compL (fun d2 m4 => match bindT tg2 d2 (wipeE e1 (tgL tg2)) with
          | some e2 => (evO g cnd e2 m4).bind fun b m5 => (match b with
            | true => (ev g elt e2 m5).bind fun y m6 => .ok [y] m6
            | false => .ok [] m5)
          | none => .no) zs m3
        | none => .no) xs m1).bind fun ys m2 => newL mu ys m2 else .no
  | .sub a i, e, m => (ev g a e m).bind fun x m1 => (ev g i e m1).bind fun y m2 => opt (subP (vw m2 x) y) m2
  | .slc a lo hi, e, m => (ev g a e m).bind fun x m1 => (evI g lo e m1).bind fun l m2 => (evI g hi e m2).bind fun h m3 => opt (slcP (vw m3 x) l h) m3
  | .rev a, e, m => (ev g a e m).bind fun x m1 => (match vw m1 x with
    | .lst xs => .ok (.lst xs.reverse) m1
    | _ => .no)
  | .att a f, e, m => (ev g a e m).bind fun x m1 => opt (attG x f m1) m1
  | .exf f, _, m => match g.cur with
    | some x => opt (x.fs.lookup f) m
    | none => .no
  | .call c f es ar dv, e, m => if g.cur.isNone then (evs g es e m).bind fun vs m1 => (match arr ar (vs ++ dv) with
    | some as => g.call c f as m1
    | none => .no) else .no
  | .meth c f o es ar dv, e, m => if g.cur.isNone then (ev g o e m).bind fun x m1 => (match vw m1 x with
    | .ins c' fs => if c' == c && (fs.lookup f).isNone then (evs g es e m1).bind fun vs m2 => (match arr ar (vs ++ dv) with
      | some as => g.call c f (x :: as) m2
      | none => .no) else .no
    | _ => .no) else .no
  | .make mu c es ar dv, e, m => if g.cur.isNone then (evs g es e m).bind fun vs m1 => (match arr ar (vs ++ dv) with
    | some as => makeG g mu c as m1
    | none => .no) else .no
  | .bi b es, e, m => if g.cur.isNone then (evs g es e m).bind fun vs m1 => biP g b vs m1 else .no
  | .seq t a, e, m => if g.cur.isNone then (ev g a e m).bind fun x m1 => sqP t (vw m1 x) m1 else .no
  | .bm b o es, e, m => (ev g o e m).bind fun x m1 => (evs g es e m1).bind fun vs m2 => bmP b x vs m2
  | .isi a ts, e, m => (ev g a e m).bind fun x m1 => opt ((isAny m1 x ts).map .bl) m1
  | .fst _, _, _ => .no
  | .frz a, e, m => (ev g a e m).bind fun x m1 => frzD m.length x m1
def evs (g : Gl) : Es → Ev → Mem → Res (List D)
  | .nil, _, m => .ok [] m
  | .one a r, e, m => (ev g a e m).bind fun x m1 => (evs g r e m1).bind fun xs m2 => .ok (x :: xs) m2
  | .star a r, e, m => (ev g a e m).bind fun x m1 => (match vw m1 x with
    | .lst ys => (evs g r e m1).bind fun xs m2 => .ok (ys ++ xs) m2
    | .tup ys => (evs g r e m1).bind fun xs m2 => .ok (ys ++ xs) m2
    | _ => .no)
def evK (g : Gl) : Kv → Ev → Mem → Res (List (D × D))
  | .nil, _, m => .ok [] m
  | .cons k v r, e, m => (ev g k e m).bind fun x m1 => (ev g v e m1).bind fun y m2 => (evK g r e m2).bind fun ps m3 => .ok ((x, y) :: ps) m3
def evT (g : Gl) : E → Ev → Mem → Res Bool
  | .nt a, e, m => (evT g a e m).bind fun b m1 => .ok (!b) m1
  | .an a b, e, m => (evT g a e m).bind fun t m1 => (match t with
    | true => evT g b e m1
    | false => .ok false m1)
  | .orr a b, e, m => (evT g a e m).bind fun t m1 => (match t with
    | true => .ok true m1
    | false => evT g b e m1)
  | a, e, m => (ev g a e m).bind fun x m1 => opt (truth (vw m1 x)) m1
def evO (g : Gl) : Oe → Ev → Mem → Res Bool
  | .non, _, m => .ok true m
  | .som a, e, m => evT g a e m
def evI (g : Gl) : Oe → Ev → Mem → Res (Option Int)
  | .non, _, m => .ok none m
  | .som a, e, m => (ev g a e m).bind fun x m1 => (match x with
    | .int i => .ok (some i) m1
    | _ => .no)
def evIt (g : Gl) : It → Ev → Mem → Res (List D)
  | .seq a, e, m => (ev g a e m).bind fun x m1 => opt (walkP x) m1
  | .rng1 a, e, m => (ev g a e m).bind fun x m1 => (match x with
    | .int j => if rngOk j then .ok (rng 0 j.toNat) m1 else .no
    | _ => .no)
  | .rng2 a b, e, m => (ev g a e m).bind fun x m1 => (ev g b e m1).bind fun y m2 => (match x, y with
    | .int i, .int j => if rngOk i && rngOk j then .ok (rng i (j - i).toNat) m2 else .no
    | _, _ => .no)
  | .rng3 a b c, e, m => (ev g a e m).bind fun x m1 => (ev g b e m1).bind fun y m2 => (ev g c e m2).bind fun z m3 => (match x, y, z with
    | .int i, .int j, .int k => if rngOk i && (rngOk j && decide (k = -1)) then .ok (rngDown i (i - j).toNat) m3 else .no
    | _, _, _ => .no)
  | .enum a, e, m => (ev g a e m).bind fun x m1 => opt ((seqP x).map fun xs => (xs.zipIdx.map fun p => .tup [.int (p.2 : Int), p.1])) m1
  | .zip a b, e, m => (ev g a e m).bind fun x m1 => (ev g b e m1).bind fun y m2 => (match seqP x, seqP y with
    | some xs, some ys => .ok (List.zipWith (fun p q => .tup [p, q]) xs ys) m2
    | _, _ => .no)
  | .items a, e, m => (ev g a e m).bind fun x m1 => (match x with
    | .dic _ kvs => .ok (kvs.map fun p => .tup [p.1, p.2]) m1
    | _ => .no)
  | .vals a, e, m => (ev g a e m).bind fun x m1 => (match x with
    | .dic _ kvs => .ok (kvs.map fun p => p.2) m1
    | _ => .no)
end

/-- the classes that an except clause takes -/
def isX (cls c : String) : Bool := cls == c || (c == "DrawError" || c == "ValueError")
/-- behind an except suite: its name goes -/
def unb (o : Option Nat) (r : Rs) : Rs := match o with
  | some i => (match r with
    | .nx e1 m1 => .nx (e1.set i none) m1
    | .bk e1 m1 => .bk (e1.set i none) m1
    | .ct e1 m1 => .ct (e1.set i none) m1
    | .ex _ _ _ => .no
    | r => r)
  | none => (match r with
    | .ex _ _ _ => .no
    | r => r)
/-- an exception of one's own, by its class: the names of its fields -/
structure GS extends Gl where
  exn : String → Option (List String)

mutual
noncomputable def evS (g : Gl) (xn : String → Option (List String)) : S → Ev → Mem → Rs
  | .expr a, e, m => (ev g a e m).go e fun _ m1 => .nx e m1
  | .set i a, e, m => (ev g a e m).go e fun x m1 => .nx (e.set i (some x)) m1
  | .unp is a, e, m => if g.cur.isNone then (ev g a e m).go e fun x m1 => (match bindT (.many is) x e with
    | some e1 => .nx e1 m1
    | none => .no) else .no
  | .par i j a b, e, m => if g.cur.isNone then (ev g a e m).go e fun x m1 => (ev g b e m1).go e fun y m2 => .nx ((e.set i (some x)).set j (some y)) m2 else .no
  | .fld o f a, e, m => (ev g a e m).go e fun x m1 => (ev g o e m1).go e fun y m2 => (match y with
    | .ref n => (match m2[n]? with
      | some (.ins c fs) => if decide (fs.length < 1000) then .nx e (m2.set n (.ins c (putD f x fs))) else .no
      | _ => .no)
    | _ => .no)
  | .sub o i a, e, m => (ev g a e m).go e fun x m1 => (ev g o e m1).go e fun y m2 => (ev g i e m2).go e fun z m3 => (match y with
    | .ref n => (match m3[n]?, z with
      | some (.lst xs), .int k => (match ixN xs.length k with
        | some j => .nx e (m3.set n (.lst (xs.set j x)))
        | none => .no)
      | _, _ => .no)
    | _ => .no)
  | .app o a, e, m => (ev g o e m).go e fun y m1 => (match y with
    | .ref n => if isL m1[n]? then (ev g a e m1).go e fun x m2 => (match m2[n]? with
      | some (.lst xs) => if decide (xs.length < sizeLine) then .nx e (m2.set n (.lst (xs ++ [x]))) else .no
      | _ => .no) else .no
    | _ => .no)
  | .ifs c t u, e, m => (evT g c e m).go e fun b m1 => (match b with
    | true => evSs g xn t e m1
    | false => evSs g xn u e m1)
  | .for_ tg it b, e, m => if g.cur.isNone then (evIt g it e m).go e fun xs m1 => forL (fun d e1 m2 => match bindT tg d e1 with
    | some e2 => evSs g xn b e2 m2
    | none => .no) xs e m1 else .no
  | .wh c b, e, m => whL (evT g c) (evSs g xn b) e m
  | .ret a, e, m => (ev g a e m).go e fun x m1 => .rt x m1
  | .ret0, _, m => .rt .non m
  | .rais c es, e, m => if g.cur.isNone then (evs g es e m).go e fun vs m1 => (match xn c with
    | some ns => if decide (vs.length = ns.length) then .ex ⟨c, ns.zip vs⟩ e m1 else .no
    | none => .no) else .no
  | .try_ b hs, e, m => if g.cur.isNone then (match evSs g xn b e m with
    | .ex x e1 m1 => if xn x.cls = some (x.fs.map (·.1)) then evH g xn hs x e1 m1 else .no
    | r => r) else .no
  | .pass, e, m => .nx e m
  | .brk, e, m => .bk e m
  | .cnt, e, m => .ct e m
noncomputable def evSs (g : Gl) (xn : String → Option (List String)) : Ss → Ev → Mem → Rs
  | .nil, e, m => .nx e m
  | .cons s r, e, m => (evS g xn s e m).seq fun e1 m1 => evSs g xn r e1 m1
noncomputable def evH (g : Gl) (xn : String → Option (List String)) : Hs → Exc → Ev → Mem → Rs
  | .nil, x, e, m => .ex x e m
  | .cons c slot b r, x, e, m => if isX x.cls c then (match slot with
      | none => unb none (evSs (g.hot x) xn b e m)
      | some i => if i < e.length then unb (some i) (evSs (g.hot x) xn b (e.set i none) m) else .no)
    else evH g xn r x e m
end
end IP

/-! IpB -/
set_option Elab.async false
set_option linter.all false
set_option maxRecDepth 100000
set_option maxHeartbeats 4000000
/-! IpB: how deep data stand in the abstract heap; readings. -/
namespace IP
open PySem L2

/-- the exception that is handled: its slot, where it lies, what it is -/
structure Sl where
  i : Nat
  a : Addr
  x : Exc
  dd : Option Addr
/-- what is fixed: the written part, where the classes stand -/
structure GC where
  K : PySem.W.Frag
  mg : Str → Option Value
  own : String → Option Addr
  exa : String → Option Addr
  sl : Option Sl

def isDic : HO → Bool
  | .dK _ => true
  | .dT _ => true
  | _ => false
/-- what F says stands in H (a dict may be locked there) -/
structure Sub (F H : Hp) : Prop where
  at_ : ∀ {a : Addr} {u : HO}, F a = some u → H a = some u ∨ (isDic u = true ∧ ∃ o, H a = some (.frz o u))
theorem Sub.get {F H : Hp} (s : Sub F H) {a : Addr} {u : HO} (h : F a = some u) (n : isDic u = false) : H a = some u := by
  rcases s.at_ h with h | ⟨h, _⟩
  · exact h
  · rw [n] at h
    cases h
theorem Sub.rd {F H : Hp} (s : Sub F H) {a : Addr} {u : HO} (h : F a = some u) : Rd H a u := by
  rcases s.at_ h with h | ⟨_, h⟩
  · exact .inl h
  · exact .inr h
theorem Sub.rd2 {F H : Hp} (s : Sub F H) {a : Addr} {u : HO} (h : Rd F a u) : Rd H a u := by
  rcases h with h | ⟨o, h⟩
  · exact s.rd h
  · exact .inr ⟨o, s.get h rfl⟩
def Grow (F F' : Hp) : Prop := ∀ a u, F a = some u → F' a = some u
theorem Grow.refl (F : Hp) : Grow F F := fun _ _ h => h
theorem Grow.trans {F F1 F2 : Hp} (a : Grow F F1) (b : Grow F1 F2) : Grow F F2 := fun c u h => b c u (a c u h)
theorem Grow.sub {F F' : Hp} (h : Grow F F') : Sub F F' := ⟨fun e => .inl (h _ _ e)⟩

mutual
inductive RD (G : GC) (rho : List Addr) (H : Hp) : D → V → Prop
  | non : RD G rho H .non .non
  | bl (b : Bool) : RD G rho H (.bl b) (.bl b)
  | int (i : Int) : RD G rho H (.int i) (.int i)
  | str (x : Str) : RD G rho H (.str x) (.str x)
  | lst {a : Addr} {vs : List V} {xs : List D} : H a = some (.lst vs) → RDs G rho H xs vs → RD G rho H (.lst xs) (.ref a)
  | scr {a : Addr} {o : Obj} {vs : List V} {xs : List D} : H a = some (.frz o (.lst vs)) → RDs G rho H xs vs → RD G rho H (.scr xs) (.ref a)
  | scrK {a : Addr} {vs : List V} {xs : List D} : (∀ H', SqL G.K H' a vs) → RDs G rho H xs vs → RD G rho H (.scr xs) (.ref a)
  | tup {a : Addr} {vs : List V} {xs : List D} : H a = some (.tup vs) → RDs G rho H xs vs → RD G rho H (.tup xs) (.ref a)
  | tupK {a : Addr} : (∀ H', SqT G.K H' a []) → RD G rho H (.tup []) (.ref a)
  | dicK {a : Addr} {kvs : List (Key × V)} {xs : List (D × D)} : Rd H a (.dK kvs) → RDk G rho H xs kvs → RD G rho H (.dic .k xs) (.ref a)
  | dicT {a : Addr} {kvs : List (List Key × V)} {xs : List (D × D)} : Rd H a (.dT kvs) → RDt G rho H xs kvs → RD G rho H (.dic .t xs) (.ref a)
  | ins {c : String} {C a dx : Addr} {fs : List (String × D)} {fvs : List (Str × V)} : G.own c = some C → H a = some (.ins C dx fvs) → RDf G rho H fs fvs → RD G rho H (.ins c fs) (.ref a)
  | cls {c : String} {C : Addr} : G.own c = some C → RD G rho H (.cls c) (.ref C)
  | ref {n : Nat} {a : Addr} : rho[n]? = some a → RD G rho H (.ref n) (.ref a)
inductive RDs (G : GC) (rho : List Addr) (H : Hp) : List D → List V → Prop
  | nil : RDs G rho H [] []
  | cons {d : D} {v : V} {ds : List D} {vs : List V} : RD G rho H d v → RDs G rho H ds vs → RDs G rho H (d :: ds) (v :: vs)
inductive RDf (G : GC) (rho : List Addr) (H : Hp) : List (String × D) → List (Str × V) → Prop
  | nil : RDf G rho H [] []
  | cons {f : String} {d : D} {v : V} {ds : List (String × D)} {vs : List (Str × V)} : RD G rho H d v → RDf G rho H ds vs → RDf G rho H ((f, d) :: ds) ((Str.ofString f, v) :: vs)
inductive RDk (G : GC) (rho : List Addr) (H : Hp) : List (D × D) → List (Key × V) → Prop
  | nil : RDk G rho H [] []
  | cons {x d : D} {k : Key} {v : V} {ds : List (D × D)} {vs : List (Key × V)} : keyD x = some k → RD G rho H d v → RDk G rho H ds vs → RDk G rho H ((x, d) :: ds) ((k, v) :: vs)
inductive RDt (G : GC) (rho : List Addr) (H : Hp) : List (D × D) → List (List Key × V) → Prop
  | nil : RDt G rho H [] []
  | cons {x d : D} {k : List Key} {v : V} {ds : List (D × D)} {vs : List (List Key × V)} : keyT x = some k → RD G rho H d v → RDt G rho H ds vs → RDt G rho H ((x, d) :: ds) ((k, v) :: vs)
end

/-- one list of addresses begins another -/
def Beg (r r' : List Addr) : Prop := ∀ (n : Nat) (a : Addr), r[n]? = some a → r'[n]? = some a
theorem Beg.refl (r : List Addr) : Beg r r := fun _ _ h => h
theorem Beg.trans {r r1 r2 : List Addr} (a : Beg r r1) (b : Beg r1 r2) : Beg r r2 := fun n c h => b n c (a n c h)
theorem Beg.app (r s : List Addr) : Beg r (r ++ s) := fun n a h => by
  obtain ⟨h1, _⟩ := List.getElem?_eq_some_iff.mp h
  rw [List.getElem?_append_left h1]
  exact h

mutual
theorem RD.mono {G : GC} {rho rho' : List Addr} {F H : Hp} (s : Sub F H) (b : Beg rho rho') : ∀ (d : D) (v : V), RD G rho F d v → RD G rho' H d v
  | .non, _, h => by cases h; exact .non
  | .bl _, _, h => by cases h; exact .bl _
  | .int _, _, h => by cases h; exact .int _
  | .str _, _, h => by cases h; exact .str _
  | .lst xs, _, h => by
    cases h with
    | lst h1 h2 => exact .lst (s.get h1 rfl) (RDs.mono s b xs _ h2)
  | .scr xs, _, h => by
    cases h with
    | scr h1 h2 => exact .scr (s.get h1 rfl) (RDs.mono s b xs _ h2)
    | scrK h1 h2 => exact .scrK h1 (RDs.mono s b xs _ h2)
  | .tup xs, _, h => by
    cases h with
    | tup h1 h2 => exact .tup (s.get h1 rfl) (RDs.mono s b xs _ h2)
    | tupK h1 => exact .tupK h1
  | .dic q xs, _, h => by
    cases h with
    | dicK h1 h2 => exact .dicK (s.rd2 h1) (RDk.mono s b xs _ h2)
    | dicT h1 h2 => exact .dicT (s.rd2 h1) (RDt.mono s b xs _ h2)
  | .ins c fs, _, h => by
    cases h with
    | ins h1 h2 h3 => exact .ins h1 (s.get h2 rfl) (RDf.mono s b fs _ h3)
  | .cls c, _, h => by
    cases h with
    | cls h => exact .cls h
  | .ref n, _, h => by
    cases h with
    | ref h => exact .ref (b _ _ h)
theorem RDs.mono {G : GC} {rho rho' : List Addr} {F H : Hp} (s : Sub F H) (b : Beg rho rho') : ∀ (ds : List D) (vs : List V), RDs G rho F ds vs → RDs G rho' H ds vs
  | [], _, h => by cases h; exact .nil
  | d :: ds, _, h => by
    cases h with
    | cons h1 h2 => exact .cons (RD.mono s b d _ h1) (RDs.mono s b ds _ h2)
theorem RDf.mono {G : GC} {rho rho' : List Addr} {F H : Hp} (s : Sub F H) (b : Beg rho rho') : ∀ (ds : List (String × D)) (vs : List (Str × V)), RDf G rho F ds vs → RDf G rho' H ds vs
  | [], _, h => by cases h; exact .nil
  | (f, d) :: ds, _, h => by
    cases h with
    | cons h1 h2 => exact .cons (RD.mono s b d _ h1) (RDf.mono s b ds _ h2)
theorem RDk.mono {G : GC} {rho rho' : List Addr} {F H : Hp} (s : Sub F H) (b : Beg rho rho') : ∀ (ds : List (D × D)) (vs : List (Key × V)), RDk G rho F ds vs → RDk G rho' H ds vs
  | [], _, h => by cases h; exact .nil
  | (x, d) :: ds, _, h => by
    cases h with
    | cons h0 h1 h2 => exact .cons h0 (RD.mono s b d _ h1) (RDk.mono s b ds _ h2)
theorem RDt.mono {G : GC} {rho rho' : List Addr} {F H : Hp} (s : Sub F H) (b : Beg rho rho') : ∀ (ds : List (D × D)) (vs : List (List Key × V)), RDt G rho F ds vs → RDt G rho' H ds vs
  | [], _, h => by cases h; exact .nil
  | (x, d) :: ds, _, h => by
    cases h with
    | cons h0 h1 h2 => exact .cons h0 (RD.mono s b d _ h1) (RDt.mono s b ds _ h2)
end

/-- a cell as it stands -/
def Cel (G : GC) (rho : List Addr) (F H : Hp) (a : Addr) : MO → Prop
  | .lst xs => ∃ vs, H a = some (.lst vs) ∧ RDs G rho F xs vs
  | .dic .k xs => ∃ kvs, H a = some (.dK kvs) ∧ RDk G rho F xs kvs
  | .dic .t xs => ∃ kvs, H a = some (.dT kvs) ∧ RDt G rho F xs kvs
  | .ins c fs => ∃ C dx fvs, G.own c = some C ∧ H a = some (.ins C dx fvs) ∧ RDf G rho F fs fvs
  | .dead => ∃ u, F a = some u
/-- the store stands in the heap: F what never changes, rho where the cells stand -/
structure RelM (G : GC) (F H : Hp) (rho : List Addr) (m : Mem) : Prop where
  sub : Sub F H
  len : m.length = rho.length
  nd : rho.Nodup
  cel : ∀ (n : Nat) (a : Addr) (c : MO), rho[n]? = some a → m[n]? = some c → Cel G rho F H a c
  off : ∀ (n : Nat) (a : Addr) (c : MO), rho[n]? = some a → m[n]? = some c → c ≠ .dead → F a = none
def SlOk (G : GC) (F : Hp) (rho : List Addr) (σ : L2.St) : Prop := ∀ s, G.sl = some s → σ[s.i]? = some (some (.ref s.a)) ∧ (s.x.fs = [] ∨ ∃ d fvs, s.dd = some d ∧ F d = some (.xd fvs) ∧ RDf G rho F s.x.fs fvs)
theorem SlOk.non {G : GC} {F : Hp} {rho : List Addr} {σ : L2.St} (h : G.sl = none) : SlOk G F rho σ := fun s e => by
  rw [h] at e
  cases e
def RelE (G : GC) (F : Hp) (rho : List Addr) (e : Ev) (σ : L2.St) : Prop := e.length = σ.length ∧ (∀ (i : Nat) (d : D), e[i]? = some (some d) → ∃ v, σ[i]? = some (some v) ∧ RD G rho F d v) ∧ SlOk G F rho σ
/-- behind some steps -/
structure Ext (F H : Hp) (rho : List Addr) (F' H' : Hp) (rho' : List Addr) : Prop where
  fr : Grow F F'
  beg : Beg rho rho'
  keep : ∀ (a : Addr) (o : HO), H a = some o → a ∉ rho → H' a = some o
  new : ∀ a : Addr, a ∈ rho' → a ∉ rho → H a = none
  cl : ∀ (a : Addr) (u : HO), F' a = some u → F a = some u ∨ H a = none ∨ a ∈ rho
theorem Ext.refl (F H : Hp) (rho : List Addr) : Ext F H rho F H rho := ⟨Grow.refl F, Beg.refl rho, fun _ _ h _ => h, fun _ h n => absurd h n, fun _ _ h => .inl h⟩
theorem Beg.mem {r r' : List Addr} (b : Beg r r') {a : Addr} (h : a ∈ r) : a ∈ r' := by
  obtain ⟨n, e⟩ := List.getElem?_of_mem h
  exact List.mem_of_getElem? (b n a e)
theorem Ext.trans {F H F1 H1 F2 H2 : Hp} {r r1 r2 : List Addr} (a : Ext F H r F1 H1 r1) (b : Ext F1 H1 r1 F2 H2 r2) : Ext F H r F2 H2 r2 where
  fr := a.fr.trans b.fr
  beg := a.beg.trans b.beg
  keep := fun c o h n => by
    refine b.keep c o (a.keep c o h n) fun z => ?_
    have := a.new c z n
    rw [h] at this
    cases this
  new := fun c h n => by
    by_cases hc : c ∈ r1
    · exact a.new c hc n
    · have e := b.new c h hc
      cases q : H c with
      | none => rfl
      | some o =>
        rw [a.keep c o q n] at e
        cases e
  cl := fun c u h => by
    have k : H1 c = none → H c = none ∨ c ∈ r := fun e => by
      by_cases hc : c ∈ r
      · exact .inr hc
      · cases q : H c with
        | none => exact .inl rfl
        | some o =>
          rw [a.keep c o q hc] at e
          cases e
    rcases b.cl c u h with h | h | h
    · exact a.cl c u h
    · exact .inr (k h)
    · by_cases hc : c ∈ r
      · exact .inr (.inr hc)
      · exact .inr (.inl (a.new c h hc))
section
variable {G : GC} {F H F' H' : Hp} {rho rho' : List Addr} {m : Mem} {e : Ev} {σ : L2.St}
theorem Ext.rd (x : Ext F H rho F' H' rho') (r : RelM G F H rho m) {d : D} {v : V} (h : RD G rho F d v) : RD G rho' F' d v := RD.mono x.fr.sub x.beg d v h
theorem Ext.rds (x : Ext F H rho F' H' rho') (r : RelM G F H rho m) {d : List D} {v : List V} (h : RDs G rho F d v) : RDs G rho' F' d v := RDs.mono x.fr.sub x.beg d v h
theorem Ext.rde (x : Ext F H rho F' H' rho') (r : RelM G F H rho m) (h : RelE G F rho e σ) : RelE G F' rho' e σ := ⟨h.1, fun i d q => by
  obtain ⟨v, e1, e2⟩ := h.2.1 i d q
  exact ⟨v, e1, x.rd r e2⟩, fun s hs => by
  obtain ⟨q1, q2⟩ := h.2.2 s hs
  refine ⟨q1, ?_⟩
  rcases q2 with q2 | ⟨d, fvs, e1, e2, e3⟩
  · exact .inl q2
  · exact .inr ⟨d, fvs, e1, x.fr _ _ e2, RDf.mono x.fr.sub x.beg _ _ e3⟩⟩
/-- in the heap itself -/
theorem RelM.up (r : RelM G F H rho m) {d : D} {v : V} (h : RD G rho F d v) : RD G rho H d v := RD.mono r.sub (Beg.refl rho) d v h
theorem RelM.ups (r : RelM G F H rho m) {d : List D} {v : List V} (h : RDs G rho F d v) : RDs G rho H d v := RDs.mono r.sub (Beg.refl rho) d v h
theorem RelM.upf (r : RelM G F H rho m) {d : List (String × D)} {v : List (Str × V)} (h : RDf G rho F d v) : RDf G rho H d v := RDf.mono r.sub (Beg.refl rho) d v h
theorem RelM.upk (r : RelM G F H rho m) {d : List (D × D)} {v : List (Key × V)} (h : RDk G rho F d v) : RDk G rho H d v := RDk.mono r.sub (Beg.refl rho) d v h
theorem RelM.upt (r : RelM G F H rho m) {d : List (D × D)} {v : List (List Key × V)} (h : RDt G rho F d v) : RDt G rho H d v := RDt.mono r.sub (Beg.refl rho) d v h
/-- what stands behind a reference -/
theorem RelM.view (r : RelM G F H rho m) {d : D} {v : V} (h : RD G rho F d v) : RD G rho H (vw m d) v := by
  cases d with
  | ref n =>
    cases h with
    | @ref _ a h =>
      show RD G rho H (match m[n]? with
        | some (.lst xs) => .lst xs
        | some (.dic q kvs) => .dic q kvs
        | some (.ins c fs) => .ins c fs
        | _ => .ref n) (.ref a)
      cases q : m[n]? with
      | none => exact .ref h
      | some c =>
        have z := r.cel n a c h q
        cases c with
        | lst xs =>
          obtain ⟨vs, e1, e2⟩ := z
          exact .lst e1 (r.ups e2)
        | dic k kvs =>
          cases k with
          | k =>
            obtain ⟨vs, e1, e2⟩ := z
            exact .dicK (.inl e1) (r.upk e2)
          | t =>
            obtain ⟨vs, e1, e2⟩ := z
            exact .dicT (.inl e1) (r.upt e2)
        | ins c fs =>
          obtain ⟨C, dx, fvs, e0, e1, e2⟩ := z
          exact .ins e0 e1 (r.upf e2)
        | dead => exact .ref h
  | non => exact r.up h
  | bl _ => exact r.up h
  | int _ => exact r.up h
  | str _ => exact r.up h
  | tup _ => exact r.up h
  | lst _ => exact r.up h
  | scr _ => exact r.up h
  | dic _ _ => exact r.up h
  | ins _ _ => exact r.up h
  | cls _ => exact r.up h
end
/-- lists and tuples, as the layer reads them -/
theorem RD.sql {G : GC} {rho : List Addr} {H : Hp} {xs : List D} {v : V} (h : RD G rho H (.lst xs) v) : ∃ a vs, v = .ref a ∧ SqL G.K H a vs ∧ RDs G rho H xs vs := by
  cases h with
  | lst h1 h2 => exact ⟨_, _, rfl, .inl (.inl h1), h2⟩
theorem RD.sqt {G : GC} {rho : List Addr} {H : Hp} {xs : List D} {v : V} (h : RD G rho H (.tup xs) v) : ∃ a vs, v = .ref a ∧ SqT G.K H a vs ∧ RDs G rho H xs vs := by
  cases h with
  | tup h1 h2 => exact ⟨_, _, rfl, .inl (.inl h1), h2⟩
  | tupK h1 => exact ⟨_, _, rfl, h1 H, .nil⟩
theorem RDs.length {G : GC} {rho : List Addr} {H : Hp} : ∀ {xs : List D} {vs : List V}, RDs G rho H xs vs → xs.length = vs.length
  | _, _, .nil => rfl
  | _, _, .cons _ t => congrArg Nat.succ (RDs.length t)
theorem RDs.get {G : GC} {rho : List Addr} {H : Hp} : ∀ {xs : List D} {vs : List V} {i : Nat} {d : D}, RDs G rho H xs vs → xs[i]? = some d → ∃ v, vs[i]? = some v ∧ RD G rho H d v
  | _, _, _, _, .nil, e => by simp at e
  | _, _, 0, _, .cons h _, e => by
    simp at e
    subst e
    exact ⟨_, rfl, h⟩
  | _, _, i + 1, d, .cons _ t, e => by
    obtain ⟨v, h1, h2⟩ := RDs.get (i := i) (d := d) t (by simpa using e)
    exact ⟨v, by simpa using h1, h2⟩
theorem RDs.get' {G : GC} {rho : List Addr} {H : Hp} : ∀ {xs : List D} {vs : List V} {i : Nat} {v : V}, RDs G rho H xs vs → vs[i]? = some v → ∃ d, xs[i]? = some d ∧ RD G rho H d v
  | _, _, _, _, .nil, e => by simp at e
  | _, _, 0, _, .cons h _, e => by
    simp at e
    subst e
    exact ⟨_, rfl, h⟩
  | _, _, i + 1, v, .cons _ t, e => by
    obtain ⟨d, h1, h2⟩ := RDs.get' (i := i) (v := v) t (by simpa using e)
    exact ⟨d, by simpa using h1, h2⟩
theorem RDs.append {G : GC} {rho : List Addr} {H : Hp} : ∀ {xs ys : List D} {vs ws : List V}, RDs G rho H xs vs → RDs G rho H ys ws → RDs G rho H (xs ++ ys) (vs ++ ws)
  | _, _, _, _, .nil, s => s
  | _, _, _, _, .cons h t, s => .cons h (RDs.append t s)
theorem RDs.take {G : GC} {rho : List Addr} {H : Hp} : ∀ {xs : List D} {vs : List V} (n : Nat), RDs G rho H xs vs → RDs G rho H (xs.take n) (vs.take n)
  | _, _, 0, _ => .nil
  | _, _, _ + 1, .nil => .nil
  | _, _, n + 1, .cons h t => .cons h (RDs.take n t)
theorem RDs.drop {G : GC} {rho : List Addr} {H : Hp} : ∀ {xs : List D} {vs : List V} (n : Nat), RDs G rho H xs vs → RDs G rho H (xs.drop n) (vs.drop n)
  | _, _, 0, h => h
  | _, _, _ + 1, .nil => .nil
  | _, _, n + 1, .cons _ t => RDs.drop n t
theorem RDs.set {G : GC} {rho : List Addr} {H : Hp} {d : D} {v : V} (r : RD G rho H d v) : ∀ {xs : List D} {vs : List V} (i : Nat), RDs G rho H xs vs → RDs G rho H (xs.set i d) (vs.set i v)
  | _, _, _, .nil => .nil
  | _, _, 0, .cons _ t => .cons r t
  | _, _, i + 1, .cons q t => .cons q (RDs.set r i t)
theorem RDf.lookup {G : GC} {rho : List Addr} {H : Hp} (inj : ∀ a b : String, Str.ofString a = Str.ofString b → a = b) (f : String) : ∀ {xs : List (String × D)} {vs : List (Str × V)} {d : D}, RDf G rho H xs vs → xs.lookup f = some d → ∃ v, vs.lookup (Str.ofString f) = some v ∧ RD G rho H d v
  | _, _, _, .nil, e => by cases e
  | _, _, d, .cons (f := g) h t, e => by
    by_cases q : f = g
    · subst q
      simp only [List.lookup, beq_self_eq_true] at e ⊢
      cases e
      exact ⟨_, rfl, h⟩
    · have q1 : (f == g) = false := by simpa using q
      have q2 : (Str.ofString f == Str.ofString g) = false := by
        simpa using fun z => q (inj _ _ z)
      simp only [List.lookup, q1, q2] at e ⊢
      exact RDf.lookup inj f t e
end IP

/-! IpC -/
set_option Elab.async false
set_option linter.all false
set_option maxRecDepth 100000
set_option maxHeartbeats 4000000
/-! IpC: what is wanted behind a piece of code; the readings of my expressions and statements. -/
namespace IP
open PySem L2

theorem ofString_inj {a b : String} (h : Str.ofString a = Str.ofString b) : a = b := by
  rw [Str.ofString_eq_toList, Str.ofString_eq_toList] at h
  injection h with h
  have h2 : a.toList.map Char.toNat = b.toList.map Char.toNat := by simpa using congrArg Array.toList h
  have h3 : a.toList = b.toList := by
    have inj : ∀ x y : Char, x.toNat = y.toNat → x = y := fun x y e => Char.ext (UInt32.toNat_inj.mp e)
    have gen : ∀ l k : List Char, l.map Char.toNat = k.map Char.toNat → l = k := by
      intro l
      induction l with
      | nil => intro k h; cases k with | nil => rfl | cons _ _ => cases h
      | cons x l ih =>
        intro k h
        cases k with
        | nil => cases h
        | cons y k =>
          simp only [List.map_cons, List.cons.injEq] at h
          rw [inj x y h.1, ih k h.2]
    exact gen _ _ h2
  exact String.toList_injective h3

/-- an exception, as it lies behind a raise -/
def RX (G : GC) (F H : Hp) (rho : List Addr) (x : Exc) (c : Value) (dd : Option Addr) : Prop :=
  ∃ C, G.exa x.cls = some C ∧ c = .ref C ∧ ((x.fs = [] ∧ dd = none) ∨ ∃ d fvs, dd = some d ∧ F d = some (.xd fvs) ∧ RDf G rho F x.fs fvs)

section
variable {α β γ : Type}
/-- behind a piece that gives an α, which stands as a β -/
def Post (G : GC) (W : WX) (σ : L2.St) (R : Hp → List Addr → α → β → Prop) (F H : Hp) (rho : List Addr) (r : Res α) (Q : β → Hp → Prop) : Prop := match r with
  | .ok d m' => ∀ (v : β) (H' F' : Hp) (rho' : List Addr), Ext F H rho F' H' rho' → RelM G F' H' rho' m' → R F' rho' d v → Q v H'
  | .ex x m' => ∀ (c : Value) (dd : Option Addr) (H' F' : Hp) (rho' : List Addr), Ext F H rho F' H' rho' → RelM G F' H' rho' m' → RX G F' H' rho' x c dd → W c dd σ H'
  | .no => False
variable {G : GC} {W : WX} {σ : L2.St} {R : Hp → List Addr → α → β → Prop} {F H : Hp} {rho : List Addr} {Q : β → Hp → Prop}
theorem Post.ext {F1 H1 : Hp} {rho1 : List Addr} {r : Res α} (h : Post G W σ R F H rho r Q) (x : Ext F H rho F1 H1 rho1) : Post G W σ R F1 H1 rho1 r Q := by
  cases r with
  | ok d m => exact fun v H' F' rho' x' rm rr => h v H' F' rho' (x.trans x') rm rr
  | ex e m => exact fun c dd H' F' rho' x' rm rr => h c dd H' F' rho' (x.trans x') rm rr
  | no => exact h
theorem Post.imp {Q' : β → Hp → Prop} {r : Res α} (h : Post G W σ R F H rho r Q) (hq : ∀ v H', Q v H' → Q' v H') : Post G W σ R F H rho r Q' := by
  cases r with
  | ok d m => exact fun v H' F' rho' x' rm rr => hq _ _ (h v H' F' rho' x' rm rr)
  | ex e m => exact h
  | no => exact h
/-- where one stands behind a piece -/
def At {α β : Type} (G : GC) (R : Hp → List Addr → α → β → Prop) (F H : Hp) (rho : List Addr) (v : β) (H1 : Hp) (K : Hp → List Addr → α → Mem → Prop) : Prop :=
  ∃ (F1 : Hp) (rho1 : List Addr) (d : α) (m1 : Mem), Ext F H rho F1 H1 rho1 ∧ RelM G F1 H1 rho1 m1 ∧ R F1 rho1 d v ∧ K F1 rho1 d m1
theorem Post.bind {δ : Type} {R1 : Hp → List Addr → γ → δ → Prop} {r : Res γ} {k : γ → Mem → Res α} (h : Post G W σ R F H rho (r.bind k) Q) :
    Post G W σ R1 F H rho r fun v H1 => At G R1 F H rho v H1 fun F1 rho1 d m1 => Post G W σ R F1 H1 rho1 (k d m1) Q := by
  cases r with
  | ok d m => exact fun v H' F' rho' x' rm rr => ⟨F', rho', d, m, x', rm, rr, Post.ext h x'⟩
  | ex e m => exact h
  | no => exact h
theorem Post.opt {o : Option α} {m : Mem} (h : Post G W σ R F H rho (opt o m) Q) : ∃ d, o = some d ∧ Post G W σ R F H rho (.ok d m) Q := by
  cases o with
  | none => exact h.elim
  | some d => exact ⟨d, rfl, h⟩
theorem Post.ite {c : Prop} [Decidable c] {r : Res α} (h : Post G W σ R F H rho (if c then r else .no) Q) : c ∧ Post G W σ R F H rho r Q := by
  by_cases hc : c
  · rw [if_pos hc] at h
    exact ⟨hc, h⟩
  · rw [if_neg hc] at h
    exact h.elim
/-- nothing has changed -/
theorem Post.here {d : α} {m : Mem} {v : β} (h : Post G W σ R F H rho (.ok d m) Q) (r : RelM G F H rho m) (rr : R F rho d v) : Q v H := h v H F rho (Ext.refl F H rho) r rr
end

def RD1 (G : GC) : Hp → List Addr → D → V → Prop := fun F rho d v => RD G rho F d v
def RDL (G : GC) : Hp → List Addr → List D → List V → Prop := fun F rho d v => RDs G rho F d v
def REq {α : Type} : Hp → List Addr → α → α → Prop := fun _ _ a b => a = b

/-- the reading of an expression that comes to f -/
def tI {α β : Type} (G : GC) (W : WX) (R : Hp → List Addr → α → β → Prop) (f : Ev → Mem → Res α) : L2.St → Hp → (β → Hp → Prop) → Prop := fun σ H Q =>
  ∃ (F : Hp) (rho : List Addr) (m : Mem) (e : Ev), RelM G F H rho m ∧ RelE G F rho e σ ∧ Post G W σ R F H rho (f e m) Q
theorem tI.mk {α β : Type} {G : GC} {W : WX} {R : Hp → List Addr → α → β → Prop} {f : Ev → Mem → Res α} {σ : L2.St} {F H : Hp} {rho : List Addr} {m : Mem} {e : Ev} {Q : β → Hp → Prop}
    (r : RelM G F H rho m) (re : RelE G F rho e σ) (h : Post G W σ R F H rho (f e m) Q) : tI G W R f σ H Q := ⟨F, rho, m, e, r, re, h⟩

theorem _root_.L2.PE.imp {X : Cx} {e : Expr} {t t' : TE} (h : PE X e t) (hi : ∀ σ H Q, t' σ H Q → t σ H Q) : PE X e t' := ⟨fun pins s σ H Q I q => h.run pins s σ H Q I (hi σ H Q q)⟩
theorem _root_.L2.PT.imp {X : Cx} {e : Expr} {t t' : TT} (h : PT X e t) (hi : ∀ σ H Q, t' σ H Q → t σ H Q) : PT X e t' := ⟨fun pins s σ H Q I q => h.run pins s σ H Q I (hi σ H Q q)⟩
theorem _root_.L2.PW.imp {X : Cx} {e : Expr} {t t' : TT} (h : PW X e t) (hi : ∀ σ H Q, t' σ H Q → t σ H Q) : PW X e t' := ⟨fun wh pins s σ H Q I q => h.run wh pins s σ H Q I (hi σ H Q q)⟩
theorem _root_.L2.PA.imp {X : Cx} {e : List Expr} {t t' : TA} (h : PA X e t) (hi : ∀ σ H Q, t' σ H Q → t σ H Q) : PA X e t' := ⟨fun pos pins s σ H Q I q => h.run pos pins s σ H Q I (hi σ H Q q)⟩

/-! ### new things -/
section
variable {G : GC} {F H : Hp} {rho : List Addr} {m : Mem}
theorem RelM.notin (r : RelM G F H rho m) {p : Addr} (hp : H p = none) : F p = none := by
  cases q : F p with
  | none => rfl
  | some u =>
    rcases r.sub.rd q with z | ⟨o, z⟩ <;> (rw [hp] at z; cases z)
/-- what a cell needs of the heap: its own place -/
theorem Cel.mono {F' H' : Hp} {rho' : List Addr} {a : Addr} {c : MO} (g : Grow F F') (b : Beg rho rho') (h : Cel G rho F H a c) (k : c ≠ .dead → ∀ o, H a = some o → H' a = some o) : Cel G rho' F' H' a c := by
  have s := g.sub
  cases c with
  | lst xs =>
    obtain ⟨vs, e1, e2⟩ := h
    exact ⟨vs, k (fun z => nomatch z) _ e1, RDs.mono s b xs vs e2⟩
  | dic q kvs =>
    cases q with
    | k =>
      obtain ⟨vs, e1, e2⟩ := h
      exact ⟨vs, k (fun z => nomatch z) _ e1, RDk.mono s b kvs vs e2⟩
    | t =>
      obtain ⟨vs, e1, e2⟩ := h
      exact ⟨vs, k (fun z => nomatch z) _ e1, RDt.mono s b kvs vs e2⟩
  | ins c fs =>
    obtain ⟨C, dx, fvs, e0, e1, e2⟩ := h
    exact ⟨C, dx, fvs, e0, k (fun z => nomatch z) _ e1, RDf.mono s b fs fvs e2⟩
  | dead =>
    obtain ⟨u, e⟩ := h
    exact ⟨u, g _ _ e⟩
theorem Grow.upd {p : Addr} {o : HO} (hp : F p = none) : Grow F (upd F p o) := fun a u e => by rw [upd_ne (ne_of_none e hp)]; exact e
/-- the cells stand -/
theorem RelM.live (r : RelM G F H rho m) {a : Addr} (h1 : a ∈ rho) : ∃ o, H a = some o := by
  obtain ⟨n, e⟩ := List.getElem?_of_mem h1
  have hn : n < m.length := by
    rw [r.len]
    exact (List.getElem?_eq_some_iff.mp e).1
  have z := r.cel n a m[n] e (List.getElem?_eq_getElem hn)
  cases q : m[n] with
  | lst xs =>
    rw [q] at z
    obtain ⟨vs, e1, _⟩ := z
    exact ⟨_, e1⟩
  | dic k kvs =>
    rw [q] at z
    cases k with
    | k =>
      obtain ⟨vs, e1, _⟩ := z
      exact ⟨_, e1⟩
    | t =>
      obtain ⟨vs, e1, _⟩ := z
      exact ⟨_, e1⟩
  | ins c fs =>
    rw [q] at z
    obtain ⟨C, dx, fvs, e0, e1, e2⟩ := z
    exact ⟨_, e1⟩
  | dead =>
    rw [q] at z
    obtain ⟨u, e1⟩ := z
    rcases r.sub.rd e1 with z | ⟨o, z⟩
    · exact ⟨_, z⟩
    · exact ⟨_, z⟩
theorem RelM.off' (r : RelM G F H rho m) {p : Addr} (hp : H p = none) : p ∉ rho := fun h => by
  obtain ⟨o, e⟩ := r.live h
  rw [hp] at e
  cases e
/-- a new thing that never changes -/
theorem RelM.frozen (r : RelM G F H rho m) {p : Addr} {o : HO} (hp : H p = none) : RelM G (upd F p o) (upd H p o) rho m ∧ Ext F H rho (upd F p o) (upd H p o) rho := by
  have hF := r.notin hp
  have hnp := r.off' hp
  have gr : Grow F (upd F p o) := Grow.upd hF
  have sb : Sub F (upd F p o) := gr.sub
  refine ⟨⟨⟨fun {a u} e => ?_⟩, r.len, r.nd, fun n a c h1 h2 => ?_, fun n a c h1 h2 h3 => ?_⟩, ⟨gr, Beg.refl _, fun a u e _ => ?_, fun a h n => absurd h n, fun a u e => ?_⟩⟩
  · by_cases hap : a = p
    · subst hap
      rw [upd_same] at e ⊢
      exact .inl e
    · rw [upd_ne hap] at e ⊢
      exact r.sub.at_ e
  · exact (r.cel n a c h1 h2).mono gr (Beg.refl _) fun _ u e => by rw [upd_ne (ne_of_none e hp)]; exact e
  · have z := r.off n a c h1 h2 h3
    rw [upd_ne fun q => hnp (by rw [← q]; exact List.mem_of_getElem? h1)]
    exact z
  · rw [upd_ne (ne_of_none e hp)]
    exact e
  · by_cases hap : a = p
    · subst hap
      exact .inr (.inl hp)
    · rw [upd_ne hap] at e
      exact .inl e
/-- a new cell -/
theorem RelM.cell (r : RelM G F H rho m) {p : Addr} {o : HO} {c : MO} (hp : H p = none) (hc : Cel G (rho ++ [p]) F (upd H p o) p c) : RelM G F (upd H p o) (rho ++ [p]) (m ++ [c]) ∧ Ext F H rho F (upd H p o) (rho ++ [p]) := by
  have hF := r.notin hp
  have hnp := r.off' hp
  refine ⟨⟨⟨fun {a u} e => ?_⟩, by rw [List.length_append, List.length_append, r.len] <;> rfl, ?_, fun n a c' h1 h2 => ?_, fun n a c' h1 h2 h3 => ?_⟩,
    ⟨Grow.refl F, Beg.app _ _, fun a u e _ => ?_, fun a h n => ?_, fun a u e => .inl e⟩⟩
  · have hap : a ≠ p := fun z => by rw [z, hF] at e; cases e
    rw [upd_ne hap]
    exact r.sub.at_ e
  · refine List.nodup_append.mpr ⟨r.nd, by simp, fun a ha b hb => ?_⟩
    have e : b = p := by simpa using hb
    subst e
    exact fun z => hnp (z ▸ ha)
  · by_cases hn : n < rho.length
    · rw [List.getElem?_append_left hn] at h1
      rw [List.getElem?_append_left (by rw [r.len]; exact hn)] at h2
      exact (r.cel n a c' h1 h2).mono (Grow.refl F) (Beg.app _ _) fun _ u e => by rw [upd_ne (ne_of_none e hp)]; exact e
    · have h1' : rho.length ≤ n := Nat.le_of_not_lt hn
      rw [List.getElem?_append_right h1'] at h1
      rw [List.getElem?_append_right (by rw [r.len]; exact h1'), r.len] at h2
      have hz : n - rho.length = 0 := by
        cases q : n - rho.length with
        | zero => rfl
        | succ k => rw [q] at h1; simp at h1
      rw [hz] at h1 h2
      simp at h1 h2
      subst h1 h2
      exact hc
  · by_cases hn : n < rho.length
    · rw [List.getElem?_append_left hn] at h1
      rw [List.getElem?_append_left (by rw [r.len]; exact hn)] at h2
      exact r.off n a c' h1 h2 h3
    · have h1' : rho.length ≤ n := Nat.le_of_not_lt hn
      rw [List.getElem?_append_right h1'] at h1
      have hz : n - rho.length = 0 := by
        cases q : n - rho.length with
        | zero => rfl
        | succ k => rw [q] at h1; simp at h1
      rw [hz] at h1
      simp at h1
      subst h1
      exact hF
  · rw [upd_ne (ne_of_none e hp)]
    exact e
  · rcases List.mem_append.mp h with h | h
    · exact absurd h n
    · have e : a = p := by simpa using h
      subst e
      exact hp
end
end IP

/-! IpD -/
set_option Elab.async false
set_option linter.all false
set_option maxRecDepth 100000
set_option maxHeartbeats 4000000
/-! IpD: the primitives keep what they say. -/
namespace IP
open PySem L2 PyProof.Rows

theorem mulOk_ok {a b : Int} (h : mulOk a b = true) : CMulW a b := of_decide_eq_true (p := a.natAbs.log2 + b.natAbs.log2 < 1000000) h
theorem op_fdivG {X : Cx} : OpR X (binaryOp .FloorDiv) (rI (fun _ j => j ≠ 0 ∧ j.natAbs.log2 < 9000) fun i j => .int (i.fdiv j)) :=
  opI fun _ _ _ _ _ _ _ hc q => floordiv_int hc.1 q (.inl (PyProof.noPylong_of_log2 hc.2))
theorem op_powG {X : Cx} : OpR X (binaryOp .Pow) (rI (fun i j => 0 ≤ j ∧ ((i.natAbs.log2 : Int) + 1) * j ≤ 134217728) fun i j => .int (i ^ j.toNat)) :=
  opI fun i j _ _ _ _ _ hc q => by
    refine PyProof.Rows.pow_int hc.1 ?_ q
    have b : Builtin.Int.intBits i ≤ i.natAbs.log2 + 1 := by
      unfold Builtin.Int.intBits
      split <;> omega
    have h : ((Builtin.Int.intBits i : Nat) : Int) * j ≤ ((i.natAbs.log2 : Int) + 1) * j := Int.mul_le_mul_of_nonneg_right (by omega) hc.1
    have e : (2 : Int) ^ 27 = 134217728 := by decide
    rw [e]
    exact Int.le_trans h hc.2

theorem tuple_mul1 (l : Addr) (items : Array Value) (n : Nat) (dd : Option Addr) (sl : Array (Option Value)) (u : Tok) :
    Meets (Builtin.«tuple.__mul__» ⟨[.ref l, .int 1 u], []⟩) (fun _ R s => s.heap.get? l = some { cls := .type "tuple", dict := dd, data := .seq items n, slots := sl } ∧ R (.ok (.ret (Value.ref l))) s) :=
  .of_wp fun prog w A R s h => by
    obtain ⟨hp, g, d, tk, os⟩ := s
    obtain ⟨hl, h⟩ := h
    have f1 := AutoSeq1.idx_int
    have c1 : (items.isEmpty || (1 : Int) == 1) = true := by simp
    wp_walk using wpAny_loadPart' hl
    repeat (first
      | (refine wpAny_ite_false (by decide) ?_; wp_walk using wpAny_loadPart' hl)
      | (refine wpAny_ite_true (decide_eq_true c1) ?_; wp_walk using wpAny_loadPart' hl))
    all_goals exact ⟨_, rfl, h⟩
section
variable {X : Cx} {G : GC} {W : WX} {σ : L2.St} {F H : Hp} {rho : List Addr} {m : Mem} {pins : List (Addr × Obj)} {s : Shared}
/-- a new object that never changes is handed back -/
theorem new_frozen {Q : VK} {d : D} (r : RelM G F H rho m) (h : Post G W σ (RD1 G) F H rho (.ok d m) Q) {p : Addr} {o : HO} (hp : H p = none) (hd : RD G rho (upd F p o) d (.ref p)) : Q (.ref p) (upd H p o) := by
  obtain ⟨r', x⟩ := r.frozen (o := o) hp
  exact h _ _ _ _ x r' hd
theorem rds_up {p : Addr} {o : HO} {xs : List D} {vs : List V} (r : RelM G F H rho m) (hp : H p = none) (h : RDs G rho F xs vs) : RDs G rho (upd F p o) xs vs := by
  obtain ⟨r', x⟩ := r.frozen (o := o) hp
  exact x.rds r h
theorem rd_tup {p : Addr} {xs : List D} {vs : List V} (r : RelM G F H rho m) (hp : H p = none) (h : RDs G rho F xs vs) : RD G rho (upd F p (.tup vs)) (.tup xs) (.ref p) := .tup upd_same (rds_up r hp h)
theorem rd_lst {p : Addr} {xs : List D} {vs : List V} (r : RelM G F H rho m) (hp : H p = none) (h : RDs G rho F xs vs) : RD G rho (upd F p (.lst vs)) (.lst xs) (.ref p) := .lst upd_same (rds_up r hp h)

/-- the values' own items, told over the heap, are told over F -/
theorem RelM.vwl (r : RelM G F H rho m) {d : D} {v : V} {xs : List D} (h : RD G rho F d v) (e : vw m d = .lst xs) : ∃ a vs, v = .ref a ∧ H a = some (.lst vs) ∧ RDs G rho F xs vs := by
  cases d with
  | lst ys =>
    cases e
    cases h with
    | lst h1 h2 => exact ⟨_, _, rfl, r.sub.get h1 rfl, h2⟩
  | ref n =>
    cases h with
    | @ref _ a h =>
      have e : (match m[n]? with
        | some (.lst xs) => D.lst xs
        | some (.dic q kvs) => .dic q kvs
        | some (.ins c fs) => .ins c fs
        | _ => .ref n) = .lst xs := e
      cases q : m[n]? with
      | none =>
        rw [q] at e
        cases e
      | some c =>
        have z := r.cel n a c h q
        rw [q] at e
        cases c with
        | lst ys =>
          cases e
          obtain ⟨vs, e1, e2⟩ := z
          exact ⟨a, vs, rfl, e1, e2⟩
        | dic k kvs => cases e
        | ins c fs => cases e
        | dead => cases e
  | non => cases e
  | bl _ => cases e
  | int _ => cases e
  | str _ => cases e
  | tup _ => cases e
  | scr _ => cases e
  | dic _ _ => cases e
  | ins _ _ => cases e
  | cls _ => cases e
/-- what is no reference is itself -/
theorem vw_of {m : Mem} {d d' : D} (e : vw m d = d') (n : ∀ k, d ≠ .ref k) : d = d' := by
  cases d with
  | ref k => exact absurd rfl (n k)
  | lst _ => exact e
  | non => exact e
  | bl _ => exact e
  | int _ => exact e
  | str _ => exact e
  | tup _ => exact e
  | scr _ => exact e
  | dic _ _ => exact e
  | ins _ _ => exact e
  | cls _ => exact e
theorem vw_ref {m : Mem} {n : Nat} {d : D} (e : vw m (.ref n) = d) : (∃ xs, d = .lst xs) ∨ (∃ q kvs, d = .dic q kvs) ∨ (∃ c fs, d = .ins c fs) ∨ d = .ref n := by
  have e : (match m[n]? with
    | some (.lst xs) => D.lst xs
    | some (.dic q kvs) => .dic q kvs
    | some (.ins c fs) => .ins c fs
    | _ => .ref n) = d := e
  cases q : m[n]? with
  | none =>
    rw [q] at e
    exact .inr (.inr (.inr e.symm))
  | some c =>
    rw [q] at e
    cases c with
    | lst ys => exact .inl ⟨ys, e.symm⟩
    | dic k kvs => exact .inr (.inl ⟨k, kvs, e.symm⟩)
    | ins c fs => exact .inr (.inr (.inl ⟨c, fs, e.symm⟩))
    | dead => exact .inr (.inr (.inr e.symm))
theorem RelM.vwt (r : RelM G F H rho m) {d : D} {v : V} {xs : List D} (h : RD G rho F d v) (e : vw m d = .tup xs) : ∃ a vs, v = .ref a ∧ SqT G.K H a vs ∧ SqT G.K F a vs ∧ RDs G rho F xs vs := by
  have e2 : d = .tup xs := vw_of e fun k z => by
    subst z
    rcases vw_ref e with ⟨_, z⟩ | ⟨_, _, z⟩ | ⟨_, _, z⟩ | z <;> cases z
  subst e2
  cases h with
  | tup h1 h2 => exact ⟨_, _, rfl, .inl (.inl (r.sub.get h1 rfl)), .inl (.inl h1), h2⟩
  | tupK h1 => exact ⟨_, _, rfl, h1 H, h1 F, .nil⟩

theorem vw_tup {d : D} {xs : List D} (e : vw m d = .tup xs) : d = .tup xs := vw_of e fun k z => by
  subst z
  rcases vw_ref e with ⟨_, z⟩ | ⟨_, _, z⟩ | ⟨_, _, z⟩ | z <;> cases z
theorem _root_.IP.RDs.rep {G : GC} {rho : List Addr} {H : Hp} {xs : List D} {vs : List V} (h : RDs G rho H xs vs) : ∀ n : Nat, RDs G rho H (List.replicate n xs).flatten (List.replicate n vs).flatten
  | 0 => .nil
  | n + 1 => by
    rw [List.replicate_succ, List.replicate_succ, List.flatten_cons, List.flatten_cons]
    exact h.append (RDs.rep h n)

/-- the operators, of plain values -/
theorem binP_ok {op : Operator} {dx dy d : D} {x y : V} {v u : Value} {Q : VK} (hK : X.K = G.K) (I : Inv X pins σ H s) (rx : RelV x v) (ry : RelV y u) (r : RelM G F H rho m) (hx : RD G rho F dx x) (hy : RD G rho F dy y)
    (e : binP op (vw m dx) (vw m dy) = some d) (q : Post G W σ (RD1 G) F H rho (.ok d m) Q) : wpAny (model X.prog X.w) X.A (binaryOp op v u) (EP X pins σ Q) X.xe s := by
  have gx := r.view hx
  have gy := r.view hy
  generalize ex : vw m dx = vx at e gx
  generalize ey : vw m dy = vy at e gy
  unfold binP at e
  split at e
  · cases gx; cases gy; cases e
    exact op_add pins s σ H _ _ v u Q I rx ry ⟨_, _, rfl, rfl, q.here r (.int _)⟩
  · cases gx; cases gy
    split at e
    · rename_i h1
      cases e
      exact op_add_str pins s σ H _ _ v u Q I rx ry ⟨_, _, rfl, rfl, of_decide_eq_true h1, q.here r (.str _)⟩
    · cases e
  · split at e
    · rename_i h1
      cases e
      obtain ⟨a, vs, rfl, ha, hvs⟩ := r.vwl hx ex
      obtain ⟨b, ws, rfl, hb, hws⟩ := r.vwl hy ey
      refine op_cat pins s σ H _ _ v u Q I rx ry ⟨a, b, vs, ws, rfl, rfl, ha, hb, ?_, fun p hp => new_frozen r q hp (rd_lst r hp (hvs.append hws))⟩
      rw [← hvs.length, ← hws.length]
      exact of_decide_eq_true h1
    · cases e
  · split at e
    · rename_i h1
      cases e
      obtain ⟨a, vs, rfl, ha, fa, hvs⟩ := r.vwt hx ex
      obtain ⟨b, ws, rfl, hb, fb, hws⟩ := r.vwt hy ey
      refine op_catA pins s σ H _ _ v u Q I rx ry ⟨a, b, vs, ws, rfl, rfl, hK ▸ ha, hK ▸ hb, ?_, fun z => ?_, fun _ z => ?_, fun _ _ p hp => new_frozen r q hp (rd_tup r hp (hvs.append hws))⟩
      · rw [← hvs.length, ← hws.length]
        exact of_decide_eq_true h1
      · subst z
        cases hvs
        have e2 := vw_tup ey
        subst e2
        exact q.here r hy
      · subst z
        cases hws
        rw [List.append_nil] at q
        have e2 := vw_tup ex
        subst e2
        exact q.here r hx
    · cases e
  · cases gx; cases gy; cases e
    exact op_sub pins s σ H _ _ v u Q I rx ry ⟨_, _, rfl, rfl, q.here r (.int _)⟩
  · cases gx; cases gy
    split at e
    · rename_i h1
      cases e
      exact op_mulW pins s σ H _ _ v u Q I rx ry ⟨_, _, rfl, rfl, mulOk_ok h1, q.here r (.int _)⟩
    · cases e
  · cases gy
    split at e
    · rename_i h1
      cases e
      obtain ⟨a, vs, rfl, ha, hvs⟩ := r.vwl hx ex
      simp only [Bool.and_eq_true, decide_eq_true_eq] at h1
      refine op_rep pins s σ H _ _ v u Q I rx ry ⟨a, _, vs, rfl, rfl, ha, h1.1.1, h1.1.2, ?_, fun p hp => new_frozen r q hp (rd_lst r hp (hvs.rep _))⟩
      rw [← hvs.length]
      exact of_decide_eq_true h1.2
    · cases e
  · cases gy
    split at e
    · rename_i h1
      cases e
      obtain ⟨a, vs, rfl, ha, fa, hvs⟩ := r.vwt hx ex
      simp only [Bool.and_eq_true, decide_eq_true_eq, Bool.not_eq_true'] at h1
      obtain ⟨⟨⟨h0, h1⟩, h2⟩, h3⟩ := h1
      rename_i as k
      by_cases hk : k = 1
      · subst hk
        have e2 := vw_tup ex
        subst e2
        have er : (List.replicate (1 : Int).toNat as).flatten = as := by simp
        rw [er] at q
        obtain ⟨t, rfl⟩ := ry
        cases rx
        obtain ⟨its, rv, ⟨⟨cls, dd, data, sl⟩, ho, hc, n, hd⟩, hs⟩ := I.tuple (hK ▸ ha)
        simp only at hc hd
        subst hc hd
        refine wpAny_binaryOp_repeat_ref (T := "tuple") (U := "int") (by decide) ⟨_, ho, rfl⟩ (fun s' => typeIs_int s' 1 t) noFill_tuple_mul PySem.F.fills_int_mul PySem.F.slot_int_rmul repeat_tuple PySem.F.slot_int_index.lookup
          (call_meets PySem.F.slot_int_rmul (typeIs_int s 1 t) PySem.F.entry_int_rmul (PySem.F.args_int_rmul_2 _ _) (int_rmul_tuple 1 t a its.toArray n dd sl)
            ⟨ho, rfl, ⟨_, ho, rfl⟩, call_meets PySem.F.slot_tuple_mul ⟨_, ho, rfl⟩ PySem.F.entry_tuple_mul (PySem.F.args_tuple_mul_2 _ _) (tuple_mul1 a its.toArray n dd sl t) ⟨ho, ?_⟩⟩)
        exact ⟨.ref a, H, I, rfl, q.here r hx⟩
      · refine op_repT pins s σ H _ _ v u Q I rx ry ⟨a, k, vs, rfl, rfl, hK ▸ ha, ?_, by omega, h2, by rw [← hvs.length]; exact h3, fun p hp => new_frozen r q hp (rd_tup r hp (hvs.rep _))⟩
        intro z
        subst z
        cases hvs
        cases h0
    · cases e
  · cases gx; cases gy
    split at e
    · rename_i h1
      cases e
      unfold divOk at h1
      simp only [Bool.and_eq_true, decide_eq_true_eq] at h1
      exact op_fdivG pins s σ H _ _ v u Q I rx ry ⟨_, _, rfl, rfl, h1, q.here r (.int _)⟩
    · cases e
  · cases gx; cases gy
    split at e
    · rename_i h1
      cases e
      exact op_modN pins s σ H _ _ v u Q I rx ry ⟨_, _, rfl, rfl, h1, q.here r (.int _)⟩
    · cases e
  · cases gx; cases gy
    split at e
    · rename_i h1
      cases e
      unfold powOk at h1
      simp only [Bool.and_eq_true, decide_eq_true_eq] at h1
      exact op_powG pins s σ H _ _ v u Q I rx ry ⟨_, _, rfl, rfl, h1, q.here r (.int _)⟩
    · cases e
  · cases e
end

/-! ### plain data -/
mutual
theorem RD.dp {G : GC} {rho : List Addr} {H : Hp} : ∀ (d : D) (v : V) (pd : PyData), d.py = some pd → RD G rho H d v → Dp G.K H v pd
  | .non, _, _, e, h => by cases e; cases h; exact .non
  | .bl _, _, _, e, h => by cases e; cases h; exact .bl _
  | .int _, _, _, e, h => by cases e; cases h; exact .int _
  | .str _, _, _, e, h => by cases e; cases h; exact .str _
  | .tup xs, v, pd, e, h => by
    have e : (D.pys xs).map .tuple = some pd := by simpa only [D.py] using e
    cases q : D.pys xs with
    | none => rw [q] at e; cases e
    | some ps =>
      rw [q] at e
      cases e
      obtain ⟨a, vs, rfl, h1, h2⟩ := h.sqt
      exact .tup h1 (RDs.dp xs vs ps q h2)
  | .lst xs, v, pd, e, h => by
    have e : (D.pys xs).map .list = some pd := by simpa only [D.py] using e
    cases q : D.pys xs with
    | none => rw [q] at e; cases e
    | some ps =>
      rw [q] at e
      cases e
      obtain ⟨a, vs, rfl, h1, h2⟩ := h.sql
      exact .lst h1 (RDs.dp xs vs ps q h2)
  | .dic _ _, _, _, e, _ => by simp [D.py] at e
  | .ins _ _, _, _, e, _ => by simp [D.py] at e
  | .cls _, _, _, e, _ => by simp [D.py] at e
  | .ref _, _, _, e, _ => by simp [D.py] at e
  | .scr _, _, _, e, _ => by simp [D.py] at e
theorem RDs.dp {G : GC} {rho : List Addr} {H : Hp} : ∀ (ds : List D) (vs : List V) (ps : List PyData), D.pys ds = some ps → RDs G rho H ds vs → DpAll G.K H vs ps
  | [], _, _, e, h => by
    simp only [D.pys] at e
    cases e
    cases h
    exact .nil
  | d :: ds, _, ps, e, h => by
    cases h with
    | @cons _ v _ vs h1 h2 =>
      simp only [D.pys] at e
      cases q1 : d.py with
      | none => rw [q1] at e; cases e
      | some a =>
        cases q2 : D.pys ds with
        | none => rw [q1, q2] at e; cases e
        | some r =>
          rw [q1, q2] at e
          cases e
          exact .cons (RD.dp d v a q1 h1) (RDs.dp ds vs r q2 h2)
end
theorem RD.flat {G : GC} {rho : List Addr} {H : Hp} {d : D} {v x : V} (e : d.fl = some x) (h : RD G rho H d v) : v = x ∧ flatV x = true := by
  cases d <;> simp only [D.fl] at e <;> cases e <;> cases h <;> exact ⟨rfl, rfl⟩
theorem RDs.flat {G : GC} {rho : List Addr} {H : Hp} : ∀ {ds : List D} {vs xs : List V}, fls ds = some xs → RDs G rho H ds vs → vs = xs ∧ xs.all flatV = true
  | [], _, _, e, h => by
    cases e
    cases h
    exact ⟨rfl, rfl⟩
  | d :: ds, _, xs, e, h => by
    cases h with
    | @cons _ v _ vs h1 h2 =>
      simp only [fls] at e
      cases q1 : d.fl with
      | none => rw [q1] at e; cases e
      | some a =>
        cases q2 : fls ds with
        | none => rw [q1, q2] at e; cases e
        | some r =>
          rw [q1, q2] at e
          cases e
          obtain ⟨rfl, f1⟩ := RD.flat q1 h1
          obtain ⟨rfl, f2⟩ := RDs.flat q2 h2
          exact ⟨rfl, by rw [List.all_cons, f1, f2] <;> rfl⟩
theorem RDs.ints {G : GC} {rho : List Addr} {H : Hp} : ∀ {ds : List D} {vs : List V} {is : List Int}, intsD ds = some is → RDs G rho H ds vs → vs = is.map V.int
  | [], _, _, e, h => by
    cases e
    cases h
    rfl
  | .int i :: ds, _, is, e, h => by
    cases h with
    | @cons _ v _ vs h1 h2 =>
      simp only [intsD] at e
      cases q2 : intsD ds with
      | none => rw [q2] at e; cases e
      | some r =>
        rw [q2] at e
        cases e
        cases h1
        rw [RDs.ints q2 h2] <;> rfl
  | .non :: _, _, _, e, _ => by cases e
  | .bl _ :: _, _, _, e, _ => by cases e
  | .str _ :: _, _, _, e, _ => by cases e
  | .tup _ :: _, _, _, e, _ => by cases e
  | .lst _ :: _, _, _, e, _ => by cases e
  | .dic _ _ :: _, _, _, e, _ => by cases e
  | .ins _ _ :: _, _, _, e, _ => by cases e
  | .cls _ :: _, _, _, e, _ => by cases e
  | .ref _ :: _, _, _, e, _ => by cases e
  | .scr _ :: _, _, _, e, _ => by cases e
/-! ### dicts -/
theorem keyD_rd {G : GC} {rho : List Addr} {H : Hp} {d : D} {v : V} {k : Key} (e : keyD d = some k) (h : RD G rho H d v) : v = kV k := by
  cases d <;> simp only [keyD] at e <;> cases e <;> cases h <;> rfl
theorem keyL_rd {G : GC} {rho : List Addr} {H : Hp} : ∀ {ds : List D} {vs : List V} {ks : List Key}, ds.mapM keyD = some ks → RDs G rho H ds vs → vs = ks.map kV
  | [], _, _, e, h => by
    cases e
    cases h
    rfl
  | d :: ds, _, ks, e, h => by
    cases h with
    | @cons _ v _ vs h1 h2 =>
      rw [List.mapM_cons] at e
      cases q1 : keyD d with
      | none => rw [q1] at e; cases e
      | some a =>
        cases q2 : ds.mapM keyD with
        | none => rw [q1, q2] at e; cases e
        | some r =>
          rw [q1, q2] at e
          cases e
          rw [keyD_rd q1 h1, keyL_rd q2 h2] <;> rfl
inductive RO (G : GC) (rho : List Addr) (H : Hp) : Option D → Option V → Prop
  | non : RO G rho H none none
  | som {d : D} {v : V} : RD G rho H d v → RO G rho H (some d) (some v)
theorem RDk.val {G : GC} {rho : List Addr} {H : Hp} (k : Key) : ∀ {xs : List (D × D)} {kvs : List (Key × V)}, RDk G rho H xs kvs → RO G rho H ((xs.find? fun p => decide (keyD p.1 = some k)).map (·.2)) (valV kvs k)
  | _, _, .nil => .non
  | _, _, .cons (x := x) (d := d) (k := k') (v := v) (ds := ds) (vs := vs) e h t => by
    by_cases hk : k' = k
    · subst hk
      have c1 : (fun p : D × D => decide (keyD p.1 = some k')) (x, d) = true := decide_eq_true e
      have c3 := List.find?_cons_of_pos (p := fun p : D × D => decide (keyD p.1 = some k')) (a := (x, d)) (l := ds) c1
      have c2 : valV ((k', v) :: vs) k' = some v := by simp [valV]
      rw [c3, c2]
      exact .som h
    · have c1 : ¬ (fun p : D × D => decide (keyD p.1 = some k)) (x, d) = true := by
        show ¬ decide (keyD x = some k) = true
        rw [e]
        simpa using hk
      have c3 := List.find?_cons_of_neg (p := fun p : D × D => decide (keyD p.1 = some k)) (a := (x, d)) (l := ds) c1
      have c2 : valV ((k', v) :: vs) k = valV vs k := by simp [valV, List.find?_cons_of_neg, hk]
      rw [c3, c2]
      exact RDk.val k t
theorem RDt.val {G : GC} {rho : List Addr} {H : Hp} (k : List Key) : ∀ {xs : List (D × D)} {kvs : List (List Key × V)}, RDt G rho H xs kvs → RO G rho H ((xs.find? fun p => decide (keyT p.1 = some k)).map (·.2)) (valV kvs k)
  | _, _, .nil => .non
  | _, _, .cons (x := x) (d := d) (k := k') (v := v) (ds := ds) (vs := vs) e h t => by
    by_cases hk : k' = k
    · subst hk
      have c1 : (fun p : D × D => decide (keyT p.1 = some k')) (x, d) = true := decide_eq_true e
      have c3 := List.find?_cons_of_pos (p := fun p : D × D => decide (keyT p.1 = some k')) (a := (x, d)) (l := ds) c1
      have c2 : valV ((k', v) :: vs) k' = some v := by simp [valV]
      rw [c3, c2]
      exact .som h
    · have c1 : ¬ (fun p : D × D => decide (keyT p.1 = some k)) (x, d) = true := by
        show ¬ decide (keyT x = some k) = true
        rw [e]
        simpa using hk
      have c3 := List.find?_cons_of_neg (p := fun p : D × D => decide (keyT p.1 = some k)) (a := (x, d)) (l := ds) c1
      have c2 : valV ((k', v) :: vs) k = valV vs k := by simp [valV, List.find?_cons_of_neg, hk]
      rw [c3, c2]
      exact RDt.val k t
/-- a dict where it stands, its entries over F -/
inductive DicAt (G : GC) (rho : List Addr) (F H : Hp) : DK → List (D × D) → Addr → Prop
  | k {kvs : List (D × D)} {ks : List (Key × V)} {a : Addr} : Rd H a (.dK ks) → RDk G rho F kvs ks → DicAt G rho F H .k kvs a
  | t {kvs : List (D × D)} {ks : List (List Key × V)} {a : Addr} : Rd H a (.dT ks) → RDt G rho F kvs ks → DicAt G rho F H .t kvs a
theorem RelM.vwd {G : GC} {rho : List Addr} {F H : Hp} {m : Mem} (r : RelM G F H rho m) {d : D} {v : V} {q : DK} {kvs : List (D × D)} (h : RD G rho F d v) (e : IP.vw m d = .dic q kvs) : ∃ a, v = .ref a ∧ DicAt G rho F H q kvs a := by
  cases d with
  | dic q' ys =>
    cases e
    cases h with
    | dicK h1 h2 => exact ⟨_, rfl, .k (r.sub.rd2 h1) h2⟩
    | dicT h1 h2 => exact ⟨_, rfl, .t (r.sub.rd2 h1) h2⟩
  | ref n =>
    cases h with
    | @ref _ a h =>
      have e : (match m[n]? with
        | some (.lst xs) => D.lst xs
        | some (.dic q kvs) => .dic q kvs
        | some (.ins c fs) => .ins c fs
        | _ => .ref n) = .dic q kvs := e
      cases q : m[n]? with
      | none =>
        rw [q] at e
        cases e
      | some c =>
        have z := r.cel n a c h q
        rw [q] at e
        cases c with
        | lst ys => cases e
        | dic k kvs =>
          cases k with
          | k =>
            cases e
            obtain ⟨vs, e1, e2⟩ := z
            exact ⟨a, rfl, .k (.inl e1) e2⟩
          | t =>
            cases e
            obtain ⟨vs, e1, e2⟩ := z
            exact ⟨a, rfl, .t (.inl e1) e2⟩
        | ins c fs => cases e
        | dead => cases e
  | _ => cases e
theorem DicAt.of {G : GC} {rho : List Addr} {H : Hp} {q : DK} {kvs : List (D × D)} {v : V} (h : RD G rho H (.dic q kvs) v) : ∃ a, v = .ref a ∧ DicAt G rho H H q kvs a := by
  cases h with
  | dicK h1 h2 => exact ⟨_, rfl, .k h1 h2⟩
  | dicT h1 h2 => exact ⟨_, rfl, .t h1 h2⟩
/-- a look into a dict -/
theorem getP_ok {G : GC} {rho : List Addr} {F H : Hp} {q : DK} {kvs : List (D × D)} {x : D} {o : Option D} {a : Addr} {vx : V} (e : getP q kvs x = some o) (hd : DicAt G rho F H q kvs a) (hx : RD G rho H x vx) :
    ∃ r, DGet H a vx r ∧ RO G rho F o r := by
  cases hd with
  | k h1 h2 =>
    simp only [getP] at e
    cases q1 : keyD x with
    | none => rw [q1] at e; cases e
    | some k =>
      rw [q1] at e
      cases e
      exact ⟨_, .inl ⟨_, k, h1, keyD_rd q1 hx, rfl⟩, RDk.val k h2⟩
  | t h1 h2 =>
    simp only [getP] at e
    cases q1 : keyT x with
    | none => rw [q1] at e; cases e
    | some k =>
      rw [q1] at e
      cases e
      cases hx with
      | @tup a vs ys g1 g2 =>
        cases ys with
        | nil => cases q1
        | cons y ys => exact ⟨_, .inr ⟨_, k, _, h1, rfl, by rw [g1, keyL_rd (show (y :: ys).mapM keyD = some k from q1) g2], rfl⟩, RDt.val k h2⟩
      | _ => cases q1
section
variable {X : Cx} {G : GC} {W : WX} {σ : L2.St} {F H : Hp} {rho : List Addr} {m : Mem} {pins : List (Addr × Obj)} {s : Shared}
theorem eqB_some {x y : D} {b : Bool} (e : eqB x y = some b) : ∃ p q, x.py = some p ∧ y.py = some q ∧ SeqAt.shaped p = true ∧ SeqAt.shaped q = true ∧ b = PyData.eqv p q := by
  unfold eqB at e
  cases h1 : x.py with
  | none => rw [h1] at e; cases e
  | some p =>
    cases h2 : y.py with
    | none => rw [h1, h2] at e; cases e
    | some q =>
      rw [h1, h2] at e
      simp only at e
      split at e
      · rename_i h
        cases e
        simp only [Bool.and_eq_true] at h
        exact ⟨p, q, rfl, rfl, h.1, h.2, rfl⟩
      · cases e
theorem inB_some {x : D} {ys : List D} {b : Bool} (e : inB x ys = some b) : ∃ p qs, x.py = some p ∧ D.pys ys = some qs ∧ SeqAt.shaped p = true ∧ SeqAt.shaped (.list qs) = true ∧ b = qs.any fun z => PyData.eqv z p := by
  unfold inB at e
  cases h1 : x.py with
  | none => rw [h1] at e; cases e
  | some p =>
    cases h2 : D.pys ys with
    | none => rw [h1, h2] at e; cases e
    | some q =>
      rw [h1, h2] at e
      simp only at e
      split at e
      · rename_i h
        cases e
        simp only [Bool.and_eq_true] at h
        exact ⟨p, q, rfl, rfl, h.1, h.2, rfl⟩
      · cases e
theorem inT_some {x : D} {ys : List D} {b : Bool} (e : inT x ys = some b) : ∃ a bs, x.fl = some a ∧ fls ys = some bs ∧ b = inV a bs := by
  unfold inT at e
  cases h1 : x.fl with
  | none => rw [h1] at e; cases e
  | some p =>
    cases h2 : fls ys with
    | none => rw [h1, h2] at e; cases e
    | some q =>
      rw [h1, h2] at e
      cases e
      exact ⟨p, q, rfl, rfl, rfl⟩
theorem py_list {ys : List D} {qs : List PyData} (e : D.pys ys = some qs) : (D.lst ys).py = some (.list qs) := by simp [D.py, e]

theorem map_some {α β : Type} {o : Option α} {f : α → β} {b : β} (e : o.map f = some b) : ∃ a, o = some a ∧ b = f a := by
  cases o with
  | none => cases e
  | some a => cases e; exact ⟨a, rfl, rfl⟩
theorem eqI_ok {x y : D} {b : Bool} {vx vy : V} {v u : Value} {A : Around} (hK : X.K = G.K) (hu : A.units + 64 < cLine) (I : Inv X pins σ H s) (e : eqI x y = some b) (gx : RD G rho H x vx) (gy : RD G rho H y vy) (rx : RelV vx v) (ry : RelV vy u) : SeqAt.EqP X.prog X.w A s v u b := by
  unfold eqI at e
  split at e
  · split at e
    · rename_i n k hn
      subst hn
      cases e
      cases gx with
      | ref h1 =>
        cases gy with
        | ref h2 =>
          rw [h1] at h2
          cases h2
          cases rx
          cases ry
          exact (SeqAt.EqAt.same _).eqP
    · cases e
  · obtain ⟨p, q', e1, e2, s1, s2, rfl⟩ := eqB_some e
    obtain ⟨as, r1⟩ := Dp.reads I p _ v (hK ▸ RD.dp _ _ _ e1 gx) rx
    obtain ⟨bs, r2⟩ := Dp.reads I q' _ u (hK ▸ RD.dp _ _ _ e2 gy) ry
    exact (SeqAt.eqAt_reads p q' A s v u as bs r1 r2 (SeqAt.canLay_of_shaped s1) (SeqAt.canLay_of_shaped s2) (SeqAt.room_of_shaped s1 hu)).eqP
theorem range_all_succ (n : Nat) (f : Nat → Bool) : (List.range (n + 1)).all f = (f 0 && (List.range n).all fun j => f (j + 1)) := by
  rw [List.range_succ_eq_map]
  simp [Function.comp_def]
theorem eqIs_ok {A : Around} (hK : X.K = G.K) (hu : A.units + 64 < cLine) (I : Inv X pins σ H s) : ∀ {xs ys : List D} {b : Bool} {vs ws : List V} {us zs : List Value}, eqIs xs ys = some b → RDs G rho H xs vs → RDs G rho H ys ws → Vals vs us → Vals ws zs →
    us.length = zs.length ∧ ∃ f : Nat → Bool, (∀ j (h1 : j < us.length) (h2 : j < zs.length), SeqAt.EqP X.prog X.w A s us[j] zs[j] (f j)) ∧ b = (List.range us.length).all f
  | [], [], b, _, _, _, _, e, .nil, .nil, .nil, .nil => by
    cases e
    exact ⟨rfl, fun _ => true, fun j h1 => absurd h1 (Nat.not_lt_zero j), rfl⟩
  | [], _ :: _, _, _, _, _, _, e, _, _, _, _ => by cases e
  | _ :: _, [], _, _, _, _, _, e, _, _, _, _ => by cases e
  | x :: xs, y :: ys, b, _, _, _, _, e, .cons g1 t1, .cons g2 t2, .cons r1 k1, .cons r2 k2 => by
    unfold eqIs at e
    split at e
    · rename_i a c e1 e2
      cases e
      obtain ⟨hl, f, hf, hb⟩ := eqIs_ok hK hu I e2 t1 t2 k1 k2
      refine ⟨by simp [hl], fun j => match j with | 0 => a | j + 1 => f j, fun j h1 h2 => ?_, ?_⟩
      · cases j with
        | zero => exact eqI_ok hK hu I e1 g1 g2 r1 r2
        | succ j => exact hf j (Nat.lt_of_succ_lt_succ h1) (Nat.lt_of_succ_lt_succ h2)
      · rw [List.length_cons, range_all_succ, hb]
    · cases e
/-- the comparisons, of plain values -/
theorem cmpP_ok {op : CmpOp} {vx vy : D} {b : Bool} {x y : V} {v u : Value} {Q : VK} (hK : X.K = G.K) (hu : X.A.units + 65 < cLine) (I : Inv X pins σ H s) (rx : RelV x v) (ry : RelV y u) (gx : RD G rho H vx x) (gy : RD G rho H vy y)
    (e : cmpP op vx vy = some b) (q : Q (.bl b) H) : wpAny (model X.prog X.w) X.A (compareOp op v u) (EP X pins σ Q) X.xe s := by
  unfold cmpP at e
  split at e
  · unfold eqC at e
    split at e
    · rename_i b' e'
      cases e
      obtain ⟨p, q', e1, e2, s1, s2, rfl⟩ := eqB_some e'
      exact op_eqD (by omega) pins s σ H x y v u Q I rx ry ⟨p, q', hK ▸ RD.dp _ _ _ e1 gx, hK ▸ RD.dp _ _ _ e2 gy, s1, s2, q⟩
    · split at e
      · obtain ⟨a1, vs1, rfl, h1, r1⟩ := gx.sql
        obtain ⟨a2, vs2, rfl, h2, r2⟩ := gy.sql
        cases (show v = Value.ref a1 from rx)
        cases (show u = Value.ref a2 from ry)
        obtain ⟨us, w1, p1, _⟩ := I.list (hK ▸ h1)
        obtain ⟨ws, w2, p2, _⟩ := I.list (hK ▸ h2)
        obtain ⟨hl, f, hf, hb⟩ := eqIs_ok hK (A := X.A.in1) (by show X.A.units + 1 + 64 < cLine; omega) I e r1 r2 w1 w2
        refine SeqAt.rcP_lists (e := f) p1.isList p2.isList (by simpa using hl) (by omega) (fun j g1 g2 => ?_) X.xe _ ?_
        · have := hf j (by simpa using g1) (by simpa using g2)
          simpa using this
        · rw [List.size_toArray, ← hb]
          exact ⟨.bl b, H, I, rfl, q⟩
      · cases e
  · obtain ⟨b', e', rfl⟩ := map_some e
    obtain ⟨p, q', e1, e2, s1, s2, rfl⟩ := eqB_some e'
    exact op_neD (by omega) pins s σ H x y v u Q I rx ry ⟨p, q', hK ▸ RD.dp _ _ _ e1 gx, hK ▸ RD.dp _ _ _ e2 gy, s1, s2, q⟩
  · unfold ltP at e
    split at e
    · cases gx; cases gy; cases e
      exact op_lt pins s σ H _ _ v u Q I rx ry ⟨_, _, rfl, rfl, q⟩
    · cases gx; cases gy; cases e
      exact op_lt_str pins s σ H _ _ v u Q I rx ry ⟨_, _, rfl, rfl, q⟩
    · split at e
      · rename_i e1 e2
        cases e
        obtain ⟨a, vs, rfl, h1, h2⟩ := gx.sqt
        obtain ⟨a', vs', rfl, h1', h2'⟩ := gy.sqt
        have z1 := RDs.ints e1 h2
        have z2 := RDs.ints e2 h2'
        subst z1 z2
        exact op_ltT (by omega) pins s σ H _ _ v u Q I rx ry ⟨_, _, _, _, rfl, rfl, hK ▸ h1, hK ▸ h1', q⟩
      · cases e
    · cases e
  · split at e
    · cases e
    · unfold ltP at e
      split at e
      · cases gx; cases gy; cases e
        exact op_gt pins s σ H _ _ v u Q I rx ry ⟨_, _, rfl, rfl, q⟩
      · cases gx; cases gy; cases e
        exact op_gt_str pins s σ H _ _ v u Q I rx ry ⟨_, _, rfl, rfl, q⟩
      · rename_i hno
        first | exact (hno rfl rfl).elim | exact (hno _ _).elim | (simp at hno)
      · cases e
  · split at e
    · cases gx; cases gy; cases e
      exact op_le pins s σ H _ _ v u Q I rx ry ⟨_, _, rfl, rfl, q⟩
    · split at e
      · rename_i e1 e2
        cases e
        obtain ⟨a, vs, rfl, h1, h2⟩ := gx.sqt
        obtain ⟨a', vs', rfl, h1', h2'⟩ := gy.sqt
        have z1 := RDs.ints e1 h2
        have z2 := RDs.ints e2 h2'
        subst z1 z2
        exact op_leT (by omega) pins s σ H _ _ v u Q I rx ry ⟨_, _, _, _, rfl, rfl, hK ▸ h1, hK ▸ h1', q⟩
      · cases e
    · cases e
  · split at e
    · cases gx; cases gy; cases e
      exact op_ge pins s σ H _ _ v u Q I rx ry ⟨_, _, rfl, rfl, q⟩
    · cases e
  · split at e
    · cases gy
      refine op_isN pins s σ H _ _ v u Q I rx ry ⟨rfl, ?_⟩
      cases gx <;> cases e <;> exact q
    · cases e
  · split at e
    · cases gy
      refine op_notN pins s σ H _ _ v u Q I rx ry ⟨rfl, ?_⟩
      cases gx <;> cases e <;> exact q
    · cases e
  · split at e
    · obtain ⟨p, qs, e1, e2, s1, s2, rfl⟩ := inB_some e
      exact op_inD hu pins s σ H x y v u Q I rx ry ⟨p, qs, hK ▸ RD.dp _ _ _ e1 gx, hK ▸ RD.dp _ _ _ (py_list e2) gy, s1, s2, q⟩
    · obtain ⟨p, qs, e1, e2, rfl⟩ := inT_some e
      obtain ⟨rfl, f1⟩ := RD.flat e1 gx
      obtain ⟨a, vs, rfl, h1, h2⟩ := gy.sqt
      obtain ⟨rfl, f2⟩ := RDs.flat e2 h2
      exact op_in_seq pins s σ H _ _ v u Q I rx ry ⟨a, _, rfl, .inr (hK ▸ h1), f1, f2, q⟩
    · cases gy
      split at e
      · cases gx
        split at e
        · rename_i a _ c hc
          cases e
          have ea : a = ⟨#[c]⟩ := by
            cases a with
            | mk cps =>
              simp only at hc
              have : cps = #[c] := by
                rw [← Array.toArray_toList (xs := cps), hc]
              rw [this]
          subst ea
          exact op_in_sign pins s σ H _ _ v u Q I rx ry ⟨c, _, rfl, rfl, q⟩
        · cases e
      · cases e
    · obtain ⟨o, e', rfl⟩ := map_some e
      obtain ⟨a, rfl, hd⟩ := DicAt.of gy
      obtain ⟨r, hg, ho⟩ := getP_ok e' hd gx
      cases ry
      have hb : o.isSome = r.isSome := by cases ho <;> rfl
      exact d_in (by omega) I hg rx fun s3 I3 => ⟨.bl r.isSome, H, I3, rfl, hb ▸ q⟩
    · cases e
  · split at e
    · obtain ⟨b', e', rfl⟩ := map_some e
      obtain ⟨p, qs, e1, e2, s1, s2, rfl⟩ := inB_some e'
      exact op_notInD hu pins s σ H x y v u Q I rx ry ⟨p, qs, hK ▸ RD.dp _ _ _ e1 gx, hK ▸ RD.dp _ _ _ (py_list e2) gy, s1, s2, q⟩
    · obtain ⟨b', e', rfl⟩ := map_some e
      obtain ⟨p, qs, e1, e2, rfl⟩ := inT_some e'
      obtain ⟨rfl, f1⟩ := RD.flat e1 gx
      obtain ⟨a, vs, rfl, h1, h2⟩ := gy.sqt
      obtain ⟨rfl, f2⟩ := RDs.flat e2 h2
      exact op_notIn_seq pins s σ H _ _ v u Q I rx ry ⟨a, _, rfl, .inr (hK ▸ h1), f1, f2, q⟩
    · obtain ⟨o, e', rfl⟩ := map_some e
      obtain ⟨a, rfl, hd⟩ := DicAt.of gy
      obtain ⟨r, hg, ho⟩ := getP_ok e' hd gx
      cases ry
      have hb : o.isSome = r.isSome := by cases ho <;> rfl
      exact d_notIn (by omega) I hg rx fun s3 I3 => ⟨.bl (!r.isSome), H, I3, rfl, hb ▸ q⟩
    · cases e
end
end IP

/-! IpE -/
set_option Elab.async false
set_option linter.all false
set_option maxRecDepth 100000
set_option maxHeartbeats 4000000
/-! IpE: expressions without calls. -/
namespace IP
open PySem L2 PyProof.Rows

/-- where one stands -/
structure Base (X : Cx) (G : GC) (W : WX) (g : Gl) : Prop where
  hK : X.K = G.K
  hm : X.mg = G.mg
  tk : Takes X W
  units : X.A.units + 65 < cLine
  calm : g.cur = none → X.calm = true
  nd : X.N.Nodup
  slc : g.cur.isNone = true → G.sl = none

abbrev SE (X : Cx) (G : GC) (W : WX) (g : Gl) (e : Expr) (a : E) : Prop := PE X e (tI G W (RD1 G) (ev g a))
abbrev ST (X : Cx) (G : GC) (W : WX) (g : Gl) (e : Expr) (a : E) : Prop := PT X e (tI G W REq (evT g a))
abbrev SA (X : Cx) (G : GC) (W : WX) (g : Gl) (es : List Expr) (as : Es) : Prop := PA X es (tI G W (RDL G) (evs g as))

section
variable {X : Cx} {G : GC} {W : WX} {g : Gl} {a b c : E} {ea eb ec : Expr} {pos : Pos}
theorem se_loc {i : Nat} {x : Str} (hN : X.N[i]? = some x) (hv : Vis X.env.scope x) (hd : (x == ("__debug__" : Str)) = false) (hcd : (x == ("__classdict__" : Str)) = false) : SE X G W g (.Name x pos) (.loc i) := by
  refine (pe_var hN hv hd hcd).imp fun σ H Q h => ?_
  obtain ⟨F, rho, m, e, r, re, hp⟩ := h
  unfold ev at hp
  split at hp
  · rename_i d he
    obtain ⟨v, e1, e2⟩ := re.2.1 i d he
    exact ⟨v, e1, hp.here r e2⟩
  · exact hp.elim
theorem se_const {d : D} {v : V} (h : PE X ea (tC v)) (hr : ∀ rho H, RD G rho H d v) : SE X G W g ea (.con d) := by
  refine h.imp fun σ H Q h => ?_
  obtain ⟨F, rho, m, e, r, re, hp⟩ := h
  unfold ev at hp
  exact hp.here r (hr rho F)
theorem se_gcon {x : String} {d : D} {v : V} (h : PE X ea (tC v)) (hr : ∀ rho H, RD G rho H d v) : SE X G W g ea (.gcon x d) := by
  refine h.imp fun σ H Q h => ?_
  obtain ⟨F, rho, m, e, r, re, hp⟩ := h
  unfold ev at hp
  exact hp.here r (hr rho F)

/-- two in a row -/
theorem two (ha : SE X G W g ea a) (hb : SE X G W g eb b) {pins : List (Addr × Obj)} {s : Shared} {σ : L2.St} {H : Hp} (I : Inv X pins σ H s) {α β : Type} {R : Hp → List Addr → α → β → Prop} {k : D → D → Mem → Res α} {Q : β → Hp → Prop}
    (h : tI G W R (fun e m => (ev g a e m).bind fun x m1 => (ev g b e m1).bind fun y m2 => k x y m2) σ H Q) {γ : Type} {QQ : γ → Shared → Prop} {f : Value → Value → Sem γ}
    (hf : ∀ (v u : Value) (s2 : Shared) (x y : V) (H2 F2 : Hp) (rho2 : List Addr) (m2 : Mem) (dx dy : D), Inv X pins σ H2 s2 → RelV x v → RelV y u → RelM G F2 H2 rho2 m2 → RD G rho2 F2 dx x → RD G rho2 F2 dy y → (∃ F0 rho0, ∃ e, RelE G F0 rho0 e σ) →
      Post G W σ R F2 H2 rho2 (k dx dy m2) Q → wpAny (model X.prog X.w) X.A (f v u) QQ X.xe s2) :
    wpAny (model X.prog X.w) X.A (eval ea X.env) (fun v s₁ => wpAny (model X.prog X.w) X.A (eval eb X.env) (fun u s₂ => wpAny (model X.prog X.w) X.A (f v u) QQ X.xe s₂) X.xe s₁) X.xe s := by
  obtain ⟨F, rho, m, e, r, re, hp⟩ := h
  refine thn (ha.run pins s σ H _ I (tI.mk r re (Post.bind (R1 := RD1 G) hp))) fun v s1 ⟨x, H1, I1, rx, F1, rho1, dx, m1, x1, r1, d1, hp1⟩ => ?_
  refine thn (hb.run pins s1 σ H1 _ I1 (tI.mk r1 (x1.rde r re) (Post.bind (R1 := RD1 G) hp1))) fun u s2 ⟨y, H2, I2, ry, F2, rho2, dy, m2, x2, r2, d2, hp2⟩ => ?_
  exact hf v u s2 x y H2 F2 rho2 m2 dx dy I2 rx ry r2 (x2.rd r1 d1) d2 ⟨F, rho, e, re⟩ hp2

/-! ### and, or, not, tests -/
theorem st_not (h : ST X G W g ea a) : ST X G W g (.UnaryOp .Not ea pos) (.nt a) := by
  refine (pt_not h).imp fun σ H Q hq => ?_
  obtain ⟨F, rho, m, e, r, re, hp⟩ := hq
  unfold evT at hp
  refine tI.mk r re ((Post.bind (R1 := REq) hp).imp fun v H' ⟨F1, rho1, d, m1, x1, r1, rr, hp1⟩ => ?_)
  cases rr
  exact hp1.here r1 rfl
theorem sw_and1 (h : ST X G W g ea a) : PW X (.BoolOp .And [ea] pos) (tI G W REq (evT g a)) := pw_and1 h
theorem sw_and (ha : ST X G W g ea a) {rest : List Expr} (hb : PW X (.BoolOp .And (eb :: rest) pos) (tI G W REq (evT g b))) : PW X (.BoolOp .And (ea :: eb :: rest) pos) (tI G W REq (evT g (.an a b))) := by
  refine (pw_and ha hb).imp fun σ H Q hq => ?_
  obtain ⟨F, rho, m, e, r, re, hp⟩ := hq
  unfold evT at hp
  refine tI.mk r re ((Post.bind (R1 := REq) hp).imp fun v H' ⟨F1, rho1, d, m1, x1, r1, rr, hp1⟩ => ?_)
  cases rr
  cases v with
  | true => exact iteT (tI.mk r1 (x1.rde r re) hp1)
  | false => exact iteF (hp1.here r1 rfl)
theorem sw_or1 (h : ST X G W g ea a) : PW X (.BoolOp .Or [ea] pos) (tI G W REq (evT g a)) := pw_or1 h
theorem sw_or (ha : ST X G W g ea a) {rest : List Expr} (hb : PW X (.BoolOp .Or (eb :: rest) pos) (tI G W REq (evT g b))) : PW X (.BoolOp .Or (ea :: eb :: rest) pos) (tI G W REq (evT g (.orr a b))) := by
  refine (pw_or ha hb).imp fun σ H Q hq => ?_
  obtain ⟨F, rho, m, e, r, re, hp⟩ := hq
  unfold evT at hp
  refine tI.mk r re ((Post.bind (R1 := REq) hp).imp fun v H' ⟨F1, rho1, d, m1, x1, r1, rr, hp1⟩ => ?_)
  cases rr
  cases v with
  | true => exact iteT (hp1.here r1 rfl)
  | false => exact iteF (tI.mk r1 (x1.rde r re) hp1)
theorem se_and (ha : SE X G W g ea a) {rest : List Expr} (hb : SE X G W g (.BoolOp .And (eb :: rest) pos) b) : SE X G W g (.BoolOp .And (ea :: eb :: rest) pos) (.an a b) := by
  refine (pe_and ha hb).imp fun σ H Q hq => ?_
  obtain ⟨F, rho, m, e, r, re, hp⟩ := hq
  unfold ev at hp
  refine tI.mk r re ((Post.bind (R1 := RD1 G) hp).imp fun v H' ⟨F1, rho1, d, m1, x1, r1, rr, hp1⟩ => ?_)
  cases d with
  | bl t =>
    cases rr
    cases t with
    | true => exact ⟨true, rfl, iteT (tI.mk r1 (x1.rde r re) hp1)⟩
    | false => exact ⟨false, rfl, iteF (hp1.here r1 (.bl _))⟩
  | _ => exact hp1.elim
theorem se_or (ha : SE X G W g ea a) {rest : List Expr} (hb : SE X G W g (.BoolOp .Or (eb :: rest) pos) b) : SE X G W g (.BoolOp .Or (ea :: eb :: rest) pos) (.orr a b) := by
  refine (pe_or ha hb).imp fun σ H Q hq => ?_
  obtain ⟨F, rho, m, e, r, re, hp⟩ := hq
  unfold ev at hp
  refine tI.mk r re ((Post.bind (R1 := RD1 G) hp).imp fun v H' ⟨F1, rho1, d, m1, x1, r1, rr, hp1⟩ => ?_)
  cases d with
  | bl t =>
    cases rr
    cases t with
    | true => exact ⟨true, rfl, iteT (hp1.here r1 (.bl _))⟩
    | false => exact ⟨false, rfl, iteF (tI.mk r1 (x1.rde r re) hp1)⟩
  | _ => exact hp1.elim
theorem se_ife (hc : ST X G W g ec c) (ha : SE X G W g ea a) (hb : SE X G W g eb b) : SE X G W g (.IfExp ec ea eb pos) (.ife c a b) := by
  refine (pe_ifExp hc ha hb).imp fun σ H Q hq => ?_
  obtain ⟨F, rho, m, e, r, re, hp⟩ := hq
  unfold ev at hp
  refine tI.mk r re ((Post.bind (R1 := REq) hp).imp fun v H' ⟨F1, rho1, d, m1, x1, r1, rr, hp1⟩ => ?_)
  cases rr
  cases v with
  | true => exact iteT (tI.mk r1 (x1.rde r re) hp1)
  | false => exact iteF (tI.mk r1 (x1.rde r re) hp1)
/-- what is truth of a value -/
theorem truth_ok {G : GC} {rho : List Addr} {H : Hp} {d : D} {v : V} {b : Bool} {K : PySem.W.Frag} (hK : K = G.K) (e : truth d = some b) (h : RD G rho H d v) : TruV K v H b := by
  subst hK
  cases d with
  | non => cases e; cases h; exact rfl
  | bl t => cases e; cases h; exact rfl
  | int i => cases e; cases h; exact rfl
  | str x =>
    simp only [truth] at e
    split at e
    · rename_i hl
      cases e
      cases h
      exact ⟨of_decide_eq_true hl, rfl⟩
    · cases e
  | lst xs =>
    cases e
    obtain ⟨a, vs, rfl, h1, h2⟩ := h.sql
    refine .inl ⟨vs, h1, ?_⟩
    cases h2 <;> rfl
  | tup xs =>
    cases e
    obtain ⟨a, vs, rfl, h1, h2⟩ := h.sqt
    refine .inr (.inl ⟨vs, h1, ?_⟩)
    cases h2 <;> rfl
  | _ => cases e
def plainT : Expr → Bool
  | .UnaryOp .Not _ _ => false
  | .BoolOp _ _ _ => false
  | .IfExp _ _ _ _ => false
  | .Compare _ _ _ _ => false
  | _ => true
theorem isTrue_of {e : Expr} {env : Env} (h : plainT e = true) (whole : Sem Value) : isTrue e env whole = (do let v ← whole; standAt e.pos; holding [v] (truthy v)) := by
  cases e with
  | UnaryOp op x p => cases op <;> first | rfl | cases h
  | _ => first | rfl | cases h
/-- a value as a test -/
theorem st_val (hK : X.K = G.K) (h : SE X G W g ea a) (hp : plainT ea = true) (he : ∀ e m, evT g a e m = (ev g a e m).bind fun x m1 => opt (truth (vw m1 x)) m1) : ST X G W g ea a := by
  refine (pt_truth h (isTrue_of hp)).imp fun σ H Q hq => ?_
  obtain ⟨F, rho, m, e, r, re, hp⟩ := hq
  rw [he] at hp
  refine tI.mk r re ((Post.bind (R1 := RD1 G) hp).imp fun v H' ⟨F1, rho1, d, m1, x1, r1, rr, hp1⟩ => ?_)
  obtain ⟨b, e1, hp2⟩ := Post.opt hp1
  exact ⟨b, truth_ok hK e1 (r1.view rr), hp2.here r1 rfl⟩

/-! ### displays -/
theorem sa_nil : SA X G W g [] .nil := by
  refine pa_nil.imp fun σ H Q hq => ?_
  obtain ⟨F, rho, m, e, r, re, hp⟩ := hq
  unfold evs at hp
  exact hp.here r .nil
def notStar : Expr → Bool
  | .Starred _ _ => false
  | _ => true
theorem starEach_of {e : Expr} {es : List Expr} {env : Env} (h : notStar e = true) : starEach (e :: es) env = (false, eval e env) :: starEach es env := by
  cases e <;> first | rfl | cases h
theorem sa_one {es : List Expr} {as : Es} (ha : SE X G W g ea a) (hs : SA X G W g es as) (hn : notStar ea = true) : SA X G W g (ea :: es) (.one a as) := by
  refine (pa_cons ha hs (starEach_of hn)).imp fun σ H Q hq => ?_
  obtain ⟨F, rho, m, e, r, re, hp⟩ := hq
  unfold evs at hp
  refine tI.mk r re ((Post.bind (R1 := RD1 G) hp).imp fun v H' ⟨F1, rho1, d, m1, x1, r1, rr, hp1⟩ => ?_)
  refine tI.mk r1 (x1.rde r re) ((Post.bind (R1 := RDL G) hp1).imp fun vs H2 ⟨F2, rho2, ds, m2, x2, r2, rr2, hp2⟩ => ?_)
  exact hp2.here r2 (.cons (x2.rd r1 rr) rr2)
theorem sa_star {es : List Expr} {as : Es} {p : Pos} (hK : X.K = G.K) (ha : SE X G W g ea a) (hs : SA X G W g es as) : SA X G W g (.Starred ea p :: es) (.star a as) := by
  refine (StX.pa_star ha hs).imp fun σ H Q hq => ?_
  obtain ⟨F, rho, m, e, r, re, hp⟩ := hq
  unfold evs at hp
  refine tI.mk r re ((Post.bind (R1 := RD1 G) hp).imp fun v H' ⟨F1, rho1, d, m1, x1, r1, rr, hp1⟩ => ?_)
  have key : ∀ {a : Addr} {vs : List V} {ds : List D}, v = .ref a → (SqT X.K H' a vs ∨ SqL X.K H' a vs) → RDs G rho1 F1 ds vs → Post G W σ (RDL G) F1 H' rho1 ((evs g as e m1).bind fun xs m2 => .ok (ds ++ xs) m2) Q → ∃ p xs, v = V.ref p ∧ (SqT X.K H' p xs ∨ SqL X.K H' p xs) ∧ tI G W (RDL G) (evs g as) σ H' fun ys H2 => Q (xs ++ ys) H2 := fun {a vs ds} e1 e2 e3 e4 =>
    ⟨a, vs, e1, e2, tI.mk r1 (x1.rde r re) ((Post.bind (R1 := RDL G) e4).imp fun ws H2 ⟨F2, rho2, es, m2, x2, r2, rr2, hp2⟩ => hp2.here r2 ((x2.rds r1 e3).append rr2))⟩
  dsimp only at hp1
  split at hp1
  · rename_i ys he
    obtain ⟨a, vs, e1, e2, e3⟩ := r1.vwl rr he
    exact key e1 (.inr (SqL.of e2)) e3 hp1
  · rename_i ys he
    obtain ⟨a, vs, e1, e2, _, e3⟩ := r1.vwt rr he
    exact key e1 (.inl (hK ▸ e2)) e3 hp1
  · exact hp1.elim
theorem se_tup {es : List Expr} {as : Es} {x1 : _} (h : SA X G W g es as) : SE X G W g (.Tuple es x1 pos) (.tup as) := by
  refine (pe_tup h).imp fun σ H Q hq => ?_
  obtain ⟨F, rho, m, e, r, re, hp⟩ := hq
  unfold ev at hp
  refine tI.mk r re ((Post.bind (R1 := RDL G) hp).imp fun vs H' ⟨F1, rho1, ds, m1, x1, r1, rr, hp1⟩ => ?_)
  obtain ⟨hl, hp2⟩ := Post.ite hp1
  refine ⟨?_, fun p hp => new_frozen r1 hp2 hp (rd_tup r1 hp rr)⟩
  rw [← RDs.length rr]
  exact of_decide_eq_true hl
/-- a new list: a value, or a cell -/
theorem newL_ok {mu : Bool} {F H : Hp} {rho : List Addr} {m : Mem} {σ : L2.St} {ds : List D} {vs : List V} {Q : VK} {p : Addr} {o : Option HO} (r : RelM G F H rho m) (rr : RDs G rho F ds vs) (hp : H p = none) (h : Post G W σ (RD1 G) F H rho (newL mu ds m) Q) :
    vs.length ≤ sizeLine ∧ Q (.ref p) (upd H p (.lst vs)) := by
  unfold newL at h
  obtain ⟨hl, h2⟩ := Post.ite h
  refine ⟨by rw [← RDs.length rr]; exact of_decide_eq_true hl, ?_⟩
  cases mu with
  | false => exact new_frozen r h2 hp (rd_lst r hp rr)
  | true =>
    have gr : RDs G (rho ++ [p]) F ds vs := RDs.mono (Grow.refl F).sub (Beg.app _ _) ds vs rr
    obtain ⟨r', x⟩ := r.cell (o := .lst vs) (c := .lst ds) hp ⟨vs, upd_same, gr⟩
    refine h2 _ _ _ _ x r' (.ref ?_)
    rw [r.len]
    simp
theorem se_lst {es : List Expr} {as : Es} {mu : Bool} (h : SA X G W g es as) : SE X G W g (.List es pos) (.lst mu as) := by
  refine (pe_lst h).imp fun σ H Q hq => ?_
  obtain ⟨F, rho, m, e, r, re, hp⟩ := hq
  unfold ev at hp
  refine tI.mk r re ((Post.bind (R1 := RDL G) hp).imp fun vs H' ⟨F1, rho1, ds, m1, x1, r1, rr, hp1⟩ => ?_)
  have hl : vs.length ≤ sizeLine := by
    unfold newL at hp1
    rw [← RDs.length rr]
    exact of_decide_eq_true (Post.ite hp1).1
  exact ⟨hl, fun p hp => (newL_ok (o := none) r1 rr hp hp1).2⟩

/-! ### operators -/
/-- the operators of one's own classes -/
structure Own (X : Cx) (G : GC) (W : WX) (g : Gl) : Prop where
  cmp : ∀ {op : CmpOp} {c : String} {fs : List (String × D)} {pins : List (Addr × Obj)} {s : Shared} {σ : L2.St} {H F : Hp} {rho : List Addr} {m : Mem} {dx dy : D} {x y : V} {v u : Value} {Q : Bool → Hp → Prop}, Inv X pins σ H s → RelV x v → RelV y u → RelM G F H rho m → RD G rho F dx x → RD G rho F dy y →
    vw m dx = .ins c fs → Post G W σ REq F H rho (cmpG g op dx dy m) Q → wpAny (model X.prog X.w) X.A (compareOp op v u) (EP X pins σ fun z H' => ∃ k, z = .bl k ∧ Q k H') X.xe s
  bin : ∀ {op : Operator} {c : String} {fs : List (String × D)} {pins : List (Addr × Obj)} {s : Shared} {σ : L2.St} {H F : Hp} {rho : List Addr} {m : Mem} {dx dy : D} {x y : V} {v u : Value} {Q : VK}, Inv X pins σ H s → RelV x v → RelV y u → RelM G F H rho m → RD G rho F dx x → RD G rho F dy y →
    vw m dx = .ins c fs → Post G W σ (RD1 G) F H rho (binG g op dx dy m) Q → wpAny (model X.prog X.w) X.A (binaryOp op v u) (EP X pins σ Q) X.xe s
  neg : ∀ {c : String} {fs : List (String × D)} {pins : List (Addr × Obj)} {s : Shared} {σ : L2.St} {H F : Hp} {rho : List Addr} {m : Mem} {dx : D} {x : V} {v : Value} {Q : VK}, Inv X pins σ H s → RelV x v → RelM G F H rho m → RD G rho F dx x →
    vw m dx = .ins c fs → Post G W σ (RD1 G) F H rho (if g.has c "__neg__" && g.cur.isNone then g.call c "__neg__" [dx] m else .no) Q → wpAny (model X.prog X.w) X.A (unaryOp .USub v) (EP X pins σ Q) X.xe s
  len : ∀ {c : String} {fs : List (String × D)} {pins : List (Addr × Obj)} {s : Shared} {σ : L2.St} {H F : Hp} {rho : List Addr} {m : Mem} {dx : D} {x : V} {v : Value} {Q : VK}, g.cur.isNone = true → Inv X pins σ H s → RelV x v → RelM G F H rho m → RD G rho F dx x →
    vw m dx = .ins c fs → Post G W σ (RD1 G) F H rho (biLen g [dx] m) Q → wpAny (model X.prog X.w) X.A (call (.builtin "len") [v]) (EP X pins σ Q) X.xe s

theorem se_bin (B : Base X G W g) (O : Own X G W g) {op : Operator} (ha : SE X G W g ea a) (hb : SE X G W g eb b) : SE X G W g (.BinOp ea op eb pos) (.bin op a b) := by
  refine ⟨fun pins s σ H Q I h => ?_⟩
  refine wpAny_BinOp (two ha hb I (k := fun x y m2 => binG g op x y m2) (by
    obtain ⟨F, rho, m, e, r, re, hp⟩ := h
    unfold ev at hp
    exact tI.mk r re hp) fun v u s2 x y H2 F2 rho2 m2 dx dy I2 rx ry r2 d1 d2 _ hp => ?_)
  cases hv : vw m2 dx with
  | ins c fs => exact O.bin I2 rx ry r2 d1 d2 hv hp
  | _ =>
    unfold binG at hp
    rw [hv] at hp
    obtain ⟨d, e1, hp2⟩ := Post.opt hp
    rw [← hv] at e1
    exact binP_ok B.hK I2 rx ry r2 d1 d2 e1 hp2
/-- a comparison of two values -/
theorem cmp_ok (B : Base X G W g) (O : Own X G W g) {op : CmpOp} {pins : List (Addr × Obj)} {s : Shared} {σ : L2.St} {H F : Hp} {rho : List Addr} {m : Mem} {dx dy : D} {x y : V} {v u : Value} {Q : Bool → Hp → Prop} (I : Inv X pins σ H s) (rx : RelV x v) (ry : RelV y u)
    (r : RelM G F H rho m) (d1 : RD G rho F dx x) (d2 : RD G rho F dy y) (hp : Post G W σ REq F H rho (cmpG g op dx dy m) Q) : wpAny (model X.prog X.w) X.A (compareOp op v u) (EP X pins σ fun z H' => ∃ k, z = .bl k ∧ Q k H') X.xe s := by
  cases hv : vw m dx with
  | ins c fs => exact O.cmp I rx ry r d1 d2 hv hp
  | _ =>
    unfold cmpG at hp
    rw [hv] at hp
    obtain ⟨d, e1, hp2⟩ := Post.opt hp
    rw [← hv] at e1
    exact cmpP_ok B.hK B.units I rx ry (r.view d1) (r.view d2) e1 ⟨d, rfl, hp2.here r rfl⟩
def notSet : Expr → Bool
  | .Set _ _ _ => false
  | _ => true
theorem nomarkS {op : CmpOp} {b : Expr} (h : notSet b = true) : behindInMarks op b = false := by
  cases b <;> first | rfl | cases h
theorem se_cmp (B : Base X G W g) (O : Own X G W g) {op : CmpOp} (ha : SE X G W g ea a) (hb : SE X G W g eb b) (hm : notSet eb = true) : SE X G W g (.Compare ea [op] [eb] pos) (.cmp op a b) := by
  refine ⟨fun pins s σ H Q I h => ?_⟩
  refine wpAny_Compare1 (two ha hb I (k := fun x y m2 => (cmpG g op x y m2).bind fun b m3 => .ok (D.bl b) m3) (R := RD1 G) (Q := Q) (by
    obtain ⟨F, rho, m, e, r, re, hp⟩ := h
    unfold ev at hp
    exact tI.mk r re hp) fun v u s2 x y H2 F2 rho2 m2 dx dy I2 rx ry r2 d1 d2 _ hp => ?_) (nomarkS hm)
  refine thn (cmp_ok B O I2 rx ry r2 d1 d2 (Post.bind (R1 := REq) hp)) fun z s3 ⟨z', H3, I3, rz, k, ek, F3, rho3, k', m3, x3, r3, ek', hp3⟩ => ?_
  subst ek
  cases ek'
  exact ⟨.bl k, H3, I3, rz, hp3.here r3 (.bl _)⟩
theorem st_cmp (B : Base X G W g) (O : Own X G W g) {op : CmpOp} (ha : SE X G W g ea a) (hb : SE X G W g eb b) (hm : notSet eb = true) : ST X G W g (.Compare ea [op] [eb] pos) (.cmp op a b) := by
  refine ⟨fun pins s σ H Q I h => ?_⟩
  refine wpAny_isTrue_Compare1 (two ha hb I (k := fun x y m2 => (cmpG g op x y m2)) (R := REq) (Q := Q) (by
    obtain ⟨F, rho, m, e, r, re, hp⟩ := h
    refine tI.mk r re ?_
    have e1 : evT g (.cmp op a b) e m = (ev g a e m).bind fun x m1 => (ev g b e m1).bind fun y m2 => cmpG g op x y m2 := by
      have e0 : evT g (.cmp op a b) e m = (ev g (.cmp op a b) e m).bind fun x m1 => opt (truth (vw m1 x)) m1 := by simp only [evT]
      rw [e0, show ev g (.cmp op a b) e m = (ev g a e m).bind fun x m1 => (ev g b e m1).bind fun y m2 => (cmpG g op x y m2).bind fun b m3 => .ok (.bl b) m3 from by rw [ev]]
      cases ev g a e m with
      | ok x m1 =>
        simp only [Res.bind_ok]
        cases ev g b e m1 with
        | ok y m2 =>
          simp only [Res.bind_ok]
          cases cmpG g op x y m2 with
          | ok b m3 => rfl
          | ex _ _ => rfl
          | no => rfl
        | ex _ _ => rfl
        | no => rfl
      | ex _ _ => rfl
      | no => rfl
    rw [e1] at hp
    exact hp) fun v u s2 x y H2 F2 rho2 m2 dx dy I2 rx ry r2 d1 d2 _ hp => ?_) (nomarkS hm)
  refine thn (cmp_ok B O I2 rx ry r2 d1 d2 hp) fun z s3 ⟨z', H3, I3, rz, k, ek, q⟩ => ?_
  subst ek
  cases rz
  exact wpAny_truthy_bool ⟨H3, I3, q⟩
end
end IP

/-! IpF -/
set_option Elab.async false
set_option linter.all false
set_option maxRecDepth 100000
set_option maxHeartbeats 4000000
/-! IpF: chains, signs, items, slices, attributes, isinstance. -/
namespace IP
open PySem L2 PyProof.Rows
theorem RelM.vwi {G : GC} {rho : List Addr} {F H : Hp} {m : Mem} (r : RelM G F H rho m) {d : D} {v : V} {c : String} {fs : List (String × D)} (h : RD G rho F d v) (e : IP.vw m d = .ins c fs) :
    ∃ a C dx fvs, v = .ref a ∧ G.own c = some C ∧ H a = some (.ins C dx fvs) ∧ RDf G rho F fs fvs := by
  cases d with
  | ins c' ys =>
    cases e
    cases h with
    | ins h0 h1 h2 => exact ⟨_, _, _, _, rfl, h0, r.sub.get h1 rfl, h2⟩
  | ref n =>
    cases h with
    | @ref _ a h =>
      have e : (match m[n]? with
        | some (.lst xs) => D.lst xs
        | some (.dic q kvs) => .dic q kvs
        | some (.ins c fs) => .ins c fs
        | _ => .ref n) = .ins c fs := e
      cases q : m[n]? with
      | none =>
        rw [q] at e
        cases e
      | some c =>
        have z := r.cel n a c h q
        rw [q] at e
        cases c with
        | lst ys => cases e
        | dic k kvs => cases e
        | ins c fs =>
          cases e
          obtain ⟨C, dx, fvs, e0, e1, e2⟩ := z
          exact ⟨a, C, dx, fvs, rfl, e0, e1, e2⟩
        | dead => cases e
  | _ => cases e
section
variable {X : Cx} {G : GC} {W : WX} {g : Gl} {a b c : E} {ea eb ec : Expr} {pos : Pos}
theorem evT_cmp2 {op1 op2 : CmpOp} {e : Ev} {m : Mem} : evT g (.cmp2 op1 op2 a b c) e m = (ev g a e m).bind fun x m1 => (ev g b e m1).bind fun y m2 => (cmpG g op1 x y m2).bind fun r m3 => (match r with
    | true => (ev g c e m3).bind fun z m4 => cmpG g op2 y z m4
    | false => .ok false m3) := by
  have e0 : evT g (.cmp2 op1 op2 a b c) e m = (ev g (.cmp2 op1 op2 a b c) e m).bind fun x m1 => opt (truth (vw m1 x)) m1 := by simp only [evT]
  rw [e0]
  rw [ev]
  cases ev g a e m with
  | ok x m1 =>
    simp only [Res.bind_ok]
    cases ev g b e m1 with
    | ok y m2 =>
      simp only [Res.bind_ok]
      cases cmpG g op1 x y m2 with
      | ok r m3 =>
        cases r with
        | true =>
          simp only [Res.bind_ok]
          cases ev g c e m3 with
          | ok z m4 =>
            simp only [Res.bind_ok]
            cases cmpG g op2 y z m4 <;> rfl
          | ex _ _ => rfl
          | no => rfl
        | false => rfl
      | ex _ _ => rfl
      | no => rfl
    | ex _ _ => rfl
    | no => rfl
  | ex _ _ => rfl
  | no => rfl
theorem last2 {op op' : CmpOp} {x y : Expr} (h : notSet y = true) : lastMarks [op, op'] [x, y] = false := by
  show behindInMarks op' y = false
  exact nomarkS h
theorem se_cmp2 (B : Base X G W g) (O : Own X G W g) {op1 op2 : CmpOp} (ha : SE X G W g ea a) (hb : SE X G W g eb b) (hc : SE X G W g ec c) (hm : notSet ec = true) : SE X G W g (.Compare ea [op1, op2] [eb, ec] pos) (.cmp2 op1 op2 a b c) := by
  refine ⟨fun pins s σ H Q I h => ?_⟩
  obtain ⟨F, rho, m, e, r, re, hp⟩ := h
  rw [ev] at hp
  refine Compare_chain (thn (ha.run pins s σ H _ I (tI.mk r re (Post.bind (R1 := RD1 G) hp))) fun v s1 ⟨x, H1, I1, rx, F1, rho1, dx, m1, x1, r1, d1, hp1⟩ => chain_link (thn (hb.run pins s1 σ H1 _ I1 (tI.mk r1 (x1.rde r re) (Post.bind (R1 := RD1 G) hp1))) fun u s2 ⟨y, H2, I2, ry, F2, rho2, dy, m2, x2, r2, d2, hp2⟩ =>
    thn (cmp_ok B O I2 rx ry r2 (x2.rd r1 d1) d2 (Post.bind (R1 := REq) hp2)) fun z s3 ⟨z', H3, I3, rz, k, ek, F3, rho3, k', m3, x3, r3, ek', hp3⟩ => ?_)) (last2 hm)
  subst ek
  cases ek'
  cases rz
  refine wpAny_truthy_bool ?_
  cases k with
  | false => exact ite_ff ⟨.bl false, H3, I3, rfl, hp3.here r3 (.bl _)⟩
  | true =>
    have re3 := x3.rde r2 (x2.rde r1 (x1.rde r re))
    refine ite_tt (chain_last (thn (hc.run pins s3 σ H3 _ I3 (tI.mk r3 re3 (Post.bind (R1 := RD1 G) hp3))) fun w' s4 ⟨z', H4, I4, rz, F4, rho4, dz, m4, x4, r4, d4, hp4⟩ => ?_))
    refine thn (cmp_ok B O I4 ry rz r4 (x4.rd r3 (x3.rd r2 d2)) d4 (Post.bind (R1 := REq) hp4)) fun z s5 ⟨z', H5, I5, rz, k, ek, F5, rho5, k', m5, x5, r5, ek', hp5⟩ => ?_
    subst ek
    cases ek'
    exact ⟨.bl k, H5, I5, rz, hp5.here r5 (.bl _)⟩
theorem st_cmp2 (B : Base X G W g) (O : Own X G W g) {op1 op2 : CmpOp} (ha : SE X G W g ea a) (hb : SE X G W g eb b) (hc : SE X G W g ec c) (hm : notSet ec = true) : ST X G W g (.Compare ea [op1, op2] [eb, ec] pos) (.cmp2 op1 op2 a b c) := by
  refine ⟨fun pins s σ H Q I h => ?_⟩
  obtain ⟨F, rho, m, e, r, re, hp⟩ := h
  rw [evT_cmp2] at hp
  refine isTrue_chain (thn (ha.run pins s σ H _ I (tI.mk r re (Post.bind (R1 := RD1 G) hp))) fun v s1 ⟨x, H1, I1, rx, F1, rho1, dx, m1, x1, r1, d1, hp1⟩ => test_link (thn (hb.run pins s1 σ H1 _ I1 (tI.mk r1 (x1.rde r re) (Post.bind (R1 := RD1 G) hp1))) fun u s2 ⟨y, H2, I2, ry, F2, rho2, dy, m2, x2, r2, d2, hp2⟩ =>
    thn (cmp_ok B O I2 rx ry r2 (x2.rd r1 d1) d2 (Post.bind (R1 := REq) hp2)) fun z s3 ⟨z', H3, I3, rz, k, ek, F3, rho3, k', m3, x3, r3, ek', hp3⟩ => ?_)) (last2 hm)
  subst ek
  cases ek'
  cases rz
  refine wpAny_truthy_bool ?_
  cases k with
  | false => exact ite_ff ⟨H3, I3, hp3.here r3 rfl⟩
  | true =>
    have re3 := x3.rde r2 (x2.rde r1 (x1.rde r re))
    refine ite_tt (test_last (thn (hc.run pins s3 σ H3 _ I3 (tI.mk r3 re3 (Post.bind (R1 := RD1 G) hp3))) fun w' s4 ⟨z', H4, I4, rz, F4, rho4, dz, m4, x4, r4, d4, hp4⟩ => ?_))
    refine thn (cmp_ok B O I4 ry rz r4 (x4.rd r3 (x3.rd r2 d2)) d4 hp4) fun z s5 ⟨z', H5, I5, rz, k, ek, q⟩ => ?_
    subst ek
    cases rz
    exact wpAny_truthy_bool ⟨H5, I5, q⟩
theorem se_neg (O : Own X G W g) (ha : SE X G W g ea a) : SE X G W g (.UnaryOp .USub ea pos) (.neg a) := by
  refine ⟨fun pins s σ H Q I h => ?_⟩
  obtain ⟨F, rho, m, e, r, re, hp⟩ := h
  rw [ev] at hp
  refine UnaryOp_ (thn (ha.run pins s σ H _ I (tI.mk r re (Post.bind (R1 := RD1 G) hp))) fun v s1 ⟨x, H1, I1, rx, F1, rho1, dx, m1, x1, r1, d1, hp1⟩ => ?_)
  have hv0 := r1.view d1
  cases hv : vw m1 dx with
  | ins c fs =>
    dsimp only at hp1
    rw [hv] at hp1
    exact O.neg I1 rx r1 d1 hv hp1
  | int i =>
    dsimp only at hp1
    rw [hv] at hp1 hv0
    cases hv0
    exact un_neg pins s1 σ H1 _ v Q I1 rx ⟨_, rfl, hp1.here r1 (.int _)⟩
  | _ =>
    dsimp only at hp1
    rw [hv] at hp1
    exact hp1.elim

/-! ### items, slices -/
def notSlice : Expr → Bool
  | .Slice _ _ _ _ => false
  | _ => true
theorem plainIx_of {b : Expr} (h : notSlice b = true) : PlainIx b := fun o i => by
  cases b <;> first | rfl | cases h
theorem atI_some {α β : Type} {R : α → β → Prop} {xs : List α} {vs : List β} {i : Int} {d : α} (hl : xs.length = vs.length) (hg : ∀ (j : Nat) (d : α), xs[j]? = some d → ∃ v, vs[j]? = some v ∧ R d v) (e : atI xs i = some d) : ∃ v, atI vs i = some v ∧ R d v := by
  unfold atI at e ⊢
  rw [← hl]
  cases q : ixN xs.length i with
  | none => rw [q] at e; cases e
  | some j =>
    rw [q] at e
    exact hg j d e
theorem se_sub (B : Base X G W g) (ha : SE X G W g ea a) (hb : SE X G W g eb b) (hs : notSlice eb = true) : SE X G W g (.Subscript ea eb pos) (.sub a b) := by
  refine ⟨fun pins s σ H Q I h => ?_⟩
  refine Subscript_ (two ha hb I (k := fun x y m2 => opt (subP (vw m2 x) y) m2) (R := RD1 G) (Q := Q) (by
    obtain ⟨F, rho, m, e, r, re, hp⟩ := h
    rw [ev] at hp
    exact tI.mk r re hp) fun v u s2 x y H2 F2 rho2 m2 dx dy I2 rx ry r2 d1 d2 _ hp => ?_)
  obtain ⟨d, e1, hp2⟩ := Post.opt hp
  have hsb : ∀ v u, subscripted eb false v u = operate [v, u] (getItem v u) := fun v u => plainIx_of hs v u
  unfold subP at e1
  split at e1
  · rename_i xs i ev_
    obtain ⟨p, vs, rfl, h1, h2⟩ := r2.vwl d1 ev_
    cases d2
    obtain ⟨z, e2, e3⟩ := atI_some (R := RD G rho2 F2) h2.length (fun j d q => h2.get q) e1
    exact ix_list ea eb pins s2 σ H2 _ _ v u Q I2 rx ry ⟨p, vs, i, z, rfl, rfl, SqL.of h1, e2, hp2.here r2 e3⟩ (hsb _ _)
  · rename_i xs i ev_
    obtain ⟨p, vs, rfl, h1, _, h2⟩ := r2.vwt d1 ev_
    cases d2
    obtain ⟨z, e2, e3⟩ := atI_some (R := RD G rho2 F2) h2.length (fun j d q => h2.get q) e1
    exact ix_tup ea eb pins s2 σ H2 _ _ v u Q I2 rx ry ⟨p, vs, i, z, rfl, rfl, B.hK ▸ h1, e2, hp2.here r2 e3⟩ (hsb _ _)
  · rename_i xs i ev_
    have ed : dx = .scr xs := vw_of ev_ fun k z => by
      subst z
      rcases vw_ref ev_ with ⟨_, z⟩ | ⟨_, _, z⟩ | ⟨_, _, z⟩ | z <;> cases z
    subst ed
    cases d1 with
    | @scr p o vs _ h1 h2 =>
      cases d2
      obtain ⟨z, e2, e3⟩ := atI_some (R := RD G rho2 F2) h2.length (fun j d q => h2.get q) e1
      exact ix_list ea eb pins s2 σ H2 _ _ v u Q I2 rx ry ⟨p, vs, i, z, rfl, rfl, .inl (.inr ⟨o, r2.sub.get h1 rfl⟩), e2, hp2.here r2 e3⟩ (hsb _ _)
    | @scrK p vs _ h1 h2 =>
      cases d2
      obtain ⟨z, e2, e3⟩ := atI_some (R := RD G rho2 F2) h2.length (fun j d q => h2.get q) e1
      exact ix_list ea eb pins s2 σ H2 _ _ v u Q I2 rx ry ⟨p, vs, i, z, rfl, rfl, B.hK ▸ h1 _, e2, hp2.here r2 e3⟩ (hsb _ _)
  · rename_i z i ev_
    split at e1
    · rename_i hl
      obtain ⟨c, e2, rfl⟩ := map_some e1
      have ed : dx = .str z := vw_of ev_ fun k w => by
        subst w
        rcases vw_ref ev_ with ⟨_, w⟩ | ⟨_, _, w⟩ | ⟨_, _, w⟩ | w <;> cases w
      subst ed
      cases d1
      cases d2
      exact ix_str ea eb pins s2 σ H2 _ _ v u Q I2 rx ry ⟨z, i, c, rfl, rfl, of_decide_eq_true hl, e2, hp2.here r2 (.str _)⟩ (hsb _ _)
    · cases e1
  · rename_i dy' _ _ q kvs ev_
    cases q1 : getP q kvs dy' with
    | none => rw [q1] at e1; cases e1
    | some o =>
      rw [q1] at e1
      cases o with
      | none => cases e1
      | some d' =>
        cases e1
        obtain ⟨p, rfl, hd⟩ := r2.vwd d1 ev_
        obtain ⟨ro, hg, ho⟩ := getP_ok q1 hd (r2.up d2)
        cases ho with
        | som hv =>
          cases (show v = Value.ref p from rx)
          exact tail_any (dict_typeIs I2 hg) PySem.F.slot_dict_getitem.lookup (d_getItem (by have := B.units; omega) I2 hg ry fun w' s3 I3 rw' => ⟨_, H2, I3, rw', hp2.here r2 hv⟩) (hsb _ _)
  · cases e1
/-- a part of a slice -/
theorem po_of {l : Oe} {lo : Option Expr} (h : match l, lo with
    | .non, none => True
    | .som a, some e => SE X G W g e a
    | _, _ => False) : PO X lo (tI G W REq (evI g l)) := by
  cases l with
  | non =>
    cases lo with
    | none =>
      refine ⟨fun pins s σ H Q I hq => po_none.run pins s σ H Q I ?_⟩
      obtain ⟨F, rho, m, e, r, re, hp⟩ := hq
      rw [evI] at hp
      exact hp.here r rfl
    | some e => exact h.elim
  | som a =>
    cases lo with
    | none => exact h.elim
    | some e =>
      refine ⟨fun pins s σ H Q I hq => (po_some h).run pins s σ H Q I ?_⟩
      obtain ⟨F, rho, m, e, r, re, hp⟩ := hq
      rw [evI] at hp
      refine tI.mk r re ((Post.bind (R1 := RD1 G) hp).imp fun v H' ⟨F1, rho1, d, m1, x1, r1, rr, hp1⟩ => ?_)
      cases d with
      | int i =>
        cases rr
        exact ⟨i, rfl, hp1.here r1 rfl⟩
      | _ => exact hp1.elim
theorem cut_rds {rho : List Addr} {H : Hp} {xs : List D} {vs : List V} {lo hi : Option Int} (h : RDs G rho H xs vs) : RDs G rho H (cut xs lo hi) (cutV vs lo hi) := by
  unfold cut cutV
  rw [h.length]
  exact (h.drop _).take _
theorem se_slc (B : Base X G W g) {l h : Oe} {lo hi : Option Expr} {p2 : Pos} (ha : SE X G W g ea a) (hl : PO X lo (tI G W REq (evI g l))) (hh : PO X hi (tI G W REq (evI g h))) : SE X G W g (.Subscript ea (.Slice lo hi none p2) pos) (.slc a l h) := by
  refine (pe_slice (sl_list.or (sl_tupA.or sl_str)) ha hl hh).imp fun σ H Q hq => ?_
  obtain ⟨F, rho, m, e, r, re, hp⟩ := hq
  rw [ev] at hp
  refine tI.mk r re ((Post.bind (R1 := RD1 G) hp).imp fun v H1 ⟨F1, rho1, d, m1, x1, r1, rr, hp1⟩ => ?_)
  refine tI.mk r1 (x1.rde r re) ((Post.bind (R1 := REq) hp1).imp fun lo' H2 ⟨F2, rho2, lo2, m2, x2, r2, e2, hp2⟩ => ?_)
  cases e2
  refine tI.mk r2 (x2.rde r1 (x1.rde r re)) ((Post.bind (R1 := REq) hp2).imp fun hi' H3 ⟨F3, rho3, hi2, m3, x3, r3, e3, hp3⟩ => ?_)
  cases e3
  have rr3 := x3.rd r2 (x2.rd r1 rr)
  obtain ⟨z, ez, hp4⟩ := Post.opt hp3
  unfold slcP at ez
  split at ez
  · rename_i xs ev_
    cases ez
    obtain ⟨p, vs, rfl, h1, h2⟩ := r3.vwl rr3 ev_
    exact .inl ⟨p, vs, rfl, SqL.of h1, fun p hp => new_frozen r3 hp4 hp (rd_lst r3 hp (cut_rds h2))⟩
  · rename_i xs ev_
    cases ez
    obtain ⟨p, vs, rfl, h1, _, h2⟩ := r3.vwt rr3 ev_
    refine .inr (.inl ⟨p, vs, rfl, B.hK ▸ h1, fun hw => ?_, fun _ p hp => new_frozen r3 hp4 hp (rd_tup r3 hp (cut_rds h2))⟩)
    have ed := vw_tup ev_
    subst ed
    have ec : cut xs lo' hi' = xs := by
      unfold cut
      rw [h2.length, hw.1, hw.2]
      rw [List.drop_zero, Nat.sub_zero, ← h2.length, List.take_length]
    rw [ec] at hp4
    exact hp4.here r3 rr3
  · rename_i x ev_
    split at ez
    · rename_i hl
      cases ez
      have ed : d = .str x := vw_of ev_ fun k w => by
        subst w
        rcases vw_ref ev_ with ⟨_, w⟩ | ⟨_, _, w⟩ | ⟨_, _, w⟩ | w <;> cases w
      subst ed
      cases rr3
      exact .inr (.inr ⟨x, rfl, of_decide_eq_true hl, hp4.here r3 (.str _)⟩)
    · cases ez
  · cases ez
theorem RDs.rev {rho : List Addr} {H : Hp} : ∀ {xs : List D} {vs : List V}, RDs G rho H xs vs → RDs G rho H xs.reverse vs.reverse
  | _, _, .nil => .nil
  | _, _, .cons h t => by
    rw [List.reverse_cons, List.reverse_cons]
    exact (RDs.rev t).append (.cons h .nil)
theorem se_rev {k : Nat} {p1 p2 p3 : Pos} (ha : SE X G W g ea a) : SE X G W g (.Subscript ea (.Slice none none (some (.UnaryOp .USub (.Constant (.int 1) k p1) p2)) p3) pos) (.rev a) := by
  refine (pe_revL ha).imp fun σ H Q hq => ?_
  obtain ⟨F, rho, m, e, r, re, hp⟩ := hq
  rw [ev] at hp
  refine tI.mk r re ((Post.bind (R1 := RD1 G) hp).imp fun v H1 ⟨F1, rho1, d, m1, x1, r1, rr, hp1⟩ => ?_)
  dsimp only at hp1
  split at hp1
  · rename_i xs ev_
    obtain ⟨p, vs, rfl, h1, h2⟩ := r1.vwl rr ev_
    exact ⟨p, vs, rfl, SqL.of h1, fun p hp => new_frozen r1 hp1 hp (rd_lst r1 hp h2.rev)⟩
  · exact hp1.elim

/-! ### attributes -/
/-- what the written part says of a class's attribute -/
def AttF (G : GC) (f : String) : Prop := ∀ c C, G.own c = some C → Cls G.K C ∧ NoAttr G.K C (Str.ofString f)
def baseOk : Expr → Bool
  | .Call (.Name _ _) [] [] _ => false
  | _ => true
theorem base_of {e : Expr} {f : Str} {env : Env} (h : baseOk e = true) : attributeBase e f env (eval e env) = eval e env := by
  unfold attributeBase
  split
  · cases h
  · rfl
theorem se_att (B : Base X G W g) {f : String} (hf : AttF G f) (ha : SE X G W g ea a) (hb : baseOk ea = true) : SE X G W g (.Attribute ea (Str.ofString f) pos) (.att a f) := by
  refine (pe_fld ha (base_of hb)).imp fun σ H Q hq => ?_
  obtain ⟨F, rho, m, e, r, re, hp⟩ := hq
  rw [ev] at hp
  refine tI.mk r re ((Post.bind (R1 := RD1 G) hp).imp fun v H1 ⟨F1, rho1, d, m1, x1, r1, rr, hp1⟩ => ?_)
  obtain ⟨z, ez, hp2⟩ := Post.opt hp1
  unfold attG at ez
  split at ez
  · rename_i c fs ev_
    obtain ⟨p, C, dx, fvs, rfl, hC, h1, h2⟩ := r1.vwi rr ev_
    obtain ⟨y, e1, e2⟩ := RDf.lookup (fun _ _ => ofString_inj) f h2 ez
    obtain ⟨g1, g2⟩ := hf c C hC
    exact ⟨p, C, dx, fvs, y, rfl, h1, B.hK ▸ g1, B.hK ▸ g2, e1, hp2.here r1 e2⟩
  · cases ez
end
end IP

/-! IpG -/
set_option Elab.async false
set_option linter.all false
set_option maxRecDepth 100000
set_option maxHeartbeats 4000000
/-! IpG: isinstance, built-in calls. -/
namespace IP
open PySem L2 PyProof.Rows

def tagL : List String := ["NoneType", "bool", "int", "str", "list", "tuple", "dict"]
def btyL : List String := ["int", "bool", "str", "list", "tuple", "dict"]
/-- what is true of the plain classes of the text -/
structure Facts (G : GC) : Prop where
  cls : ∀ {c : String} {C : Addr}, G.own c = some C → Cls G.K C
  ha : ∀ {c : String} {C : Addr}, G.own c = some C → PySem.W.findIn G.K (.ref C) "__class__" = some (some (.builtin "object.__class__"))
  hn : PySem.W.specialIn G.K (.builtin "object.__class__") "__get__" = some (some (.builtin "getset_descriptor.__get__"))
  htk : PySem.W.takesIn G.K (.builtin "object.__class__") = some true
  hm : ∀ {c : String} {C : Addr}, G.own c = some C → PySem.W.mroIn G.K C (.type "object") = some true
  kit1 : ∀ {c : String} {C : Addr} {a : String}, G.own c = some C → a ∈ tagL → PySem.W.kitOne G.K (.type a) (.ref C) = some false
  kit2 : ∀ {c : String} {C : Addr} {b : String}, G.own c = some C → b ∈ btyL → PySem.W.kitOne G.K (.ref C) (.type b) = some false
  kit3 : ∀ {c c' : String} {C C' : Addr}, G.own c = some C → G.own c' = some C' → PySem.W.kitOne G.K (.ref C') (.ref C) = some (c == c')
/-- a class as my expressions name it -/
inductive TyV (G : GC) : Ty → V → Value → Prop
  | bt {n : String} : n ∈ btyL → TyV G (.bt n) (.ty n) (.type n)
  | own {c : String} {C : Addr} : G.own c = some C → TyV G (.own c) (.ref C) (.ref C)
theorem TyV.cls {G : GC} {t : Ty} {v : V} {u : Value} (h : TyV G t v u) : ClsV v u := by
  cases h with
  | bt _ => exact .ty _
  | own _ => exact .own _
/-- a value's type, with locked dicts -/
inductive TyY (K : PySem.W.Frag) (H : Hp) : V → Value → Prop
  | x {x : V} {t : Value} : TyX K H x t → TyY K H x t
  | fT {a : Addr} {o : Obj} {kvs : List (List Key × V)} : H a = some (.frz o (.dT kvs)) → TyY K H (.ref a) (.type "dict")
theorem kit_ofY {X : Cx} {pins : List (Addr × Obj)} {σ : L2.St} {H : Hp} {s : Shared} {x : V} {u t : Value} (I : Inv X pins σ H s) (rx : RelV x u) (ty : TyY X.K H x t) : ∃ P : Heap → Prop, PySem.W.KitX X.K u t P ∧ P s.heap ∧ u ≠ .builtin "__main__.__loader__#opaque" := by
  cases ty with
  | x h => exact kit_of I rx h
  | @fT a ob kvs ea =>
    cases (show u = Value.ref a from rx)
    obtain ⟨_, _, _, xs, _, o, es, ep, h1, h2, _⟩ := (show ObjOk X.prog X.w H s.heap a (.frz ob (.dT kvs)) from I.hok a _ ea)
    exact ⟨_, PySem.W.kitx_dict, ⟨o, h1, h2.1⟩, fun z => nomatch z⟩
theorem call_isiY {X : Cx} {pins : List (Addr × Obj)} {σ : L2.St} {H : Hp} {s : Shared} {x c : V} {t u v w : Value} {b : Bool} {Q : VK} (I : Inv X pins σ H s) (r1 : RelV x v) (r2 : RelV c w) (k : ClsV c u) (ty : TyY X.K H x t) (e : PySem.W.kitOne X.K t u = some b) (q : Q (.bl b) H) :
    wpAny (model X.prog X.w) X.A (call (.builtin "isinstance") [v, w]) (EP X pins σ Q) X.xe s := by
  have e2 := k.eq r2
  subst e2
  obtain ⟨P, Z, p, hx⟩ := kit_ofY I r1 ty
  exact PySem.W.kia_one Z I.kIn p e hx fun tk => ⟨.bl b, H, I.tok tk, rfl, q⟩
theorem call_isiTY {X : Cx} {pins : List (Addr × Obj)} {σ : L2.St} {H : Hp} {s : Shared} {x : V} {tp : Addr} {cs : List V} {t v : Value} {us : List Value} {b : Bool} {Q : VK} (I : Inv X pins σ H s) (r1 : RelV x v) (hT : H tp = some (.tup cs)) (k : Paired ClsV cs us) (ty : TyY X.K H x t)
    (e : PySem.W.kitAny X.K t us = some b) (q : Q (.bl b) H) : wpAny (model X.prog X.w) X.A (call (.builtin "isinstance") [v, .ref tp]) (EP X pins σ Q) X.xe s := by
  obtain ⟨P, Z, p, hx⟩ := kit_ofY I r1 ty
  obtain ⟨_, its, rv, o, h1, h2, n, h3⟩ := (show ObjOk X.prog X.w H s.heap tp (.tup cs) from I.hok tp _ hT)
  have e3 := ClsV.all k rv
  subst e3
  obtain ⟨oc, od, dt, sl⟩ := o
  simp only at h2 h3
  subst h2 h3
  exact PySem.W.kia_tup Z I.kIn p h1 e hx fun tk => ⟨.bl b, H, I.tok tk, rfl, q⟩
/-- the built-in types among each other -/
def kitTab : Bool := tagL.all fun a => btyL.all fun b => kitB a b == some (b == a || (a == "bool" && b == "int"))
theorem kitTab_ok : kitTab = true := by decide +kernel
theorem kit_tab {K : PySem.W.Frag} {a b : String} (ha : a ∈ tagL) (hb : b ∈ btyL) : PySem.W.kitOne K (.type a) (.type b) = some (b == a || (a == "bool" && b == "int")) := by
  have h := kitTab_ok
  unfold kitTab at h
  have h1 := List.all_eq_true.mp (List.all_eq_true.mp h a ha) b hb
  exact kit_ty (by simpa using h1)

section
variable {G : GC} {F H : Hp} {rho : List Addr} {m : Mem}
/-- the type of what has one -/
theorem isTy_tag (Fa : Facts G) (r : RelM G F H rho m) {d : D} {v : V} (h : RD G rho F d v) (hs : ∃ t b, isTy m d t = some b) : ∃ tag, TyY G.K H v tag ∧ ∀ t b cv cu, isTy m d t = some b → TyV G t cv cu → PySem.W.kitOne G.K tag cu = some b := by
  have gv := r.view h
  have tg : ∀ (a : String), a ∈ tagL → (∀ n b, n ∈ btyL → isTy m d (.bt n) = some b → b = (n == a || (a == "bool" && n == "int"))) → (∀ c b, isTy m d (.own c) = some b → b = false) → TyY G.K H v (.type a) →
      ∃ tag, TyY G.K H v tag ∧ ∀ t b cv cu, isTy m d t = some b → TyV G t cv cu → PySem.W.kitOne G.K tag cu = some b := fun a ha h1 h2 ty => ⟨_, ty, fun t b cv cu e tv => by
    cases tv with
    | bt hn => rw [kit_tab ha hn, h1 _ _ hn e]
    | own hc => rw [Fa.kit1 hc ha, h2 _ _ e]⟩
  cases hv : vw m d with
  | non =>
    rw [hv] at gv
    cases gv
    refine tg "NoneType" (by decide) (fun n b hn e => ?_) (fun c b e => ?_) (.x (.base .non))
    · simp only [isTy, hv] at e; cases e
      revert hn; revert n; decide
    · simp only [isTy, hv] at e; cases e; rfl
  | bl x =>
    rw [hv] at gv
    cases gv
    refine tg "bool" (by decide) (fun n b hn e => ?_) (fun c b e => ?_) (.x (.base (.bl _)))
    · simp only [isTy, hv] at e; cases e
      revert hn; revert n; decide
    · simp only [isTy, hv] at e; cases e; rfl
  | int x =>
    rw [hv] at gv
    cases gv
    refine tg "int" (by decide) (fun n b hn e => ?_) (fun c b e => ?_) (.x (.base (.int _)))
    · simp only [isTy, hv] at e; cases e
      revert hn; revert n; decide
    · simp only [isTy, hv] at e; cases e; rfl
  | str x =>
    rw [hv] at gv
    cases gv
    refine tg "str" (by decide) (fun n b hn e => ?_) (fun c b e => ?_) (.x (.base (.str _)))
    · simp only [isTy, hv] at e; cases e
      revert hn; revert n; decide
    · simp only [isTy, hv] at e; cases e; rfl
  | lst xs =>
    rw [hv] at gv
    refine tg "list" (by decide) (fun n b hn e => ?_) (fun c b e => ?_) ?_
    · simp only [isTy, hv] at e; cases e
      revert hn; revert n; decide
    · simp only [isTy, hv] at e; cases e; rfl
    · cases gv with
      | lst h1 _ => exact .x (.base (.lst h1))
  | scr xs =>
    obtain ⟨t, b, e⟩ := hs
    cases t <;> (simp only [isTy, hv] at e; cases e)
  | tup xs =>
    rw [hv] at gv
    refine tg "tuple" (by decide) (fun n b hn e => ?_) (fun c b e => ?_) ?_
    · simp only [isTy, hv] at e; cases e
      revert hn; revert n; decide
    · simp only [isTy, hv] at e; cases e; rfl
    · cases gv with
      | tup h1 _ => exact .x (.base (.tup h1))
      | tupK h1 =>
        rcases h1 (fun _ => none) with z | ⟨o, its, n, e1, e2, _⟩
        · rcases z with z | ⟨o, z⟩ <;> cases z
        · exact .x (.kTuple e1 e2)
  | dic q xs =>
    rw [hv] at gv
    refine tg "dict" (by decide) (fun n b hn e => ?_) (fun c b e => ?_) ?_
    · simp only [isTy, hv] at e; cases e
      revert hn; revert n; decide
    · simp only [isTy, hv] at e; cases e; rfl
    · cases gv with
      | dicK h1 _ =>
        rcases h1 with h1 | ⟨o, h1⟩
        · exact .x (.base (.dK h1))
        · exact .x (.fDict h1)
      | dicT h1 _ =>
        rcases h1 with h1 | ⟨o, h1⟩
        · exact .x (.base (.dT h1))
        · exact .fT h1
  | ins c fs =>
    rw [hv] at gv
    cases gv with
    | @ins _ C a dx _ fvs h0 h1 h2 =>
      refine ⟨.ref C, .x (.base (.ins h1 (Fa.cls h0) (Fa.ha h0) Fa.hn Fa.htk (Fa.hm h0))), fun t b cv cu e tv => ?_⟩
      cases tv with
      | bt hn =>
        simp only [isTy, hv] at e; cases e
        exact Fa.kit2 h0 hn
      | own hc =>
        simp only [isTy, hv] at e; cases e
        exact Fa.kit3 hc h0
  | cls c =>
    obtain ⟨t, b, e⟩ := hs
    cases t <;> (simp only [isTy, hv] at e; cases e)
  | ref n =>
    obtain ⟨t, b, e⟩ := hs
    cases t <;> (simp only [isTy, hv] at e; cases e)
end

section
variable {X : Cx} {G : GC} {W : WX} {g : Gl} {a b c : E} {ea eb ec : Expr} {pos : Pos}
/-- names of classes -/
def tCs (cs : List V) : TA := fun _ H Q => Q cs H
theorem pa_cs : ∀ {es : List Expr} {cs : List V}, Paired (fun e v => PE X e (tC v) ∧ notStar e = true) es cs → PA X es (tCs cs)
  | _, _, .nil => pa_nil
  | e :: es, v :: cs, .cons h t => by
    refine (pa_cons h.1 (pa_cs t) (starEach_of h.2)).imp fun σ H Q hq => ?_
    exact hq
/-- the one of a value's types -/
theorem isAny_ok (Fa : Facts G) {F H : Hp} {rho : List Addr} {m : Mem} (r : RelM G F H rho m) {d : D} {tag : Value} (hk : ∀ t b cv cu, isTy m d t = some b → TyV G t cv cu → PySem.W.kitOne G.K tag cu = some b) :
    ∀ {ts : List Ty} {cs : List V} {us : List Value} {b : Bool}, isAny m d ts = some b → Paired (fun (t : Ty) (c : V × Value) => TyV G t c.1 c.2) ts (cs.zip us) → cs.length = us.length → PySem.W.kitAny G.K tag us = some b
  | [], [], [], b, e, _, _ => by cases e; rfl
  | [], _ :: _, _ :: _, _, _, h, _ => by cases h
  | [], [], _ :: _, _, _, _, z => by cases z
  | [], _ :: _, [], _, _, _, z => by cases z
  | t :: ts, [], us, _, _, h, _ => by cases h
  | t :: ts, c :: cs, [], _, _, h, _ => by cases h
  | t :: ts, c :: cs, u :: us, b, e, h, z => by
    cases h with
    | cons h1 h2 =>
      unfold isAny at e
      cases e1 : isTy m d t with
      | none => rw [e1] at e; cases e
      | some b1 =>
        cases e2 : isAny m d ts with
        | none => rw [e1, e2] at e; cases e
        | some b2 =>
          rw [e1, e2] at e
          cases e
          refine kitAny_cons (b := b1) (hk _ _ _ _ e1 h1) (fun q => ?_) (fun q => ?_)
          · subst q
            rw [Bool.false_or]
            exact isAny_ok Fa r hk e2 h2 (by simpa using z)
          · subst q
            rfl
theorem isAny_one {m : Mem} {d : D} : ∀ {ts : List Ty} {b : Bool}, isAny m d ts = some b → ts ≠ [] → ∃ t b, isTy m d t = some b
  | [], _, _, h => absurd rfl h
  | t :: ts, b, e, _ => by
    unfold isAny at e
    cases e1 : isTy m d t with
    | none => rw [e1] at e; cases e
    | some b1 => exact ⟨t, b1, e1⟩
theorem se_isi {ty : Ty} {cv : V} {cu : Value} {p : Pos} (Fa : Facts G) (B : Base X G W g) (hg : L2.Gl X "isinstance") (hm : X.mg "isinstance" = none) (ha : SE X G W g ea a) (hs : notStar ea = true) (hc : PE X ec (tC cv)) (hs2 : notStar ec = true) (tv : TyV G ty cv cu) :
    SE X G W g (.Call (.Name "isinstance" p) [ea, ec] [] pos) (.isi a [ty]) := by
  refine ⟨fun pins s σ H Q I h => ?_⟩
  obtain ⟨F, rho, m, e, r, re, hp⟩ := h
  rw [ev] at hp
  refine wpAny_Call_Name_kw (ld_blt I hg hm (by decide +kernel : bootBuiltins "isinstance" = some (.builtin "isinstance")) ?_ (by decide) (by decide))
  have pa := pa_cons (te := tI G W (RD1 G) (ev g a)) ha (pa_cs (.cons ⟨hc, hs2⟩ .nil)) (starEach_of hs)
  refine PyProof.Rows.callWith_builtin1 (thn (pa.run pos pins s σ H (fun vs H' => ∃ x, vs = [x, cv] ∧ At G (RD1 G) F H rho x H' fun F1 rho1 d m1 => Post G W σ (RD1 G) F1 H' rho1 (opt ((isAny m1 d [ty]).map .bl) m1) Q) I (tI.mk r re ((Post.bind (R1 := RD1 G) hp).imp fun x H' q => ⟨x, rfl, q⟩))) fun us s1 ⟨vs, H1, I1, r1, x, ev_, q1⟩ => ?_) (starEach_of hs) ?_
  · subst ev_
    obtain ⟨u1, u2, rfl, ra, rc⟩ := vals2 r1
    obtain ⟨F1, rho1, d, m1, x1, rm1, rr, hp1⟩ := q1
    obtain ⟨d', e1, hp2⟩ := Post.opt hp1
    obtain ⟨b, e2, rfl⟩ := map_some e1
    obtain ⟨tag, ty', hk⟩ := isTy_tag Fa rm1 rr (isAny_one e2 (by simp))
    have e3 : isTy m1 d ty = some b := by
      unfold isAny at e2
      cases q : isTy m1 d ty with
      | none => rw [q] at e2; cases e2
      | some b1 =>
        rw [q] at e2
        unfold isAny at e2
        cases e2
        rw [Bool.or_false]
    exact call_isiY I1 ra rc tv.cls (B.hK ▸ ty') (B.hK ▸ hk _ _ _ _ e3 tv) (hp2.here rm1 (.bl _))
  · rw [starEach_of hs2]
    rfl
theorem se_isiT {tys : List Ty} {cs : List V} {us : List Value} {es : List Expr} {kk : Nat} {p p2 : Pos} (Fa : Facts G) (B : Base X G W g) (hg : L2.Gl X "isinstance") (hm : X.mg "isinstance" = none) (ha : SE X G W g ea a) (hs : notStar ea = true)
    (hc : Paired (fun e v => PE X e (tC v) ∧ notStar e = true) es cs) (tv : Paired (fun (t : Ty) (c : V × Value) => TyV G t c.1 c.2) tys (cs.zip us)) (hl : cs.length = us.length) (hne : tys ≠ []) (hsz : cs.length ≤ sizeLine) :
    SE X G W g (.Call (.Name "isinstance" p) [ea, .Tuple es kk p2] [] pos) (.isi a tys) := by
  refine ⟨fun pins s σ H Q I h => ?_⟩
  obtain ⟨F, rho, m, e, r, re, hp⟩ := h
  rw [ev] at hp
  refine wpAny_Call_Name_kw (ld_blt I hg hm (by decide +kernel : bootBuiltins "isinstance" = some (.builtin "isinstance")) ?_ (by decide) (by decide))
  have pa := pa_cons (te := tI G W (RD1 G) (ev g a)) ha (pa_cons (pe_tup (pos := p2) (x1 := kk) (pa_cs hc)) pa_nil (starEach_of rfl)) (starEach_of hs)
  refine PyProof.Rows.callWith_builtin1 (thn (pa.run pos pins s σ H (fun vs H' => ∃ x tp, vs = [x, .ref tp] ∧ H' tp = some (.tup cs) ∧ At G (RD1 G) F H rho x H' fun F1 rho1 d m1 => Post G W σ (RD1 G) F1 H' rho1 (opt ((isAny m1 d tys).map .bl) m1) Q) I (tI.mk r re ((Post.bind (R1 := RD1 G) hp).imp fun x H' q => ⟨hsz, fun tp htp => ?_⟩))) fun us s1 ⟨vs, H1, I1, r1, x, tp, ev_, ht, q1⟩ => ?_) (starEach_of hs) rfl
  · refine ⟨x, tp, rfl, upd_same, ?_⟩
    obtain ⟨F1, rho1, d, m1, x1, rm1, rr, hp1⟩ := q
    obtain ⟨rm2, x2⟩ := rm1.frozen (o := .tup cs) htp
    exact ⟨_, _, d, m1, x1.trans x2, rm2, x2.rd rm1 rr, hp1.ext x2⟩
  · subst ev_
    obtain ⟨u1, u2, rfl, ra, rc⟩ := vals2 r1
    obtain ⟨F1, rho1, d, m1, x1, rm1, rr, hp1⟩ := q1
    obtain ⟨d', e1, hp2⟩ := Post.opt hp1
    obtain ⟨b, e2, rfl⟩ := map_some e1
    obtain ⟨tag, ty', hk⟩ := isTy_tag Fa rm1 rr (isAny_one e2 hne)
    cases rc
    have pc : ∀ {tys : List Ty} {cs : List V} {us : List Value}, Paired (fun (t : Ty) (c : V × Value) => TyV G t c.1 c.2) tys (cs.zip us) → cs.length = us.length → Paired ClsV cs us := by
      intro tys cs
      induction cs generalizing tys with
      | nil =>
        intro us h z
        cases us with
        | nil => exact .nil
        | cons _ _ => cases z
      | cons c cs ih =>
        intro us h z
        cases us with
        | nil => cases z
        | cons u us =>
          cases h with
          | cons h1 h2 => exact .cons h1.cls (ih h2 (by simpa using z))
    exact call_isiTY I1 ra ht (pc tv hl) (B.hK ▸ ty') (B.hK ▸ isAny_ok Fa rm1 hk e2 tv hl) (hp2.here rm1 (.bl _))

/-! ### built-in calls by values -/
/-- what a built-in does with values -/
def BiR (X : Cx) (G : GC) (W : WX) (f : Value) (k : List D → Mem → Res D) : Prop :=
  ∀ (pins : List (Addr × Obj)) (s : Shared) (σ : L2.St) (H F : Hp) (rho : List Addr) (m : Mem) (ds : List D) (vs : List V) (us : List Value) (Q : VK), Inv X pins σ H s → Vals vs us → RelM G F H rho m → RDs G rho F ds vs →
    Post G W σ (RD1 G) F H rho (k ds m) Q → wpAny (model X.prog X.w) X.A (call f us) (EP X pins σ Q) X.xe s
theorem se_callB {x : Str} {id : String} {p : Pos} {es : List Expr} {as : Es} {k : List D → Mem → Res D} {E : E} (hc : BiR X G W (.builtin id) k) (hg : L2.Gl X x) (hm : X.mg x = none) (hv : bootBuiltins x = some (.builtin id)) (ha : SA X G W g (ea :: es) as)
    (hn : x ≠ "__name__") (hdb : (x == ("__debug__" : Str)) = false) (he : notStar ea = true) (hpl : (backTo pos (starEach es X.env)).any (·.1) = false)
    (hE : ∀ e m, ev g E e m = (evs g as e m).bind fun vs m1 => k vs m1) : SE X G W g (.Call (.Name x p) (ea :: es) [] pos) E := by
  refine ⟨fun pins s σ H Q I h => ?_⟩
  obtain ⟨F, rho, m, e, r, re, hp⟩ := h
  rw [hE] at hp
  refine wpAny_Call_Name_kw (ld_blt I hg hm hv ?_ hn hdb)
  refine PyProof.Rows.callWith_builtin1 (thn (ha.run pos pins s σ H _ I (tI.mk r re (Post.bind (R1 := RDL G) hp))) fun us s1 ⟨vs, H1, I1, r1, F1, rho1, ds, m1, x1, rm1, rr, hp1⟩ => ?_) (starEach_of he) hpl
  exact hc pins s1 σ H1 F1 rho1 m1 ds vs us Q I1 r1 rm1 rr hp1
theorem se_callTy {x : Str} {T : String} {p : Pos} {es : List Expr} {as : Es} {k : List D → Mem → Res D} {E : E} (hc : BiR X G W (.type T) k) (hg : L2.Gl X x) (hm : X.mg x = none) (hv : bootBuiltins x = some (.type T)) (ha : SA X G W g (ea :: es) as)
    (hn : x ≠ "__name__") (hdb : (x == ("__debug__" : Str)) = false) (he : notStar ea = true) (hpl : (backTo pos (starEach es X.env)).any (·.1) = false)
    (hE : ∀ e m, ev g E e m = (evs g as e m).bind fun vs m1 => k vs m1) : SE X G W g (.Call (.Name x p) (ea :: es) [] pos) E := by
  refine ⟨fun pins s σ H Q I h => ?_⟩
  obtain ⟨F, rho, m, e, r, re, hp⟩ := h
  rw [hE] at hp
  refine wpAny_Call_Name_kw (ld_blt I hg hm hv ?_ hn hdb)
  refine PyProof.Rows.callWith_type1 (thn (ha.run pos pins s σ H _ I (tI.mk r re (Post.bind (R1 := RDL G) hp))) fun us s1 ⟨vs, H1, I1, r1, F1, rho1, ds, m1, x1, rm1, rr, hp1⟩ => ?_) (starEach_of he) hpl
  exact hc pins s1 σ H1 F1 rho1 m1 ds vs us Q I1 r1 rm1 rr hp1
theorem one_of {G : GC} {rho : List Addr} {F : Hp} {d : D} {vs : List V} (h : RDs G rho F [d] vs) : ∃ v, vs = [v] ∧ RD G rho F d v := by
  cases h with
  | cons h t => cases t; exact ⟨_, rfl, h⟩
theorem two_of {G : GC} {rho : List Addr} {F : Hp} {d d' : D} {vs : List V} (h : RDs G rho F [d, d'] vs) : ∃ v v', vs = [v, v'] ∧ RD G rho F d v ∧ RD G rho F d' v' := by
  cases h with
  | cons h t =>
    cases t with
    | cons h' t => cases t; exact ⟨_, _, rfl, h, h'⟩
theorem bi_len (B : Base X G W g) (O : Own X G W g) (hc : g.cur.isNone = true) : BiR X G W (.builtin "len") (biLen g) := by
  intro pins s σ H F rho m ds vs us Q I rv r rd h
  unfold biLen at h
  split at h
  · obtain ⟨v, rfl, rr⟩ := one_of rd
    split at h
    · rename_i xs ev_
      obtain ⟨a, ws, rfl, h1, h2⟩ := r.vwl rr ev_
      exact call_len_seq pins s σ H _ us Q I rv ⟨a, ws, rfl, .inl (SqL.of h1), by rw [← h2.length]; exact h.here r (.int _)⟩
    · rename_i xs ev_
      obtain ⟨a, ws, rfl, h1, _, h2⟩ := r.vwt rr ev_
      exact call_len_seq pins s σ H _ us Q I rv ⟨a, ws, rfl, .inr (B.hK ▸ h1), by rw [← h2.length]; exact h.here r (.int _)⟩
    · rename_i xs ev_
      have ed : _ = D.scr xs := vw_of ev_ fun k w => by
        subst w
        rcases vw_ref ev_ with ⟨_, w⟩ | ⟨_, _, w⟩ | ⟨_, _, w⟩ | w <;> cases w
      subst ed
      cases rr with
      | @scr a o ws _ h1 h2 =>
        exact call_len_seq pins s σ H _ us Q I rv ⟨a, ws, rfl, .inl (.inl (.inr ⟨o, r.sub.get h1 rfl⟩)), by rw [← h2.length]; exact h.here r (.int _)⟩
      | @scrK a ws _ h1 h2 => exact call_len_seq pins s σ H _ us Q I rv ⟨a, ws, rfl, .inl (B.hK ▸ h1 _), by rw [← h2.length]; exact h.here r (.int _)⟩
    · rename_i q xs ev_
      obtain ⟨a, rfl, hd⟩ := r.vwd rr ev_
      obtain ⟨u, rfl, ru⟩ := vals1 rv
      cases ru
      cases hd with
      | @k _ ks _ h1 h2 =>
        have hl : ∀ {xs : List (D × D)} {ks : List (Key × V)}, RDk G rho F xs ks → xs.length = ks.length := by
          intro xs
          induction xs with
          | nil => intro ks h; cases h; rfl
          | cons x xs ih => intro ks h; cases h with | cons _ _ t => exact congrArg Nat.succ (ih t)
        exact d_len I h1 fun t s' I' => ⟨.int ks.length, H, I', ⟨t, rfl⟩, by rw [← hl h2]; exact h.here r (.int _)⟩
      | @t _ ks _ h1 h2 =>
        have hl : ∀ {xs : List (D × D)} {ks : List (List Key × V)}, RDt G rho F xs ks → xs.length = ks.length := by
          intro xs
          induction xs with
          | nil => intro ks h; cases h; rfl
          | cons x xs ih => intro ks h; cases h with | cons _ _ t => exact congrArg Nat.succ (ih t)
        obtain ⟨z, hd, ys, rel, dd⟩ := dt_rd I.hok h1
        have hl2 : ks.length = ys.length := Paired.length rel
        refine call_len_dictH hd dd (by rw [← hl2]; rw [sizeLine_eq] at z; omega) ?_
        rw [← hl2, ← hl h2]
        exact ⟨.int ((xs.length : Nat) : Int), H, I.tok _, ⟨_, rfl⟩, h.here r (.int _)⟩
    · rename_i x ev_
      obtain ⟨hl, h2⟩ := Post.ite h
      have ed : _ = D.str x := vw_of ev_ fun k w => by
        subst w
        rcases vw_ref ev_ with ⟨_, w⟩ | ⟨_, _, w⟩ | ⟨_, _, w⟩ | w <;> cases w
      subst ed
      cases rr
      exact call_len_str pins s σ H _ us Q I rv ⟨x, rfl, of_decide_eq_true hl, h2.here r (.int _)⟩
    · rename_i c fs ev_
      obtain ⟨u, rfl, ru⟩ := vals1 rv
      refine O.len hc I ru r rr ev_ ?_
      unfold biLen
      simp only [ev_]
      exact h
    · exact h.elim
  · exact h.elim
theorem bi_abs : BiR X G W (.builtin "abs") biAbs := by
  intro pins s σ H F rho m ds vs us Q I rv r rd h
  unfold biAbs at h
  split at h <;> first | exact h.elim | skip
  · obtain ⟨v, rfl, rr⟩ := one_of rd
    cases rr
    exact call_abs pins s σ H _ us Q I rv ⟨_, rfl, h.here r (.int _)⟩
theorem bi_int : BiR X G W (.type "int") biInt := by
  intro pins s σ H F rho m ds vs us Q I rv r rd h
  unfold biInt at h
  split at h <;> first | exact h.elim | skip
  · obtain ⟨v, rfl, rr⟩ := one_of rd
    cases rr
    exact call_int1 pins s σ H _ us Q I rv (.inl ⟨_, rfl, h.here r (.int _)⟩)
  · obtain ⟨v, rfl, rr⟩ := one_of rd
    cases rr
    exact call_int1 pins s σ H _ us Q I rv (.inr ⟨_, rfl, h.here r (.int _)⟩)
theorem intText_some {i : Int} {x : Str} (e : intText i = some x) : i.natAbs.log2 < 1920 ∧ x = toString i := by
  unfold intText at e
  split at e
  · rename_i h
    cases e
    exact ⟨of_decide_eq_true h, rfl⟩
  · cases e
theorem bi_str : BiR X G W (.type "str") biStr := by
  intro pins s σ H F rho m ds vs us Q I rv r rd h
  unfold biStr at h
  split at h <;> first | exact h.elim | skip
  · obtain ⟨v, rfl, rr⟩ := one_of rd
    cases rr
    obtain ⟨d, e1, h2⟩ := Post.opt h
    obtain ⟨x, e2, rfl⟩ := map_some e1
    obtain ⟨hl, rfl⟩ := intText_some e2
    exact call_str_int pins s σ H _ us Q I rv ⟨_, rfl, hl, h2.here r (.str _)⟩
  · obtain ⟨v, rfl, rr⟩ := one_of rd
    cases rr
    exact SkE.call_str_str pins s σ H _ us Q I rv ⟨_, rfl, h.here r (.str _)⟩
theorem bi_repr : BiR X G W (.builtin "repr") biRepr := by
  intro pins s σ H F rho m ds vs us Q I rv r rd h
  unfold biRepr at h
  split at h <;> first | exact h.elim | skip
  · obtain ⟨v, rfl, rr⟩ := one_of rd
    cases rr
    obtain ⟨d, e1, h2⟩ := Post.opt h
    obtain ⟨x, e2, rfl⟩ := map_some e1
    obtain ⟨hl, rfl⟩ := intText_some e2
    exact SkE.call_repr_int pins s σ H _ us Q I rv ⟨_, rfl, hl, h2.here r (.str _)⟩
theorem bi_max (hc : X.calm = true) : BiR X G W (.builtin "max") biMax := by
  intro pins s σ H F rho m ds vs us Q I rv r rd h
  unfold biMax at h
  split at h <;> first | exact h.elim | skip
  · obtain ⟨v, v', rfl, rr, rr'⟩ := two_of rd
    cases rr
    cases rr'
    exact call_max2 hc pins s σ H _ us Q I rv ⟨_, _, rfl, h.here r (.int _)⟩
theorem bi_min (hc : X.calm = true) : BiR X G W (.builtin "min") biMin := by
  intro pins s σ H F rho m ds vs us Q I rv r rd h
  unfold biMin at h
  split at h <;> first | exact h.elim | skip
  · obtain ⟨v, v', rfl, rr, rr'⟩ := two_of rd
    cases rr
    cases rr'
    exact call_min2 hc pins s σ H _ us Q I rv ⟨_, _, rfl, h.here r (.int _)⟩
/-- the built-in's name, the value it stands for -/
def biName : Bi → Str × Value
  | .len => ("len", .builtin "len")
  | .abs => ("abs", .builtin "abs")
  | .int => ("int", .type "int")
  | .str => ("str", .type "str")
  | .max2 => ("max", .builtin "max")
  | .min2 => ("min", .builtin "min")
  | .repr => ("repr", .builtin "repr")
theorem bi_ok (B : Base X G W g) (O : Own X G W g) (hc : g.cur.isNone = true) (b : Bi) : BiR X G W (biName b).2 (biP g b) := by
  have hc' : X.calm = true := B.calm (by simpa using hc)
  cases b with
  | len => exact bi_len B O hc
  | abs => exact bi_abs
  | int => exact bi_int
  | str => exact bi_str
  | max2 => exact bi_max hc'
  | min2 => exact bi_min hc'
  | repr => exact bi_repr
theorem se_bi {b : Bi} {es : List Expr} {as : Es} {p : Pos} (B : Base X G W g) (O : Own X G W g) (hg : L2.Gl X (biName b).1) (hm : X.mg (biName b).1 = none) (ha : SA X G W g (ea :: es) as)
    (he : notStar ea = true) (hpl : (backTo pos (starEach es X.env)).any (·.1) = false) : SE X G W g (.Call (.Name (biName b).1 p) (ea :: es) [] pos) (.bi b as) := by
  refine ⟨fun pins s σ H Q I h => ?_⟩
  by_cases hc : g.cur.isNone = true
  · have hE : ∀ e m, ev g (.bi b as) e m = (evs g as e m).bind fun vs m1 => biP g b vs m1 := fun e m => by rw [ev, if_pos hc]
    have key : SE X G W g (.Call (.Name (biName b).1 p) (ea :: es) [] pos) (.bi b as) := by
      have hk := bi_ok B O hc b
      cases b <;> first
        | exact se_callB hk hg hm (by decide +kernel) ha (by decide) (by decide) he hpl hE
        | exact se_callTy hk hg hm (by decide +kernel) ha (by decide) (by decide) he hpl hE
    exact key.run pins s σ H Q I h
  · obtain ⟨F, rho, m, e, r, re, hp⟩ := h
    rw [ev, if_neg hc] at hp
    exact hp.elim
/-! ### list(x), tuple(x), all(x), any(x), sum(x) -/
theorem newM_ok {mu : Bool} {F H : Hp} {rho : List Addr} {m : Mem} {σ : L2.St} {ds : List D} {vs : List V} {Q : VK} {p : Addr} (r : RelM G F H rho m) (rr : RDs G rho F ds vs) (hp : H p = none) (h : Post G W σ (RD1 G) F H rho (newM mu ds m) Q) : Q (.ref p) (upd H p (.lst vs)) := by
  unfold newM at h
  cases mu with
  | false => exact new_frozen r h hp (rd_lst r hp rr)
  | true =>
    have gr : RDs G (rho ++ [p]) F ds vs := RDs.mono (Grow.refl F).sub (Beg.app _ _) ds vs rr
    obtain ⟨r', x⟩ := r.cell (o := .lst vs) (c := .lst ds) hp ⟨vs, upd_same, gr⟩
    refine h _ _ _ _ x r' (.ref ?_)
    rw [r.len]
    simp
theorem bools_rd {rho : List Addr} {H : Hp} : ∀ {ds : List D} {vs : List V} {bs : List Bool}, bools ds = some bs → RDs G rho H ds vs → vs = bs.map V.bl
  | [], _, _, e, h => by
    cases e
    cases h
    rfl
  | .bl i :: ds, _, is, e, h => by
    cases h with
    | @cons _ v _ vs h1 h2 =>
      simp only [bools] at e
      cases q2 : bools ds with
      | none => rw [q2] at e; cases e
      | some r =>
        rw [q2] at e
        cases e
        cases h1
        rw [bools_rd q2 h2] <;> rfl
  | .non :: _, _, _, e, _ => by cases e
  | .int _ :: _, _, _, e, _ => by cases e
  | .str _ :: _, _, _, e, _ => by cases e
  | .tup _ :: _, _, _, e, _ => by cases e
  | .lst _ :: _, _, _, e, _ => by cases e
  | .dic _ _ :: _, _, _, e, _ => by cases e
  | .ins _ _ :: _, _, _, e, _ => by cases e
  | .cls _ :: _, _, _, e, _ => by cases e
  | .ref _ :: _, _, _, e, _ => by cases e
  | .scr _ :: _, _, _, e, _ => by cases e
def sqName : Sq → Str × Value
  | .list _ => ("list", .type "list")
  | .tuple => ("tuple", .type "tuple")
  | .all => ("all", .builtin "all")
  | .any => ("any", .builtin "any")
  | .sum => ("sum", .builtin "sum")
  | .sortS => ("sorted", .builtin "sorted")
def sqL (t : Sq) : List D → Mem → Res D
  | [x], m => sqP t (vw m x) m
  | _, _ => .no
theorem sq_ok (B : Base X G W g) (hc : g.cur.isNone = true) (t : Sq) : BiR X G W (sqName t).2 (sqL t) := by
  have hc' : X.calm = true := B.calm (by simpa using hc)
  intro pins s σ H F rho m ds vs us Q I rv r rd h
  unfold sqL at h
  split at h
  rotate_left
  · exact h.elim
  obtain ⟨v, rfl, rr⟩ := one_of rd
  generalize ev_ : vw m _ = y at h
  cases t with
  | list mu =>
    dsimp only [sqP] at h
    split at h
    · rename_i xs
      obtain ⟨a, ws, rfl, h1, h2⟩ := r.vwl rr ev_
      exact call_list_of pins s σ H _ us Q I rv ⟨a, ws, rfl, .inl (SqL.of h1), fun p hp => newM_ok r h2 hp h⟩
    · rename_i xs
      obtain ⟨a, ws, rfl, h1, _, h2⟩ := r.vwt rr ev_
      exact call_list_of pins s σ H _ us Q I rv ⟨a, ws, rfl, .inr (B.hK ▸ h1), fun p hp => newM_ok r h2 hp h⟩
    · rename_i xs
      have ed : _ = D.scr xs := vw_of ev_ fun k w => by
        subst w
        rcases vw_ref ev_ with ⟨_, w⟩ | ⟨_, _, w⟩ | ⟨_, _, w⟩ | w <;> cases w
      subst ed
      cases rr with
      | @scr a o ws _ h1 h2 => exact call_list_of pins s σ H _ us Q I rv ⟨a, ws, rfl, .inl (.inl (.inr ⟨o, r.sub.get h1 rfl⟩)), fun p hp => newM_ok r h2 hp h⟩
      | @scrK a ws _ h1 h2 => exact call_list_of pins s σ H _ us Q I rv ⟨a, ws, rfl, .inl (B.hK ▸ h1 _), fun p hp => newM_ok r h2 hp h⟩
    · exact h.elim
  | tuple =>
    dsimp only [sqP] at h
    split at h
    · rename_i xs
      obtain ⟨a, ws, rfl, h1, h2⟩ := r.vwl rr ev_
      exact call_tuple_of pins s σ H _ us Q I rv ⟨a, ws, rfl, .inl ⟨SqL.of h1, fun p hp => new_frozen r h hp (rd_tup r hp h2)⟩⟩
    · rename_i xs
      obtain ⟨a, ws, rfl, h1, _, h2⟩ := r.vwt rr ev_
      have ed := vw_tup ev_
      subst ed
      exact call_tuple_of pins s σ H _ us Q I rv ⟨a, ws, rfl, .inr ⟨B.hK ▸ h1, h.here r rr⟩⟩
    · exact h.elim
  | all =>
    dsimp only [sqP] at h
    split at h
    · rename_i xs
      obtain ⟨a, ws, rfl, h1, h2⟩ := r.vwl rr ev_
      obtain ⟨d, e1, h3⟩ := Post.opt h
      obtain ⟨bs, e2, rfl⟩ := map_some e1
      have z := bools_rd e2 h2
      subst z
      exact cr_all hc' pins s σ H _ us Q I rv ⟨a, bs, rfl, SqL.of h1, h3.here r (.bl _)⟩
    · exact h.elim
  | any =>
    dsimp only [sqP] at h
    split at h
    · rename_i xs
      obtain ⟨a, ws, rfl, h1, h2⟩ := r.vwl rr ev_
      obtain ⟨d, e1, h3⟩ := Post.opt h
      obtain ⟨bs, e2, rfl⟩ := map_some e1
      have z := bools_rd e2 h2
      subst z
      exact cr_any hc' pins s σ H _ us Q I rv ⟨a, bs, rfl, SqL.of h1, h3.here r (.bl _)⟩
    · exact h.elim
  | sum =>
    dsimp only [sqP] at h
    split at h
    · rename_i xs
      obtain ⟨a, ws, rfl, h1, h2⟩ := r.vwl rr ev_
      obtain ⟨d, e1, h3⟩ := Post.opt h
      obtain ⟨bs, e2, rfl⟩ := map_some e1
      have z := RDs.ints e2 h2
      subst z
      exact cr_sum hc' pins s σ H _ us Q I rv ⟨a, bs, rfl, SqL.of h1, h3.here r (.int _)⟩
    · exact h.elim
  | sortS => exact h.elim
theorem se_seq {t : Sq} {p : Pos} (B : Base X G W g) (hg : L2.Gl X (sqName t).1) (hm : X.mg (sqName t).1 = none) (ha : SE X G W g ea a) (he : notStar ea = true) : SE X G W g (.Call (.Name (sqName t).1 p) [ea] [] pos) (.seq t a) := by
  refine ⟨fun pins s σ H Q I h => ?_⟩
  by_cases hc : g.cur.isNone = true
  · have hE : ∀ e m, ev g (.seq t a) e m = (evs g (.one a .nil) e m).bind fun vs m1 => sqL t vs m1 := fun e m => by
      rw [ev, if_pos hc, evs]
      cases ev g a e m with
      | ok x m1 =>
        simp only [Res.bind_ok]
        rw [evs]
        rfl
      | ex x m1 => rfl
      | no => rfl
    have key : SE X G W g (.Call (.Name (sqName t).1 p) [ea] [] pos) (.seq t a) := by
      have hk := sq_ok B hc t
      have ha' := sa_one ha sa_nil he
      rcases t with mu | _ | _ | _ | _ | _
      · cases mu <;> exact se_callTy hk hg hm (by decide +kernel) ha' (by decide) (by decide) he rfl hE
      all_goals first
        | exact se_callB hk hg hm (by decide +kernel) ha' (by decide) (by decide) he rfl hE
        | exact se_callTy hk hg hm (by decide +kernel) ha' (by decide) (by decide) he rfl hE
    exact key.run pins s σ H Q I h
  · obtain ⟨F, rho, m, e, r, re, hp⟩ := h
    rw [ev, if_neg hc] at hp
    exact hp.elim
end
end IP

/-! IpH -/
set_option Elab.async false
set_option linter.all false
set_option maxRecDepth 100000
set_option maxHeartbeats 4000000
/-! IpH: walks. -/
namespace IP
open PySem L2 PyProof.Rows

/-! ### enumerate and zip over lists and tuples of any mix -/
inductive Kd where
  | l | t
def Kd.sq (K : PySem.W.Frag) (H : Hp) (a : Addr) (xs : List V) : Kd → Prop
  | .l => SqL K H a xs
  | .t => SqT K H a xs
def Kd.is (h : Heap) (a : Addr) (xs : Array Value) : Kd → Prop
  | .l => h.IsList a xs
  | .t => h.IsTuple a xs
def Kd.it (h : Heap) (it a : Addr) (i : Nat) : Kd → Prop
  | .l => h.IsListIter it a i
  | .t => h.IsTupleIter it a i
def Kd.o (a : Addr) : Kd → Obj
  | .l => { cls := .type "list_iterator", data := .fields #[.ref a, .int 0 0] }
  | .t => { cls := .type "tuple_iterator", data := .fields #[.ref a, .int 0 0] }
theorem Kd.begins (k : Kd) (a : Addr) (its : Array Value) : Begins (.ref a) (k.o a) fun h => k.is h a its := by
  cases k with
  | l => exact begins_list a its
  | t => exact begins_tuple a its
theorem Kd.draws (k : Kd) {prog : Program} {w : World} {A : Around} (hh : A.handled = none) (it a : Addr) (hne : a ≠ it) (its : Array Value) : Draws prog w A it [it, a] its.size (fun i v => its[i]? = some v) (fun i h => k.it h it a i ∧ k.is h a its) := by
  cases k with
  | l => exact Draws.list hh it a hne its
  | t => exact Draws.tuple hh it a hne its
theorem Kd.look {X : Cx} {pins : List (Addr × Obj)} {σ : L2.St} {H : Hp} {s : Shared} (k : Kd) (I : Inv X pins σ H s) {a : Addr} {xs : List V} (h : k.sq X.K H a xs) : ∃ its, Vals xs its ∧ k.is s.heap a its.toArray ∧ a < s.heap.objs.size := by
  cases k with
  | l =>
    obtain ⟨its, rv, p, _⟩ := I.list h
    exact ⟨its, rv, p.isList, p.lt⟩
  | t =>
    obtain ⟨its, rv, p, _⟩ := I.tuple h
    obtain ⟨o, ho, _⟩ := id p
    exact ⟨its, rv, p, Heap.lt_size ho⟩
theorem Kd.inj {X : Cx} {pins : List (Addr × Obj)} {σ : L2.St} {H : Hp} {s : Shared} (k : Kd) (I : Inv X pins σ H s) {a : Addr} {xs ys : List V} (h : k.sq X.K H a xs) (h' : k.sq X.K H a ys) : xs = ys := by
  cases k with
  | l => exact I.list_inj h h'
  | t => exact I.tuple_inj h h'
theorem Kd.it_obj {h : Heap} {it a : Addr} {i : Nat} (k : Kd) (x : k.it h it a i) : ∃ o, h.get? it = some o ∧ ∀ v, o.data ≠ .cell v := by
  cases k with
  | l => obtain ⟨o, e, _, d⟩ := x; exact ⟨o, e, fun v q => by rw [d] at q; cases q⟩
  | t => obtain ⟨o, e, _, d⟩ := x; exact ⟨o, e, fun v q => by rw [d] at q; cases q⟩
theorem Kd.it_at {h h' : Heap} {it a : Addr} {i : Nat} (k : Kd) (x : k.it h it a i) (hk : ∀ o, h.get? it = some o → h'.get? it = some o) : k.it h' it a i := by
  cases k with
  | l => exact x.at hk
  | t => exact x.at hk
theorem Kd.is_at {h h' : Heap} {a : Addr} {xs : Array Value} (k : Kd) (x : k.is h a xs) (hk : ∀ o, h.get? a = some o → h'.get? a = some o) : k.is h' a xs := by
  cases k with
  | l => exact x.at hk
  | t => exact x.at hk
theorem Kd.it_new {h : Heap} {it a : Addr} (k : Kd) (x : h.get? it = some (k.o a)) : k.it h it a 0 := by
  cases k with
  | l => exact ⟨_, x, rfl, rfl⟩
  | t => exact ⟨_, x, rfl, rfl⟩

/-- enumerate -/
def ItE (K : PySem.W.Frag) (k : Kd) (a : Addr) : L2.It :=
  ⟨fun i H => ∃ (xs : List V) (x : V), k.sq K H a xs ∧ xs[i]? = some x, fun i H v H' => ∃ T x, v = .ref T ∧ H T = none ∧ H' = upd H T (.tup [.int (i : Nat), x]) ∧ ∀ xs, k.sq K H a xs → xs[i]? = some x, fun i H => ∃ xs : List V, k.sq K H a xs ∧ xs.length = i⟩
theorem turn_E {P : Program} {w : World} {K : PySem.W.Frag} {elts : List Expr} {kk : Nat} {tpos : Pos} (k : Kd) (a e it : Addr) :
    Turn P w K (.Tuple elts kk tpos) (ItE K k a) [e, it] e (fun i h => (∃ old, IsEnum h e it (0 + ((i : Nat) : Int)) old) ∧ k.it h it a i ∧ e ≠ it ∧ a ≠ it ∧ e ≠ a) where
  mem := by simp
  obj := fun i h st b hb => by
    obtain ⟨⟨old, he⟩, hit, _⟩ := st
    have e' : b = e ∨ b = it := by simpa using hb
    rcases e' with z | z
    · rw [z]; exact ⟨_, he, fun v q => nomatch q⟩
    · rw [z]; exact k.it_obj hit
  keep := fun i h h' st kp => let ⟨⟨old, he⟩, hi, hne⟩ := st; ⟨⟨old, kp e (by simp) _ he⟩, k.it_at hi fun o q => kp it (by simp) o q, hne⟩
  item := by
    intro X hP hw hK hc i pins s σ H E I hf st hg
    subst hP hw hK
    obtain ⟨⟨old, he⟩, hit, hne, hai, hea⟩ := st
    obtain ⟨xs, x, hq, hx⟩ := hg
    obtain ⟨its, rv, p, hl⟩ := k.look I hq
    obtain ⟨u, hu, ru⟩ := rv.get hx
    have hi : i < its.toArray.size := by
      have := (List.getElem?_eq_some_iff.mp hu).1
      simpa using this
    have W := GoesN.enumFrom (elts := elts) (x1 := kk) (pos := tpos) 0 (k.draws (prog := X.prog) (w := X.w) (A := X.A.in1) (I.ok.hd hc) it a hai its.toArray) e hne (by simp [hne, hea]) (by simp)
    have hel : e < s.heap.objs.size := Heap.lt_size he
    have hil : it < s.heap.objs.size := by obtain ⟨_, q, _⟩ := k.it_obj hit; exact Heap.lt_size q
    refine wpAny_mono (W.goes i s (fun v s₂ => ∃ y H', Inv X pins σ H' s₂ ∧ RelV y v ∧ (ItE X.K k a).yld i H y H' ∧ ((∃ old, IsEnum s₂.heap e it (0 + ((i + 1 : Nat) : Int)) old) ∧ k.it s₂.heap it a (i + 1) ∧ e ≠ it ∧ a ≠ it ∧ e ≠ a) ∧ ∀ b ∈ [e, it], H' b = none) E hi ⟨⟨old, he⟩, hit, p⟩ fun v h' tk hY st' hk htk => ?_) (fun r s1 h1 => h1) fun _ _ z => z
    obtain ⟨T, t, y, rfl, hn, hy, hT⟩ := hY
    have hyu : y = u := by
      have : its[i]? = some y := by simpa using hy
      rw [hu] at this
      exact (Option.some.inj this).symm
    subst hyu
    have new : ObjOk X.prog X.w (upd H T (.tup [.int (i : Nat), x])) h' T (.tup [.int (i : Nat), x]) :=
      ⟨by show 2 ≤ sizeLine; decide, [.int (0 + (i : Int)) t, y], .cons ⟨t, by rw [Int.zero_add]⟩ (.cons ru .nil), hT⟩
    have I1 : Inv X pins σ (upd H T (.tup [.int (i : Nat), x])) { s with heap := h', toks := tk } :=
      I.turnedNew (ch := [e, it]) (fun b ob hb q => hk b ob hb q) hf hn new
    refine ⟨.ref T, _, I1, rfl, ⟨_, x, rfl, I.hok.fresh hn, rfl, fun ys hy => by rw [k.inj I hy hq]; exact hx⟩, ⟨st'.1, st'.2.1, hne, hai, hea⟩, fun b hb => ?_⟩
    have hb' : b < s.heap.objs.size := by
      have e' : b = e ∨ b = it := by simpa using hb
      rcases e' with z | z
      · rw [z]; exact hel
      · rw [z]; exact hil
    rw [upd_ne (Nat.ne_of_lt (Nat.lt_of_lt_of_le hb' hn))]
    exact (hf b hb).1
  done := by
    intro X hP hw hK hc i pins s σ H E I hf st hg
    subst hP hw hK
    obtain ⟨⟨old, he⟩, hit, hne, hai, hea⟩ := st
    obtain ⟨xs, hq, hx⟩ := hg
    obtain ⟨its, rv, p, hl⟩ := k.look I hq
    have hlen := rv.length
    have hi : its.toArray.size = i := by simp; omega
    have W := GoesN.enumFrom (elts := elts) (x1 := kk) (pos := tpos) 0 (k.draws (prog := X.prog) (w := X.w) (A := X.A.in1) (I.ok.hd hc) it a hai its.toArray) e hne (by simp [hne, hea]) (by simp)
    refine W.stops s (fun s1 => Inv X pins σ H s1) E ?_ fun h' tk hk htk => I.turnedL (ch := [e, it]) (fun b o hb q => hk b o hb q) hf
    rw [hi]
    exact ⟨⟨old, he⟩, hit, p⟩
  self := fun A i s Q E st h => let ⟨⟨_, he⟩, _⟩ := st; wpAny_pyIter_enum he h
/-- zip -/
def ItZ (K : PySem.W.Frag) (k : Kd) (a : Addr) (k' : Kd) (b : Addr) : L2.It :=
  ⟨fun i H => ∃ (xs ys : List V) (x y : V), k.sq K H a xs ∧ k'.sq K H b ys ∧ xs[i]? = some x ∧ ys[i]? = some y,
    fun i H v H' => ∃ T x y, v = .ref T ∧ H T = none ∧ H' = upd H T (.tup [x, y]) ∧ (∀ xs, k.sq K H a xs → xs[i]? = some x) ∧ ∀ ys, k'.sq K H b ys → ys[i]? = some y,
    fun i H => ∃ xs ys : List V, k.sq K H a xs ∧ k'.sq K H b ys ∧ min xs.length ys.length = i⟩
theorem turn_Z {P : Program} {w : World} {K : PySem.W.Frag} {elts : List Expr} {kk : Nat} {tpos : Pos} (k k' : Kd) {a b z TI TO i1 i2 : Addr} (S : ZipSep2 z TI TO i1 i2 [i1, a] [i2, b]) :
    Turn P w K (.Tuple elts kk tpos) (ItZ K k a k' b) [z, TI, TO, i1, i2] z (fun i h => IsZip h z TI TO .none ∧ IsTupOf2 h TI (.ref i1) (.ref i2) ∧ (∃ a1 a2, IsTupOf2 h TO a1 a2) ∧ k.it h i1 a i ∧ k'.it h i2 b i ∧ a ≠ i1 ∧ b ≠ i2) where
  mem := by simp
  obj := fun i h st c hc => by
    obtain ⟨hz, hTI, ⟨x, y, hTO⟩, h1, h2, _⟩ := st
    have e' : c = z ∨ c = TI ∨ c = TO ∨ c = i1 ∨ c = i2 := by simpa using hc
    rcases e' with q | q | q | q | q
    · rw [q]; exact ⟨_, hz, fun v q => nomatch q⟩
    · rw [q]; exact ⟨_, hTI, fun v q => nomatch q⟩
    · rw [q]; exact ⟨_, hTO, fun v q => nomatch q⟩
    · rw [q]; exact k.it_obj h1
    · rw [q]; exact k'.it_obj h2
  keep := fun i h h' st kp => by
    obtain ⟨hz, hTI, ⟨x, y, hTO⟩, h1, h2, h3⟩ := st
    exact ⟨kp z (by simp) _ hz, kp TI (by simp) _ hTI, ⟨x, y, kp TO (by simp) _ hTO⟩, k.it_at h1 fun o q => kp i1 (by simp) o q, k'.it_at h2 fun o q => kp i2 (by simp) o q, h3⟩
  item := by
    intro X hP hw hK hc i pins s σ H E I hf st hg
    subst hP hw hK
    obtain ⟨hz, hTI, ⟨x0, y0, hTO⟩, h1, h2, hai, hbi⟩ := st
    obtain ⟨xs, ys, x, y, hqx, hqy, hx, hy⟩ := hg
    obtain ⟨its, rv, p, hl⟩ := k.look I hqx
    obtain ⟨its2, rv2, p2, hl2⟩ := k'.look I hqy
    obtain ⟨u, hu, ru⟩ := rv.get hx
    obtain ⟨u2, hu2, ru2⟩ := rv2.get hy
    have hi : i < min its.toArray.size its2.toArray.size := by
      have e1 := (List.getElem?_eq_some_iff.mp hu).1
      have e2 := (List.getElem?_eq_some_iff.mp hu2).1
      simp
      omega
    have W := GoesN.zip2 (elts := elts) (x1 := kk) (pos := tpos) S (k.draws (prog := X.prog) (w := X.w) (A := X.A.in1) (I.ok.hd hc) i1 a hai its.toArray) (k'.draws (prog := X.prog) (w := X.w) (A := X.A.in1) (I.ok.hd hc) i2 b hbi its2.toArray)
    have hlt : ∀ c ∈ [z, TI, TO, i1, i2], c < s.heap.objs.size := fun c hcm => by
      have e' : c = z ∨ c = TI ∨ c = TO ∨ c = i1 ∨ c = i2 := by simpa using hcm
      rcases e' with q | q | q | q | q
      · rw [q]; exact Heap.lt_size hz
      · rw [q]; exact Heap.lt_size hTI
      · rw [q]; exact Heap.lt_size hTO
      · rw [q]; obtain ⟨_, e1, _⟩ := k.it_obj h1; exact Heap.lt_size e1
      · rw [q]; obtain ⟨_, e2, _⟩ := k'.it_obj h2; exact Heap.lt_size e2
    refine wpAny_mono (W.goes i s (fun v s₂ => ∃ y H', Inv X pins σ H' s₂ ∧ RelV y v ∧ (ItZ X.K k a k' b).yld i H y H' ∧ (IsZip s₂.heap z TI TO .none ∧ IsTupOf2 s₂.heap TI (.ref i1) (.ref i2) ∧ (∃ a1 a2, IsTupOf2 s₂.heap TO a1 a2) ∧ k.it s₂.heap i1 a (i + 1) ∧ k'.it s₂.heap i2 b (i + 1) ∧ a ≠ i1 ∧ b ≠ i2) ∧ ∀ b ∈ [z, TI, TO, i1, i2], H' b = none) E hi ⟨hz, hTI, ⟨x0, y0, hTO⟩, ⟨h1, p⟩, h2, p2⟩ fun v h' tk hY st' hk htk => ?_) (fun r s1 h1 => h1) fun _ _ z => z
    obtain ⟨T, y1, y2, rfl, hn, hy1, hy2, hT⟩ := hY
    have e1 : y1 = u := by
      have : its[i]? = some y1 := by simpa using hy1
      rw [hu] at this
      exact (Option.some.inj this).symm
    have e2 : y2 = u2 := by
      have : its2[i]? = some y2 := by simpa using hy2
      rw [hu2] at this
      exact (Option.some.inj this).symm
    subst e1 e2
    have new : ObjOk X.prog X.w (upd H T (.tup [x, y])) h' T (.tup [x, y]) := ⟨by show 2 ≤ sizeLine; decide, [y1, y2], .cons ru (.cons ru2 .nil), hT⟩
    have I1 : Inv X pins σ (upd H T (.tup [x, y])) { s with heap := h', toks := tk } :=
      I.turnedNew (ch := [z, TI, TO, i1, i2]) (fun c o hb q => hk c o (fun hm => hb (by
        have e' : c = z ∨ c = TO ∨ c = i1 ∨ c = i2 := by simpa using hm
        rcases e' with q | q | q | q <;> simp [q])) q) hf hn new
    refine ⟨.ref T, _, I1, rfl, ⟨_, x, y, rfl, I.hok.fresh hn, rfl, fun l hl => by rw [k.inj I hl hqx]; exact hx, fun l hl => by rw [k'.inj I hl hqy]; exact hy⟩, ⟨st'.1, st'.2.1, st'.2.2.1, st'.2.2.2.1.1, st'.2.2.2.2.1, hai, hbi⟩, fun c hcm => ?_⟩
    rw [upd_ne (Nat.ne_of_lt (Nat.lt_of_lt_of_le (hlt c hcm) hn))]
    exact (hf c hcm).1
  done := by
    intro X hP hw hK hc i pins s σ H E I hf st hg
    subst hP hw hK
    obtain ⟨hz, hTI, ⟨x0, y0, hTO⟩, h1, h2, hai, hbi⟩ := st
    obtain ⟨xs, ys, hqx, hqy, hend⟩ := hg
    obtain ⟨its, rv, p, hl⟩ := k.look I hqx
    obtain ⟨its2, rv2, p2, hl2⟩ := k'.look I hqy
    have l1 := rv.length
    have l2 := rv2.length
    have hi : min its.toArray.size its2.toArray.size = i := by simp; omega
    have W := GoesN.zip2 (elts := elts) (x1 := kk) (pos := tpos) S (k.draws (prog := X.prog) (w := X.w) (A := X.A.in1) (I.ok.hd hc) i1 a hai its.toArray) (k'.draws (prog := X.prog) (w := X.w) (A := X.A.in1) (I.ok.hd hc) i2 b hbi its2.toArray)
    refine W.stops s (fun s1 => Inv X pins σ H s1) E ?_ fun h' tk hk htk => I.turnedL (ch := [z, TI, TO, i1, i2]) (fun c o hb q => hk c o (fun hm => hb (by
        have e' : c = z ∨ c = TO ∨ c = i1 ∨ c = i2 := by simpa using hm
        rcases e' with q | q | q | q <;> simp [q])) q) hf
    rw [hi]
    exact ⟨hz, hTI, ⟨x0, y0, hTO⟩, ⟨h1, p⟩, h2, p2⟩
  self := fun A i s Q E st h => wpAny_pyIter_zip st.1 h
end IP

/-! IpI -/
set_option Elab.async false
set_option linter.all false
set_option maxRecDepth 100000
set_option maxHeartbeats 4000000
/-! IpI: what a loop or a comprehension walks. -/
namespace PySem
open Sem (wp)
theorem meets_enumerate_new1 {v : Value} {o : Obj} {H : Heap → Prop} (B : Begins v o H) :
    Meets (Builtin.«enumerate.__new__» ⟨[.type "enumerate", v], []⟩) (fun _ R s => H s.heap ∧
      R (.ok (.ret (.ref (s.heap.push o).objs.size))) { s with heap := (s.heap.push o).push { cls := .type "enumerate", data := .fields #[.none, .bool false, .ref s.heap.objs.size, rawInt 0, .none, .none] } }) :=
  .of_wp fun prog w A R s h => by
    obtain ⟨hp, g, d, tk, os⟩ := s; obtain ⟨h1, h⟩ := h
    have hsub := sub_enumerate
    have q1 : ∀ {A' : Around} {E : Value → Shared → Prop} {Q : Value → Shared → Prop}, Q (.ref hp.objs.size) ⟨hp.push o, g, d, tk, os⟩ → wpAny (model prog w) A' (pyIter v) Q E ⟨hp, g, d, tk, os⟩ :=
      fun q => B.iter prog w _ _ ⟨hp, g, d, tk, os⟩ _ h1 q
    wp_walk using q1
    refine wpAny_stack_any fun st => wpAny_pure ?_
    split
    · rename_i c _ _ _ _ _
      cases (c == Value.type "enumerate")
      · wp_walk using q1
        exact ⟨_, rfl, h⟩
      · wp_walk using q1
        exact ⟨_, rfl, h⟩
    · wp_walk using q1
      exact ⟨_, rfl, h⟩
theorem call_enumerateK {prog : Program} {w : World} {A : Around} {E : Value → Shared → Prop} {s : Shared} {v : Value} {o : Obj} {H : Heap → Prop} {Q : Value → Shared → Prop} (B : Begins v o H) (h1 : H s.heap)
    (h : ∀ h', IsEnum h' (s.heap.objs.size + 1) s.heap.objs.size 0 .none → h'.get? s.heap.objs.size = some o → h'.objs.size = s.heap.objs.size + 2 →
      (∀ b o, s.heap.get? b = some o → h'.get? b = some o) → Q (.ref (s.heap.objs.size + 1)) { s with heap := h' }) :
    wpAny (model prog w) A (call (.type "enumerate") [v]) Q E s := by
  refine callType_new F.called_enumerate (by decide) (F.typeCall_enumerate_1 _) (F.newCall_enumerate_1 _) (fun obj => F.args_object_init_2 obj _) F.entry_enumerate_new
    (meets_enumerate_new1 B) ⟨h1, ?_⟩
  have hz : (s.heap.push o).objs.size = s.heap.objs.size + 1 := Heap.size_push ..
  show _ ∧ _
  rw [hz]
  have he : IsEnum ((s.heap.push o).push { cls := .type "enumerate", data := .fields #[.none, .bool false, .ref s.heap.objs.size, rawInt 0, .none, .none] }) (s.heap.objs.size + 1) s.heap.objs.size 0 .none := by
    have := Heap.get?_push_size (s.heap.push o) (o := { cls := .type "enumerate", data := .fields #[.none, .bool false, .ref s.heap.objs.size, rawInt 0, .none, .none] }) rfl
    rw [hz] at this; exact this
  refine ⟨⟨_, he, rfl⟩, h _ he (Heap.get?_push_of_some _ (Heap.get?_push_size _ B.free)) (by rw [Heap.size_push, hz]) fun b o x => Heap.get?_push_of_some _ (Heap.get?_push_of_some _ x)⟩
end PySem
namespace IP
open PySem L2 PyProof.Rows

/-- what F knows stands behind some steps -/
structure Onw (F H : Hp) (rho : List Addr) (F' H' : Hp) (rho' : List Addr) : Prop where
  fr : Grow F F'
  beg : Beg rho rho'
  kp : ∀ (a : Addr) (u o : HO), F a = some u → H a = some o → a ∉ rho → H' a = some o
  new : ∀ a : Addr, a ∈ rho' → a ∉ rho → F a = none
theorem Ext.onw {G : GC} {F H F' H' : Hp} {rho rho' : List Addr} {m : Mem} (x : Ext F H rho F' H' rho') (r : RelM G F H rho m) : Onw F H rho F' H' rho' :=
  ⟨x.fr, x.beg, fun a _ o _ h n => x.keep a o h n, fun a h n => r.notin (x.new a h n)⟩
theorem Onw.trans {F H F1 H1 F2 H2 : Hp} {r r1 r2 : List Addr} (a : Onw F H r F1 H1 r1) (b : Onw F1 H1 r1 F2 H2 r2) : Onw F H r F2 H2 r2 where
  fr := a.fr.trans b.fr
  beg := a.beg.trans b.beg
  kp := fun c u o e h n => by
    refine b.kp c u o (a.fr c u e) (a.kp c u o e h n) fun z => ?_
    have := a.new c z n
    rw [e] at this
    cases this
  new := fun c h n => by
    by_cases hc : c ∈ r1
    · exact a.new c hc n
    · have e := b.new c h hc
      cases q : F c with
      | none => rfl
      | some o =>
        rw [a.fr c o q] at e
        cases e
theorem Onw.other {F H F1 H1 : Hp} {r r1 : List Addr} (a : Onw F H r F1 H1 r1) {p : Addr} {o : HO} (h : F p = none) : Onw F H r F1 (upd H1 p o) r1 :=
  ⟨a.fr, a.beg, fun c u o e q n => by rw [upd_ne (ne_of_none e h)]; exact a.kp c u o e q n, a.new⟩
section
variable {G : GC} {F H F' H' : Hp} {rho rho' : List Addr}
theorem Onw.rd (x : Onw F H rho F' H' rho') {d : D} {v : V} (h : RD G rho F d v) : RD G rho' F' d v := RD.mono x.fr.sub x.beg d v h
theorem Onw.rde (x : Onw F H rho F' H' rho') {e : Ev} {σ : L2.St} (h : RelE G F rho e σ) : RelE G F' rho' e σ := ⟨h.1, fun i d q => by
  obtain ⟨v, e1, e2⟩ := h.2.1 i d q
  exact ⟨v, e1, x.rd e2⟩, fun s hs => by
  obtain ⟨q1, q2⟩ := h.2.2 s hs
  refine ⟨q1, ?_⟩
  rcases q2 with q2 | ⟨d, fvs, e1, e2, e3⟩
  · exact .inl q2
  · exact .inr ⟨d, fvs, e1, x.fr _ _ e2, RDf.mono x.fr.sub x.beg _ _ e3⟩⟩
end
/-- J gives ds as long as what F knows stands -/
structure Wk (G : GC) (J : L2.It) (F H : Hp) (rho : List Addr) (ds : List D) : Prop where
  go : ∀ {i : Nat} {F' H' : Hp} {rho' : List Addr} {m' : Mem}, Onw F H rho F' H' rho' → RelM G F' H' rho' m' → i < ds.length → J.go i H'
  stop : ∀ {F' H' : Hp} {rho' : List Addr} {m' : Mem}, Onw F H rho F' H' rho' → RelM G F' H' rho' m' → J.stop ds.length H'
  yld : ∀ {i : Nat} {F' H' H2 : Hp} {rho' : List Addr} {m' : Mem} {x : V}, Onw F H rho F' H' rho' → RelM G F' H' rho' m' → i < ds.length → J.yld i H' x H2 → ∃ F2 d, Ext F' H' rho' F2 H2 rho' ∧ RelM G F2 H2 rho' m' ∧ ds[i]? = some d ∧ RD G rho' F2 d x
def PostW (G : GC) (W : WX) (σ : L2.St) (F H : Hp) (rho : List Addr) (r : Res (List D)) (R : L2.It → Hp → Prop) : Prop := match r with
  | .ok ds m' => ∀ (J : L2.It) (H' F' : Hp) (rho' : List Addr), Ext F H rho F' H' rho' → RelM G F' H' rho' m' → Wk G J F' H' rho' ds → R J H'
  | .ex x m' => ∀ (c : Value) (dd : Option Addr) (H' F' : Hp) (rho' : List Addr), Ext F H rho F' H' rho' → RelM G F' H' rho' m' → RX G F' H' rho' x c dd → W c dd σ H'
  | .no => False
def tW (G : GC) (W : WX) (f : Ev → Mem → Res (List D)) : L2.TI := fun σ H R =>
  ∃ (F : Hp) (rho : List Addr) (m : Mem) (e : Ev), RelM G F H rho m ∧ RelE G F rho e σ ∧ PostW G W σ F H rho (f e m) R
section
variable {G : GC} {W : WX} {σ : L2.St} {F H : Hp} {rho : List Addr} {R : L2.It → Hp → Prop}
theorem PostW.ext {F1 H1 : Hp} {rho1 : List Addr} {r : Res (List D)} (h : PostW G W σ F H rho r R) (x : Ext F H rho F1 H1 rho1) : PostW G W σ F1 H1 rho1 r R := by
  cases r with
  | ok d m => exact fun v H' F' rho' x' rm rr => h v H' F' rho' (x.trans x') rm rr
  | ex e m => exact fun c dd H' F' rho' x' rm rr => h c dd H' F' rho' (x.trans x') rm rr
  | no => exact h
theorem PostW.bind {γ δ : Type} {R1 : Hp → List Addr → γ → δ → Prop} {r : Res γ} {k : γ → Mem → Res (List D)} (h : PostW G W σ F H rho (r.bind k) R) :
    Post G W σ R1 F H rho r fun v H1 => At G R1 F H rho v H1 fun F1 rho1 d m1 => PostW G W σ F1 H1 rho1 (k d m1) R := by
  cases r with
  | ok d m => exact fun v H' F' rho' x' rm rr => ⟨F', rho', d, m, x', rm, rr, PostW.ext h x'⟩
  | ex e m => exact h
  | no => exact h
theorem PostW.opt {o : Option (List D)} {m : Mem} (h : PostW G W σ F H rho (opt o m) R) : ∃ d, o = some d ∧ PostW G W σ F H rho (.ok d m) R := by
  cases o with
  | none => exact h.elim
  | some d => exact ⟨d, rfl, h⟩
theorem PostW.here {d : List D} {m : Mem} {J : L2.It} (h : PostW G W σ F H rho (.ok d m) R) (r : RelM G F H rho m) (w : Wk G J F H rho d) : R J H := h J H F rho (Ext.refl F H rho) r w
theorem PostW.ite {c : Prop} [Decidable c] {r : Res (List D)} (h : PostW G W σ F H rho (if c then r else .no) R) : c ∧ PostW G W σ F H rho r R := by
  by_cases hc : c
  · rw [if_pos hc] at h
    exact ⟨hc, h⟩
  · rw [if_neg hc] at h
    exact h.elim
end

/-- a list or tuple of F -/
inductive Sq2 (G : GC) (F : Hp) (rho : List Addr) (a : Addr) (vs : List V) : Kd → Prop
  | l : (∀ {F' H' : Hp}, Grow F F' → Sub F' H' → SqL G.K H' a vs) → Sq2 G F rho a vs .l
  | t : (∀ {F' H' : Hp}, Grow F F' → Sub F' H' → SqT G.K H' a vs) → Sq2 G F rho a vs .t
theorem Sq2.sq {G : GC} {F F' H' : Hp} {rho : List Addr} {a : Addr} {vs : List V} {k : Kd} (h : Sq2 G F rho a vs k) (g : Grow F F') (s : Sub F' H') : k.sq G.K H' a vs := by
  cases h with
  | l h => exact h g s
  | t h => exact h g s
theorem seqP_ok {G : GC} {F : Hp} {rho : List Addr} {d : D} {v : V} {xs : List D} (h : RD G rho F d v) (e : seqP d = some xs) : ∃ a vs k, v = .ref a ∧ Sq2 G F rho a vs k ∧ RDs G rho F xs vs := by
  unfold seqP at e
  split at e
  · cases e
    cases h with
    | lst h1 h2 => exact ⟨_, _, .l, rfl, .l fun g s => .inl (.inl (s.get (g _ _ h1) rfl)), h2⟩
  · cases e
    cases h with
    | tup h1 h2 => exact ⟨_, _, .t, rfl, .t fun g s => .inl (.inl (s.get (g _ _ h1) rfl)), h2⟩
    | tupK h1 => exact ⟨_, _, .t, rfl, .t fun g s => h1 _, .nil⟩
  · cases e
section
variable {G : GC} {F H : Hp} {rho : List Addr} {m : Mem} {ds : List D} {vs : List V} {a : Addr}
theorem getD_lt {α : Type} {xs : List α} {i : Nat} (h : i < xs.length) : xs[i]? = some xs[i] := List.getElem?_eq_getElem h
theorem wk_list (h : ∀ {F' H' : Hp}, Grow F F' → Sub F' H' → SqL G.K H' a vs) (r : RelM G F H rho m) (rd : RDs G rho F ds vs) : Wk G (Itl G.K a) F H rho ds where
  go := fun {i} {F' H'} {rho' m'} x r' hi => by
    have hi' : i < vs.length := by rw [← rd.length]; exact hi
    exact ⟨vs, vs[i], h x.fr r'.sub, getD_lt hi'⟩
  stop := fun {F' H'} {rho' m'} x r' => ⟨vs, h x.fr r'.sub, by rw [rd.length]; exact Nat.le_refl _⟩
  yld := fun {i} {F' H' H2} {rho' m' v} x r' hi y => by
    obtain ⟨e, y⟩ := y
    subst e
    have hv := y vs (h x.fr r'.sub)
    obtain ⟨d, e1, e2⟩ := rd.get' hv
    exact ⟨F', d, Ext.refl _ _ _, r', e1, x.rd e2⟩
theorem wk_tup (h : ∀ {F' H' : Hp}, Grow F F' → Sub F' H' → SqT G.K H' a vs) (r : RelM G F H rho m) (rd : RDs G rho F ds vs) : Wk G (Itt G.K a) F H rho ds where
  go := fun {i} {F' H'} {rho' m'} x r' hi => by
    have hi' : i < vs.length := by rw [← rd.length]; exact hi
    exact ⟨vs, vs[i], h x.fr r'.sub, getD_lt hi'⟩
  stop := fun {F' H'} {rho' m'} x r' => ⟨vs, h x.fr r'.sub, by rw [rd.length]; exact Nat.le_refl _⟩
  yld := fun {i} {F' H' H2} {rho' m' v} x r' hi y => by
    obtain ⟨e, y⟩ := y
    subst e
    have hv := y vs (h x.fr r'.sub)
    obtain ⟨d, e1, e2⟩ := rd.get' hv
    exact ⟨F', d, Ext.refl _ _ _, r', e1, x.rd e2⟩
theorem wk_str {z : Str} : Wk G (Its z) F H rho (z.cps.toList.map fun c => .str ⟨#[c]⟩) where
  go := fun {i} {F' H'} {rho' m'} x r' hi => by
    show i < z.cps.size
    simpa using hi
  stop := fun {F' H'} {rho' m'} x r' => by
    show z.cps.size ≤ _
    simp
  yld := fun {i} {F' H' H2} {rho' m' v} x r' hi y => by
    obtain ⟨e, c, hc, ev_⟩ := y
    subst e ev_
    exact ⟨F', .str ⟨#[c]⟩, Ext.refl _ _ _, r', by simp [hc], .str _⟩
theorem wk_range {lo : Int} {n : Nat} : Wk G (Itr lo n) F H rho (rng lo n) where
  go := fun {i} {F' H'} {rho' m'} x r' hi => by
    show i < n
    simpa [rng] using hi
  stop := fun {F' H'} {rho' m'} x r' => by
    show n ≤ _
    simp [rng]
  yld := fun {i} {F' H' H2} {rho' m' v} x r' hi y => by
    obtain ⟨e, ev_⟩ := y
    subst e ev_
    have hi' : i < n := by simpa [rng] using hi
    exact ⟨F', .int (lo + i), Ext.refl _ _ _, r', by simp [rng, hi'], .int _⟩
theorem wk_rangeD {hi_ : Int} {n : Nat} : Wk G (Itc hi_ (-1) n) F H rho (rngDown hi_ n) where
  go := fun {i} {F' H'} {rho' m'} x r' hi => by
    show i < n
    simpa [rngDown] using hi
  stop := fun {F' H'} {rho' m'} x r' => by
    show n ≤ _
    simp [rngDown]
  yld := fun {i} {F' H' H2} {rho' m' v} x r' hi y => by
    obtain ⟨e, ev_⟩ := y
    subst e ev_
    have hi' : i < n := by simpa [rngDown] using hi
    have e2 : hi_ + (i : Nat) * (-1 : Int) = hi_ - i := by omega
    exact ⟨F', .int (hi_ - i), Ext.refl _ _ _, r', by simp [rngDown, hi'], e2 ▸ .int _⟩
theorem wk_enum {k : Kd} (h : Sq2 G F rho a vs k) (r : RelM G F H rho m) (rd : RDs G rho F ds vs) : Wk G (ItE G.K k a) F H rho (ds.zipIdx.map fun p => .tup [.int (p.2 : Int), p.1]) where
  go := fun {i} {F' H'} {rho' m'} x r' hi => by
    have hi' : i < vs.length := by rw [← rd.length]; simpa using hi
    exact ⟨vs, vs[i], h.sq x.fr r'.sub, getD_lt hi'⟩
  stop := fun {F' H'} {rho' m'} x r' => ⟨vs, h.sq x.fr r'.sub, by simp [rd.length]⟩
  yld := fun {i} {F' H' H2} {rho' m' v} x r' hi y => by
    obtain ⟨T, w, rfl, hT, rfl, y⟩ := y
    have hv := y vs (h.sq x.fr r'.sub)
    obtain ⟨d, e1, e2⟩ := rd.get' hv
    obtain ⟨r2, x2⟩ := r'.frozen (o := .tup [.int (i : Nat), w]) hT
    refine ⟨_, .tup [.int (i : Nat), d], x2, r2, by simp [e1], .tup upd_same (.cons (.int _) (.cons (x2.rd r' (x.rd e2)) .nil))⟩
theorem wk_zip {k k' : Kd} {b : Addr} {ds' : List D} {vs' : List V} (h : Sq2 G F rho a vs k) (h' : Sq2 G F rho b vs' k') (r : RelM G F H rho m) (rd : RDs G rho F ds vs) (rd' : RDs G rho F ds' vs') : Wk G (ItZ G.K k a k' b) F H rho (List.zipWith (fun p q => .tup [p, q]) ds ds') where
  go := fun {i} {F' H'} {rho' m'} x r' hi => by
    have hi2 : i < vs.length ∧ i < vs'.length := by rw [← rd.length, ← rd'.length]; simpa [Nat.lt_min] using hi
    exact ⟨vs, vs', vs[i], vs'[i], h.sq x.fr r'.sub, h'.sq x.fr r'.sub, getD_lt hi2.1, getD_lt hi2.2⟩
  stop := fun {F' H'} {rho' m'} x r' => ⟨vs, vs', h.sq x.fr r'.sub, h'.sq x.fr r'.sub, by simp [rd.length, rd'.length]⟩
  yld := fun {i} {F' H' H2} {rho' m' v} x r' hi y => by
    obtain ⟨T, w, w', rfl, hT, rfl, y, y'⟩ := y
    have hv := y vs (h.sq x.fr r'.sub)
    have hv' := y' vs' (h'.sq x.fr r'.sub)
    obtain ⟨d, e1, e2⟩ := rd.get' hv
    obtain ⟨d', e1', e2'⟩ := rd'.get' hv'
    obtain ⟨r2, x2⟩ := r'.frozen (o := .tup [w, w']) hT
    refine ⟨_, .tup [d, d'], x2, r2, by simp [List.getElem?_zipWith, e1, e1'], .tup upd_same (.cons (x2.rd r' (x.rd e2)) (.cons (x2.rd r' (x.rd e2')) .nil))⟩
end

abbrev SW (X : Cx) (G : GC) (W : WX) (g : Gl) (tg it : Expr) (i : It) : Prop := PI X tg it (tW G W (evIt g i))
section
variable {X : Cx} {G : GC} {W : WX} {g : Gl} {a b c : E} {ea eb ec tg : Expr} {pos : Pos}
/-- a value, walked -/
theorem sw_seq (B : Base X G W g) (ha : SE X G W g ea a) : SW X G W g tg ea (.seq a) := by
  refine ⟨fun pins s σ H R I h => ?_⟩
  obtain ⟨F, rho, m, e, r, re, hp⟩ := h
  rw [evIt] at hp
  cases hv : ev g a e m with
  | no => rw [hv] at hp; exact hp.elim
  | ex x m1 =>
    rw [hv] at hp
    exact (pi_list ha).run pins s σ H R I (tI.mk r re (by rw [hv]; exact hp))
  | ok d m1 =>
    rw [hv] at hp
    obtain ⟨ds, e1, hp2⟩ := PostW.opt hp
    unfold walkP at e1
    split at e1
    · cases e1
      refine (pi_list ha).run pins s σ H R I (tI.mk r re ?_)
      rw [hv]
      intro v H' F' rho' x rm rd
      cases rd with
      | lst h1 h2 => exact B.hK ▸ ⟨_, rfl, ⟨_, SqL.of (rm.sub.get h1 rfl)⟩, hp2 _ _ _ _ x rm (wk_list (fun g s => .inl (.inl (s.get (g _ _ h1) rfl))) rm h2)⟩
    · cases e1
      refine (pi_tup ha).run pins s σ H R I (tI.mk r re ?_)
      rw [hv]
      intro v H' F' rho' x rm rd
      cases rd with
      | tup h1 h2 => exact B.hK ▸ ⟨_, rfl, ⟨_, .inl (.inl (rm.sub.get h1 rfl))⟩, hp2 _ _ _ _ x rm (wk_tup (fun g s => .inl (.inl (s.get (g _ _ h1) rfl))) rm h2)⟩
      | tupK h1 => exact B.hK ▸ ⟨_, rfl, ⟨_, h1 _⟩, hp2 _ _ _ _ x rm (wk_tup (fun g s => h1 _) rm .nil)⟩
    · cases e1
      refine (pi_list ha).run pins s σ H R I (tI.mk r re ?_)
      rw [hv]
      intro v H' F' rho' x rm rd
      cases rd with
      | scr h1 h2 => exact B.hK ▸ ⟨_, rfl, ⟨_, .inl (.inr ⟨_, rm.sub.get h1 rfl⟩)⟩, hp2 _ _ _ _ x rm (wk_list (fun g s => .inl (.inr ⟨_, s.get (g _ _ h1) rfl⟩)) rm h2)⟩
      | scrK h1 h2 => exact B.hK ▸ ⟨_, rfl, ⟨_, h1 _⟩, hp2 _ _ _ _ x rm (wk_list (fun g s => h1 _) rm h2)⟩
    · cases e1
      refine (pi_str ha).run pins s σ H R I (tI.mk r re ?_)
      rw [hv]
      intro v H' F' rho' x rm rd
      cases rd
      exact ⟨_, rfl, hp2 _ _ _ _ x rm wk_str⟩
    · cases e1
theorem sta1 {e : Expr} {env : Env} (h : notStar e = true) : starEach [e] env = [(false, eval e env)] := starEach_of h
theorem plain1 {p : Pos} {e : Expr} {env : Env} (h : notStar e = true) : (backTo p (starEach [e] env)).any (·.1) = false := by
  rw [sta1 h]
  rfl
theorem plain2 {p : Pos} {e e2 : Expr} {env : Env} (h : notStar e = true) (h2 : notStar e2 = true) : (backTo p (starEach [e, e2] env)).any (·.1) = false := by
  rw [starEach_of h, sta1 h2]
  rfl
theorem one_ofL {F : Hp} {rho : List Addr} {d : D} {vs : List V} (h : RDL G F rho [d] vs) : ∃ v, vs = [v] ∧ RD1 G F rho d v := one_of h
theorem two_ofL {F : Hp} {rho : List Addr} {d d' : D} {vs : List V} (h : RDL G F rho [d, d'] vs) : ∃ v v', vs = [v, v'] ∧ RD1 G F rho d v ∧ RD1 G F rho d' v' := two_of h
theorem sw_rng1 {p : Pos} (hg : L2.Gl X "range") (hm : X.mg "range" = none) (ha : SE X G W g ea a) (hs : notStar ea = true) : SW X G W g tg (.Call (.Name "range" p) [ea] [] pos) (.rng1 a) := by
  refine ⟨fun pins s σ H R I h => ?_⟩
  obtain ⟨F, rho, m, e, r, re, hp⟩ := h
  rw [evIt] at hp
  refine (pi_range1 hg hm (sa_one ha sa_nil hs) (sta1 hs)).run pins s σ H R I (tI.mk r re ?_)
  rw [evs]
  cases hv : ev g a e m with
  | no => rw [hv] at hp; exact hp.elim
  | ex x m1 => rw [hv] at hp; exact hp
  | ok d m1 =>
    rw [hv] at hp
    simp only [Res.bind_ok] at hp ⊢
    rw [evs]
    simp only [Res.bind_ok]
    intro v H' F' rho' x rm rd0
    obtain ⟨w, rfl, rd⟩ := one_of rd0
    cases d with
    | int j =>
      obtain ⟨hc, hp2⟩ := PostW.ite hp
      cases rd
      unfold rngOk at hc
      simp only [Bool.and_eq_true, decide_eq_true_eq] at hc
      exact ⟨j, rfl, hc.1, hc.2, hp2 _ _ _ _ x rm wk_range⟩
    | _ => exact hp.elim
theorem sw_rng2 {p : Pos} (hg : L2.Gl X "range") (hm : X.mg "range" = none) (ha : SE X G W g ea a) (hs : notStar ea = true) (hb : SE X G W g eb b) (hs2 : notStar eb = true) : SW X G W g tg (.Call (.Name "range" p) [ea, eb] [] pos) (.rng2 a b) := by
  refine ⟨fun pins s σ H R I h => ?_⟩
  obtain ⟨F, rho, m, e, r, re, hp⟩ := h
  rw [evIt] at hp
  refine (pi_range2 hg hm (sa_one ha (sa_one hb sa_nil hs2) hs) (by rw [starEach_of hs, sta1 hs2]) (sta1 hs2)).run pins s σ H R I (tI.mk r re ?_)
  rw [evs]
  cases hv : ev g a e m with
  | no => rw [hv] at hp; exact hp.elim
  | ex x m1 => rw [hv] at hp; exact hp
  | ok d m1 =>
    rw [hv] at hp
    simp only [Res.bind_ok] at hp ⊢
    rw [evs]
    cases hv2 : ev g b e m1 with
    | no => rw [hv2] at hp; exact hp.elim
    | ex x m1 => rw [hv2] at hp; exact hp
    | ok d2 m2 =>
      rw [hv2] at hp
      simp only [Res.bind_ok] at hp ⊢
      rw [evs]
      simp only [Res.bind_ok]
      intro v H' F' rho' x rm rd0
      obtain ⟨w, w2, rfl, rd, rd2⟩ := two_of rd0
      cases d with
      | int i =>
        cases d2 with
        | int j =>
          obtain ⟨hc, hp2⟩ := PostW.ite hp
          cases rd
          cases rd2
          unfold rngOk at hc
          simp only [Bool.and_eq_true, decide_eq_true_eq] at hc
          exact ⟨i, j, rfl, ⟨hc.1.1, hc.1.2, hc.2.1, hc.2.2⟩, hp2 _ _ _ _ x rm wk_range⟩
        | _ => exact hp.elim
      | _ => exact hp.elim
theorem sw_rng3 {p : Pos} (hg : L2.Gl X "range") (hm : X.mg "range" = none) (ha : SE X G W g ea a) (hs : notStar ea = true) (hb : SE X G W g eb b) (hs2 : notStar eb = true) (hc : SE X G W g ec c) (hs3 : notStar ec = true) :
    SW X G W g tg (.Call (.Name "range" p) [ea, eb, ec] [] pos) (.rng3 a b c) := by
  refine ⟨fun pins s σ H R I h => ?_⟩
  obtain ⟨F, rho, m, e, r, re, hp⟩ := h
  rw [evIt] at hp
  refine (pi_range3 hg hm (sa_one ha (sa_one hb (sa_one hc sa_nil hs3) hs2) hs) (by rw [starEach_of hs]) (plain2 hs2 hs3)).run pins s σ H R I (tI.mk r re ?_)
  rw [evs]
  cases hv : ev g a e m with
  | no => rw [hv] at hp; exact hp.elim
  | ex x m1 => rw [hv] at hp; exact hp
  | ok d m1 =>
    rw [hv] at hp
    simp only [Res.bind_ok] at hp ⊢
    rw [evs]
    cases hv2 : ev g b e m1 with
    | no => rw [hv2] at hp; exact hp.elim
    | ex x m1 => rw [hv2] at hp; exact hp
    | ok d2 m2 =>
      rw [hv2] at hp
      simp only [Res.bind_ok] at hp ⊢
      rw [evs]
      cases hv3 : ev g c e m2 with
      | no => rw [hv3] at hp; exact hp.elim
      | ex x m1 => rw [hv3] at hp; exact hp
      | ok d3 m3 =>
        rw [hv3] at hp
        simp only [Res.bind_ok] at hp ⊢
        rw [evs]
        simp only [Res.bind_ok]
        intro v H' F' rho' x rm rd0
        cases rd0 with
        | cons rd rd0 =>
          obtain ⟨w2, w3, rfl, rd2, rd3⟩ := two_of rd0
          cases d with
          | int i =>
            cases d2 with
            | int j =>
              cases d3 with
              | int k =>
                obtain ⟨hc, hp2⟩ := PostW.ite hp
                cases rd
                cases rd2
                cases rd3
                unfold rngOk at hc
                simp only [Bool.and_eq_true, decide_eq_true_eq] at hc
                obtain ⟨⟨h1, h2⟩, ⟨h3, h4⟩, h5⟩ := hc
                subst h5
                exact ⟨i, j, -1, _, rfl, RgC.neg h1 h2 h3 h4, hp2 _ _ _ _ x rm wk_rangeD⟩
              | _ => exact hp.elim
            | _ => exact hp.elim
          | _ => exact hp.elim
theorem sw_enum {p tpos : Pos} {elts : List Expr} {kk : Nat} (B : Base X G W g) (hg : L2.Gl X "enumerate") (hm : X.mg "enumerate" = none) (ha : SE X G W g ea a) (hs : notStar ea = true) : SW X G W g (.Tuple elts kk tpos) (.Call (.Name "enumerate" p) [ea] [] pos) (.enum a) := by
  refine ⟨fun pins s σ H R I h => ?_⟩
  obtain ⟨F, rho, m, e, r, re, hp⟩ := h
  rw [evIt] at hp
  have ha' : SA X G W g [ea] (.one a .nil) := sa_one ha sa_nil hs
  refine Call_ (ld_blt I hg hm boot_enumerate (PyProof.Rows.callWith_type1 (thn (ha'.run pos pins s σ H (fun vs H1 => ∃ v, vs = [v] ∧ At G (RD1 G) F H rho v H1 fun F1 rho1 d m1 => PostW G W σ F1 H1 rho1 (opt ((seqP d).map fun xs => (xs.zipIdx.map fun p => D.tup [.int (p.2 : Int), p.1])) m1) R) I (tI.mk r re ?_)) fun us s1 ⟨vs, H1, I1, r1, v, ev_, q1⟩ => ?_) (sta1 hs) rfl))
  · rw [evs]
    have h1 := PostW.bind (R1 := RD1 G) hp
    cases hv : ev g a e m with
    | no => rw [hv] at h1; exact h1.elim
    | ex x m1 => rw [hv] at h1; exact h1
    | ok d m1 =>
      rw [hv] at h1
      simp only [Res.bind_ok]
      rw [evs]
      simp only [Res.bind_ok]
      intro v H' F' rho' x rm rd0
      obtain ⟨w, rfl, rd⟩ := one_of rd0
      exact ⟨w, rfl, h1 w H' F' rho' x rm (show RD1 G F' rho' d w from rd)⟩
  · subst ev_
    obtain ⟨F1, rho1, d, m1, x1, rm1, rr, hp1⟩ := q1
    obtain ⟨ds, e1, hp2⟩ := PostW.opt hp1
    obtain ⟨xs, e2, rfl⟩ := map_some e1
    obtain ⟨p, ws, k, rfl, hq, hds⟩ := seqP_ok rr e2
    obtain ⟨u, rfl, ru⟩ := vals1 r1
    cases ru
    have hq1 := hq.sq (Grow.refl F1) rm1.sub
    obtain ⟨its, rv, pq, hl⟩ := k.look (X := X) I1 (B.hK ▸ hq1)
    refine call_enumerateK (k.begins p its.toArray) pq fun h' he hit hsz hk => wpAny_pyIter_enum he ?_
    have I2 : Inv X pins σ H1 { s1 with heap := h' } := I1.kept (t' := s1.toks) hk
    refine ⟨s1.heap.objs.size + 1, [s1.heap.objs.size + 1, s1.heap.objs.size], _, _, H1, rfl, I2, turn_E k p (s1.heap.objs.size + 1) s1.heap.objs.size, ⟨⟨.none, by simpa using he⟩, k.it_new hit, Nat.succ_ne_self _, Nat.ne_of_lt hl, Nat.ne_of_gt (Nat.lt_succ_of_lt hl)⟩, fun b hb => ?_, B.hK ▸ hp2.here rm1 (wk_enum hq rm1 hds)⟩
    have e' : b = s1.heap.objs.size + 1 ∨ b = s1.heap.objs.size := by simpa using hb
    have hle : s1.heap.objs.size ≤ b := by
      rcases e' with z | z
      · rw [z]; exact Nat.le_add_right _ _
      · rw [z]; exact Nat.le_refl _
    exact I1.fpOk hle (I1.hok.fresh hle)
theorem sw_zip {p tpos : Pos} {elts : List Expr} {kk : Nat} (B : Base X G W g) (hg : L2.Gl X "zip") (hm : X.mg "zip" = none) (ha : SE X G W g ea a) (hs : notStar ea = true) (hb : SE X G W g eb b) (hs2 : notStar eb = true) :
    SW X G W g (.Tuple elts kk tpos) (.Call (.Name "zip" p) [ea, eb] [] pos) (.zip a b) := by
  refine ⟨fun pins s σ H R I h => ?_⟩
  obtain ⟨F, rho, m, e, r, re, hp⟩ := h
  rw [evIt] at hp
  have ha' : SA X G W g [ea, eb] (.one a (.one b .nil)) := sa_one ha (sa_one hb sa_nil hs2) hs
  refine Call_ (ld_blt I hg hm PyProof.Rows.boot_zip (PyProof.Rows.callWith_type1 (thn (ha'.run pos pins s σ H (fun vs H1 => ∃ v v', vs = [v, v'] ∧ ∃ F1 rho1 d d' m1, Ext F H rho F1 H1 rho1 ∧ RelM G F1 H1 rho1 m1 ∧ RD G rho1 F1 d v ∧ RD G rho1 F1 d' v' ∧ PostW G W σ F1 H1 rho1 (match seqP d, seqP d' with
    | some xs, some ys => .ok (List.zipWith (fun p q => .tup [p, q]) xs ys) m1
    | _, _ => .no) R) I (tI.mk r re ?_)) fun us s1 ⟨vs, H1, I1, r1, v, v', ev_, F1, rho1, d, d', m1, x1, rm1, rr, rr', hp1⟩ => ?_) (starEach_of hs) (plain1 hs2)))
  · rw [evs]
    cases hv : ev g a e m with
    | no => rw [hv] at hp; exact hp.elim
    | ex x m1 => rw [hv] at hp; exact hp
    | ok d m1 =>
      rw [hv] at hp
      simp only [Res.bind_ok] at hp ⊢
      rw [evs]
      cases hv2 : ev g b e m1 with
      | no => rw [hv2] at hp; exact hp.elim
      | ex x m1 => rw [hv2] at hp; exact hp
      | ok d2 m2 =>
        rw [hv2] at hp
        simp only [Res.bind_ok] at hp ⊢
        rw [evs]
        simp only [Res.bind_ok]
        intro v H' F' rho' x rm rd0
        obtain ⟨w, w2, rfl, rd, rd2⟩ := two_of rd0
        exact ⟨w, w2, rfl, F', rho', d, d2, m2, x, rm, rd, rd2, hp.ext x⟩
  · subst ev_
    split at hp1
    · rename_i xs ys e1 e2
      obtain ⟨p, ws, k, rfl, hq, hds⟩ := seqP_ok rr e1
      obtain ⟨p', ws', k', rfl, hq', hds'⟩ := seqP_ok rr' e2
      obtain ⟨u, u', rfl, ru, ru'⟩ := vals2 r1
      cases ru
      cases ru'
      obtain ⟨its, rv, pq, hl⟩ := k.look (X := X) I1 (B.hK ▸ hq.sq (Grow.refl F1) rm1.sub)
      obtain ⟨its', rv', pq', hl'⟩ := k'.look (X := X) I1 (B.hK ▸ hq'.sq (Grow.refl F1) rm1.sub)
      refine zip_begins2 (k.begins p its.toArray) (k'.begins p' its'.toArray) pq pq' fun h' hz hTI hTO h1 h2 hsz hk => wpAny_pyIter_zip hz ?_
      have I2 : Inv X pins σ H1 { s1 with heap := h' } := I1.kept (t' := s1.toks) hk
      refine ⟨s1.heap.objs.size + 4, [s1.heap.objs.size + 4, s1.heap.objs.size + 2, s1.heap.objs.size + 3, s1.heap.objs.size, s1.heap.objs.size + 1], _, _, H1, rfl, I2, turn_Z k k' (a := p) (b := p') (zip_sep2 (fun b hb => ?_) (fun b hb => ?_)), ⟨hz, hTI, ⟨_, _, hTO⟩, k.it_new h1, k'.it_new h2, Nat.ne_of_lt hl, Nat.ne_of_lt (Nat.lt_succ_of_lt hl')⟩, fun c hcm => ?_, B.hK ▸ hp1.here rm1 (wk_zip hq hq' rm1 hds hds')⟩
      · have e : b = p := by simpa using hb
        subst e
        exact hl
      · have e : b = p' := by simpa using hb
        subst e
        exact hl'
      · have e' : c = s1.heap.objs.size + 4 ∨ c = s1.heap.objs.size + 2 ∨ c = s1.heap.objs.size + 3 ∨ c = s1.heap.objs.size ∨ c = s1.heap.objs.size + 1 := by simpa using hcm
        have hle : s1.heap.objs.size ≤ c := by
          rcases e' with z | z | z | z | z
          · rw [z]; exact Nat.le_add_right _ _
          · rw [z]; exact Nat.le_add_right _ _
          · rw [z]; exact Nat.le_add_right _ _
          · rw [z]; exact Nat.le_refl _
          · rw [z]; exact Nat.le_add_right _ _
        exact I1.fpOk hle (I1.hok.fresh hle)
    · exact hp1.elim
end
end IP

/-! IpJ -/
set_option Elab.async false
set_option linter.all false
set_option maxRecDepth 100000
set_option maxHeartbeats 4000000
/-! IpJ: targets, comprehensions. -/
namespace IP
open PySem L2 PyProof.Rows

/-! ### slots -/
theorem wipe_in {σ : L2.St} {j : Nat} : ∀ {vs : List Nat}, j ∈ vs → (wipe σ vs)[j]? = if j < σ.length then some none else none
  | [], h => by cases h
  | v :: vs, h => by
    unfold wipe
    by_cases hv : v = j
    · subst hv
      by_cases hl : v < σ.length
      · rw [List.getElem?_set_self (by rw [wipe_length]; exact hl), if_pos hl]
      · rw [List.getElem?_eq_none (by rw [List.length_set, wipe_length]; omega), if_neg hl]
    · rw [List.getElem?_set_ne hv]
      rcases List.mem_cons.mp h with e | h
      · exact absurd e.symm hv
      · exact wipe_in h
theorem wipe_eq {σ σ' : L2.St} {vs : List Nat} (hl : σ.length = σ'.length) (h : ∀ j, j ∉ vs → σ[j]? = σ'[j]?) : wipe σ vs = wipe σ' vs := by
  refine List.ext_getElem? fun j => ?_
  by_cases hj : j ∈ vs
  · rw [wipe_in hj, wipe_in hj, hl]
  · rw [wipe_out hj, wipe_out hj, h j hj]
theorem wipe_wipe {σ : L2.St} {vs : List Nat} : wipe (wipe σ vs) vs = wipe σ vs := wipe_eq (wipe_length σ vs) fun j hj => wipe_out hj
theorem wipeE_length (e : Ev) : ∀ vs : List Nat, (wipeE e vs).length = e.length
  | [] => rfl
  | v :: vs => by unfold wipeE; rw [List.length_set, wipeE_length e vs]
theorem wipeE_some {e : Ev} {i : Nat} {x : D} : ∀ {vs : List Nat}, (wipeE e vs)[i]? = some (some x) → e[i]? = some (some x) ∧ i ∉ vs
  | [], h => ⟨h, by simp⟩
  | v :: vs, h => by
    unfold wipeE at h
    by_cases hi : v = i
    · subst hi
      by_cases hv : v < (wipeE e vs).length
      · rw [List.getElem?_set_self hv] at h; cases h
      · rw [List.getElem?_eq_none (by simpa using hv)] at h; cases h
    · rw [List.getElem?_set_ne hi] at h
      obtain ⟨h1, h2⟩ := wipeE_some h
      exact ⟨h1, by simp only [List.mem_cons, not_or]; exact ⟨fun e => hi e.symm, h2⟩⟩
section
variable {G : GC} {F H : Hp} {rho : List Addr} {m : Mem} {e e1 : Ev} {σ : L2.St}
theorem RelE.wipe (h : RelE G F rho e σ) (hsl : G.sl = Option.none) (vs : List Nat) : RelE G F rho (wipeE e vs) (L2.wipe σ vs) := ⟨by rw [wipeE_length, wipe_length]; exact h.1, fun i d q => by
  obtain ⟨q1, q2⟩ := wipeE_some q
  obtain ⟨v, e1, e2⟩ := h.2.1 i d q1
  exact ⟨v, by rw [wipe_out q2]; exact e1, e2⟩, SlOk.non hsl⟩
theorem SlOk.set (h : SlOk G F rho σ) {i : Nat} {o : Option V} (hs : ∀ s, G.sl = some s → s.i ≠ i) : SlOk G F rho (σ.set i o) := fun s e => by
  obtain ⟨q1, q2⟩ := h s e
  exact ⟨by rw [List.getElem?_set_ne (Ne.symm (hs s e))]; exact q1, q2⟩
theorem RelE.set (h : RelE G F rho e σ) {d : D} {v : V} (hd : RD G rho F d v) (i : Nat) (hs : ∀ s, G.sl = some s → s.i ≠ i) : RelE G F rho (e.set i (some d)) (σ.set i (some v)) := ⟨by rw [List.length_set, List.length_set]; exact h.1, fun j d' q => by
  by_cases hj : i = j
  · subst hj
    by_cases hl : i < e.length
    · rw [List.getElem?_set_self hl] at q
      cases q
      exact ⟨v, by rw [List.getElem?_set_self (by rw [← h.1]; exact hl)], hd⟩
    · rw [List.getElem?_eq_none (by simpa using hl)] at q
      cases q
  · rw [List.getElem?_set_ne hj] at q
    obtain ⟨w, e1, e2⟩ := h.2.1 j d' q
    exact ⟨w, by rw [List.getElem?_set_ne hj]; exact e1, e2⟩, SlOk.set h.2.2 hs⟩
theorem RelE.clr (h : RelE G F rho e σ) (i : Nat) (o : Option V) (hs : ∀ s, G.sl = some s → s.i ≠ i) : RelE G F rho (e.set i Option.none) (σ.set i o) := ⟨by rw [List.length_set, List.length_set]; exact h.1, fun j d' q => by
  by_cases hj : i = j
  · subst hj
    by_cases hl : i < e.length
    · rw [List.getElem?_set_self hl] at q
      cases q
    · rw [List.getElem?_eq_none (by simpa using hl)] at q
      cases q
  · rw [List.getElem?_set_ne hj] at q
    obtain ⟨w, e1, e2⟩ := h.2.1 j d' q
    exact ⟨w, by rw [List.getElem?_set_ne hj]; exact e1, e2⟩, SlOk.set h.2.2 hs⟩
theorem noSl (hsl : G.sl = Option.none) {i : Nat} : ∀ s, G.sl = some s → s.i ≠ i := fun s e => by
  rw [hsl] at e
  cases e

/-! ### targets -/
def gNames : List Nat → TGs
  | [] => gNil
  | i :: is => gCons (gName i) (gNames is)
def gOf (K : PySem.W.Frag) : Tg → TG
  | .one i => gName i
  | .many is => gTup K is.length (gNames is)
theorem setAll_ok (hsl : G.sl = none) : ∀ {is : List Nat} {ds : List D} {vs : List V} {e e1 : Ev} {σ : L2.St} {Q : L2.St → Hp → Prop}, setAll is ds e = some e1 → RDs G rho F ds vs → RelE G F rho e σ →
    (∀ σ', RelE G F rho e1 σ' → σ'.length = σ.length → (∀ j, j ∉ is → σ'[j]? = σ[j]?) → Q σ' H) → gNames is vs σ H Q
  | [], [], _, _, _, _, _, hb, rd, re, h => by
    cases hb
    cases rd
    exact ⟨rfl, h _ re rfl fun _ _ => rfl⟩
  | [], _ :: _, _, _, _, _, _, hb, _, _, _ => by cases hb
  | _ :: _, [], _, _, _, _, _, hb, _, _, _ => by cases hb
  | i :: is, d :: ds, _, e, e1, σ, Q, hb, rd, re, h => by
    cases rd with
    | @cons _ v _ vs h1 h2 =>
      refine ⟨v, vs, rfl, ?_⟩
      have hb : setAll is ds (e.set i (some d)) = some e1 := hb
      refine setAll_ok hsl hb h2 (re.set h1 i (noSl hsl)) fun σ' re' hl hj => h σ' re' (by rw [hl, List.length_set]) fun j hn => ?_
      rw [hj j fun z => hn (List.mem_cons_of_mem _ z), List.getElem?_set_ne fun z => hn (by rw [z]; exact List.mem_cons_self)]
theorem setAll_len : ∀ {is : List Nat} {ds : List D} {e e1 : Ev}, setAll is ds e = some e1 → ds.length = is.length
  | [], [], _, _, _ => rfl
  | [], _ :: _, _, _, hb => by cases hb
  | _ :: _, [], _, _, hb => by cases hb
  | i :: is, d :: ds, e, e1, hb => by
    have hb : setAll is ds (e.set i (some d)) = some e1 := hb
    rw [List.length_cons, List.length_cons, setAll_len hb]
theorem bindT_ok {K : PySem.W.Frag} (hK : K = G.K) (hsl : G.sl = none) {tg : Tg} {d : D} {v : V} {Q : L2.St → Hp → Prop} (r : RelM G F H rho m) (rd : RD G rho F d v) (re : RelE G F rho e σ) (hb : bindT tg d e = some e1)
    (h : ∀ σ', RelE G F rho e1 σ' → σ'.length = σ.length → (∀ j, j ∉ tgL tg → σ'[j]? = σ[j]?) → Q σ' H) : gOf K tg v σ H Q := by
  cases tg with
  | one i =>
    cases hb
    exact h _ (re.set rd i (noSl hsl)) (by rw [List.length_set]) fun j hj => List.getElem?_set_ne fun z => hj (by rw [z]; exact List.mem_cons_self)
  | many is =>
    cases d with
    | tup xs =>
      obtain ⟨a, vs, rfl, h1, h2⟩ := rd.sqt
      have hb : setAll is xs e = some e1 := hb
      have h1' : SqT G.K H a vs := by
        rcases h1 with h1 | h1
        · exact .inl (r.sub.rd2 h1)
        · exact .inr h1
      exact ⟨a, vs, rfl, hK ▸ h1', by rw [← h2.length]; exact setAll_len hb, setAll_ok hsl hb h2 re h⟩
    | _ => cases hb
end

/-! ### a list that is being made -/
section
variable {G : GC} {F H F0 H0 F1 H1 : Hp} {rho rho0 rho1 : List Addr} {m : Mem}
/-- what is no cell and no part of F may be anything -/
theorem RelM.other (r : RelM G F H rho m) {p : Addr} {o : HO} (h1 : p ∉ rho) (h2 : F p = none) : RelM G F (upd H p o) rho m := by
  refine ⟨⟨fun {a u} e => ?_⟩, r.len, r.nd, fun n a c e1 e2 => ?_, r.off⟩
  · rw [upd_ne (ne_of_none e h2)]
    exact r.sub.at_ e
  · refine (r.cel n a c e1 e2).mono (Grow.refl F) (Beg.refl _) fun _ u e => ?_
    rw [upd_ne fun z => h1 (by rw [← z]; exact List.mem_of_getElem? e1)]
    exact e
theorem Ext.other (x : Ext F0 H0 rho0 F H rho) {p : Addr} {o : HO} (h : H0 p = none) : Ext F0 H0 rho0 F (upd H p o) rho :=
  ⟨x.fr, x.beg, fun a u e n => by rw [upd_ne (ne_of_none e h)]; exact x.keep a u e n, x.new, x.cl⟩
/-- the list at D with acc so far -/
structure CI (G : GC) (D_ : Addr) (F0 H0 : Hp) (rho0 : List Addr) (acc : List D) (m : Mem) (F H : Hp) (rho : List Addr) (accV : List V) : Prop where
  x : Ext F0 H0 rho0 F H rho
  r : RelM G F H rho m
  at_ : H D_ = some (.lst accV)
  nr : D_ ∉ rho
  nf : F D_ = none
  rd : RDs G rho F acc accV
variable {D_ : Addr} {acc : List D} {accV : List V}
theorem CI.start (r : RelM G F0 H0 rho0 m) (h : H0 D_ = none) : CI G D_ F0 H0 rho0 [] m F0 (upd H0 D_ (.lst [])) rho0 [] :=
  ⟨(Ext.refl _ _ _).other h, r.other (r.off' h) (r.notin h), upd_same, r.off' h, r.notin h, .nil⟩
/-- a further step keeps it -/
theorem CI.step (c : CI G D_ F0 H0 rho0 acc m F H rho accV) {m1 : Mem} (x : Ext F H rho F1 H1 rho1) (r : RelM G F1 H1 rho1 m1) : CI G D_ F0 H0 rho0 acc m1 F1 H1 rho1 accV := by
  refine ⟨c.x.trans x, r, x.keep _ _ c.at_ c.nr, fun z => ?_, ?_, x.rds c.r c.rd⟩
  · have := x.new _ z c.nr
    rw [c.at_] at this
    cases this
  · cases q : F1 D_ with
    | none => rfl
    | some u =>
      rcases x.cl _ _ q with e | e | e
      · rw [c.nf] at e; cases e
      · rw [c.at_] at e; cases e
      · exact absurd e c.nr
theorem CI.add (c : CI G D_ F0 H0 rho0 acc m F H rho accV) (h : H0 D_ = none) {d : D} {v : V} (rd : RD G rho F d v) : CI G D_ F0 H0 rho0 (acc ++ [d]) m F (upd H D_ (.lst (accV ++ [v]))) rho (accV ++ [v]) :=
  ⟨c.x.other h, c.r.other c.nr c.nf, upd_same, c.nr, c.nf, c.rd.append (.cons rd .nil)⟩
/-- it is done: the list is a value, or a cell -/
theorem CI.done {W : WX} {σ : L2.St} {Q : VK} {mu : Bool} (c : CI G D_ F0 H0 rho0 acc m F H rho accV) (h : H0 D_ = none) (hp : Post G W σ (RD1 G) F0 H0 rho0 (newM mu acc m) Q) : Q (.ref D_) H := by
  unfold newM at hp
  cases mu with
  | false =>
    have gr : Grow F (upd F D_ (.lst accV)) := Grow.upd c.nf
    have x' : Ext F0 H0 rho0 (upd F D_ (.lst accV)) H rho := ⟨c.x.fr.trans gr, c.x.beg, c.x.keep, c.x.new, fun a u e => by
      by_cases ha : a = D_
      · subst ha
        exact .inr (.inl h)
      · rw [upd_ne ha] at e
        exact c.x.cl a u e⟩
    have r' : RelM G (upd F D_ (.lst accV)) H rho m := by
      refine ⟨⟨fun {a u} e => ?_⟩, c.r.len, c.r.nd, fun n a c' e1 e2 => ?_, fun n a c' e1 e2 e3 => ?_⟩
      · by_cases ha : a = D_
        · subst ha
          rw [upd_same] at e
          cases e
          exact .inl c.at_
        · rw [upd_ne ha] at e
          exact c.r.sub.at_ e
      · exact (c.r.cel n a c' e1 e2).mono gr (Beg.refl _) fun _ _ e => e
      · rw [upd_ne fun z => c.nr (by rw [← z]; exact List.mem_of_getElem? e1)]
        exact c.r.off n a c' e1 e2 e3
    exact hp _ _ _ _ x' r' (.lst upd_same (RDs.mono gr.sub (Beg.refl _) _ _ c.rd))
  | true =>
    have x' : Ext F0 H0 rho0 F H (rho ++ [D_]) := ⟨c.x.fr, c.x.beg.trans (Beg.app _ _), c.x.keep, fun a ha hn => by
      rcases List.mem_append.mp ha with z | z
      · exact c.x.new a z hn
      · have e : a = D_ := by simpa using z
        subst e
        exact h, c.x.cl⟩
    have r' : RelM G F H (rho ++ [D_]) (m ++ [.lst acc]) := by
      refine ⟨c.r.sub, by rw [List.length_append, List.length_append, c.r.len] <;> rfl, ?_, fun n a c' h1 h2 => ?_, fun n a c' h1 h2 h3 => ?_⟩
      · refine List.nodup_append.mpr ⟨c.r.nd, by simp, fun a ha b hb => ?_⟩
        have e : b = D_ := by simpa using hb
        subst e
        exact fun z => c.nr (z ▸ ha)
      · by_cases hn : n < rho.length
        · rw [List.getElem?_append_left hn] at h1
          rw [List.getElem?_append_left (by rw [c.r.len]; exact hn)] at h2
          exact (c.r.cel n a c' h1 h2).mono (Grow.refl F) (Beg.app _ _) fun _ _ e => e
        · have h1' : rho.length ≤ n := Nat.le_of_not_lt hn
          rw [List.getElem?_append_right h1'] at h1
          rw [List.getElem?_append_right (by rw [c.r.len]; exact h1'), c.r.len] at h2
          have hz : n - rho.length = 0 := by
            cases q : n - rho.length with
            | zero => rfl
            | succ k => rw [q] at h1; simp at h1
          rw [hz] at h1 h2
          simp at h1 h2
          subst h1 h2
          exact ⟨accV, c.at_, RDs.mono (Grow.refl F).sub (Beg.app _ _) _ _ c.rd⟩
      · by_cases hn : n < rho.length
        · rw [List.getElem?_append_left hn] at h1
          rw [List.getElem?_append_left (by rw [c.r.len]; exact hn)] at h2
          exact c.r.off n a c' h1 h2 h3
        · have h1' : rho.length ≤ n := Nat.le_of_not_lt hn
          rw [List.getElem?_append_right h1'] at h1
          have hz : n - rho.length = 0 := by
            cases q : n - rho.length with
            | zero => rfl
            | succ k => rw [q] at h1; simp at h1
          rw [hz] at h1
          simp at h1
          subst h1
          exact c.nf
    refine hp _ _ _ _ x' r' (.ref ?_)
    rw [c.r.len]
    simp
theorem newL_newM {mu : Bool} {xs : List D} {m : Mem} {W : WX} {σ : L2.St} {Q : VK} (hp : Post G W σ (RD1 G) F H rho (newL mu xs m) Q) : xs.length ≤ sizeLine ∧ Post G W σ (RD1 G) F H rho (newM mu xs m) Q := by
  unfold newL at hp
  obtain ⟨h1, h2⟩ := Post.ite hp
  exact ⟨of_decide_eq_true h1, h2⟩
end
theorem compL_cons {f : D → Mem → Res (List D)} {d : D} {ds : List D} {m m' : Mem} {ys : List D} (h : compL f (d :: ds) m = .ok ys m') : ∃ y m1 r, f d m = .ok y m1 ∧ compL f ds m1 = .ok r m' ∧ ys = y ++ r := by
  unfold compL at h
  cases h1 : f d m with
  | ok y m1 =>
    rw [h1] at h
    dsimp only at h
    cases h2 : compL f ds m1 with
    | ok r m2 =>
      rw [h2] at h
      cases h
      exact ⟨y, m1, r, rfl, h2, rfl⟩
    | ex x m2 => rw [h2] at h; cases h
    | no => rw [h2] at h; cases h
  | ex x m1 => rw [h1] at h; cases h
  | no => rw [h1] at h; cases h
theorem compL_ex {f : D → Mem → Res (List D)} {x : Exc} : ∀ {ds : List D} {m m' : Mem}, compL f ds m ≠ .ex x m'
  | [], _, _, h => by cases h
  | d :: ds, m, m', h => by
    unfold compL at h
    cases h1 : f d m with
    | ok y m1 =>
      rw [h1] at h
      dsimp only at h
      cases h2 : compL f ds m1 with
      | ok r m2 => rw [h2] at h; cases h
      | ex x m2 => rw [h2] at h; cases h
      | no => rw [h2] at h; cases h
    | ex x m1 => rw [h1] at h; cases h
    | no => rw [h1] at h; cases h
end IP

/-! IpK -/
set_option Elab.async false
set_option linter.all false
set_option maxRecDepth 100000
set_option maxHeartbeats 4000000
/-! IpK: comprehensions. -/
namespace IP
open PySem L2 PyProof.Rows

/-- nothing is raised -/
def WF : WX := fun _ _ _ _ => False
section
variable {G : GC} {W : WX} {g : Gl} {σ : L2.St} {H : Hp} {Q : VK} {K : PySem.W.Frag}
theorem drop_some {α : Type} {xs : List α} {i : Nat} {d : α} (h : xs[i]? = some d) : xs.drop i = d :: xs.drop (i + 1) := by
  obtain ⟨h1, h2⟩ := List.getElem?_eq_some_iff.mp h
  rw [List.drop_eq_getElem_cons h1, h2]
theorem res_bind_ok {α β : Type} {r : Res α} {f : α → Mem → Res β} {b : β} {m : Mem} (h : r.bind f = .ok b m) : ∃ a m1, r = .ok a m1 ∧ f a m1 = .ok b m := by
  cases r with
  | ok a m1 => exact ⟨a, m1, rfl, h⟩
  | ex x m1 => cases h
  | no => cases h
theorem comp_ok (hK : K = G.K) (hcs : g.cur.isNone = true → G.sl = none) {mu : Bool} {elt : E} {tg : Tg} {it : It} {cnd : Oe} {own : List Nat} (ht : ∀ i ∈ tgL tg, i ∈ own) (h : tI G W (RD1 G) (ev g (.comp mu elt tg it cnd own)) σ H Q) :
    tLc (tW G W (evIt g it)) (gOf K tg) (tI G WF REq (evO g cnd)) (tI G WF (RD1 G) (ev g elt)) own σ H Q := by
  obtain ⟨F, rho, m, e, r, re, hp⟩ := h
  rw [ev] at hp
  by_cases hcur : g.cur.isNone = true
  rotate_left
  · rw [if_neg hcur] at hp
    exact hp.elim
  rw [if_pos hcur] at hp
  refine ⟨F, rho, m, e, r, re, ?_⟩
  cases hit : evIt g it e m with
  | no => rw [hit] at hp; exact hp.elim
  | ex x m1 => rw [hit] at hp; exact hp
  | ok xs m1 =>
    rw [hit] at hp
    simp only [Res.bind_ok] at hp
    intro J H1 F1 rho1 x1 r1 wk D_ hD
    have hp1 := hp.ext x1
    have re1 := x1.rde r re
    generalize hf : (fun (d : D) (m2 : Mem) => match bindT tg d (wipeE e own) with
          | some e1 => (evO g cnd e1 m2).bind fun b m3 => (match b with
            | true => (ev g elt e1 m3).bind fun y m4 => .ok [y] m4
            | false => .ok [] m3)
          | none => (Res.no : Res (List D))) = f at hp1
    cases hL : compL f xs m1 with
    | no => rw [hL] at hp1; exact hp1.elim
    | ex x m2 => exact absurd hL compL_ex
    | ok ys mE =>
      rw [hL] at hp1
      simp only [Res.bind_ok] at hp1
      obtain ⟨hlen, hp2⟩ := newL_newM hp1
      let Gd : Hp → Prop := fun H => ∃ F2 rho2 m2, Ext F1 H1 rho1 F2 H rho2 ∧ RelM G F2 H rho2 m2
      let Yd : Nat → Hp → V → Hp → Prop := fun i H x H' => ∀ F2 rho2 m2, Ext F1 H1 rho1 F2 H rho2 → RelM G F2 H rho2 m2 → ∃ F3 d, Ext F2 H rho2 F3 H' rho2 ∧ RelM G F3 H' rho2 m2 ∧ xs[i]? = some d ∧ RD G rho2 F3 d x
      have wlk : Walk J xs.length Gd Yd := ⟨fun i H hi ⟨F2, rho2, m2, x2, r2⟩ => wk.go (x2.onw r1) r2 hi, fun H ⟨F2, rho2, m2, x2, r2⟩ => wk.stop (x2.onw r1) r2, fun i H x H' hi _ y F2 rho2 m2 x2 r2 => wk.yld (x2.onw r1) r2 hi y⟩
      let Pv : Nat → Hp → Prop := fun i H => ∃ acc m2 F2 rho2 accV rest, CI G D_ F1 H1 rho1 acc m2 F2 H rho2 accV ∧ compL f (xs.drop i) m2 = .ok rest mE ∧ acc ++ rest = ys
      refine lc_it wlk (Pv := Pv) ⟨[], m1, F1, rho1, [], ys, CI.start r1 hD, by rw [List.drop_zero]; exact hL, rfl⟩ (fun i H _ ⟨acc, m2, F2, rho2, accV, rest, c, _⟩ => ⟨F2, rho2, m2, c.x, c.r⟩) (fun i x H H' hi ⟨acc, m2, F2, rho2, accV, rest, c, e1, e2⟩ y => ?_) fun H ⟨acc, m2, F2, rho2, accV, rest, c, e1, e2⟩ => ?_
      · obtain ⟨F3, d, x3, r3, ed, rd⟩ := y F2 rho2 m2 c.x c.r
        have c3 := c.step x3 r3
        rw [drop_some ed] at e1
        obtain ⟨y1, m3, rest', f1, f2, f3⟩ := compL_cons e1
        rw [← hf] at f1
        dsimp only at f1
        cases hb : bindT tg d (wipeE e own) with
        | none => rw [hb] at f1; cases f1
        | some e3 =>
          rw [hb] at f1
          dsimp only at f1
          have re3 : RelE G F3 rho2 (wipeE e own) (wipe σ own) := (c3.x.rde r1 re1).wipe (hcs hcur) own
          refine bindT_ok hK (hcs hcur) r3 rd re3 hb fun σ' re4 hl hj => ⟨?_, ?_⟩
          · have e5 : wipe σ' own = wipe (wipe σ own) own := wipe_eq hl fun j hn => hj j fun z => hn (ht j z)
            rw [e5, wipe_wipe]
          · obtain ⟨b, m4, g1, g2⟩ := res_bind_ok f1
            refine ⟨F3, rho2, m2, e3, r3, re4, ?_⟩
            rw [g1]
            intro b' H4 F4 rho4 x4 r4 eb
            cases eb
            have c4 := c3.step x4 r4
            cases b with
            | false =>
              cases g2
              exact iteF ⟨acc, _, F4, rho4, accV, rest', c4, f2, by rw [← e2, f3]; rfl⟩
            | true =>
              refine iteT ?_
              obtain ⟨yd, m5, k1, k2⟩ := res_bind_ok g2
              cases k2
              refine ⟨F4, rho4, m4, e3, r4, x4.rde r3 re4, ?_⟩
              rw [k1]
              intro yv H5 F5 rho5 x5 r5 rd5
              have c5 := c4.step x5 r5
              refine ⟨accV, c5.at_, ?_, acc ++ [yd], m3, F5, rho5, accV ++ [yv], rest', c5.add hD rd5, f2, by rw [← e2, f3]; simp⟩
              have hl5 := c5.rd.length
              have e6 : ys.length = acc.length + (1 + rest'.length) := by
                rw [← e2, f3]
                simp
                omega
              omega
      · rw [List.drop_length] at e1
        cases e1
        rw [List.append_nil] at e2
        subst e2
        exact c.done hD hp2
theorem comp2_ok (hK : K = G.K) (hcs : g.cur.isNone = true → G.sl = none) {mu : Bool} {elt : E} {tg tg2 : Tg} {it it2 : It} {cnd : Oe} {own : List Nat} (ht : ∀ i ∈ tgL tg, i ∈ own) (h : tI G W (RD1 G) (ev g (.comp2 mu elt tg it tg2 it2 cnd own)) σ H Q) :
    tLc2 (tW G W (evIt g it)) (gOf K tg) tYes (tW G WF (evIt g it2)) (gOf K tg2) (tI G WF REq (evO g cnd)) (tI G WF (RD1 G) (ev g elt)) own (tgL tg2) σ H Q := by
  obtain ⟨F, rho, m, e, r, re, hp⟩ := h
  rw [ev] at hp
  by_cases hcur : g.cur.isNone = true
  rotate_left
  · rw [if_neg hcur] at hp
    exact hp.elim
  rw [if_pos hcur] at hp
  refine ⟨F, rho, m, e, r, re, ?_⟩
  cases hit : evIt g it e m with
  | no => rw [hit] at hp; exact hp.elim
  | ex x m1 => rw [hit] at hp; exact hp
  | ok xs m1 =>
    rw [hit] at hp
    simp only [Res.bind_ok] at hp
    intro J H1 F1 rho1 x1 r1 wk D_ hD
    have hp1 := hp.ext x1
    have re1 := x1.rde r re
    generalize hf : (fun (d : D) (m2 : Mem) => match bindT tg d (wipeE e own) with
        | some e1 => (evIt g it2 e1 m2).bind fun zs m3 => compL (fun d2 m4 => match bindT tg2 d2 (wipeE e1 (tgL tg2)) with
          | some e2 => (evO g cnd e2 m4).bind fun b m5 => (match b with
            | true => (ev g elt e2 m5).bind fun y m6 => .ok [y] m6
            | false => .ok [] m5)
          | none => (Res.no : Res (List D))) zs m3
        | none => (Res.no : Res (List D))) = f at hp1
    cases hL : compL f xs m1 with
    | no => rw [hL] at hp1; exact hp1.elim
    | ex x m2 => exact absurd hL compL_ex
    | ok ys mE =>
      rw [hL] at hp1
      simp only [Res.bind_ok] at hp1
      obtain ⟨hlen, hp2⟩ := newL_newM hp1
      let Pv : Nat → Hp → Prop := fun i H => ∃ acc m2 F2 rho2 accV rest, CI G D_ F1 H1 rho1 acc m2 F2 H rho2 accV ∧ compL f (xs.drop i) m2 = .ok rest mE ∧ acc ++ rest = ys
      refine ⟨fun i m H => m = xs.length - i ∧ i ≤ xs.length ∧ Pv i H, ⟨xs.length, by simp, Nat.zero_le _, [], m1, F1, rho1, [], ys, CI.start r1 hD, by rw [List.drop_zero]; exact hL, rfl⟩, ?_⟩
      rintro i _ H ⟨rfl, hi, acc, m2, F2, rho2, accV, rest, c, e1, e2⟩
      by_cases hlt : i < xs.length
      rotate_left
      · have hin : i = xs.length := by omega
        subst hin
        rw [List.drop_length] at e1
        cases e1
        rw [List.append_nil] at e2
        subst e2
        exact .inl ⟨wk.stop (c.x.onw r1) c.r, c.done hD hp2⟩
      refine .inr ⟨wk.go (c.x.onw r1) c.r hlt, Pv (i + 1), fun H' p' => ⟨xs.length - (i + 1), by omega, rfl, hlt, p'⟩, fun x H' y => ?_⟩
      obtain ⟨F3, d, x3, r3, ed, rd⟩ := wk.yld (c.x.onw r1) c.r hlt y
      have c3 := c.step x3 r3
      rw [drop_some ed] at e1
      obtain ⟨y1, m3, rest', f1, f2, f3⟩ := compL_cons e1
      rw [← hf] at f1
      dsimp only at f1
      cases hb : bindT tg d (wipeE e own) with
      | none => rw [hb] at f1; cases f1
      | some e3 =>
        rw [hb] at f1
        dsimp only at f1
        have re3 : RelE G F3 rho2 (wipeE e own) (wipe σ own) := (c3.x.rde r1 re1).wipe (hcs hcur) own
        refine bindT_ok hK (hcs hcur) r3 rd re3 hb fun σ' re4 hl hj => ⟨?_, ?_⟩
        · have e5 : wipe σ' own = wipe (wipe σ own) own := wipe_eq hl fun j hn => hj j fun z => hn (ht j z)
          rw [e5, wipe_wipe]
        · refine iteT (B := Pv (i + 1) H') ?_
          obtain ⟨zs, m4, g1, g2⟩ := res_bind_ok f1
          refine ⟨F3, rho2, m2, e3, r3, re4, ?_⟩
          rw [g1]
          intro J2 H4 F4 rho4 x4 r4 wk2
          have c4 := c3.step x4 r4
          have re5 := x4.rde r3 re4
          generalize hf2 : (fun (d2 : D) (m4 : Mem) => match bindT tg2 d2 (wipeE e3 (tgL tg2)) with
            | some e2 => (evO g cnd e2 m4).bind fun b m5 => (match b with
              | true => (ev g elt e2 m5).bind fun y m6 => .ok [y] m6
              | false => .ok [] m5)
            | none => (Res.no : Res (List D))) = fi at g2
          let Pi : Nat → Hp → Prop := fun j H => ∃ acc' m5 F5 rho5 accV' rest2, CI G D_ F1 H1 rho1 acc' m5 F5 H rho5 accV' ∧ Onw F4 H4 rho4 F5 H rho5 ∧ compL fi (zs.drop j) m5 = .ok rest2 m3 ∧ acc' ++ rest2 = acc ++ y1
          refine ⟨fun j k H => k = zs.length - j ∧ j ≤ zs.length ∧ Pi j H, ⟨zs.length, by simp, Nat.zero_le _, acc, m4, F4, rho4, accV, y1, c4, (Ext.refl _ _ _).onw r4, by rw [List.drop_zero]; exact g2, rfl⟩, ?_⟩
          rintro j _ H ⟨rfl, hj2, acc', m5, F5, rho5, accV', rest2, c5, x5, k1, k2⟩
          by_cases hlt2 : j < zs.length
          rotate_left
          · have hin : j = zs.length := by omega
            subst hin
            rw [List.drop_length] at k1
            cases k1
            rw [List.append_nil] at k2
            subst k2
            exact .inl ⟨wk2.stop x5 c5.r, acc ++ y1, _, F5, rho5, accV', rest', c5, f2, by rw [← e2, f3, List.append_assoc]⟩
          refine .inr ⟨wk2.go x5 c5.r hlt2, Pi (j + 1), fun H' p' => ⟨zs.length - (j + 1), by omega, rfl, hlt2, p'⟩, fun x' H' y' => ?_⟩
          obtain ⟨F6, d2, x6, r6, ed2, rd2⟩ := wk2.yld x5 c5.r hlt2 y'
          have c6 := c5.step x6 r6
          have o6 := x5.trans (x6.onw c5.r)
          rw [drop_some ed2] at k1
          obtain ⟨y2, m6, rest3, p1, p2, p3⟩ := compL_cons k1
          rw [← hf2] at p1
          dsimp only at p1
          cases hb2 : bindT tg2 d2 (wipeE e3 (tgL tg2)) with
          | none => rw [hb2] at p1; cases p1
          | some e4 =>
            rw [hb2] at p1
            dsimp only at p1
            have re6 : RelE G F6 rho5 (wipeE e3 (tgL tg2)) (wipe σ' (tgL tg2)) := (o6.rde re5).wipe (hcs hcur) _
            refine bindT_ok hK (hcs hcur) r6 rd2 re6 hb2 fun σ'' re7 hl2 hj3 => ⟨?_, ?_⟩
            · have e5 : wipe σ'' (tgL tg2) = wipe (wipe σ' (tgL tg2)) (tgL tg2) := wipe_eq hl2 fun j hn => hj3 j hn
              rw [e5, wipe_wipe]
            · obtain ⟨b, m7, q1, q2⟩ := res_bind_ok p1
              refine ⟨F6, rho5, m5, e4, r6, re7, ?_⟩
              rw [q1]
              intro b' H7 F7 rho7 x7 r7 eb
              cases eb
              have c7 := c6.step x7 r7
              have o7 := o6.trans (x7.onw r6)
              cases b with
              | false =>
                cases q2
                exact iteF ⟨acc', _, F7, rho7, accV', rest3, c7, o7, p2, by rw [← k2, p3]; rfl⟩
              | true =>
                refine iteT ?_
                obtain ⟨yd, m8, t1, t2⟩ := res_bind_ok q2
                cases t2
                refine ⟨F7, rho7, m7, e4, r7, x7.rde r6 re7, ?_⟩
                rw [t1]
                intro yv H8 F8 rho8 x8 r8 rd8
                have c8 := c7.step x8 r8
                have o8 := o7.trans (x8.onw r7)
                refine ⟨accV', c8.at_, ?_, acc' ++ [yd], _, F8, rho8, accV' ++ [yv], rest3, c8.add hD rd8, o8.other c4.nf, p2, by rw [← k2, p3]; simp⟩
                have hl5 := c8.rd.length
                have e6 : ys.length = acc'.length + (1 + rest3.length) + rest'.length := by
                  rw [← e2, f3, ← List.append_assoc, ← k2, p3]
                  simp
                  omega
                omega
end
end IP

/-! IpL -/
set_option Elab.async false
set_option linter.all false
set_option maxRecDepth 100000
set_option maxHeartbeats 4000000
/-! IpL: statements. -/
namespace IP
open PySem L2 PyProof.Rows

/-- behind a statement -/
def PostS (G : GC) (W : WX) (F H : Hp) (rho : List Addr) (r : Rs) (D : Ends) : Prop := match r with
  | .nx e m => ∀ (σ' : L2.St) (H' F' : Hp) (rho' : List Addr), Ext F H rho F' H' rho' → RelM G F' H' rho' m → RelE G F' rho' e σ' → D.nx σ' H'
  | .bk e m => ∀ (σ' : L2.St) (H' F' : Hp) (rho' : List Addr), Ext F H rho F' H' rho' → RelM G F' H' rho' m → RelE G F' rho' e σ' → D.bk σ' H'
  | .ct e m => ∀ (σ' : L2.St) (H' F' : Hp) (rho' : List Addr), Ext F H rho F' H' rho' → RelM G F' H' rho' m → RelE G F' rho' e σ' → D.ct σ' H'
  | .rt d m => ∀ (v : V) (H' F' : Hp) (rho' : List Addr), Ext F H rho F' H' rho' → RelM G F' H' rho' m → RD G rho' F' d v → D.rt v H'
  | .ex x e m => ∀ (c : Value) (dd : Option Addr) (σ' : L2.St) (H' F' : Hp) (rho' : List Addr), Ext F H rho F' H' rho' → RelM G F' H' rho' m → RelE G F' rho' e σ' → RX G F' H' rho' x c dd → W c dd σ' H'
  | .no => False
section
variable {G : GC} {W : WX} {σ : L2.St} {F H : Hp} {rho : List Addr} {D : Ends}
theorem PostS.ext {F1 H1 : Hp} {rho1 : List Addr} {r : Rs} (h : PostS G W F H rho r D) (x : Ext F H rho F1 H1 rho1) : PostS G W F1 H1 rho1 r D := by
  cases r with
  | nx e m => exact fun σ' H' F' rho' x' => h σ' H' F' rho' (x.trans x')
  | bk e m => exact fun σ' H' F' rho' x' => h σ' H' F' rho' (x.trans x')
  | ct e m => exact fun σ' H' F' rho' x' => h σ' H' F' rho' (x.trans x')
  | rt d m => exact fun v H' F' rho' x' => h v H' F' rho' (x.trans x')
  | ex y e m => exact fun c dd σ' H' F' rho' x' => h c dd σ' H' F' rho' (x.trans x')
  | no => exact h
theorem PostS.imp {D' : Ends} {W' : WX} {r : Rs} (h : PostS G W F H rho r D) (h1 : ∀ σ H, D.nx σ H → D'.nx σ H) (h2 : ∀ v H, D.rt v H → D'.rt v H) (h3 : ∀ σ H, D.bk σ H → D'.bk σ H) (h4 : ∀ σ H, D.ct σ H → D'.ct σ H) (h5 : ∀ c d σ H, W c d σ H → W' c d σ H) : PostS G W' F H rho r D' := by
  cases r with
  | nx e m => exact fun σ' H' F' rho' x' r' e' => h1 _ _ (h σ' H' F' rho' x' r' e')
  | bk e m => exact fun σ' H' F' rho' x' r' e' => h3 _ _ (h σ' H' F' rho' x' r' e')
  | ct e m => exact fun σ' H' F' rho' x' r' e' => h4 _ _ (h σ' H' F' rho' x' r' e')
  | rt d m => exact fun v H' F' rho' x' r' d' => h2 _ _ (h v H' F' rho' x' r' d')
  | ex y e m => exact fun c dd σ' H' F' rho' x' r' e' rx => h5 _ _ _ _ (h c dd σ' H' F' rho' x' r' e' rx)
  | no => exact h
/-- behind an expression -/
theorem PostS.go {α β : Type} {R1 : Hp → List Addr → α → β → Prop} {r : Res α} {e : Ev} {k : α → Mem → Rs} {m : Mem} (rm : RelM G F H rho m) (re : RelE G F rho e σ) (h : PostS G W F H rho (r.go e k) D) :
    Post G W σ R1 F H rho r fun v H1 => At G R1 F H rho v H1 fun F1 rho1 d m1 => PostS G W F1 H1 rho1 (k d m1) D := by
  cases r with
  | ok d m => exact fun v H' F' rho' x' r' rr => ⟨F', rho', d, m, x', r', rr, PostS.ext h x'⟩
  | ex y m => exact fun c dd H' F' rho' x' r' rx => h c dd σ H' F' rho' x' r' (x'.rde rm re) rx
  | no => exact h
theorem PostS.here {e : Ev} {m : Mem} (h : PostS G W F H rho (.nx e m) D) (r : RelM G F H rho m) (re : RelE G F rho e σ) : D.nx σ H := h σ H F rho (Ext.refl _ _ _) r re
theorem PostS.ite {c : Prop} [Decidable c] {r : Rs} (h : PostS G W F H rho (if c then r else .no) D) : c ∧ PostS G W F H rho r D := by
  by_cases hc : c
  · rw [if_pos hc] at h
    exact ⟨hc, h⟩
  · rw [if_neg hc] at h
    exact h.elim
end
/-- the reading of a statement that comes to f -/
def tS (G : GC) (W : WX) (f : Ev → Mem → Rs) : TS := fun D σ H =>
  ∃ (F : Hp) (rho : List Addr) (m : Mem) (e : Ev), RelM G F H rho m ∧ RelE G F rho e σ ∧ PostS G W F H rho (f e m) D
theorem tS.mk {G : GC} {W : WX} {f : Ev → Mem → Rs} {D : Ends} {σ : L2.St} {F H : Hp} {rho : List Addr} {m : Mem} {e : Ev} (r : RelM G F H rho m) (re : RelE G F rho e σ) (h : PostS G W F H rho (f e m) D) : tS G W f D σ H := ⟨F, rho, m, e, r, re, h⟩
theorem _root_.L2.PS.imp {X : Cx} {s : Stmt} {t t' : TS} (h : PS X s t) (hi : ∀ D σ H, t' D σ H → t D σ H) : PS X s t' := ⟨fun pins s σ H D I q => h.run pins s σ H D I (hi D σ H q)⟩
theorem _root_.L2.PSs.imp {X : Cx} {s : List Stmt} {t t' : TS} (h : PSs X s t) (hi : ∀ D σ H, t' D σ H → t D σ H) : PSs X s t' := ⟨fun pins s σ H D I q => h.run pins s σ H D I (hi D σ H q)⟩
abbrev SS (X : Cx) (G : GC) (W : WX) (g : Gl) (xn : String → Option (List String)) (st : Stmt) (s : S) : Prop := PS X st (tS G W (evS g xn s))
abbrev SSs (X : Cx) (G : GC) (W : WX) (g : Gl) (xn : String → Option (List String)) (st : List Stmt) (s : Ss) : Prop := PSs X st (tS G W (evSs g xn s))

/-! ### storing -/
section
variable {G : GC} {F H : Hp} {rho : List Addr} {m : Mem}
/-- a cell is written -/
theorem RelM.write (r : RelM G F H rho m) {n : Nat} {a : Addr} {c c' : MO} {o : HO} (h1 : rho[n]? = some a) (h2 : m[n]? = some c) (hd : c ≠ .dead) (hc : Cel G rho F (upd H a o) a c') : RelM G F (upd H a o) rho (m.set n c') ∧ Ext F H rho F (upd H a o) rho := by
  have hF := r.off n a c h1 h2 hd
  have ha : a ∈ rho := List.mem_of_getElem? h1
  refine ⟨⟨⟨fun {b u} e => ?_⟩, by rw [List.length_set]; exact r.len, r.nd, fun j b c'' e1 e2 => ?_, fun j b c'' e1 e2 e3 => ?_⟩, ⟨Grow.refl F, Beg.refl rho, fun b u e hb => ?_, fun b hb hn => absurd hb hn, fun b u e => .inl e⟩⟩
  · rw [upd_ne (ne_of_none e hF)]
    exact r.sub.at_ e
  · by_cases hj : n = j
    · subst hj
      rw [h1] at e1
      cases e1
      have hl : n < m.length := (List.getElem?_eq_some_iff.mp h2).1
      rw [List.getElem?_set_self hl] at e2
      cases e2
      exact hc
    · rw [List.getElem?_set_ne hj] at e2
      refine (r.cel j b c'' e1 e2).mono (Grow.refl F) (Beg.refl _) fun _ u e => ?_
      rw [upd_ne fun z => hj ?_]
      · exact e
      · subst z
        obtain ⟨l1, q1⟩ := List.getElem?_eq_some_iff.mp h1
        obtain ⟨l2, q2⟩ := List.getElem?_eq_some_iff.mp e1
        exact (List.getElem_inj r.nd).mp (q1.trans q2.symm)
  · by_cases hj : n = j
    · subst hj
      rw [h1] at e1
      cases e1
      exact hF
    · rw [List.getElem?_set_ne hj] at e2
      exact r.off j b c'' e1 e2 e3
  · rw [upd_ne fun z => hb (by rw [z]; exact ha)]
    exact e
end
theorem putF_rd {G : GC} {rho : List Addr} {F : Hp} {f : String} {d : D} {y : V} (hd : RD G rho F d y) : ∀ {fs : List (String × D)} {vs : List (Str × V)}, RDf G rho F fs vs → RDf G rho F (putD f d fs) (putF (Str.ofString f) y vs)
  | _, _, .nil => .cons hd .nil
  | _, _, .cons (f := g) (ds := ds) (vs := vs) h t => by
    unfold putD putF
    by_cases hg : g = f
    · subst hg
      rw [if_pos rfl, if_pos rfl]
      exact .cons hd t
    · rw [if_neg hg, if_neg fun z => hg (ofString_inj z)]
      exact .cons h (putF_rd hd t)

section
variable {X : Cx} {G : GC} {W : WX} {g : Gl} {xn : String → Option (List String)} {a b c o : E} {ea eb ec eo : Expr} {pos : Pos}
theorem ss_expr (ha : SE X G W g ea a) (hs : swapsWith ea none pos.line X.env = pure false) : SS X G W g xn (.Expr ea pos) (.expr a) := by
  refine (ps_expr ha hs).imp fun D σ H h => ?_
  obtain ⟨F, rho, m, e, r, re, hp⟩ := h
  rw [evS] at hp
  refine tI.mk r re ((PostS.go (R1 := RD1 G) r re hp).imp fun v H' ⟨F1, rho1, d, m1, x1, r1, rr, hp1⟩ => ?_)
  exact hp1.here r1 (x1.rde r re)
theorem ss_set {i : Nat} {x : Str} {p : Pos} (hsl : ∀ s, G.sl = some s → s.i ≠ i) (hN : X.N.Nodup) (hi : X.N[i]? = some x) (hx : Loc X.env.scope x) (hf : X.fn x = true ∨ X.env.scope.names.lookup x = some .local) (ha : SE X G W g ea a) (hs : swapsWith ea (some (.Name x p)) pos.line X.env = pure false) :
    SS X G W g xn (.Assign [.Name x p] ea pos) (.set i a) := by
  refine (ps_set hN hi hx ha hs hf).imp fun D σ H h => ?_
  obtain ⟨F, rho, m, e, r, re, hp⟩ := h
  rw [evS] at hp
  refine tI.mk r re ((PostS.go (R1 := RD1 G) r re hp).imp fun v H' ⟨F1, rho1, d, m1, x1, r1, rr, hp1⟩ => ?_)
  exact hp1.here r1 ((x1.rde r re).set rr i hsl)
/-- name = [..], by what the list comprehension's reading asks -/
theorem set_lc {i : Nat} (hsl : ∀ s, G.sl = some s → s.i ≠ i) {D : Ends} {σ : L2.St} {H : Hp} {E : E} {T : TE} (hT : ∀ {Q : VK}, tI G W (RD1 G) (ev g E) σ H Q → T σ H Q) (h : tS G W (evS g xn (.set i E)) D σ H) : tAsg T (gName i) D σ H := by
  obtain ⟨F, rho, m, e, r, re, hp⟩ := h
  rw [evS] at hp
  refine hT (tI.mk r re ((PostS.go (R1 := RD1 G) r re hp).imp fun v H' ⟨F1, rho1, d, m1, x1, r1, rr, hp1⟩ => ?_))
  exact hp1.here r1 ((x1.rde r re).set rr i hsl)
theorem ss_unp {tg : Expr} {is : List Nat} (hK : X.K = G.K) (hcs : g.cur.isNone = true → G.sl = none) (hg : PG X tg (gOf X.K (.many is))) (ha : SE X G W g ea a) (hs : swapsWithSole [tg] ea pos.line X.env = pure false) (hw : swappedStores [tg] ea X.env = pure none) (h1 : (assignEach [tg] X.env).map (·.2) = [assign tg X.env]) :
    SS X G W g xn (.Assign [tg] ea pos) (.unp is a) := by
  refine (ps_asg ha hg hs hw h1).imp fun D σ H h => ?_
  obtain ⟨F, rho, m, e, r, re, hp⟩ := h
  rw [evS] at hp
  by_cases hcur : g.cur.isNone = true
  rotate_left
  · rw [if_neg hcur] at hp
    exact hp.elim
  rw [if_pos hcur] at hp
  refine tI.mk r re ((PostS.go (R1 := RD1 G) r re hp).imp fun v H' ⟨F1, rho1, d, m1, x1, r1, rr, hp1⟩ => ?_)
  dsimp only at hp1
  cases hb : bindT (.many is) d e with
  | none => rw [hb] at hp1; exact hp1.elim
  | some e1 =>
    rw [hb] at hp1
    exact bindT_ok hK (hcs hcur) r1 rr (x1.rde r re) hb fun σ' re' _ _ => hp1.here r1 re'
theorem ss_par {i j : Nat} (hcs : g.cur.isNone = true → G.sl = none) {x y : Str} {px py pt pt2 : Pos} {kt k2 : Nat} (hc : X.calm = true) (hN : X.N.Nodup) (hi : X.N[i]? = some x) (hj : X.N[j]? = some y) (hij : i ≠ j) (hx : X.env.scope.names.lookup x = some .local) (hy : X.env.scope.names.lookup y = some .local)
    (ha : SE X G W g ea a) (hb : SE X G W g eb b) (hna : notStar ea = true) (hnb : notStar eb = true) (hw : swappedStores [.Tuple [.Name x px, .Name y py] kt pt] (.Tuple [ea, eb] k2 pt2) X.env = pure (some [x, y])) (hs : swapsWithSole [.Tuple [.Name x px, .Name y py] kt pt] (.Tuple [ea, eb] k2 pt2) pos.line X.env = pure false) :
    SS X G W g xn (.Assign [.Tuple [.Name x px, .Name y py] kt pt] (.Tuple [ea, eb] k2 pt2) pos) (.par i j a b) := by
  refine (ps_par hc hN hi hj hij hx hy (sa_one ha (sa_one hb sa_nil hnb) hna) hw hs).imp fun D σ H h => ?_
  obtain ⟨F, rho, m, e, r, re, hp⟩ := h
  rw [evS] at hp
  by_cases hcur : g.cur.isNone = true
  rotate_left
  · rw [if_neg hcur] at hp
    exact hp.elim
  rw [if_pos hcur] at hp
  refine tI.mk r re ?_
  rw [evs]
  cases h1 : ev g a e m with
  | no => rw [h1] at hp; exact hp.elim
  | ex y m1 =>
    rw [h1] at hp
    exact fun c dd H' F' rho' x' r' rx => hp c dd σ H' F' rho' x' r' (x'.rde r re) rx
  | ok d1 m1 =>
    rw [h1] at hp
    simp only [Res.bind_ok, Res.go_ok] at hp ⊢
    rw [evs]
    cases h2 : ev g b e m1 with
    | no => rw [h2] at hp; exact hp.elim
    | ex y m2 =>
      rw [h2] at hp
      exact fun c dd H' F' rho' x' r' rx => hp c dd σ H' F' rho' x' r' (x'.rde r re) rx
    | ok d2 m2 =>
      rw [h2] at hp
      simp only [Res.bind_ok, Res.go_ok] at hp ⊢
      rw [evs]
      simp only [Res.bind_ok]
      intro vs H' F' rho' x' r' rd
      obtain ⟨v, w, rfl, q1, q2⟩ := two_of rd
      exact ⟨v, w, rfl, hp _ _ _ _ x' r' (((x'.rde r re).set q1 i (noSl (hcs hcur))).set q2 j (noSl (hcs hcur)))⟩
theorem ss_ret (ha : SE X G W g ea a) : SS X G W g xn (.Return (some ea) pos) (.ret a) := by
  refine (ps_ret ha).imp fun D σ H h => ?_
  obtain ⟨F, rho, m, e, r, re, hp⟩ := h
  rw [evS] at hp
  refine tI.mk r re ((PostS.go (R1 := RD1 G) r re hp).imp fun v H' ⟨F1, rho1, d, m1, x1, r1, rr, hp1⟩ => ?_)
  exact hp1 _ _ _ _ (Ext.refl _ _ _) r1 rr
theorem ss_ret0 : SS X G W g xn (.Return none pos) .ret0 := by
  refine ps_retN.imp fun D σ H h => ?_
  obtain ⟨F, rho, m, e, r, re, hp⟩ := h
  rw [evS] at hp
  exact hp _ _ _ _ (Ext.refl _ _ _) r .non
theorem ss_pass : SS X G W g xn (.Pass pos) .pass := by
  refine ps_pass.imp fun D σ H h => ?_
  obtain ⟨F, rho, m, e, r, re, hp⟩ := h
  rw [evS] at hp
  exact hp.here r re
theorem ss_brk : SS X G W g xn (.Break pos) .brk := by
  refine ps_break.imp fun D σ H h => ?_
  obtain ⟨F, rho, m, e, r, re, hp⟩ := h
  rw [evS] at hp
  exact hp _ _ _ _ (Ext.refl _ _ _) r re
theorem ss_cnt : SS X G W g xn (.Continue pos) .cnt := by
  refine ps_continue.imp fun D σ H h => ?_
  obtain ⟨F, rho, m, e, r, re, hp⟩ := h
  rw [evS] at hp
  exact hp _ _ _ _ (Ext.refl _ _ _) r re
theorem sss_nil : SSs X G W g xn [] .nil := by
  refine pss_nil.imp fun D σ H h => ?_
  obtain ⟨F, rho, m, e, r, re, hp⟩ := h
  rw [evSs] at hp
  exact hp.here r re
theorem sss_cons {st : Stmt} {rest : List Stmt} {s : S} {ss : Ss} (h1 : SS X G W g xn st s) (h2 : SSs X G W g xn rest ss) : SSs X G W g xn (st :: rest) (.cons s ss) := by
  refine (pss_cons h1 h2).imp fun D σ H h => ?_
  obtain ⟨F, rho, m, e, r, re, hp⟩ := h
  rw [evSs] at hp
  refine tS.mk r re ?_
  cases hs : evS g xn s e m with
  | nx e1 m1 =>
    rw [hs] at hp
    intro σ' H' F' rho' x' r' re'
    exact tS.mk r' re' (PostS.ext hp x')
  | bk e1 m1 => rw [hs] at hp; exact hp
  | ct e1 m1 => rw [hs] at hp; exact hp
  | rt d m1 => rw [hs] at hp; exact hp
  | ex y e1 m1 => rw [hs] at hp; exact hp
  | no => rw [hs] at hp; exact hp.elim
theorem ss_if {t u : List Stmt} {st su : Ss} (hc : ST X G W g ec c) (ht : SSs X G W g xn t st) (hu : SSs X G W g xn u su) : SS X G W g xn (.If ec t u pos) (.ifs c st su) := by
  refine (ps_if hc ht hu).imp fun D σ H h => ?_
  obtain ⟨F, rho, m, e, r, re, hp⟩ := h
  rw [evS] at hp
  refine tI.mk r re ((PostS.go (R1 := REq) r re hp).imp fun v H' ⟨F1, rho1, d, m1, x1, r1, rr, hp1⟩ => ?_)
  cases rr
  cases v with
  | true => exact iteT (tS.mk r1 (x1.rde r re) hp1)
  | false => exact iteF (tS.mk r1 (x1.rde r re) hp1)
theorem ss_app {p cpos : Pos} (ho : SE X G W g eo o) (ha : SE X G W g ea a) (hn : notStar ea = true) (hbase : attributeBase eo "append" X.env (eval eo X.env) = eval eo X.env) (hline : (p.endLine == cpos.line) = true) :
    SS X G W g xn (.Expr (.Call (.Attribute eo "append" p) [ea] [] cpos) pos) (.app o a) := by
  have pe := pe_bm (cpos := cpos) (apos := p) PySem.F.plainAttrs_list PySem.F.slot_list_append PySem.F.type_list_append mt_append ho (sa_one ha sa_nil hn) hbase (by rw [sta1 hn]; rfl) hline (starEach_of hn) rfl
  refine (ps_expr pe rfl).imp fun D σ H h => ?_
  obtain ⟨F, rho, m, e, r, re, hp⟩ := h
  rw [evS] at hp
  refine tI.mk r re ((PostS.go (R1 := RD1 G) r re hp).imp fun v H' ⟨F1, rho1, d, m1, x1, r1, rr, hp1⟩ => ?_)
  have re1 := x1.rde r re
  cases d with
  | ref n =>
    dsimp only at hp1
    cases rr with
    | @ref _ p h1 =>
      obtain ⟨hl, hp2⟩ := PostS.ite hp1
      refine ⟨?_, ?_⟩
      · cases h2 : m1[n]? with
        | none => rw [h2] at hl; cases hl
        | some cc =>
          rw [h2] at hl
          cases cc with
          | lst xs =>
            obtain ⟨vs, e1, e2⟩ := r1.cel n p _ h1 h2
            exact .inl ⟨rfl, _, SqL.of e1⟩
          | _ => cases hl
      · refine tI.mk r1 re1 ?_
        rw [evs]
        have key := PostS.go (R1 := RD1 G) r1 re1 hp2
        cases hv : ev g a e m1 with
        | no => rw [hv] at key; exact key.elim
        | ex y m2 => rw [hv] at key; exact key
        | ok d2 m2 =>
          rw [hv] at key
          simp only [Res.bind_ok]
          rw [evs]
          simp only [Res.bind_ok]
          intro vs H2 F2 rho2 x2 r2 rd
          obtain ⟨w, rfl, rw'⟩ := one_of rd
          obtain ⟨F3, rho3, d3, m3, x3, r3, rr3, hp3⟩ := key w H2 F2 rho2 x2 r2 rw'
          have h1' := x3.beg n p h1
          cases h2 : m3[n]? with
          | none => rw [h2] at hp3; exact hp3.elim
          | some cc =>
            cases cc with
            | lst xs =>
              rw [h2] at hp3
              obtain ⟨hlt, hp4⟩ := PostS.ite hp3
              obtain ⟨us, e1, e2⟩ := r3.cel n p _ h1' h2
              refine ⟨p, us, w, rfl, rfl, e1, by rw [← e2.length]; exact of_decide_eq_true hlt, ?_⟩
              obtain ⟨r4, x4⟩ := r3.write (o := .lst (us ++ [w])) (c' := .lst (xs ++ [d3])) h1' h2 (fun z => nomatch z) ⟨_, upd_same, e2.append (.cons rr3 .nil)⟩
              exact hp4 _ _ _ _ x4 r4 (x4.rde r3 (x3.rde r1 re1))
            | _ => rw [h2] at hp3; exact hp3.elim
  | _ => exact hp1.elim
theorem ss_fld {f : String} {p : Pos} (hK : X.K = G.K) (hf : AttF G f) (ho : SE X G W g eo o) (ha : SE X G W g ea a) (hs : swapsWith ea (some (.Attribute eo (Str.ofString f) p)) pos.line X.env = pure false) :
    SS X G W g xn (.Assign [.Attribute eo (Str.ofString f) p] ea pos) (.fld o f a) := by
  refine (ps_fld ho ha hs).imp fun D σ H h => ?_
  obtain ⟨F, rho, m, e, r, re, hp⟩ := h
  rw [evS] at hp
  refine tI.mk r re ((PostS.go (R1 := RD1 G) r re hp).imp fun v H' ⟨F1, rho1, d, m1, x1, r1, rr, hp1⟩ => ?_)
  refine tI.mk r1 (x1.rde r re) ((PostS.go (R1 := RD1 G) r1 (x1.rde r re) hp1).imp fun w H2 ⟨F2, rho2, d2, m2, x2, r2, rr2, hp2⟩ => ?_)
  cases d2 with
  | ref n =>
    dsimp only at hp2
    cases rr2 with
    | @ref _ p h1 =>
      cases h2 : m2[n]? with
      | none => rw [h2] at hp2; exact hp2.elim
      | some cc =>
        cases cc with
        | ins c fs =>
          rw [h2] at hp2
          obtain ⟨hlt, hp3⟩ := PostS.ite hp2
          obtain ⟨C, dx, fvs, e0, e1, e2⟩ := r2.cel n p _ h1 h2
          have hl : fvs.length = fs.length := by
            have : ∀ {fs : List (String × IP.D)} {vs : List (Str × V)}, RDf G rho2 F2 fs vs → vs.length = fs.length := by
              intro fs
              induction fs with
              | nil => intro vs h; cases h; rfl
              | cons x fs ih => intro vs h; cases h with | cons _ t => exact congrArg Nat.succ (ih t)
            exact this e2
          obtain ⟨g1, g2⟩ := hf c C e0
          refine ⟨p, C, dx, fvs, rfl, e1, hK ▸ g1, hK ▸ g2, by rw [hl]; exact of_decide_eq_true hlt, ?_⟩
          obtain ⟨r3, x3⟩ := r2.write (o := .ins C dx (putF (Str.ofString f) v fvs)) (c' := .ins c (putD f d fs)) h1 h2 (fun z => nomatch z) ⟨C, dx, _, e0, upd_same, putF_rd (x2.rd r1 rr) e2⟩
          exact hp3 _ _ _ _ x3 r3 (x3.rde r2 (x2.rde r1 (x1.rde r re)))
        | _ => rw [h2] at hp2; exact hp2.elim
  | _ => exact hp2.elim
theorem ss_sub {p : Pos} (ho : SE X G W g eo o) (hb : SE X G W g eb b) (ha : SE X G W g ea a) (has : ∀ v, assign (.Subscript eo eb p) X.env v = (do
      let ov ← holding [v] (eval eo X.env)
      let iv ← holding [v, ov] (eval eb X.env)
      standAt p
      holding [v, ov, iv] (setItem ov iv v)
      release [v, ov, iv] [])) (hs : swapsWithSole [.Subscript eo eb p] ea pos.line X.env = pure false) (hw : swappedStores [.Subscript eo eb p] ea X.env = pure none) (h1 : (assignEach [.Subscript eo eb p] X.env).map (·.2) = [assign (.Subscript eo eb p) X.env]) :
    SS X G W g xn (.Assign [.Subscript eo eb p] ea pos) (.sub o b a) := by
  refine (ps_asg ha (pg_sub ho hb set_list has) hs hw h1).imp fun D σ H h => ?_
  obtain ⟨F, rho, m, e, r, re, hp⟩ := h
  rw [evS] at hp
  refine tI.mk r re ((PostS.go (R1 := RD1 G) r re hp).imp fun v H' ⟨F1, rho1, d, m1, x1, r1, rr, hp1⟩ => ?_)
  refine tI.mk r1 (x1.rde r re) ((PostS.go (R1 := RD1 G) r1 (x1.rde r re) hp1).imp fun w H2 ⟨F2, rho2, d2, m2, x2, r2, rr2, hp2⟩ => ?_)
  have re2 := x2.rde r1 (x1.rde r re)
  refine tI.mk r2 re2 ((PostS.go (R1 := RD1 G) r2 re2 hp2).imp fun w' H3 ⟨F3, rho3, d3, m3, x3, r3, rr3, hp3⟩ => ?_)
  cases d2 with
  | ref n =>
    dsimp only at hp3
    cases rr2 with
    | @ref _ p h1 =>
      have h1' := x3.beg n p h1
      cases h2 : m3[n]? with
      | none => rw [h2] at hp3; exact hp3.elim
      | some cc =>
        cases cc with
        | lst xs =>
          cases d3 with
          | int k =>
            rw [h2] at hp3
            dsimp only at hp3
            cases hj : ixN xs.length k with
            | none => rw [hj] at hp3; exact hp3.elim
            | some j =>
              rw [hj] at hp3
              obtain ⟨vs, e1, e2⟩ := r3.cel n p _ h1' h2
              cases rr3
              refine ⟨p, vs, k, j, rfl, rfl, e1, by rw [← e2.length]; exact hj, ?_⟩
              obtain ⟨r4, x4⟩ := r3.write (o := .lst (vs.set j v)) (c' := .lst (xs.set j d)) h1' h2 (fun z => nomatch z) ⟨_, upd_same, e2.set (x3.rd r2 (x2.rd r1 rr)) j⟩
              exact hp3 _ _ _ _ x4 r4 (x4.rde r3 (x3.rde r2 re2))
          | _ => rw [h2] at hp3; exact hp3.elim
        | _ => rw [h2] at hp3; first | exact hp3.elim | (cases d3 <;> exact hp3.elim)
  | _ => exact hp3.elim
end
end IP

/-! IpM -/
set_option Elab.async false
set_option linter.all false
set_option maxRecDepth 100000
set_option maxHeartbeats 4000000
/-! IpM: loops. -/
namespace IP
open PySem L2 PyProof.Rows
section
variable {X : Cx} {G : GC} {W : WX} {g : Gl} {xn : String → Option (List String)} {c : E} {ec tge ite : Expr} {pos : Pos}
theorem ss_for {tg : Tg} {it : It} {body : List Stmt} {b : Ss} (B : Base X G W g) (hp : PassesOwn (model X.prog X.w) X.A X.env X.xe) (hg : PG X tge (gOf X.K tg)) (hi : SW X G W g tge ite it) (hb : SSs X G W g xn body b) (hs : ∀ x, foldedSetIterable ite X.env x = pure x) :
    SS X G W g xn (.For tge ite body [] pos) (.for_ tg it b) := by
  by_cases hcur : g.cur.isNone = true
  rotate_left
  · refine ⟨fun pins s σ H D I h => ?_⟩
    obtain ⟨F, rho, m, e, r, re, hp⟩ := h
    rw [evS, if_neg hcur] at hp
    exact hp.elim
  have hsl := B.slc hcur
  refine (ps_for hp (B.calm (by simpa using hcur)) hi hg hb hs).imp fun D σ H h => ?_
  obtain ⟨F, rho, m, e, r, re, hp⟩ := h
  rw [evS, if_pos hcur] at hp
  refine ⟨F, rho, m, e, r, re, ?_⟩
  cases hit : evIt g it e m with
  | no => rw [hit] at hp; exact hp.elim
  | ex x m1 =>
    rw [hit] at hp
    exact fun c dd H' F' rho' x' r' rx => hp c dd σ H' F' rho' x' r' (x'.rde r re) rx
  | ok xs m1 =>
    rw [hit] at hp
    simp only [Res.go_ok] at hp
    intro J H1 F1 rho1 x1 r1 wk
    have hp1 := PostS.ext hp x1
    have re1 := x1.rde r re
    generalize hf : (fun (d : IP.D) (e1 : Ev) (m2 : Mem) => match bindT tg d e1 with
      | some e2 => evSs g xn b e2 m2
      | none => Rs.no) = f at hp1
    let Pv : Nat → L2.St → Hp → Prop := fun i σ H => ∃ F2 rho2 m2 e2, Ext F1 H1 rho1 F2 H rho2 ∧ RelM G F2 H rho2 m2 ∧ RelE G F2 rho2 e2 σ ∧ PostS G W F2 H rho2 (forL f (xs.drop i) e2 m2) D
    refine ⟨fun i m σ H => m = xs.length - i ∧ i ≤ xs.length ∧ Pv i σ H, ⟨xs.length, by simp, Nat.zero_le _, F1, rho1, m1, e, Ext.refl _ _ _, r1, re1, by rw [List.drop_zero]; exact hp1⟩, ?_⟩
    rintro i _ σ2 H2 ⟨rfl, hi, F2, rho2, m2, e2, x2, r2, re2, hp2⟩
    by_cases hlt : i < xs.length
    rotate_left
    · have hin : i = xs.length := by omega
      subst hin
      rw [List.drop_length] at hp2
      exact .inl ⟨wk.stop (x2.onw r1) r2, hp2.here r2 re2⟩
    refine .inr ⟨wk.go (x2.onw r1) r2 hlt, Pv (i + 1), fun σ' H' p' => ⟨xs.length - (i + 1), by omega, rfl, hlt, p'⟩, fun x H' y => ?_⟩
    obtain ⟨F3, d, x3, r3, ed, rd⟩ := wk.yld (x2.onw r1) r2 hlt y
    rw [drop_some ed, forL] at hp2
    have re3 := x3.rde r2 re2
    have hp3 := PostS.ext hp2 x3
    have x13 := x2.trans x3
    rw [← hf] at hp3
    dsimp only at hp3
    cases hbt : bindT tg d e2 with
    | none => rw [hbt] at hp3; exact hp3.elim
    | some e3 =>
      rw [hbt] at hp3
      refine bindT_ok B.hK hsl r3 rd re3 hbt fun σ' re4 _ _ => tS.mk r3 re4 ?_
      dsimp only at hp3
      rw [hf] at hp3
      cases hev : evSs g xn b e3 m2 with
      | nx e4 m4 =>
        rw [hev] at hp3
        exact fun σ'' H'' F'' rho'' x' r' re' => ⟨F'', rho'', m4, e4, x13.trans x', r', re', PostS.ext hp3 x'⟩
      | ct e4 m4 =>
        rw [hev] at hp3
        exact fun σ'' H'' F'' rho'' x' r' re' => ⟨F'', rho'', m4, e4, x13.trans x', r', re', PostS.ext hp3 x'⟩
      | bk e4 m4 => rw [hev] at hp3; exact hp3
      | rt d m4 => rw [hev] at hp3; exact hp3
      | ex y e4 m4 => rw [hev] at hp3; exact hp3
      | no => rw [hev] at hp3; exact hp3.elim
theorem whL_some {cf : Ev → Mem → Res Bool} {f : Ev → Mem → Rs} {e : Ev} {m : Mem} {F H : Hp} {rho : List Addr} {D : Ends} (h : PostS G W F H rho (whL cf f e m) D) : ∃ n r, whN cf f n e m = some r ∧ PostS G W F H rho r D := by
  unfold whL at h
  by_cases hx : ∃ n r, whN cf f n e m = some r
  · rw [dif_pos hx] at h
    exact ⟨_, _, (Classical.choose_spec hx).choose_spec, h⟩
  · rw [dif_neg hx] at h
    exact h.elim
theorem ss_while {body : List Stmt} {b : Ss} (hp : PassesOwn (model X.prog X.w) X.A X.env X.xe) (hc : ST X G W g ec c) (hb : SSs X G W g xn body b) : SS X G W g xn (.While ec body [] pos) (.wh c b) := by
  refine (ps_while hp hc hb).imp fun D σ H h => ?_
  obtain ⟨F, rho, m, e, r, re, hp⟩ := h
  rw [evS] at hp
  obtain ⟨n, rs, h1, h2⟩ := whL_some hp
  refine ⟨fun k σ H => ∃ F rho m e rs, RelM G F H rho m ∧ RelE G F rho e σ ∧ whN (evT g c) (evSs g xn b) k e m = some rs ∧ PostS G W F H rho rs D, ⟨n, F, rho, m, e, rs, r, re, h1, h2⟩, ?_⟩
  rintro k σ1 H1 ⟨F1, rho1, m1, e1, rs1, r1, re1, w1, q1⟩
  cases k with
  | zero => cases w1
  | succ k =>
    rw [whN] at w1
    refine ⟨F1, rho1, m1, e1, r1, re1, ?_⟩
    cases hc1 : evT g c e1 m1 with
    | no =>
      rw [hc1] at w1
      cases w1
      exact q1.elim
    | ex x m2 =>
      rw [hc1] at w1
      cases w1
      exact fun c dd H' F' rho' x' r' rx => q1 c dd σ1 H' F' rho' x' r' (x'.rde r1 re1) rx
    | ok t m2 =>
      rw [hc1] at w1
      intro t' H2 F2 rho2 x2 r2 et
      cases et
      have re2 := x2.rde r1 re1
      cases t with
      | false =>
        cases w1
        refine iteF ?_
        exact q1 _ _ _ _ x2 r2 re2
      | true =>
        refine iteT ⟨fun σ H => ∃ F rho m e rs, RelM G F H rho m ∧ RelE G F rho e σ ∧ whN (evT g c) (evSs g xn b) k e m = some rs ∧ PostS G W F H rho rs D, fun σ' H' p => ⟨k, Nat.lt_succ_self k, p⟩, tS.mk r2 re2 ?_⟩
        have q2 := PostS.ext q1 x2
        dsimp only at w1
        cases hev : evSs g xn b e1 m2 with
        | nx e4 m4 =>
          rw [hev] at w1
          exact fun σ'' H'' F'' rho'' x' r' re' => ⟨F'', rho'', m4, e4, _, r', re', w1, PostS.ext q2 x'⟩
        | ct e4 m4 =>
          rw [hev] at w1
          exact fun σ'' H'' F'' rho'' x' r' re' => ⟨F'', rho'', m4, e4, _, r', re', w1, PostS.ext q2 x'⟩
        | bk e4 m4 => rw [hev] at w1; cases w1; exact q2
        | rt d m4 => rw [hev] at w1; cases w1; exact q2
        | ex y e4 m4 => rw [hev] at w1; cases w1; exact q2
        | no => rw [hev] at w1; cases w1; exact q2.elim
end
end IP

/-! IpN -/
set_option Elab.async false
set_option linter.all false
set_option maxRecDepth 100000
set_option maxHeartbeats 4000000
/-! IpN: exceptions. -/
namespace IP
open PySem L2 PyProof.Rows

/-! ### the handled exception's slot makes no difference to data -/
abbrev GC.at_ (G : GC) (s : Option Sl) : GC := { G with sl := s }
mutual
theorem RD.gc {G G' : GC} {rho : List Addr} {H : Hp} (hK : G.K = G'.K) (ho : G.own = G'.own) : ∀ (d : D) (v : V), RD G rho H d v → RD G' rho H d v
  | .non, _, h => by cases h; exact .non
  | .bl _, _, h => by cases h; exact .bl _
  | .int _, _, h => by cases h; exact .int _
  | .str _, _, h => by cases h; exact .str _
  | .lst xs, _, h => by
    cases h with
    | lst h1 h2 => exact .lst h1 (RDs.gc hK ho xs _ h2)
  | .scr xs, _, h => by
    cases h with
    | scr h1 h2 => exact .scr h1 (RDs.gc hK ho xs _ h2)
    | scrK h1 h2 => exact .scrK (hK ▸ h1) (RDs.gc hK ho xs _ h2)
  | .tup xs, _, h => by
    cases h with
    | tup h1 h2 => exact .tup h1 (RDs.gc hK ho xs _ h2)
    | tupK h1 => exact .tupK (hK ▸ h1)
  | .dic q xs, _, h => by
    cases h with
    | dicK h1 h2 => exact .dicK h1 (RDk.gc hK ho xs _ h2)
    | dicT h1 h2 => exact .dicT h1 (RDt.gc hK ho xs _ h2)
  | .ins c fs, _, h => by
    cases h with
    | ins h1 h2 h3 => exact .ins (ho ▸ h1) h2 (RDf.gc hK ho fs _ h3)
  | .cls c, _, h => by
    cases h with
    | cls h => exact .cls (ho ▸ h)
  | .ref n, _, h => by
    cases h with
    | ref h => exact .ref h
theorem RDs.gc {G G' : GC} {rho : List Addr} {H : Hp} (hK : G.K = G'.K) (ho : G.own = G'.own) : ∀ (ds : List D) (vs : List V), RDs G rho H ds vs → RDs G' rho H ds vs
  | [], _, h => by cases h; exact .nil
  | d :: ds, _, h => by
    cases h with
    | cons h1 h2 => exact .cons (RD.gc hK ho d _ h1) (RDs.gc hK ho ds _ h2)
theorem RDf.gc {G G' : GC} {rho : List Addr} {H : Hp} (hK : G.K = G'.K) (ho : G.own = G'.own) : ∀ (ds : List (String × D)) (vs : List (Str × V)), RDf G rho H ds vs → RDf G' rho H ds vs
  | [], _, h => by cases h; exact .nil
  | (f, d) :: ds, _, h => by
    cases h with
    | cons h1 h2 => exact .cons (RD.gc hK ho d _ h1) (RDf.gc hK ho ds _ h2)
theorem RDk.gc {G G' : GC} {rho : List Addr} {H : Hp} (hK : G.K = G'.K) (ho : G.own = G'.own) : ∀ (ds : List (D × D)) (vs : List (Key × V)), RDk G rho H ds vs → RDk G' rho H ds vs
  | [], _, h => by cases h; exact .nil
  | (x, d) :: ds, _, h => by
    cases h with
    | cons h0 h1 h2 => exact .cons h0 (RD.gc hK ho d _ h1) (RDk.gc hK ho ds _ h2)
theorem RDt.gc {G G' : GC} {rho : List Addr} {H : Hp} (hK : G.K = G'.K) (ho : G.own = G'.own) : ∀ (ds : List (D × D)) (vs : List (List Key × V)), RDt G rho H ds vs → RDt G' rho H ds vs
  | [], _, h => by cases h; exact .nil
  | (x, d) :: ds, _, h => by
    cases h with
    | cons h0 h1 h2 => exact .cons h0 (RD.gc hK ho d _ h1) (RDt.gc hK ho ds _ h2)
end
section
variable {G G' : GC} {F H : Hp} {rho : List Addr} {m : Mem} {e : Ev} {σ : L2.St}
theorem Cel.gc (hK : G.K = G'.K) (ho : G.own = G'.own) {a : Addr} {c : MO} (h : Cel G rho F H a c) : Cel G' rho F H a c := by
  cases c with
  | lst xs =>
    obtain ⟨vs, e1, e2⟩ := h
    exact ⟨vs, e1, RDs.gc hK ho _ _ e2⟩
  | dic q kvs =>
    cases q with
    | k =>
      obtain ⟨vs, e1, e2⟩ := h
      exact ⟨vs, e1, RDk.gc hK ho _ _ e2⟩
    | t =>
      obtain ⟨vs, e1, e2⟩ := h
      exact ⟨vs, e1, RDt.gc hK ho _ _ e2⟩
  | ins c fs =>
    obtain ⟨C, dx, fvs, e0, e1, e2⟩ := h
    exact ⟨C, dx, fvs, ho ▸ e0, e1, RDf.gc hK ho _ _ e2⟩
  | dead => exact h
theorem RelM.gc (hK : G.K = G'.K) (ho : G.own = G'.own) (r : RelM G F H rho m) : RelM G' F H rho m := ⟨r.sub, r.len, r.nd, fun n a c h1 h2 => (r.cel n a c h1 h2).gc hK ho, r.off⟩
/-- the slot is forgotten -/
theorem RelE.gc (hK : G.K = G'.K) (ho : G.own = G'.own) (hs : G'.sl = none) (r : RelE G F rho e σ) : RelE G' F rho e σ := ⟨r.1, fun i d q => by
  obtain ⟨v, e1, e2⟩ := r.2.1 i d q
  exact ⟨v, e1, RD.gc hK ho _ _ e2⟩, SlOk.non hs⟩
end

/-! ### several clauses, with and without names -/
abbrev TsX := Addr → Value → Option Addr → TS
def endsX (i : Nat) (D : Ends) : Ends := { nx := fun σ' H' => D.nx (σ'.set i none) H', rt := D.rt, bk := fun σ' H' => D.bk (σ'.set i none) H', ct := fun σ' H' => D.ct (σ'.set i none) H' }
def wMix (K : PySem.W.Frag) (Wout : WX) (D : Ends) : List (Value × Option Nat × TsX) → WX
  | [] => Wout
  | (c, o, ts) :: r => fun cls d σ H => ∃ b, PySem.W.exmOne K cls c = some b ∧ (b = true → ∀ a, H a = none → match o with
      | none => ts a cls d D σ H
      | some i => ts a cls d (endsX i D) (σ.set i (some (.ref a))) H) ∧ (b = false → wMix K Wout D r cls d σ H)
inductive HdsM (X : Cx) : List ExceptHandler → List (Value × Option Nat × TsX) → Prop
  | nil : HdsM X [] []
  | bare {x : Str} {c : Value} {ts : TsX} {b₀ : Stmt} {suite : List Stmt} {np pos' : Pos} {hds : List ExceptHandler} {l : List (Value × Option Nat × TsX)} (hc : Names X x c)
      (hsu : ∀ (a : Addr) (oe : Obj) (cls : Value) (d : Option Addr) (pn : List (Addr × Obj)), Zc cls d oe → (∃ vs, oe.data = .fields vs) → PSs (X.suite a ((a, oe) :: pn)) (b₀ :: suite) (ts a cls d)) (r : HdsM X hds l) :
      HdsM X (.ExceptHandler (some (.Name x np)) none (b₀ :: suite) pos' :: hds) ((c, none, ts) :: l)
  | as_ {x n : Str} {i : Nat} {c : Value} {ts : TsX} {b₀ : Stmt} {suite : List Stmt} {np pos' : Pos} {hds : List ExceptHandler} {l : List (Value × Option Nat × TsX)} (hc : Names X x c) (hi : X.N[i]? = some n) (hl : X.env.kindOf n = some .local)
      (hsu : ∀ (a : Addr) (oe : Obj) (cls : Value) (d : Option Addr) (pn : List (Addr × Obj)), Zc cls d oe → (∃ vs, oe.data = .fields vs) → PSs (X.suite a ((a, oe) :: pn)) (b₀ :: suite) (ts a cls d)) (r : HdsM X hds l) :
      HdsM X (.ExceptHandler (some (.Name x np)) (some n) (b₀ :: suite) pos' :: hds) ((c, some i, ts) :: l)
section
variable {X : Cx} {body : List Stmt} {h₀ : ExceptHandler} {hds : List ExceptHandler} {l : List (Value × Option Nat × TsX)} {pos : Pos} {tb : WX → TS} {Wout : WX}
theorem ps_try_mix (hs : X.stack = X.env :: X.outer) (hf : X.env.frame = some X.env.locals) (hN : X.N.Nodup) (tk : Takes X Wout)
    (hb : ∀ (W : WX) (pn : List (Addr × Obj)) (xe : Value → Shared → Prop), Takes (X.tr pn xe) W → PassesOwn (model X.prog X.w) X.A X.env xe → PSs (X.tr pn xe) body (tb W))
    (hh : HdsM X (h₀ :: hds) l) : PS X (.Try body (h₀ :: hds) [] [] pos) (fun D σ H => tb (wMix X.K Wout D l) D σ H) := by
  refine ⟨fun pins s σ H D I h => ?_⟩
  have ok := I.ok
  have hfr : X.A.frames = some (X.env :: X.outer) := by rw [ok.frames, hs]
  refine wpAny_Try_except ?_
  refine wpAny_mono ((hb (wMix X.K Wout D l) (X.pn ++ pins) (fun e s₁ => wpAny (model X.prog X.w) X.A (noteFrame e X.env) (fun _ s₂ => wpAny (model X.prog X.w) X.A (setFlight e none) (fun _ s₃ =>
    wpAny (model X.prog X.w) X.A (handleBy e X.env (h₀ :: hds)) (SP X pins D) X.xe s₃) X.xe s₂) X.xe s₁) (fun u s' xx => ?_) PassesOwn.looking).run [] s σ H D (I.toTry _) h) (fun f s1 hsp => ?_) (fun e s1 he => he)
  · -- the catch
    obtain ⟨a, B, sI, pins', σ', H', cls, d, rfl, J', nb, up, sky, na, os, ag, w⟩ := xx
    have J : Inv X pins σ' H' sI := J'.ofTry ok
    have sky' : Sky B (X.env :: X.outer) a (Zc cls d) X.env.locals s'.heap := by rw [← hs]; exact sky
    show wpAny (model X.prog X.w) X.A (noteFrame (.ref a) X.env) _ _ _
    refine Sky.land Zc.steady hfr hf sky' fun h3 fl3 up3 => ?_
    have J3 : Inv X pins σ' H' { s' with heap := h3 } := J.landed nb fl3.1 (up.trans up3) os ag
    obtain ⟨oe3, vs3, he3, hz3, hd3⟩ := fl3.there
    have notFr : ∀ {h : Heap} {o : Obj} {vs : Array Value}, h.FunFrames B (X.env :: X.outer) → h.get? a = some o → o.data = .fields vs → a ∉ frs (X.env :: X.outer) := fun {h o vs} ff e dd hm => by
      obtain ⟨_, o', e', hnf⟩ := ff.mem hm
      rw [e] at e'; cases e'
      exact hnf _ dd
    have nfr := notFr fl3.2.2.1 he3 hd3
    have nL : a ≠ X.env.locals := fun z => nfr (List.mem_filterMap.mpr ⟨X.env, List.mem_cons_self, by rw [hf, z]⟩)
    have nF : a ∉ X.fs := fun hm => by
      obtain ⟨e, he, q⟩ := List.mem_filterMap.mp hm
      exact nfr (List.mem_filterMap.mpr ⟨e, List.mem_cons_of_mem _ he, q⟩)
    have S3 := J3.suite he3 hd3 na nL nF
    have LT : PySem.W.Looks (model X.prog X.w) h3 (typeOf (.ref a)) cls := fun A Q E s k q => wpAny_typeOf_ref (k _ _ he3) (by rw [hz3.1]; exact q)
    have test : ∀ {x : Str} {c : Value} {np : Pos} {Q : Value → Shared → Prop} {E : Value → Shared → Prop}, Names X x c → Q c { s' with heap := h3 } → wpAny (model X.prog X.w) (X.A.mark (some (.ref a))) (eval (.Name x np) X.env) Q E { s' with heap := h3 } := fun {x c np Q E} hc q => by
      obtain ⟨hg, hdbg, hm | ⟨hm, hv, hnn⟩⟩ := hc
      · exact ld_glob (X := X.suite a ((a, oe3) :: (X.pn ++ pins))) S3 hg hm q hdbg
      · exact ld_blt (X := X.suite a ((a, oe3) :: (X.pn ++ pins))) S3 hg hm hv q hnn hdbg
    have go : ∀ {hds' : List ExceptHandler} {l' : List (Value × Option Nat × TsX)}, HdsM X hds' l' → wMix X.K Wout D l' cls d σ' H' →
        wpAny (model X.prog X.w) X.A (handleBy (.ref a) X.env hds') (SP X pins D) X.xe { s' with heap := h3 } := by
      intro hds' l' hk
      induction hk with
      | nil =>
        intro w
        refine wpAny_handleBy_nil ?_
        obtain ⟨k1, k2, k3, oe, vs, T, oT, ts', he, hz, hd, h1, hr⟩ := id fl3
        unfold PySem.passOn
        refine wpAny_bind (wpAny_field he hd h1 ?_)
        rw [if_neg (show ¬ ((Value.ref T == Value.none) = true) from by simp)]
        have fin : wpAny (model X.prog X.w) X.A (setFlight (.ref a) X.env.frame) (fun _ s4 => wpAny (model X.prog X.w) X.A (throw (.ref a) : Sem Flow) (SP X pins D) X.xe s4) X.xe { s' with heap := h3 } := by
          rw [hf]
          refine HandSPX.setFlight_upZ fl3 fun h4 hh4 up4 => wpAny_throw (tk _ _ ?_)
          exact ⟨a, B, sI, pins, σ', H', cls, d, rfl, J, nb, (up.trans up3).trans up4, .inr (.inr (by rw [hs]; exact hh4)), na, os, ag, w⟩
        first
          | exact wpAny_bind (wpAny_pure (wpAny_bind fin))
          | exact wpAny_bind fin
      | @bare x c ts b₀ suite np pos' hds2 l2 hc hsu r ih =>
        intro w
        obtain ⟨b, hb1, hyes, hno⟩ := w
        refine wpAny_handleBy_cons (codeAny_handlers_test ?_) (by intro q; cases q)
        have LM := PySem.W.exm_one (M := model X.prog X.w) (J3.kIn) LT hb1
        refine test hc (LM.here ?_)
        cases b with
        | true =>
          refine codeAny_handlers_suite ?_
          refine HandSPX.lands_againZ fl3 fun h4 fl4 up4 => ?_
          have J4 : Inv X pins σ' H' { s' with heap := h4 } := J.landed nb fl4.1 ((up.trans up3).trans up4) os ag
          obtain ⟨oe4, vs4, he4, hz4, hd4⟩ := fl4.there
          have S4 := J4.suite he4 hd4 na nL nF
          refine wpAny_mono ((hsu a oe4 cls d (X.pn ++ pins) hz4 ⟨_, hd4⟩).run [] _ _ H' _ S4 (hyes rfl a na)) (fun f s6 hsp => ?_) (fun _ _ z => False.elim z)
          cases f with
          | next =>
            obtain ⟨σ6, H6, S6, q6⟩ := hsp
            exact ⟨_, _, S6.unsuite ok, q6⟩
          | brk =>
            obtain ⟨σ6, H6, S6, q6⟩ := hsp
            exact ⟨_, _, S6.unsuite ok, q6⟩
          | cont =>
            obtain ⟨σ6, H6, S6, q6⟩ := hsp
            exact ⟨_, _, S6.unsuite ok, q6⟩
          | ret u =>
            obtain ⟨v6, σ6, H6, S6, r6, q6⟩ := hsp
            exact ⟨_, _, _, S6.unsuite ok, r6, q6⟩
        | false =>
          show wpAny _ X.A (handleBy (.ref a) X.env hds2) _ _ _
          exact ih (hno rfl)
      | @as_ x n i c ts b₀ suite np pos' hds2 l2 hc hi hln hsu r ih =>
        intro w
        obtain ⟨b, hb1, hyes, hno⟩ := w
        refine wpAny_handleBy_cons (codeAny_handlers_test ?_) (by intro q; cases q)
        have LM := PySem.W.exm_one (M := model X.prog X.w) (J3.kIn) LT hb1
        have hloc : Loc X.env.scope n := .inl hln
        refine test hc (LM.here ?_)
        cases b with
        | true =>
          refine codeAny_handlers_suite_as ?_
          refine HandSPX.lands_againZ fl3 fun h4 fl4 up4 => ?_
          have J4 : Inv X pins σ' H' { s' with heap := h4 } := J.landed nb fl4.1 ((up.trans up3).trans up4) os ag
          obtain ⟨oe4, vs4, he4, hz4, hd4⟩ := fl4.there
          have S4 := J4.suite he4 hd4 na nL nF
          refine store_ok (X := X.suite a ((a, oe4) :: (X.pn ++ pins))) (v := .ref a) S4 hN hi hloc rfl (fun s5 S5 => ?_) (.inr hln)
          refine wpAny_mono ((hsu a oe4 cls d (X.pn ++ pins) hz4 ⟨_, hd4⟩).run [] s5 _ H' _ S5 (hyes rfl a na)) (fun f s6 hsp => ?_) (fun _ _ z => False.elim z)
          have end_ : ∀ {σ6 : L2.St} {H6 : Hp} {Q : Shared → Prop}, Inv (X.suite a ((a, oe4) :: (X.pn ++ pins))) [] σ6 H6 s6 → (∀ s7, Inv X pins (σ6.set i none) H6 s7 → Q s7) →
              wpAny (model X.prog X.w) X.A (do bindName X.env n .none; unbindBehindTheSuite X.env n pos') (fun _ s7 => Q s7) X.xe s6 := fun {σ6 H6 Q} S6 hq => gone_ok (S6.unsuite ok) hN hi hln hq
          cases f with
          | next =>
            obtain ⟨σ6, H6, S6, q6⟩ := hsp
            exact end_ S6 fun s7 J7 => ⟨_, _, J7, q6⟩
          | brk =>
            obtain ⟨σ6, H6, S6, q6⟩ := hsp
            exact end_ S6 fun s7 J7 => ⟨_, _, J7, q6⟩
          | cont =>
            obtain ⟨σ6, H6, S6, q6⟩ := hsp
            exact end_ S6 fun s7 J7 => ⟨_, _, J7, q6⟩
          | ret u =>
            obtain ⟨v6, σ6, H6, S6, r6, q6⟩ := hsp
            exact end_ S6 fun s7 J7 => ⟨_, _, _, J7, r6, q6⟩
        | false =>
          show wpAny _ X.A (handleBy (.ref a) X.env hds2) _ _ _
          exact ih (hno rfl)
    exact go hh w
  · cases f with
    | next =>
      obtain ⟨σ', H', J', q⟩ := hsp
      exact wpAny_execs_nil ⟨σ', H', J'.ofTry ok, q⟩
    | brk =>
      obtain ⟨σ', H', J', q⟩ := hsp
      exact ⟨σ', H', J'.ofTry ok, q⟩
    | cont =>
      obtain ⟨σ', H', J', q⟩ := hsp
      exact ⟨σ', H', J'.ofTry ok, q⟩
    | ret u =>
      obtain ⟨v, σ', H', J', r, q⟩ := hsp
      exact ⟨v, σ', H', J'.ofTry ok, r, q⟩
end
end IP

/-! IpO -/
set_option Elab.async false
set_option linter.all false
set_option maxRecDepth 100000
set_option maxHeartbeats 4000000
/-! IpO: try, raise. -/
namespace IP
open PySem L2 PyProof.Rows
/-- what is true of the exception classes of the text -/
structure FactsX (G : GC) (xn : String → Option (List String)) : Prop where
  xf : ∀ {c : String} {C : Addr}, G.exa c = some C → XfC G.K C
  no : ∀ {c : String} {C : Addr} {ns : List String} {f : String}, G.exa c = some C → xn c = some ns → f ∈ ns → PySem.W.findIn G.K (.ref C) (Str.ofString f) = some none
/-- the suite's slot -/
def slOf (o : Option Nat) (a : Addr) (x : Exc) (dd : Option Addr) : Option Sl := o.map fun i => ⟨i, a, x, dd⟩
def XOf (G : GC) (xn : String → Option (List String)) (x : Exc) (cls : Value) : Prop := ∃ C ns, G.exa x.cls = some C ∧ cls = .ref C ∧ xn x.cls = some ns ∧ x.fs.map (·.1) = ns
def tsOf (G : GC) (g : Gl) (xn : String → Option (List String)) (o : Option Nat) (b : Ss) : TsX := fun a cls dd D σ H =>
  ∃ x, XOf G xn x cls ∧ tS (G.at_ (slOf o a x dd)) WF (evSs (g.hot x) xn b) D σ H
inductive HR (X : Cx) (G : GC) (g : Gl) (xn : String → Option (List String)) : List ExceptHandler → Hs → List (Value × Option Nat × TsX) → Prop
  | nil : HR X G g xn [] .nil []
  | cons {h : ExceptHandler} {hds : List ExceptHandler} {c : String} {cv : Value} {o : Option Nat} {b : Ss} {r : Hs} {l : List (Value × Option Nat × TsX)} (hx : ∀ {cls : String} {C : Addr}, G.exa cls = some C → PySem.W.exmOne X.K (.ref C) cv = some (isX cls c)) (t : HR X G g xn hds r l) :
      HR X G g xn (h :: hds) (.cons c o b r) ((cv, o, tsOf G g xn o b) :: l)
section
variable {X : Cx} {G : GC} {W : WX} {g : Gl} {xn : String → Option (List String)}
theorem RD.un {s : Option Sl} {rho : List Addr} {F : Hp} {d : D} {v : V} (h : RD (G.at_ s) rho F d v) : RD G rho F d v := RD.gc (G := G.at_ s) (G' := G) rfl rfl d v h
theorem RD.to_ {s : Option Sl} {rho : List Addr} {F : Hp} {d : D} {v : V} (h : RD G rho F d v) : RD (G.at_ s) rho F d v := RD.gc (G := G) (G' := G.at_ s) rfl rfl d v h
theorem RelM.un {s : Option Sl} {rho : List Addr} {F H : Hp} {m : Mem} (h : RelM (G.at_ s) F H rho m) : RelM G F H rho m := RelM.gc (G := G.at_ s) (G' := G) rfl rfl h
theorem RelM.to_ {s : Option Sl} {rho : List Addr} {F H : Hp} {m : Mem} (h : RelM G F H rho m) : RelM (G.at_ s) F H rho m := RelM.gc (G := G) (G' := G.at_ s) rfl rfl h
theorem RelE.un {s : Option Sl} {rho : List Addr} {F : Hp} {e : Ev} {σ : L2.St} (hsl : G.sl = none) (h : RelE (G.at_ s) F rho e σ) : RelE G F rho e σ := RelE.gc (G := G.at_ s) (G' := G) rfl rfl hsl h
theorem unb_ok {i : Nat} {F H : Hp} {rho : List Addr} {D : Ends} {r : Rs} {s : Sl} (hsl : G.sl = none) (h : PostS G W F H rho (unb (some i) r) D) : PostS (G.at_ (some s)) WF F H rho r (endsX i D) := by
  cases r with
  | nx e1 m1 => exact fun σ' H' F' rho' x' r' e' => h (σ'.set i none) H' F' rho' x' r'.un ((e'.un hsl).clr i none (noSl hsl))
  | bk e1 m1 => exact fun σ' H' F' rho' x' r' e' => h (σ'.set i none) H' F' rho' x' r'.un ((e'.un hsl).clr i none (noSl hsl))
  | ct e1 m1 => exact fun σ' H' F' rho' x' r' e' => h (σ'.set i none) H' F' rho' x' r'.un ((e'.un hsl).clr i none (noSl hsl))
  | rt d m1 => exact fun v H' F' rho' x' r' d' => h v H' F' rho' x' r'.un d'.un
  | ex x e m => exact h.elim
  | no => exact h
theorem unb_ok0 {F H : Hp} {rho : List Addr} {D : Ends} {r : Rs} (hsl : G.sl = none) (h : PostS G W F H rho (unb none r) D) : PostS (G.at_ none) WF F H rho r D := by
  cases r with
  | nx e1 m1 => exact fun σ' H' F' rho' x' r' e' => h σ' H' F' rho' x' r'.un (e'.un hsl)
  | bk e1 m1 => exact fun σ' H' F' rho' x' r' e' => h σ' H' F' rho' x' r'.un (e'.un hsl)
  | ct e1 m1 => exact fun σ' H' F' rho' x' r' e' => h σ' H' F' rho' x' r'.un (e'.un hsl)
  | rt d m1 => exact fun v H' F' rho' x' r' d' => h v H' F' rho' x' r'.un d'.un
  | ex x e m => exact h.elim
  | no => exact h
theorem evH_cons {cn : String} {o : Option Nat} {b : Ss} {r : Hs} {x : Exc} {e : Ev} {m : Mem} : evH g xn (.cons cn o b r) x e m = if isX x.cls cn then (match o with
      | none => unb none (evSs (g.hot x) xn b e m)
      | some i => if i < e.length then unb (some i) (evSs (g.hot x) xn b (e.set i none) m) else .no)
    else evH g xn r x e m := by
  cases o <;> rw [evH]
theorem wmix_ok (hsl : G.sl = none) {D : Ends} {hds : List ExceptHandler} {hs : Hs} {l : List (Value × Option Nat × TsX)} {F H : Hp} {rho : List Addr} {m : Mem} {e : Ev} {σ : L2.St} {x : Exc} {c : Value} {dd : Option Addr} (hr : HR X G g xn hds hs l)
    (hX : XOf G xn x c) (r : RelM G F H rho m) (re : RelE G F rho e σ) (rx : RX G F H rho x c dd) (hp : PostS G W F H rho (evH g xn hs x e m) D) : wMix X.K W D l c dd σ H := by
  induction hr with
  | nil =>
    rw [evH] at hp
    exact hp c dd σ H F rho (Ext.refl _ _ _) r re rx
  | @cons h hds cn cv o b r' l' hx t ih =>
    rw [evH_cons] at hp
    obtain ⟨C, ns, h1, h2, h3⟩ := id hX
    subst h2
    refine ⟨isX x.cls cn, hx h1, fun hb a ha => ?_, fun hb => ?_⟩
    · rw [if_pos hb] at hp
      cases o with
      | none =>
        refine ⟨x, hX, F, rho, m, e, r.to_, ⟨re.1, fun i d q => ?_, SlOk.non rfl⟩, unb_ok0 hsl hp⟩
        obtain ⟨v, e1, e2⟩ := re.2.1 i d q
        exact ⟨v, e1, e2.to_⟩
      | some i =>
        obtain ⟨hlt, hp2⟩ := PostS.ite hp
        refine ⟨x, hX, F, rho, m, e.set i none, r.to_, ?_, unb_ok hsl hp2⟩
        have re1 := re.clr i (some (.ref a)) (noSl hsl)
        refine ⟨re1.1, fun i d q => ?_, fun s hs => ?_⟩
        · obtain ⟨v, e1, e2⟩ := re1.2.1 i d q
          exact ⟨v, e1, e2.to_⟩
        · have hs' : (⟨i, a, x, dd⟩ : Sl) = s := Option.some.inj hs
          subst hs'
          refine ⟨List.getElem?_set_self (by rw [← re.1]; exact hlt), ?_⟩
          obtain ⟨_, _, _, q | ⟨d, fvs, q1, q2, q3⟩⟩ := rx
          · exact .inl q.1
          · exact .inr ⟨d, fvs, q1, q2, RDf.gc (G := G) (G' := G.at_ (slOf (some i) a x dd)) rfl rfl _ _ q3⟩
    · rw [if_neg (by rw [hb]; exact Bool.false_ne_true)] at hp
      exact ih hp
theorem ss_try {body : List Stmt} {b : Ss} {h₀ : ExceptHandler} {hds : List ExceptHandler} {hs : Hs} {l : List (Value × Option Nat × TsX)} {pos : Pos} (hsl : g.cur.isNone = true → G.sl = none) (hst : X.stack = X.env :: X.outer) (hf : X.env.frame = some X.env.locals) (hN : X.N.Nodup) (tk : Takes X W)
    (hb : ∀ (W : WX) (pn : List (Addr × Obj)) (xe : Value → Shared → Prop), Takes (X.tr pn xe) W → PassesOwn (model X.prog X.w) X.A X.env xe → SSs (X.tr pn xe) G W g xn body b)
    (hr : HR X G g xn (h₀ :: hds) hs l) (hm : HdsM X (h₀ :: hds) l) : SS X G W g xn (.Try body (h₀ :: hds) [] [] pos) (.try_ b hs) := by
  refine (ps_try_mix hst hf hN tk hb hm).imp fun D σ H h => ?_
  obtain ⟨F, rho, m, e, r, re, hp⟩ := h
  rw [evS] at hp
  by_cases hcur : g.cur.isNone = true
  rotate_left
  · rw [if_neg hcur] at hp
    exact hp.elim
  rw [if_pos hcur] at hp
  refine tS.mk r re ?_
  cases hev : evSs g xn b e m with
  | nx e1 m1 => rw [hev] at hp; exact hp
  | bk e1 m1 => rw [hev] at hp; exact hp
  | ct e1 m1 => rw [hev] at hp; exact hp
  | rt d m1 => rw [hev] at hp; exact hp
  | no => rw [hev] at hp; exact hp.elim
  | ex x e1 m1 =>
    rw [hev] at hp
    intro c dd σ' H' F' rho' x' r' re' rx
    obtain ⟨q1, hp2⟩ := PostS.ite hp
    obtain ⟨C, h1, h2, _⟩ := id rx
    exact wmix_ok (hsl hcur) hr ⟨C, _, h1, h2, q1, rfl⟩ r' re' rx (PostS.ext hp2 x')
/-- e.f of the handled exception -/
theorem se_exf {a : Addr} {oe : Obj} {cls : Value} {dd : Option Addr} {pn : List (Addr × Obj)} {x : Exc} {i : Nat} {n : Str} {f : String} {p pos : Pos} (hK : X.K = G.K) (Fx : FactsX G xn) (hN : X.N[i]? = some n) (hl : X.env.kindOf n = some .local) (hd : (n == ("__debug__" : Str)) = false) (hcd : (n == ("__classdict__" : Str)) = false)
    (hX : XOf G xn x cls) (hz : Zc cls dd oe) (hf : ∃ vs, oe.data = .fields vs) : SE (X.suite a ((a, oe) :: pn)) (G.at_ (some ⟨i, a, x, dd⟩)) WF (g.hot x) (.Attribute (.Name n p) (Str.ofString f) pos) (.exf f) := by
  obtain ⟨C, ns, h1, h2, h3, h4⟩ := id hX
  subst h2
  refine ⟨fun pins s σ H Q I h => ?_⟩
  obtain ⟨F, rho, m, e, r, re, hp⟩ := h
  rw [ev] at hp
  have hcur : (g.hot x).cur = some x := rfl
  rw [hcur] at hp
  obtain ⟨d, e1, hp2⟩ := Post.opt (show Post _ WF σ _ F H rho (opt (x.fs.lookup f) m) Q from hp)
  have hin : f ∈ ns := by
    rw [← h4]
    have : ∀ {l : List (String × IP.D)} {d : IP.D}, l.lookup f = some d → f ∈ l.map (·.1) := by
      intro l
      induction l with
      | nil => intro d h; cases h
      | cons q l ih =>
        intro d h
        obtain ⟨k, v⟩ := q
        by_cases hk : f = k
        · rw [hk]
          exact List.mem_cons_self
        · have hk' : (f == k) = false := by simpa using hk
          simp only [List.lookup, hk'] at h
          exact List.mem_cons_of_mem _ (ih h)
    exact this e1
  have he : PE (X.suite a ((a, oe) :: pn)) (.Name n p) (tVar i) := pe_var hN (.inl hl) hd hcd
  refine (pe_xf (hK ▸ Fx.xf h1) (hK ▸ Fx.no h1 h3 hin) hz hf he rfl).run pins s σ H Q I ?_
  obtain ⟨q1, q2⟩ := re.2.2 _ rfl
  rcases q2 with q2 | ⟨d', fvs, q2, q3, q4⟩
  · rw [show x.fs = [] from q2] at e1
    cases e1
  · obtain ⟨y, e2, e3⟩ := RDf.lookup (fun _ _ => ofString_inj) f q4 e1
    exact ⟨_, q1, rfl, rfl, d', fvs, y, q2, r.sub.get q3 rfl, e2, hp2.here r e3⟩
end
end IP

/-! IpP -/
set_option Elab.async false
set_option linter.all false
set_option maxRecDepth 100000
set_option maxHeartbeats 4000000
/-! IpP: what a def promises; its body keeps it. -/
namespace IP
open PySem L2 PyProof.Rows

/-- what a def promises that comes to h -/
def spI (G : GC) (n : Nat) (h : List D → Mem → Res D) : Sp := fun vs H Q E =>
  ∃ (F : Hp) (rho : List Addr) (m : Mem) (ds : List D), RelM G F H rho m ∧ RDs G rho F ds vs ∧ ds.length = n ∧ Post G (fun c d _ H' => E c d H') [] (RD1 G) F H rho (h ds m) Q
theorem spI_len {G : GC} {n : Nat} {h : List D → Mem → Res D} {vs : List V} {H : Hp} {Q : VK} {E : XK} (x : spI G n h vs H Q E) : vs.length = n := by
  obtain ⟨F, rho, m, ds, r, rd, hl, _⟩ := x
  rw [← rd.length]
  exact hl
section
variable {α β : Type} {G : GC} {W W' : WX} {σ σ' : L2.St} {R : Hp → List Addr → α → β → Prop} {F H : Hp} {rho : List Addr} {Q : β → Hp → Prop}
theorem Post.sig {r : Res α} (h : Post G W σ R F H rho r Q) (hw : ∀ c d H, W c d σ H → W' c d σ' H) : Post G W' σ' R F H rho r Q := by
  cases r with
  | ok d m => exact h
  | ex x m => exact fun c dd H' F' rho' x' r' rx => hw _ _ _ (h c dd H' F' rho' x' r' rx)
  | no => exact h
end

/-! ### what a def leaves -/
mutual
theorem RD.lt {G : GC} {rho rho2 : List Addr} {H : Hp} {n : Nat} (hr : ∀ (k : Nat) (a : Addr), k < n → rho[k]? = some a → rho2[k]? = some a) : ∀ (d : D) (v : V), d.und n = true → RD G rho H d v → RD G rho2 H d v
  | .non, _, _, h => by cases h; exact .non
  | .bl _, _, _, h => by cases h; exact .bl _
  | .int _, _, _, h => by cases h; exact .int _
  | .str _, _, _, h => by cases h; exact .str _
  | .lst xs, _, u, h => by
    cases h with
    | lst h1 h2 => exact .lst h1 (RDs.lt hr xs _ (by simpa only [D.und] using u) h2)
  | .scr xs, _, u, h => by
    cases h with
    | scr h1 h2 => exact .scr h1 (RDs.lt hr xs _ (by simpa only [D.und] using u) h2)
    | scrK h1 h2 => exact .scrK h1 (RDs.lt hr xs _ (by simpa only [D.und] using u) h2)
  | .tup xs, _, u, h => by
    cases h with
    | tup h1 h2 => exact .tup h1 (RDs.lt hr xs _ (by simpa only [D.und] using u) h2)
    | tupK h1 => exact .tupK h1
  | .dic q xs, _, u, h => by
    cases h with
    | dicK h1 h2 => exact .dicK h1 (RDk.lt hr xs _ (by simpa only [D.und] using u) h2)
    | dicT h1 h2 => exact .dicT h1 (RDt.lt hr xs _ (by simpa only [D.und] using u) h2)
  | .ins c fs, _, u, h => by
    cases h with
    | ins h1 h2 h3 => exact .ins h1 h2 (RDf.lt hr fs _ (by simpa only [D.und] using u) h3)
  | .cls c, _, _, h => by
    cases h with
    | cls h => exact .cls h
  | .ref k, _, u, h => by
    cases h with
    | ref h => exact .ref (hr k _ (of_decide_eq_true (by simpa only [D.und] using u)) h)
theorem RDs.lt {G : GC} {rho rho2 : List Addr} {H : Hp} {n : Nat} (hr : ∀ (k : Nat) (a : Addr), k < n → rho[k]? = some a → rho2[k]? = some a) : ∀ (ds : List D) (vs : List V), D.unds n ds = true → RDs G rho H ds vs → RDs G rho2 H ds vs
  | [], _, _, h => by cases h; exact .nil
  | d :: ds, _, u, h => by
    cases h with
    | cons h1 h2 =>
      simp only [D.unds, Bool.and_eq_true] at u
      exact .cons (RD.lt hr d _ u.1 h1) (RDs.lt hr ds _ u.2 h2)
theorem RDf.lt {G : GC} {rho rho2 : List Addr} {H : Hp} {n : Nat} (hr : ∀ (k : Nat) (a : Addr), k < n → rho[k]? = some a → rho2[k]? = some a) : ∀ (ds : List (String × D)) (vs : List (Str × V)), D.undF n ds = true → RDf G rho H ds vs → RDf G rho2 H ds vs
  | [], _, _, h => by cases h; exact .nil
  | (f, d) :: ds, _, u, h => by
    cases h with
    | cons h1 h2 =>
      simp only [D.undF, Bool.and_eq_true] at u
      exact .cons (RD.lt hr d _ u.1 h1) (RDf.lt hr ds _ u.2 h2)
theorem RDk.lt {G : GC} {rho rho2 : List Addr} {H : Hp} {n : Nat} (hr : ∀ (k : Nat) (a : Addr), k < n → rho[k]? = some a → rho2[k]? = some a) : ∀ (ds : List (D × D)) (vs : List (Key × V)), D.undK n ds = true → RDk G rho H ds vs → RDk G rho2 H ds vs
  | [], _, _, h => by cases h; exact .nil
  | (x, d) :: ds, _, u, h => by
    cases h with
    | cons h0 h1 h2 =>
      simp only [D.undK, Bool.and_eq_true] at u
      exact .cons h0 (RD.lt hr d _ u.2.1 h1) (RDk.lt hr ds _ u.2.2 h2)
theorem RDt.lt {G : GC} {rho rho2 : List Addr} {H : Hp} {n : Nat} (hr : ∀ (k : Nat) (a : Addr), k < n → rho[k]? = some a → rho2[k]? = some a) : ∀ (ds : List (D × D)) (vs : List (List Key × V)), D.undK n ds = true → RDt G rho H ds vs → RDt G rho2 H ds vs
  | [], _, _, h => by cases h; exact .nil
  | (x, d) :: ds, _, u, h => by
    cases h with
    | cons h0 h1 h2 =>
      simp only [D.undK, Bool.and_eq_true] at u
      exact .cons h0 (RD.lt hr d _ u.2.1 h1) (RDt.lt hr ds _ u.2.2 h2)
end
theorem allB_get {n : Nat} : ∀ {m : Mem} {i : Nat} {c : MO}, allB n m = true → m[i]? = some c → c.und n = true
  | [], _, _, _, e => by simp at e
  | c :: r, 0, c', h, e => by
    simp only [allB, Bool.and_eq_true] at h
    simp at e
    rw [← e]
    exact h.1
  | c :: r, i + 1, c', h, e => by
    simp only [allB, Bool.and_eq_true] at h
    exact allB_get h.2 (by simpa using e)
theorem Cel.lt {G : GC} {rho rho2 : List Addr} {F H : Hp} {n : Nat} {a : Addr} {c : MO} (hr : ∀ (k : Nat) (a : Addr), k < n → rho[k]? = some a → rho2[k]? = some a) (u : c.und n = true) (h : Cel G rho F H a c) : Cel G rho2 F H a c := by
  cases c with
  | lst xs =>
    obtain ⟨vs, e1, e2⟩ := h
    exact ⟨vs, e1, RDs.lt hr _ _ u e2⟩
  | dic q kvs =>
    cases q with
    | k =>
      obtain ⟨vs, e1, e2⟩ := h
      exact ⟨vs, e1, RDk.lt hr _ _ u e2⟩
    | t =>
      obtain ⟨vs, e1, e2⟩ := h
      exact ⟨vs, e1, RDt.lt hr _ _ u e2⟩
  | ins c fs =>
    obtain ⟨C, dx, fvs, e0, e1, e2⟩ := h
    exact ⟨C, dx, fvs, e0, e1, RDf.lt hr _ _ u e2⟩
  | dead => exact h
section
variable {G : GC} {F H F' H' : Hp} {rho rho' : List Addr} {m m' : Mem}
theorem beg_take (b : Beg rho rho') (hl : rho.length ≤ rho'.length) : rho'.take rho.length = rho := by
  refine List.ext_getElem? fun i => ?_
  by_cases hi : i < rho.length
  · rw [List.getElem?_take_of_lt hi]
    obtain ⟨a, e⟩ : ∃ a, rho[i]? = some a := ⟨_, List.getElem?_eq_getElem hi⟩
    rw [e, b i a e]
  · rw [List.getElem?_eq_none (by rw [List.length_take]; omega), List.getElem?_eq_none (by omega)]
/-- cells that nobody holds are let go -/
theorem drop_cells (r : RelM G F H rho m) (r' : RelM G F' H' rho' m') (x : Ext F H rho F' H' rho') (hl : m.length ≤ m'.length) (hb : allB m.length (m'.take m.length) = true) :
    RelM G F' H' rho (m'.take m.length) ∧ Ext F H rho F' H' rho ∧ ∀ (k : Nat) (a : Addr), k < m.length → rho'[k]? = some a → rho[k]? = some a := by
  have hl2 : rho.length ≤ rho'.length := by rw [← r.len, ← r'.len]; exact hl
  have et := beg_take x.beg hl2
  have lt : ∀ (k : Nat) (a : Addr), k < m.length → rho'[k]? = some a → rho[k]? = some a := fun k a hk e => by
    rw [← et, List.getElem?_take_of_lt (by rw [← r.len]; exact hk)]
    exact e
  refine ⟨⟨r'.sub, by rw [List.length_take, r.len] <;> (rw [← r.len]; omega), r.nd, fun i a c h1 h2 => ?_, fun i a c h1 h2 h3 => ?_⟩, ⟨x.fr, Beg.refl _, x.keep, fun a h n => absurd h n, x.cl⟩, lt⟩
  · have hi : i < m.length := by
      by_cases hi : i < m.length
      · exact hi
      · rw [List.getElem?_eq_none (by rw [List.length_take]; omega)] at h2
        cases h2
    rw [List.getElem?_take_of_lt hi] at h2
    exact Cel.lt lt (allB_get (i := i) hb (by rw [List.getElem?_take_of_lt hi]; exact h2)) (r'.cel i a c (x.beg i a h1) h2)
  · have hi : i < m.length := by
      by_cases hi : i < m.length
      · exact hi
      · rw [List.getElem?_eq_none (by rw [List.length_take]; omega)] at h2
        cases h2
    rw [List.getElem?_take_of_lt hi] at h2
    exact r'.off i a c (x.beg i a h1) h2 h3
theorem fin_ok {d d2 : D} {v : V} {m2 : Mem} (r : RelM G F H rho m) (r' : RelM G F' H' rho' m') (x : Ext F H rho F' H' rho') (rd : RD G rho' F' d v) (e : fin m.length d m' = (d2, m2)) :
    ∃ rho2, Ext F H rho F' H' rho2 ∧ RelM G F' H' rho2 m2 ∧ RD G rho2 F' d2 v := by
  unfold fin at e
  split at e
  · cases e
    exact ⟨rho', x, r', rd⟩
  · rename_i hl
    have hl' : m.length ≤ m'.length := by omega
    split at e
    · rename_i hb
      cases e
      simp only [Bool.and_eq_true] at hb
      obtain ⟨q1, q2, q3⟩ := drop_cells r r' x hl' hb.2
      exact ⟨rho, q2, q1, RD.lt q3 _ _ hb.1 rd⟩
    · split at e
      · rename_i k _
        cases hc : m'[k]? with
        | none =>
          rw [hc] at e
          cases e
          exact ⟨rho', x, r', rd⟩
        | some c =>
          rw [hc] at e
          dsimp only at e
          split at e
          · rename_i hb
            cases e
            simp only [Bool.and_eq_true, decide_eq_true_eq] at hb
            obtain ⟨hk, hu, hb⟩ := hb
            obtain ⟨q1, q2, q3⟩ := drop_cells r r' x hl' hb
            cases rd with
            | @ref _ a ha =>
              have nin : a ∉ rho := fun hin => by
                obtain ⟨j, hj⟩ := List.getElem?_of_mem hin
                have hj' := x.beg j a hj
                obtain ⟨l1, w1⟩ := List.getElem?_eq_some_iff.mp hj'
                obtain ⟨l2, w2⟩ := List.getElem?_eq_some_iff.mp ha
                have ejk := (List.getElem_inj r'.nd).mp (w1.trans w2.symm)
                obtain ⟨l3, _⟩ := List.getElem?_eq_some_iff.mp hj
                rw [← r.len] at l3
                omega
              have gt : ∀ (j : Nat) (b : Addr), j < m.length → rho'[j]? = some b → (rho ++ [a])[j]? = some b := fun j b h1 h2 => by
                rw [List.getElem?_append_left (by rw [← r.len]; exact h1)]
                exact q3 j b h1 h2
              have lmt : (m'.take m.length).length = rho.length := q1.len
              refine ⟨rho ++ [a], ⟨x.fr, Beg.app _ _, x.keep, fun b hb2 hn => ?_, x.cl⟩, ⟨r'.sub, by rw [List.length_append, List.length_append, q1.len] <;> rfl, ?_, fun i b c' h1 h2 => ?_, fun i b c' h1 h2 h3 => ?_⟩, .ref ?_⟩
              · exact x.new b (by
                  rcases List.mem_append.mp hb2 with z | z
                  · exact absurd z hn
                  · have e : b = a := by simpa using z
                    subst e
                    exact List.mem_of_getElem? ha) hn
              · refine List.nodup_append.mpr ⟨r.nd, by simp, fun b hb2 b' hb' => ?_⟩
                have e : b' = a := by simpa using hb'
                subst e
                exact fun z => nin (z ▸ hb2)
              · by_cases hi : i < rho.length
                · rw [List.getElem?_append_left hi] at h1
                  rw [List.getElem?_append_left (by rw [lmt]; exact hi)] at h2
                  exact (q1.cel i b c' h1 h2).mono (Grow.refl _) (Beg.app _ _) fun _ _ e => e
                · have hi' : rho.length ≤ i := Nat.le_of_not_lt hi
                  rw [List.getElem?_append_right hi'] at h1
                  rw [List.getElem?_append_right (by rw [lmt]; exact hi'), lmt] at h2
                  have hz : i - rho.length = 0 := by
                    cases q : i - rho.length with
                    | zero => rfl
                    | succ k => rw [q] at h1; simp at h1
                  rw [hz] at h1 h2
                  simp at h1 h2
                  subst h1 h2
                  exact Cel.lt gt hu (r'.cel k a c ha hc)
              · by_cases hi : i < rho.length
                · rw [List.getElem?_append_left hi] at h1
                  rw [List.getElem?_append_left (by rw [lmt]; exact hi)] at h2
                  exact q1.off i b c' h1 h2 h3
                · have hi' : rho.length ≤ i := Nat.le_of_not_lt hi
                  rw [List.getElem?_append_right hi'] at h1
                  rw [List.getElem?_append_right (by rw [lmt]; exact hi'), lmt] at h2
                  have hz : i - rho.length = 0 := by
                    cases q : i - rho.length with
                    | zero => rfl
                    | succ k => rw [q] at h1; simp at h1
                  rw [hz] at h1 h2
                  simp at h1 h2
                  subst h1 h2
                  exact r'.off k a c ha hc h3
              · rw [r.len]
                simp
          · cases e
            exact ⟨rho', x, r', rd⟩
      · cases e
        exact ⟨rho', x, r', rd⟩
theorem finX_ok {x : Exc} {c : Value} {dd : Option Addr} (r : RelM G F H rho m) (r' : RelM G F' H' rho' m') (xt : Ext F H rho F' H' rho') (rx : RX G F' H' rho' x c dd) :
    ∃ rho2, Ext F H rho F' H' rho2 ∧ RelM G F' H' rho2 (finX m.length x m') ∧ RX G F' H' rho2 x c dd := by
  unfold finX
  split
  · exact ⟨rho', xt, r', rx⟩
  · rename_i hl
    split
    · rename_i hb
      simp only [Bool.and_eq_true] at hb
      obtain ⟨q1, q2, q3⟩ := drop_cells r r' xt (by omega) hb.2
      refine ⟨rho, q2, q1, ?_⟩
      obtain ⟨C, h1, h2, h3⟩ := rx
      refine ⟨C, h1, h2, ?_⟩
      rcases h3 with h3 | ⟨d, fvs, w1, w2, w3⟩
      · exact .inl h3
      · exact .inr ⟨d, fvs, w1, w2, RDf.lt q3 _ _ hb.1 w3⟩
    · exact ⟨rho', xt, r', rx⟩
end

/-! ### a def -/
def e0 (N : Nat) (ds : List D) : Ev := ds.map some ++ List.replicate (N - ds.length) none
/-- what a def comes to: N its names, n its parameters -/
noncomputable def callD (g : Gl) (xn : String → Option (List String)) (N n : Nat) (b : Ss) (ds : List D) (m : Mem) : Res D :=
  if ds.length = n then (match evSs g xn b (e0 N ds) m with
    | .nx _ m' => .ok (fin m.length .non m').1 (fin m.length .non m').2
    | .rt d m' => .ok (fin m.length d m').1 (fin m.length d m').2
    | .ex x _ m' => .ex x (finX m.length x m')
    | _ => .no) else .no
theorem rel_start {G : GC} {F : Hp} {rho : List Addr} {N : List Str} {ds : List D} {vs : List V} (hsl : G.sl = none) (h : RDs G rho F ds vs) : RelE G F rho (e0 N.length ds) (L2.start N vs) := by
  refine ⟨by unfold e0 L2.start; simp [h.length], fun i d e => ?_, SlOk.non hsl⟩
  unfold e0 at e
  by_cases hi : i < ds.length
  · rw [List.getElem?_append_left (by simpa using hi), List.getElem?_map] at e
    cases q : ds[i]? with
    | none => rw [q] at e; cases e
    | some d' =>
      rw [q] at e
      cases e
      obtain ⟨v, e1, e2⟩ := h.get q
      refine ⟨v, ?_, e2⟩
      unfold L2.start
      rw [List.getElem?_append_left (by rw [List.length_map, ← h.length]; exact hi), List.getElem?_map, e1]
      rfl
  · rw [List.getElem?_append_right (by simpa using hi), List.getElem?_replicate] at e
    split at e <;> cases e
theorem fn_ok {P : Program} {w : World} {K : PySem.W.Frag} {mg : Str → Option Value} {base : Heap} {x qual : Str} {params : Arguments} {body : List Stmt} {scope : Scope} {dvs : List V} {kws : List (Str × V)} {f : Addr} {fd : FuncData} {G : GC} {g : Gl} {xn : String → Option (List String)} {N ps : List Str} {k n : Nat} {b : Ss}
    (F : FunD K x qual params body scope dvs kws f fd) (S : FnScope N ps scope) (hn : ps.length = n) (hsl : G.sl = none)
    (hb : ∀ (cdv : Value) (A : Around) (outer : List Env) (s : Shared) (H : Hp) (E : XK), Room k (A.deeper (envOfC qual scope s.heap.objs.size f cdv)) →
      SSs (cxOf (CX P w) P w K mg base N qual scope f cdv A outer s H E) G (fun c d _ H' => E c d H') g xn body b) :
    FnOk P w K mg base (CX P w) (k + 1) f fd ps (spI G n (callD g xn N.length n b)) := by
  refine F.ok S (fun vs H Q E h => (spI_len h).trans hn.symm) fun cdv A outer s H vs Q E hr h => ⟨_, hb cdv A outer s H E hr, ?_⟩
  obtain ⟨F0, rho, m, ds, r, rd, hl, hp⟩ := h
  refine tS.mk r (rel_start hsl rd) ?_
  unfold callD at hp
  rw [if_pos hl] at hp
  cases hev : evSs g xn b (e0 N.length ds) m with
  | nx e1 m1 =>
    rw [hev] at hp
    intro σ' H' F' rho' x' r' re'
    obtain ⟨rho2, q1, q2, q3⟩ := fin_ok (d := .non) (v := .non) r r' x' .non rfl
    exact hp _ _ _ _ q1 q2 q3
  | rt d m1 =>
    rw [hev] at hp
    intro v H' F' rho' x' r' rd'
    obtain ⟨rho2, q1, q2, q3⟩ := fin_ok r r' x' rd' rfl
    exact hp _ _ _ _ q1 q2 q3
  | ex y e1 m1 =>
    rw [hev] at hp
    intro c dd σ' H' F' rho' x' r' re' rx
    obtain ⟨rho2, q1, q2, q3⟩ := finX_ok r r' x' rx
    exact hp _ _ _ _ _ q1 q2 q3
  | bk e1 m1 => rw [hev] at hp; exact hp.elim
  | ct e1 m1 => rw [hev] at hp; exact hp.elim
  | no => rw [hev] at hp; exact hp.elim
end IP

/-! IpQ -/
set_option Elab.async false
set_option linter.all false
set_option maxRecDepth 100000
set_option maxHeartbeats 4000000
/-! IpQ: calls. -/
namespace IP
open PySem L2 PyProof.Rows

/-- a def that may be called -/
structure Callee (P : Program) (w : World) (K : PySem.W.Frag) (mg : Str → Option Value) (base : Heap) (G : GC) (a : Addr) (fd : FuncData) (ps : List Str) (k : Nat) (h : List D → Mem → Res D) : Prop where
  ok : FnOk P w K mg base (CX P w) k a fd ps (spI G ps.length h)
  kp : PySem.W.keepIn K (.ref a) = true
  ar : ∀ ds m, ds.length ≠ ps.length → h ds m = .no
abbrev CalX (X : Cx) (G : GC) (a : Addr) (fd : FuncData) (ps : List Str) (k : Nat) (h : List D → Mem → Res D) : Prop := Callee X.prog X.w X.K X.mg X.base G a fd ps k h

section
variable {X : Cx} {G : GC} {W : WX} {g : Gl} {c : String} {a : Addr} {fd : FuncData} {ps : List Str} {k : Nat} {h : List D → Mem → Res D}
/-- the call itself -/
theorem cal_run (C : CalX X G a fd ps k h) (hb : Binds X.K fd ps []) (tk : Takes X W) (hr : Room k X.A) {pins : List (Addr × Obj)} {σ : L2.St} {H F : Hp} {rho : List Addr} {m : Mem} {s : Shared} {Q : VK} {us : List Value} {vs : List V} {ds : List D}
    (I : Inv X pins σ H s) (r : Vals vs us) (rm : RelM G F H rho m) (rd : RDs G rho F ds vs) (hp : Post G W σ (RD1 G) F H rho (h ds m) Q) : wpAny (model X.prog X.w) X.A (call (.ref a) us) (EP X pins σ Q) X.xe s := by
  by_cases hl : ds.length = ps.length
  · exact run_fnS C.ok hr hb (passAt tk σ) I r ⟨F, rho, m, ds, rm, rd, hl, hp.sig fun _ _ _ h => h⟩
  · rw [C.ar ds m hl] at hp
    exact hp.elim
variable {ea : Expr} {es : List Expr} {as : Es} {x : Str} {f : String} {pos p : Pos}
theorem arr_nil {α : Type} {vs : List α} : arr [] vs = some vs := rfl
theorem se_call (C : CalX X G a fd ps k (g.call c f)) (hb : Binds X.K fd ps []) (tk : Takes X W) (hr : g.cur.isNone = true → Room k X.A) (hg : L2.Gl X x) (hm : X.mg x = some (.ref a)) (hdb : (x == ("__debug__" : Str)) = false)
    (ha : SA X G W g (ea :: es) as) (he : notStar ea = true) (hpl : (backTo pos (starEach es X.env)).any (·.1) = false) : SE X G W g (.Call (.Name x p) (ea :: es) [] pos) (.call c f as [] []) := by
  refine ⟨fun pins s σ H Q I h => ?_⟩
  obtain ⟨F, rho, m, e, r, re, hp⟩ := h
  rw [ev] at hp
  obtain ⟨hcur, hp⟩ := Post.ite hp
  refine wpAny_Call_Name_kw (ld_glob I hg hm ?_ hdb)
  refine PySem.W.callWith_K (h₀ := X.base) I.ok.mod.kin C.kp (thn (ha.run pos pins s σ H _ I (tI.mk r re (Post.bind (R1 := RDL G) hp))) fun us s1 ⟨vs, H1, I1, r1, F1, rho1, ds, m1, x1, rm1, rr, hp1⟩ => ⟨I1.kIn, ?_⟩) (starEach_of he) hpl
  simp only [List.append_nil, arr_nil] at hp1
  exact cal_run C hb tk (hr hcur) I1 r1 rm1 rr hp1
theorem se_call0 (C : CalX X G a fd ps k (g.call c f)) (hb : Binds X.K fd ps []) (tk : Takes X W) (hr : g.cur.isNone = true → Room k X.A) (hg : L2.Gl X x) (hm : X.mg x = some (.ref a)) (hdb : (x == ("__debug__" : Str)) = false) :
    SE X G W g (.Call (.Name x p) [] [] pos) (.call c f .nil [] []) := by
  refine ⟨fun pins s σ H Q I h => ?_⟩
  obtain ⟨F, rho, m, e, r, re, hp⟩ := h
  rw [ev] at hp
  obtain ⟨hcur, hp⟩ := Post.ite hp
  rw [evs] at hp
  refine wpAny_Call_Name_kw (ld_glob I hg hm ?_ hdb)
  exact PySem.W.callWith_K0 I.kIn C.kp (cal_run (us := []) (vs := []) (ds := []) C hb tk (hr hcur) I .nil r .nil hp)

/-! ### keywords -/
def Es.app : Es → Es → Es
  | .nil, s => s
  | .one e r, s => .one e (r.app s)
  | .star e r, s => .star e (r.app s)
theorem evs_app {e : Ev} {s : Es} : ∀ {a : Es} {m : Mem}, evs g (a.app s) e m = (evs g a e m).bind fun xs m1 => (evs g s e m1).bind fun ys m2 => .ok (xs ++ ys) m2
  | .nil, m => by
    rw [Es.app, evs]
    simp only [Res.bind_ok, List.nil_append]
    cases evs g s e m <;> rfl
  | .one b r, m => by
    rw [Es.app, evs, evs]
    cases ev g b e m with
    | ok x m1 =>
      simp only [Res.bind_ok]
      rw [evs_app]
      cases evs g r e m1 with
      | ok xs m2 =>
        simp only [Res.bind_ok]
        cases evs g s e m2 <;> rfl
      | ex _ _ => rfl
      | no => rfl
    | ex _ _ => rfl
    | no => rfl
  | .star b r, m => by
    rw [Es.app, evs, evs]
    cases ev g b e m with
    | ok x m1 =>
      simp only [Res.bind_ok]
      cases vw m1 x with
      | lst ys =>
        dsimp only
        rw [evs_app]
        cases evs g r e m1 with
        | ok xs m2 =>
          simp only [Res.bind_ok]
          cases evs g s e m2 <;> simp [Res.bind]
        | ex _ _ => rfl
        | no => rfl
      | tup ys =>
        dsimp only
        rw [evs_app]
        cases evs g r e m1 with
        | ok xs m2 =>
          simp only [Res.bind_ok]
          cases evs g s e m2 <;> simp [Res.bind]
        | ex _ _ => rfl
        | no => rfl
      | _ => rfl
    | ex _ _ => rfl
    | no => rfl
abbrev SK (X : Cx) (G : GC) (W : WX) (g : Gl) (kws : List Keyword) (as : Es) : Prop := PK X kws (tI G W (RDL G) (evs g as))
theorem sk_nil : SK X G W g [] .nil := ⟨fun pos pins s σ H Q I h => pk_nil.run pos pins s σ H Q I (by
  obtain ⟨F, rho, m, e, r, re, hp⟩ := h
  rw [evs] at hp
  exact hp.here r .nil)⟩
theorem sk_cons {kws : List Keyword} {a : E} {nm : Option Str} {kpos : Pos} (ha : SE X G W g ea a) (hs : SK X G W g kws as) : SK X G W g (⟨nm, ea, kpos⟩ :: kws) (.one a as) := by
  refine ⟨fun pos pins s σ H Q I h => (pk_cons ha hs).run pos pins s σ H Q I ?_⟩
  obtain ⟨F, rho, m, e, r, re, hp⟩ := h
  rw [evs] at hp
  refine tI.mk r re ((Post.bind (R1 := RD1 G) hp).imp fun v H' ⟨F1, rho1, d, m1, x1, r1, rr, hp1⟩ => ?_)
  refine tI.mk r1 (x1.rde r re) ((Post.bind (R1 := RDL G) hp1).imp fun vs H2 ⟨F2, rho2, ds, m2, x2, r2, rr2, hp2⟩ => ?_)
  exact hp2.here r2 (.cons (x2.rd r1 rr) rr2)
/-- how a call with np positional values and keywords named ks is bound -/
def KPat (K : PySem.W.Frag) (fd : FuncData) (ps : List Str) (np : Nat) (ks : List Str) (ar : List Nat) : Prop :=
  ∀ (s : Shared) (us ws as : List Value), K.In s.heap → us.length = np → ws.length = ks.length → arr ar (us ++ ws) = some as → BindsTo s fd ⟨us, ks.zip ws⟩ (ps.zip as)
theorem mapM_vals {vs : List V} {us : List Value} (h : Vals vs us) : ∀ {ar : List Nat} {vs' : List V}, ar.mapM (fun i => vs[i]?) = some vs' → ∃ us', ar.mapM (fun i => us[i]?) = some us' ∧ Vals vs' us'
  | [], _, e => by
    cases e
    exact ⟨[], rfl, .nil⟩
  | i :: ar, _, e => by
    rw [List.mapM_cons] at e
    cases h1 : vs[i]? with
    | none => rw [h1] at e; cases e
    | some v =>
      cases h2 : ar.mapM (fun i => vs[i]?) with
      | none => rw [h1, h2] at e; cases e
      | some r =>
        rw [h1, h2] at e
        cases e
        obtain ⟨u, e1, e2⟩ := h.get h1
        obtain ⟨us', e3, e4⟩ := mapM_vals h h2
        exact ⟨u :: us', by rw [List.mapM_cons, e1, e3]; rfl, .cons e2 e4⟩
theorem arr_vals {vs vs' : List V} {us : List Value} (h : Vals vs us) {ar : List Nat} (e : arr ar vs = some vs') : ∃ us', arr ar us = some us' ∧ Vals vs' us' := by
  cases ar with
  | nil =>
    cases e
    exact ⟨us, rfl, h⟩
  | cons i ar => exact mapM_vals h e
theorem mapM_rds {rho : List Addr} {F : Hp} {ds : List D} {vs : List V} (h : RDs G rho F ds vs) : ∀ {ar : List Nat} {ds' : List D}, ar.mapM (fun i => ds[i]?) = some ds' → ∃ vs', ar.mapM (fun i => vs[i]?) = some vs' ∧ RDs G rho F ds' vs'
  | [], _, e => by
    cases e
    exact ⟨[], rfl, .nil⟩
  | i :: ar, _, e => by
    rw [List.mapM_cons] at e
    cases h1 : ds[i]? with
    | none => rw [h1] at e; cases e
    | some v =>
      cases h2 : ar.mapM (fun i => ds[i]?) with
      | none => rw [h1, h2] at e; cases e
      | some r =>
        rw [h1, h2] at e
        cases e
        obtain ⟨u, e1, e2⟩ := h.get h1
        obtain ⟨us', e3, e4⟩ := mapM_rds h h2
        exact ⟨u :: us', by rw [List.mapM_cons, e1, e3]; rfl, .cons e2 e4⟩
theorem arr_rds {rho : List Addr} {F : Hp} {ds ds' : List D} {vs : List V} (h : RDs G rho F ds vs) {ar : List Nat} (e : arr ar ds = some ds') : ∃ vs', arr ar vs = some vs' ∧ RDs G rho F ds' vs' := by
  cases ar with
  | nil =>
    cases e
    exact ⟨vs, rfl, h⟩
  | cons i ar => exact mapM_rds h e
theorem se_callK {kws : List Keyword} {as2 : Es} {ks : List Str} {ar : List Nat} {np : Nat} (C : CalX X G a fd ps k (g.call c f)) (hk : KPat X.K fd ps np ks ar) (tk : Takes X W) (hr : g.cur.isNone = true → Room k X.A) (hg : L2.Gl X x) (hm : X.mg x = some (.ref a)) (hdb : (x == ("__debug__" : Str)) = false)
    (hnp : ∀ {e m xs m1}, evs g as e m = .ok xs m1 → xs.length = np) (hnk : ∀ {e m xs m1}, evs g as2 e m = .ok xs m1 → xs.length = ks.length)
    (ha : SA X G W g (ea :: es) as) (hkw : SK X G W g kws as2) (he : notStar ea = true) (hall : (backToKw pos (keywordEach kws X.env)).all (·.1.isSome) = true) (hks : (backToKw pos (keywordEach kws X.env)).filterMap (·.1) = ks)
    (hpl : ((backTo pos (starEach (ea :: es) X.env)).any (·.1) || (backToKw pos (keywordEach kws X.env)).any (·.1.isNone)) = false) : SE X G W g (.Call (.Name x p) (ea :: es) kws pos) (.call c f (as.app as2) ar []) := by
  refine ⟨fun pins s σ H Q I h => ?_⟩
  obtain ⟨F, rho, m, e, r, re, hp⟩ := h
  rw [ev] at hp
  obtain ⟨hcur, hp⟩ := Post.ite hp
  rw [evs_app] at hp
  refine wpAny_Call_Name_kw (ld_glob I hg hm ?_ hdb)
  refine PySem.W.callWith_KW (h₀ := X.base) I.ok.mod.kin C.kp hall (thn (ha.run pos pins s σ H (fun vs H1 => ∃ F1 rho1 ds m1, Ext F H rho F1 H1 rho1 ∧ RelM G F1 H1 rho1 m1 ∧ RDs G rho1 F1 ds vs ∧ ds.length = np ∧ RelE G F1 rho1 e σ ∧ Post G W σ (RD1 G) F1 H1 rho1 (((evs g as2 e m1).bind fun ys m2 => .ok (ds ++ ys) m2).bind fun vs m1 => (match arr ar (vs ++ []) with
      | some as => g.call c f as m1
      | none => .no)) Q) I (tI.mk r re ?_)) fun us s1 ⟨vs, H1, I1, r1, F1, rho1, ds, m1, x1, rm1, rr, hl1, re1, hp1⟩ => ?_) hpl (starEach_of he)
  · cases hv : evs g as e m with
    | no => rw [hv] at hp; exact hp.elim
    | ex y m1 => rw [hv] at hp; exact hp
    | ok xs m1 =>
      rw [hv] at hp
      simp only [Res.bind_ok] at hp
      intro vs H' F' rho' x' r' rd'
      exact ⟨F', rho', xs, m1, x', r', rd', hnp hv, x'.rde r re, hp.ext x'⟩
  · refine thn (hkw.run pos pins s1 σ H1 (fun zs H2 => ∃ F2 rho2 es2 m2, Ext F1 H1 rho1 F2 H2 rho2 ∧ RelM G F2 H2 rho2 m2 ∧ RDs G rho2 F2 es2 zs ∧ es2.length = ks.length ∧ Post G W σ (RD1 G) F2 H2 rho2 (match arr ar (ds ++ es2) with
      | some as => g.call c f as m2
      | none => .no) Q) I1 (tI.mk rm1 re1 ?_)) fun ws s2 ⟨zs, H2, I2, rz, F2, rho2, es2, m2, x2, rm2, rr2, hl2, hp2⟩ => ⟨I2.kIn, ?_⟩
    · cases hv : evs g as2 e m1 with
      | no => rw [hv] at hp1; exact hp1.elim
      | ex y m2 => rw [hv] at hp1; exact hp1
      | ok xs m2 =>
        rw [hv] at hp1
        simp only [Res.bind_ok, List.append_nil] at hp1
        intro vs H' F' rho' x' r' rd'
        exact ⟨F', rho', xs, m2, x', r', rd', hnk hv, hp1.ext x'⟩
    · rw [hks]
      cases hv : arr ar (ds ++ es2) with
      | none => rw [hv] at hp2; exact hp2.elim
      | some as' =>
        rw [hv] at hp2
        obtain ⟨vs', e1, e2⟩ := arr_rds ((x2.rds rm1 rr).append rr2) hv
        obtain ⟨us', e3, e4⟩ := arr_vals (r1.append rz) e1
        dsimp only at hp2
        by_cases hl : as'.length = ps.length
        · have b := hk s2 us ws us' I2.kIn (by rw [← r1.length, ← rr.length, hl1]) (by rw [← rz.length, ← rr2.length, hl2]) e3
          refine wpAny_call (codeAny_mono (C.ok.run X.A X.stack s2 H2 ⟨us, ks.zip ws⟩ us' vs' Q (WE W σ) (hr hcur) I2.env0 b e4 ⟨F2, rho2, m2, as', rm2, e2, hl, hp2.sig fun _ _ _ h => h⟩) fun r s' hq => ?_)
          cases r with
          | error er => exact passAt tk σ pins H2 s2 er s' I2 hq
          | ok fl =>
            cases fl with
            | ret u => exact I2.after hq
            | next => exact False.elim hq
            | brk => exact False.elim hq
            | cont => exact False.elim hq
        · rw [C.ar as' m2 hl] at hp2
          exact hp2.elim
end
end IP

/-! IpR -/
set_option Elab.async false
set_option linter.all false
set_option maxRecDepth 100000
set_option maxHeartbeats 4000000
/-! IpR: methods, new instances, raise. -/
namespace IP
open PySem L2 PyProof.Rows
theorem RDf.none {G : GC} {rho : List Addr} {H : Hp} (f : String) : ∀ {xs : List (String × D)} {vs : List (Str × V)}, RDf G rho H xs vs → xs.lookup f = none → vs.lookup (Str.ofString f) = none
  | _, _, .nil, _ => rfl
  | _, _, .cons (f := g) h t, e => by
    by_cases q : f = g
    · subst q
      simp [List.lookup] at e
    · have q1 : (f == g) = false := by simpa using q
      have q2 : (Str.ofString f == Str.ofString g) = false := by
        simpa using fun z => q (ofString_inj z)
      simp only [List.lookup, q1, q2] at e ⊢
      exact RDf.none f t e
/-- what is between an object and its method, read from the tree of the call -/
def MTree (o : Expr) (m : Str) (apos pos : Pos) (args : List Expr) (kws : List Keyword) (env : Env) (pl : Sem Bool) : Prop :=
  eval (.Call (.Attribute o m apos) args kws pos) env = (do
      let ov ← eval o env
      standAt apos.atName
      let (f, first) ← holding [ov] (getMethod ov m pl)
      callWith pos f first (backTo pos (starEach args env)) (backToKw pos (keywordEach kws env)))
section
variable {X : Cx} {G : GC} {W : WX} {g : Gl} {c f : String} {a CC : Addr} {fd : FuncData} {ps : List Str} {k : Nat} {h : List D → Mem → Res D} {ea eo : Expr} {es : List Expr} {as : Es} {o : E} {pos apos : Pos} {pl : Sem Bool}
theorem se_meth (B : Base X G W g) (C : CalX X G a fd ps k (g.call c f)) (hb : Binds X.K fd ps []) (hr : g.cur.isNone = true → Room k X.A) (hC : G.own c = some CC) (hcl : Cls X.K CC) (hm : Meth X.K CC (Str.ofString f) a) (ho : SE X G W g eo o) (ha : SA X G W g (ea :: es) as) (he : notStar ea = true)
    (hpl : (backTo pos (starEach es X.env)).any (·.1) = false) (ht : MTree eo (Str.ofString f) apos pos (ea :: es) [] X.env pl) : SE X G W g (.Call (.Attribute eo (Str.ofString f) apos) (ea :: es) [] pos) (.meth c f o as [] []) := by
  refine ⟨fun pins s σ H Q I h => ?_⟩
  obtain ⟨F, rho, m, e, r, re, hp⟩ := h
  rw [ev] at hp
  obtain ⟨hcur, hp⟩ := Post.ite hp
  refine PySem.W.methodCall_KW (pl := pl) (thn (ho.run pins s σ H _ I (tI.mk r re (Post.bind (R1 := RD1 G) hp))) fun u s1 ⟨x, H1, I1, rx, F1, rho1, d, m1, x1, r1, rr, hp1⟩ => ?_) ht
  dsimp only at hp1
  split at hp1
  · rename_i c' fs ev_
    obtain ⟨hc, hp2⟩ := Post.ite hp1
    simp only [Bool.and_eq_true, beq_iff_eq] at hc
    obtain ⟨rfl, hno⟩ := hc
    obtain ⟨p, C', dx, fvs, rfl, hC', h1, h2⟩ := r1.vwi rr ev_
    rw [hC] at hC'
    cases hC'
    cases rx
    have hl : fvs.lookup (Str.ofString f) = none := RDf.none f h2 (by simpa using hno)
    refine getmeth_ok I1 h1 hcl hm hl ?_
    refine PySem.W.callWith_K (first := [.ref p]) (h₀ := X.base) I.ok.mod.kin hm.kp (thn (ha.run pos pins s1 σ H1 _ I1 (tI.mk r1 (x1.rde r re) (Post.bind (R1 := RDL G) hp2))) fun us s2 ⟨vs, H2, I2, r2, F2, rho2, ds, m2, x2, rm2, rr2, hp3⟩ => ⟨I2.kIn, ?_⟩) (starEach_of he) hpl
    simp only [List.append_nil, arr_nil] at hp3
    exact cal_run (us := .ref p :: us) (vs := .ref p :: vs) C hb B.tk (hr hcur) I2 (.cons rfl r2) rm2 (.cons (x2.rd r1 rr) rr2) hp3
  · exact hp1.elim
theorem se_meth0 (B : Base X G W g) (C : CalX X G a fd ps k (g.call c f)) (hb : Binds X.K fd ps []) (hr : g.cur.isNone = true → Room k X.A) (hC : G.own c = some CC) (hcl : Cls X.K CC) (hm : Meth X.K CC (Str.ofString f) a) (ho : SE X G W g eo o)
    (ht : MTree eo (Str.ofString f) apos pos [] [] X.env pl) : SE X G W g (.Call (.Attribute eo (Str.ofString f) apos) [] [] pos) (.meth c f o .nil [] []) := by
  refine ⟨fun pins s σ H Q I h => ?_⟩
  obtain ⟨F, rho, m, e, r, re, hp⟩ := h
  rw [ev] at hp
  obtain ⟨hcur, hp⟩ := Post.ite hp
  refine PySem.W.methodCall_KW (pl := pl) (thn (ho.run pins s σ H _ I (tI.mk r re (Post.bind (R1 := RD1 G) hp))) fun u s1 ⟨x, H1, I1, rx, F1, rho1, d, m1, x1, r1, rr, hp1⟩ => ?_) ht
  dsimp only at hp1
  split at hp1
  · rename_i c' fs ev_
    obtain ⟨hc, hp2⟩ := Post.ite hp1
    simp only [Bool.and_eq_true, beq_iff_eq] at hc
    obtain ⟨rfl, hno⟩ := hc
    obtain ⟨p, C', dx, fvs, rfl, hC', h1, h2⟩ := r1.vwi rr ev_
    rw [hC] at hC'
    cases hC'
    cases rx
    have hl : fvs.lookup (Str.ofString f) = none := RDf.none f h2 (by simpa using hno)
    refine getmeth_ok I1 h1 hcl hm hl ?_
    rw [evs] at hp2
    exact PySem.W.callWith_K0 (first := [.ref p]) I1.kIn hm.kp (cal_run (us := [.ref p]) (vs := [.ref p]) (ds := [d]) C hb B.tk (hr hcur) I1 (.cons rfl .nil) r1 (.cons rr .nil) hp2)
  · exact hp1.elim

/-! ### new instances -/
theorem run_makeS {pins : List (Addr × Obj)} {σ : L2.St} {H : Hp} {s : Shared} {Q : VK} {us : List Value} {vs : List V} {C f : Addr} {sp : Sp} {E : L2.St → XK} {CXt : CXT} (M : Mk X.K C f) (F : FnOk X.prog X.w X.K X.mg X.base CXt k f fd ps sp) (hr : Room (k + 1) X.A) (hb : Binds X.K fd ps [])
    (hx : PassesAt CXt X σ (E σ)) (I : Inv X pins σ H s) (r : Vals vs us)
    (h : ∀ x dx, H x = none → H dx = none → dx ≠ x → sp (.ref x :: vs) (upd (upd H dx (.own x)) x (.ins C dx [])) (fun v H2 => v = .non ∧ Q (.ref x) H2) (E σ)) :
    wpAny (model X.prog X.w) X.A (call (.ref C) us) (EP X pins σ Q) X.xe s := by
  have hq := h (s.heap.objs.size + 1) s.heap.objs.size (I.hok.fresh (Nat.le_succ _)) (I.hok.fresh (Nat.le_refl _)) (Nat.ne_of_lt (Nat.lt_succ_self _))
  have I2 := Inv.made (C := C) I
  have r2 : Vals (V.ref (s.heap.objs.size + 1) :: vs) (Value.ref (s.heap.objs.size + 1) :: us) := .cons rfl r
  have hl : (Value.ref (s.heap.objs.size + 1) :: us).length = ps.length := by
    have e := r2.length
    rw [F.len _ _ _ _ hq] at e
    exact e.symm
  have b := hb _ (Value.ref (s.heap.objs.size + 1) :: us) I2.kIn (by rw [List.append_nil]; exact hl)
  rw [List.append_nil] at b
  refine wpAny_call (make_map (f := f) I.kIn M.makes M.init (beq_iff_eq.mp M.fn) (codeAny_mono (F.run _ X.stack _ _ ⟨Value.ref (s.heap.objs.size + 1) :: us, []⟩ (Value.ref (s.heap.objs.size + 1) :: us) _ _ (E σ) (hr.make C us [])
    (I2.env0.make C us []) b r2 hq) fun r s' hq' => ?_))
  cases r with
  | error e => exact hx pins _ _ e s' I2 hq'
  | ok fl =>
    cases fl with
    | ret u =>
      obtain ⟨v, H', I3, rv, ev, q3⟩ := I2.after hq'
      subst ev
      exact ⟨rv, ⟨V.ref (s.heap.objs.size + 1), H', I3, rfl, q3⟩⟩
    | next => exact False.elim hq'
    | brk => exact False.elim hq'
    | cont => exact False.elim hq'
/-- the last cell becomes a value -/
theorem RelM.freeze {F0 H0 F H : Hp} {rho0 rho : List Addr} {m0 m : Mem} {p : Addr} {cc : MO} {u : HO} (r0 : RelM G F0 H0 rho0 m0) (r : RelM G F H rho m) (x : Ext F0 H0 rho0 F H rho) (hl : m.length = m0.length + 1) (hp : rho[m0.length]? = some p) (hc : m[m0.length]? = some cc) (hd : cc ≠ .dead)
    (hH : H p = some u) (hb : allB m0.length (m.take m0.length) = true) : RelM G (upd F p u) H rho0 (m.take m0.length) ∧ Ext F0 H0 rho0 (upd F p u) H rho0 ∧ ∀ (k : Nat) (a : Addr), k < m0.length → rho[k]? = some a → rho0[k]? = some a := by
  obtain ⟨q1, q2, q3⟩ := drop_cells r0 r x (by omega) hb
  have hF := r.off _ p cc hp hc hd
  have hn : p ∉ rho0 := fun hin => by
    obtain ⟨j, hj⟩ := List.getElem?_of_mem hin
    obtain ⟨l1, w1⟩ := List.getElem?_eq_some_iff.mp (x.beg j p hj)
    obtain ⟨l2, w2⟩ := List.getElem?_eq_some_iff.mp hp
    have ejk := (List.getElem_inj r.nd).mp (w1.trans w2.symm)
    obtain ⟨l3, _⟩ := List.getElem?_eq_some_iff.mp hj
    rw [← r0.len] at l3
    omega
  have h0 : H0 p = none := x.new p (List.mem_of_getElem? hp) hn
  have gr : Grow F (upd F p u) := Grow.upd hF
  refine ⟨⟨⟨fun {b v} e => ?_⟩, q1.len, q1.nd, fun i b c' h1 h2 => (q1.cel i b c' h1 h2).mono gr (Beg.refl _) fun _ _ e => e, fun i b c' h1 h2 h3 => ?_⟩, ⟨q2.fr.trans gr, Beg.refl _, q2.keep, fun b h n => absurd h n, fun b v e => ?_⟩, q3⟩
  · by_cases hb2 : b = p
    · subst hb2
      rw [upd_same] at e
      cases e
      exact .inl hH
    · rw [upd_ne hb2] at e
      exact q1.sub.at_ e
  · rw [upd_ne fun z => hn (by rw [← z]; exact List.mem_of_getElem? h1)]
    exact q1.off i b c' h1 h2 h3
  · by_cases hb2 : b = p
    · subst hb2
      exact .inr (.inl h0)
    · rw [upd_ne hb2] at e
      exact q2.cl b v e
theorem make_run {mu : Bool} (B : Base X G W g) (C : CalX X G a fd ps k (g.call c "__init__")) (hb : Binds X.K fd ps []) (hr : g.cur.isNone = true → Room (k + 1) X.A) (hC : G.own c = some CC) (M : Mk X.K CC a)
    {pins : List (Addr × Obj)} {σ : L2.St} {H F : Hp} {rho : List Addr} {m : Mem} {s : Shared} {Q : VK} {us : List Value} {vs : List V} {ds : List D}
    (I : Inv X pins σ H s) (r : Vals vs us) (rm : RelM G F H rho m) (rd : RDs G rho F ds vs) (hp : Post G W σ (RD1 G) F H rho (makeG g mu c ds m) Q) : wpAny (model X.prog X.w) X.A (call (.ref CC) us) (EP X pins σ Q) X.xe s := by
  unfold makeG at hp
  obtain ⟨hcur, hp⟩ := Post.ite hp
  refine run_makeS (E := WE W) M C.ok (hr hcur) hb (passAt B.tk σ) I r fun x dx hx hdx hne => ?_
  have rm1 : RelM G F (upd H dx (.own x)) rho m := rm.other (rm.off' hdx) (rm.notin hdx)
  have x1 : Ext F H rho F (upd H dx (.own x)) rho := (Ext.refl _ _ _).other hdx
  have hx1 : upd H dx (.own x) x = none := by rw [upd_ne (Ne.symm hne)]; exact hx
  obtain ⟨rm2, x2⟩ := rm1.cell (o := .ins CC dx []) (c := .ins c []) hx1 ⟨CC, dx, [], hC, upd_same, .nil⟩
  have x12 := x1.trans x2
  have hl : rho.length = m.length := rm.len.symm
  have gref : RD G (rho ++ [x]) F (.ref m.length) (.ref x) := .ref (by rw [← hl]; simp)
  by_cases har : (D.ref m.length :: ds).length = ps.length
  rotate_left
  · rw [C.ar _ _ har] at hp
    exact hp.elim
  refine ⟨F, rho ++ [x], m ++ [.ins c []], .ref m.length :: ds, rm2, .cons gref (x12.rds rm rd), har, ?_⟩
  cases hcall : g.call c "__init__" (.ref m.length :: ds) (m ++ [.ins c []]) with
  | no => rw [hcall] at hp; exact hp.elim
  | ex y m1 =>
    rw [hcall] at hp
    exact fun c dd H' F' rho' x' r' rx => hp c dd H' F' rho' (x12.trans x') r' rx
  | ok d m1 =>
    rw [hcall] at hp
    simp only [Res.bind_ok] at hp
    intro v H' F' rho' x' r' rr
    have xx := x12.trans x'
    have href : rho'[m.length]? = some x := x'.beg _ _ (by rw [← hl]; simp)
    cases d with
    | non =>
      cases rr
      refine ⟨rfl, ?_⟩
      cases mu with
      | true => exact hp _ _ _ _ xx r' (.ref href)
      | false =>
        dsimp only at hp
        rw [if_neg Bool.false_ne_true] at hp
        cases hc : m1[m.length]? with
        | none => rw [hc] at hp; exact hp.elim
        | some cc =>
          rw [hc] at hp
          cases cc with
          | ins c' fs =>
            obtain ⟨hcond, hp4⟩ := Post.ite hp
            simp only [Bool.and_eq_true, decide_eq_true_eq, beq_iff_eq] at hcond
            obtain ⟨rfl, hlen, hu, hba⟩ := hcond
            obtain ⟨C2, dx2, fvs, e0, e1, e2⟩ := r'.cel _ x _ href hc
            obtain ⟨q1, q2, q3⟩ := RelM.freeze rm r' xx hlen href hc (fun z => nomatch z) e1 hba
            have hF' := r'.off _ x _ href hc (fun z => nomatch z)
            exact hp4 _ _ _ _ q2 q1 (.ins e0 upd_same (RDf.mono (Grow.upd hF').sub (Beg.refl _) _ _ (RDf.lt q3 _ _ hu e2)))
          | _ => exact hp.elim
    | _ => exact hp.elim
variable {x : Str} {p : Pos}
theorem se_make {mu : Bool} (B : Base X G W g) (C : CalX X G a fd ps k (g.call c "__init__")) (hb : Binds X.K fd ps []) (hr : g.cur.isNone = true → Room (k + 1) X.A) (hC : G.own c = some CC) (M : Mk X.K CC a) (hg : L2.Gl X x) (hm : X.mg x = some (.ref CC)) (hdb : (x == ("__debug__" : Str)) = false)
    (ha : SA X G W g (ea :: es) as) (he : notStar ea = true) (hpl : (backTo pos (starEach es X.env)).any (·.1) = false) : SE X G W g (.Call (.Name x p) (ea :: es) [] pos) (.make mu c as [] []) := by
  refine ⟨fun pins s σ H Q I h => ?_⟩
  obtain ⟨F, rho, m, e, r, re, hp⟩ := h
  rw [ev] at hp
  obtain ⟨hcur, hp⟩ := Post.ite hp
  refine wpAny_Call_Name_kw (ld_glob I hg hm ?_ hdb)
  refine PySem.W.callWith_K (h₀ := X.base) I.ok.mod.kin M.kp (thn (ha.run pos pins s σ H _ I (tI.mk r re (Post.bind (R1 := RDL G) hp))) fun us s1 ⟨vs, H1, I1, r1, F1, rho1, ds, m1, x1, rm1, rr, hp1⟩ => ⟨I1.kIn, ?_⟩) (starEach_of he) hpl
  simp only [List.append_nil, arr_nil] at hp1
  exact make_run B C hb hr hC M I1 r1 rm1 rr hp1
theorem se_make0 {mu : Bool} (B : Base X G W g) (C : CalX X G a fd ps k (g.call c "__init__")) (hb : Binds X.K fd ps []) (hr : g.cur.isNone = true → Room (k + 1) X.A) (hC : G.own c = some CC) (M : Mk X.K CC a) (hg : L2.Gl X x) (hm : X.mg x = some (.ref CC)) (hdb : (x == ("__debug__" : Str)) = false) :
    SE X G W g (.Call (.Name x p) [] [] pos) (.make mu c .nil [] []) := by
  refine ⟨fun pins s σ H Q I h => ?_⟩
  obtain ⟨F, rho, m, e, r, re, hp⟩ := h
  rw [ev] at hp
  obtain ⟨hcur, hp⟩ := Post.ite hp
  rw [evs] at hp
  refine wpAny_Call_Name_kw (ld_glob I hg hm ?_ hdb)
  exact PySem.W.callWith_K0 I.kIn M.kp (make_run (us := []) (vs := []) (ds := []) B C hb hr hC M I .nil r .nil hp)

/-! ### raise -/
/-- what a call of an exception class leaves -/
def MkR (X : Cx) (CC : Addr) (ns : List String) : Prop :=
  ∀ (pins : List (Addr × Obj)) (s : Shared) (σ : L2.St) (H : Hp) (vs : List V) (us : List Value) (Q : XK), Inv X pins σ H s → Vals vs us → vs.length = ns.length →
    (∀ dd H2, ((ns = [] ∧ dd = none ∧ H2 = H) ∨ ∃ d, dd = some d ∧ H d = none ∧ H2 = upd H d (.xd ((ns.map Str.ofString).zip vs))) → Q (.ref CC) dd H2) → wpAny (model X.prog X.w) X.A (call (.ref CC) us) (MkP X pins σ Q) X.xe s
theorem zip_rdf {rho : List Addr} {F : Hp} : ∀ {ns : List String} {ds : List D} {vs : List V}, RDs G rho F ds vs → RDf G rho F (ns.zip ds) ((ns.map Str.ofString).zip vs)
  | [], _, _, _ => .nil
  | _ :: _, _, _, .nil => .nil
  | _ :: _, _, _, .cons h t => .cons h (zip_rdf t)
variable {xn : String → Option (List String)}
theorem raise_post {D : Ends} {σ : L2.St} {F H : Hp} {rho : List Addr} {m : Mem} {e : Ev} {ds : List IP.D} {vs : List V} {ns : List String} (hcE : G.exa c = some CC) (hx : xn c = some ns) (r : RelM G F H rho m) (re : RelE G F rho e σ) (rd : RDs G rho F ds vs)
    (hp : PostS G W F H rho (match xn c with
    | some ns => if decide (ds.length = ns.length) then .ex ⟨c, ns.zip ds⟩ e m else .no
    | none => .no) D) : vs.length = ns.length ∧ ∀ dd H2, ((ns = [] ∧ dd = none ∧ H2 = H) ∨ ∃ d, dd = some d ∧ H d = none ∧ H2 = upd H d (.xd ((ns.map Str.ofString).zip vs))) → W (.ref CC) dd σ H2 := by
  rw [hx] at hp
  obtain ⟨hl, hp⟩ := PostS.ite hp
  have hl := of_decide_eq_true hl
  refine ⟨by rw [← rd.length]; exact hl, fun dd H2 h => ?_⟩
  rcases h with ⟨h1, h2, h3⟩ | ⟨d, h1, h2, h3⟩
  · subst h2 h3
    refine hp (.ref CC) none σ _ F rho (Ext.refl _ _ _) r re ⟨CC, hcE, rfl, .inl ⟨?_, rfl⟩⟩
    rw [h1]
    rfl
  · subst h1 h3
    obtain ⟨r2, x2⟩ := r.frozen (o := .xd ((ns.map Str.ofString).zip vs)) h2
    exact hp (.ref CC) (some d) σ _ _ rho x2 r2 (x2.rde r re) ⟨CC, hcE, rfl, .inr ⟨d, _, rfl, upd_same, zip_rdf (x2.rds r rd)⟩⟩
theorem ss_raise {ns : List String} {es : List Expr} {cpos : Pos} (B : Base X G W g) (M : MkR X CC ns) (hcE : G.exa c = some CC) (hx : xn c = some ns) (hk : PySem.W.keepIn X.K (.ref CC) = true) (hg : L2.Gl X x) (hm : X.mg x = some (.ref CC)) (hdb : (x == ("__debug__" : Str)) = false)
    (ha : SA X G W g (ea :: es) as) (he : notStar ea = true) (hpl : (backTo cpos (starEach es X.env)).any (·.1) = false) : SS X G W g xn (.Raise (some (.Call (.Name x p) (ea :: es) [] cpos)) none pos) (.rais c as) := by
  by_cases hcur : g.cur.isNone = true
  rotate_left
  · refine ⟨fun pins s σ H D I h => ?_⟩
    obtain ⟨F, rho, m, e, r, re, hp⟩ := h
    rw [evS, if_neg hcur] at hp
    exact hp.elim
  have pm : PMk X (.Call (.Name x p) (ea :: es) [] cpos) (fun σ H Q => tI G W (RDL G) (evs g as) σ H fun vs H1 => vs.length = ns.length ∧ ∀ dd H2, ((ns = [] ∧ dd = none ∧ H2 = H1) ∨ ∃ d, dd = some d ∧ H1 d = none ∧ H2 = upd H1 d (.xd ((ns.map Str.ofString).zip vs))) → Q (.ref CC) dd H2) := by
    intro pins s σ H Q I h
    refine wpAny_Call_Name_kw (ld_glob I hg hm ?_ hdb)
    refine PySem.W.callWith_K (h₀ := X.base) I.ok.mod.kin hk (thn (ha.run cpos pins s σ H _ I h) fun us s1 ⟨vs, H1, I1, r1, hl, q⟩ => ⟨I1.kIn, ?_⟩) (starEach_of he) hpl
    exact M pins s1 σ H1 vs us Q I1 r1 hl q
  refine (ps_raise (B.calm (by simpa using hcur)) B.tk pm).imp fun D σ H h => ?_
  obtain ⟨F, rho, m, e, r, re, hp⟩ := h
  rw [evS, if_pos hcur] at hp
  refine tI.mk r re ((PostS.go (R1 := RDL G) r re hp).imp fun vs H' ⟨F1, rho1, ds, m1, x1, r1, rr, hp1⟩ => ?_)
  exact raise_post hcE hx r1 (x1.rde r re) rr hp1
theorem ss_raise0 {ns : List String} {cpos : Pos} (B : Base X G W g) (M : MkR X CC ns) (hcE : G.exa c = some CC) (hx : xn c = some ns) (hk : PySem.W.keepIn X.K (.ref CC) = true) (hg : L2.Gl X x) (hm : X.mg x = some (.ref CC)) (hdb : (x == ("__debug__" : Str)) = false) :
    SS X G W g xn (.Raise (some (.Call (.Name x p) [] [] cpos)) none pos) (.rais c .nil) := by
  by_cases hcur : g.cur.isNone = true
  rotate_left
  · refine ⟨fun pins s σ H D I h => ?_⟩
    obtain ⟨F, rho, m, e, r, re, hp⟩ := h
    rw [evS, if_neg hcur] at hp
    exact hp.elim
  have pm : PMk X (.Call (.Name x p) [] [] cpos) (fun σ H Q => 0 = ns.length ∧ ∀ dd H2, ((ns = [] ∧ dd = none ∧ H2 = H) ∨ ∃ d, dd = some d ∧ H d = none ∧ H2 = upd H d (.xd ((ns.map Str.ofString).zip []))) → Q (.ref CC) dd H2) := by
    intro pins s σ H Q I h
    refine wpAny_Call_Name_kw (ld_glob I hg hm ?_ hdb)
    exact PySem.W.callWith_K0 I.kIn hk (M pins s σ H [] [] Q I .nil h.1 h.2)
  refine (ps_raise (B.calm (by simpa using hcur)) B.tk pm).imp fun D σ H h => ?_
  obtain ⟨F, rho, m, e, r, re, hp⟩ := h
  rw [evS, if_pos hcur, evs] at hp
  simp only [Res.go_ok] at hp
  exact raise_post (vs := []) hcE hx r re .nil hp
end
end IP

/-! IpS -/
set_option Elab.async false
set_option linter.all false
set_option maxRecDepth 100000
set_option maxHeartbeats 4000000
/-! IpS: the exceptions' classes. -/
namespace IP
open PySem L2 PyProof.Rows
theorem mtree {o : Expr} {m : Str} {apos pos : Pos} {args : List Expr} {kws : List Keyword} {env : Env} (hb : attributeBase o m env (eval o env) = eval o env) (hf : methodCallForm (args.length + kws.length) (backTo pos (starEach args env)) (backToKw pos (keywordEach kws env)) = true) (hl : (apos.endLine == pos.line) = true) :
    MTree o m apos pos args kws env (plainOf o env) := mcall_of hb fun ov => mcall_line hf hl
section
variable {X : Cx} {CD : Addr} {e : Expr} {es : List Expr} {ta : TA} {x : Str} {p1 p2 pos : Pos}
/-- D.__init__(self, ..), D an own class over ValueError without an own __init__ -/
theorem pe_dinit (hg : L2.Gl X x) (hm : X.mg x = some (.ref CD)) (hdb : (x == ("__debug__" : Str)) = false) (rd : ClX.CRead X.K CD (.type "type")) (fc : PySem.W.findCls X.K (.ref CD) (.type "type") "__init__" = some (.val (.builtin "ValueError.__init__"))) (ha : PA X (e :: es) ta)
    (hc : MTree (.Name x p1) "__init__" p2 pos (e :: es) [] X.env (plainOf (.Name x p1) X.env)) (he : starEach (e :: es) X.env = (false, eval e X.env) :: starEach es X.env) (hpl : (backTo pos (starEach es X.env)).any (·.1) = false) :
    PE X (.Call (.Attribute (.Name x p1) "__init__" p2) (e :: es) [] pos) (tVeI X.K ta) := by
  refine ⟨fun pins s σ H Q I h => ?_⟩
  refine PySem.W.methodCall_KW (ld_glob I hg hm ?_ hdb) hc
  refine PySem.W.method_cls I.kIn rd.ga (PySem.W.cls_value I.kIn rd.rd fc (by decide +kernel) ?_)
  show wpAny _ _ (callWith pos (Value.builtin "ValueError.__init__") [] (backTo pos (starEach (e :: es) X.env)) []) _ _ _
  refine PyProof.Rows.callWith_method1 (thn (ha.run pos pins _ σ H _ (I.tok _) h) fun us s1 ⟨vs, H1, I1, r1, a, C, ws, ev, hl, T, ea, q⟩ => ?_) he hpl
  subst ev
  cases r1 with
  | @cons _ u0 _ ur ra rw' =>
    obtain rfl : u0 = Value.ref a := ra
    have hlen : ur.length ≤ sizeLine := by
      rw [← Paired.length rw', sizeLine_eq]
      omega
    exact oinit_ok T I1 ea hlen fun s' J => ⟨.non, H1, J, rfl, q⟩
end
/-- what __init__ of an exception with one field promises -/
def spX1 (K : PySem.W.Frag) (C : Addr) (f : Str) : Sp := fun vs H Q _ => ∃ a v, vs = [.ref a, v] ∧ H a = some (exo a C none) ∧ ∀ dx, H dx = none → dx ≠ a → Q .non (upd (upd H dx (exd dx [(f, v)])) a (exo a C (some dx)))
/-- .. without fields -/
def spX0 (K : PySem.W.Frag) (C : Addr) : Sp := fun vs H Q _ => ∃ a, vs = [.ref a] ∧ H a = some (exo a C none) ∧ Q .non H
section
variable {P : Program} {w : World} {K : PySem.W.Frag} {mg : Str → Option Value} {base : Heap} {xn qual : Str} {params : Arguments} {scope : Scope} {f C CD : Addr} {fd : FuncData} {x self given fl txt : Str} {p1 p2 p3 p4 p5 p6 p7 p8 p9 p10 : Pos} {j : Nat} {CXt : CXT}
theorem init1_ok (F : FunD K xn qual params [.Expr (.Call (.Attribute (.Name x p1) "__init__" p2) [.Name self p3, .Constant (.str txt) j p4] [] p5) p6, .Assign [.Attribute (.Name self p7) fl p8] (.Name given p9) p10] scope [] [] f fd) (S : FnScope [self, given] [self, given] scope)
    (hgl : scope.names.lookup x = some .globalImplicit) (hm : mg x = some (.ref CD)) (hdb : (x == ("__debug__" : Str)) = false) (hs1 : (self == ("__debug__" : Str)) = false) (hs2 : (self == ("__classdict__" : Str)) = false) (hs3 : (given == ("__debug__" : Str)) = false) (hs4 : (given == ("__classdict__" : Str)) = false)
    (rd : ClX.CRead K CD (.type "type")) (fc : PySem.W.findCls K (.ref CD) (.type "type") "__init__" = some (.val (.builtin "ValueError.__init__"))) (T : OexC K C) (hno : PySem.W.findIn K (.ref C) fl = some none) (hl : (p2.endLine == p5.line) = true) :
    FnOk P w K mg base CXt 1 f fd [self, given] (spX1 K C fl) := by
  refine F.ok S (fun vs H Q E ⟨a, v, e, _⟩ => by rw [e]; rfl) fun cdv A outer s H vs Q E hr h => ?_
  have v0 : PE (cxOf CXt P w K mg base [self, given] qual scope f cdv A outer s H E) (.Name self p3) (tVar 0) := pe_var rfl (by
    rcases S.par self List.mem_cons_self with z | z
    · exact .inl z
    · exact .inr (.inl z)) hs1 hs2
  have v0' : PE (cxOf CXt P w K mg base [self, given] qual scope f cdv A outer s H E) (.Name self p7) (tVar 0) := pe_var rfl (by
    rcases S.par self List.mem_cons_self with z | z
    · exact .inl z
    · exact .inr (.inl z)) hs1 hs2
  have v1 : PE (cxOf CXt P w K mg base [self, given] qual scope f cdv A outer s H E) (.Name given p9) (tVar 1) := pe_var rfl (by
    rcases S.par given (List.mem_cons_of_mem _ List.mem_cons_self) with z | z
    · exact .inl z
    · exact .inr (.inl z)) hs3 hs4
  refine ⟨_, pss_cons (ps_expr (pe_dinit hgl hm hdb rd fc (pa_cons v0 (pa_cons pe_str pa_nil)) (mtree rfl rfl hl) rfl rfl) rfl) (pss_one (ps_ost v0' v1 rfl)), ?_⟩
  obtain ⟨a, v, rfl, ea, q⟩ := h
  refine ⟨_, rfl, a, C, [.str txt], rfl, by simp, T, ea, ?_⟩
  refine ⟨_, rfl, _, rfl, a, C, rfl, T, hno, .inl ⟨ea, fun dx h1 h2 => q dx h1 h2⟩⟩
theorem init0_ok (F : FunD K xn qual params [.Expr (.Call (.Attribute (.Name x p1) "__init__" p2) [.Name self p3, .Constant (.str txt) j p4] [] p5) p6] scope [] [] f fd) (S : FnScope [self] [self] scope)
    (hgl : scope.names.lookup x = some .globalImplicit) (hm : mg x = some (.ref CD)) (hdb : (x == ("__debug__" : Str)) = false) (hs1 : (self == ("__debug__" : Str)) = false) (hs2 : (self == ("__classdict__" : Str)) = false)
    (rd : ClX.CRead K CD (.type "type")) (fc : PySem.W.findCls K (.ref CD) (.type "type") "__init__" = some (.val (.builtin "ValueError.__init__"))) (T : OexC K C) (hl : (p2.endLine == p5.line) = true) :
    FnOk P w K mg base CXt 1 f fd [self] (spX0 K C) := by
  refine F.ok S (fun vs H Q E ⟨a, e, _⟩ => by rw [e]; rfl) fun cdv A outer s H vs Q E hr h => ?_
  have v0 : PE (cxOf CXt P w K mg base [self] qual scope f cdv A outer s H E) (.Name self p3) (tVar 0) := pe_var rfl (by
    rcases S.par self List.mem_cons_self with z | z
    · exact .inl z
    · exact .inr (.inl z)) hs1 hs2
  refine ⟨_, pss_one (ps_expr (pe_dinit hgl hm hdb rd fc (pa_cons v0 (pa_cons pe_str pa_nil)) (mtree rfl rfl hl) rfl rfl) rfl), ?_⟩
  obtain ⟨a, rfl, ea, q⟩ := h
  exact ⟨_, rfl, a, C, [.str txt], rfl, by simp, T, ea, q⟩
end
section
variable {X : Cx} {C fI : Addr} {fd : FuncData} {ps : List Str} {k : Nat} {f : String}
theorem cx_false {P : Program} {w : World} {outer : List Env} {H : Hp} {s s' : Shared} {u : Value} (h : CX P w outer H s (fun _ _ _ => False) u s') : False := by
  obtain ⟨_, _, _, _, _, _, _, _, _, _, _, _, z⟩ := h
  exact z
theorem mkr1 (T : OexC X.K C) (iC : PySem.W.findIn X.K (.ref C) "__init__" = some (some (.ref fI))) (tI : PySem.W.typeIn X.K (.ref fI) = some (.type "function")) (F1 : FnOk X.prog X.w X.K X.mg X.base (CX X.prog X.w) k fI fd ps (spX1 X.K C (Str.ofString f))) (hr : Room (k + 1) X.A)
    (hb : Binds X.K fd ps []) (hps : ps.length = 2) : MkR X C [f] := by
  intro pins s σ H vs us Q I r1 hl q
  obtain ⟨v, rfl⟩ : ∃ v, vs = [v] := by
    match vs, hl with
    | [v], _ => exact ⟨v, rfl⟩
  obtain ⟨nm, qn, N, bs, bm, sn, sub, ab, col, dd, k0, k1, k2, k3, k5, hC, hbm⟩ := T.cls
  obtain ⟨hp, g, dr, tk, os⟩ := s
  have hsz : hp.objs.size ≤ hp.objs.size + 1 := Nat.le_succ _
  have hn : H (hp.objs.size + 1) = none := I.hok.fresh hsz
  have kk : ∀ b o, hp.get? b = some o → ((hp.push (PySem.W.kdv_tup us)).push (PySem.HandSPX.excO C hp.objs.size)).get? b = some o := fun b o e => Heap.get?_push_of_some _ (Heap.get?_push_of_some _ e)
  have hget : ((hp.push (PySem.W.kdv_tup us)).push (PySem.HandSPX.excO C hp.objs.size)).get? (hp.objs.size + 1) = some (PySem.HandSPX.excO C hp.objs.size) := by heap_get
  have I2 : Inv X pins σ (upd H (hp.objs.size + 1) (exo (hp.objs.size + 1) C none)) ⟨(hp.push (PySem.W.kdv_tup us)).push (PySem.HandSPX.excO C hp.objs.size), g, dr, tk, os⟩ :=
    I.laid (t' := tk) (a := hp.objs.size + 1) (o := exo (hp.objs.size + 1) C none) (h' := (hp.push (PySem.W.kdv_tup us)).push (PySem.HandSPX.excO C hp.objs.size)) kk hsz (exo_ok hget)
  have r2 : Vals [V.ref (hp.objs.size + 1), v] (Value.ref (hp.objs.size + 1) :: us) := .cons rfl r1
  have hus : us.length ≤ sizeLine := by
    rw [← Paired.length r1, sizeLine_eq]
    simp
  have hq : spX1 X.K C (Str.ofString f) [V.ref (hp.objs.size + 1), v] (upd H (hp.objs.size + 1) (exo (hp.objs.size + 1) C none)) (fun v' H2 => v' = .non ∧ ∃ (d : Addr) (fs : List (Str × V)), H2 (hp.objs.size + 1) = some (exo (hp.objs.size + 1) C (some d)) ∧ H2 d = some (exd d fs) ∧ H d = none ∧ Q (.ref C) (some d) (upd (del H2 (hp.objs.size + 1)) d (.xd fs))) (fun _ _ _ => False) := by
    refine ⟨_, v, rfl, upd_same, fun dx h1 h2 => ⟨rfl, dx, [(Str.ofString f, v)], upd_same, ?_, ?_, ?_⟩⟩
    · rw [upd_ne h2, upd_same]
    · rw [upd_ne h2] at h1
      exact h1
    · have hdx : H dx = none := by
        rw [upd_ne h2] at h1
        exact h1
      refine q (some dx) _ (.inr ⟨dx, rfl, hdx, ?_⟩)
      funext b
      by_cases hb2 : b = dx
      · subst hb2
        rw [upd_same, upd_same]
        rfl
      · rw [upd_ne hb2, upd_ne hb2]
        by_cases hb3 : b = hp.objs.size + 1
        · rw [hb3, del_same]
          exact hn.symm
        · rw [del_ne hb3, upd_ne hb3, upd_ne hb2, upd_ne hb3]
  have b := hb _ (Value.ref (hp.objs.size + 1) :: us) I2.kIn (by rw [List.append_nil, ← r2.length, hps]; rfl)
  rw [List.append_nil] at b
  refine wpAny_call (PySem.HandSPX.call_own F.excBase_ValueError (fun Y => PySem.HandSPX.refsVE_contains Y bm hbm) (I.kIn _ _ hC) (PySem.W.looks_findIn I.kIn iC) (fun self => PySem.W.bind_fn I.kIn self tI) hus
    (codeAny_mono (F1.run _ X.stack _ _ ⟨Value.ref (hp.objs.size + 1) :: us, []⟩ (Value.ref (hp.objs.size + 1) :: us) _ _ (fun _ _ _ => False) (hr.make C us []) (I2.env0.make C us []) b r2 hq) fun r s' hq' => ?_))
  cases r with
  | error er => exact (cx_false hq').elim
  | ok fl =>
    cases fl with
    | ret u =>
      obtain ⟨v', H2, os2, bare2, un2, hok2, rv, ev, d, fs, ea, ed, hd1, q2⟩ := hq'
      subst ev
      obtain ⟨h2, g2, d2, t2, os'⟩ := s'
      exact ⟨rv, mk_end (raises_own T.exC T.tyC) I hsz kk un2 hok2 os2 bare2 ea ed hd1 q2⟩
    | next => exact False.elim hq'
    | brk => exact False.elim hq'
    | cont => exact False.elim hq'
end
end IP

/-! IpT -/
set_option Elab.async false
set_option linter.all false
set_option maxRecDepth 100000
set_option maxHeartbeats 4000000
/-! IpT: the check that ties my expressions and statements to the text. -/
namespace IP
open PySem L2 PyProof.Rows

/-- what the check knows of the text -/
structure Tb where
  /-- built-in names that the module leaves free -/
  free : List String
  cls : List String
  exs : List (String × List String)
  fns : List String
  mts : List (String × String)
  mks : List String
  pats : List (String × Nat × List String × List Nat)
  flds : List String
  gints : List (String × Int)
  gstrs : List (String × String)
  /-- what except clauses name -/
  hnd : List String

def okN (x : Str) : Bool := !(x == ("__debug__" : Str)) && !(x == ("__classdict__" : Str))
def visB (sc : Scope) (x : Str) : Bool := match sc.names.lookup x with
  | some .local => true
  | some .cell => true
  | some .free => true
  | _ => false
def lclB (sc : Scope) (x : Str) : Bool := match sc.names.lookup x with
  | some .local => true
  | _ => false
def celB (sc : Scope) (x : Str) : Bool := match sc.names.lookup x with
  | some .cell => true
  | _ => false
def glB (sc : Scope) (x : Str) : Bool := match sc.names.lookup x with
  | some .globalImplicit => true
  | _ => false
def conB (d : D) (e : Expr) : Bool := match d, e with
  | .non, .Constant .none _ _ => true
  | .bl b, .Constant (.bool c) _ _ => b == c
  | .int i, .Constant (.int j) _ _ => i == j
  | .str x, .Constant (.str y) _ _ => decide (x = y)
  | _, _ => false
def gconB (T : Tb) (x : String) (d : D) : Bool := match d with
  | .int i => T.gints.contains (x, i)
  | .str z => T.gstrs.any fun p => p.1 == x && decide (Str.ofString p.2 = z)
  | _ => false
def noStars (es : List Expr) : Bool := es.all notStar
def notComp : Expr → Bool
  | .ListComp _ _ _ _ => false
  | .SetComp _ _ _ _ => false
  | .DictComp _ _ _ _ _ => false
  | _ => true
def clsB (T : Tb) (sc : Scope) (t : Ty) (e : Expr) : Bool := match e with
  | .Name x _ => glB sc x && (okN x && (match t with
    | .bt n => decide (x = Str.ofString n) && (decide (n ∈ btyL) && T.free.contains n)
    | .own c => decide (x = Str.ofString c) && T.cls.contains c))
  | _ => false
def clsL (T : Tb) (sc : Scope) : List Ty → List Expr → Bool
  | [], [] => true
  | t :: ts, e :: es => clsB T sc t e && clsL T sc ts es
  | _, _ => false
/-- targets: fb tells the names that may be stored as cells -/
def tgN (fb : Str → Bool) (sc : Scope) (N : List Str) (i : Nat) (e : Expr) : Bool := match e with
  | .Name x _ => decide (N[i]? = some x) && (lclB sc x || (celB sc x && fb x))
  | _ => false
def tgNs (fb : Str → Bool) (sc : Scope) (N : List Str) : List Nat → List Expr → Bool
  | [], [] => true
  | i :: is, e :: es => tgN fb sc N i e && tgNs fb sc N is es
  | _, _ => false
def tgB (fb : Str → Bool) (sc : Scope) (N : List Str) (tg : Tg) (e : Expr) : Bool := match tg with
  | .one i => tgN fb sc N i e
  | .many is => match e with
    | .Tuple es _ _ => tgNs fb sc N is es
    | _ => false
def ownL (N : List Str) (own : List Nat) : List (Str × Nat) := own.filterMap fun i => (N[i]?).map fun x => (x, i)
def Es.split : Nat → Es → Es × Es
  | 0, s => (.nil, s)
  | n + 1, .one e r => (.one e (r.split n).1, (r.split n).2)
  | n + 1, .star e r => (.star e (r.split n).1, (r.split n).2)
  | _ + 1, .nil => (.nil, .nil)
def isTup : Expr → Bool
  | .Tuple _ _ _ => true
  | _ => false
def notSetE : Expr → Bool
  | .Set _ _ _ => false
  | _ => true

mutual
def chk (T : Tb) (sc : Scope) (N : List Str) (hs : Option Nat) (md : Bool) : E → Expr → Bool
  | .loc i, e => (match e with
    | .Name x _ => decide (N[i]? = some x) && (visB sc x && okN x)
    | _ => false)
  | .con d, e => conB d e
  | .gcon x d, e => (match e with
    | .Name y _ => decide (y = Str.ofString x) && (glB sc y && (okN y && gconB T x d))
    | _ => false)
  | .bin op a b, e => (match e with
    | .BinOp ea op' eb _ => decide (op' = op) && (chk T sc N hs false a ea && chk T sc N hs false b eb)
    | _ => false)
  | .neg a, e => (match e with
    | .UnaryOp .USub ea _ => chk T sc N hs false a ea
    | _ => false)
  | .nt a, e => (match e with
    | .UnaryOp .Not ea _ => chk T sc N hs md a ea
    | _ => false)
  | .an a b, e => (match e with
    | .BoolOp .And (ea :: eb :: rest) p => chk T sc N hs md a ea && (match rest with
      | [] => chk T sc N hs md b eb
      | _ => chk T sc N hs md b (.BoolOp .And (eb :: rest) p))
    | _ => false)
  | .orr a b, e => (match e with
    | .BoolOp .Or (ea :: eb :: rest) p => chk T sc N hs md a ea && (match rest with
      | [] => chk T sc N hs md b eb
      | _ => chk T sc N hs md b (.BoolOp .Or (eb :: rest) p))
    | _ => false)
  | .cmp op a b, e => (match e with
    | .Compare ea [op'] [eb] _ => decide (op' = op) && (notSet eb && (chk T sc N hs false a ea && chk T sc N hs false b eb))
    | _ => false)
  | .cmp2 op1 op2 a b c, e => (match e with
    | .Compare ea [o1, o2] [eb, ec] _ => (decide (o1 = op1) && decide (o2 = op2)) && (notSet ec && (chk T sc N hs false a ea && (chk T sc N hs false b eb && chk T sc N hs false c ec)))
    | _ => false)
  | .ife c a b, e => (match e with
    | .IfExp ec ea eb _ => !md && (chk T sc N hs true c ec && (chk T sc N hs false a ea && chk T sc N hs false b eb))
    | _ => false)
  | .tup es, e => (match e with
    | .Tuple ees _ _ => chkEs T sc N hs es ees
    | _ => false)
  | .lst mu es, e => (match e with
    | .List ees _ => chkEs T sc N hs es ees
    | _ => false)
  | .dic q mu kvs, e => (match e with
    | .Dict keys values _ => (match q with | .k => true | .t => false) && (decide (keys.length ≤ 15) && chkKv T sc N hs kvs keys values)
    | _ => false)
  | .comp mu elt tg it cnd own, e => (match e with
    | .ListComp eelt [⟨tge, iter, ifs, 0⟩] scope _ => (chkIt T sc N hs it tge iter && (blkC N sc scope (ownL N own) && (decide ((ownL N own).map (·.2) = own) && ((tgL tg).all (own.contains ·) && notSetE iter)))) &&
        (tgB (celB scope) (relS scope sc) N tg tge && (chkO T (relS scope sc) N none cnd ifs && chk T (relS scope sc) N none false elt eelt))
    | _ => false)
  | .comp2 mu elt tg it tg2 it2 cnd own, e => (match e with
    | .ListComp eelt [⟨tge, iter, [], 0⟩, ⟨tge2, iter2, ifs, 0⟩] scope _ => (chkIt T sc N hs it tge iter && (blkC N sc scope (ownL N own) && (decide ((ownL N own).map (·.2) = own) && ((tgL tg).all (own.contains ·) && ((tgL tg2).all (own.contains ·) && (notSetE iter && notSetE iter2)))))) &&
        (tgB (celB scope) (relS scope sc) N tg tge && (tgB (celB scope) (relS scope sc) N tg2 tge2 && (chkIt T (relS scope sc) N none it2 tge2 iter2 && (chkO T (relS scope sc) N none cnd ifs && chk T (relS scope sc) N none false elt eelt))))
    | _ => false)
  | .sub a i, e => (match e with
    | .Subscript ea ei _ => notSlice ei && (chk T sc N hs false a ea && chk T sc N hs false i ei)
    | _ => false)
  | .slc a lo hi, e => (match e with
    | .Subscript ea (.Slice l h none _) _ => chk T sc N hs false a ea && (chkOp T sc N hs lo l && chkOp T sc N hs hi h)
    | _ => false)
  | .rev a, e => (match e with
    | .Subscript ea (.Slice none none (some (.UnaryOp .USub (.Constant (.int 1) _ _) _)) _) _ => chk T sc N hs false a ea
    | _ => false)
  | .att a f, e => (match e with
    | .Attribute ea f' _ => decide (f' = Str.ofString f) && (T.flds.contains f && (baseOk ea && chk T sc N hs false a ea))
    | _ => false)
  | .exf f, e => (match e with
    | .Attribute (.Name n _) f' _ => decide (f' = Str.ofString f) && (okN n && (lclB sc n && (match hs with
      | some i => decide (N[i]? = some n)
      | none => false)))
    | _ => false)
  | .call c f es ar dv, e => (match e with
    | .Call (.Name x _) args kws _ => (c == "" && (dv.isEmpty && (decide (x = Str.ofString f) && (glB sc x && okN x)))) && (match kws with
      | [] => ar.isEmpty && (T.fns.contains f && (noStars args && chkEs T sc N hs es args))
      | kw :: kws => (match args with
        | [] => false
        | a1 :: args => (match es.split (a1 :: args).length with
          | (_, es2) => noStars (a1 :: args) && ((kw :: kws).all (fun k => k.arg.isSome) && (T.pats.any (fun p => p.1 == f && (p.2.1 == (a1 :: args).length && (decide (p.2.2.1.map Str.ofString = (kw :: kws).filterMap (·.arg)) && decide (p.2.2.2 = ar)))) && chkKs T sc N hs es (a1 :: args) (kw :: kws))))))
    | _ => false)
  | .meth c m o es ar dv, e => (match e with
    | .Call (.Attribute eo m' apos) args [] pos => (ar.isEmpty && (dv.isEmpty && (decide (m' = Str.ofString m) && (T.mts.contains (c, m) && (baseOk eo && (noStars args && (decide (args.length < 29) && apos.endLine == pos.line))))))) && (chk T sc N hs false o eo && chkEs T sc N hs es args)
    | _ => false)
  | .make mu c es ar dv, e => (match e with
    | .Call (.Name x _) args [] _ => (ar.isEmpty && (dv.isEmpty && (decide (x = Str.ofString c) && (glB sc x && (okN x && (T.mks.contains c && noStars args)))))) && chkEs T sc N hs es args
    | _ => false)
  | .bi b es, e => (match e with
    | .Call (.Name x _) (a1 :: args) [] _ => (decide (x = (biName b).1) && (glB sc x && (T.free.any (fun f => decide (Str.ofString f = x)) && noStars (a1 :: args)))) && chkEs T sc N hs es (a1 :: args)
    | _ => false)
  | .seq t a, e => (match e with
    | .Call (.Name x _) [a1] [] _ => (decide (x = (sqName t).1) && (glB sc x && (T.free.any (fun f => decide (Str.ofString f = x)) && notStar a1))) && chk T sc N hs false a a1
    | _ => false)
  | .bm _ _ _, _ => false
  | .isi a ts, e => (match e with
    | .Call (.Name x _) [ea, ec] [] _ => (decide (x = Str.ofString "isinstance") && (glB sc x && (T.free.contains "isinstance" && notStar ea))) && ((match ec with
      | .Tuple es _ _ => !ts.isEmpty && (decide (es.length ≤ 100) && clsL T sc ts es)
      | ec => (match ts with
        | [t] => clsB T sc t ec
        | _ => false)) && chk T sc N hs false a ea)
    | _ => false)
  | .fst _, _ => false
  | .frz _, _ => false
def chkEs (T : Tb) (sc : Scope) (N : List Str) (hs : Option Nat) : Es → List Expr → Bool
  | .nil, es => es.isEmpty
  | .one a r, es => (match es with
    | ea :: rest => notStar ea && (chk T sc N hs false a ea && chkEs T sc N hs r rest)
    | [] => false)
  | .star a r, es => (match es with
    | .Starred ea _ :: rest => chk T sc N hs false a ea && chkEs T sc N hs r rest
    | _ => false)
def chkKv (T : Tb) (sc : Scope) (N : List Str) (hs : Option Nat) : Kv → List (Option Expr) → List Expr → Bool
  | .nil, ks, vs => ks.isEmpty && vs.isEmpty
  | .cons k v r, ks, vs => (match ks, vs with
    | some ek :: ks, ev :: vs => chk T sc N hs false k ek && (chk T sc N hs false v ev && chkKv T sc N hs r ks vs)
    | _, _ => false)
/-- positional ones, then keywords -/
def chkKs (T : Tb) (sc : Scope) (N : List Str) (hs : Option Nat) : Es → List Expr → List Keyword → Bool
  | .nil, es, ks => es.isEmpty && ks.isEmpty
  | .one a r, es, ks => (match es with
    | ea :: rest => chk T sc N hs false a ea && chkKs T sc N hs r rest ks
    | [] => (match ks with
      | ⟨_, ea, _⟩ :: rest => chk T sc N hs false a ea && chkKs T sc N hs r [] rest
      | [] => false))
  | .star _ _, _, _ => false
def chkO (T : Tb) (sc : Scope) (N : List Str) (hs : Option Nat) : Oe → List Expr → Bool
  | .non, es => es.isEmpty
  | .som a, es => (match es with
    | [ea] => chk T sc N hs true a ea
    | _ => false)
def chkOp (T : Tb) (sc : Scope) (N : List Str) (hs : Option Nat) : Oe → Option Expr → Bool
  | .non, e => e.isNone
  | .som a, e => (match e with
    | some ea => chk T sc N hs false a ea
    | none => false)
def chkIt (T : Tb) (sc : Scope) (N : List Str) (hs : Option Nat) : It → Expr → Expr → Bool
  | .seq a, _, e => chk T sc N hs false a e
  | .rng1 a, _, e => (match e with
    | .Call (.Name x _) [ea] [] _ => (decide (x = Str.ofString "range") && (glB sc x && (T.free.contains "range" && notStar ea))) && chk T sc N hs false a ea
    | _ => false)
  | .rng2 a b, _, e => (match e with
    | .Call (.Name x _) [ea, eb] [] _ => (decide (x = Str.ofString "range") && (glB sc x && (T.free.contains "range" && (notStar ea && notStar eb)))) && (chk T sc N hs false a ea && chk T sc N hs false b eb)
    | _ => false)
  | .rng3 a b c, _, e => (match e with
    | .Call (.Name x _) [ea, eb, ec] [] _ => (decide (x = Str.ofString "range") && (glB sc x && (T.free.contains "range" && (notStar ea && (notStar eb && notStar ec))))) && (chk T sc N hs false a ea && (chk T sc N hs false b eb && chk T sc N hs false c ec))
    | _ => false)
  | .enum a, tg, e => (match e with
    | .Call (.Name x _) [ea] [] _ => (decide (x = Str.ofString "enumerate") && (glB sc x && (T.free.contains "enumerate" && (notStar ea && isTup tg)))) && chk T sc N hs false a ea
    | _ => false)
  | .zip a b, tg, e => (match e with
    | .Call (.Name x _) [ea, eb] [] _ => (decide (x = Str.ofString "zip") && (glB sc x && (T.free.contains "zip" && (notStar ea && (notStar eb && isTup tg))))) && (chk T sc N hs false a ea && chk T sc N hs false b eb)
    | _ => false)
  | .items _, _, _ => false
  | .vals _, _, _ => false
end
/-- a, b = x, y is stored from the right -/
def swapB (sc : Scope) (x y : Str) (px py : Pos) (ea eb : Expr) : Bool :=
  (lclB sc x && lclB sc y) && ((px.line == py.line && !decide (x = y)) && ((notStar ea && notStar eb) && (!(foldedForSure 8 ea && foldedForSure 8 eb) && !(constantsAlone 8 ea && constantsAlone 8 eb))))
def isNameTo (x : Str) : Expr → Bool
  | .Name y _ => decide (y = x)
  | _ => false
mutual
def chkS (T : Tb) (sc : Scope) (N : List Str) (hs : Option Nat) : S → Stmt → Bool
  | .expr a, s => (match s with
    | .Expr e _ => notComp e && chk T sc N hs false a e
    | _ => false)
  | .set i a, s => (match s with
    | .Assign [.Name x p] e _ => (decide (N[i]? = some x) && ((lclB sc x || celB sc x) && !decide (hs = some i))) && ((notComp e || (lclB sc x && (p.line == e.pos.line && (match e with
        | .ListComp _ _ scope _ => !(scope.names.any fun (n, k) => n == x && (k == .local || k == .cell))
        | _ => false)))) && chk T sc N hs false a e)
    | _ => false)
  | .unp is a, s => (match s with
    | .Assign [.Tuple es k p] e _ => !isTup e && (tgNs (fun _ => true) sc N is es && chk T sc N hs false a e)
    | _ => false)
  | .par i j a b, s => (match s with
    | .Assign [.Tuple [.Name x px, .Name y py] _ _] (.Tuple [ea, eb] _ _) _ => (decide (N[i]? = some x) && (decide (N[j]? = some y) && (!decide (i = j) && swapB sc x y px py ea eb))) && (chk T sc N hs false a ea && chk T sc N hs false b eb)
    | _ => false)
  | .fld o f a, s => (match s with
    | .Assign [.Attribute eo f' _] e _ => (decide (f' = Str.ofString f) && T.flds.contains f) && (chk T sc N hs false o eo && chk T sc N hs false a e)
    | _ => false)
  | .sub o i a, s => (match s with
    | .Assign [.Subscript eo ei _] e _ => notSlice ei && (chk T sc N hs false o eo && (chk T sc N hs false i ei && chk T sc N hs false a e))
    | _ => false)
  | .app o a, s => (match s with
    | .Expr (.Call (.Attribute eo m p) [ea] [] cpos) _ => (decide (m = Str.ofString "append") && (notStar ea && (baseOk eo && p.endLine == cpos.line))) && (chk T sc N hs false o eo && chk T sc N hs false a ea)
    | _ => false)
  | .ifs c t u, s => (match s with
    | .If ec t' u' _ => chk T sc N hs true c ec && (chkSs T sc N hs t t' && chkSs T sc N hs u u')
    | _ => false)
  | .for_ tg it b, s => (match s with
    | .For tge ite b' [] _ => (tgB (fun _ => true) sc N tg tge && notSetE ite) && (chkIt T sc N hs it tge ite && chkSs T sc N hs b b')
    | _ => false)
  | .wh c b, s => (match s with
    | .While ec b' [] _ => chk T sc N hs true c ec && chkSs T sc N hs b b'
    | _ => false)
  | .ret a, s => (match s with
    | .Return (some e) _ => chk T sc N hs false a e
    | _ => false)
  | .ret0, s => (match s with
    | .Return none _ => true
    | _ => false)
  | .rais c es, s => (match s with
    | .Raise (some (.Call (.Name x _) args [] _)) none _ => (decide (x = Str.ofString c) && (glB sc x && (okN x && (T.exs.any (fun p => p.1 == c) && noStars args)))) && chkEs T sc N hs es args
    | _ => false)
  | .try_ b hl, s => (match s with
    | .Try b' (h :: hds) [] [] _ => hs.isNone && (chkSs T sc N none b b' && chkH T sc N hl (h :: hds))
    | _ => false)
  | .pass, s => (match s with
    | .Pass _ => true
    | _ => false)
  | .brk, s => (match s with
    | .Break _ => true
    | _ => false)
  | .cnt, s => (match s with
    | .Continue _ => true
    | _ => false)
def chkSs (T : Tb) (sc : Scope) (N : List Str) (hs : Option Nat) : Ss → List Stmt → Bool
  | .nil, ss => ss.isEmpty
  | .cons a r, ss => (match ss with
    | s :: rest => chkS T sc N hs a s && chkSs T sc N hs r rest
    | [] => false)
def chkH (T : Tb) (sc : Scope) (N : List Str) : Hs → List ExceptHandler → Bool
  | .nil, hds => hds.isEmpty
  | .cons c o b r, hds => (match hds with
    | .ExceptHandler (some (.Name x _)) n (b₀ :: suite) _ :: rest => (decide (x = Str.ofString c) && (glB sc x && (okN x && T.hnd.contains c))) && ((match o, n with
      | none, none => true
      | some i, some n => decide (N[i]? = some n) && lclB sc n
      | _, _ => false) && (chkSs T sc N o b (b₀ :: suite) && chkH T sc N r rest))
    | _ => false)
end
end IP

/-! IpU -/
set_option Elab.async false
set_option linter.all false
set_option maxRecDepth 100000
set_option maxHeartbeats 4000000
/-! IpU: the check is sound: expressions. -/
namespace IP
open PySem L2 PyProof.Rows

def dunds : List String := ["__eq__", "__lt__", "__le__", "__add__", "__sub__", "__mul__", "__neg__", "__len__"]
/-- none of one's own operators is reached -/
def NoOwn (g : Gl) : Prop := ∀ c d, d ∈ dunds → g.has c d = false
theorem NoOwn.own {X : Cx} {G : GC} {W : WX} {g : Gl} (h : NoOwn g) (B : Base X G W g) : Own X G W g where
  cmp := fun {op c fs pins s σ H F rho m dx dy x y v u Q} I rx ry r d1 d2 hv hp => by
    unfold cmpG at hp
    rw [hv] at hp
    cases op with
    | Is =>
      obtain ⟨b, e, hp2⟩ := Post.opt hp
      obtain ⟨a, C, dx', fvs, rfl, _, _, _⟩ := r.vwi d1 hv
      simp only [cmpP] at e
      split at e
      · cases d2
        cases e
        exact op_isN pins s σ H _ _ v u _ I rx ry ⟨rfl, ⟨false, rfl, hp2.here r rfl⟩⟩
      · cases e
    | IsNot =>
      obtain ⟨b, e, hp2⟩ := Post.opt hp
      obtain ⟨a, C, dx', fvs, rfl, _, _, _⟩ := r.vwi d1 hv
      simp only [cmpP] at e
      split at e
      · cases d2
        cases e
        exact op_notN pins s σ H _ _ v u _ I rx ry ⟨rfl, ⟨true, rfl, hp2.here r rfl⟩⟩
      · cases e
    | Eq => simp only [h c "__eq__" (by decide), Bool.false_and, Bool.false_eq_true, if_false] at hp; exact hp.elim
    | NotEq => simp only [h c "__eq__" (by decide), Bool.false_and, Bool.false_eq_true, if_false] at hp; exact hp.elim
    | Lt => simp only [h c "__lt__" (by decide), Bool.false_and, Bool.false_eq_true, if_false] at hp; exact hp.elim
    | LtE => simp only [h c "__le__" (by decide), Bool.false_and, Bool.false_eq_true, if_false] at hp; exact hp.elim
    | _ => exact hp.elim
  bin := fun {op c fs pins s σ H F rho m dx dy x y v u Q} I rx ry r d1 d2 hv hp => by
    unfold binG at hp
    rw [hv] at hp
    cases op with
    | Add => simp only [dunder, h c "__add__" (by decide), Bool.false_and, Bool.false_eq_true, if_false] at hp; exact hp.elim
    | Sub => simp only [dunder, h c "__sub__" (by decide), Bool.false_and, Bool.false_eq_true, if_false] at hp; exact hp.elim
    | Mult => simp only [dunder, h c "__mul__" (by decide), Bool.false_and, Bool.false_eq_true, if_false] at hp; exact hp.elim
    | _ => exact hp.elim
  neg := fun {c fs pins s σ H F rho m dx x v Q} I rx r d1 hv hp => by
    simp only [h c "__neg__" (by decide), Bool.false_and, Bool.false_eq_true, if_false] at hp
    exact hp.elim
  len := fun {c fs pins s σ H F rho m dx x v Q} hc I rx r d1 hv hp => by
    unfold biLen at hp
    simp only [hv, h c "__len__" (by decide), Bool.false_eq_true, if_false] at hp
    exact hp.elim

/-- an exception class of the text -/
def ExR (P : Program) (w : World) (K : PySem.W.Frag) (mg : Str → Option Value) (base : Heap) (C : Addr) (ns : List String) : Prop := match ns with
  | [f] => ∃ fI fd ps, OexC K C ∧ PySem.W.findIn K (.ref C) "__init__" = some (some (.ref fI)) ∧ PySem.W.typeIn K (.ref fI) = some (.type "function") ∧ FnOk P w K mg base (CX P w) 1 fI fd ps (spX1 K C (Str.ofString f)) ∧ Binds K fd ps [] ∧ ps.length = 2
  | _ => False
theorem ExR.mk {X : Cx} {C : Addr} {ns : List String} (h : ExR X.prog X.w X.K X.mg X.base C ns) (hr : Room 2 X.A) : MkR X C ns := by
  match ns, h with
  | [f], h =>
    obtain ⟨fI, fd, ps, h1, h2, h3, h4, h5, h6⟩ := h
    exact mkr1 h1 h2 h3 h4 hr h5 h6

/-- what may be called -/
structure Cals (X : Cx) (G : GC) (g : Gl) (xn : String → Option (List String)) (T : Tb) : Prop where
  fns : ∀ f ∈ T.fns, ∃ a fd ps k, CalX X G a fd ps k (g.call "" f) ∧ Binds X.K fd ps [] ∧ X.mg (Str.ofString f) = some (.ref a) ∧ Room k X.A
  pats : ∀ p ∈ T.pats, ∃ a fd ps k, CalX X G a fd ps k (g.call "" p.1) ∧ KPat X.K fd ps p.2.1 (p.2.2.1.map Str.ofString) p.2.2.2 ∧ X.mg (Str.ofString p.1) = some (.ref a) ∧ Room k X.A
  mts : ∀ p ∈ T.mts, ∃ CC a fd ps k, G.own p.1 = some CC ∧ Cls X.K CC ∧ Meth X.K CC (Str.ofString p.2) a ∧ CalX X G a fd ps k (g.call p.1 p.2) ∧ Binds X.K fd ps [] ∧ Room k X.A
  mks : ∀ c ∈ T.mks, ∃ CC a fd ps k, G.own c = some CC ∧ Mk X.K CC a ∧ CalX X G a fd ps k (g.call c "__init__") ∧ Binds X.K fd ps [] ∧ X.mg (Str.ofString c) = some (.ref CC) ∧ Room (k + 1) X.A
  exs : ∀ p ∈ T.exs, xn p.1 = some p.2 ∧ ∃ CC, G.exa p.1 = some CC ∧ X.mg (Str.ofString p.1) = some (.ref CC) ∧ PySem.W.keepIn X.K (.ref CC) = true ∧ ExR X.prog X.w X.K X.mg X.base CC p.2
  room2 : Room 2 X.A
/-- where the check speaks -/
structure Cxt (X : Cx) (G : GC) (W : WX) (g : Gl) (xn : String → Option (List String)) (T : Tb) (sc : Scope) (N : List Str) (hs : Option Nat) : Prop where
  B : Base X G W g
  no : NoOwn g
  Fa : Facts G
  Fx : FactsX G xn
  hsc : X.env.scope = sc
  hN : X.N = N
  hsl : ∀ s, G.sl = some s → hs = some s.i
  free : ∀ x ∈ T.free, X.mg (Str.ofString x) = none
  cls : ∀ c ∈ T.cls, ∃ C, G.own c = some C ∧ X.mg (Str.ofString c) = some (.ref C)
  att : ∀ f ∈ T.flds, AttF G f
  cal : g.cur.isNone = true → Cals X G g xn T
  hnd : ∀ c ∈ T.hnd, ∃ CC, X.mg (Str.ofString c) = some (.ref CC) ∧ ∀ {cls : String} {C : Addr}, G.exa cls = some C → PySem.W.exmOne X.K (.ref C) (.ref CC) = some (isX cls c)
  gints : ∀ p ∈ T.gints, ∃ t, X.mg (Str.ofString p.1) = some (.int p.2 t)
  gstrs : ∀ p ∈ T.gstrs, ∃ t, X.mg (Str.ofString p.1) = some (.str (Str.ofString p.2) t)
  exf : ∀ {i : Nat} {f : String} {n : Str} {p pos : Pos}, hs = some i → X.N[i]? = some n → X.env.kindOf n = some .local → (n == ("__debug__" : Str)) = false → (n == ("__classdict__" : Str)) = false → SE X G W g (.Attribute (.Name n p) (Str.ofString f) pos) (.exf f)
section
variable {X : Cx} {G : GC} {W : WX} {g : Gl} {xn : String → Option (List String)} {T : Tb} {sc : Scope} {N : List Str} {hs : Option Nat}
theorem Cxt.O (C : Cxt X G W g xn T sc N hs) : Own X G W g := C.no.own C.B
theorem okN_of {x : Str} (h : okN x = true) : (x == ("__debug__" : Str)) = false ∧ (x == ("__classdict__" : Str)) = false := by
  unfold okN at h
  simpa using h
theorem visB_of (C : Cxt X G W g xn T sc N hs) {x : Str} (h : visB sc x = true) : Vis X.env.scope x := by
  unfold visB at h
  unfold Vis
  rw [C.hsc]
  split at h
  · exact .inl (by assumption)
  · exact .inr (.inl (by assumption))
  · exact .inr (.inr (by assumption))
  · cases h
theorem glB_of (C : Cxt X G W g xn T sc N hs) {x : Str} (h : glB sc x = true) : L2.Gl X x := by
  unfold glB at h
  show X.env.scope.names.lookup x = _
  rw [C.hsc]
  split at h
  · assumption
  · cases h
theorem lclB_of {x : Str} (h : lclB sc x = true) : sc.names.lookup x = some .local := by
  unfold lclB at h
  split at h
  · assumption
  · cases h
theorem celB_of {x : Str} (h : celB sc x = true) : sc.names.lookup x = some .cell := by
  unfold celB at h
  split at h
  · assumption
  · cases h
theorem se_nt {a : E} {ea : Expr} {pos : Pos} (hK : X.K = G.K) (h : SE X G W g ea a) : SE X G W g (.UnaryOp .Not ea pos) (.nt a) := by
  refine (pe_notT h).imp fun σ H Q hq => ?_
  obtain ⟨F, rho, m, e, r, re, hp⟩ := hq
  rw [ev] at hp
  refine tI.mk r re ((Post.bind (R1 := RD1 G) hp).imp fun v H' ⟨F1, rho1, d, m1, x1, r1, rr, hp1⟩ => ?_)
  obtain ⟨d', e1, hp2⟩ := Post.opt hp1
  obtain ⟨b, e2, rfl⟩ := map_some e1
  exact ⟨b, truth_ok hK e2 (r1.view rr), hp2.here r1 (.bl _)⟩
theorem se_bone {a : E} {ea : Expr} {pos : Pos} {op : BoolOp} (h : SE X G W g ea a) : SE X G W g (.BoolOp op [ea] pos) a := ⟨fun pins s σ H Q I q => h.run pins s σ H Q I q⟩
/-- as a value, or as a test -/
def Sd (md : Bool) (X : Cx) (G : GC) (W : WX) (g : Gl) (e : Expr) (a : E) : Prop := match md with
  | true => ST X G W g e a
  | false => SE X G W g e a
theorem Sd.of {md : Bool} {e : Expr} {a : E} (hK : X.K = G.K) (h : SE X G W g e a) (hp : plainT e = true) (he : ∀ e m, evT g a e m = (ev g a e m).bind fun x m1 => opt (truth (vw m1 x)) m1) : Sd md X G W g e a := by
  cases md with
  | true => exact st_val hK h hp he
  | false => exact h
/-- within a comprehension -/
theorem Cxt.blk (C : Cxt X G W g xn T sc N hs) {s : Shared} {H : Hp} {scope : Scope} {cl : List (Str × Addr)} {CA : Addr} {fp : List Addr} (hc : g.cur.isNone = true) : Cxt (X.blk s H scope (compEnvC scope cl CA X.env) fp) G WF g xn T (relS scope sc) N none where
  B := ⟨C.B.hK, C.B.hm, takes_none5, C.B.units, C.B.calm, C.B.nd, C.B.slc⟩
  no := C.no
  Fa := C.Fa
  Fx := C.Fx
  hsc := by
    rw [← C.hsc]
    rfl
  hN := C.hN
  hsl := fun s e => by
    rw [C.B.slc hc] at e
    cases e
  free := C.free
  cls := C.cls
  att := C.att
  cal := fun h => ⟨(C.cal h).fns, (C.cal h).pats, (C.cal h).mts, (C.cal h).mks, (C.cal h).exs, (C.cal h).room2⟩
  hnd := C.hnd
  gints := C.gints
  gstrs := C.gstrs
  exf := fun e => by cases e
end
end IP

/-! IpV -/
set_option Elab.async false
set_option linter.all false
set_option maxRecDepth 100000
set_option maxHeartbeats 4000000
/-! IpV: the check is sound: expressions. -/
namespace IP
open PySem L2 PyProof.Rows
section
variable {X : Cx} {G : GC} {W : WX} {g : Gl} {xn : String → Option (List String)} {T : Tb} {sc : Scope} {N : List Str} {hs : Option Nat}
theorem conB_of {d : D} {e : Expr} (h : conB d e = true) : SE X G W g e (.con d) ∧ plainT e = true := by
  unfold conB at h
  split at h
  · exact ⟨se_const pe_non fun _ _ => .non, rfl⟩
  · have e1 := eq_of_beq h
    subst e1
    exact ⟨se_const pe_bl fun _ _ => .bl _, rfl⟩
  · have e1 := eq_of_beq h
    subst e1
    exact ⟨se_const pe_int fun _ _ => .int _, rfl⟩
  · have e1 := of_decide_eq_true h
    subst e1
    exact ⟨se_const pe_str fun _ _ => .str _, rfl⟩
  · cases h
theorem noStars_of {es : List Expr} {env : Env} {p : Pos} (h : noStars es = true) : (backTo p (starEach es env)).any (·.1) = false := by
  induction es with
  | nil => rfl
  | cons e es ih =>
    unfold noStars at h
    rw [List.all_cons, Bool.and_eq_true] at h
    rw [starEach_of h.1]
    show (false || (backTo p (starEach es env)).any (·.1)) = false
    rw [ih h.2]
    rfl
theorem clsB_of (C : Cxt X G W g xn T sc N hs) {t : Ty} {e : Expr} (h : clsB T sc t e = true) : ∃ v u, TyV G t v u ∧ PE X e (tC v) ∧ notStar e = true := by
  unfold clsB at h
  split at h
  · rename_i x p
    simp only [Bool.and_eq_true] at h
    obtain ⟨h1, h2, h3⟩ := h
    cases t with
    | bt n =>
      simp only [Bool.and_eq_true, decide_eq_true_eq, List.contains_iff_mem] at h3
      obtain ⟨rfl, h4, h5⟩ := h3
      refine ⟨.ty n, .type n, .bt h4, ?_, rfl⟩
      have hm := C.free n h5
      have hg := glB_of C h1
      unfold btyL at h4
      simp only [List.mem_cons, List.not_mem_nil, or_false] at h4
      rcases h4 with rfl | rfl | rfl | rfl | rfl | rfl
      all_goals exact pe_bltn hg hm (by decide +kernel) rfl (by decide) (by decide)
    | own c =>
      simp only [Bool.and_eq_true, decide_eq_true_eq, List.contains_iff_mem] at h3
      obtain ⟨rfl, h4⟩ := h3
      obtain ⟨CC, e1, e2⟩ := C.cls c h4
      exact ⟨.ref CC, .ref CC, .own e1, pe_glob (glB_of C h1) e2 rfl (okN_of h2).1, rfl⟩
  · cases h
theorem clsL_of (C : Cxt X G W g xn T sc N hs) : ∀ {ts : List Ty} {es : List Expr}, clsL T sc ts es = true → ∃ (cs : List V) (us : List Value), Paired (fun e v => PE X e (tC v) ∧ notStar e = true) es cs ∧ Paired (fun (t : Ty) (c : V × Value) => TyV G t c.1 c.2) ts (cs.zip us) ∧ cs.length = us.length ∧ cs.length = es.length
  | [], [], _ => ⟨[], [], .nil, .nil, rfl, rfl⟩
  | [], _ :: _, h => by cases h
  | _ :: _, [], h => by cases h
  | t :: ts, e :: es, h => by
    simp only [clsL, Bool.and_eq_true] at h
    obtain ⟨v, u, q1, q2, q3⟩ := clsB_of C h.1
    obtain ⟨cs, us, w1, w2, w3, w4⟩ := clsL_of C h.2
    exact ⟨v :: cs, u :: us, .cons ⟨q2, q3⟩ w1, .cons q1 w2, by simp [w3], by simp [w4]⟩
/-- targets -/
theorem tgN_of {X : Cx} {fb : Str → Bool} (hsc : X.env.scope = sc) (hN : X.N = N) (nd : X.N.Nodup) (hf : ∀ x, sc.names.lookup x = some .cell → fb x = true → X.fn x = true) {i : Nat} {e : Expr} (h : tgN fb sc N i e = true) : PG X e (gName i) := by
  unfold tgN at h
  split at h
  · rename_i x p
    simp only [Bool.and_eq_true, Bool.or_eq_true, decide_eq_true_eq] at h
    obtain ⟨h1, h2⟩ := h
    rcases h2 with h2 | ⟨h2, h3⟩
    · have q := lclB_of h2
      rw [← hsc] at q
      exact pg_name nd (hN ▸ h1) (.inl q) (.inr q)
    · have q := celB_of h2
      have q2 := hf x q h3
      rw [← hsc] at q
      exact pg_name nd (hN ▸ h1) (.inr q) (.inl q2)
  · cases h
theorem tgNs_of {X : Cx} {fb : Str → Bool} (hsc : X.env.scope = sc) (hN : X.N = N) (nd : X.N.Nodup) (hf : ∀ x, sc.names.lookup x = some .cell → fb x = true → X.fn x = true) : ∀ {is : List Nat} {es : List Expr}, tgNs fb sc N is es = true →
    PGs X es (gNames is) ∧ (assignEach es X.env).length = is.length ∧ (assignEach es X.env).findIdx? (·.1) = none
  | [], [], _ => ⟨pgs_nil, rfl, rfl⟩
  | [], _ :: _, h => by cases h
  | _ :: _, [], h => by cases h
  | i :: is, e :: es, h => by
    simp only [tgNs, Bool.and_eq_true] at h
    have q := tgN_of hsc hN nd hf h.1
    obtain ⟨w1, w2, w3⟩ := tgNs_of hsc hN nd hf h.2
    have h1 := h.1
    unfold tgN at h1
    split at h1
    · rename_i x p
      have ea : assignEach (.Name x p :: es) X.env = (false, assign (.Name x p) X.env) :: assignEach es X.env := rfl
      refine ⟨pgs_cons q w1 rfl, by rw [ea, List.length_cons, w2, List.length_cons], ?_⟩
      rw [ea, List.findIdx?_cons]
      simp only [Bool.false_eq_true, if_false]
      rw [w3]
      rfl
    · cases h1
theorem tgB_of {X : Cx} {fb : Str → Bool} (hsc : X.env.scope = sc) (hN : X.N = N) (nd : X.N.Nodup) (hc : X.calm = true) (hf : ∀ x, sc.names.lookup x = some .cell → fb x = true → X.fn x = true) {tg : Tg} {e : Expr} (h : tgB fb sc N tg e = true) : PG X e (gOf X.K tg) := by
  cases tg with
  | one i => exact tgN_of hsc hN nd hf h
  | many is =>
    unfold tgB at h
    dsimp only at h
    split at h
    · obtain ⟨w1, w2, w3⟩ := tgNs_of hsc hN nd hf h
      exact pg_tup hc w1 w2 w3
    · cases h
theorem relabel_cell {sc scope : Scope} {x : Str} (h : (scope.names.lookup x == some NameKind.cell) = true) : (scope.names.lookup x == some NameKind.cell) = true := h
theorem notSet_fold {e : Expr} {env : Env} (h : notSetE e = true) : ∀ x, foldedSetIterable e env x = pure x := by
  cases e <;> first | (intro x; rfl) | cases h
theorem Es.split_app : ∀ (n : Nat) (s : Es), (s.split n).1.app (s.split n).2 = s
  | 0, s => rfl
  | n + 1, .one e r => by
    rw [Es.split]
    show Es.one e _ = _
    rw [Es.split_app n r]
  | n + 1, .star e r => by
    rw [Es.split]
    show Es.star e _ = _
    rw [Es.split_app n r]
  | n + 1, .nil => rfl
/-! ### dict displays -/
def trsK (G : GC) (W : WX) (g : Gl) : Kv → List (TE × TE)
  | .nil => []
  | .cons k v r => (tI G W (RD1 G) (ev g k), tI G W (RD1 G) (ev g v)) :: trsK G W g r
def RDP (G : GC) (F : Hp) (rho : List Addr) (ps : List (D × D)) (vs : List (V × V)) : Prop := Paired (fun p q => RD G rho F p.1 q.1 ∧ RD G rho F p.2 q.2) ps vs
theorem pairs_ok {σ : L2.St} : ∀ {kvs : Kv} {F H : Hp} {rho : List Addr} {m : Mem} {e : Ev} {Q : List (V × V) → Hp → Prop}, RelM G F H rho m → RelE G F rho e σ → Post G W σ (RDP G) F H rho (evK g kvs e m) Q → tPairs (trsK G W g kvs) σ H Q
  | .nil, F, H, rho, m, e, Q, r, re, hp => by
    rw [evK] at hp
    exact hp.here r .nil
  | .cons k v kr, F, H, rho, m, e, Q, r, re, hp => by
    rw [evK] at hp
    refine tI.mk r re ((Post.bind (R1 := RD1 G) hp).imp fun x H1 ⟨F1, rho1, d1, m1, x1, r1, rr1, hp1⟩ => ?_)
    have re1 := x1.rde r re
    refine tI.mk r1 re1 ((Post.bind (R1 := RD1 G) hp1).imp fun y H2 ⟨F2, rho2, d2, m2, x2, r2, rr2, hp2⟩ => ?_)
    refine pairs_ok r2 (x2.rde r1 re1) ((Post.bind (R1 := RDP G) hp2).imp fun ps H3 ⟨F3, rho3, ds, m3, x3, r3, rr3, hp3⟩ => ?_)
    exact hp3.here r3 (.cons ⟨x3.rd r2 (x2.rd r1 rr1), x3.rd r2 rr2⟩ rr3)
theorem mergeK_nd : ∀ (more acc : List (Key × V)), ((acc ++ more).map (·.1)).Nodup → mergeK acc more = acc ++ more
  | [], acc, _ => by simp [mergeK]
  | p :: more, acc, h => by
    have hp : (acc.any fun kv => decide (kv.1 = p.1)) = false := by
      rw [List.any_eq_false]
      intro q hq
      have h2 : (acc.map (·.1) ++ (p :: more).map (·.1)).Nodup := by rw [← List.map_append]; exact h
      have h3 := (List.nodup_append.mp h2).2.2 q.1 (List.mem_map.mpr ⟨q, hq, rfl⟩) p.1 (by simp)
      simpa using h3
    have e : putK acc p.1 p.2 = acc ++ [p] := by
      unfold putK
      rw [hp]
      rfl
    show mergeK (putK acc p.1 p.2) more = _
    rw [e, mergeK_nd more (acc ++ [p]) (by simpa using h)]
    simp
theorem keys_of {rho : List Addr} {F : Hp} : ∀ {ps : List (D × D)} {vs : List (V × V)} {ks : List Key}, ps.mapM (fun p => keyD p.1) = some ks → RDP G F rho ps vs → ∃ kvs : List (Key × V), vs = kvs.map (fun kv => (kV kv.1, kv.2)) ∧ kvs.map (·.1) = ks ∧ RDk G rho F ps kvs
  | [], _, ks, e, .nil => by
    cases e
    exact ⟨[], rfl, rfl, .nil⟩
  | (x, d) :: ps, _, ks, e, .cons (b := b) h t => by
    rw [List.mapM_cons] at e
    cases h1 : keyD x with
    | none => simp [h1] at e
    | some k =>
      cases h2 : ps.mapM (fun p => keyD p.1) with
      | none => simp [h1, h2] at e
      | some ks' =>
        simp only [h1, h2, Option.bind_eq_bind, Option.bind_some, Option.pure_def, Option.some.injEq] at e
        subst e
        obtain ⟨kvs, q1, q2, q3⟩ := keys_of h2 t
        obtain ⟨b1, b2⟩ := b
        obtain ⟨g1, g2⟩ := h
        have e3 := keyD_rd h1 g1
        dsimp only at e3 g2
        subst e3
        exact ⟨(k, b2) :: kvs, by rw [q1]; rfl, by rw [List.map_cons, q2], .cons h1 g2 q3⟩
theorem se_dic {keys : List (Option Expr)} {values : List Expr} {kvs : Kv} {mu : Bool} {pos : Pos} (h : PPs X pos keys values (trsK G W g kvs)) (hall : keys.all (·.isSome) = true) (hl : keys.length = values.length) (h15 : keys.length ≤ 15) (hnil : keys = [] → kvs = .nil) : SE X G W g (.Dict keys values pos) (.dic .k mu kvs) := by
  have key : ∀ {σ : L2.St} {H : Hp} {Q : VK}, tI G W (RD1 G) (ev g (.dic .k mu kvs)) σ H Q → ∀ p, H p = none → tPairs (trsK G W g kvs) σ (upd H p (.dK [])) fun ps H2 => H2 p = some (.dK []) ∧ ∃ kvs : List (Key × V), ps = kvs.map (fun kv => (kV kv.1, kv.2)) ∧ kvs.length ≤ 15 ∧ Q (.ref p) (upd H2 p (.dK (mergeK [] kvs))) := by
    intro σ H Q hq p hn
    obtain ⟨F, rho, m, e, r, re, hp⟩ := hq
    rw [ev] at hp
    obtain ⟨_, hp⟩ := Post.ite hp
    obtain ⟨r1, x1⟩ := r.cell (o := .dK []) (c := .dic .k []) hn ⟨[], upd_same, .nil⟩
    have re1 := x1.rde r re
    refine pairs_ok r1 re1 ((Post.bind (R1 := RDP G) (Post.ext hp x1)).imp fun vs H2 ⟨F2, rho2, ps, m2, x2, r2, rr, hp2⟩ => ?_)
    have hrho : rho2[m.length]? = some p := x2.beg _ _ (by rw [r.len]; simp)
    dsimp only at hp2
    split at hp2
    · rename_i hm
      obtain ⟨hc, hp3⟩ := Post.ite hp2
      simp only [Bool.and_eq_true, decide_eq_true_eq] at hc
      obtain ⟨hc1, hc2⟩ := hc
      unfold keysOk at hc2
      split at hc2
      · rename_i ks hks
        have hnd := of_decide_eq_true hc2
        obtain ⟨kvs', q1, q2, q3⟩ := keys_of hks rr
        obtain ⟨k0, e1, e2⟩ := r2.cel _ _ _ hrho hm
        cases e2
        have hlen : kvs'.length ≤ 15 := by
          have a1 := Paired.length rr
          rw [q1, List.length_map] at a1
          omega
        refine ⟨e1, kvs', q1, hlen, ?_⟩
        rw [mergeK_nd kvs' [] (by rw [List.nil_append, q2]; exact hnd), List.nil_append]
        obtain ⟨r3, x3⟩ := r2.write (o := .dK kvs') (c' := .dic .k ps) hrho hm (fun z => nomatch z) ⟨kvs', upd_same, q3⟩
        exact hp3 _ _ _ _ x3 r3 (.ref hrho)
      · cases hc2
    · exact hp2.elim
  cases keys with
  | nil =>
    have hv : values = [] := List.eq_nil_of_length_eq_zero hl.symm
    subst hv
    have := hnil rfl
    subst this
    refine pe_dnewK.imp fun σ H Q hq p hn => ?_
    obtain ⟨_, kvs', q1, _, q2⟩ := key hq p hn
    have : kvs' = [] := by
      cases kvs' with
      | nil => rfl
      | cons _ _ => cases q1
    subst this
    have e : upd (upd H p (.dK [])) p (.dK (mergeK [] [])) = upd H p (.dK []) := by
      funext b
      by_cases hb : b = p
      · rw [hb, upd_same, upd_same]; rfl
      · rw [upd_ne hb]
    rw [e] at q2
    exact q2
  | cons k ks => exact (pe_disp h hall hl (by simp) h15).imp fun σ H Q hq => key hq
def Es.len : Es → Nat
  | .nil => 0
  | .one _ r => r.len + 1
  | .star _ r => r.len + 1
def Es.pl : Es → Bool
  | .nil => true
  | .one _ r => r.pl
  | .star _ _ => false
theorem evs_len {e : Ev} : ∀ {s : Es} {m m1 : Mem} {xs : List D}, s.pl = true → evs g s e m = .ok xs m1 → xs.length = s.len
  | .nil, m, m1, xs, _, h => by
    rw [evs] at h
    cases h
    rfl
  | .one a r, m, m1, xs, hp, h => by
    rw [evs] at h
    obtain ⟨x, m2, h1, h2⟩ := res_bind_ok h
    obtain ⟨ys, m3, h3, h4⟩ := res_bind_ok h2
    cases h4
    have := evs_len (s := r) hp h3
    simp [Es.len, this]
  | .star a r, _, _, _, hp, _ => by cases hp
end
end IP

/-! IpW -/
set_option Elab.async false
set_option linter.all false
set_option maxRecDepth 100000
set_option maxHeartbeats 8000000
/-! IpW: the check is sound: expressions, all of them. -/
namespace IP
open PySem L2 PyProof.Rows
theorem free_of {X : Cx} {G : GC} {W : WX} {g : Gl} {xn : String → Option (List String)} {T : Tb} {sc : Scope} {N : List Str} {hs : Option Nat} (C : Cxt X G W g xn T sc N hs) {x : Str} (h : (T.free.any fun f => decide (Str.ofString f = x)) = true) : X.mg x = none := by
  obtain ⟨f, h1, h2⟩ := List.any_eq_true.mp h
  have e := of_decide_eq_true h2
  subst e
  exact C.free f h1
theorem kw_isSome {pos : Pos} {env : Env} : ∀ {kws : List Keyword}, kws.all (fun k => k.arg.isSome) = true → (backToKw pos (keywordEach kws env)).all (·.1.isSome) = true ∧ (backToKw pos (keywordEach kws env)).filterMap (·.1) = kws.filterMap (·.arg) ∧ (backToKw pos (keywordEach kws env)).any (·.1.isNone) = false
  | [], _ => ⟨rfl, rfl, rfl⟩
  | ⟨n, e, p⟩ :: kws, h => by
    rw [List.all_cons, Bool.and_eq_true] at h
    obtain ⟨h1, h2, h3⟩ := kw_isSome (pos := pos) (env := env) h.2
    have e1 : backToKw pos (keywordEach (⟨n, e, p⟩ :: kws) env) = (n, do let v ← eval e env; standAt pos; pure v) :: backToKw pos (keywordEach kws env) := rfl
    have hn : n.isSome = true := h.1
    refine ⟨?_, ?_, ?_⟩
    · rw [e1, List.all_cons, h1]
      simp [hn]
    · rw [e1]
      cases n with
      | none => cases hn
      | some n =>
        simp only [List.filterMap_cons, h2]
    · rw [e1, List.any_cons, h3]
      cases n with
      | none => cases hn
      | some n => rfl
theorem methForm {pos : Pos} {env : Env} {args : List Expr} (h : noStars args = true) (hl : args.length < 29) : methodCallForm (args.length + ([] : List Keyword).length) (backTo pos (starEach args env)) (backToKw pos (keywordEach [] env)) = true := by
  have h1 : (backTo pos (starEach args env)).all (fun x => !x.1) = true := by
    have := noStars_of (env := env) (p := pos) h
    rw [List.all_eq_true]
    intro x hx
    have h2 := List.any_eq_false.mp this x hx
    simpa using h2
  unfold methodCallForm
  rw [h1]
  have e2 : backToKw pos (keywordEach [] env) = [] := rfl
  rw [e2]
  simp only [List.all_nil, Bool.true_and, List.isEmpty_nil, if_true, List.length_nil, Nat.add_zero]
  exact decide_eq_true (by omega)
theorem pw_of {X : Cx} {op : BoolOp} {es : List Expr} {pos : Pos} {t : TT} (h : PT X (.BoolOp op es pos) t) : PW X (.BoolOp op es pos) t := ⟨fun wh pins s σ H Q I q => h.run pins s σ H Q I q⟩
mutual
theorem chk_ok : ∀ (a : E) {X : Cx} {G : GC} {W : WX} {g : Gl} {xn : String → Option (List String)} {T : Tb} {sc : Scope} {N : List Str} {hs : Option Nat} {md : Bool} {e : Expr}, Cxt X G W g xn T sc N hs → chk T sc N hs md a e = true → Sd md X G W g e a
  | .loc i, X, G, W, g, xn, T, sc, N, hs, md, e, C, h => by
    rw [chk.eq_def] at h; dsimp only at h
    split at h
    · simp only [Bool.and_eq_true, decide_eq_true_eq] at h
      obtain ⟨h1, h2, h3⟩ := h
      exact Sd.of C.B.hK (se_loc (C.hN ▸ h1) (visB_of C h2) (okN_of h3).1 (okN_of h3).2) rfl fun e m => by simp only [evT]
    · cases h
  | .con d, X, G, W, g, xn, T, sc, N, hs, md, e, C, h => by
    rw [chk.eq_def] at h; dsimp only at h
    obtain ⟨q1, q2⟩ := conB_of h
    exact Sd.of C.B.hK q1 q2 fun e m => by simp only [evT]
  | .gcon x d, X, G, W, g, xn, T, sc, N, hs, md, e, C, h => by
    rw [chk.eq_def] at h; dsimp only at h
    split at h
    · simp only [Bool.and_eq_true, decide_eq_true_eq] at h
      obtain ⟨rfl, h2, h3, h4⟩ := h
      refine Sd.of C.B.hK ?_ rfl fun e m => by simp only [evT]
      unfold gconB at h4
      split at h4
      · obtain ⟨t, q⟩ := C.gints _ (by simpa using h4)
        exact se_gcon (pe_glob (v := .int _) (glB_of C h2) q ⟨t, rfl⟩ (okN_of h3).1) fun _ _ => .int _
      · obtain ⟨p, q1, q2⟩ := List.any_eq_true.mp h4
        simp only [Bool.and_eq_true, decide_eq_true_eq, beq_iff_eq] at q2
        obtain ⟨t, q⟩ := C.gstrs p q1
        rw [q2.1, q2.2] at q
        exact se_gcon (pe_glob (v := .str _) (glB_of C h2) q ⟨t, rfl⟩ (okN_of h3).1) fun _ _ => .str _
      · cases h4
    · cases h
  | .bin op a b, X, G, W, g, xn, T, sc, N, hs, md, e, C, h => by
    rw [chk.eq_def] at h; dsimp only at h
    split at h
    · simp only [Bool.and_eq_true, decide_eq_true_eq] at h
      obtain ⟨rfl, h1, h2⟩ := h
      exact Sd.of C.B.hK (se_bin C.B C.O (chk_ok a C h1) (chk_ok b C h2)) rfl fun e m => by simp only [evT]
    · cases h
  | .neg a, X, G, W, g, xn, T, sc, N, hs, md, e, C, h => by
    rw [chk.eq_def] at h; dsimp only at h
    split at h
    · exact Sd.of C.B.hK (se_neg C.O (chk_ok a C h)) rfl fun e m => by simp only [evT]
    · cases h
  | .nt a, X, G, W, g, xn, T, sc, N, hs, md, e, C, h => by
    rw [chk.eq_def] at h; dsimp only at h
    split at h
    · have q := chk_ok a C h
      cases md with
      | true => exact st_not q
      | false => exact se_nt C.B.hK q
    · cases h
  | .an a b, X, G, W, g, xn, T, sc, N, hs, md, e, C, h => by
    rw [chk.eq_def] at h; dsimp only at h
    split at h
    · simp only [Bool.and_eq_true] at h
      obtain ⟨h1, h2⟩ := h
      have q1 := chk_ok a C h1
      split at h2
      · have q2 := chk_ok b C h2
        cases md with
        | true => exact (sw_and q1 (sw_and1 q2)).pt
        | false => exact se_and q1 (se_bone q2)
      · have q2 := chk_ok b C h2
        cases md with
        | true => exact (sw_and q1 (pw_of q2)).pt
        | false => exact se_and q1 q2
    · cases h
  | .orr a b, X, G, W, g, xn, T, sc, N, hs, md, e, C, h => by
    rw [chk.eq_def] at h; dsimp only at h
    split at h
    · simp only [Bool.and_eq_true] at h
      obtain ⟨h1, h2⟩ := h
      have q1 := chk_ok a C h1
      split at h2
      · have q2 := chk_ok b C h2
        cases md with
        | true => exact (sw_or q1 (sw_or1 q2)).pt
        | false => exact se_or q1 (se_bone q2)
      · have q2 := chk_ok b C h2
        cases md with
        | true => exact (sw_or q1 (pw_of q2)).pt
        | false => exact se_or q1 q2
    · cases h
  | .cmp op a b, X, G, W, g, xn, T, sc, N, hs, md, e, C, h => by
    rw [chk.eq_def] at h; dsimp only at h
    split at h
    · simp only [Bool.and_eq_true, decide_eq_true_eq] at h
      obtain ⟨rfl, h1, h2, h3⟩ := h
      cases md with
      | true => exact st_cmp C.B C.O (chk_ok a C h2) (chk_ok b C h3) h1
      | false => exact se_cmp C.B C.O (chk_ok a C h2) (chk_ok b C h3) h1
    · cases h
  | .cmp2 op1 op2 a b c, X, G, W, g, xn, T, sc, N, hs, md, e, C, h => by
    rw [chk.eq_def] at h; dsimp only at h
    split at h
    · simp only [Bool.and_eq_true, decide_eq_true_eq] at h
      obtain ⟨⟨rfl, rfl⟩, h1, h2, h3, h4⟩ := h
      cases md with
      | true => exact st_cmp2 C.B C.O (chk_ok a C h2) (chk_ok b C h3) (chk_ok c C h4) h1
      | false => exact se_cmp2 C.B C.O (chk_ok a C h2) (chk_ok b C h3) (chk_ok c C h4) h1
    · cases h
  | .ife c a b, X, G, W, g, xn, T, sc, N, hs, md, e, C, h => by
    rw [chk.eq_def] at h; dsimp only at h
    split at h
    · simp only [Bool.and_eq_true, Bool.not_eq_true'] at h
      obtain ⟨rfl, h1, h2, h3⟩ := h
      exact se_ife (chk_ok c C h1) (chk_ok a C h2) (chk_ok b C h3)
    · cases h
  | .tup es, X, G, W, g, xn, T, sc, N, hs, md, e, C, h => by
    rw [chk.eq_def] at h; dsimp only at h
    split at h
    · exact Sd.of C.B.hK (se_tup (chkEs_ok es C h)) rfl fun e m => by simp only [evT]
    · cases h
  | .lst mu es, X, G, W, g, xn, T, sc, N, hs, md, e, C, h => by
    rw [chk.eq_def] at h; dsimp only at h
    split at h
    · exact Sd.of C.B.hK (se_lst (chkEs_ok es C h)) rfl fun e m => by simp only [evT]
    · cases h
  | .dic q mu kvs, X, G, W, g, xn, T, sc, N, hs, md, e, C, h => by
    rw [chk.eq_def] at h; dsimp only at h
    split at h
    · simp only [Bool.and_eq_true, decide_eq_true_eq] at h
      obtain ⟨h1, h2, h3⟩ := h
      cases q with
      | t => cases h1
      | k =>
        obtain ⟨q1, q2, q3, q4⟩ := chkKv_ok kvs C h3
        exact Sd.of C.B.hK (se_dic q1 q2 q3 h2 q4) rfl fun e m => by simp only [evT]
    · cases h
  | .comp mu elt tg it cnd own, X, G, W, g, xn, T, sc, N, hs, md, e, C, h => by
    rw [chk.eq_def] at h; dsimp only at h
    split at h
    · rename_i eelt tge iter ifs scope p
      simp only [Bool.and_eq_true, decide_eq_true_eq] at h
      obtain ⟨⟨h1, h2, h3, h4, h5⟩, h6, h7, h8⟩ := h
      refine Sd.of C.B.hK ?_ rfl fun e m => by simp only [evT]
      by_cases hcur : g.cur.isNone = true
      rotate_left
      · refine ⟨fun pins s σ H Q I hq => ?_⟩
        obtain ⟨F, rho, m, e, r, re, hp⟩ := hq
        rw [ev, if_neg hcur] at hp
        exact hp.elim
      have hcalm : X.calm = true := C.B.calm (by simpa using hcur)
      have ok : BlkOk X.N X.env.scope scope (ownL N own) := blkOk_by (by rw [C.hN, C.hsc]; exact h2)
      have pe := pe_lc (X := X) (scope := scope) (pos := p) (g := gOf X.K tg) hcalm C.B.nd (chkIt_ok it C h1) ok
        (fun s H CA cl fp => tgB_of (X := X.blk s H scope (compEnvC scope cl CA X.env) fp) (C.blk hcur).hsc C.hN C.B.nd hcalm (fun x h1 h2 => by
          show (scope.names.lookup x == some NameKind.cell) = true
          rw [celB_of h2]
          rfl) h6)
        (fun s H CA cl fp => chkO_ok cnd (C.blk hcur) h7) (fun s H CA cl fp => chk_ok elt (C.blk hcur) h8) (notSet_fold h5)
      rw [h3] at pe
      exact pe.imp fun σ H Q hq => comp_ok C.B.hK C.B.slc (fun i hi => by simpa using List.all_eq_true.mp h4 i hi) hq
    · cases h
  | .comp2 mu elt tg it tg2 it2 cnd own, X, G, W, g, xn, T, sc, N, hs, md, e, C, h => by
    rw [chk.eq_def] at h; dsimp only at h
    split at h
    · rename_i eelt tge iter tge2 iter2 ifs scope p
      simp only [Bool.and_eq_true, decide_eq_true_eq] at h
      obtain ⟨⟨h1, h2, h3, h4, h4', h5, h5'⟩, h6, h6', h7', h7, h8⟩ := h
      refine Sd.of C.B.hK ?_ rfl fun e m => by simp only [evT]
      by_cases hcur : g.cur.isNone = true
      rotate_left
      · refine ⟨fun pins s σ H Q I hq => ?_⟩
        obtain ⟨F, rho, m, e, r, re, hp⟩ := hq
        rw [ev, if_neg hcur] at hp
        exact hp.elim
      have hcalm : X.calm = true := C.B.calm (by simpa using hcur)
      have ok : BlkOk X.N X.env.scope scope (ownL N own) := blkOk_by (by rw [C.hN, C.hsc]; exact h2)
      have hfb : ∀ (s : Shared) (H : Hp) (CA : Addr) (cl : List (Str × Addr)) (fp : List Addr) (x : Str), (relS scope sc).names.lookup x = some .cell → celB scope x = true → (X.blk s H scope (compEnvC scope cl CA X.env) fp).fn x = true := fun s H CA cl fp x h1 h2 => by
        show (scope.names.lookup x == some NameKind.cell) = true
        rw [celB_of h2]
        rfl
      have pe := pe_lc2 (X := X) (scope := scope) (pos := p) (vs1 := tgL tg2) (g := gOf X.K tg) (g1 := gOf X.K tg2) hcalm C.B.nd (chkIt_ok it C h1) ok (fun i hi => by rw [h3]; simpa using List.all_eq_true.mp h4' i hi)
        (fun s H CA cl fp => tgB_of (X := X.blk s H scope (compEnvC scope cl CA X.env) fp) (C.blk hcur).hsc C.hN C.B.nd hcalm (hfb s H CA cl fp) h6) (fun s H CA cl fp => pts_nil)
        (fun s H CA cl fp => chkIt_ok it2 (C.blk hcur) h7') (fun s H CA cl fp => tgB_of (X := X.blk s H scope (compEnvC scope cl CA X.env) fp) (C.blk hcur).hsc C.hN C.B.nd hcalm (hfb s H CA cl fp) h6')
        (fun s H CA cl fp => chkO_ok cnd (C.blk hcur) h7) (fun s H CA cl fp => chk_ok elt (C.blk hcur) h8) (notSet_fold h5) (fun env => notSet_fold h5')
      rw [h3] at pe
      exact pe.imp fun σ H Q hq => comp2_ok C.B.hK C.B.slc (fun i hi => by simpa using List.all_eq_true.mp h4 i hi) hq
    · cases h
  | .sub a i, X, G, W, g, xn, T, sc, N, hs, md, e, C, h => by
    rw [chk.eq_def] at h; dsimp only at h
    split at h
    · simp only [Bool.and_eq_true] at h
      exact Sd.of C.B.hK (se_sub C.B (chk_ok a C h.2.1) (chk_ok i C h.2.2) h.1) rfl fun e m => by simp only [evT]
    · cases h
  | .slc a lo hi, X, G, W, g, xn, T, sc, N, hs, md, e, C, h => by
    rw [chk.eq_def] at h; dsimp only at h
    split at h
    · simp only [Bool.and_eq_true] at h
      exact Sd.of C.B.hK (se_slc C.B (chk_ok a C h.1) (chkOp_ok lo C h.2.1) (chkOp_ok hi C h.2.2)) rfl fun e m => by simp only [evT]
    · cases h
  | .rev a, X, G, W, g, xn, T, sc, N, hs, md, e, C, h => by
    rw [chk.eq_def] at h; dsimp only at h
    split at h
    · exact Sd.of C.B.hK (se_rev (chk_ok a C h)) rfl fun e m => by simp only [evT]
    · cases h
  | .att a f, X, G, W, g, xn, T, sc, N, hs, md, e, C, h => by
    rw [chk.eq_def] at h; dsimp only at h
    split at h
    · simp only [Bool.and_eq_true, decide_eq_true_eq, List.contains_iff_mem] at h
      obtain ⟨rfl, h1, h2, h3⟩ := h
      exact Sd.of C.B.hK (se_att C.B (C.att f h1) (chk_ok a C h3) h2) rfl fun e m => by simp only [evT]
    · cases h
  | .exf f, X, G, W, g, xn, T, sc, N, hs, md, e, C, h => by
    rw [chk.eq_def] at h; dsimp only at h
    split at h
    · simp only [Bool.and_eq_true, decide_eq_true_eq] at h
      obtain ⟨rfl, h1, h2, h3⟩ := h
      cases hs with
      | none => cases h3
      | some i =>
        have h3 := of_decide_eq_true h3
        exact Sd.of C.B.hK (C.exf rfl (C.hN ▸ h3) (by show X.env.scope.names.lookup _ = _; rw [C.hsc]; exact lclB_of h2) (okN_of h1).1 (okN_of h1).2) rfl fun e m => by simp only [evT]
    · cases h
  | .call c f es ar dv, X, G, W, g, xn, T, sc, N, hs, md, e, C, h => by
    rw [chk.eq_def] at h; dsimp only at h
    split at h
    · rename_i x p args kws pos
      simp only [Bool.and_eq_true, decide_eq_true_eq, beq_iff_eq, List.isEmpty_iff] at h
      obtain ⟨⟨rfl, rfl, rfl, h1, h2⟩, h3⟩ := h
      refine Sd.of C.B.hK ?_ rfl fun e m => by simp only [evT]
      by_cases hcur : g.cur.isNone = true
      rotate_left
      · refine ⟨fun pins s σ H Q I hq => ?_⟩
        obtain ⟨F, rho, m, e, r, re, hp⟩ := hq
        rw [ev, if_neg hcur] at hp
        exact hp.elim
      split at h3
      · simp only [Bool.and_eq_true, List.isEmpty_iff, List.contains_iff_mem] at h3
        obtain ⟨rfl, h4, h5, h6⟩ := h3
        obtain ⟨a, fd, ps, k, q1, q2, q3, q4⟩ := (C.cal hcur).fns f h4
        have qa := chkEs_ok es C h6
        cases args with
        | nil =>
          cases es with
          | nil => exact se_call0 q1 q2 C.B.tk (fun _ => q4) (glB_of C h1) q3 (okN_of h2).1
          | one _ _ => rw [chkEs.eq_def] at h6; cases h6
          | star _ _ => rw [chkEs.eq_def] at h6; cases h6
        | cons a1 args =>
          unfold noStars at h5
          rw [List.all_cons, Bool.and_eq_true] at h5
          exact se_call q1 q2 C.B.tk (fun _ => q4) (glB_of C h1) q3 (okN_of h2).1 qa h5.1 (noStars_of h5.2)
      · rename_i kw kws
        split at h3
        · cases h3
        · rename_i a1 args
          simp only [Bool.and_eq_true] at h3
          obtain ⟨h4, h5, h6, h7⟩ := h3
          obtain ⟨p', p1, p2⟩ := List.any_eq_true.mp h6
          simp only [Bool.and_eq_true, beq_iff_eq, decide_eq_true_eq] at p2
          obtain ⟨p2, p3, p4, p5⟩ := p2
          obtain ⟨a, fd, ps, k, q1, q2, q3, q4⟩ := (C.cal hcur).pats p' p1
          rw [p2] at q1 q3
          rw [p3, p4, p5] at q2
          obtain ⟨w1, w2, w3, w4, w5, w6⟩ := chkKs_ok es C h4 h7
          unfold noStars at h4
          rw [List.all_cons, Bool.and_eq_true] at h4
          obtain ⟨k1, k2, k3⟩ := kw_isSome (pos := pos) (env := X.env) h5
          have ee := Es.split_app (a1 :: args).length es
          have := se_callK (c := "") (f := f) (as := (es.split (a1 :: args).length).1) (as2 := (es.split (a1 :: args).length).2) (ks := (kw :: kws).filterMap (·.arg)) (ar := ar) (np := (a1 :: args).length) (p := p) (pos := pos) q1 q2 C.B.tk (fun _ => q4) (glB_of C h1) q3 (okN_of h2).1
            (fun hv => by rw [evs_len w3 hv, w4]) (fun hv => by
              rw [evs_len w5 hv, w6]
              have : ∀ {l : List Keyword}, l.all (fun k => k.arg.isSome) = true → l.length = (l.filterMap (·.arg)).length := by
                intro l
                induction l with
                | nil => intro _; rfl
                | cons q l ih =>
                  intro hl
                  rw [List.all_cons, Bool.and_eq_true] at hl
                  cases hq : q.arg with
                  | none => rw [hq] at hl; cases hl.1
                  | some n => simp only [List.filterMap_cons, hq, List.length_cons, ih hl.2]
              exact this h5) w1 w2 h4.1 k1 k2 (by
              have e1 := noStars_of (env := X.env) (p := pos) (es := a1 :: args) (by unfold noStars; rw [List.all_cons, h4.1]; exact h4.2)
              rw [e1, k3]
              rfl)
          rw [ee] at this
          exact this
    · cases h
  | .meth c m o es ar dv, X, G, W, g, xn, T, sc, N, hs, md, e, C, h => by
    rw [chk.eq_def] at h; dsimp only at h
    split at h
    · rename_i eo m' apos args pos
      simp only [Bool.and_eq_true, decide_eq_true_eq, beq_iff_eq, List.isEmpty_iff, List.contains_iff_mem] at h
      obtain ⟨⟨rfl, rfl, rfl, h1, h2, h3, h4, h5⟩, h6, h7⟩ := h
      refine Sd.of C.B.hK ?_ rfl fun e m => by simp only [evT]
      by_cases hcur : g.cur.isNone = true
      rotate_left
      · refine ⟨fun pins s σ H Q I hq => ?_⟩
        obtain ⟨F, rho, m, e, r, re, hp⟩ := hq
        rw [ev, if_neg hcur] at hp
        exact hp.elim
      obtain ⟨CC, a, fd, ps, k, q1, q2, q3, q4, q5, q6⟩ := (C.cal hcur).mts _ h1
      have qo := chk_ok o C h6
      have qa := chkEs_ok es C h7
      have ht := mtree (o := eo) (m := Str.ofString m) (apos := apos) (pos := pos) (args := args) (kws := []) (env := X.env) (base_of h2) (methForm h3 h4) (by rw [h5]; exact beq_self_eq_true _)
      cases args with
      | nil =>
        cases es with
        | nil => exact se_meth0 C.B q4 q5 (fun _ => q6) q1 q2 q3 qo ht
        | one _ _ => rw [chkEs.eq_def] at h7; cases h7
        | star _ _ => rw [chkEs.eq_def] at h7; cases h7
      | cons a1 args =>
        unfold noStars at h3
        rw [List.all_cons, Bool.and_eq_true] at h3
        exact se_meth C.B q4 q5 (fun _ => q6) q1 q2 q3 qo qa h3.1 (noStars_of h3.2) ht
    · cases h
  | .make mu c es ar dv, X, G, W, g, xn, T, sc, N, hs, md, e, C, h => by
    rw [chk.eq_def] at h; dsimp only at h
    split at h
    · rename_i x p args pos
      simp only [Bool.and_eq_true, decide_eq_true_eq, List.isEmpty_iff, List.contains_iff_mem] at h
      obtain ⟨⟨rfl, rfl, rfl, h1, h2, h3, h4⟩, h5⟩ := h
      refine Sd.of C.B.hK ?_ rfl fun e m => by simp only [evT]
      by_cases hcur : g.cur.isNone = true
      rotate_left
      · refine ⟨fun pins s σ H Q I hq => ?_⟩
        obtain ⟨F, rho, m, e, r, re, hp⟩ := hq
        rw [ev, if_neg hcur] at hp
        exact hp.elim
      obtain ⟨CC, a, fd, ps, k, q1, q2, q3, q4, q5, q6⟩ := (C.cal hcur).mks _ h3
      have qa := chkEs_ok es C h5
      cases args with
      | nil =>
        cases es with
        | nil => exact se_make0 C.B q3 q4 (fun _ => q6) q1 q2 (glB_of C h1) q5 (okN_of h2).1
        | one _ _ => rw [chkEs.eq_def] at h5; cases h5
        | star _ _ => rw [chkEs.eq_def] at h5; cases h5
      | cons a1 args =>
        unfold noStars at h4
        rw [List.all_cons, Bool.and_eq_true] at h4
        exact se_make C.B q3 q4 (fun _ => q6) q1 q2 (glB_of C h1) q5 (okN_of h2).1 qa h4.1 (noStars_of h4.2)
    · cases h
  | .bi b es, X, G, W, g, xn, T, sc, N, hs, md, e, C, h => by
    rw [chk.eq_def] at h; dsimp only at h
    split at h
    · simp only [Bool.and_eq_true, decide_eq_true_eq] at h
      obtain ⟨⟨rfl, h1, h2, h3⟩, h4⟩ := h
      unfold noStars at h3
      rw [List.all_cons, Bool.and_eq_true] at h3
      exact Sd.of C.B.hK (se_bi C.B C.O (glB_of C h1) (free_of C h2) (chkEs_ok es C h4) h3.1 (noStars_of h3.2)) rfl fun e m => by simp only [evT]
    · cases h
  | .seq t a, X, G, W, g, xn, T, sc, N, hs, md, e, C, h => by
    rw [chk.eq_def] at h; dsimp only at h
    split at h
    · simp only [Bool.and_eq_true, decide_eq_true_eq] at h
      obtain ⟨⟨rfl, h1, h2, h3⟩, h4⟩ := h
      exact Sd.of C.B.hK (se_seq C.B (glB_of C h1) (free_of C h2) (chk_ok a C h4) h3) rfl fun e m => by simp only [evT]
    · cases h
  | .bm _ _ _, X, G, W, g, xn, T, sc, N, hs, md, e, C, h => by
    rw [chk.eq_def] at h; dsimp only at h
    cases h
  | .isi a ts, X, G, W, g, xn, T, sc, N, hs, md, e, C, h => by
    rw [chk.eq_def] at h; dsimp only at h
    split at h
    · simp only [Bool.and_eq_true, decide_eq_true_eq, List.contains_iff_mem] at h
      obtain ⟨⟨rfl, h1, h2, h3⟩, h4, h5⟩ := h
      have qa := chk_ok a C h5
      refine Sd.of C.B.hK ?_ rfl fun e m => by simp only [evT]
      split at h4
      · simp only [Bool.and_eq_true, Bool.not_eq_true', decide_eq_true_eq] at h4
        obtain ⟨h6, h7, h8⟩ := h4
        obtain ⟨cs, us, w1, w2, w3, w4⟩ := clsL_of C h8
        exact se_isiT C.Fa C.B (glB_of C h1) (C.free _ h2) qa h3 w1 w2 w3 (fun z => by rw [z] at h6; cases h6) (by rw [w4, sizeLine_eq]; omega)
      · split at h4
        · obtain ⟨v, u, w1, w2, w3⟩ := clsB_of C h4
          exact se_isi C.Fa C.B (glB_of C h1) (C.free _ h2) qa h3 w2 w3 w1
        · cases h4
    · cases h
  | .fst _, X, G, W, g, xn, T, sc, N, hs, md, e, C, h => by
    rw [chk.eq_def] at h; dsimp only at h
    cases h
  | .frz _, X, G, W, g, xn, T, sc, N, hs, md, e, C, h => by
    rw [chk.eq_def] at h; dsimp only at h
    cases h
theorem chkEs_ok : ∀ (as : Es) {X : Cx} {G : GC} {W : WX} {g : Gl} {xn : String → Option (List String)} {T : Tb} {sc : Scope} {N : List Str} {hs : Option Nat} {es : List Expr}, Cxt X G W g xn T sc N hs → chkEs T sc N hs as es = true → SA X G W g es as
  | .nil, X, G, W, g, xn, T, sc, N, hs, es, C, h => by
    rw [chkEs.eq_def] at h; dsimp only at h
    have e := List.isEmpty_iff.mp h
    subst e
    exact sa_nil
  | .one a r, X, G, W, g, xn, T, sc, N, hs, es, C, h => by
    rw [chkEs.eq_def] at h; dsimp only at h
    split at h
    · simp only [Bool.and_eq_true] at h
      exact sa_one (chk_ok a C h.2.1) (chkEs_ok r C h.2.2) h.1
    · cases h
  | .star a r, X, G, W, g, xn, T, sc, N, hs, es, C, h => by
    rw [chkEs.eq_def] at h; dsimp only at h
    split at h
    · simp only [Bool.and_eq_true] at h
      exact sa_star C.B.hK (chk_ok a C h.1) (chkEs_ok r C h.2)
    · cases h
theorem chkKv_ok : ∀ (kvs : Kv) {X : Cx} {G : GC} {W : WX} {g : Gl} {xn : String → Option (List String)} {T : Tb} {sc : Scope} {N : List Str} {hs : Option Nat} {keys : List (Option Expr)} {values : List Expr} {pos : Pos}, Cxt X G W g xn T sc N hs → chkKv T sc N hs kvs keys values = true →
    PPs X pos keys values (trsK G W g kvs) ∧ keys.all (·.isSome) = true ∧ keys.length = values.length ∧ (keys = [] → kvs = .nil)
  | .nil, X, G, W, g, xn, T, sc, N, hs, keys, values, pos, C, h => by
    rw [chkKv.eq_def] at h; dsimp only at h
    simp only [Bool.and_eq_true, List.isEmpty_iff] at h
    obtain ⟨rfl, rfl⟩ := h
    exact ⟨pps_nil, rfl, rfl, fun _ => rfl⟩
  | .cons k v r, X, G, W, g, xn, T, sc, N, hs, keys, values, pos, C, h => by
    rw [chkKv.eq_def] at h; dsimp only at h
    split at h
    · simp only [Bool.and_eq_true] at h
      obtain ⟨h1, h2, h3⟩ := h
      obtain ⟨q1, q2, q3, q4⟩ := chkKv_ok r (pos := pos) C h3
      exact ⟨pps_cons (chk_ok k C h1) (chk_ok v C h2) q1, by rw [List.all_cons, q2]; rfl, by rw [List.length_cons, List.length_cons, q3], fun z => by cases z⟩
    · cases h
theorem chkKs_ok : ∀ (as : Es) {X : Cx} {G : GC} {W : WX} {g : Gl} {xn : String → Option (List String)} {T : Tb} {sc : Scope} {N : List Str} {hs : Option Nat} {es : List Expr} {ks : List Keyword}, Cxt X G W g xn T sc N hs → noStars es = true → chkKs T sc N hs as es ks = true →
    SA X G W g es (as.split es.length).1 ∧ SK X G W g ks (as.split es.length).2 ∧ (as.split es.length).1.pl = true ∧ (as.split es.length).1.len = es.length ∧ (as.split es.length).2.pl = true ∧ (as.split es.length).2.len = ks.length
  | .nil, X, G, W, g, xn, T, sc, N, hs, es, ks, C, hn, h => by
    rw [chkKs.eq_def] at h; dsimp only at h
    simp only [Bool.and_eq_true, List.isEmpty_iff] at h
    obtain ⟨rfl, rfl⟩ := h
    exact ⟨sa_nil, sk_nil, rfl, rfl, rfl, rfl⟩
  | .one a r, X, G, W, g, xn, T, sc, N, hs, es, ks, C, hn, h => by
    rw [chkKs.eq_def] at h; dsimp only at h
    split at h
    · rename_i ea rest
      simp only [Bool.and_eq_true] at h
      unfold noStars at hn
      rw [List.all_cons, Bool.and_eq_true] at hn
      obtain ⟨w1, w2, w3, w4, w5, w6⟩ := chkKs_ok r C hn.2 h.2
      refine ⟨?_, ?_, ?_, ?_, ?_, ?_⟩
      · rw [List.length_cons, Es.split]
        exact sa_one (chk_ok a C h.1) w1 hn.1
      · rw [List.length_cons, Es.split]
        exact w2
      · rw [List.length_cons, Es.split]
        exact w3
      · rw [List.length_cons, Es.split]
        show _ + 1 = _
        rw [w4]
      · rw [List.length_cons, Es.split]
        exact w5
      · rw [List.length_cons, Es.split]
        exact w6
    · split at h
      · simp only [Bool.and_eq_true] at h
        obtain ⟨w1, w2, w3, w4, w5, w6⟩ := chkKs_ok r C hn h.2
        refine ⟨sa_nil, ?_, rfl, rfl, w5, ?_⟩
        · exact sk_cons (chk_ok a C h.1) w2
        · show _ + 1 = _
          rw [List.length_cons]
          exact congrArg (· + 1) w6
      · cases h
  | .star a r, X, G, W, g, xn, T, sc, N, hs, es, ks, C, hn, h => by
    rw [chkKs.eq_def] at h; dsimp only at h
    cases h
theorem chkO_ok : ∀ (o : Oe) {X : Cx} {G : GC} {W : WX} {g : Gl} {xn : String → Option (List String)} {T : Tb} {sc : Scope} {N : List Str} {hs : Option Nat} {es : List Expr}, Cxt X G W g xn T sc N hs → chkO T sc N hs o es = true → PTs X es (tI G W REq (evO g o))
  | .non, X, G, W, g, xn, T, sc, N, hs, es, C, h => by
    rw [chkO.eq_def] at h; dsimp only at h
    have e := List.isEmpty_iff.mp h
    subst e
    refine ⟨fun pins s σ H Q I hq => pts_nil.run pins s σ H Q I ?_⟩
    obtain ⟨F, rho, m, e, r, re, hp⟩ := hq
    rw [evO] at hp
    exact hp.here r rfl
  | .som a, X, G, W, g, xn, T, sc, N, hs, es, C, h => by
    rw [chkO.eq_def] at h; dsimp only at h
    split at h
    · refine ⟨fun pins s σ H Q I hq => (pts_one (chk_ok a C h)).run pins s σ H Q I ?_⟩
      obtain ⟨F, rho, m, e, r, re, hp⟩ := hq
      rw [evO] at hp
      exact tI.mk r re hp
    · cases h
theorem chkOp_ok : ∀ (o : Oe) {X : Cx} {G : GC} {W : WX} {g : Gl} {xn : String → Option (List String)} {T : Tb} {sc : Scope} {N : List Str} {hs : Option Nat} {e : Option Expr}, Cxt X G W g xn T sc N hs → chkOp T sc N hs o e = true → PO X e (tI G W REq (evI g o))
  | .non, X, G, W, g, xn, T, sc, N, hs, e, C, h => by
    rw [chkOp.eq_def] at h; dsimp only at h
    cases e with
    | none => exact po_of trivial
    | some _ => cases h
  | .som a, X, G, W, g, xn, T, sc, N, hs, e, C, h => by
    rw [chkOp.eq_def] at h; dsimp only at h
    cases e with
    | none => cases h
    | some ea => exact po_of (l := .som a) (lo := some ea) (chk_ok a C h)
theorem chkIt_ok : ∀ (i : It) {X : Cx} {G : GC} {W : WX} {g : Gl} {xn : String → Option (List String)} {T : Tb} {sc : Scope} {N : List Str} {hs : Option Nat} {tg e : Expr}, Cxt X G W g xn T sc N hs → chkIt T sc N hs i tg e = true → SW X G W g tg e i
  | .seq a, X, G, W, g, xn, T, sc, N, hs, tg, e, C, h => by
    rw [chkIt.eq_def] at h; dsimp only at h
    exact sw_seq C.B (chk_ok a C h)
  | .rng1 a, X, G, W, g, xn, T, sc, N, hs, tg, e, C, h => by
    rw [chkIt.eq_def] at h; dsimp only at h
    split at h
    · simp only [Bool.and_eq_true, decide_eq_true_eq, List.contains_iff_mem] at h
      obtain ⟨⟨rfl, h1, h2, h3⟩, h4⟩ := h
      exact sw_rng1 (glB_of C h1) (C.free _ h2) (chk_ok a C h4) h3
    · cases h
  | .rng2 a b, X, G, W, g, xn, T, sc, N, hs, tg, e, C, h => by
    rw [chkIt.eq_def] at h; dsimp only at h
    split at h
    · simp only [Bool.and_eq_true, decide_eq_true_eq, List.contains_iff_mem] at h
      obtain ⟨⟨rfl, h1, h2, h3, h3'⟩, h4, h5⟩ := h
      exact sw_rng2 (glB_of C h1) (C.free _ h2) (chk_ok a C h4) h3 (chk_ok b C h5) h3'
    · cases h
  | .rng3 a b c, X, G, W, g, xn, T, sc, N, hs, tg, e, C, h => by
    rw [chkIt.eq_def] at h; dsimp only at h
    split at h
    · simp only [Bool.and_eq_true, decide_eq_true_eq, List.contains_iff_mem] at h
      obtain ⟨⟨rfl, h1, h2, h3, h3', h3''⟩, h4, h5, h6⟩ := h
      exact sw_rng3 (glB_of C h1) (C.free _ h2) (chk_ok a C h4) h3 (chk_ok b C h5) h3' (chk_ok c C h6) h3''
    · cases h
  | .enum a, X, G, W, g, xn, T, sc, N, hs, tg, e, C, h => by
    rw [chkIt.eq_def] at h; dsimp only at h
    split at h
    · simp only [Bool.and_eq_true, decide_eq_true_eq, List.contains_iff_mem] at h
      obtain ⟨⟨rfl, h1, h2, h3, h3'⟩, h4⟩ := h
      cases tg with
      | Tuple elts kk tp => exact sw_enum C.B (glB_of C h1) (C.free _ h2) (chk_ok a C h4) h3
      | _ => cases h3'
    · cases h
  | .zip a b, X, G, W, g, xn, T, sc, N, hs, tg, e, C, h => by
    rw [chkIt.eq_def] at h; dsimp only at h
    split at h
    · simp only [Bool.and_eq_true, decide_eq_true_eq, List.contains_iff_mem] at h
      obtain ⟨⟨rfl, h1, h2, h3, h3', h3''⟩, h4, h5⟩ := h
      cases tg with
      | Tuple elts kk tp => exact sw_zip C.B (glB_of C h1) (C.free _ h2) (chk_ok a C h4) h3 (chk_ok b C h5) h3'
      | _ => cases h3''
    · cases h
  | .items _, X, G, W, g, xn, T, sc, N, hs, tg, e, C, h => by
    rw [chkIt.eq_def] at h; dsimp only at h
    cases h
  | .vals _, X, G, W, g, xn, T, sc, N, hs, tg, e, C, h => by
    rw [chkIt.eq_def] at h; dsimp only at h
    cases h
end
end IP

/-! IpX -/
set_option Elab.async false
set_option linter.all false
set_option maxRecDepth 100000
set_option maxHeartbeats 8000000
/-! IpX: the check is sound: statements. -/
namespace IP
open PySem L2 PyProof.Rows
/-- in a def's body (or a suite of it) -/
structure TopC (X : Cx) : Prop where
  hs : X.stack = X.env :: X.outer
  hf : X.env.frame = some X.env.locals
  po : PassesOwn (model X.prog X.w) X.A X.env X.xe
  fn : ∀ x, X.fn x = true
  bk : X.env.blockKind = .function
theorem TopC.tr {X : Cx} (t : TopC X) {pn : List (Addr × Obj)} {xe : Value → Shared → Prop} (po : PassesOwn (model X.prog X.w) X.A X.env xe) : TopC (X.tr pn xe) := ⟨t.hs, t.hf, po, t.fn, t.bk⟩
theorem TopC.suite {X : Cx} (t : TopC X) {a : Addr} {pn : List (Addr × Obj)} : TopC (X.suite a pn) := ⟨t.hs, t.hf, .never, t.fn, t.bk⟩
section
variable {X : Cx} {G : GC} {W : WX} {g : Gl} {xn : String → Option (List String)} {T : Tb} {sc : Scope} {N : List Str} {hs : Option Nat}
theorem Cxt.tr (C : Cxt X G W g xn T sc N none) {W' : WX} {pn : List (Addr × Obj)} {xe : Value → Shared → Prop} (tk : Takes (X.tr pn xe) W') : Cxt (X.tr pn xe) G W' g xn T sc N none where
  B := ⟨C.B.hK, C.B.hm, tk, C.B.units, C.B.calm, C.B.nd, C.B.slc⟩
  no := C.no
  Fa := C.Fa
  Fx := C.Fx
  hsc := C.hsc
  hN := C.hN
  hsl := C.hsl
  free := C.free
  cls := C.cls
  att := C.att
  cal := fun h => ⟨(C.cal h).fns, (C.cal h).pats, (C.cal h).mts, (C.cal h).mks, (C.cal h).exs, (C.cal h).room2⟩
  hnd := C.hnd
  gints := C.gints
  gstrs := C.gstrs
  exf := fun e => by cases e
theorem Cxt.suite (C : Cxt X G W g xn T sc N none) {a : Addr} {oe : Obj} {cls : Value} {dd : Option Addr} {pn : List (Addr × Obj)} {x : Exc} {o : Option Nat} (hX : XOf G xn x cls) (hz : Zc cls dd oe) (hf : ∃ vs, oe.data = .fields vs) : Cxt (X.suite a ((a, oe) :: pn)) (G.at_ (slOf o a x dd)) WF (g.hot x) xn T sc N o where
  B := ⟨C.B.hK, C.B.hm, takes_none5, C.B.units, fun h => (nomatch h), C.B.nd, fun h => (nomatch h)⟩
  no := C.no
  Fa := ⟨C.Fa.cls, C.Fa.ha, C.Fa.hn, C.Fa.htk, C.Fa.hm, C.Fa.kit1, C.Fa.kit2, C.Fa.kit3⟩
  Fx := ⟨C.Fx.xf, C.Fx.no⟩
  hsc := C.hsc
  hN := C.hN
  hsl := fun s e => by
    cases o with
    | none => cases e
    | some i =>
      have e' : (⟨i, a, x, dd⟩ : Sl) = s := Option.some.inj e
      rw [← e']
  free := C.free
  cls := C.cls
  att := fun f h c CC e => C.att f h c CC e
  cal := fun h => (nomatch h)
  hnd := C.hnd
  gints := C.gints
  gstrs := C.gstrs
  exf := fun {i f n p pos} e hN hl h1 h2 => by
    subst e
    exact se_exf C.B.hK C.Fx hN hl h1 h2 hX hz hf
theorem swF {e : Expr} {t : Option Expr} {l : Nat} {env : Env} (h : notComp e = true) : swapsWith e t l env = pure false := by
  cases e <;> first | rfl | cases h
theorem swF_at {e o : Expr} {f : Str} {p : Pos} {l : Nat} {env : Env} : swapsWith e (some (.Attribute o f p)) l env = pure false := by
  cases e <;> rfl
theorem swF_sub {e o i : Expr} {p : Pos} {l : Nat} {env : Env} : swapsWith e (some (.Subscript o i p)) l env = pure false := by
  cases e <;> rfl
theorem swF_tup {e : Expr} {es : List Expr} {k : Nat} {p : Pos} {l : Nat} {env : Env} : swapsWith e (some (.Tuple es k p)) l env = pure false := by
  cases e <;> rfl
theorem ssN_sub {e o i : Expr} {p : Pos} {env : Env} : swappedStores [.Subscript o i p] e env = pure none := by
  cases e <;> rfl
theorem ssN_tup {e : Expr} {es : List Expr} {k : Nat} {p : Pos} {env : Env} (h : isTup e = false) : swappedStores [.Tuple es k p] e env = pure none := by
  cases e <;> first | rfl | cases h
theorem ssS {x y : Str} {px py pt pt2 : Pos} {kt k2 : Nat} {ea eb : Expr} {env : Env} (hb : env.blockKind = .function) (hx : env.scope.names.lookup x = some .local) (hy : env.scope.names.lookup y = some .local) (hl : (px.line == py.line) = true) (hne : ¬ x = y) (ha : notStar ea = true) (hb2 : notStar eb = true)
    (hf : (foldedForSure 8 ea && foldedForSure 8 eb) = false) (hc : (constantsAlone 8 ea && constantsAlone 8 eb) = false) : swappedStores [.Tuple [.Name x px, .Name y py] kt pt] (.Tuple [ea, eb] k2 pt2) env = pure (some [x, y]) := by
  have kx : env.kindOf x = some .local := hx
  have ky : env.kindOf y = some .local := hy
  have hl' : px.line = py.line := eq_of_beq hl
  have hyx : (y == x) = false := by
    have : ¬ y = x := fun z => hne z.symm
    simpa using this
  unfold swappedStores
  dsimp only
  simp only [List.length_cons, List.length_nil, hb, List.any_cons, List.any_nil, List.head?_cons, Option.map_some, Option.getD_some, Expr.pos, List.filterMap_cons, List.filterMap_nil, kx, ky, hl', beq_self_eq_true, Bool.and_self, if_true, Bool.or_false, List.all_cons, List.all_nil, Bool.and_true, hf, hc]
  refine (if_neg (by decide)).trans ((if_neg ?_).trans ((if_neg ?_).trans ((if_neg Bool.false_ne_true).trans (if_neg Bool.false_ne_true))))
  · clear hf hc
    rw [Bool.or_eq_true]
    intro z
    rcases z with z | z
    · cases ea <;> first | exact absurd ha Bool.false_ne_true | cases z
    · cases eb <;> first | exact absurd hb2 Bool.false_ne_true | cases z
  · have e1 : [x, y].eraseDups = [x, y] := by
      simp [List.eraseDups_cons, hyx]
    rw [e1]
    show ¬ ((0 + 1 + 1 != 0 + 1 + 1 || 0 + 1 + 1 != 0 + 1 + 1) = true)
    decide
end
end IP

/-! IpY -/
set_option Elab.async false
set_option linter.all false
set_option maxRecDepth 100000
set_option maxHeartbeats 8000000
/-! IpY: the check is sound: statements, all of them. -/
namespace IP
open PySem L2 PyProof.Rows
theorem sw_one {elt : Expr} {gs : List Comprehension} {scope : Scope} {pos py : Pos} {y : Str} {l : Nat} {env : Env} (hb : env.blockKind = .function) (hy : env.scope.names.lookup y = some .local) (hl : (py.line == pos.line) = true)
    (ha : (scope.names.any fun (n, k) => n == y && (k == .local || k == .cell)) = false) : swapsWith (.ListComp elt gs scope pos) (some (.Name y py)) l env = pure true := by
  have ky : env.kindOf y = some .local := hy
  unfold swapsWith
  simp only [hb, ky, ha, Expr.pos, hl]
  rfl
theorem swS_sub {e o i : Expr} {p : Pos} {l : Nat} {env : Env} : swapsWithSole [.Subscript o i p] e l env = pure false := by
  unfold swapsWithSole
  exact swF_sub
theorem swS_tup {e : Expr} {es : List Expr} {k : Nat} {p : Pos} {l : Nat} {env : Env} : swapsWithSole [.Tuple es k p] e l env = pure false := by
  unfold swapsWithSole
  exact swF_tup
theorem subS {o i : Expr} {p : Pos} {env : Env} (h : notSlice i = true) (v : Value) : assign (.Subscript o i p) env v = (do
      let ov ← holding [v] (eval o env)
      let iv ← holding [v, ov] (eval i env)
      standAt p
      holding [v, ov, iv] (setItem ov iv v)
      release [v, ov, iv] []) := by
  cases i <;> first | rfl | cases h
section
variable {X : Cx} {G : GC} {W : WX} {g : Gl} {xn : String → Option (List String)} {T : Tb} {sc : Scope} {N : List Str} {hs : Option Nat}
/-- x = [.. for .. in ..] -/
theorem set_comp (C : Cxt X G W g xn T sc N hs) (t : TopC X) {i : Nat} {x : Str} {p : Pos} {a : E} {elt : Expr} {gs : List Comprehension} {scope : Scope} {cp pos : Pos} (hi : N[i]? = some x) (hx : lclB sc x = true) (hne : hs ≠ some i)
    (hl : (p.line == cp.line) = true) (hany : (scope.names.any fun (n, k) => n == x && (k == .local || k == .cell)) = false) (h : chk T sc N hs false a (.ListComp elt gs scope cp) = true) :
    SS X G W g xn (.Assign [.Name x p] (.ListComp elt gs scope cp) pos) (.set i a) := by
  have hsl : ∀ s, G.sl = some s → s.i ≠ i := fun s e z => hne (by rw [C.hsl s e, z])
  have hyl : X.env.scope.names.lookup x = some .local := by rw [C.hsc]; exact lclB_of hx
  have hsw := sw_one (elt := elt) (gs := gs) (l := pos.line) t.bk hyl hl hany
  by_cases hcur : g.cur.isNone = true
  rotate_left
  · refine ⟨fun pins s σ H D I hq => ?_⟩
    obtain ⟨F, rho, m, e, r, re, hp⟩ := hq
    rw [evS] at hp
    have : ev g a e m = .no := by
      cases a with
      | comp mu elt tg it cnd own => rw [ev, if_neg hcur]
      | comp2 mu elt tg it tg2 it2 cnd own => rw [ev, if_neg hcur]
      | con d => exfalso; revert h; rw [chk.eq_def]; cases d <;> simp [conB]
      | _ => exfalso; revert h; rw [chk.eq_def]; simp
    rw [this] at hp
    exact hp.elim
  have hcalm : X.calm = true := C.B.calm (by simpa using hcur)
  cases a with
  | comp mu elt tg it cnd own =>
    rw [chk.eq_def] at h; dsimp only at h
    split at h
    · rename_i heq
      cases heq
      simp only [Bool.and_eq_true, decide_eq_true_eq] at h
      obtain ⟨⟨h1, h2, h3, h4, h5⟩, h6, h7, h8⟩ := h
      have ok : BlkOk X.N X.env.scope scope (ownL N own) := blkOk_by (by rw [C.hN, C.hsc]; exact h2)
      have pe := ps_setLc (X := X) (scope := scope) (pos := cp) (spos := pos) (g := gOf X.K tg) hcalm C.B.nd (C.hN ▸ hi) hyl hsw (chkIt_ok it C h1) ok
        (fun s H CA cl fp => tgB_of (X := X.blk s H scope (compEnvC scope cl CA X.env) fp) (C.blk hcur).hsc C.hN C.B.nd hcalm (fun x h1 h2 => by
          show (scope.names.lookup x == some NameKind.cell) = true
          rw [celB_of h2]
          rfl) h6)
        (fun s H CA cl fp => chkO_ok cnd (C.blk hcur) h7) (fun s H CA cl fp => chk_ok elt (C.blk hcur) h8) (notSet_fold h5)
      rw [h3] at pe
      exact pe.imp fun D σ H hq => set_lc hsl (fun hq => comp_ok C.B.hK C.B.slc (fun i hi => by simpa using List.all_eq_true.mp h4 i hi) hq) hq
    · cases h
  | comp2 mu elt tg it tg2 it2 cnd own =>
    rw [chk.eq_def] at h; dsimp only at h
    split at h
    · rename_i heq
      cases heq
      simp only [Bool.and_eq_true, decide_eq_true_eq] at h
      obtain ⟨⟨h1, h2, h3, h4, h4', h5, h5'⟩, h6, h6', h7', h7, h8⟩ := h
      have ok : BlkOk X.N X.env.scope scope (ownL N own) := blkOk_by (by rw [C.hN, C.hsc]; exact h2)
      have hfb : ∀ (s : Shared) (H : Hp) (CA : Addr) (cl : List (Str × Addr)) (fp : List Addr) (x : Str), (relS scope sc).names.lookup x = some .cell → celB scope x = true → (X.blk s H scope (compEnvC scope cl CA X.env) fp).fn x = true := fun s H CA cl fp x h1 h2 => by
        show (scope.names.lookup x == some NameKind.cell) = true
        rw [celB_of h2]
        rfl
      have pe := ps_setLc2 (X := X) (scope := scope) (pos := cp) (spos := pos) (vs1 := tgL tg2) (g := gOf X.K tg) (g1 := gOf X.K tg2) hcalm C.B.nd (C.hN ▸ hi) hyl hsw (chkIt_ok it C h1) ok (fun i hi => by rw [h3]; simpa using List.all_eq_true.mp h4' i hi)
        (fun s H CA cl fp => tgB_of (X := X.blk s H scope (compEnvC scope cl CA X.env) fp) (C.blk hcur).hsc C.hN C.B.nd hcalm (hfb s H CA cl fp) h6) (fun s H CA cl fp => pts_nil)
        (fun s H CA cl fp => chkIt_ok it2 (C.blk hcur) h7') (fun s H CA cl fp => tgB_of (X := X.blk s H scope (compEnvC scope cl CA X.env) fp) (C.blk hcur).hsc C.hN C.B.nd hcalm (hfb s H CA cl fp) h6')
        (fun s H CA cl fp => chkO_ok cnd (C.blk hcur) h7) (fun s H CA cl fp => chk_ok elt (C.blk hcur) h8) (notSet_fold h5) (fun env => notSet_fold h5')
      rw [h3] at pe
      exact pe.imp fun D σ H hq => set_lc hsl (fun hq => comp2_ok C.B.hK C.B.slc (fun i hi => by simpa using List.all_eq_true.mp h4 i hi) hq) hq
    · cases h
  | con d => exfalso; revert h; rw [chk.eq_def]; cases d <;> simp [conB]
  | _ => exfalso; revert h; rw [chk.eq_def]; simp
end
mutual
theorem chkS_ok : ∀ (a : S) {X : Cx} {G : GC} {W : WX} {g : Gl} {xn : String → Option (List String)} {T : Tb} {sc : Scope} {N : List Str} {hs : Option Nat} {st : Stmt}, Cxt X G W g xn T sc N hs → TopC X → chkS T sc N hs a st = true → SS X G W g xn st a
  | .expr a, X, G, W, g, xn, T, sc, N, hs, st, C, t, h => by
    rw [chkS.eq_def] at h; dsimp only at h
    split at h
    · simp only [Bool.and_eq_true] at h
      exact ss_expr (chk_ok a C h.2) (swF h.1)
    · cases h
  | .set i a, X, G, W, g, xn, T, sc, N, hs, st, C, t, h => by
    rw [chkS.eq_def] at h; dsimp only at h
    split at h
    · rename_i x p e pos
      simp only [Bool.and_eq_true, Bool.or_eq_true, decide_eq_true_eq, Bool.not_eq_true', decide_eq_false_iff_not] at h
      obtain ⟨⟨h1, h2, h3⟩, h4, h5⟩ := h
      have hsl : ∀ s, G.sl = some s → s.i ≠ i := fun s e z => h3 (by rw [C.hsl s e, z])
      rcases h4 with h4 | ⟨h4, h6, h7⟩
      · refine ss_set hsl C.B.nd (C.hN ▸ h1) ?_ (.inl (t.fn x)) (chk_ok a C h5) (swF h4)
        rw [C.hsc]
        rcases h2 with h2 | h2
        · exact .inl (lclB_of h2)
        · exact .inr (celB_of h2)
      · split at h7
        · rename_i elt gs scope cp
          rw [Bool.not_eq_true'] at h7
          exact set_comp C t h1 h4 h3 h6 h7 h5
        · cases h7
    · cases h
  | .unp is a, X, G, W, g, xn, T, sc, N, hs, st, C, t, h => by
    rw [chkS.eq_def] at h; dsimp only at h
    split at h
    · rename_i es k p e pos
      simp only [Bool.and_eq_true, Bool.not_eq_true'] at h
      obtain ⟨h1, h2, h3⟩ := h
      by_cases hcur : g.cur.isNone = true
      rotate_left
      · refine ⟨fun pins s σ H D I hq => ?_⟩
        obtain ⟨F, rho, m, e, r, re, hp⟩ := hq
        rw [evS, if_neg hcur] at hp
        exact hp.elim
      have hcalm : X.calm = true := C.B.calm (by simpa using hcur)
      obtain ⟨w1, w2, w3⟩ := tgNs_of C.hsc C.hN C.B.nd (fun x _ _ => t.fn x) h2
      exact ss_unp C.B.hK C.B.slc (pg_tup hcalm w1 w2 w3) (chk_ok a C h3) swS_tup (ssN_tup h1) rfl
    · cases h
  | .par i j a b, X, G, W, g, xn, T, sc, N, hs, st, C, t, h => by
    rw [chkS.eq_def] at h; dsimp only at h
    split at h
    · unfold swapB at h
      simp only [Bool.and_eq_true, decide_eq_true_eq, Bool.not_eq_true', decide_eq_false_iff_not] at h
      obtain ⟨⟨h1, h2, h3, ⟨h4, h5⟩, ⟨h6, h7⟩, ⟨h8, h9⟩, h10, h11⟩, h12, h13⟩ := h
      by_cases hcur : g.cur.isNone = true
      rotate_left
      · refine ⟨fun pins s σ H D I hq => ?_⟩
        obtain ⟨F, rho, m, e, r, re, hp⟩ := hq
        rw [evS, if_neg hcur] at hp
        exact hp.elim
      have hcalm : X.calm = true := C.B.calm (by simpa using hcur)
      have hx := lclB_of h4
      have hy := lclB_of h5
      rw [← C.hsc] at hx hy
      exact ss_par C.B.slc hcalm C.B.nd (C.hN ▸ h1) (C.hN ▸ h2) h3 hx hy (chk_ok a C h12) (chk_ok b C h13) h8 h9 (ssS t.bk hx hy h6 h7 h8 h9 h10 h11) swS_tup
    · cases h
  | .fld o f a, X, G, W, g, xn, T, sc, N, hs, st, C, t, h => by
    rw [chkS.eq_def] at h; dsimp only at h
    split at h
    · simp only [Bool.and_eq_true, decide_eq_true_eq, List.contains_iff_mem] at h
      obtain ⟨⟨rfl, h1⟩, h2, h3⟩ := h
      exact ss_fld C.B.hK (C.att f h1) (chk_ok o C h2) (chk_ok a C h3) swF_at
    · cases h
  | .sub o i a, X, G, W, g, xn, T, sc, N, hs, st, C, t, h => by
    rw [chkS.eq_def] at h; dsimp only at h
    split at h
    · simp only [Bool.and_eq_true] at h
      obtain ⟨h1, h2, h3, h4⟩ := h
      exact ss_sub (chk_ok o C h2) (chk_ok i C h3) (chk_ok a C h4) (subS h1) swS_sub ssN_sub rfl
    · cases h
  | .app o a, X, G, W, g, xn, T, sc, N, hs, st, C, t, h => by
    rw [chkS.eq_def] at h; dsimp only at h
    split at h
    · simp only [Bool.and_eq_true, decide_eq_true_eq] at h
      obtain ⟨⟨rfl, h1, h2, h3⟩, h4, h5⟩ := h
      exact ss_app (chk_ok o C h4) (chk_ok a C h5) h1 (base_of h2) h3
    · cases h
  | .ifs c tt u, X, G, W, g, xn, T, sc, N, hs, st, C, t, h => by
    rw [chkS.eq_def] at h; dsimp only at h
    split at h
    · simp only [Bool.and_eq_true] at h
      obtain ⟨h1, h2, h3⟩ := h
      exact ss_if (chk_ok c C h1) (chkSs_ok tt C t h2) (chkSs_ok u C t h3)
    · cases h
  | .for_ tg it b, X, G, W, g, xn, T, sc, N, hs, st, C, t, h => by
    rw [chkS.eq_def] at h; dsimp only at h
    split at h
    · simp only [Bool.and_eq_true] at h
      obtain ⟨⟨h1, h2⟩, h3, h4⟩ := h
      by_cases hcur : g.cur.isNone = true
      rotate_left
      · refine ⟨fun pins s σ H D I hq => ?_⟩
        obtain ⟨F, rho, m, e, r, re, hp⟩ := hq
        rw [evS, if_neg hcur] at hp
        exact hp.elim
      have hcalm : X.calm = true := C.B.calm (by simpa using hcur)
      exact ss_for C.B t.po (tgB_of C.hsc C.hN C.B.nd hcalm (fun x _ _ => t.fn x) h1) (chkIt_ok it C h3) (chkSs_ok b C t h4) (notSet_fold h2)
    · cases h
  | .wh c b, X, G, W, g, xn, T, sc, N, hs, st, C, t, h => by
    rw [chkS.eq_def] at h; dsimp only at h
    split at h
    · simp only [Bool.and_eq_true] at h
      exact ss_while t.po (chk_ok c C h.1) (chkSs_ok b C t h.2)
    · cases h
  | .ret a, X, G, W, g, xn, T, sc, N, hs, st, C, t, h => by
    rw [chkS.eq_def] at h; dsimp only at h
    split at h
    · exact ss_ret (chk_ok a C h)
    · cases h
  | .ret0, X, G, W, g, xn, T, sc, N, hs, st, C, t, h => by
    rw [chkS.eq_def] at h; dsimp only at h
    split at h
    · exact ss_ret0
    · cases h
  | .rais c es, X, G, W, g, xn, T, sc, N, hs, st, C, t, h => by
    rw [chkS.eq_def] at h; dsimp only at h
    split at h
    · rename_i x p args cpos pos
      simp only [Bool.and_eq_true, decide_eq_true_eq] at h
      obtain ⟨⟨rfl, h1, h2, h3, h4⟩, h5⟩ := h
      by_cases hcur : g.cur.isNone = true
      rotate_left
      · refine ⟨fun pins s σ H D I hq => ?_⟩
        obtain ⟨F, rho, m, e, r, re, hp⟩ := hq
        rw [evS, if_neg hcur] at hp
        exact hp.elim
      obtain ⟨q, w1, w2⟩ := List.any_eq_true.mp h3
      obtain ⟨e1, CC, e2, e3, e4, e5⟩ := (C.cal hcur).exs q w1
      have w2 := eq_of_beq w2
      rw [w2] at e1 e2 e3
      have M := ExR.mk e5 (C.cal hcur).room2
      have qa := chkEs_ok es C h5
      cases args with
      | nil =>
        cases es with
        | nil => exact ss_raise0 C.B M e2 e1 e4 (glB_of C h1) e3 (okN_of h2).1
        | one _ _ => rw [chkEs.eq_def] at h5; cases h5
        | star _ _ => rw [chkEs.eq_def] at h5; cases h5
      | cons a1 args =>
        unfold noStars at h4
        rw [List.all_cons, Bool.and_eq_true] at h4
        exact ss_raise C.B M e2 e1 e4 (glB_of C h1) e3 (okN_of h2).1 qa h4.1 (noStars_of h4.2)
    · cases h
  | .try_ b hl, X, G, W, g, xn, T, sc, N, hs, st, C, t, h => by
    rw [chkS.eq_def] at h; dsimp only at h
    split at h
    · simp only [Bool.and_eq_true] at h
      obtain ⟨h1, h2, h3⟩ := h
      cases hs with
      | some i => cases h1
      | none =>
        obtain ⟨l, q1, q2⟩ := chkH_ok hl C t h3
        exact ss_try C.B.slc t.hs t.hf C.B.nd C.B.tk (fun W' pn xe tk po => chkSs_ok b (C.tr tk) (t.tr po) h2) q1 q2
    · cases h
  | .pass, X, G, W, g, xn, T, sc, N, hs, st, C, t, h => by
    rw [chkS.eq_def] at h; dsimp only at h
    split at h
    · exact ss_pass
    · cases h
  | .brk, X, G, W, g, xn, T, sc, N, hs, st, C, t, h => by
    rw [chkS.eq_def] at h; dsimp only at h
    split at h
    · exact ss_brk
    · cases h
  | .cnt, X, G, W, g, xn, T, sc, N, hs, st, C, t, h => by
    rw [chkS.eq_def] at h; dsimp only at h
    split at h
    · exact ss_cnt
    · cases h
theorem chkSs_ok : ∀ (as : Ss) {X : Cx} {G : GC} {W : WX} {g : Gl} {xn : String → Option (List String)} {T : Tb} {sc : Scope} {N : List Str} {hs : Option Nat} {ss : List Stmt}, Cxt X G W g xn T sc N hs → TopC X → chkSs T sc N hs as ss = true → SSs X G W g xn ss as
  | .nil, X, G, W, g, xn, T, sc, N, hs, ss, C, t, h => by
    rw [chkSs.eq_def] at h; dsimp only at h
    have e := List.isEmpty_iff.mp h
    subst e
    exact sss_nil
  | .cons a r, X, G, W, g, xn, T, sc, N, hs, ss, C, t, h => by
    rw [chkSs.eq_def] at h; dsimp only at h
    split at h
    · simp only [Bool.and_eq_true] at h
      exact sss_cons (chkS_ok a C t h.1) (chkSs_ok r C t h.2)
    · cases h
theorem chkH_ok : ∀ (hl : Hs) {X : Cx} {G : GC} {W : WX} {g : Gl} {xn : String → Option (List String)} {T : Tb} {sc : Scope} {N : List Str} {hds : List ExceptHandler}, Cxt X G W g xn T sc N none → TopC X → chkH T sc N hl hds = true → ∃ l, HR X G g xn hds hl l ∧ HdsM X hds l
  | .nil, X, G, W, g, xn, T, sc, N, hds, C, t, h => by
    rw [chkH.eq_def] at h; dsimp only at h
    have e := List.isEmpty_iff.mp h
    subst e
    exact ⟨[], .nil, .nil⟩
  | .cons c o b r, X, G, W, g, xn, T, sc, N, hds, C, t, h => by
    rw [chkH.eq_def] at h; dsimp only at h
    split at h
    · rename_i x p n b0 suite pos rest
      simp only [Bool.and_eq_true, decide_eq_true_eq, List.contains_iff_mem] at h
      obtain ⟨⟨rfl, h1, h2, h3⟩, h4, h5, h6⟩ := h
      obtain ⟨CC, e1, e2⟩ := C.hnd c h3
      obtain ⟨l, q1, q2⟩ := chkH_ok r C t h6
      have nm : Names X (Str.ofString c) (.ref CC) := ⟨glB_of C h1, (okN_of h2).1, .inl e1⟩
      have su : ∀ (a : Addr) (oe : Obj) (cls : Value) (d : Option Addr) (pn : List (Addr × Obj)), Zc cls d oe → (∃ vs, oe.data = .fields vs) → PSs (X.suite a ((a, oe) :: pn)) (b0 :: suite) (tsOf G g xn o b a cls d) := fun a oe cls d pn hz hf =>
        ⟨fun pins s σ H D I hq => by
          obtain ⟨x, hX, ht⟩ := hq
          exact (chkSs_ok b (C.suite hX hz hf) t.suite h5).run pins s σ H D I ht⟩
      refine ⟨(.ref CC, o, tsOf G g xn o b) :: l, .cons e2 q1, ?_⟩
      cases o with
      | none =>
        cases n with
        | none => exact .bare nm su q2
        | some n => cases h4
      | some i =>
        cases n with
        | none => cases h4
        | some n =>
          simp only [Bool.and_eq_true, decide_eq_true_eq] at h4
          exact .as_ nm (C.hN ▸ h4.1) (by show X.env.scope.names.lookup n = _; rw [C.hsc]; exact lclB_of h4.2) su q2
    · cases h
end
end IP

/-! IqA -/
set_option Elab.async false
set_option linter.all false
set_option maxRecDepth 100000
set_option maxHeartbeats 4000000
/-! IqA: what the text's written part says, by one Bool; the Hook. -/
namespace IP
open PySem L2 PyProof.Rows
abbrev gaS (K : PySem.W.Frag) (x : String) : Addr := He.ga K (Str.ofString x)
abbrev maS (K : PySem.W.Frag) (c m : String) : Addr := He.ma K (gaS K c) (Str.ofString m)
def xnT (T : Tb) (c : String) : Option (List String) := T.exs.lookup c
/-- where the classes stand -/
def gcK (T : Tb) (K : PySem.W.Frag) (mg : Str → Option Value) : GC := ⟨K, mg, fun c => if T.cls.contains c then some (gaS K c) else none, fun c => if (T.exs.map (·.1)).contains c then some (gaS K c) else none, none⟩
def eqv (a b : Option (Option Value)) : Bool := He.eqO a b
def oexB (K : PySem.W.Frag) (C : Addr) : Bool := (match K.lookup C with
  | some ⟨.type t, _, .cls cd, sl⟩ => (match cd.mro, sl.toList with
    | .ref C' :: bm, [_, _, _, _, some (.builtin n), _] => t == "type" && (C' == C && (n == "ValueError.__new__" && (!cd.hasDel && (cd.hasDict && PySem.HandSPX.refsVE bm))))
    | _, _ => false)
  | _ => false) && (He.eqO (PySem.W.findIn K (.ref C) "__setattr__") (some (some (.builtin "object.__setattr__"))) &&
    (decide (PySem.W.subIn K (.ref C) (.type "BaseException") = some true) && (decide (PySem.W.typeIn K (.ref C) = some (.type "type")) && PySem.W.keepIn K (.ref C))))
theorem oexB_ok {K : PySem.W.Frag} {C : Addr} (h : oexB K C = true) : OexC K C := by
  unfold oexB at h
  simp only [Bool.and_eq_true, decide_eq_true_eq] at h
  obtain ⟨h0, h1, h2, h3, h4⟩ := h
  refine ⟨?_, He.eqO_ok h1, h2, h3, h4⟩
  split at h0
  · rename_i t dd cd sl ho
    split at h0
    · rename_i C' bm k0 k1 k2 k3 n k5 hm hs
      simp only [Bool.and_eq_true, beq_iff_eq, Bool.not_eq_true'] at h0
      obtain ⟨rfl, rfl, rfl, hdel, hd, hv⟩ := h0
      obtain ⟨nm, bs, mro, ns, qn, hdd, sn, sub, ab, col, del⟩ := cd
      dsimp only at hm hdel hd
      subst hm hdel hd
      have hsl : sl = #[k0, k1, k2, k3, some (.builtin "ValueError.__new__"), k5] := by
        obtain ⟨l⟩ := sl
        simp only at hs
        rw [hs]
      subst hsl
      exact ⟨nm, qn, ns, bs, bm, sn, sub, ab, col, dd, k0, k1, k2, k3, k5, ho, hv⟩
    · cases h0
  · cases h0
/-- an own class's facts -/
def clsK (T : Tb) (K : PySem.W.Frag) (c : String) : Bool :=
  (He.Fa.glo (Str.ofString c)).ok K && ((He.Fa.cls (Str.ofString c)).ok K && (He.eqO (PySem.W.findIn K (.ref (gaS K c)) "__class__") (some (some (.builtin "object.__class__"))) &&
  (decide (PySem.W.mroIn K (gaS K c) (.type "object") = some true) && ((tagL.all fun a => decide (PySem.W.kitOne K (.type a) (.ref (gaS K c)) = some false)) && ((btyL.all fun b => decide (PySem.W.kitOne K (.ref (gaS K c)) (.type b) = some false)) &&
  ((T.cls.all fun c' => decide (PySem.W.kitOne K (.ref (gaS K c')) (.ref (gaS K c)) = some (c == c'))) && (T.flds.all fun f => (He.Fa.noat (Str.ofString c) (Str.ofString f)).ok K)))))))
/-- an exception class's facts -/
def exsK (T : Tb) (K : PySem.W.Frag) (p : String × List String) : Bool :=
  (He.Fa.glo (Str.ofString p.1)).ok K && (xfB K (gaS K p.1) && ((p.2.all fun f => He.eqO (PySem.W.findIn K (.ref (gaS K p.1)) (Str.ofString f)) (some none)) && (oexB K (gaS K p.1) &&
  (He.eqO (PySem.W.findIn K (.ref (gaS K p.1)) "__init__") (some (some (.ref (maS K p.1 "__init__")))) && (decide (PySem.W.typeIn K (.ref (maS K p.1 "__init__")) = some (.type "function")) &&
  (T.hnd.all fun c => decide (PySem.W.exmOne K (.ref (gaS K p.1)) (.ref (gaS K c)) = some (isX p.1 c))))))))
/-- DrawError's -/
def rootK (K : PySem.W.Frag) (d : String) : Bool := (He.Fa.glo (Str.ofString d)).ok K && (PySem.W.readsIn K (gaS K d) (.type "type") && (He.eqO (PySem.W.specialIn K (.ref (gaS K d)) "__getattribute__") (some (some (.builtin "type.__getattribute__"))) &&
  (match PySem.W.findCls K (.ref (gaS K d)) (.type "type") "__init__" with
    | some (.val (.builtin n)) => n == "ValueError.__init__"
    | _ => false)))
def okK (T : Tb) (root : Option String) (K : PySem.W.Frag) : Bool :=
  (T.free.all fun x => (He.Fa.free (Str.ofString x)).ok K) && ((T.cls.all fun c => clsK T K c) && ((T.exs.all fun p => exsK T K p) && ((T.hnd.all fun c => (He.Fa.glo (Str.ofString c)).ok K) &&
  ((T.gints.all fun p => (He.Fa.int (Str.ofString p.1) p.2).ok K) && ((T.gstrs.all fun p => (He.Fa.str (Str.ofString p.1) (Str.ofString p.2)).ok K) && ((T.fns.all fun f => (He.Fa.glo (Str.ofString f)).ok K) &&
  ((T.pats.all fun p => (He.Fa.glo (Str.ofString p.1)).ok K) && ((T.mts.all fun p => T.cls.contains p.1 && (He.Fa.meth (Str.ofString p.1) (Str.ofString p.2)).ok K) && ((T.mks.all fun c => T.cls.contains c && (He.Fa.mkr (Str.ofString c)).ok K) &&
  ((match root with | some d => rootK K d | none => true) && (He.eqO (PySem.W.specialIn K (.builtin "object.__class__") "__get__") (some (some (.builtin "getset_descriptor.__get__"))) && decide (PySem.W.takesIn K (.builtin "object.__class__") = some true))))))))))))
/-- what is said, in words -/
structure Says (T : Tb) (root : Option String) (K : PySem.W.Frag) : Prop where
  free : ∀ x ∈ T.free, (He.Fa.free (Str.ofString x)).ok K = true
  cls : ∀ c ∈ T.cls, clsK T K c = true
  exs : ∀ p ∈ T.exs, exsK T K p = true
  hnd : ∀ c ∈ T.hnd, (He.Fa.glo (Str.ofString c)).ok K = true
  gints : ∀ p ∈ T.gints, (He.Fa.int (Str.ofString p.1) p.2).ok K = true
  gstrs : ∀ p ∈ T.gstrs, (He.Fa.str (Str.ofString p.1) (Str.ofString p.2)).ok K = true
  fns : ∀ f ∈ T.fns, (He.Fa.glo (Str.ofString f)).ok K = true
  pats : ∀ p ∈ T.pats, (He.Fa.glo (Str.ofString p.1)).ok K = true
  mts : ∀ p ∈ T.mts, T.cls.contains p.1 = true ∧ (He.Fa.meth (Str.ofString p.1) (Str.ofString p.2)).ok K = true
  mks : ∀ c ∈ T.mks, T.cls.contains c = true ∧ (He.Fa.mkr (Str.ofString c)).ok K = true
  root : ∀ d, root = some d → rootK K d = true
  hn : PySem.W.specialIn K (.builtin "object.__class__") "__get__" = some (some (.builtin "getset_descriptor.__get__"))
  htk : PySem.W.takesIn K (.builtin "object.__class__") = some true
theorem okK_ok {T : Tb} {root : Option String} {K : PySem.W.Frag} (h : okK T root K = true) : Says T root K := by
  unfold okK at h
  simp only [Bool.and_eq_true, List.all_eq_true, decide_eq_true_eq] at h
  obtain ⟨h1, h2, h3, h4, h5, h6, h7, h8, h9, h10, h11, h12, h13⟩ := h
  exact ⟨h1, h2, h3, h4, h5, h6, h7, h8, h9, h10, fun d e => by subst e; exact h11, He.eqO_ok h12, h13⟩
section
variable {T : Tb} {root : Option String} {K : PySem.W.Frag} {h : Heap} {mg : Str → Option Value}
theorem own_some {c : String} {C : Addr} (e : (gcK T K mg).own c = some C) : c ∈ T.cls ∧ C = gaS K c := by
  have e : (if T.cls.contains c then some (gaS K c) else none) = some C := e
  split at e
  · rename_i hc
    exact ⟨by simpa using hc, (Option.some.inj e).symm⟩
  · cases e
theorem own_of {c : String} (hc : c ∈ T.cls) : (gcK T K mg).own c = some (gaS K c) := if_pos (by simpa using hc)
theorem exa_some {c : String} {C : Addr} (e : (gcK T K mg).exa c = some C) : ∃ p ∈ T.exs, p.1 = c ∧ C = gaS K c := by
  have e : (if (T.exs.map (·.1)).contains c then some (gaS K c) else none) = some C := e
  split at e
  · rename_i hc
    have hc : c ∈ T.exs.map (·.1) := by simpa using hc
    obtain ⟨p, h1, h2⟩ := List.mem_map.mp hc
    exact ⟨p, h1, h2, (Option.some.inj e).symm⟩
  · cases e
theorem exa_of {p : String × List String} (hp : p ∈ T.exs) : (gcK T K mg).exa p.1 = some (gaS K p.1) := if_pos (List.contains_iff_mem.mpr (List.mem_map.mpr ⟨p, hp, rfl⟩))
theorem clsK_ok {c : String} (e : clsK T K c = true) : (He.Fa.glo (Str.ofString c)).ok K = true ∧ Cls K (gaS K c) ∧ PySem.W.findIn K (.ref (gaS K c)) "__class__" = some (some (.builtin "object.__class__")) ∧ PySem.W.mroIn K (gaS K c) (.type "object") = some true ∧
    (∀ a ∈ tagL, PySem.W.kitOne K (.type a) (.ref (gaS K c)) = some false) ∧ (∀ b ∈ btyL, PySem.W.kitOne K (.ref (gaS K c)) (.type b) = some false) ∧ (∀ c' ∈ T.cls, PySem.W.kitOne K (.ref (gaS K c')) (.ref (gaS K c)) = some (c == c')) ∧ (∀ f ∈ T.flds, NoAttr K (gaS K c) (Str.ofString f)) := by
  unfold clsK at e
  simp only [Bool.and_eq_true, List.all_eq_true, decide_eq_true_eq] at e
  obtain ⟨h1, h2, h3, h4, h5, h6, h7, h8⟩ := e
  exact ⟨h1, He.cls_ok h2, He.eqO_ok h3, h4, h5, h6, h7, fun f hf => He.noat_ok (h8 f hf)⟩
theorem Says.facts (s : Says T root K) : Facts (gcK T K mg) where
  cls := fun e => by obtain ⟨h1, rfl⟩ := own_some e; exact (clsK_ok (s.cls _ h1)).2.1
  ha := fun e => by obtain ⟨h1, rfl⟩ := own_some e; exact (clsK_ok (s.cls _ h1)).2.2.1
  hn := s.hn
  htk := s.htk
  hm := fun e => by obtain ⟨h1, rfl⟩ := own_some e; exact (clsK_ok (s.cls _ h1)).2.2.2.1
  kit1 := fun e ha => by obtain ⟨h1, rfl⟩ := own_some e; exact (clsK_ok (s.cls _ h1)).2.2.2.2.1 _ ha
  kit2 := fun e ha => by obtain ⟨h1, rfl⟩ := own_some e; exact (clsK_ok (s.cls _ h1)).2.2.2.2.2.1 _ ha
  kit3 := fun e e' => by
    obtain ⟨h1, rfl⟩ := own_some e
    obtain ⟨h2, rfl⟩ := own_some e'
    exact (clsK_ok (s.cls _ h1)).2.2.2.2.2.2.1 _ h2
theorem exsK_ok {p : String × List String} (e : exsK T K p = true) : (He.Fa.glo (Str.ofString p.1)).ok K = true ∧ XfC K (gaS K p.1) ∧ (∀ f ∈ p.2, PySem.W.findIn K (.ref (gaS K p.1)) (Str.ofString f) = some none) ∧ OexC K (gaS K p.1) ∧
    PySem.W.findIn K (.ref (gaS K p.1)) "__init__" = some (some (.ref (maS K p.1 "__init__"))) ∧ PySem.W.typeIn K (.ref (maS K p.1 "__init__")) = some (.type "function") ∧ (∀ c ∈ T.hnd, PySem.W.exmOne K (.ref (gaS K p.1)) (.ref (gaS K c)) = some (isX p.1 c)) := by
  unfold exsK at e
  simp only [Bool.and_eq_true, List.all_eq_true, decide_eq_true_eq] at e
  obtain ⟨h1, h2, h3, h4, h5, h6, h7⟩ := e
  exact ⟨h1, xfB_ok h2, fun f hf => He.eqO_ok (h3 f hf), oexB_ok h4, He.eqO_ok h5, h6, h7⟩
theorem lookup_key {l : List (String × List String)} {c : String} {ns : List String} (h : l.lookup c = some ns) : (c, ns) ∈ l := by
  induction l with
  | nil => cases h
  | cons q l ih =>
    obtain ⟨k, v⟩ := q
    by_cases hk : c = k
    · subst hk
      simp [List.lookup] at h
      rw [h]
      exact List.mem_cons_self
    · have hk' : (c == k) = false := by simpa using hk
      simp only [List.lookup, hk'] at h
      exact List.mem_cons_of_mem _ (ih h)
theorem Says.factsX (s : Says T root K) : FactsX (gcK T K mg) (xnT T) where
  xf := fun e => by
    obtain ⟨p, h1, rfl, rfl⟩ := exa_some e
    exact (exsK_ok (s.exs _ h1)).2.1
  no := fun e hx hf => by
    obtain ⟨p, h1, rfl, rfl⟩ := exa_some e
    exact (exsK_ok (s.exs _ (lookup_key hx))).2.2.1 _ hf
theorem Says.att (s : Says T root K) {f : String} (hf : f ∈ T.flds) : AttF (gcK T K mg) f := fun c C e => by
  obtain ⟨h1, rfl⟩ := own_some e
  have q := clsK_ok (s.cls _ h1)
  exact ⟨q.2.1, q.2.2.2.2.2.2.2 f hf⟩
end

/-! ### the Hook -/
def obsI (T : Tb) (root : Option String) (fn : List He.DefD) (K : PySem.W.Frag) : Bool × He.AlD := (okK T root K, He.obsD [] fn K)
def valI (fn : List He.DefD) : Bool × He.AlD := (true, He.valD fn)
def hookI (n : Nat) (T : Tb) (root : Option String) (fn : List He.DefD) : PySem.W.Hook where
  α := Bool × He.AlD
  obs := fun s => obsI T root fn (He.frG s.heap.get? (cStatics :: He.asD s.heap.get? n))
  val := fun _ => valI fn
  says := fun _ h => ∃ K : PySem.W.Frag, K.In h ∧ obsI T root fn K = valI fn
  of := fun _ _ e => ⟨_, He.frG_in, e⟩
  keeps := fun _ _ _ ⟨K, hK, c⟩ k => ⟨K, PySem.W.Frag.In.keeps hK k, c⟩
def obI (n : Nat) (T : Tb) (root : Option String) (fn : List He.DefD) (g : Addr → Option Obj) : Bool × He.AlD := obsI T root fn (He.frG g (cStatics :: He.asD g n))
theorem obI_eq {n : Nat} {T : Tb} {root : Option String} {fn : List He.DefD} {g : Addr → Option Obj} {s : Shared} (h : ∀ a, g a = s.heap.get? a) : obI n T root fn g = (hookI n T root fn).obs s := by
  have e : g = s.heap.get? := funext h
  rw [e] <;> rfl
theorem obsI_ok {T : Tb} {root : Option String} {fn : List He.DefD} {K : PySem.W.Frag} (h : obsI T root fn K = valI fn) : Says T root K ∧ ∀ d ∈ fn, ∃ fd, FunD K d.name d.qual d.params d.body d.scope (d.dvs K) (d.kws K) (He.fAd K d.at_) fd := by
  have h1 : okK T root K = true := congrArg (fun z : Bool × He.AlD => z.1) h
  have h2 : He.SaysD [] fn K := congrArg (fun z : Bool × He.AlD => z.2) h
  refine ⟨okK_ok h1, fun d hd => ?_⟩
  obtain ⟨i, hi⟩ := List.getElem?_of_mem hd
  exact h2.def_ i hi
end IP

/-! IqB -/
set_option Elab.async false
set_option linter.all false
set_option maxRecDepth 100000
set_option maxHeartbeats 4000000
/-! IqB: the table of defs; levels; every def keeps its promise. -/
namespace IP
open PySem L2 PyProof.Rows
def fnScopeB (N ps : List Str) (sc : Scope) : Bool :=
  (match sc.kind with
    | .function => true
    | _ => false) && (!sc.isCoroutine && (!sc.isGenerator && (decide N.Nodup && (decide (N.take ps.length = ps) && (ps.all (fun x => lclB sc x || celB sc x) && sc.names.all fun y => match y.2 with
    | .free => false
    | _ => true)))))
theorem fnScopeB_ok {N ps : List Str} {sc : Scope} (h : fnScopeB N ps sc = true) : FnScope N ps sc := by
  unfold fnScopeB at h
  simp only [Bool.and_eq_true, List.all_eq_true, decide_eq_true_eq, Bool.not_eq_true', Bool.or_eq_true] at h
  obtain ⟨h1, h2, h3, h4, h5, h6, h7⟩ := h
  refine ⟨?_, h2, h3, h4, h5, fun x hx => ?_, fun y hy z => ?_⟩
  · cases q : sc.kind <;> rw [q] at h1 <;> first | rfl | cases h1
  · rcases h6 x hx with q | q
    · exact .inl (lclB_of q)
    · exact .inr (celB_of q)
  · have := h7 y hy
    rw [z] at this
    cases this
/-- a def of the text: its class ("" for a function), its name, its names (the parameters first), how many parameters, what it does -/
structure Df where
  c : String
  f : String
  N : List Str
  n : Nat
  b : Ss
  d : He.DefD
def Df.ps (x : Df) : List Str := x.N.take x.n
/-- an exception class's __init__ -/
structure Xd where
  c : String
  fld : String
  d : He.DefD
def Df.key (x : Df) : Str × Option Str := if x.c == "" then (Str.ofString x.f, none) else (Str.ofString x.c, some (Str.ofString x.f))
def Df.okB (T : Tb) (x : Df) : Bool := chkSs T x.d.scope x.N none x.b x.d.body && (fnScopeB x.N x.ps x.d.scope && (decide (x.n ≤ x.N.length) && (x.d.dfl.isEmpty && (x.d.kwd.isEmpty && decide (x.d.at_ = x.key)))))
def BindD (d : He.DefD) (ps : List Str) : Prop := ∀ (kV doc pm : Value) (an : Option Addr) (cdv ct : Value) (us : List Value), us.length = ps.length → bindArgs (PySem.W.fnOf d.name d.qual d.params d.body d.scope .none kV doc pm an cdv ct) ⟨us, []⟩ = pure (ps.zip us)
/-- a call with np positional values and keywords named ks -/
def PatD (d : He.DefD) (ps : List Str) (np : Nat) (ks : List Str) (ar : List Nat) : Prop := ∀ (kV doc pm : Value) (an : Option Addr) (cdv ct : Value) (us ws as : List Value), us.length = np → ws.length = ks.length → arr ar (us ++ ws) = some as → bindArgs (PySem.W.fnOf d.name d.qual d.params d.body d.scope .none kV doc pm an cdv ct) ⟨us, ks.zip ws⟩ = pure (ps.zip as)
theorem PatD.k {K : PySem.W.Frag} {d : He.DefD} {kws : List (Str × V)} {f : Addr} {fd : FuncData} {ps ks : List Str} {np : Nat} {ar : List Nat} (h : PatD d ps np ks ar) (F : FunD K d.name d.qual d.params d.body d.scope [] kws f fd) : KPat K fd ps np ks ar := fun s us ws as _ h1 h2 h3 => by
  obtain ⟨oc, od, dV, kV, doc, pm, an, cdv, ct, osl, rfl, lk, hcd, hD, hK⟩ := F.ex
  rcases hD with ⟨_, rfl⟩ | ⟨e, _⟩
  · exact .of_eq (h kV doc pm an cdv ct us ws as h1 h2 h3)
  · exact absurd rfl e
structure Df.Ok (T : Tb) (x : Df) : Prop where
  b : x.okB T = true
  bind : BindD x.d x.ps
def Xd.okB (root : String) (x : Xd) : Bool := (x.d.dfl.isEmpty && (x.d.kwd.isEmpty && decide (x.d.at_ = (Str.ofString x.c, some ("__init__" : Str))))) && (match x.d.body with
  | [.Expr (.Call (.Attribute (.Name z _) m p2) [.Name self _, .Constant (.str _) _ _] [] p5) _, .Assign [.Attribute (.Name self' _) fl _] (.Name given _) _] =>
    decide (m = ("__init__" : Str)) && (decide (z = Str.ofString root) && (decide (self' = self) && (decide (fl = Str.ofString x.fld) && (okN z && (okN self && (okN given && (glB x.d.scope z && (fnScopeB [self, given] [self, given] x.d.scope && p2.endLine == p5.line))))))))
  | _ => false)
def Xd.ps (x : Xd) : List Str := match x.d.body with
  | [_, .Assign [.Attribute (.Name self _) _ _] (.Name given _) _] => [self, given]
  | _ => []
structure Xd.Ok (root : String) (x : Xd) : Prop where
  b : x.okB root = true
  bind : BindD x.d x.ps
theorem beq_line {p q : Pos} (h : (p.endLine == q.line) = true) : (p.endLine == q.line) = true := h
theorem xd_ok {P : Program} {w : World} {K : PySem.W.Frag} {mg : Str → Option Value} {base : Heap} {f C : Addr} {fd : FuncData} {CXt : CXT} {root : String} {x : Xd} (o : x.Ok root) (F : FunD K x.d.name x.d.qual x.d.params x.d.body x.d.scope (x.d.dvs K) (x.d.kws K) f fd)
    (hr : rootK K root = true) (hm : mg (Str.ofString root) = some (.ref (gaS K root))) (T : OexC K C) (hno : PySem.W.findIn K (.ref C) (Str.ofString x.fld) = some none) : FnOk P w K mg base CXt 1 f fd x.ps (spX1 K C (Str.ofString x.fld)) ∧ Binds K fd x.ps [] ∧ x.ps.length = 2 := by
  obtain ⟨hb, hbind⟩ := o
  obtain ⟨c, fld, at_, name, qual, params, body, scope, dfl, kwd⟩ := x
  unfold Xd.okB at hb
  dsimp only at hb F hno ⊢
  simp only [Bool.and_eq_true, List.isEmpty_iff] at hb
  obtain ⟨⟨rfl, rfl, _⟩, hb⟩ := hb
  split at hb
  · rename_i z p1 m p2 self p3 txt j p4 p5 p6 self' p7 fl p8 given p9 p10
    simp only [Bool.and_eq_true, decide_eq_true_eq] at hb
    obtain ⟨rfl, rfl, rfl, rfl, h1, h2, h3, h4, h5, h6⟩ := hb
    unfold rootK at hr
    simp only [Bool.and_eq_true] at hr
    obtain ⟨r1, r2, r3, r4⟩ := hr
    have hfc : PySem.W.findCls K (.ref (gaS K root)) (.type "type") "__init__" = some (.val (.builtin "ValueError.__init__")) := by
      split at r4
      · rename_i n e
        rw [eq_of_beq r4] at e
        exact e
      · cases r4
    refine ⟨init1_ok F (fnScopeB_ok h5) ?_ hm (okN_of h1).1 (okN_of h2).1 (okN_of h2).2 (okN_of h3).1 (okN_of h3).2 ⟨r2, He.eqO_ok r3⟩ hfc T hno h6, F.bindsN hbind, rfl⟩
    unfold glB at h4
    split at h4
    · assumption
    · cases h4
  · cases hb

/-! ### levels -/
def look (tab : List Df) (c f : String) : Option Df := tab.find? fun x => x.c == c && x.f == f
noncomputable def callL (tab : List Df) (xn : String → Option (List String)) : Nat → String → String → List D → Mem → Res D
  | 0, _, _, _, _ => .no
  | j + 1, c, f, ds, m => match look tab c f with
    | some x => callD ⟨callL tab xn j, fun _ _ => false, none⟩ xn x.N.length x.n x.b ds m
    | none => .no
noncomputable abbrev glL (tab : List Df) (xn : String → Option (List String)) (j : Nat) : Gl := ⟨callL tab xn j, fun _ _ => false, none⟩
/-- the table is as the text has it -/
structure TabOk (T : Tb) (root : Option String) (tab : List Df) (xs : List Xd) (fn : List He.DefD) : Prop where
  ok : ∀ x ∈ tab, x.Ok T
  ex : ∀ p ∈ T.exs, ∃ r, root = some r ∧ ∃ x ∈ xs, x.c = p.1 ∧ p.2 = [x.fld] ∧ x.Ok r
  fd : ∀ x ∈ tab, x.d ∈ fn
  fx : ∀ x ∈ xs, x.d ∈ fn
  fns : ∀ f ∈ T.fns, (look tab "" f).isSome = true
  pats : ∀ p ∈ T.pats, ∃ x, look tab "" p.1 = some x ∧ PatD x.d x.ps p.2.1 (p.2.2.1.map Str.ofString) p.2.2.2
  mts : ∀ p ∈ T.mts, (look tab p.1 p.2).isSome = true ∧ p.1 ≠ ""
  mks : ∀ c ∈ T.mks, (look tab c "__init__").isSome = true ∧ c ≠ ""
  exn : (T.exs.map (·.1)).Nodup
theorem look_of {tab : List Df} {c f : String} {x : Df} (h : look tab c f = some x) : x ∈ tab ∧ x.c = c ∧ x.f = f := by
  have h1 := List.mem_of_find?_eq_some h
  have h2 := List.find?_some h
  simp only [Bool.and_eq_true, beq_iff_eq] at h2
  exact ⟨h1, h2⟩
theorem lookup_nd {l : List (String × List String)} (hn : (l.map (·.1)).Nodup) {p : String × List String} (hp : p ∈ l) : l.lookup p.1 = some p.2 := by
  induction l with
  | nil => cases hp
  | cons q l ih =>
    obtain ⟨k, v⟩ := q
    rw [List.map_cons, List.nodup_cons] at hn
    rcases List.mem_cons.mp hp with z | z
    · subst z
      simp [List.lookup]
    · have hk : p.1 ≠ k := fun e => hn.1 (e ▸ List.mem_map.mpr ⟨p, z, rfl⟩)
      have hk' : (p.1 == k) = false := by simpa using hk
      simp only [List.lookup, hk']
      exact ih hn.2 z
section
variable {P : Program} {w : World} {K : PySem.W.Frag} {mg : Str → Option Value} {base h : Heap} {T : Tb} {root : Option String} {tab : List Df} {xs : List Xd} {fn : List He.DefD}
theorem ar_callL {c f : String} {x : Df} (e : look tab c f = some x) (xn : String → Option (List String)) (j : Nat) (le : x.n ≤ x.N.length) : ∀ ds m, ds.length ≠ x.ps.length → callL tab xn j c f ds m = .no := by
  intro ds m hl
  cases j with
  | zero => rfl
  | succ j =>
    rw [callL, e]
    dsimp only
    unfold callD
    have : x.ps.length = x.n := by unfold Df.ps; rw [List.length_take]; omega
    rw [this] at hl
    rw [if_neg hl]
theorem key_addr {x : Df} {c f : String} (e1 : x.c = c) (e2 : x.f = f) : He.fAd K x.key = if c == "" then gaS K f else maS K c f := by
  unfold Df.key
  rw [e1, e2]
  by_cases hc : (c == "") = true
  · rw [if_pos hc, if_pos hc]
    rfl
  · rw [if_neg hc, if_neg hc]
    rfl
/-- every def keeps its promise, at every level -/
theorem lvl (s : Says T root K) (X : K.In h) (GN : h.Ns mainGlobals mg) (t : TabOk T root tab xs fn) (fd_ : ∀ d ∈ fn, ∃ fd, FunD K d.name d.qual d.params d.body d.scope (d.dvs K) (d.kws K) (He.fAd K d.at_) fd) :
    ∀ (j : Nat) (c f : String) (x : Df), look tab c f = some x → ∀ fd, FunD K x.d.name x.d.qual x.d.params x.d.body x.d.scope (x.d.dvs K) (x.d.kws K) (He.fAd K x.d.at_) fd →
      FnOk P w K mg base (CX P w) (2 * j + 1) (He.fAd K x.d.at_) fd x.ps (spI (gcK T K mg) x.ps.length (callL tab (xnT T) j c f))
  | 0, c, f, x, e, fd, F => by
    obtain ⟨hx, _, _⟩ := look_of e
    have ok := (t.ok x hx).b
    unfold Df.okB at ok
    simp only [Bool.and_eq_true] at ok
    refine FnOk.mono (F.ok (k := 0) (fnScopeB_ok ok.2.1) (fun vs H Q E h => spI_len h) fun cdv A outer s H vs Q E hr h => ?_) (Nat.le_refl _)
    obtain ⟨_, _, m, ds, _, _, _, hp⟩ := h
    rw [callL] at hp
    exact hp.elim
  | j + 1, c, f, x, e, fd, F => by
    obtain ⟨hx, _, _⟩ := look_of e
    have ok := (t.ok x hx).b
    unfold Df.okB at ok
    simp only [Bool.and_eq_true, decide_eq_true_eq, List.isEmpty_iff] at ok
    obtain ⟨o1, o2, o3, o4, o5, o6⟩ := ok
    have S := fnScopeB_ok o2
    have hpl : x.ps.length = x.n := by unfold Df.ps; rw [List.length_take]; omega
    have ecall : (callL tab (xnT T) (j + 1) c f) = callD (glL tab (xnT T) j) (xnT T) x.N.length x.n x.b := by
      funext ds m
      rw [callL, e]
    rw [ecall]
    have e2 : 2 * (j + 1) + 1 = (2 * j + 2) + 1 := by omega
    rw [e2]
    have cal : ∀ {c f : String} {y : Df}, look tab c f = some y → ∃ fd, Callee P w K mg base (gcK T K mg) (if c == "" then gaS K f else maS K c f) fd y.ps (2 * j + 1) (callL tab (xnT T) j c f) ∧ Binds K fd y.ps [] ∧ ∀ {np ks ar}, PatD y.d y.ps np ks ar → KPat K fd y.ps np ks ar := by
      intro c f y ey
      obtain ⟨hy, hc, hf⟩ := look_of ey
      obtain ⟨fdy, Fy⟩ := fd_ _ (t.fd y hy)
      have oy := (t.ok y hy).b
      unfold Df.okB at oy
      simp only [Bool.and_eq_true, decide_eq_true_eq, List.isEmpty_iff] at oy
      obtain ⟨_, _, o3, o4, o5, o6⟩ := oy
      have IH := lvl s X GN t fd_ j c f y ey fdy Fy
      have ea : He.fAd K y.d.at_ = if c == "" then gaS K f else maS K c f := by rw [o6]; exact key_addr hc hf
      have kp := Fy.kp
      rw [ea] at IH kp
      refine ⟨fdy, ⟨IH, kp, ar_callL ey _ _ o3⟩, ?_⟩
      have e1 : y.d.dvs K = [] := by unfold He.DefD.dvs; rw [o4]; rfl
      rw [e1] at Fy
      exact ⟨Fy.bindsN (t.ok y hy).bind, fun h => h.k Fy⟩
    have glo : ∀ {z : String}, (He.Fa.glo (Str.ofString z)).ok K = true → mg (Str.ofString z) = some (.ref (gaS K z)) := fun q => He.glo_ok X GN q
    rw [hpl]
    refine fn_ok F S hpl rfl fun cdv A outer s1 H E hr => ?_
    have C : Cxt (cxOf (CX P w) P w K mg base x.N x.d.qual x.d.scope (He.fAd K x.d.at_) cdv A outer s1 H E) (gcK T K mg) (fun c d _ H' => E c d H') (glL tab (xnT T) j) (xnT T) T x.d.scope x.N none := {
      B := ⟨rfl, rfl, takes_of rfl rfl rfl rfl, by
        have := hr.un
        show (A.deeper _).units + 65 < cLine
        omega, fun _ => rfl, S.nd, fun _ => rfl⟩
      no := fun _ _ _ => rfl
      Fa := s.facts
      Fx := s.factsX
      hsc := rfl
      hN := rfl
      hsl := fun s e => by cases e
      free := fun z hz => He.free_ok X GN (s.free z hz)
      cls := fun c hc => ⟨_, own_of hc, glo (clsK_ok (s.cls c hc)).1⟩
      att := fun f hf => s.att hf
      cal := fun _ => {
        fns := fun f hf => by
          obtain ⟨y, ey⟩ := Option.isSome_iff_exists.mp (t.fns f hf)
          obtain ⟨fdy, q1, q2, _⟩ := cal ey
          exact ⟨_, fdy, _, _, q1, q2, glo (s.fns f hf), hr.mono (by omega)⟩
        pats := fun p hp => by
          obtain ⟨y, ey, pd⟩ := t.pats p hp
          obtain ⟨fdy, q1, q2, q3⟩ := cal ey
          exact ⟨_, fdy, _, _, q1, q3 pd, glo (s.pats p hp), hr.mono (by omega)⟩
        mts := fun p hp => by
          obtain ⟨h1, h2⟩ := t.mts p hp
          obtain ⟨y, ey⟩ := Option.isSome_iff_exists.mp h1
          obtain ⟨fdy, q1, q2, _⟩ := cal ey
          have hne : ¬ (p.1 == "") = true := by simpa using h2
          rw [if_neg hne] at q1
          obtain ⟨m1, m2⟩ := s.mts p hp
          have hc : p.1 ∈ T.cls := by simpa using m1
          exact ⟨_, _, fdy, _, _, own_of hc, (clsK_ok (s.cls _ hc)).2.1, He.meth_ok m2, q1, q2, hr.mono (by omega)⟩
        mks := fun c hc => by
          obtain ⟨h1, h2⟩ := t.mks c hc
          obtain ⟨y, ey⟩ := Option.isSome_iff_exists.mp h1
          obtain ⟨fdy, q1, q2, _⟩ := cal ey
          have hne : ¬ (c == "") = true := by simpa using h2
          rw [if_neg hne] at q1
          obtain ⟨m1, m2⟩ := s.mks c hc
          have hc : c ∈ T.cls := by simpa using m1
          exact ⟨_, _, fdy, _, _, own_of hc, He.mkr_ok m2, q1, q2, glo (clsK_ok (s.cls _ hc)).1, hr.mono (by omega)⟩
        exs := fun p hp => by
          obtain ⟨r, er, xd, hxd, e1, e2, e3⟩ := t.ex p hp
          have q := exsK_ok (s.exs p hp)
          have rk := s.root r er
          have rg : (He.Fa.glo (Str.ofString r)).ok K = true := by
            unfold rootK at rk
            simp only [Bool.and_eq_true] at rk
            exact rk.1
          refine ⟨lookup_nd t.exn hp, _, exa_of hp, glo q.1, q.2.2.2.1.kC, ?_⟩
          obtain ⟨fdx, Fx⟩ := fd_ _ (t.fx xd hxd)
          have hob := e3.b
          unfold Xd.okB at hob
          simp only [Bool.and_eq_true, decide_eq_true_eq] at hob
          have ea : He.fAd K xd.d.at_ = maS K p.1 "__init__" := by
            rw [hob.1.2.2, e1]
            rfl
          rw [ea] at Fx
          rw [e2]
          have hno := q.2.2.1 xd.fld (by rw [e2]; exact List.mem_cons_self)
          obtain ⟨w1, w2, w3⟩ := xd_ok (P := P) (w := w) (base := base) (CXt := CX P w) e3 Fx rk (glo rg) q.2.2.2.1 hno
          exact ⟨_, fdx, _, q.2.2.2.1, q.2.2.2.2.1, q.2.2.2.2.2.1, w1, w2, w3⟩
        room2 := hr.mono (by omega) }
      hnd := fun c hc => ⟨_, glo (s.hnd c hc), fun e => by
        obtain ⟨p, h1, rfl, rfl⟩ := exa_some e
        exact (exsK_ok (s.exs p h1)).2.2.2.2.2.2 c hc⟩
      gints := fun p hp => He.int_ok X GN (s.gints p hp)
      gstrs := fun p hp => He.str_ok X GN (s.gstrs p hp)
      exf := fun e => by cases e }
    exact chkSs_ok x.b C ⟨rfl, rfl, passes_of rfl, fun _ => rfl, by
      unfold Env.blockKind
      show (if x.d.scope.kind.isAnnotationScope then ScopeKind.function else x.d.scope.kind) = .function
      rw [S.kind]
      rfl⟩ o1
end
end IP

/-! IqC -/
set_option Elab.async false
set_option linter.all false
set_option maxRecDepth 100000
set_option maxHeartbeats 4000000
/-! IqC: a law's end. -/
namespace IP
open PySem L2 PyProof.Rows
theorem rds_int {G : GC} {rho : List Addr} {F : Hp} : ∀ ns : List Int, RDs G rho F (ns.map D.int) (ns.map V.int)
  | [] => .nil
  | i :: ns => .cons (.int i) (rds_int ns)
theorem walk_I {l : PySem.W.OpenLaw} {n n0 J : Nat} {q : Program} {loose : List Str} {XP : (Str → Option Value) → Heap → Prop} {d : DefRec} {T : Tb} {root : Option String} {tab : List Df} {xs : List Xd} {fn : List He.DefD} {x : Df} {f : String} {p : Str}
    (hn : l.most = some n) (hn2 : n ≤ sizeLine) (hdf : d.params.defaults = []) (hJ : J ≤ 100) (t : TabOk T root tab xs fn) (e : look tab "" f = some x) (hp : x.ps = [p]) (hd : d.name = Str.ofString f) (hf : f ∈ T.fns)
    (main : ∀ ns : List Int, ns.length ≤ n → (∀ z ∈ ns, Builtin.Int.intBits z ≤ 1048576) → ∃ m, callL tab (xnT T) J "" f [.scr (ns.map D.int)] [] = .ok (.bl true) m) :
    PySem.W.WalkO q loose XP (hookI n0 T root fn).says l.row.toRowW d [] (fun f vs => PySem.call f vs) := by
  refine Att.attach_callB hn hdf fun w s₀ s₁ mg mb fa o pm cd doc a vs ns G Y ho hd2 hcd hmg hobj hints hlen hbits hg => ?_
  obtain ⟨K, KX, c⟩ := Y
  obtain ⟨s, fd_⟩ := obsI_ok c
  obtain ⟨hx, e1, e2⟩ := look_of e
  obtain ⟨fd, F⟩ := fd_ _ (t.fd x hx)
  have ok := (t.ok x hx).b
  unfold Df.okB at ok
  simp only [Bool.and_eq_true, decide_eq_true_eq, List.isEmpty_iff] at ok
  obtain ⟨o1, o2, o3, o4, o5, o6⟩ := ok
  have ea : He.fAd K x.d.at_ = gaS K f := by
    rw [o6, key_addr e1 e2]
    rfl
  have hfa : fa = gaS K f := by
    have q := He.glo_ok KX G.T.g (s.fns f hf)
    rw [hd] at hmg
    have z := hmg.symm.trans q
    exact (Value.ref.injEq _ _).mp (Option.some.inj z)
  subst hfa
  have edv : x.d.dvs K = [] := by unfold He.DefD.dvs; rw [o4]; rfl
  have hb : ∀ (s : Shared) (u : Value), BindsTo s fd ⟨[u], []⟩ [(p, u)] := fun s u => by
    have F' := F
    rw [edv] at F'
    have := F'.bindsA (t.ok x hx).bind s [u] (by rw [hp]; rfl)
    rw [hp] at this
    exact this
  refine law_call (sp := spI (gcK T K mg) x.ps.length (callL tab (xnT T) J "" f)) (x := p) (CX := CX l.prog w) (k := 2 * J + 1) (P := l.prog) (w := w) KX G.T.g G.T.b G.T.builtins G.T.nolimit hg hobj hints (Nat.le_trans hlen hn2) ⟨rfl, by
    have h1 : callerA.depth + 650 < recursionLimit := by decide
    omega, by
    have h1 : callerA.units + 5200 < cLine := by decide
    omega⟩ (fun base hKb hB => ?_) hb (fun H hO hS => ?_) fun H e s' z => cx_false z
  · have := lvl (P := l.prog) (w := w) (base := base) s KX G.T.g t fd_ J "" f x e fd F
    rw [ea, hp] at this
    rw [hp]
    exact this
  · obtain ⟨m, hm⟩ := main ns hlen hbits
    have key : ∀ {D0 : D}, D0 = .scr (ns.map D.int) → RD (gcK T K mg) [] H D0 (.ref a) → spI (gcK T K mg) x.ps.length (callL tab (xnT T) J "" f) [.ref a] H (fun v _ => v = .bl true) fun _ _ _ => False := fun {D0} e0 hD => by
      subst e0
      refine ⟨H, [], [], [.scr (ns.map D.int)], ⟨⟨fun h => .inl h⟩, rfl, List.nodup_nil, fun n a c h => by simp at h, fun n a c h => by simp at h⟩, .cons hD .nil, by rw [hp]; rfl, ?_⟩
      rw [hm]
      intro v H' F' rho' x' r' rr
      cases rr
      rfl
    rcases hS with (hS | ⟨ob, hS⟩) | hS
    · rcases hO a with z | ⟨_, _, z⟩
      · rw [hS] at z; cases z
      · rw [hS] at z; cases z
    · exact key rfl (.scr hS (rds_int ns))
    · exact key rfl (.scrK (fun H' => .inr hS) (rds_int ns))
end IP

/-! IqD -/
set_option Elab.async false
set_option linter.all false
set_option maxRecDepth 100000
set_option maxHeartbeats 4000000
/-! IqD: my own rules of turning: the interpreter by simp; == and in of plain data. -/
namespace IP
open PySem L2

/-! ### only what is evaluated is looked at: what follows hides in an instance -/
class KR (a b : Type) where
  f : a → Mem → Res b
class KG (a : Type) where
  f : a → Mem → Rs
class KS where
  f : Ev → Mem → Rs
def bindK {a b : Type} (r : Res a) [k : KR a b] : Res b := r.bind k.f
def goK {a : Type} (r : Res a) (e : Ev) [k : KG a] : Rs := r.go e k.f
def seqK (r : Rs) [k : KS] : Rs := r.seq k.f
section
variable {a b : Type} {x : a} {e : Ev} {m : Mem} {z : Exc} {d : D}
@[simp] theorem bindK_ok {k : KR a b} : @bindK a b (.ok x m) k = k.f x m := Eq.trans rfl rfl
@[simp] theorem bindK_ex {k : KR a b} : @bindK a b (.ex z m) k = .ex z m := Eq.trans rfl rfl
@[simp] theorem bindK_no {k : KR a b} : @bindK a b .no k = .no := Eq.trans rfl rfl
@[simp] theorem goK_ok {k : KG a} : @goK a (.ok x m) e k = k.f x m := Eq.trans rfl rfl
@[simp] theorem goK_ex {k : KG a} : @goK a (.ex z m) e k = .ex z e m := Eq.trans rfl rfl
@[simp] theorem goK_no {k : KG a} : @goK a .no e k = .no := Eq.trans rfl rfl
@[simp] theorem seqK_nx {k : KS} : @seqK (.nx e m) k = k.f e m := Eq.trans rfl rfl
@[simp] theorem seqK_rt {k : KS} : @seqK (.rt d m) k = .rt d m := Eq.trans rfl rfl
@[simp] theorem seqK_bk {k : KS} : @seqK (.bk e m) k = .bk e m := Eq.trans rfl rfl
@[simp] theorem seqK_ct {k : KS} : @seqK (.ct e m) k = .ct e m := Eq.trans rfl rfl
@[simp] theorem seqK_ex {k : KS} : @seqK (.ex z e m) k = .ex z e m := Eq.trans rfl rfl
@[simp] theorem seqK_no {k : KS} : @seqK .no k = .no := Eq.trans rfl rfl
@[simp ↓] theorem bind_K {r : Res a} {f : a → Mem → Res b} : r.bind f = @bindK a b r ⟨f⟩ := Eq.trans rfl rfl
@[simp ↓] theorem go_K {r : Res a} {f : a → Mem → Rs} : r.go e f = @goK a r e ⟨f⟩ := Eq.trans rfl rfl
@[simp ↓] theorem seq_K {r : Rs} {f : Ev → Mem → Rs} : r.seq f = @seqK r ⟨f⟩ := Eq.trans rfl rfl
end

/-- a comprehension's turn -/
def cmpB (g : Gl) (elt : E) (tg : Tg) (cnd : Oe) (own : List Nat) (e : Ev) : D → Mem → Res (List D) := fun d m2 => match bindT tg d (wipeE e own) with
        | some e1 => (evO g cnd e1 m2).bind fun b m3 => (match b with
          | true => (ev g elt e1 m3).bind fun y m4 => .ok [y] m4
          | false => .ok [] m3)
        | none => .no
/-- the inner turn -/
def cmpI (g : Gl) (elt : E) (tg2 : Tg) (cnd : Oe) (e1 : Ev) : D → Mem → Res (List D) := fun d2 m4 => match bindT tg2 d2 (wipeE e1 (tgL tg2)) with
          | some e2 => (evO g cnd e2 m4).bind fun b m5 => (match b with
            | true => (ev g elt e2 m5).bind fun y m6 => .ok [y] m6
            | false => .ok [] m5)
          | none => .no
def cmpC (g : Gl) (elt : E) (tg : Tg) (tg2 : Tg) (it2 : It) (cnd : Oe) (own : List Nat) (e : Ev) : D → Mem → Res (List D) := fun d m2 => match bindT tg d (wipeE e own) with
        | some e1 => (evIt g it2 e1 m2).bind fun zs m3 => compL (cmpI g elt tg2 cnd e1) zs m3
        | none => .no
noncomputable def forB (g : Gl) (xn : String → Option (List String)) (tg : Tg) (b : Ss) : D → Ev → Mem → Rs := fun d e1 m2 => match bindT tg d e1 with
    | some e2 => evSs g xn b e2 m2
    | none => .no
section
variable {g : Gl} {e : Ev} {m : Mem} {xn : String → Option (List String)}
@[simp ↓] theorem r_ev_loc {i : Nat} : ev g (.loc i) e m = match e[i]? with | some (some d) => .ok d m | _ => .no := by rw [ev] <;> rfl
@[simp ↓] theorem r_ev_con {d : D} : ev g (.con d) e m = .ok d m := by rw [ev] <;> rfl
@[simp ↓] theorem r_ev_gcon {x : String} {d : D} : ev g (.gcon x d) e m = .ok d m := by rw [ev] <;> rfl
@[simp ↓] theorem r_ev_bin {op : Operator} {a b : E} : ev g (.bin op a b) e m = (ev g a e m).bind fun x m1 => (ev g b e m1).bind fun y m2 => binG g op x y m2 := by rw [ev] <;> rfl
@[simp ↓] theorem r_ev_neg {a : E} : ev g (.neg a) e m = (ev g a e m).bind fun x m1 => (match vw m1 x with
    | .int i => .ok (.int (-i)) m1
    | .ins c _ => if g.has c "__neg__" && g.cur.isNone then g.call c "__neg__" [x] m1 else .no
    | _ => .no) := by rw [ev] <;> rfl
@[simp ↓] theorem r_ev_nt {a : E} : ev g (.nt a) e m = (ev g a e m).bind fun x m1 => opt ((truth (vw m1 x)).map fun b => .bl (!b)) m1 := by rw [ev] <;> rfl
@[simp ↓] theorem r_ev_an {a b : E} : ev g (.an a b) e m = (ev g a e m).bind fun x m1 => (match x with
    | .bl true => ev g b e m1
    | .bl false => .ok (.bl false) m1
    | _ => .no) := by rw [ev] <;> rfl
@[simp ↓] theorem r_ev_orr {a b : E} : ev g (.orr a b) e m = (ev g a e m).bind fun x m1 => (match x with
    | .bl true => .ok (.bl true) m1
    | .bl false => ev g b e m1
    | _ => .no) := by rw [ev] <;> rfl
@[simp ↓] theorem r_ev_cmp {op : CmpOp} {a b : E} : ev g (.cmp op a b) e m = (ev g a e m).bind fun x m1 => (ev g b e m1).bind fun y m2 => (cmpG g op x y m2).bind fun b m3 => .ok (.bl b) m3 := by rw [ev] <;> rfl
@[simp ↓] theorem r_ev_cmp2 {op1 op2 : CmpOp} {a b c : E} : ev g (.cmp2 op1 op2 a b c) e m = (ev g a e m).bind fun x m1 => (ev g b e m1).bind fun y m2 => (cmpG g op1 x y m2).bind fun r m3 => (match r with
    | true => (ev g c e m3).bind fun z m4 => (cmpG g op2 y z m4).bind fun b m5 => .ok (.bl b) m5
    | false => .ok (.bl false) m3) := by rw [ev] <;> rfl
@[simp ↓] theorem r_ev_ife {c a b : E} : ev g (.ife c a b) e m = (evT g c e m).bind fun t m1 => (match t with
    | true => ev g a e m1
    | false => ev g b e m1) := by rw [ev] <;> rfl
@[simp ↓] theorem r_ev_tup {es : Es} : ev g (.tup es) e m = (evs g es e m).bind fun xs m1 => if lenOk xs.length then .ok (.tup xs) m1 else .no := by rw [ev] <;> rfl
@[simp ↓] theorem r_ev_lst {mu : Bool} {es : Es} : ev g (.lst mu es) e m = (evs g es e m).bind fun xs m1 => newL mu xs m1 := by rw [ev] <;> rfl
@[simp ↓] theorem r_ev_dic {mu : Bool} {q : DK} {kvs : Kv} : ev g (.dic q mu kvs) e m = (match q with
    | .k => if mu then (evK g kvs e (m ++ [.dic .k []])).bind fun ps m1 => (match m1[m.length]? with
      | some (.dic .k []) => if decide (ps.length ≤ 15) && keysOk ps then .ok (.ref m.length) (m1.set m.length (.dic .k ps)) else .no
      | _ => .no) else .no
    | .t => .no) := by rw [ev.eq_def] <;> rfl
@[simp ↓] theorem r_cmpB {elt : E} {tg : Tg} {cnd : Oe} {own : List Nat} {d : D} {m2 : Mem} : cmpB g elt tg cnd own e d m2 = match bindT tg d (wipeE e own) with
        | some e1 => (evO g cnd e1 m2).bind fun b m3 => (match b with
          | true => (ev g elt e1 m3).bind fun y m4 => .ok [y] m4
          | false => .ok [] m3)
        | none => .no := Eq.trans rfl rfl
@[simp ↓] theorem r_cmpI {elt : E} {tg2 : Tg} {cnd : Oe} {d2 : D} {m4 : Mem} : cmpI g elt tg2 cnd e d2 m4 = match bindT tg2 d2 (wipeE e (tgL tg2)) with
          | some e2 => (evO g cnd e2 m4).bind fun b m5 => (match b with
            | true => (ev g elt e2 m5).bind fun y m6 => .ok [y] m6
            | false => .ok [] m5)
          | none => .no := Eq.trans rfl rfl
@[simp ↓] theorem r_cmpC {elt : E} {tg tg2 : Tg} {it2 : It} {cnd : Oe} {own : List Nat} {d : D} {m2 : Mem} : cmpC g elt tg tg2 it2 cnd own e d m2 = match bindT tg d (wipeE e own) with
        | some e1 => (evIt g it2 e1 m2).bind fun zs m3 => compL (cmpI g elt tg2 cnd e1) zs m3
        | none => .no := Eq.trans rfl rfl
@[simp ↓] theorem r_forB {tg : Tg} {b : Ss} {d : D} : forB g xn tg b d e m = match bindT tg d e with
    | some e2 => evSs g xn b e2 m
    | none => .no := Eq.trans rfl rfl
@[simp ↓] theorem r_ev_comp {mu : Bool} {elt : E} {tg : Tg} {it : It} {cnd : Oe} {own : List Nat} (hc : g.cur = none) : ev g (.comp mu elt tg it cnd own) e m = (evIt g it e m).bind fun xs m1 =>
      (compL (cmpB g elt tg cnd own e) xs m1).bind fun ys m2 => newL mu ys m2 := by
  rw [ev, hc] <;> rfl
@[simp ↓] theorem r_ev_comp2 {mu : Bool} {elt : E} {tg : Tg} {it : It} {tg2 : Tg} {it2 : It} {cnd : Oe} {own : List Nat} (hc : g.cur = none) : ev g (.comp2 mu elt tg it tg2 it2 cnd own) e m = (evIt g it e m).bind fun xs m1 =>
      (compL (cmpC g elt tg tg2 it2 cnd own e) xs m1).bind fun ys m2 => newL mu ys m2 := by
  rw [ev, hc] <;> rfl
@[simp ↓] theorem r_ev_sub {a i : E} : ev g (.sub a i) e m = (ev g a e m).bind fun x m1 => (ev g i e m1).bind fun y m2 => opt (subP (vw m2 x) y) m2 := by rw [ev] <;> rfl
@[simp ↓] theorem r_ev_slc {a : E} {lo hi : Oe} : ev g (.slc a lo hi) e m = (ev g a e m).bind fun x m1 => (evI g lo e m1).bind fun l m2 => (evI g hi e m2).bind fun h m3 => opt (slcP (vw m3 x) l h) m3 := by rw [ev] <;> rfl
@[simp ↓] theorem r_ev_rev {a : E} : ev g (.rev a) e m = (ev g a e m).bind fun x m1 => (match vw m1 x with
    | .lst xs => .ok (.lst xs.reverse) m1
    | _ => .no) := by rw [ev] <;> rfl
@[simp ↓] theorem r_ev_att {a : E} {f : String} : ev g (.att a f) e m = (ev g a e m).bind fun x m1 => opt (attG x f m1) m1 := by rw [ev] <;> rfl
@[simp ↓] theorem r_ev_exf {f : String} {x : Exc} (hc : g.cur = some x) : ev g (.exf f) e m = opt (x.fs.lookup f) m := by rw [ev, hc]
@[simp ↓] theorem r_ev_call {c f : String} {es : Es} {ar : List Nat} {dv : List D} (hc : g.cur = none) : ev g (.call c f es ar dv) e m = (evs g es e m).bind fun vs m1 => (match arr ar (vs ++ dv) with
    | some as => g.call c f as m1
    | none => .no) := by rw [ev, hc] <;> rfl
@[simp ↓] theorem r_ev_meth {c f : String} {o : E} {es : Es} {ar : List Nat} {dv : List D} (hc : g.cur = none) : ev g (.meth c f o es ar dv) e m = (ev g o e m).bind fun x m1 => (match vw m1 x with
    | .ins c' fs => if c' == c && (fs.lookup f).isNone then (evs g es e m1).bind fun vs m2 => (match arr ar (vs ++ dv) with
      | some as => g.call c f (x :: as) m2
      | none => .no) else .no
    | _ => .no) := by rw [ev, hc] <;> rfl
@[simp ↓] theorem r_ev_make {mu : Bool} {c : String} {es : Es} {ar : List Nat} {dv : List D} (hc : g.cur = none) : ev g (.make mu c es ar dv) e m = (evs g es e m).bind fun vs m1 => (match arr ar (vs ++ dv) with
    | some as => makeG g mu c as m1
    | none => .no) := by rw [ev, hc] <;> rfl
@[simp ↓] theorem r_ev_bi {b : Bi} {es : Es} (hc : g.cur = none) : ev g (.bi b es) e m = (evs g es e m).bind fun vs m1 => biP g b vs m1 := by rw [ev, hc] <;> rfl
@[simp ↓] theorem r_ev_seq {t : Sq} {a : E} (hc : g.cur = none) : ev g (.seq t a) e m = (ev g a e m).bind fun x m1 => sqP t (vw m1 x) m1 := by rw [ev, hc] <;> rfl
@[simp ↓] theorem r_ev_isi {a : E} {ts : List Ty} : ev g (.isi a ts) e m = (ev g a e m).bind fun x m1 => opt ((isAny m1 x ts).map .bl) m1 := by rw [ev] <;> rfl
@[simp ↓] theorem r_ev_frz {a : E} : ev g (.frz a) e m = (ev g a e m).bind fun x m1 => frzD m.length x m1 := by rw [ev] <;> rfl
@[simp ↓] theorem r_evs_nil : evs g .nil e m = .ok [] m := by rw [evs] <;> rfl
@[simp ↓] theorem r_evs_one {a : E} {r : Es} : evs g (.one a r) e m = (ev g a e m).bind fun x m1 => (evs g r e m1).bind fun xs m2 => .ok (x :: xs) m2 := by rw [evs] <;> rfl
@[simp ↓] theorem r_evs_star {a : E} {r : Es} : evs g (.star a r) e m = (ev g a e m).bind fun x m1 => (match vw m1 x with
    | .lst ys => (evs g r e m1).bind fun xs m2 => .ok (ys ++ xs) m2
    | .tup ys => (evs g r e m1).bind fun xs m2 => .ok (ys ++ xs) m2
    | _ => .no) := by rw [evs] <;> rfl
@[simp ↓] theorem r_evK_nil : evK g .nil e m = .ok [] m := by rw [evK] <;> rfl
@[simp ↓] theorem r_evK_cons {k v : E} {r : Kv} : evK g (.cons k v r) e m = (ev g k e m).bind fun x m1 => (ev g v e m1).bind fun y m2 => (evK g r e m2).bind fun ps m3 => .ok ((x, y) :: ps) m3 := by rw [evK] <;> rfl
@[simp ↓] theorem r_evT_nt {a : E} : evT g (.nt a) e m = (evT g a e m).bind fun b m1 => .ok (!b) m1 := by rw [evT] <;> rfl
@[simp ↓] theorem r_evT_an {a b : E} : evT g (.an a b) e m = (evT g a e m).bind fun t m1 => (match t with
    | true => evT g b e m1
    | false => .ok false m1) := by rw [evT] <;> rfl
@[simp ↓] theorem r_evT_orr {a b : E} : evT g (.orr a b) e m = (evT g a e m).bind fun t m1 => (match t with
    | true => .ok true m1
    | false => evT g b e m1) := by rw [evT] <;> rfl
@[simp ↓] theorem r_evT_cmp {op : CmpOp} {a b : E} : evT g (.cmp op a b) e m = (ev g a e m).bind fun x m1 => (ev g b e m1).bind fun y m2 => cmpG g op x y m2 := by
  rw [evT]
  · rw [r_ev_cmp]
    cases ev g a e m with
    | ok x m1 =>
      dsimp only [Res.bind]
      cases ev g b e m1 with
      | ok y m2 =>
        dsimp only [Res.bind]
        cases cmpG g op x y m2 <;> rfl
      | _ => rfl
    | _ => rfl
  · intro x h; cases h
  · intro x y h; cases h
  · intro x y h; cases h
@[simp ↓] theorem r_evT_cmp2 {op1 op2 : CmpOp} {a b c : E} : evT g (.cmp2 op1 op2 a b c) e m = (ev g (.cmp2 op1 op2 a b c) e m).bind fun x m1 => opt (truth (vw m1 x)) m1 := by
  rw [evT] <;> intros <;> rename_i h <;> cases h
@[simp ↓] theorem r_evT_isi {a : E} {ts : List Ty} : evT g (.isi a ts) e m = (ev g (.isi a ts) e m).bind fun x m1 => opt (truth (vw m1 x)) m1 := by
  rw [evT] <;> intros <;> rename_i h <;> cases h
@[simp ↓] theorem r_evT_seq {t : Sq} {a : E} : evT g (.seq t a) e m = (ev g (.seq t a) e m).bind fun x m1 => opt (truth (vw m1 x)) m1 := by
  rw [evT] <;> intros <;> rename_i h <;> cases h
@[simp ↓] theorem r_evT_call {c f : String} {es : Es} {ar : List Nat} {dv : List D} : evT g (.call c f es ar dv) e m = (ev g (.call c f es ar dv) e m).bind fun x m1 => opt (truth (vw m1 x)) m1 := by
  rw [evT] <;> intros <;> rename_i h <;> cases h
@[simp ↓] theorem r_evT_meth {c f : String} {o : E} {es : Es} {ar : List Nat} {dv : List D} : evT g (.meth c f o es ar dv) e m = (ev g (.meth c f o es ar dv) e m).bind fun x m1 => opt (truth (vw m1 x)) m1 := by
  rw [evT] <;> intros <;> rename_i h <;> cases h
@[simp ↓] theorem r_evT_loc {i : Nat} : evT g (.loc i) e m = (ev g (.loc i) e m).bind fun x m1 => opt (truth (vw m1 x)) m1 := by
  rw [evT] <;> intros <;> rename_i h <;> cases h
@[simp ↓] theorem r_evT_con {d : D} : evT g (.con d) e m = (ev g (.con d) e m).bind fun x m1 => opt (truth (vw m1 x)) m1 := by
  rw [evT] <;> intros <;> rename_i h <;> cases h
@[simp ↓] theorem r_evO_non : evO g .non e m = .ok true m := by rw [evO] <;> rfl
@[simp ↓] theorem r_evO_som {a : E} : evO g (.som a) e m = evT g a e m := by rw [evO] <;> rfl
@[simp ↓] theorem r_evI_non : evI g .non e m = .ok none m := by rw [evI] <;> rfl
@[simp ↓] theorem r_evI_som {a : E} : evI g (.som a) e m = (ev g a e m).bind fun x m1 => (match x with
    | .int i => .ok (some i) m1
    | _ => .no) := by rw [evI] <;> rfl
@[simp ↓] theorem r_evIt_seq {a : E} : evIt g (.seq a) e m = (ev g a e m).bind fun x m1 => opt (walkP x) m1 := by rw [evIt] <;> rfl
@[simp ↓] theorem r_evIt_rng1 {a : E} : evIt g (.rng1 a) e m = (ev g a e m).bind fun x m1 => (match x with
    | .int j => if rngOk j then .ok (rng 0 j.toNat) m1 else .no
    | _ => .no) := by rw [evIt] <;> rfl
@[simp ↓] theorem r_evIt_rng2 {a b : E} : evIt g (.rng2 a b) e m = (ev g a e m).bind fun x m1 => (ev g b e m1).bind fun y m2 => (match x, y with
    | .int i, .int j => if rngOk i && rngOk j then .ok (rng i (j - i).toNat) m2 else .no
    | _, _ => .no) := by rw [evIt] <;> rfl
@[simp ↓] theorem r_evIt_enum {a : E} : evIt g (.enum a) e m = (ev g a e m).bind fun x m1 => opt ((seqP x).map fun xs => (xs.zipIdx.map fun p => .tup [.int (p.2 : Int), p.1])) m1 := by rw [evIt] <;> rfl
@[simp ↓] theorem r_evIt_zip {a b : E} : evIt g (.zip a b) e m = (ev g a e m).bind fun x m1 => (ev g b e m1).bind fun y m2 => (match seqP x, seqP y with
    | some xs, some ys => .ok (List.zipWith (fun p q => .tup [p, q]) xs ys) m2
    | _, _ => .no) := by rw [evIt] <;> rfl
/-! ### statements -/
@[simp ↓] theorem r_evS_expr {a : E} : evS g xn (.expr a) e m = (ev g a e m).go e fun _ m1 => .nx e m1 := by rw [evS] <;> rfl
@[simp ↓] theorem r_evS_set {i : Nat} {a : E} : evS g xn (.set i a) e m = (ev g a e m).go e fun x m1 => .nx (e.set i (some x)) m1 := by rw [evS] <;> rfl
@[simp ↓] theorem r_evS_unp {is : List Nat} {a : E} (hc : g.cur = none) : evS g xn (.unp is a) e m = (ev g a e m).go e fun x m1 => (match bindT (.many is) x e with
    | some e1 => .nx e1 m1
    | none => .no) := by rw [evS, hc] <;> rfl
@[simp ↓] theorem r_evS_par {i j : Nat} {a b : E} (hc : g.cur = none) : evS g xn (.par i j a b) e m = (ev g a e m).go e fun x m1 => (ev g b e m1).go e fun y m2 => .nx ((e.set i (some x)).set j (some y)) m2 := by rw [evS, hc] <;> rfl
@[simp ↓] theorem r_evS_fld {o : E} {f : String} {a : E} : evS g xn (.fld o f a) e m = (ev g a e m).go e fun x m1 => (ev g o e m1).go e fun y m2 => (match y with
    | .ref n => (match m2[n]? with
      | some (.ins c fs) => if decide (fs.length < 1000) then .nx e (m2.set n (.ins c (putD f x fs))) else .no
      | _ => .no)
    | _ => .no) := by rw [evS] <;> rfl
@[simp ↓] theorem r_evS_sub {o i a : E} : evS g xn (.sub o i a) e m = (ev g a e m).go e fun x m1 => (ev g o e m1).go e fun y m2 => (ev g i e m2).go e fun z m3 => (match y with
    | .ref n => (match m3[n]?, z with
      | some (.lst xs), .int k => (match ixN xs.length k with
        | some j => .nx e (m3.set n (.lst (xs.set j x)))
        | none => .no)
      | _, _ => .no)
    | _ => .no) := by rw [evS] <;> rfl
@[simp ↓] theorem r_evS_app {o a : E} : evS g xn (.app o a) e m = (ev g o e m).go e fun y m1 => (match y with
    | .ref n => if isL m1[n]? then (ev g a e m1).go e fun x m2 => (match m2[n]? with
      | some (.lst xs) => if decide (xs.length < sizeLine) then .nx e (m2.set n (.lst (xs ++ [x]))) else .no
      | _ => .no) else .no
    | _ => .no) := by rw [evS] <;> rfl
@[simp ↓] theorem r_evS_ifs {c : E} {t u : Ss} : evS g xn (.ifs c t u) e m = (evT g c e m).go e fun b m1 => (match b with
    | true => evSs g xn t e m1
    | false => evSs g xn u e m1) := by rw [evS] <;> rfl
@[simp ↓] theorem r_evS_for {tg : Tg} {it : It} {b : Ss} (hc : g.cur = none) : evS g xn (.for_ tg it b) e m = (evIt g it e m).go e fun xs m1 => forL (forB g xn tg b) xs e m1 := by rw [evS, hc] <;> rfl
@[simp ↓] theorem r_evS_wh {c : E} {b : Ss} : evS g xn (.wh c b) e m = whL (evT g c) (evSs g xn b) e m := by rw [evS] <;> rfl
@[simp ↓] theorem r_evS_ret {a : E} : evS g xn (.ret a) e m = (ev g a e m).go e fun x m1 => .rt x m1 := by rw [evS] <;> rfl
@[simp ↓] theorem r_evS_ret0 : evS g xn .ret0 e m = .rt .non m := by rw [evS] <;> rfl
@[simp ↓] theorem r_evS_rais {c : String} {es : Es} (hc : g.cur = none) : evS g xn (.rais c es) e m = (evs g es e m).go e fun vs m1 => (match xn c with
    | some ns => if decide (vs.length = ns.length) then .ex ⟨c, ns.zip vs⟩ e m1 else .no
    | none => .no) := by rw [evS, hc] <;> rfl
/-- behind a try's body -/
noncomputable def tryE (g : Gl) (xn : String → Option (List String)) (hs : Hs) (r : Rs) : Rs := match r with
    | .ex x e1 m1 => if xn x.cls = some (x.fs.map (·.1)) then evH g xn hs x e1 m1 else .no
    | r => r
@[simp] theorem tryE_ex {hs : Hs} {x : Exc} : tryE g xn hs (.ex x e m) = if xn x.cls = some (x.fs.map (·.1)) then evH g xn hs x e m else .no := Eq.trans rfl rfl
@[simp] theorem tryE_nx {hs : Hs} : tryE g xn hs (.nx e m) = .nx e m := Eq.trans rfl rfl
@[simp] theorem tryE_rt {hs : Hs} {d : D} : tryE g xn hs (.rt d m) = .rt d m := Eq.trans rfl rfl
@[simp] theorem tryE_bk {hs : Hs} : tryE g xn hs (.bk e m) = .bk e m := Eq.trans rfl rfl
@[simp] theorem tryE_ct {hs : Hs} : tryE g xn hs (.ct e m) = .ct e m := Eq.trans rfl rfl
@[simp ↓] theorem r_evS_try {b : Ss} {hs : Hs} (hc : g.cur = none) : evS g xn (.try_ b hs) e m = tryE g xn hs (evSs g xn b e m) := by rw [evS, hc] <;> rfl
@[simp ↓] theorem r_evS_pass : evS g xn .pass e m = .nx e m := by rw [evS] <;> rfl
@[simp ↓] theorem r_evS_brk : evS g xn .brk e m = .bk e m := by rw [evS] <;> rfl
@[simp ↓] theorem r_evS_cnt : evS g xn .cnt e m = .ct e m := by rw [evS] <;> rfl
@[simp ↓] theorem r_evSs_nil : evSs g xn .nil e m = .nx e m := by rw [evSs] <;> rfl
@[simp ↓] theorem r_evSs_cons {s : S} {r : Ss} : evSs g xn (.cons s r) e m = (evS g xn s e m).seq fun e1 m1 => evSs g xn r e1 m1 := by rw [evSs] <;> rfl
@[simp ↓] theorem r_evH_nil {x : Exc} : evH g xn .nil x e m = .ex x e m := by rw [evH] <;> rfl
@[simp ↓] theorem r_evH_cons {c : String} {slot : Option Nat} {b : Ss} {r : Hs} {x : Exc} : evH g xn (.cons c slot b r) x e m = if isX x.cls c then (match slot with
      | none => unb none (evSs (g.hot x) xn b e m)
      | some i => if i < e.length then unb (some i) (evSs (g.hot x) xn b (e.set i none) m) else .no)
    else evH g xn r x e m := by rw [evH.eq_def] <;> rfl
end
/-- what a def hands back -/
def retR (n : Nat) (r : Rs) : Res D := match r with
    | .nx _ m' => .ok (fin n .non m').1 (fin n .non m').2
    | .rt d m' => .ok (fin n d m').1 (fin n d m').2
    | .ex x _ m' => .ex x (finX n x m')
    | _ => .no
@[simp] theorem retR_nx {n : Nat} {e : Ev} {m : Mem} : retR n (.nx e m) = .ok (fin n .non m).1 (fin n .non m).2 := Eq.trans rfl rfl
@[simp] theorem retR_rt {n : Nat} {d : D} {m : Mem} : retR n (.rt d m) = .ok (fin n d m).1 (fin n d m).2 := Eq.trans rfl rfl
@[simp] theorem retR_ex {n : Nat} {x : Exc} {e : Ev} {m : Mem} : retR n (.ex x e m) = .ex x (finX n x m) := Eq.trans rfl rfl
theorem callD_eq {g : Gl} {xn : String → Option (List String)} {N n : Nat} {b : Ss} {ds : List D} {m : Mem} (h : ds.length = n) : callD g xn N n b ds m = retR m.length (evSs g xn b (e0 N ds) m) := by
  unfold callD retR
  rw [if_pos h] <;> rfl
theorem callL_eq {tab : List Df} {xn : String → Option (List String)} {j : Nat} {c f : String} {x : Df} {ds : List D} {m : Mem} (h : look tab c f = some x) (hn : ds.length = x.n) : callL tab xn (j + 1) c f ds m = retR m.length (evSs (glL tab xn j) xn x.b (e0 x.N.length ds) m) := by
  rw [callL, h]
  exact callD_eq hn
@[simp] theorem fin_le {n : Nat} {d : D} {m : Mem} (h : m.length ≤ n) : fin n d m = (d, m) := by unfold fin; rw [if_pos h]
@[simp] theorem finX_le {n : Nat} {x : Exc} {m : Mem} (h : m.length ≤ n) : finX n x m = m := by unfold finX; rw [if_pos h]

/-! ### comprehensions, loops -/
theorem compL_pure {f : D → Mem → Res (List D)} {m : Mem} (h : D → List D) : ∀ (xs : List D), (∀ d ∈ xs, f d m = .ok (h d) m) → compL f xs m = .ok (xs.flatMap h) m
  | [], _ => rfl
  | d :: ds, hh => by
    rw [compL, hh d List.mem_cons_self]
    dsimp only
    rw [compL_pure h ds fun x hx => hh x (List.mem_cons_of_mem _ hx)]
    simp
/-- over a list that is named -/
theorem compL_map {α : Type} {f : D → Mem → Res (List D)} {m : Mem} {g : α → D} (h : α → List D) : ∀ (xs : List α), (∀ x ∈ xs, f (g x) m = .ok (h x) m) → compL f (xs.map g) m = .ok (xs.flatMap h) m
  | [], _ => rfl
  | d :: ds, hh => by
    rw [List.map_cons, compL, hh d List.mem_cons_self]
    dsimp only
    rw [compL_map h ds fun x hx => hh x (List.mem_cons_of_mem _ hx)]
    simp
theorem flatMap_one {α β : Type} (f : α → β) (xs : List α) : xs.flatMap (fun x => [f x]) = xs.map f := by
  induction xs with
  | nil => rfl
  | cons x xs ih => simp [ih]
theorem flatMap_ite {α β : Type} (f : α → β) (p : α → Bool) (xs : List α) : xs.flatMap (fun x => if p x then [f x] else []) = (xs.filter p).map f := by
  induction xs with
  | nil => rfl
  | cons x xs ih =>
    rw [List.flatMap_cons, ih, List.filter_cons]
    cases p x <;> simp
theorem compL_each {α : Type} {f : D → Mem → Res (List D)} {m : Mem} {g : α → D} (h : α → D) (xs : List α) (hh : ∀ x ∈ xs, f (g x) m = .ok [h x] m) : compL f (xs.map g) m = .ok (xs.map h) m := by
  rw [compL_map (fun x => [h x]) xs hh, flatMap_one]
theorem compL_filter {α : Type} {f : D → Mem → Res (List D)} {m : Mem} {g : α → D} (h : α → D) (p : α → Bool) (xs : List α) (hh : ∀ x ∈ xs, f (g x) m = .ok (if p x then [h x] else []) m) : compL f (xs.map g) m = .ok ((xs.filter p).map h) m := by
  rw [compL_map _ xs hh, flatMap_ite]
theorem forL_inv {f : D → Ev → Mem → Rs} (I : Ev → Mem → Prop) : ∀ (xs : List D), (∀ d ∈ xs, ∀ e m, I e m → ∃ e' m', f d e m = .nx e' m' ∧ I e' m') → ∀ e m, I e m → ∃ e' m', forL f xs e m = .nx e' m' ∧ I e' m'
  | [], _, e, m, h => ⟨e, m, rfl, h⟩
  | d :: ds, hh, e, m, h => by
    obtain ⟨e1, m1, h1, h2⟩ := hh d List.mem_cons_self e m h
    obtain ⟨e2, m2, h3, h4⟩ := forL_inv I ds (fun x hx => hh x (List.mem_cons_of_mem _ hx)) e1 m1 h2
    exact ⟨e2, m2, by rw [forL, h1]; exact h3, h4⟩

/-! ### == and in -/
theorem pys_map {α : Type} {f : α → D} {g : α → PyData} : ∀ {xs : List α}, (∀ x ∈ xs, (f x).py = some (g x)) → D.pys (xs.map f) = some (xs.map g)
  | [], _ => rfl
  | x :: xs, h => by
    rw [List.map_cons, D.pys, h x List.mem_cons_self, pys_map fun y hy => h y (List.mem_cons_of_mem _ hy)]
    rfl
@[simp] theorem py_int (i : Int) : (D.int i).py = some (.int i) := by rw [D.py]
@[simp] theorem py_bl (b : Bool) : (D.bl b).py = some (.bool b) := by rw [D.py]
@[simp] theorem py_non : D.non.py = some .none := by rw [D.py]
@[simp] theorem py_str (x : Str) : (D.str x).py = some (.str x) := by rw [D.py]
@[simp] theorem py_tup (xs : List D) : (D.tup xs).py = (D.pys xs).map .tuple := by rw [D.py]
@[simp] theorem py_lst (xs : List D) : (D.lst xs).py = (D.pys xs).map .list := by rw [D.py]
@[simp] theorem pys_nil : D.pys [] = some [] := by rw [D.pys]
@[simp] theorem pys_cons (x : D) (xs : List D) : D.pys (x :: xs) = (match x.py, D.pys xs with | some a, some r => some (a :: r) | _, _ => none) := by rw [D.pys] <;> rfl
@[simp] theorem pys_ints (o : List Int) : D.pys (o.map .int) = some (o.map .int) := pys_map fun _ _ => py_int _
@[simp] theorem pys_tups (os : List (List Int)) : D.pys (os.map fun o => .tup (o.map .int)) = some (os.map fun o => .tuple (o.map .int)) := pys_map fun o _ => by rw [py_tup, pys_ints] <;> rfl
@[simp] theorem pys_strs (os : List Str) : D.pys (os.map .str) = some (os.map .str) := pys_map fun o _ => py_str _
theorem cla_map {α : Type} {g : α → PyData} : ∀ {xs : List α}, (∀ x ∈ xs, (g x).canLay0 = true) → PyData.canLayAll0 (xs.map g) = true
  | [], _ => rfl
  | x :: xs, h => by
    rw [List.map_cons, PyData.canLayAll0, h x List.mem_cons_self, cla_map fun y hy => h y (List.mem_cons_of_mem _ hy)]
    rfl
theorem dpa_map {α : Type} {g : α → PyData} {k : Nat} : ∀ {xs : List α}, (∀ x ∈ xs, (g x).depth ≤ k) → PyData.depthAll (xs.map g) ≤ k
  | [], _ => Nat.zero_le _
  | x :: xs, h => by
    rw [List.map_cons, PyData.depthAll]
    exact Nat.max_le.mpr ⟨h x List.mem_cons_self, dpa_map fun y hy => h y (List.mem_cons_of_mem _ hy)⟩
theorem eva_map {α : Type} [DecidableEq α] {g : α → PyData} (h : ∀ x y, PyData.eqv (g x) (g y) = decide (x = y)) : ∀ {xs ys : List α}, PyData.eqvAll (xs.map g) (ys.map g) = decide (xs = ys)
  | [], [] => by simp [PyData.eqvAll]
  | [], _ :: _ => by simp [PyData.eqvAll]
  | _ :: _, [] => by simp [PyData.eqvAll]
  | x :: xs, y :: ys => by
    rw [List.map_cons, List.map_cons, PyData.eqvAll, h, eva_map h]
    simp
/-- an encoding: == is = -/
class Enc (α : Type) [DecidableEq α] where
  en : α → D
  pd : α → PyData
  dp : Nat
  py : ∀ x, (en x).py = some (pd x)
  ok : α → Prop
  sh : ∀ x, ok x → (pd x).canLay0 = true
  de : ∀ x, (pd x).depth ≤ dp
  eq : ∀ x y, PyData.eqv (pd x) (pd y) = decide (x = y)
theorem eqB_enc {α : Type} [DecidableEq α] [I : Enc α] (hd : I.dp ≤ 64) (x y : α) (hx : I.ok x) (hy : I.ok y) : eqB (I.en x) (I.en y) = some (decide (x = y)) := by
  unfold eqB
  rw [I.py, I.py]
  dsimp only
  have q : ∀ x, I.ok x → SeqAt.shaped (I.pd x) = true := fun x h => by
    unfold SeqAt.shaped
    rw [I.sh x h]
    simpa using Nat.le_trans (I.de x) hd
  rw [q x hx, q y hy, I.eq]
  rfl
theorem inB_enc {α : Type} [DecidableEq α] [I : Enc α] (hd : I.dp ≤ 63) (x : α) (ys : List α) (hx : I.ok x) (hy : ∀ y ∈ ys, I.ok y) : inB (I.en x) (ys.map I.en) = some (decide (x ∈ ys)) := by
  unfold inB
  rw [I.py, pys_map fun y _ => I.py y]
  dsimp only
  have q : SeqAt.shaped (I.pd x) = true := by
    unfold SeqAt.shaped
    rw [I.sh x hx]
    have := I.de x
    simp
    omega
  have q2 : SeqAt.shaped (.list (ys.map I.pd)) = true := by
    unfold SeqAt.shaped
    have h1 := cla_map (g := I.pd) (xs := ys) fun y h => I.sh y (hy y h)
    have h2 := dpa_map (g := I.pd) (k := 63) (xs := ys) fun y h => Nat.le_trans (I.de y) hd
    rw [PyData.canLay0, h1, PyData.depth]
    simp
    omega
  rw [q, q2]
  simp only [Bool.and_self, if_true, Option.some.injEq, List.any_map]
  rw [Bool.eq_iff_iff]
  simp only [List.any_eq_true, Function.comp, I.eq, decide_eq_true_eq]
  exact ⟨fun ⟨y, h1, h2⟩ => h2 ▸ h1, fun h => ⟨x, h, rfl⟩⟩
instance encInt : Enc Int where
  en := .int
  pd := .int
  dp := 0
  py := fun _ => py_int _
  ok := fun _ => True
  sh := fun _ _ => rfl
  de := fun _ => Nat.le_refl _
  eq := fun x y => by simp [PyData.eqv, BEq.beq]
instance encStr : Enc Str where
  en := .str
  pd := .str
  dp := 0
  py := fun _ => py_str _
  ok := fun x => PyData.strOk x = true
  sh := fun x h => by rw [PyData.canLay0]; exact h
  de := fun _ => Nat.le_refl _
  eq := fun x y => by rw [PyData.eqv]; rfl
/-- as a list -/
@[reducible] def encLst (α : Type) [DecidableEq α] [I : Enc α] : Enc (List α) where
  en := fun xs => .lst (xs.map I.en)
  pd := fun xs => .list (xs.map I.pd)
  dp := I.dp + 1
  py := fun xs => by rw [py_lst, pys_map fun y _ => I.py y] <;> rfl
  ok := fun xs => ∀ x ∈ xs, I.ok x
  sh := fun xs h => by rw [PyData.canLay0]; exact cla_map fun y hy => I.sh y (h y hy)
  de := fun xs => by rw [PyData.depth]; exact Nat.add_le_add_right (dpa_map fun y _ => I.de y) 1
  eq := fun x y => by rw [PyData.eqv]; exact eva_map I.eq
/-- as a tuple -/
@[reducible] def encTup (α : Type) [DecidableEq α] [I : Enc α] : Enc (List α) where
  en := fun xs => .tup (xs.map I.en)
  pd := fun xs => .tuple (xs.map I.pd)
  dp := I.dp + 1
  py := fun xs => by rw [py_tup, pys_map fun y _ => I.py y] <;> rfl
  ok := fun xs => ∀ x ∈ xs, I.ok x
  sh := fun xs h => by rw [PyData.canLay0]; exact cla_map fun y hy => I.sh y (h y hy)
  de := fun xs => by rw [PyData.depth]; exact Nat.add_le_add_right (dpa_map fun y _ => I.de y) 1
  eq := fun x y => by rw [PyData.eqv]; exact eva_map I.eq
/-- an outcome -/
abbrev oD (o : List Int) : D := .tup (o.map .int)
@[simp] theorem eqB_o (a b : List Int) : eqB (oD a) (oD b) = some (decide (a = b)) := eqB_enc (I := encTup Int) (by decide) a b (fun _ _ => trivial) (fun _ _ => trivial)
@[simp] theorem eqB_os (a b : List (List Int)) : eqB (.lst (a.map oD)) (.lst (b.map oD)) = some (decide (a = b)) := eqB_enc (I := @encLst (List Int) _ (encTup Int)) (by decide) a b (fun _ _ _ _ => trivial) (fun _ _ _ _ => trivial)
@[simp] theorem eqB_is (a b : List Int) : eqB (.lst (a.map .int)) (.lst (b.map .int)) = some (decide (a = b)) := eqB_enc (I := encLst Int) (by decide) a b (fun _ _ => trivial) (fun _ _ => trivial)
theorem eqB_ss (a b : List Str) (ha : ∀ x ∈ a, PyData.strOk x = true) (hb : ∀ x ∈ b, PyData.strOk x = true) : eqB (.lst (a.map .str)) (.lst (b.map .str)) = some (decide (a = b)) := eqB_enc (I := encLst Str) (by decide) a b ha hb
@[simp] theorem inB_o (a : List Int) (b : List (List Int)) : inB (oD a) (b.map oD) = some (decide (a ∈ b)) := (inB_enc (I := encTup Int) (by decide) a b (fun _ _ => trivial) (fun _ _ _ _ => trivial)).trans (by congr)
theorem inB_s (a : Str) (b : List Str) (ha : PyData.strOk a = true) (hb : ∀ x ∈ b, PyData.strOk x = true) : inB (.str a) (b.map .str) = some (decide (a ∈ b)) := inB_enc (I := encStr) (by decide) a b ha hb
@[simp] theorem eqB_int (a b : Int) : eqB (.int a) (.int b) = some (decide (a = b)) := eqB_enc (I := encInt) (by decide) a b trivial trivial
/-- the same on both sides -/
theorem eqB_refl {x : D} {a : PyData} (h : x.py = some a) (hs : SeqAt.shaped a = true) : eqB x x = some true := by
  unfold eqB
  rw [h]
  dsimp only
  rw [hs]
  simp [SeqAt.eqv_refl a (SeqAt.canLay_of_shaped hs)]
/-! ### by constructors -/
section
variable {m : Mem} {g : Gl}
@[simp] theorem k_vw_non  : vw m .non = .non := Eq.trans rfl rfl
@[simp] theorem k_vw_bl {b : Bool} : vw m (.bl b) = (.bl b) := Eq.trans rfl rfl
@[simp] theorem k_vw_int {i : Int} : vw m (.int i) = (.int i) := Eq.trans rfl rfl
@[simp] theorem k_vw_str {x : Str} : vw m (.str x) = (.str x) := Eq.trans rfl rfl
@[simp] theorem k_vw_tup {xs : List D} : vw m (.tup xs) = (.tup xs) := Eq.trans rfl rfl
@[simp] theorem k_vw_lst {xs : List D} : vw m (.lst xs) = (.lst xs) := Eq.trans rfl rfl
@[simp] theorem k_vw_dic {q : DK} {kvs : List (D × D)} : vw m (.dic q kvs) = (.dic q kvs) := Eq.trans rfl rfl
@[simp] theorem k_vw_scr {xs : List D} : vw m (.scr xs) = (.scr xs) := Eq.trans rfl rfl
@[simp] theorem k_vw_cls {c : String} : vw m (.cls c) = (.cls c) := Eq.trans rfl rfl
@[simp] theorem k_vw_ins {c : String} {fs : List (String × D)} : vw m (.ins c fs) = (.ins c fs) := Eq.trans rfl rfl
@[simp] theorem k_vw_ref {n : Nat} {xs : List D} (h : m[n]? = some (.lst xs)) : vw m (.ref n) = .lst xs := by unfold vw; dsimp only; rw [h]
theorem k_vw_refd {n : Nat} {q : DK} {kvs : List (D × D)} (h : m[n]? = some (.dic q kvs)) : vw m (.ref n) = .dic q kvs := by unfold vw; dsimp only; rw [h]
theorem k_vw_refi {n : Nat} {c : String} {fs : List (String × D)} (h : m[n]? = some (.ins c fs)) : vw m (.ref n) = .ins c fs := by unfold vw; dsimp only; rw [h]
@[simp] theorem k_cmpG_non  {op : CmpOp} {y : D} : cmpG g op .non y m = opt (cmpP op .non (vw m y)) m := Eq.trans rfl rfl
@[simp] theorem k_binG_non  {op : Operator} {y : D} : binG g op .non y m = opt (binP op .non (vw m y)) m := Eq.trans rfl rfl
@[simp] theorem k_cmpG_bl {b : Bool} {op : CmpOp} {y : D} : cmpG g op (.bl b) y m = opt (cmpP op (.bl b) (vw m y)) m := Eq.trans rfl rfl
@[simp] theorem k_binG_bl {b : Bool} {op : Operator} {y : D} : binG g op (.bl b) y m = opt (binP op (.bl b) (vw m y)) m := Eq.trans rfl rfl
@[simp] theorem k_cmpG_int {i : Int} {op : CmpOp} {y : D} : cmpG g op (.int i) y m = opt (cmpP op (.int i) (vw m y)) m := Eq.trans rfl rfl
@[simp] theorem k_binG_int {i : Int} {op : Operator} {y : D} : binG g op (.int i) y m = opt (binP op (.int i) (vw m y)) m := Eq.trans rfl rfl
@[simp] theorem k_cmpG_str {x : Str} {op : CmpOp} {y : D} : cmpG g op (.str x) y m = opt (cmpP op (.str x) (vw m y)) m := Eq.trans rfl rfl
@[simp] theorem k_binG_str {x : Str} {op : Operator} {y : D} : binG g op (.str x) y m = opt (binP op (.str x) (vw m y)) m := Eq.trans rfl rfl
@[simp] theorem k_cmpG_tup {xs : List D} {op : CmpOp} {y : D} : cmpG g op (.tup xs) y m = opt (cmpP op (.tup xs) (vw m y)) m := Eq.trans rfl rfl
@[simp] theorem k_binG_tup {xs : List D} {op : Operator} {y : D} : binG g op (.tup xs) y m = opt (binP op (.tup xs) (vw m y)) m := Eq.trans rfl rfl
@[simp] theorem k_cmpG_lst {xs : List D} {op : CmpOp} {y : D} : cmpG g op (.lst xs) y m = opt (cmpP op (.lst xs) (vw m y)) m := Eq.trans rfl rfl
@[simp] theorem k_binG_lst {xs : List D} {op : Operator} {y : D} : binG g op (.lst xs) y m = opt (binP op (.lst xs) (vw m y)) m := Eq.trans rfl rfl
@[simp] theorem k_cmpG_dic {q : DK} {kvs : List (D × D)} {op : CmpOp} {y : D} : cmpG g op (.dic q kvs) y m = opt (cmpP op (.dic q kvs) (vw m y)) m := Eq.trans rfl rfl
@[simp] theorem k_binG_dic {q : DK} {kvs : List (D × D)} {op : Operator} {y : D} : binG g op (.dic q kvs) y m = opt (binP op (.dic q kvs) (vw m y)) m := Eq.trans rfl rfl
@[simp] theorem k_cmpG_scr {xs : List D} {op : CmpOp} {y : D} : cmpG g op (.scr xs) y m = opt (cmpP op (.scr xs) (vw m y)) m := Eq.trans rfl rfl
@[simp] theorem k_binG_scr {xs : List D} {op : Operator} {y : D} : binG g op (.scr xs) y m = opt (binP op (.scr xs) (vw m y)) m := Eq.trans rfl rfl
@[simp] theorem k_cmpG_cls {c : String} {op : CmpOp} {y : D} : cmpG g op (.cls c) y m = opt (cmpP op (.cls c) (vw m y)) m := Eq.trans rfl rfl
@[simp] theorem k_binG_cls {c : String} {op : Operator} {y : D} : binG g op (.cls c) y m = opt (binP op (.cls c) (vw m y)) m := Eq.trans rfl rfl
theorem k_cmpG_ref {n : Nat} {xs : List D} {op : CmpOp} {y : D} (h : vw m (.ref n) = .lst xs) : cmpG g op (.ref n) y m = opt (cmpP op (.lst xs) (vw m y)) m := by unfold cmpG; rw [h]
theorem k_cmpG_refd {n : Nat} {q : DK} {kvs : List (D × D)} {op : CmpOp} {y : D} (h : vw m (.ref n) = .dic q kvs) : cmpG g op (.ref n) y m = opt (cmpP op (.dic q kvs) (vw m y)) m := by unfold cmpG; rw [h]
@[simp] theorem k_truth_non  : truth .non = some false := Eq.trans rfl rfl
@[simp] theorem k_truth_bl {b : Bool} : truth (.bl b) = some b := Eq.trans rfl rfl
@[simp] theorem k_truth_int {i : Int} : truth (.int i) = some (i != 0) := Eq.trans rfl rfl
@[simp] theorem k_truth_tup {xs : List D} : truth (.tup xs) = some !xs.isEmpty := Eq.trans rfl rfl
@[simp] theorem k_truth_lst {xs : List D} : truth (.lst xs) = some !xs.isEmpty := Eq.trans rfl rfl
@[simp] theorem k_sqP_listL {xs : List D} : sqP (.list false) (.lst xs) m = .ok (.lst xs) m := Eq.trans rfl rfl
@[simp] theorem k_sqP_listT {xs : List D} : sqP (.list false) (.tup xs) m = .ok (.lst xs) m := Eq.trans rfl rfl
@[simp] theorem k_sqP_listLm {xs : List D} : sqP (.list true) (.lst xs) m = .ok (.ref m.length) (m ++ [.lst xs]) := Eq.trans rfl rfl
@[simp] theorem k_sqP_tupL {xs : List D} : sqP .tuple (.lst xs) m = .ok (.tup xs) m := Eq.trans rfl rfl
@[simp] theorem k_sqP_tupT {xs : List D} : sqP .tuple (.tup xs) m = .ok (.tup xs) m := Eq.trans rfl rfl
@[simp] theorem k_sqP_all {xs : List D} : sqP .all (.lst xs) m = opt ((bools xs).map fun bs => .bl (bs.all id)) m := Eq.trans rfl rfl
@[simp] theorem k_sqP_any {xs : List D} : sqP .any (.lst xs) m = opt ((bools xs).map fun bs => .bl (bs.any id)) m := Eq.trans rfl rfl
@[simp] theorem k_sqP_sum {xs : List D} : sqP .sum (.lst xs) m = opt ((intsD xs).map fun is => .int is.sum) m := Eq.trans rfl rfl
@[simp] theorem k_bools_map {a : Type} {f : a → Bool} : ∀ {xs : List a}, bools (xs.map fun x => .bl (f x)) = some (xs.map f)
  | [] => rfl
  | x :: xs => by rw [List.map_cons, bools, k_bools_map]; rfl
@[simp] theorem k_bools_nil : bools [] = some [] := Eq.trans rfl rfl
@[simp] theorem k_bools_cons {b : Bool} {xs : List D} : bools (.bl b :: xs) = (bools xs).map (b :: ·) := Eq.trans rfl rfl
@[simp] theorem k_intsD_map : ∀ {xs : List Int}, intsD (xs.map D.int) = some xs
  | [] => rfl
  | x :: xs => by rw [List.map_cons, intsD, k_intsD_map]; rfl
@[simp] theorem k_walkP_lst {xs : List D} : walkP (.lst xs) = some xs := Eq.trans rfl rfl
@[simp] theorem k_walkP_tup {xs : List D} : walkP (.tup xs) = some xs := Eq.trans rfl rfl
@[simp] theorem k_seqP_lst {xs : List D} : seqP (.lst xs) = some xs := Eq.trans rfl rfl
@[simp] theorem k_seqP_tup {xs : List D} : seqP (.tup xs) = some xs := Eq.trans rfl rfl
@[simp] theorem k_biLen_lst {xs : List D} : biLen g [.lst xs] m = .ok (.int xs.length) m := Eq.trans rfl rfl
@[simp] theorem k_biLen_tup {xs : List D} : biLen g [.tup xs] m = .ok (.int xs.length) m := Eq.trans rfl rfl
@[simp] theorem k_biLen_scr {xs : List D} : biLen g [.scr xs] m = .ok (.int xs.length) m := Eq.trans rfl rfl
@[simp] theorem k_biP_len {vs : List D} : biP g .len vs m = biLen g vs m := Eq.trans rfl rfl
@[simp] theorem k_biP_abs {i : Int} : biP g .abs [.int i] m = .ok (.int (if i < 0 then -i else i)) m := Eq.trans rfl rfl
@[simp] theorem k_biP_int {i : Int} : biP g .int [.int i] m = .ok (.int i) m := Eq.trans rfl rfl
@[simp] theorem k_biP_max {i j : Int} : biP g .max2 [.int i, .int j] m = .ok (.int (if j > i then j else i)) m := Eq.trans rfl rfl
@[simp] theorem k_biP_min {i j : Int} : biP g .min2 [.int i, .int j] m = .ok (.int (if j < i then j else i)) m := Eq.trans rfl rfl
@[simp] theorem k_binP_addI {a b : Int} : binP .Add (.int a) (.int b) = some (.int (a + b)) := Eq.trans rfl rfl
@[simp] theorem k_binP_subI {a b : Int} : binP .Sub (.int a) (.int b) = some (.int (a - b)) := Eq.trans rfl rfl
@[simp] theorem k_binP_mulI {a b : Int} : binP .Mult (.int a) (.int b) = if mulOk a b then some (.int (a * b)) else none := Eq.trans rfl rfl
@[simp] theorem k_binP_modI {a b : Int} : binP .Mod (.int a) (.int b) = if b ≠ 0 then some (.int (a.fmod b)) else none := Eq.trans rfl rfl
@[simp] theorem k_binP_divI {a b : Int} : binP .FloorDiv (.int a) (.int b) = if divOk b then some (.int (a.fdiv b)) else none := Eq.trans rfl rfl
@[simp] theorem k_binP_powI {a b : Int} : binP .Pow (.int a) (.int b) = if powOk a b then some (.int (a ^ b.toNat)) else none := Eq.trans rfl rfl
@[simp] theorem k_binP_addL {a b : List D} : binP .Add (.lst a) (.lst b) = if lenOk (a.length + b.length) then some (.lst (a ++ b)) else none := Eq.trans rfl rfl
@[simp] theorem k_binP_addT {a b : List D} : binP .Add (.tup a) (.tup b) = if lenOk (a.length + b.length) then some (.tup (a ++ b)) else none := Eq.trans rfl rfl
@[simp] theorem k_cmpP_eq {x y : D} : cmpP .Eq x y = eqC x y := Eq.trans rfl rfl
@[simp] theorem k_cmpP_ne {x y : D} : cmpP .NotEq x y = (eqB x y).map not := Eq.trans rfl rfl
@[simp] theorem k_cmpP_ltI {a b : Int} : cmpP .Lt (.int a) (.int b) = some (decide (a < b)) := Eq.trans rfl rfl
@[simp] theorem k_cmpP_gtI {a b : Int} : cmpP .Gt (.int a) (.int b) = some (decide (b < a)) := Eq.trans rfl rfl
@[simp] theorem k_cmpP_leI {a b : Int} : cmpP .LtE (.int a) (.int b) = some (decide (a ≤ b)) := Eq.trans rfl rfl
@[simp] theorem k_cmpP_geI {a b : Int} : cmpP .GtE (.int a) (.int b) = some (decide (b ≤ a)) := Eq.trans rfl rfl
@[simp] theorem k_cmpP_inL {x : D} {ys : List D} : cmpP .In x (.lst ys) = inB x ys := Eq.trans rfl rfl
@[simp] theorem k_cmpP_ninL {x : D} {ys : List D} : cmpP .NotIn x (.lst ys) = (inB x ys).map not := Eq.trans rfl rfl
theorem k_eqC_of {x y : D} {b : Bool} (h : eqB x y = some b) : eqC x y = some b := by unfold eqC; rw [h]
@[simp] theorem k_eqC_int (a b : Int) : eqC (.int a) (.int b) = some (decide (a = b)) := k_eqC_of (eqB_int a b)
@[simp] theorem k_eqC_o (a b : List Int) : eqC (oD a) (oD b) = some (decide (a = b)) := k_eqC_of (eqB_o a b)
@[simp] theorem k_eqC_os (a b : List (List Int)) : eqC (.lst (a.map oD)) (.lst (b.map oD)) = some (decide (a = b)) := k_eqC_of (eqB_os a b)
@[simp] theorem k_eqC_is (a b : List Int) : eqC (.lst (a.map .int)) (.lst (b.map .int)) = some (decide (a = b)) := k_eqC_of (eqB_is a b)
@[simp] theorem k_attG_ins {c f : String} {fs : List (String × D)} : attG (.ins c fs) f m = fs.lookup f := Eq.trans rfl rfl
@[simp] theorem k_arr_nil {a : Type} {vs : List a} : arr [] vs = some vs := Eq.trans rfl rfl
@[simp] theorem k_subP_lst {xs : List D} {i : Int} : subP (.lst xs) (.int i) = atI xs i := Eq.trans rfl rfl
@[simp] theorem k_subP_tup {xs : List D} {i : Int} : subP (.tup xs) (.int i) = atI xs i := Eq.trans rfl rfl
@[simp] theorem k_slcP_lst {xs : List D} {lo hi : Option Int} : slcP (.lst xs) lo hi = some (.lst (cut xs lo hi)) := Eq.trans rfl rfl
@[simp] theorem k_slcP_tup {xs : List D} {lo hi : Option Int} : slcP (.tup xs) lo hi = some (.tup (cut xs lo hi)) := Eq.trans rfl rfl
theorem k_atI_nat {a : Type} {xs : List a} {k : Nat} : atI xs (k : Int) = xs[k]? := by
  unfold atI ixN
  by_cases h : k < xs.length
  · rw [if_pos (by omega), if_pos (by omega)]
    simp
  · rw [if_pos (by omega), if_neg (by omega)]
    simp
    omega
@[simp] theorem k_atI_lit0 {a : Type} {xs : List a} : atI xs 0 = xs[0]? := k_atI_nat (k := 0)
@[simp] theorem k_atI_lit1 {a : Type} {xs : List a} : atI xs 1 = xs[1]? := k_atI_nat (k := 1)
@[simp] theorem k_atI_lit2 {a : Type} {xs : List a} : atI xs 2 = xs[2]? := k_atI_nat (k := 2)
@[simp] theorem k_ixN_lit0 {n : Nat} : ixN n 0 = if 0 < n then some 0 else none := by unfold ixN; simp
@[simp] theorem k_ixN_lit1 {n : Nat} : ixN n 1 = if 1 < n then some 1 else none := by unfold ixN; simp; congr 1; simp; omega
@[simp] theorem k_cut_none {a : Type} {xs : List a} : cut xs none none = xs := by unfold cut HT.sIx; simp
theorem k_cut_to {a : Type} {xs : List a} {k : Nat} : cut xs none (some (k : Int)) = xs.take k := by
  unfold cut
  rw [HT.sIx_none, HT.sIx_nat]
  simp
theorem k_cut_from {a : Type} {xs : List a} {k : Nat} : cut xs (some (k : Int)) none = xs.drop k := by
  unfold cut
  rw [HT.sIx_none, HT.sIx_nat]
  by_cases h : k ≤ xs.length
  · rw [Nat.min_eq_left h, List.take_of_length_le (by simp)]
  · rw [Nat.min_eq_right (by omega), List.drop_of_length_le (Nat.le_refl _), List.drop_of_length_le (by omega)]
    simp
@[simp] theorem k_bindT_one {i : Nat} {d : D} {e : Ev} : bindT (.one i) d e = some (e.set i (some d)) := Eq.trans rfl rfl
@[simp] theorem k_bindT_tup {is : List Nat} {xs : List D} {e : Ev} : bindT (.many is) (.tup xs) e = setAll is xs e := Eq.trans rfl rfl
@[simp] theorem k_setAll_nil {e : Ev} : setAll [] [] e = some e := Eq.trans rfl rfl
@[simp] theorem k_setAll_cons {i : Nat} {is : List Nat} {d : D} {ds : List D} {e : Ev} : setAll (i :: is) (d :: ds) e = setAll is ds (e.set i (some d)) := Eq.trans rfl rfl
@[simp] theorem k_wipeE_nil {e : Ev} : wipeE e [] = e := Eq.trans rfl rfl
@[simp] theorem k_wipeE_cons {e : Ev} {v : Nat} {vs : List Nat} : wipeE e (v :: vs) = (wipeE e vs).set v none := Eq.trans rfl rfl
@[simp] theorem k_newL_false {xs : List D} : newL false xs m = if lenOk xs.length then .ok (.lst xs) m else .no := Eq.trans rfl rfl
@[simp] theorem k_newL_true {xs : List D} : newL true xs m = if lenOk xs.length then .ok (.ref m.length) (m ++ [.lst xs]) else .no := Eq.trans rfl rfl
theorem k_lenOk_of {n : Nat} (h : n ≤ 1000000) : lenOk n = true := by
  unfold lenOk
  have : (1000000 : Nat) ≤ sizeLine := by decide
  simp
  omega
theorem k_fmod_pos {a b : Int} (h : 0 ≤ b) : a.fmod b = a % b := Int.fmod_eq_emod_of_nonneg a h
theorem k_fdiv_pos {a b : Int} (h : 0 ≤ b) : a.fdiv b = a / b := Int.fdiv_eq_ediv_of_nonneg a h
end
section
variable {m : Mem} {a : Type} {g : a → D} {f : D → Mem → Res (List D)}
theorem compK_each (h : a → D) {xs : List a} (hh : ∀ x ∈ xs, f (g x) m = .ok [h x] m) : compL f (xs.map g) m = .ok (xs.map h) m := compL_each h xs hh
theorem compK_filter (h : a → D) (p : a → Bool) {xs : List a} (hh : ∀ x ∈ xs, f (g x) m = .ok (if p x then [h x] else []) m) : compL f (xs.map g) m = .ok ((xs.filter p).map h) m := compL_filter h p xs hh
theorem compK_flat (h : a → List D) {xs : List a} (hh : ∀ x ∈ xs, f (g x) m = .ok (h x) m) : compL f (xs.map g) m = .ok (xs.flatMap h) m := compL_map h xs hh
theorem zip_map {b : Type} {f : b → D} : ∀ {xs : List D} {ys : List b}, List.zipWith (fun p q => D.tup [p, q]) xs (ys.map f) = (List.zip xs ys).map fun p => D.tup [p.1, f p.2]
  | [], _ => by simp
  | _ :: _, [] => by simp
  | x :: xs, y :: ys => by simp [zip_map]
theorem enum_map {b : Type} {f : b → D} {xs : List b} : ((xs.map f).zipIdx.map fun p => D.tup [.int (p.2 : Int), p.1]) = xs.zipIdx.map fun p => D.tup [.int (p.2 : Int), f p.1] := by
  rw [List.zipIdx_map, List.map_map]
  rfl
theorem rng_map {n : Nat} : rng 0 n = (List.range n).map fun (k : Nat) => D.int (k : Int) := by unfold rng; simp
end
end IP

/-! IqE -/
set_option Elab.async false
set_option linter.all false
set_option maxRecDepth 100000
set_option maxHeartbeats 4000000
/-! IqE: more of the same. -/
namespace IP
open PySem L2
@[simp] theorem k_cast {a b : Nat} : ((a : Int) = (b : Int)) = (a = b) := propext ⟨fun h => by omega, fun h => by omega⟩
theorem log2_le {n k : Nat} (h : n < 2 ^ k) (hk : 0 < k) : n.log2 < k := by
  by_cases h0 : n = 0
  · subst h0
    simpa using hk
  · exact (Nat.log2_lt h0).mpr h
theorem mulOk_of {a b : Int} (ha : a.natAbs < 2 ^ 200) (hb : b.natAbs < 2 ^ 200) : mulOk a b = true := by
  have h1 := log2_le ha (by decide)
  have h2 := log2_le hb (by decide)
  unfold mulOk
  simp only [decide_eq_true_eq]
  omega
theorem powOk_of {a b : Int} (ha : a.natAbs < 2 ^ 200) (hb : 0 ≤ b) (hb2 : b ≤ 100) : powOk a b = true := by
  have h1 := log2_le ha (by decide)
  unfold powOk
  simp only [decide_eq_true_eq, Bool.and_eq_true]
  refine ⟨hb, ?_⟩
  have : ((a.natAbs.log2 : Int) + 1) * b ≤ 201 * 100 := Int.mul_le_mul (by omega) hb2 hb (by decide)
  omega
theorem divOk_of {b : Int} (hb : 0 < b) (h : b < 2 ^ 200) : divOk b = true := by
  have h1 := log2_le (n := b.natAbs) (k := 200) (by omega) (by decide)
  unfold divOk
  simp only [decide_eq_true_eq, Bool.and_eq_true]
  omega
theorem rngOk_of {i : Int} (h : 0 ≤ i) (h2 : i ≤ 1000000) : rngOk i = true := by
  unfold rngOk
  simp only [decide_eq_true_eq, Bool.and_eq_true]
  omega
theorem set_same {m : Mem} {r : Nat} {x y : MO} : (m.set r x).set r y = m.set r y := List.set_set ..
theorem set_get {m : Mem} {r : Nat} {x z : MO} (h : m[r]? = some z) : (m.set r x)[r]? = some x := by
  have hr : r < m.length := by
    rcases Nat.lt_or_ge r m.length with h' | h'
    · exact h'
    · rw [List.getElem?_eq_none h'] at h; cases h
  rw [List.getElem?_set_self hr]
@[simp] theorem k_lookup {a k : String} {b : D} {es : List (String × D)} : List.lookup a ((k, b) :: es) = if a = k then some b else es.lookup a := by
  rw [List.lookup]
  by_cases h : a = k
  · simp [h]
  · have : (a == k) = false := by simpa using h
    simp [h, this]
@[simp] theorem k_lookup_nil {a : String} : List.lookup a ([] : List (String × D)) = none := Eq.trans rfl rfl
/-- any plain value -/
def nice : D → Bool
  | .cls _ | .ref _ | .scr _ => false
  | _ => true
def isIn : D → Bool
  | .int _ => true
  | _ => false
@[simp] theorem nice_non  : nice .non = true := by rw [nice] <;> simp
@[simp] theorem isIn_non  : isIn .non = false := Eq.trans rfl rfl
@[simp] theorem nice_bl {b : Bool} : nice (.bl b) = true := by rw [nice] <;> simp
@[simp] theorem isIn_bl {b : Bool} : isIn (.bl b) = false := Eq.trans rfl rfl
@[simp] theorem nice_int {i : Int} : nice (.int i) = true := by rw [nice] <;> simp
@[simp] theorem isIn_int {i : Int} : isIn (.int i) = true := Eq.trans rfl rfl
@[simp] theorem nice_str {x : Str} : nice (.str x) = true := by rw [nice] <;> simp
@[simp] theorem isIn_str {x : Str} : isIn (.str x) = false := Eq.trans rfl rfl
@[simp] theorem nice_tup {xs : List D} : nice (.tup xs) = true := by rw [nice] <;> simp
@[simp] theorem isIn_tup {xs : List D} : isIn (.tup xs) = false := Eq.trans rfl rfl
@[simp] theorem nice_lst {xs : List D} : nice (.lst xs) = true := by rw [nice] <;> simp
@[simp] theorem isIn_lst {xs : List D} : isIn (.lst xs) = false := Eq.trans rfl rfl
@[simp] theorem nice_dic {q : DK} {kvs : List (D × D)} : nice (.dic q kvs) = true := by rw [nice] <;> simp
@[simp] theorem isIn_dic {q : DK} {kvs : List (D × D)} : isIn (.dic q kvs) = false := Eq.trans rfl rfl
@[simp] theorem nice_ins {c : String} {fs : List (String × D)} : nice (.ins c fs) = true := by rw [nice] <;> simp
@[simp] theorem isIn_ins {c : String} {fs : List (String × D)} : isIn (.ins c fs) = false := Eq.trans rfl rfl
@[simp] theorem nice_scr {xs : List D} : nice (.scr xs) = false := by rw [nice] <;> simp
@[simp] theorem isIn_scr {xs : List D} : isIn (.scr xs) = false := Eq.trans rfl rfl
@[simp] theorem nice_cls {c : String} : nice (.cls c) = false := by rw [nice] <;> simp
@[simp] theorem isIn_cls {c : String} : isIn (.cls c) = false := Eq.trans rfl rfl
@[simp] theorem nice_ref {n : Nat} : nice (.ref n) = false := by rw [nice] <;> simp
@[simp] theorem isIn_ref {n : Nat} : isIn (.ref n) = false := Eq.trans rfl rfl
@[simp] theorem forL_nil {f : D → Ev → Mem → Rs} {e : Ev} {m : Mem} : forL f [] e m = .nx e m := Eq.trans rfl rfl
theorem forL_nx {f : D → Ev → Mem → Rs} {d : D} {ds : List D} {e e1 : Ev} {m m1 : Mem} (h : f d e m = .nx e1 m1) : forL f (d :: ds) e m = forL f ds e1 m1 := by rw [forL, h]
theorem forL_ex {f : D → Ev → Mem → Rs} {d : D} {ds : List D} {e e1 : Ev} {m m1 : Mem} {x : Exc} (h : f d e m = .ex x e1 m1) : forL f (d :: ds) e m = .ex x e1 m1 := by rw [forL, h]
theorem forL_rt {f : D → Ev → Mem → Rs} {d : D} {ds : List D} {e : Ev} {m m1 : Mem} {x : D} (h : f d e m = .rt x m1) : forL f (d :: ds) e m = .rt x m1 := by rw [forL, h]
@[simp] theorem k_all_true {a : Type} {xs : List a} : (xs.all fun _ => true) = true := by simp
theorem fin_new {n : Nat} {m : Mem} {c : MO} (h : m.length = n) : fin n (.ref n) (m ++ [c]) = (.ref n, m ++ [c]) := by
  subst h
  have h1 : ¬ (m ++ [c]).length ≤ m.length := by simp
  have h2 : (D.und m.length (.ref m.length) && IP.allB m.length ((m ++ [c]).take m.length)) = false := by
    rw [D.und]
    simp
  unfold fin
  rw [if_neg h1, h2]
  simp
theorem fin_val {n : Nat} {d : D} {m : Mem} (hd : ∀ k, d ≠ .ref k) : fin n d m = (d, m) ∨ fin n d m = (d, m.take n) := by
  unfold fin
  split
  · exact .inl rfl
  · split
    · exact .inr rfl
    · cases d <;> first | exact .inl rfl | exact absurd rfl (hd _)
theorem finX_val {n : Nat} {x : Exc} {m : Mem} : finX n x m = m ∨ finX n x m = m.take n := by
  unfold finX
  split
  · exact .inl rfl
  · split
    · exact .inr rfl
    · exact .inl rfl
@[simp high] theorem k_pow3 {a : Int} : binP .Pow (.int a) (.int 3) = if powOk a 3 then some (.int (a ^ 3)) else none := Eq.trans rfl rfl
@[simp high] theorem k_pow1018 : binP .Pow (.int 10) (.int 18) = some (.int 1000000000000000000) := Eq.trans (by rfl) rfl
theorem set_id {m : Mem} {r : Nat} {x : MO} (h : m[r]? = some x) : m.set r x = m := by
  refine List.ext_getElem? fun i => ?_
  by_cases hi : r = i
  · subst hi
    rw [set_get h, h]
  · rw [List.getElem?_set_ne hi]
/-- pairwise -/
inductive Al {a b : Type} (P : a → b → Prop) : List a → List b → Prop where
  | nil : Al P [] []
  | cons {x : a} {y : b} {xs : List a} {ys : List b} : P x y → Al P xs ys → Al P (x :: xs) (y :: ys)
@[simp] theorem compL_nil {f : D → Mem → Res (List D)} {m : Mem} : compL f [] m = .ok [] m := Eq.trans rfl rfl
theorem compL_ok {f : D → Mem → Res (List D)} {m m1 m2 : Mem} {d : D} {ds y r : List D} (h1 : f d m = .ok y m1) (h2 : compL f ds m1 = .ok r m2) : compL f (d :: ds) m = .ok (y ++ r) m2 := by
  rw [compL, h1]
  dsimp only
  rw [h2]
@[simp] theorem und_int {n : Nat} {i : Int} : D.und n (.int i) = true := by rw [D.und] <;> intros <;> simp_all
@[simp] theorem und_str {n : Nat} {i : Str} : D.und n (.str i) = true := by rw [D.und] <;> intros <;> simp_all
@[simp] theorem und_bl {n : Nat} {i : Bool} : D.und n (.bl i) = true := by rw [D.und] <;> intros <;> simp_all
@[simp] theorem und_non {n : Nat} : D.und n .non = true := by rw [D.und] <;> intros <;> simp_all
@[simp] theorem und_tup {n : Nat} {xs : List D} : D.und n (.tup xs) = D.unds n xs := by rw [D.und]
@[simp] theorem und_lst {n : Nat} {xs : List D} : D.und n (.lst xs) = D.unds n xs := by rw [D.und]
@[simp] theorem unds_nil {n : Nat} : D.unds n [] = true := by rw [D.unds]
@[simp] theorem unds_cons {n : Nat} {x : D} {xs : List D} : D.unds n (x :: xs) = (x.und n && D.unds n xs) := by rw [D.unds]
theorem unds_map {a : Type} {f : a → D} {n : Nat} : ∀ {xs : List a}, (∀ x ∈ xs, (f x).und n = true) → D.unds n (xs.map f) = true
  | [], _ => unds_nil
  | x :: xs, h => by
    rw [List.map_cons, unds_cons, h x List.mem_cons_self, unds_map fun y hy => h y (List.mem_cons_of_mem _ hy)]
    rfl
@[simp] theorem unds_ints {n : Nat} {xs : List Int} : D.unds n (xs.map .int) = true := unds_map fun _ _ => und_int
@[simp] theorem unds_os {n : Nat} {xs : List (List Int)} : D.unds n (xs.map oD) = true := unds_map fun _ _ => by rw [und_tup, unds_ints]
@[simp] theorem unds_strs {n : Nat} {xs : List Str} : D.unds n (xs.map .str) = true := unds_map fun _ _ => und_str
@[simp] theorem unds_app {n : Nat} : ∀ {xs ys : List D}, D.unds n (xs ++ ys) = (D.unds n xs && D.unds n ys)
  | [], ys => by simp
  | x :: xs, ys => by rw [List.cons_append, unds_cons, unds_cons, unds_app, Bool.and_assoc]
@[simp] theorem undF_nil {n : Nat} : D.undF n [] = true := by rw [D.undF]
@[simp] theorem undF_cons {n : Nat} {f : String} {x : D} {xs : List (String × D)} : D.undF n ((f, x) :: xs) = (x.und n && D.undF n xs) := by rw [D.undF]
@[simp] theorem und_ins {n : Nat} {c : String} {xs : List (String × D)} : D.und n (.ins c xs) = D.undF n xs := by rw [D.und]
/-- memory without loose ends -/
def WM (m : Mem) : Prop := allB m.length m = true
theorem allB_iff {n : Nat} : ∀ {m : Mem}, allB n m = true ↔ ∀ c ∈ m, c.und n = true
  | [] => by simp [allB]
  | c :: m => by simp [allB, allB_iff]
mutual
theorem und_mono {n k : Nat} (h : n ≤ k) : ∀ {d : D}, d.und n = true → d.und k = true
  | .ref i, q => by
    rw [D.und] at q ⊢
    simp at q ⊢
    omega
  | .tup xs, q => by rw [D.und] at q ⊢; exact unds_mono h q
  | .lst xs, q => by rw [D.und] at q ⊢; exact unds_mono h q
  | .scr xs, q => by rw [D.und] at q ⊢; exact unds_mono h q
  | .dic _ xs, q => by rw [D.und] at q ⊢; exact undK_mono h q
  | .ins _ xs, q => by rw [D.und] at q ⊢; exact undF_mono h q
  | .non, _ => und_non
  | .bl _, _ => und_bl
  | .int _, _ => und_int
  | .str _, _ => und_str
  | .cls _, _ => by rw [D.und] <;> intros <;> simp_all
theorem unds_mono {n k : Nat} (h : n ≤ k) : ∀ {xs : List D}, D.unds n xs = true → D.unds k xs = true
  | [], _ => unds_nil
  | x :: xs, q => by
    rw [unds_cons, Bool.and_eq_true] at q ⊢
    exact ⟨und_mono h q.1, unds_mono h q.2⟩
theorem undK_mono {n k : Nat} (h : n ≤ k) : ∀ {xs : List (D × D)}, D.undK n xs = true → D.undK k xs = true
  | [], _ => by rw [D.undK]
  | (x, y) :: xs, q => by
    rw [D.undK, Bool.and_eq_true, Bool.and_eq_true] at q ⊢
    exact ⟨und_mono h q.1, und_mono h q.2.1, undK_mono h q.2.2⟩
theorem undF_mono {n k : Nat} (h : n ≤ k) : ∀ {xs : List (String × D)}, D.undF n xs = true → D.undF k xs = true
  | [], _ => by rw [D.undF]
  | (_, y) :: xs, q => by
    rw [D.undF, Bool.and_eq_true] at q ⊢
    exact ⟨und_mono h q.1, undF_mono h q.2⟩
end
theorem moU_mono {n k : Nat} (h : n ≤ k) {c : MO} (q : c.und n = true) : c.und k = true := by
  cases c with
  | lst xs => exact unds_mono h q
  | dic d xs => exact undK_mono h q
  | ins c xs => exact undF_mono h q
  | dead => rfl
theorem WM.app {m : Mem} {c : MO} (h : WM m) (hc : c.und (m.length + 1) = true) : WM (m ++ [c]) := by
  unfold WM at h ⊢
  rw [allB_iff] at h ⊢
  intro x hx
  rw [List.length_append, List.length_singleton]
  rcases List.mem_append.mp hx with q | q
  · exact moU_mono (Nat.le_succ _) (h x q)
  · simp at q
    subst q
    exact hc
theorem WM.set {m : Mem} {c : MO} {r : Nat} (h : WM m) (hc : c.und m.length = true) : WM (m.set r c) := by
  unfold WM at h ⊢
  rw [allB_iff] at h ⊢
  intro x hx
  rw [List.length_set]
  rcases List.mem_or_eq_of_mem_set hx with q | q
  · exact h x q
  · subst q
    exact hc
@[simp] theorem lenOk_0 : lenOk 0 = true := by decide +kernel
@[simp] theorem lenOk_1 : lenOk 1 = true := by decide +kernel
@[simp] theorem lenOk_2 : lenOk 2 = true := by decide +kernel
@[simp] theorem lenOk_3 : lenOk 3 = true := by decide +kernel
@[simp] theorem lenOk_4 : lenOk 4 = true := by decide +kernel
@[simp] theorem lenOk_5 : lenOk 5 = true := by decide +kernel
@[simp] theorem lenOk_6 : lenOk 6 = true := by decide +kernel
@[simp] theorem lenOk_7 : lenOk 7 = true := by decide +kernel
@[simp] theorem lenOk_8 : lenOk 8 = true := by decide +kernel
@[simp] theorem lenOk_9 : lenOk 9 = true := by decide +kernel
@[simp] theorem lenOk_10 : lenOk 10 = true := by decide +kernel
@[simp] theorem lenOk_11 : lenOk 11 = true := by decide +kernel
@[simp] theorem lenOk_12 : lenOk 12 = true := by decide +kernel
@[simp] theorem lenOk_13 : lenOk 13 = true := by decide +kernel
@[simp] theorem lenOk_14 : lenOk 14 = true := by decide +kernel
@[simp] theorem lenOk_15 : lenOk 15 = true := by decide +kernel
@[simp] theorem lenOk_16 : lenOk 16 = true := by decide +kernel
@[simp] theorem lenOk_17 : lenOk 17 = true := by decide +kernel
@[simp] theorem lenOk_18 : lenOk 18 = true := by decide +kernel
@[simp] theorem lenOk_19 : lenOk 19 = true := by decide +kernel
@[simp] theorem lenOk_20 : lenOk 20 = true := by decide +kernel
@[simp] theorem lenOk_21 : lenOk 21 = true := by decide +kernel
@[simp] theorem lenOk_22 : lenOk 22 = true := by decide +kernel
@[simp] theorem lenOk_23 : lenOk 23 = true := by decide +kernel
@[simp] theorem lenOk_24 : lenOk 24 = true := by decide +kernel
@[simp] theorem eqB_os_nil (a : List (List Int)) : eqB (.lst (a.map oD)) (.lst []) = some (decide (a = [])) := eqB_os a []
@[simp] theorem eqC_os_nil (a : List (List Int)) : eqC (.lst (a.map oD)) (.lst []) = some (decide (a = [])) := k_eqC_of (eqB_os_nil a)
@[simp] theorem get_new {m : Mem} {c : MO} : (m ++ [c])[m.length]? = some c := by simp
@[simp] theorem set_new {m : Mem} {c c' : MO} : (m ++ [c]).set m.length c' = m ++ [c'] := by
  rw [List.set_append_right _ _ (Nat.le_refl _)]
  simp
@[simp] theorem hot_cur {g : Gl} {x : Exc} : (g.hot x).cur = some x := Eq.trans rfl rfl
/-- plain, of so many floors -/
def Gd (k : Nat) (d : D) : Prop := ∃ a, d.py = some a ∧ a.canLay0 = true ∧ a.depth ≤ k
theorem Gd.mono {k l : Nat} {d : D} (h : Gd k d) (hl : k ≤ l) : Gd l d := by
  obtain ⟨a, h1, h2, h3⟩ := h
  exact ⟨a, h1, h2, Nat.le_trans h3 hl⟩
theorem Gd.non : Gd 0 .non := ⟨_, py_non, rfl, Nat.le_refl _⟩
theorem Gd.bl {b : Bool} : Gd 0 (.bl b) := ⟨_, py_bl b, rfl, Nat.le_refl _⟩
theorem Gd.int {i : Int} : Gd 0 (.int i) := ⟨_, py_int i, rfl, Nat.le_refl _⟩
theorem Gd.str {x : Str} (h : PyData.strOk x = true) : Gd 0 (.str x) := ⟨_, py_str x, by rw [PyData.canLay0]; exact h, Nat.le_refl _⟩
theorem Gd.pys {k : Nat} : ∀ {xs : List D}, (∀ x ∈ xs, Gd k x) → ∃ as, D.pys xs = some as ∧ PyData.canLayAll0 as = true ∧ PyData.depthAll as ≤ k
  | [], _ => ⟨[], pys_nil, rfl, Nat.zero_le _⟩
  | x :: xs, h => by
    obtain ⟨a, h1, h2, h3⟩ := h x List.mem_cons_self
    obtain ⟨as, h4, h5, h6⟩ := Gd.pys fun y hy => h y (List.mem_cons_of_mem _ hy)
    refine ⟨a :: as, by rw [pys_cons, h1, h4], by rw [PyData.canLayAll0, h2, h5]; rfl, by rw [PyData.depthAll]; exact Nat.max_le.mpr ⟨h3, h6⟩⟩
theorem Gd.lst {k : Nat} {xs : List D} (h : ∀ x ∈ xs, Gd k x) : Gd (k + 1) (.lst xs) := by
  obtain ⟨as, h1, h2, h3⟩ := Gd.pys h
  exact ⟨.list as, by rw [py_lst, h1]; rfl, by rw [PyData.canLay0]; exact h2, by rw [PyData.depth]; omega⟩
theorem Gd.tup {k : Nat} {xs : List D} (h : ∀ x ∈ xs, Gd k x) : Gd (k + 1) (.tup xs) := by
  obtain ⟨as, h1, h2, h3⟩ := Gd.pys h
  exact ⟨.tuple as, by rw [py_tup, h1]; rfl, by rw [PyData.canLay0]; exact h2, by rw [PyData.depth]; omega⟩
theorem Gd.eq {k : Nat} {d : D} (h : Gd k d) (hk : k ≤ 64) : eqB d d = some true := by
  obtain ⟨a, h1, h2, h3⟩ := h
  refine eqB_refl h1 ?_
  unfold SeqAt.shaped
  rw [h2]
  simp
  omega
theorem Gd.o {o : List Int} : Gd 1 (oD o) := Gd.tup fun x hx => by
  obtain ⟨i, _, rfl⟩ := List.mem_map.mp hx
  exact Gd.int
/-- x in a tuple of texts -/
@[simp] theorem inT_s (x : Str) (xs : List Str) : inT (.str x) (xs.map .str) = some (decide (x ∈ xs)) := by
  have h : ∀ xs : List Str, fls (xs.map .str) = some (xs.map .str) := by
    intro xs
    induction xs with
    | nil => rfl
    | cons y ys ih => rw [List.map_cons, fls, ih]; rfl
  unfold inT
  rw [h]
  show some (inV (.str x) (xs.map V.str)) = _
  congr 1
  unfold inV
  rw [Bool.eq_iff_iff, List.any_map, List.any_eq_true, decide_eq_true_eq]
  constructor
  · rintro ⟨y, hy, e⟩
    simp [eqV] at e
    exact e ▸ hy
  · intro hx
    exact ⟨x, hx, by simp [eqV]⟩
@[simp] theorem k_inTup {x : D} {ys : List D} : cmpP .In x (.tup ys) = inT x ys := Eq.trans rfl rfl
@[simp] theorem k_ninTup {x : D} {ys : List D} : cmpP .NotIn x (.tup ys) = (inT x ys).map not := Eq.trans rfl rfl
@[simp] theorem k_inStr {c : Nat} {z : Str} : cmpP .In (.str ⟨#[c]⟩) (.str z) = some (decide (c ∈ z.cps.toList)) := Eq.trans rfl rfl
theorem fin_ref {n k : Nat} {m cs : Mem} {c : MO} (h : m.length = n) (hW : WM m) (hc : (m ++ cs)[n + k]? = some c) (hu : c.und n = true) : fin n (.ref (n + k)) (m ++ cs) = (.ref n, m ++ [c]) := by
  subst h
  have hl := (List.getElem?_eq_some_iff.mp hc).1
  have h1 : ¬ (m ++ cs).length ≤ m.length := by omega
  have h2 : (m ++ cs).take m.length = m := by simp
  unfold fin
  rw [if_neg h1]
  unfold WM at hW
  rw [D.und]
  simp only [hc, h2, hu, hW]
  simp
theorem fin_plain {n : Nat} {m cs : Mem} {d : D} (h : m.length = n) (hW : WM m) (hd : d.und n = true) : fin n d (m ++ cs) = (d, m) := by
  subst h
  have h2 : (m ++ cs).take m.length = m := by simp
  unfold fin
  unfold WM at hW
  split
  · rename_i h1
    have : cs = [] := by
      rw [List.length_append] at h1
      exact List.length_eq_zero_iff.mp (by omega)
    subst this
    simp
  · rw [h2, hd, hW]
    rfl
end IP

/-! Gm -/
set_option linter.all false
/-! Gm: plain mathematics of groups. -/
namespace Gm
abbrev O := List Int
/-- an outcome of the sizes -/
def VO : List Int → O → Prop
  | [], [] => True
  | s :: ss, x :: xs => 0 ≤ x ∧ x < s ∧ VO ss xs
  | _, _ => False
def voB : List Int → O → Bool
  | [], [] => true
  | s :: ss, x :: xs => decide (0 ≤ x) && (decide (x < s) && voB ss xs)
  | _, _ => false
theorem voB_iff : ∀ {ss : List Int} {o : O}, voB ss o = true ↔ VO ss o
  | [], [] => by simp [voB, VO]
  | [], _ :: _ => by simp [voB, VO]
  | _ :: _, [] => by simp [voB, VO]
  | s :: ss, x :: xs => by
    simp only [voB, VO, Bool.and_eq_true, decide_eq_true_eq]
    rw [voB_iff]
theorem VO.len : ∀ {ss : List Int} {o : O}, VO ss o → o.length = ss.length
  | [], [], _ => rfl
  | [], _ :: _, h => h.elim
  | _ :: _, [], h => h.elim
  | _ :: _, _ :: _, h => by simp [VO.len h.2.2]
theorem VO.get : ∀ {ss : List Int} {o : O}, VO ss o → ∀ k, k < ss.length → 0 ≤ o.getD k 0 ∧ o.getD k 0 < ss.getD k 0
  | [], [], _, k, hk => by simp at hk
  | [], _ :: _, h, _, _ => h.elim
  | _ :: _, [], h, _, _ => h.elim
  | s :: ss, x :: xs, h, 0, _ => ⟨h.1, h.2.1⟩
  | s :: ss, x :: xs, h, k + 1, hk => by
    simpa using VO.get h.2.2 k (by simpa using hk)
theorem VO.of : ∀ {ss : List Int} {o : O}, o.length = ss.length → (∀ k, k < ss.length → 0 ≤ o.getD k 0 ∧ o.getD k 0 < ss.getD k 0) → VO ss o
  | [], [], _, _ => trivial
  | [], _ :: _, h, _ => by simp at h
  | _ :: _, [], h, _ => by simp at h
  | s :: ss, x :: xs, h, hk => by
    have h0 := hk 0 (by simp)
    refine ⟨by simpa using h0.1, by simpa using h0.2, VO.of (by simpa using h) fun k q => ?_⟩
    simpa using hk (k + 1) (by simpa using q)
/-- all outcomes, ascending -/
def outsF (fd : List O) (ss : List Int) : List O := ss.foldl (fun fd s => fd.flatMap fun o => (List.range s.toNat).map fun (r : Nat) => o ++ [(r : Int)]) fd
def outs (ss : List Int) : List O := outsF [[]] ss
theorem mem_outsF : ∀ {ss : List Int} {fd : List O} {o : O}, o ∈ outsF fd ss ↔ ∃ p ∈ fd, ∃ q, o = p ++ q ∧ VO ss q
  | [], fd, o => by
    constructor
    · intro h
      exact ⟨o, h, [], by simp, trivial⟩
    · rintro ⟨p, hp, q, rfl, hq⟩
      match q, hq with
      | [], _ => simpa [outsF] using hp
  | s :: ss, fd, o => by
    have e : outsF fd (s :: ss) = outsF (fd.flatMap fun o => (List.range s.toNat).map fun (r : Nat) => o ++ [(r : Int)]) ss := rfl
    rw [e, mem_outsF]
    constructor
    · rintro ⟨p, hp, q, rfl, hq⟩
      obtain ⟨p0, h0, h1⟩ := List.mem_flatMap.mp hp
      obtain ⟨r, hr, rfl⟩ := List.mem_map.mp h1
      have hr := List.mem_range.mp hr
      exact ⟨p0, h0, (r : Int) :: q, by simp, ⟨by omega, by omega, hq⟩⟩
    · rintro ⟨p, hp, q, rfl, hq⟩
      match q, hq with
      | x :: q, hq =>
        refine ⟨p ++ [x], List.mem_flatMap.mpr ⟨p, hp, List.mem_map.mpr ⟨x.toNat, List.mem_range.mpr ?_, ?_⟩⟩, q, by simp, hq.2.2⟩
        · have := hq.1
          have := hq.2.1
          omega
        · have := hq.1
          have : ((x.toNat : Nat) : Int) = x := by omega
          rw [this]
theorem mem_outs {ss : List Int} {o : O} : o ∈ outs ss ↔ VO ss o := by
  unfold outs
  rw [mem_outsF]
  constructor
  · rintro ⟨p, hp, q, rfl, hq⟩
    simp at hp
    subst hp
    exact hq
  · intro h
    exact ⟨[], by simp, o, rfl, h⟩
/-- so many times another one added -/
def addT (t : Int) (ss : List Int) (a b : O) : O := (List.range ss.length).map fun k => (a.getD k 0 + t * b.getD k 0) % ss.getD k 0
abbrev add (ss : List Int) (a b : O) : O := addT 1 ss a b
theorem addT_len {t : Int} {ss : List Int} {a b : O} : (addT t ss a b).length = ss.length := by simp [addT]
theorem addT_get {t : Int} {ss : List Int} {a b : O} {k : Nat} (hk : k < ss.length) : (addT t ss a b).getD k 0 = (a.getD k 0 + t * b.getD k 0) % ss.getD k 0 := by
  unfold addT
  rw [List.getD_eq_getElem?_getD, List.getElem?_map, List.getElem?_range hk]
  rfl
/-- sizes -/
def VS (ss : List Int) : Prop := ss ≠ [] ∧ ss.length ≤ 20 ∧ ∀ s ∈ ss, 2 ≤ s ∧ s ≤ 1000
theorem VS.get {ss : List Int} (h : VS ss) {k : Nat} (hk : k < ss.length) : 2 ≤ ss.getD k 0 ∧ ss.getD k 0 ≤ 1000 := by
  have e : ss.getD k 0 = ss[k] := by rw [List.getD_eq_getElem?_getD, List.getElem?_eq_getElem hk]; rfl
  rw [e]
  exact h.2.2 _ (List.getElem_mem hk)
theorem addT_vo {t : Int} {ss : List Int} {a b : O} (h : VS ss) : VO ss (addT t ss a b) := VO.of addT_len fun k hk => by
  have := h.get hk
  rw [addT_get hk]
  exact ⟨Int.emod_nonneg _ (by omega), Int.emod_lt_of_pos _ (by omega)⟩
theorem get_ext {n : Nat} {a b : O} (ha : a.length = n) (hb : b.length = n) (h : ∀ k, k < n → a.getD k 0 = b.getD k 0) : a = b := by
  refine List.ext_getElem (by rw [ha, hb]) fun k h1 h2 => ?_
  have := h k (ha ▸ h1)
  rw [List.getD_eq_getElem?_getD, List.getD_eq_getElem?_getD, List.getElem?_eq_getElem h1, List.getElem?_eq_getElem h2] at this
  exact this
theorem add_assoc {ss : List Int} (a b c : O) : add ss (add ss a b) c = add ss a (add ss b c) := by
  refine get_ext addT_len addT_len fun k hk => ?_
  rw [addT_get hk, addT_get hk, addT_get hk, addT_get hk]
  simp [Int.add_assoc]
theorem add_comm {ss : List Int} (a b : O) : add ss a b = add ss b a := by
  refine get_ext addT_len addT_len fun k hk => ?_
  rw [addT_get hk, addT_get hk]
  simp [Int.add_comm]
/-- the zero -/
def zero (ss : List Int) : O := ss.map fun _ => 0
theorem zero_get {ss : List Int} {k : Nat} : (zero ss).getD k 0 = 0 := by
  unfold zero
  rw [List.getD_eq_getElem?_getD, List.getElem?_map]
  cases ss[k]? <;> rfl
theorem zero_len {ss : List Int} : (zero ss).length = ss.length := by simp [zero]
theorem VO.mod {ss : List Int} {a : O} (h : VO ss a) {k : Nat} (hk : k < ss.length) : a.getD k 0 % ss.getD k 0 = a.getD k 0 := Int.emod_eq_of_lt (h.get k hk).1 (h.get k hk).2
theorem zero_add {ss : List Int} {a : O} (h : VO ss a) : add ss (zero ss) a = a := by
  refine get_ext addT_len h.len fun k hk => ?_
  rw [addT_get hk, zero_get]
  simpa using h.mod hk
theorem add_zero {ss : List Int} {a : O} (h : VO ss a) : add ss a (zero ss) = a := by rw [add_comm, zero_add h]
theorem VS.pos {ss : List Int} (h : VS ss) : ∀ s ∈ ss, 0 < s := fun s hs => by have := h.2.2 s hs; omega
theorem zero_vo : ∀ {ss : List Int}, (∀ s ∈ ss, 0 < s) → VO ss (zero ss)
  | [], _ => trivial
  | s :: ss, h => ⟨Int.le_refl 0, h s List.mem_cons_self, zero_vo fun x hx => h x (List.mem_cons_of_mem _ hx)⟩
/-- the first outcome is the zero -/
theorem outsF_head : ∀ {ss : List Int} {p : O} {fd : List O}, (∀ s ∈ ss, 0 < s) → ∃ r, outsF (p :: fd) ss = (p ++ zero ss) :: r
  | [], p, fd, _ => ⟨fd, by simp [outsF, zero]⟩
  | s :: ss, p, fd, h => by
    have hs := h s List.mem_cons_self
    obtain ⟨n, hn⟩ : ∃ n, s.toNat = n + 1 := ⟨s.toNat - 1, by omega⟩
    have e : outsF (p :: fd) (s :: ss) = outsF ((p :: fd).flatMap fun o => (List.range s.toNat).map fun (r : Nat) => o ++ [(r : Int)]) ss := rfl
    have e2 : ∃ r, ((p :: fd).flatMap fun o => (List.range s.toNat).map fun (r : Nat) => o ++ [(r : Int)]) = (p ++ [0]) :: r := by
      rw [hn, List.range_succ_eq_map]
      exact ⟨_, by rfl⟩
    obtain ⟨r, e2⟩ := e2
    rw [e, e2]
    obtain ⟨r2, e3⟩ := outsF_head (p := p ++ [0]) (fd := r) fun x hx => h x (List.mem_cons_of_mem _ hx)
    exact ⟨r2, by rw [e3]; simp [zero]⟩
theorem outs_head {ss : List Int} (h : VS ss) : ∃ r, outs ss = zero ss :: r := by
  obtain ⟨r, e⟩ := outsF_head (ss := ss) (p := []) (fd := []) h.pos
  exact ⟨r, e⟩
/-- the sum of a list -/
def sum (ss : List Int) (os : List O) : O := os.foldl (add ss) (zero ss)
theorem foldl_add {ss : List Int} (hs : VS ss) : ∀ (os : List O) (a : O), (∀ o ∈ os, VO ss o) → VO ss a → os.foldl (add ss) a = add ss a (sum ss os)
  | [], a, _, ha => by
    unfold sum
    simp only [List.foldl_nil]
    rw [add_zero ha]
  | o :: os, a, h, ha => by
    have ho := h o List.mem_cons_self
    have h' : ∀ x ∈ os, VO ss x := fun x hx => h x (List.mem_cons_of_mem _ hx)
    rw [List.foldl_cons, foldl_add hs os _ h' (addT_vo hs)]
    have e : sum ss (o :: os) = add ss o (sum ss os) := by
      unfold sum
      rw [List.foldl_cons, zero_add ho, foldl_add hs os o h' ho]
      rfl
    rw [e, add_assoc]
theorem foldl_vo {ss : List Int} (hs : VS ss) : ∀ (os : List O) (a : O), VO ss a → VO ss (os.foldl (add ss) a)
  | [], a, ha => ha
  | o :: os, a, ha => foldl_vo hs os _ (addT_vo hs)
theorem sum_vo {ss : List Int} (hs : VS ss) (os : List O) : VO ss (sum ss os) := foldl_vo hs os _ (zero_vo hs.pos)
theorem sum_cons {ss : List Int} (hs : VS ss) {o : O} {os : List O} (h : ∀ x ∈ o :: os, VO ss x) : sum ss (o :: os) = add ss o (sum ss os) := by
  have ho := h o List.mem_cons_self
  unfold sum
  rw [List.foldl_cons, zero_add ho, foldl_add hs os o (fun x hx => h x (List.mem_cons_of_mem _ hx)) ho]
  rfl
/-- the sums of some of the numbers: as the program makes them -/
def sumsF (ss : List Int) (ns : List O) : List O := ns.foldl (fun fd n => fd ++ fd.map fun o => add ss o n) [zero ss]
/-- choices of places -/
def choicesF (n : Nat) : List (List Nat) := (List.range n).foldl (fun fd k => fd ++ fd.map fun r => r ++ [k]) [[]]
theorem choices_succ (n : Nat) : choicesF (n + 1) = choicesF n ++ (choicesF n).map fun r => r ++ [n] := by
  unfold choicesF
  rw [List.range_succ, List.foldl_append]
  rfl
theorem sum_snoc {ss : List Int} {os : List O} {o : O} : sum ss (os ++ [o]) = add ss (sum ss os) o := by
  unfold sum
  rw [List.foldl_append]
  rfl
theorem choices_lt : ∀ {n : Nat} {r : List Nat}, r ∈ choicesF n → ∀ k ∈ r, k < n
  | 0, r, h, k, hk => by
    simp [choicesF] at h
    subst h
    cases hk
  | n + 1, r, h, k, hk => by
    rw [choices_succ] at h
    rcases List.mem_append.mp h with h | h
    · exact Nat.lt_succ_of_lt (choices_lt h k hk)
    · obtain ⟨r0, h0, rfl⟩ := List.mem_map.mp h
      rcases List.mem_append.mp hk with hk | hk
      · exact Nat.lt_succ_of_lt (choices_lt h0 k hk)
      · simp at hk
        omega
theorem sums_choices {ss : List Int} (ns : List O) : ∀ n, n ≤ ns.length → sumsF ss (ns.take n) = (choicesF n).map fun r => sum ss (r.map fun k => ns.getD k [])
  | 0, _ => by
    rw [List.take_zero]
    rfl
  | n + 1, h => by
    have hn : n < ns.length := h
    rw [choices_succ, List.map_append, ← sums_choices ns n (by omega), List.take_add_one, List.getElem?_eq_getElem hn]
    have e : sumsF ss (ns.take n ++ (some ns[n]).toList) = sumsF ss (ns.take n) ++ (sumsF ss (ns.take n)).map fun o => add ss o ns[n] := by
      unfold sumsF
      rw [List.foldl_append]
      rfl
    rw [e]
    congr 1
    rw [sums_choices ns n (by omega), List.map_map, List.map_map]
    refine List.map_congr_left fun r hr => ?_
    simp only [Function.comp]
    rw [List.map_append, List.map_cons, List.map_nil, sum_snoc]
    rw [List.getD_eq_getElem?_getD, List.getElem?_eq_getElem hn]
    rfl
theorem sumsF_vo {ss : List Int} (hs : VS ss) {ns : List O} : ∀ o ∈ sumsF ss ns, VO ss o := by
  have key : ∀ (ns : List O) (fd : List O), (∀ o ∈ fd, VO ss o) → ∀ o ∈ ns.foldl (fun fd n => fd ++ fd.map fun o => add ss o n) fd, VO ss o := by
    intro ns
    induction ns with
    | nil => intro fd h; exact h
    | cons n ns ih =>
      intro fd h
      rw [List.foldl_cons]
      refine ih _ fun o ho => ?_
      rcases List.mem_append.mp ho with ho | ho
      · exact h o ho
      · obtain ⟨p, _, rfl⟩ := List.mem_map.mp ho
        exact addT_vo hs
  refine key ns _ fun o ho => ?_
  simp at ho
  subst ho
  exact zero_vo hs.pos
/-- the late ones -/
theorem takeWhile_late {α : Type} (p : α → Bool) (xs : List α) : xs.foldl (fun fd x => if p x then fd ++ [x] else []) [] = ((xs.reverse).takeWhile p).reverse := by
  have key : ∀ (xs : List α), (xs.reverse).foldl (fun fd x => if p x then fd ++ [x] else []) [] = (xs.takeWhile p).reverse := by
    intro xs
    induction xs with
    | nil => rfl
    | cons x xs ih =>
      rw [List.reverse_cons, List.foldl_append, ih, List.takeWhile_cons]
      cases h : p x <;> simp [h]
  simpa using key xs.reverse
theorem VO.at : ∀ {ss : List Int} {o : O} {k : Nat} {s : Int}, VO ss o → ss[k]? = some s → ∃ x, o[k]? = some x ∧ 0 ≤ x ∧ x < s
  | [], _, _, _, _, h => by simp at h
  | _ :: _, [], _, _, h, _ => h.elim
  | s :: ss, x :: xs, 0, s', h, e => by
    simp at e
    subst e
    exact ⟨x, rfl, h.1, h.2.1⟩
  | s :: ss, x :: xs, k + 1, s', h, e => by
    obtain ⟨y, h1, h2⟩ := VO.at (k := k) h.2.2 (by simpa using e)
    exact ⟨y, by simpa using h1, h2⟩
theorem VS.at {ss : List Int} (h : VS ss) {k : Nat} {s : Int} (e : ss[k]? = some s) : 2 ≤ s ∧ s ≤ 1000 := h.2.2 s (List.mem_of_getElem? e)
theorem addT_zip {t : Int} {ss : List Int} {a b : O} : addT t ss a b = ss.zipIdx.map fun p => ((a[p.2]?).getD 0 + t * (b[p.2]?).getD 0) % p.1 := by
  refine List.ext_getElem (by simp [addT]) fun k h1 h2 => ?_
  have hk : k < ss.length := by simpa using h2
  simp [addT, hk]
theorem addT_range {t : Int} {ss : List Int} {a b : O} : addT t ss a b = (List.range ss.length).map fun k => ((a[k]?).getD 0 + t * (b[k]?).getD 0) % (ss[k]?).getD 0 := by
  unfold addT
  simp
/-- how many outcomes -/
def prodN : List Int → Nat
  | [] => 1
  | s :: ss => s.toNat * prodN ss
theorem flat_len {fd : List O} {n : Nat} : (fd.flatMap fun o => (List.range n).map fun (r : Nat) => o ++ [(r : Int)]).length = fd.length * n := by
  induction fd with
  | nil => simp
  | cons o fd ih =>
    rw [List.flatMap_cons, List.length_append, ih]
    simp [Nat.add_mul, Nat.add_comm]
theorem outsF_len : ∀ {ss : List Int} {fd : List O}, (outsF fd ss).length = fd.length * prodN ss
  | [], fd => by simp [outsF, prodN]
  | s :: ss, fd => by
    have e : outsF fd (s :: ss) = outsF (fd.flatMap fun o => (List.range s.toNat).map fun (r : Nat) => o ++ [(r : Int)]) ss := rfl
    rw [e, outsF_len, flat_len, prodN, Nat.mul_assoc]
theorem prodN_pos : ∀ {ss : List Int}, (∀ s ∈ ss, 0 < s) → 0 < prodN ss
  | [], _ => Nat.one_pos
  | s :: ss, h => Nat.mul_pos (by have := h s List.mem_cons_self; omega) (prodN_pos fun x hx => h x (List.mem_cons_of_mem _ hx))
theorem outs_len {ss : List Int} : (outs ss).length = prodN ss := by
  unfold outs
  rw [outsF_len]
  simp
end Gm

/-! K11 -/
set_option Elab.async false
set_option linter.all false
set_option maxRecDepth 100000
set_option maxHeartbeats 4000000
/-! the table of law_k11_late_and_reach, printed by gen.py -/
namespace K11
open PySem L2 PyProof.Rows IP
def top (i : Nat) : Stmt := PySem.Challenge.pw_benddraws_k11_late_and_reach.main.body.getD i (.Pass ⟨0, 0, 0, 0⟩)
def tb : Tb where
  free := ["abs", "all", "any", "bool", "enumerate", "int", "isinstance", "len", "list", "max", "min", "range", "str", "tuple", "zip"]
  cls := ["Group"]
  exs := [("BadSizes", ["given"]), ("BadOutcome", ["given"]), ("BadEvent", ["given"]), ("BadOrder", ["given"]), ("BadLeague", ["given"])]
  fns := ["_law_add", "_law_all", "_law_box", "_law_cell", "_law_choices", "_law_event", "_law_late", "_law_late_refused", "_law_leagues", "_law_pick", "_law_reach", "_law_reach_refused", "_law_sizes", "_law_sum", "_law_take", "all_outcomes", "check_league", "check_order", "is_integer", "is_name", "late", "law", "reach", "sums_of"]
  mts := [("Group", "added"), ("Group", "checked"), ("Group", "event"), ("Group", "has"), ("Group", "outcomes"), ("Group", "plus"), ("Group", "total"), ("Group", "zero")]
  mks := ["Group"]
  pats := [("reach", 2, ["numbers"], [0, 1, 2]), ("late", 1, ["league"], [0, 1])]
  flds := ["kept_sizes", "kept_outcomes"]
  gints := [("MOST_LETTERS", 8)]
  gstrs := [("LETTERS", "abcdefghijklmnopqrstuvwxyz")]
  hnd := ["BadEvent", "BadLeague", "BadOrder", "BadOutcome"]
def d_is_integer : He.DefD := ⟨(Str.ofString "is_integer", none), "is_integer", "is_integer", defArgs (top 9), defBody (top 9), defScope (top 9), [], []⟩
def b_is_integer : Ss :=
  (.cons (.ret (.an (.isi (.loc 0) [.bt "int"]) (.nt (.isi (.loc 0) [.bt "bool"]))))
    .nil)
def x_is_integer : Df := ⟨"", "is_integer", ["value"], 1, b_is_integer, d_is_integer⟩
theorem o_is_integer : x_is_integer.Ok tb := ⟨by decide +kernel, fun _ _ _ _ _ _ us hl => match us, hl with | [_], _ => rfl⟩
def d_all_outcomes : He.DefD := ⟨(Str.ofString "all_outcomes", none), "all_outcomes", "all_outcomes", defArgs (top 11), defBody (top 11), defScope (top 11), [], []⟩
def b_all_outcomes : Ss :=
  (.cons (.set 1 (.lst false (.one (.tup .nil) .nil)))
    (.cons (.for_ (.one 2) (.seq (.loc 0)) (.cons (.set 1 (.comp2 false (.tup (.star (.loc 3) (.one (.loc 4) .nil))) (.one 3) (.seq (.loc 1)) (.one 4) (.rng1 (.loc 2)) .non [3, 4]))
    .nil))
    (.cons (.ret (.loc 1))
    .nil)))
def x_all_outcomes : Df := ⟨"", "all_outcomes", ["sizes", "found", "size", "outcome", "rest"], 1, b_all_outcomes, d_all_outcomes⟩
theorem o_all_outcomes : x_all_outcomes.Ok tb := ⟨by decide +kernel, fun _ _ _ _ _ _ us hl => match us, hl with | [_], _ => rfl⟩
def d_Group_init : He.DefD := ⟨(Str.ofString "Group", some (Str.ofString "__init__")), "__init__", "Group.__init__", defArgs (inClass (top 12) 0), defBody (inClass (top 12) 0), defScope (inClass (top 12) 0), [], []⟩
def b_Group_init : Ss :=
  (.cons (.ifs (.orr (.nt (.isi (.loc 1) [.bt "list", .bt "tuple"])) (.cmp .Eq (.bi .len (.one (.loc 1) .nil)) (.con (.int 0)))) (.cons (.rais "BadSizes" (.one (.loc 1) .nil))
    .nil) .nil)
    (.cons (.ifs (.nt (.seq .all (.comp false (.an (.call "" "is_integer" (.one (.loc 2) .nil) [] []) (.cmp .Gt (.loc 2) (.con (.int 1)))) (.one 2) (.seq (.loc 1)) .non [2]))) (.cons (.rais "BadSizes" (.one (.loc 1) .nil))
    .nil) .nil)
    (.cons (.fld (.loc 0) "kept_sizes" (.seq (.list false) (.loc 1)))
    (.cons (.fld (.loc 0) "kept_outcomes" (.call "" "all_outcomes" (.one (.att (.loc 0) "kept_sizes") .nil) [] []))
    .nil))))
def x_Group_init : Df := ⟨"Group", "__init__", ["self", "sizes", "size"], 2, b_Group_init, d_Group_init⟩
theorem o_Group_init : x_Group_init.Ok tb := ⟨by decide +kernel, fun _ _ _ _ _ _ us hl => match us, hl with | [_, _], _ => rfl⟩
def d_Group_outcomes : He.DefD := ⟨(Str.ofString "Group", some (Str.ofString "outcomes")), "outcomes", "Group.outcomes", defArgs (inClass (top 12) 3), defBody (inClass (top 12) 3), defScope (inClass (top 12) 3), [], []⟩
def b_Group_outcomes : Ss :=
  (.cons (.ret (.seq (.list false) (.att (.loc 0) "kept_outcomes")))
    .nil)
def x_Group_outcomes : Df := ⟨"Group", "outcomes", ["self"], 1, b_Group_outcomes, d_Group_outcomes⟩
theorem o_Group_outcomes : x_Group_outcomes.Ok tb := ⟨by decide +kernel, fun _ _ _ _ _ _ us hl => match us, hl with | [_], _ => rfl⟩
def d_Group_zero : He.DefD := ⟨(Str.ofString "Group", some (Str.ofString "zero")), "zero", "Group.zero", defArgs (inClass (top 12) 4), defBody (inClass (top 12) 4), defScope (inClass (top 12) 4), [], []⟩
def b_Group_zero : Ss :=
  (.cons (.ret (.sub (.att (.loc 0) "kept_outcomes") (.con (.int 0))))
    .nil)
def x_Group_zero : Df := ⟨"Group", "zero", ["self"], 1, b_Group_zero, d_Group_zero⟩
theorem o_Group_zero : x_Group_zero.Ok tb := ⟨by decide +kernel, fun _ _ _ _ _ _ us hl => match us, hl with | [_], _ => rfl⟩
def d_Group_has : He.DefD := ⟨(Str.ofString "Group", some (Str.ofString "has")), "has", "Group.has", defArgs (inClass (top 12) 6), defBody (inClass (top 12) 6), defScope (inClass (top 12) 6), [], []⟩
def b_Group_has : Ss :=
  (.cons (.ifs (.orr (.nt (.isi (.loc 1) [.bt "tuple"])) (.cmp .NotEq (.bi .len (.one (.loc 1) .nil)) (.bi .len (.one (.att (.loc 0) "kept_sizes") .nil)))) (.cons (.ret (.con (.bl false)))
    .nil) .nil)
    (.cons (.ret (.seq .all (.comp false (.an (.call "" "is_integer" (.one (.loc 2) .nil) [] []) (.cmp2 .LtE .Lt (.con (.int 0)) (.loc 2) (.loc 3))) (.many [2, 3]) (.zip (.loc 1) (.att (.loc 0) "kept_sizes")) .non [2, 3])))
    .nil))
def x_Group_has : Df := ⟨"Group", "has", ["self", "value", "rest", "size"], 2, b_Group_has, d_Group_has⟩
theorem o_Group_has : x_Group_has.Ok tb := ⟨by decide +kernel, fun _ _ _ _ _ _ us hl => match us, hl with | [_, _], _ => rfl⟩
def d_Group_checked : He.DefD := ⟨(Str.ofString "Group", some (Str.ofString "checked")), "checked", "Group.checked", defArgs (inClass (top 12) 7), defBody (inClass (top 12) 7), defScope (inClass (top 12) 7), [], []⟩
def b_Group_checked : Ss :=
  (.cons (.ifs (.nt (.meth "Group" "has" (.loc 0) (.one (.loc 1) .nil) [] [])) (.cons (.rais "BadOutcome" (.one (.loc 1) .nil))
    .nil) .nil)
    (.cons (.ret (.loc 1))
    .nil))
def x_Group_checked : Df := ⟨"Group", "checked", ["self", "value"], 2, b_Group_checked, d_Group_checked⟩
theorem o_Group_checked : x_Group_checked.Ok tb := ⟨by decide +kernel, fun _ _ _ _ _ _ us hl => match us, hl with | [_, _], _ => rfl⟩
def d_Group_added : He.DefD := ⟨(Str.ofString "Group", some (Str.ofString "added")), "added", "Group.added", defArgs (inClass (top 12) 8), defBody (inClass (top 12) 8), defScope (inClass (top 12) 8), [], []⟩
def b_Group_added : Ss :=
  (.cons (.ret (.seq .tuple (.comp false (.bin .Mod (.bin .Add (.sub (.loc 1) (.loc 4)) (.bin .Mult (.loc 3) (.sub (.loc 2) (.loc 4)))) (.loc 5)) (.many [4, 5]) (.enum (.att (.loc 0) "kept_sizes")) .non [4, 5])))
    .nil)
def x_Group_added : Df := ⟨"Group", "added", ["self", "one", "other", "times", "k", "size"], 4, b_Group_added, d_Group_added⟩
theorem o_Group_added : x_Group_added.Ok tb := ⟨by decide +kernel, fun _ _ _ _ _ _ us hl => match us, hl with | [_, _, _, _], _ => rfl⟩
def d_Group_plus : He.DefD := ⟨(Str.ofString "Group", some (Str.ofString "plus")), "plus", "Group.plus", defArgs (inClass (top 12) 9), defBody (inClass (top 12) 9), defScope (inClass (top 12) 9), [], []⟩
def b_Group_plus : Ss :=
  (.cons (.ret (.meth "Group" "added" (.loc 0) (.one (.meth "Group" "checked" (.loc 0) (.one (.loc 1) .nil) [] []) (.one (.meth "Group" "checked" (.loc 0) (.one (.loc 2) .nil) [] []) (.one (.con (.int 1)) .nil))) [] []))
    .nil)
def x_Group_plus : Df := ⟨"Group", "plus", ["self", "one", "other"], 3, b_Group_plus, d_Group_plus⟩
theorem o_Group_plus : x_Group_plus.Ok tb := ⟨by decide +kernel, fun _ _ _ _ _ _ us hl => match us, hl with | [_, _, _], _ => rfl⟩
def d_Group_total : He.DefD := ⟨(Str.ofString "Group", some (Str.ofString "total")), "total", "Group.total", defArgs (inClass (top 12) 11), defBody (inClass (top 12) 11), defScope (inClass (top 12) 11), [], []⟩
def b_Group_total : Ss :=
  (.cons (.set 2 (.meth "Group" "zero" (.loc 0) .nil [] []))
    (.cons (.for_ (.one 3) (.seq (.loc 1)) (.cons (.set 2 (.meth "Group" "plus" (.loc 0) (.one (.loc 2) (.one (.loc 3) .nil)) [] []))
    .nil))
    (.cons (.ret (.loc 2))
    .nil)))
def x_Group_total : Df := ⟨"Group", "total", ["self", "outcomes", "found", "outcome"], 2, b_Group_total, d_Group_total⟩
theorem o_Group_total : x_Group_total.Ok tb := ⟨by decide +kernel, fun _ _ _ _ _ _ us hl => match us, hl with | [_, _], _ => rfl⟩
def d_Group_event : He.DefD := ⟨(Str.ofString "Group", some (Str.ofString "event")), "event", "Group.event", defArgs (inClass (top 12) 12), defBody (inClass (top 12) 12), defScope (inClass (top 12) 12), [], []⟩
def b_Group_event : Ss :=
  (.cons (.ifs (.orr (.nt (.isi (.loc 1) [.bt "list", .bt "tuple"])) (.nt (.seq .all (.comp false (.meth "Group" "has" (.loc 0) (.one (.loc 2) .nil) [] []) (.one 2) (.seq (.loc 1)) .non [2])))) (.cons (.rais "BadEvent" (.one (.loc 1) .nil))
    .nil) .nil)
    (.cons (.ret (.comp false (.loc 2) (.one 2) (.seq (.att (.loc 0) "kept_outcomes")) (.som (.cmp .In (.loc 2) (.loc 1))) [2]))
    .nil))
def x_Group_event : Df := ⟨"Group", "event", ["self", "outcomes", "outcome"], 2, b_Group_event, d_Group_event⟩
theorem o_Group_event : x_Group_event.Ok tb := ⟨by decide +kernel, fun _ _ _ _ _ _ us hl => match us, hl with | [_, _], _ => rfl⟩
def d_is_name : He.DefD := ⟨(Str.ofString "is_name", none), "is_name", "is_name", defArgs (top 16), defBody (top 16), defScope (top 16), [], []⟩
def b_is_name : Ss :=
  (.cons (.ifs (.orr (.nt (.isi (.loc 0) [.bt "str"])) (.nt (.cmp2 .LtE .LtE (.con (.int 1)) (.bi .len (.one (.loc 0) .nil)) (.gcon "MOST_LETTERS" (.int 8))))) (.cons (.ret (.con (.bl false)))
    .nil) .nil)
    (.cons (.ret (.seq .all (.comp false (.cmp .In (.loc 1) (.gcon "LETTERS" (.str (Str.ofString "abcdefghijklmnopqrstuvwxyz")))) (.one 1) (.seq (.loc 0)) .non [1])))
    .nil))
def x_is_name : Df := ⟨"", "is_name", ["value", "letter"], 1, b_is_name, d_is_name⟩
theorem o_is_name : x_is_name.Ok tb := ⟨by decide +kernel, fun _ _ _ _ _ _ us hl => match us, hl with | [_], _ => rfl⟩
def d_check_order : He.DefD := ⟨(Str.ofString "check_order", none), "check_order", "check_order", defArgs (top 17), defBody (top 17), defScope (top 17), [], []⟩
def b_check_order : Ss :=
  (.cons (.ifs (.orr (.nt (.isi (.loc 0) [.bt "list", .bt "tuple"])) (.orr (.cmp .Eq (.bi .len (.one (.loc 0) .nil)) (.con (.int 0))) (.nt (.seq .all (.comp false (.call "" "is_name" (.one (.loc 1) .nil) [] []) (.one 1) (.seq (.loc 0)) .non [1]))))) (.cons (.rais "BadOrder" (.one (.loc 0) .nil))
    .nil) .nil)
    (.cons (.ifs (.nt (.seq .all (.comp false (.cmp .NotIn (.loc 1) (.slc (.loc 0) .non (.som (.loc 2)))) (.many [2, 1]) (.enum (.loc 0)) .non [2, 1]))) (.cons (.rais "BadOrder" (.one (.loc 0) .nil))
    .nil) .nil)
    .nil))
def x_check_order : Df := ⟨"", "check_order", ["order", "name", "place"], 1, b_check_order, d_check_order⟩
theorem o_check_order : x_check_order.Ok tb := ⟨by decide +kernel, fun _ _ _ _ _ _ us hl => match us, hl with | [_], _ => rfl⟩
def d_check_league : He.DefD := ⟨(Str.ofString "check_league", none), "check_league", "check_league", defArgs (top 19), defBody (top 19), defScope (top 19), [], []⟩
def b_check_league : Ss :=
  (.cons (.ifs (.orr (.nt (.isi (.loc 1) [.bt "list", .bt "tuple"])) (.nt (.seq .all (.comp false (.an (.isi (.loc 2) [.bt "str"]) (.cmp .In (.loc 2) (.loc 0))) (.one 2) (.seq (.loc 1)) .non [2])))) (.cons (.rais "BadLeague" (.one (.loc 1) .nil))
    .nil) .nil)
    (.cons (.ifs (.nt (.seq .all (.comp false (.cmp .NotIn (.loc 2) (.slc (.loc 1) .non (.som (.loc 3)))) (.many [3, 2]) (.enum (.loc 1)) .non [3, 2]))) (.cons (.rais "BadLeague" (.one (.loc 1) .nil))
    .nil) .nil)
    .nil))
def x_check_league : Df := ⟨"", "check_league", ["order", "league", "name", "place"], 2, b_check_league, d_check_league⟩
theorem o_check_league : x_check_league.Ok tb := ⟨by decide +kernel, fun _ _ _ _ _ _ us hl => match us, hl with | [_, _], _ => rfl⟩
def d_late : He.DefD := ⟨(Str.ofString "late", none), "late", "late", defArgs (top 20), defBody (top 20), defScope (top 20), [], []⟩
def b_late : Ss :=
  (.cons (.expr (.call "" "check_order" (.one (.loc 0) .nil) [] []))
    (.cons (.expr (.call "" "check_league" (.one (.loc 0) (.one (.loc 1) .nil)) [] []))
    (.cons (.set 2 (.lst true .nil))
    (.cons (.for_ (.one 3) (.seq (.loc 0)) (.cons (.set 2 (.ife (.cmp .In (.loc 3) (.loc 1)) (.lst true (.star (.loc 2) (.one (.loc 3) .nil))) (.lst true .nil)))
    .nil))
    (.cons (.ret (.loc 2))
    .nil)))))
def x_late : Df := ⟨"", "late", ["order", "league", "found", "name"], 2, b_late, d_late⟩
theorem o_late : x_late.Ok tb := ⟨by decide +kernel, fun _ _ _ _ _ _ us hl => match us, hl with | [_, _], _ => rfl⟩
def d_sums_of : He.DefD := ⟨(Str.ofString "sums_of", none), "sums_of", "sums_of", defArgs (top 21), defBody (top 21), defScope (top 21), [], []⟩
def b_sums_of : Ss :=
  (.cons (.set 2 (.lst false (.one (.meth "Group" "zero" (.loc 0) .nil [] []) .nil)))
    (.cons (.for_ (.one 3) (.seq (.loc 1)) (.cons (.set 2 (.lst false (.star (.loc 2) (.star (.comp false (.meth "Group" "plus" (.loc 0) (.one (.loc 4) (.one (.loc 3) .nil)) [] []) (.one 4) (.seq (.loc 2)) .non [4]) .nil))))
    .nil))
    (.cons (.ret (.meth "Group" "event" (.loc 0) (.one (.loc 2) .nil) [] []))
    .nil)))
def x_sums_of : Df := ⟨"", "sums_of", ["group", "numbers", "found", "number", "one"], 2, b_sums_of, d_sums_of⟩
theorem o_sums_of : x_sums_of.Ok tb := ⟨by decide +kernel, fun _ _ _ _ _ _ us hl => match us, hl with | [_, _], _ => rfl⟩
def d_reach : He.DefD := ⟨(Str.ofString "reach", none), "reach", "reach", defArgs (top 22), defBody (top 22), defScope (top 22), [], []⟩
def b_reach : Ss :=
  (.cons (.set 1 (.meth "Group" "event" (.loc 0) (.one (.loc 1) .nil) [] []))
    (.cons (.expr (.meth "Group" "total" (.loc 0) (.one (.loc 2) .nil) [] []))
    (.cons (.set 3 (.call "" "sums_of" (.one (.loc 0) (.one (.loc 2) .nil)) [] []))
    (.cons (.ret (.comp true (.loc 4) (.one 4) (.seq (.meth "Group" "outcomes" (.loc 0) .nil [] [])) (.som (.seq .any (.comp false (.cmp .In (.meth "Group" "plus" (.loc 0) (.one (.loc 4) (.one (.loc 5) .nil)) [] []) (.loc 1)) (.one 5) (.seq (.loc 3)) .non [5]))) [4]))
    .nil))))
def x_reach : Df := ⟨"", "reach", ["group", "event", "numbers", "sums", "here", "one"], 3, b_reach, d_reach⟩
theorem o_reach : x_reach.Ok tb := ⟨by decide +kernel, fun _ _ _ _ _ _ us hl => match us, hl with | [_, _, _], _ => rfl⟩
def d_law_cell : He.DefD := ⟨(Str.ofString "_law_cell", none), "_law_cell", "_law_cell", defArgs (top 24), defBody (top 24), defScope (top 24), [], []⟩
def b_law_cell : Ss :=
  (.cons (.ret (.ife (.cmp .Lt (.loc 1) (.bi .len (.one (.loc 0) .nil))) (.sub (.loc 0) (.loc 1)) (.con (.int 0))))
    .nil)
def x_law_cell : Df := ⟨"", "_law_cell", ["_law_script", "_law_k"], 2, b_law_cell, d_law_cell⟩
theorem o_law_cell : x_law_cell.Ok tb := ⟨by decide +kernel, fun _ _ _ _ _ _ us hl => match us, hl with | [_, _], _ => rfl⟩
def d_law_box : He.DefD := ⟨(Str.ofString "_law_box", none), "_law_box", "_law_box", defArgs (top 25), defBody (top 25), defScope (top 25), [], []⟩
def b_law_box : Ss :=
  (.cons (.ret (.lst true (.one (.bi .abs (.one (.bi .int (.one (.call "" "_law_cell" (.one (.loc 0) (.one (.loc 1) .nil)) [] []) .nil)) .nil)) (.one (.con (.int 0)) (.one (.bin .Add (.bin .Mult (.con (.int 40503)) (.loc 1)) (.con (.int 911))) .nil)))))
    .nil)
def x_law_box : Df := ⟨"", "_law_box", ["_law_script", "_law_k"], 2, b_law_box, d_law_box⟩
theorem o_law_box : x_law_box.Ok tb := ⟨by decide +kernel, fun _ _ _ _ _ _ us hl => match us, hl with | [_, _], _ => rfl⟩
def d_law_take : He.DefD := ⟨(Str.ofString "_law_take", none), "_law_take", "_law_take", defArgs (top 26), defBody (top 26), defScope (top 26), [], []⟩
def b_law_take : Ss :=
  (.cons (.ifs (.cmp .GtE (.sub (.loc 0) (.con (.int 0))) (.bin .Pow (.con (.int 10)) (.con (.int 18)))) (.cons (.set 2 (.bin .Mod (.bi .int (.one (.sub (.loc 0) (.con (.int 0))) .nil)) (.loc 1)))
    (.cons (.sub (.loc 0) (.con (.int 0)) (.bin .FloorDiv (.sub (.loc 0) (.con (.int 0))) (.loc 1)))
    (.cons (.ret (.loc 2))
    .nil))) .nil)
    (.cons (.sub (.loc 0) (.con (.int 1)) (.bin .Add (.sub (.loc 0) (.con (.int 1))) (.con (.int 1))))
    (.cons (.set 3 (.bin .Mod (.bin .Pow (.bi .int (.one (.bin .Add (.bin .Add (.bin .Mult (.bin .Add (.sub (.loc 0) (.con (.int 0))) (.con (.int 7))) (.con (.int 69069))) (.bin .Mult (.sub (.loc 0) (.con (.int 1))) (.con (.int 40692)))) (.sub (.loc 0) (.con (.int 2)))) .nil)) (.con (.int 3))) (.con (.int 2147483647))))
    (.cons (.set 3 (.bin .Mod (.bin .Pow (.bi .int (.one (.bin .Add (.loc 3) (.bin .Mult (.sub (.loc 0) (.con (.int 1))) (.con (.int 17389)))) .nil)) (.con (.int 3))) (.con (.int 2147483399))))
    (.cons (.ret (.bin .Mod (.bi .int (.one (.bin .FloorDiv (.loc 3) (.con (.int 64))) .nil)) (.loc 1)))
    .nil)))))
def x_law_take : Df := ⟨"", "_law_take", ["_law_box_here", "_law_many", "_law_digit", "_law_mixed"], 2, b_law_take, d_law_take⟩
theorem o_law_take : x_law_take.Ok tb := ⟨by decide +kernel, fun _ _ _ _ _ _ us hl => match us, hl with | [_, _], _ => rfl⟩
def d_law_sizes : He.DefD := ⟨(Str.ofString "_law_sizes", none), "_law_sizes", "_law_sizes", defArgs (top 27), defBody (top 27), defScope (top 27), [], []⟩
def b_law_sizes : Ss :=
  (.cons (.set 2 (.lst false (.one (.lst false (.one (.con (.int 2)) .nil)) (.one (.lst false (.one (.con (.int 3)) .nil)) (.one (.lst false (.one (.con (.int 2)) (.one (.con (.int 2)) .nil))) (.one (.lst false (.one (.con (.int 5)) .nil)) (.one (.lst false (.one (.con (.int 6)) .nil)) (.one (.lst false (.one (.con (.int 2)) (.one (.con (.int 3)) .nil))) (.one (.lst false (.one (.con (.int 7)) .nil)) (.one (.lst false (.one (.con (.int 2)) (.one (.con (.int 2)) (.one (.con (.int 2)) .nil)))) (.one (.lst false (.one (.con (.int 9)) .nil)) (.one (.lst false (.one (.con (.int 3)) (.one (.con (.int 3)) .nil))) (.one (.lst false (.one (.con (.int 4)) (.one (.con (.int 3)) .nil))) (.one (.lst false (.one (.con (.int 11)) .nil)) .nil))))))))))))))
    (.cons (.ret (.sub (.loc 2) (.call "" "_law_take" (.one (.loc 0) (.one (.loc 1) .nil)) [] [])))
    .nil))
def x_law_sizes : Df := ⟨"", "_law_sizes", ["_law_box_here", "_law_most", "_law_menu"], 2, b_law_sizes, d_law_sizes⟩
theorem o_law_sizes : x_law_sizes.Ok tb := ⟨by decide +kernel, fun _ _ _ _ _ _ us hl => match us, hl with | [_, _], _ => rfl⟩
def d_law_all : He.DefD := ⟨(Str.ofString "_law_all", none), "_law_all", "_law_all", defArgs (top 28), defBody (top 28), defScope (top 28), [], []⟩
def b_law_all : Ss :=
  (.cons (.set 1 (.lst false (.one (.tup .nil) .nil)))
    (.cons (.for_ (.one 2) (.seq (.loc 0)) (.cons (.set 3 (.lst false .nil))
    (.cons (.for_ (.one 4) (.seq (.loc 1)) (.cons (.set 3 (.bin .Add (.loc 3) (.comp false (.bin .Add (.loc 4) (.tup (.one (.loc 5) .nil))) (.one 5) (.rng1 (.loc 2)) .non [5])))
    .nil))
    (.cons (.set 1 (.loc 3))
    .nil))))
    (.cons (.ret (.loc 1))
    .nil)))
def x_law_all : Df := ⟨"", "_law_all", ["_law_sizes_here", "_law_found", "_law_size", "_law_more", "_law_outcome", "_law_rest"], 1, b_law_all, d_law_all⟩
theorem o_law_all : x_law_all.Ok tb := ⟨by decide +kernel, fun _ _ _ _ _ _ us hl => match us, hl with | [_], _ => rfl⟩
def d_law_add : He.DefD := ⟨(Str.ofString "_law_add", none), "_law_add", "_law_add", defArgs (top 29), defBody (top 29), defScope (top 29), [], []⟩
def b_law_add : Ss :=
  (.cons (.ret (.seq .tuple (.comp false (.bin .Mod (.bi .int (.one (.bin .Add (.sub (.loc 1) (.loc 4)) (.bin .Mult (.loc 3) (.sub (.loc 2) (.loc 4)))) .nil)) (.sub (.loc 0) (.loc 4))) (.one 4) (.rng1 (.bi .len (.one (.loc 0) .nil))) .non [4])))
    .nil)
def x_law_add : Df := ⟨"", "_law_add", ["_law_sizes_here", "_law_one", "_law_other", "_law_times", "_law_k"], 4, b_law_add, d_law_add⟩
theorem o_law_add : x_law_add.Ok tb := ⟨by decide +kernel, fun _ _ _ _ _ _ us hl => match us, hl with | [_, _, _, _], _ => rfl⟩
def d_law_pick : He.DefD := ⟨(Str.ofString "_law_pick", none), "_law_pick", "_law_pick", defArgs (top 30), defBody (top 30), defScope (top 30), [], []⟩
def b_law_pick : Ss :=
  (.cons (.ret (.seq .tuple (.comp false (.call "" "_law_take" (.one (.loc 0) (.one (.loc 2) .nil)) [] []) (.one 2) (.seq (.loc 1)) .non [2])))
    .nil)
def x_law_pick : Df := ⟨"", "_law_pick", ["_law_box_here", "_law_sizes_here", "_law_size"], 2, b_law_pick, d_law_pick⟩
theorem o_law_pick : x_law_pick.Ok tb := ⟨by decide +kernel, fun _ _ _ _ _ _ us hl => match us, hl with | [_, _], _ => rfl⟩
def d_law_event : He.DefD := ⟨(Str.ofString "_law_event", none), "_law_event", "_law_event", defArgs (top 31), defBody (top 31), defScope (top 31), [], []⟩
def b_law_event : Ss :=
  (.cons (.set 2 (.bin .Add (.con (.int 1)) (.call "" "_law_take" (.one (.loc 0) (.one (.con (.int 4)) .nil)) [] [])))
    (.cons (.ret (.comp false (.loc 3) (.one 3) (.seq (.call "" "_law_all" (.one (.loc 1) .nil) [] [])) (.som (.cmp .Lt (.call "" "_law_take" (.one (.loc 0) (.one (.con (.int 5)) .nil)) [] []) (.loc 2))) [3]))
    .nil))
def x_law_event : Df := ⟨"", "_law_event", ["_law_box_here", "_law_sizes_here", "_law_way", "_law_outcome"], 2, b_law_event, d_law_event⟩
theorem o_law_event : x_law_event.Ok tb := ⟨by decide +kernel, fun _ _ _ _ _ _ us hl => match us, hl with | [_, _], _ => rfl⟩
def d_law_sum : He.DefD := ⟨(Str.ofString "_law_sum", none), "_law_sum", "_law_sum", defArgs (top 32), defBody (top 32), defScope (top 32), [], []⟩
def b_law_sum : Ss :=
  (.cons (.set 2 (.seq .tuple (.comp false (.con (.int 0)) (.one 3) (.seq (.loc 0)) .non [3])))
    (.cons (.for_ (.one 4) (.seq (.loc 1)) (.cons (.set 2 (.call "" "_law_add" (.one (.loc 0) (.one (.loc 2) (.one (.loc 4) (.one (.con (.int 1)) .nil)))) [] []))
    .nil))
    (.cons (.ret (.loc 2))
    .nil)))
def x_law_sum : Df := ⟨"", "_law_sum", ["_law_sizes_here", "_law_outcomes", "_law_found", "_law_size", "_law_outcome"], 2, b_law_sum, d_law_sum⟩
theorem o_law_sum : x_law_sum.Ok tb := ⟨by decide +kernel, fun _ _ _ _ _ _ us hl => match us, hl with | [_, _], _ => rfl⟩
def d_law_late : He.DefD := ⟨(Str.ofString "_law_late", none), "_law_late", "_law_late", defArgs (top 33), defBody (top 33), defScope (top 33), [], []⟩
def b_law_late : Ss :=
  (.cons (.set 2 (.lst true .nil))
    (.cons (.for_ (.one 3) (.seq (.rev (.loc 0))) (.cons (.ifs (.cmp .NotIn (.loc 3) (.loc 1)) (.cons (.ret (.rev (.loc 2)))
    .nil) .nil)
    (.cons (.app (.loc 2) (.loc 3))
    .nil)))
    (.cons (.ret (.rev (.loc 2)))
    .nil)))
def x_law_late : Df := ⟨"", "_law_late", ["_law_order", "_law_league_told", "_law_found", "_law_name"], 2, b_law_late, d_law_late⟩
theorem o_law_late : x_law_late.Ok tb := ⟨by decide +kernel, fun _ _ _ _ _ _ us hl => match us, hl with | [_, _], _ => rfl⟩
def d_law_choices : He.DefD := ⟨(Str.ofString "_law_choices", none), "_law_choices", "_law_choices", defArgs (top 34), defBody (top 34), defScope (top 34), [], []⟩
def b_law_choices : Ss :=
  (.cons (.set 1 (.lst false (.one (.lst false .nil) .nil)))
    (.cons (.for_ (.one 2) (.rng1 (.bi .len (.one (.loc 0) .nil))) (.cons (.set 1 (.bin .Add (.loc 1) (.comp false (.bin .Add (.loc 3) (.lst false (.one (.loc 2) .nil))) (.one 3) (.seq (.loc 1)) .non [3])))
    .nil))
    (.cons (.ret (.loc 1))
    .nil)))
def x_law_choices : Df := ⟨"", "_law_choices", ["_law_figures", "_law_found", "_law_k", "_law_row"], 1, b_law_choices, d_law_choices⟩
theorem o_law_choices : x_law_choices.Ok tb := ⟨by decide +kernel, fun _ _ _ _ _ _ us hl => match us, hl with | [_], _ => rfl⟩
def d_law_reach : He.DefD := ⟨(Str.ofString "_law_reach", none), "_law_reach", "_law_reach", defArgs (top 35), defBody (top 35), defScope (top 35), [], []⟩
def b_law_reach : Ss :=
  (.cons (.set 3 (.lst true .nil))
    (.cons (.for_ (.one 4) (.seq (.call "" "_law_all" (.one (.loc 0) .nil) [] [])) (.cons (.set 5 (.comp false (.call "" "_law_sum" (.one (.loc 0) (.one (.bin .Add (.lst false (.one (.loc 4) .nil)) (.comp false (.sub (.loc 2) (.loc 6)) (.one 6) (.seq (.loc 7)) .non [6])) .nil)) [] []) (.one 7) (.seq (.call "" "_law_choices" (.one (.loc 2) .nil) [] [])) .non [7]))
    (.cons (.ifs (.cmp .NotEq (.comp false (.loc 8) (.one 8) (.seq (.loc 5)) (.som (.cmp .In (.loc 8) (.loc 1))) [8]) (.lst false .nil)) (.cons (.app (.loc 3) (.loc 4))
    .nil) .nil)
    .nil)))
    (.cons (.ret (.loc 3))
    .nil)))
def x_law_reach : Df := ⟨"", "_law_reach", ["_law_sizes_here", "_law_event_here", "_law_figures", "_law_found", "_law_here", "_law_ends", "_law_k", "_law_row", "_law_outcome"], 3, b_law_reach, d_law_reach⟩
theorem o_law_reach : x_law_reach.Ok tb := ⟨by decide +kernel, fun _ _ _ _ _ _ us hl => match us, hl with | [_, _, _], _ => rfl⟩
def d_law_late_refused : He.DefD := ⟨(Str.ofString "_law_late_refused", none), "_law_late_refused", "_law_late_refused", defArgs (top 36), defBody (top 36), defScope (top 36), [], []⟩
def b_law_late_refused : Ss :=
  (.cons (.try_ (.cons (.expr (.call "" "late" (.one (.loc 0) (.one (.loc 1) .nil)) [] []))
    .nil) (.cons "BadOrder" (some 2) (.cons (.ret (.lst false (.one (.con (.str (Str.ofString "order"))) (.one (.exf "given") .nil))))
    .nil) (.cons "BadLeague" (some 2) (.cons (.ret (.lst false (.one (.con (.str (Str.ofString "league"))) (.one (.exf "given") .nil))))
    .nil) .nil)))
    (.cons (.ret (.lst false .nil))
    .nil))
def x_law_late_refused : Df := ⟨"", "_law_late_refused", ["_law_order", "_law_league_told", "e"], 2, b_law_late_refused, d_law_late_refused⟩
theorem o_law_late_refused : x_law_late_refused.Ok tb := ⟨by decide +kernel, fun _ _ _ _ _ _ us hl => match us, hl with | [_, _], _ => rfl⟩
def d_law_reach_refused : He.DefD := ⟨(Str.ofString "_law_reach_refused", none), "_law_reach_refused", "_law_reach_refused", defArgs (top 37), defBody (top 37), defScope (top 37), [], []⟩
def b_law_reach_refused : Ss :=
  (.cons (.try_ (.cons (.expr (.call "" "reach" (.one (.loc 0) (.one (.loc 1) (.one (.loc 2) .nil))) [] []))
    .nil) (.cons "BadEvent" (some 3) (.cons (.ret (.lst false (.one (.con (.str (Str.ofString "event"))) (.one (.exf "given") .nil))))
    .nil) (.cons "BadOutcome" (some 3) (.cons (.ret (.lst false (.one (.con (.str (Str.ofString "outcome"))) (.one (.exf "given") .nil))))
    .nil) .nil)))
    (.cons (.ret (.lst false .nil))
    .nil))
def x_law_reach_refused : Df := ⟨"", "_law_reach_refused", ["_law_group", "_law_event_here", "_law_figures", "e"], 3, b_law_reach_refused, d_law_reach_refused⟩
theorem o_law_reach_refused : x_law_reach_refused.Ok tb := ⟨by decide +kernel, fun _ _ _ _ _ _ us hl => match us, hl with | [_, _, _], _ => rfl⟩
def d_law_leagues : He.DefD := ⟨(Str.ofString "_law_leagues", none), "_law_leagues", "_law_leagues", defArgs (top 38), defBody (top 38), defScope (top 38), [], []⟩
def b_law_leagues : Ss :=
  (.cons (.set 1 (.slc (.lst false (.one (.con (.str (Str.ofString "kai"))) (.one (.con (.str (Str.ofString "ann"))) (.one (.con (.str (Str.ofString "anna"))) (.one (.con (.str (Str.ofString "bob"))) (.one (.con (.str (Str.ofString "zoe"))) (.one (.con (.str (Str.ofString "eleanora"))) .nil))))))) .non (.som (.bin .Add (.con (.int 1)) (.call "" "_law_take" (.one (.loc 0) (.one (.con (.int 6)) .nil)) [] [])))))
    (.cons (.set 2 (.call "" "_law_take" (.one (.loc 0) (.one (.bi .len (.one (.loc 1) .nil)) .nil)) [] []))
    (.cons (.set 1 (.bin .Add (.slc (.loc 1) (.som (.loc 2)) .non) (.slc (.loc 1) .non (.som (.loc 2)))))
    (.cons (.set 3 (.comp false (.loc 4) (.one 4) (.seq (.loc 1)) (.som (.cmp .Gt (.call "" "_law_take" (.one (.loc 0) (.one (.con (.int 4)) .nil)) [] []) (.con (.int 0)))) [4]))
    (.cons (.set 5 (.rev (.loc 3)))
    (.cons (.for_ (.one 6) (.rng1 (.con (.int 2))) (.cons (.ifs (.cmp .NotEq (.call "" "late" (.one (.loc 1) (.one (.seq .tuple (.loc 5)) .nil)) [0, 1] []) (.call "" "_law_late" (.one (.loc 1) (.one (.loc 3) .nil)) [] [])) (.cons (.ret (.con (.bl false)))
    .nil) .nil)
    (.cons (.app (.call "" "late" (.one (.loc 1) (.one (.loc 5) .nil)) [] []) (.con (.str (Str.ofString "zed"))))
    .nil)))
    (.cons (.ifs (.cmp .NotEq (.loc 5) (.rev (.loc 3))) (.cons (.ret (.con (.bl false)))
    .nil) .nil)
    (.cons (.set 7 (.lst false (.one (.con .non) (.one (.lst false .nil) (.one (.con (.int 5)) (.one (.lst false (.one (.con (.str (Str.ofString "a"))) (.one (.con (.str (Str.ofString "a"))) .nil))) (.one (.lst false (.one (.con (.str (Str.ofString "a"))) (.one (.con (.str (Str.ofString "B"))) .nil))) (.one (.con (.str (Str.ofString "ab"))) (.one (.lst false (.one (.lst false (.one (.con (.str (Str.ofString "a"))) .nil)) .nil)) (.one (.lst false (.one (.con (.str (Str.ofString "B"))) (.one (.con (.str (Str.ofString "a"))) .nil))) (.one (.lst false (.one (.con (.str (Str.ofString "a1"))) .nil)) (.one (.lst false (.one (.con (.str (Str.ofString "eleanoraz"))) .nil)) (.one (.tup (.one (.con (.str (Str.ofString "a"))) (.one (.con (.str (Str.ofString "a"))) .nil))) .nil)))))))))))))
    (.cons (.set 7 (.sub (.loc 7) (.call "" "_law_take" (.one (.loc 0) (.one (.con (.int 11)) .nil)) [] [])))
    (.cons (.set 8 (.lst false (.one (.con .non) (.one (.con (.int 5)) (.one (.lst false (.one (.con (.str (Str.ofString "zed"))) .nil)) (.one (.bin .Add (.slc (.loc 1) .non (.som (.con (.int 1)))) (.slc (.loc 1) .non (.som (.con (.int 1))))) (.one (.con (.str (Str.ofString "ann"))) (.one (.lst false (.one (.con .non) .nil)) (.one (.lst false (.one (.lst false (.one (.con (.str (Str.ofString "ann"))) .nil)) .nil)) (.one (.dic .k true (.cons (.con (.str (Str.ofString "ann"))) (.con (.int 1)) .nil)) (.one (.tup (.one (.con (.str (Str.ofString "zed"))) .nil)) .nil)))))))))))
    (.cons (.set 8 (.sub (.bin .Add (.loc 8) (.lst false (.one (.lst false (.one (.con (.str (Str.ofString "zed"))) (.one (.sub (.loc 1) (.con (.int 0))) .nil))) .nil))) (.call "" "_law_take" (.one (.loc 0) (.one (.con (.int 10)) .nil)) [] [])))
    (.cons (.ret (.an (.cmp .Eq (.call "" "_law_late_refused" (.one (.loc 7) (.one (.loc 8) .nil)) [] []) (.lst false (.one (.con (.str (Str.ofString "order"))) (.one (.loc 7) .nil)))) (.cmp .Eq (.call "" "_law_late_refused" (.one (.loc 1) (.one (.loc 8) .nil)) [] []) (.lst false (.one (.con (.str (Str.ofString "league"))) (.one (.loc 8) .nil))))))
    .nil))))))))))))
def x_law_leagues : Df := ⟨"", "_law_leagues", ["_law_box_here", "_law_order", "_law_at", "_law_league_told", "_law_name", "_law_passed", "_law_turn", "_law_bad", "_law_odd"], 1, b_law_leagues, d_law_leagues⟩
theorem o_law_leagues : x_law_leagues.Ok tb := ⟨by decide +kernel, fun _ _ _ _ _ _ us hl => match us, hl with | [_], _ => rfl⟩
def d_law : He.DefD := ⟨(Str.ofString "law", none), "law", "law", defArgs (top 39), defBody (top 39), defScope (top 39), [], []⟩
def b_law : Ss :=
  (.cons (.for_ (.one 1) (.rng1 (.bi .max2 (.one (.con (.int 1)) (.one (.bi .min2 (.one (.con (.int 2)) (.one (.bi .len (.one (.loc 0) .nil)) .nil))) .nil)))) (.cons (.set 2 (.call "" "_law_box" (.one (.loc 0) (.one (.loc 1) .nil)) [] []))
    (.cons (.ifs (.nt (.call "" "_law_leagues" (.one (.loc 2) .nil) [] [])) (.cons (.ret (.con (.bl false)))
    .nil) .nil)
    (.cons (.set 3 (.call "" "_law_sizes" (.one (.loc 2) (.one (.con (.int 12)) .nil)) [] []))
    (.cons (.set 4 (.make false "Group" (.one (.loc 3) .nil) [] []))
    (.cons (.set 5 (.call "" "_law_event" (.one (.loc 2) (.one (.loc 3) .nil)) [] []))
    (.cons (.set 6 (.comp false (.call "" "_law_pick" (.one (.loc 2) (.one (.loc 3) .nil)) [] []) (.one 7) (.rng1 (.call "" "_law_take" (.one (.loc 2) (.one (.con (.int 4)) .nil)) [] [])) .non [7]))
    (.cons (.set 8 (.call "" "_law_reach" (.one (.loc 3) (.one (.loc 5) (.one (.loc 6) .nil))) [] []))
    (.cons (.for_ (.one 7) (.rng1 (.con (.int 2))) (.cons (.ifs (.cmp .NotEq (.call "" "reach" (.one (.loc 4) (.one (.bin .Add (.rev (.loc 5)) (.slc (.loc 5) .non (.som (.con (.int 1))))) (.one (.seq .tuple (.loc 6)) .nil))) [0, 1, 2] []) (.loc 8)) (.cons (.ret (.con (.bl false)))
    .nil) .nil)
    (.cons (.app (.call "" "reach" (.one (.loc 4) (.one (.loc 5) (.one (.loc 6) .nil))) [] []) (.meth "Group" "zero" (.loc 4) .nil [] []))
    .nil)))
    (.cons (.set 9 (.sub (.lst false (.one (.con .non) (.one (.con (.int 5)) (.one (.lst false (.one (.con (.int 0)) .nil)) (.one (.seq .tuple (.loc 3)) (.one (.con (.str (Str.ofString "0"))) (.one (.bin .Mult (.tup (.one (.con (.bl true)) .nil)) (.bi .len (.one (.loc 3) .nil))) .nil))))))) (.call "" "_law_take" (.one (.loc 2) (.one (.con (.int 6)) .nil)) [] [])))
    (.cons (.for_ (.one 10) (.seq (.lst false (.one (.con .non) (.one (.con (.int 5)) (.one (.lst false (.one (.loc 9) .nil)) (.one (.bin .Add (.loc 5) (.lst false (.one (.loc 9) .nil))) (.one (.bin .Add (.lst false (.one (.loc 9) .nil)) (.loc 5)) (.one (.con (.str (Str.ofString "0"))) .nil)))))))) (.cons (.ifs (.cmp .NotEq (.call "" "_law_reach_refused" (.one (.loc 4) (.one (.loc 10) (.one (.lst false (.one (.loc 9) .nil)) .nil))) [] []) (.lst false (.one (.con (.str (Str.ofString "event"))) (.one (.loc 10) .nil)))) (.cons (.ret (.con (.bl false)))
    .nil) .nil)
    .nil))
    (.cons (.ifs (.cmp .NotEq (.call "" "_law_reach_refused" (.one (.loc 4) (.one (.loc 5) (.one (.bin .Add (.slc (.loc 6) .non (.som (.con (.int 2)))) (.lst false (.one (.loc 9) (.one (.con .non) .nil)))) .nil))) [] []) (.lst false (.one (.con (.str (Str.ofString "outcome"))) (.one (.loc 9) .nil)))) (.cons (.ret (.con (.bl false)))
    .nil) .nil)
    .nil))))))))))))
    (.cons (.ret (.con (.bl true)))
    .nil))
def x_law : Df := ⟨"", "law", ["_law_script", "_law_k", "_law_box_here", "_law_sizes_here", "_law_group", "_law_event_here", "_law_figures", "_law_turn", "_law_due", "_law_odd", "_law_value"], 1, b_law, d_law⟩
theorem o_law : x_law.Ok tb := ⟨by decide +kernel, fun _ _ _ _ _ _ us hl => match us, hl with | [_], _ => rfl⟩
def e_BadSizes : Xd := ⟨"BadSizes", "given", ⟨(Str.ofString "BadSizes", some ("__init__" : Str)), "__init__", "BadSizes.__init__", defArgs (inClass (top 3) 0), defBody (inClass (top 3) 0), defScope (inClass (top 3) 0), [], []⟩⟩
theorem oe_BadSizes : e_BadSizes.Ok "DrawError" := ⟨by decide +kernel, fun _ _ _ _ _ _ us hl => match us, hl with | [_, _], _ => rfl⟩
def e_BadOutcome : Xd := ⟨"BadOutcome", "given", ⟨(Str.ofString "BadOutcome", some ("__init__" : Str)), "__init__", "BadOutcome.__init__", defArgs (inClass (top 4) 0), defBody (inClass (top 4) 0), defScope (inClass (top 4) 0), [], []⟩⟩
theorem oe_BadOutcome : e_BadOutcome.Ok "DrawError" := ⟨by decide +kernel, fun _ _ _ _ _ _ us hl => match us, hl with | [_, _], _ => rfl⟩
def e_BadEvent : Xd := ⟨"BadEvent", "given", ⟨(Str.ofString "BadEvent", some ("__init__" : Str)), "__init__", "BadEvent.__init__", defArgs (inClass (top 5) 0), defBody (inClass (top 5) 0), defScope (inClass (top 5) 0), [], []⟩⟩
theorem oe_BadEvent : e_BadEvent.Ok "DrawError" := ⟨by decide +kernel, fun _ _ _ _ _ _ us hl => match us, hl with | [_, _], _ => rfl⟩
def e_BadOrder : Xd := ⟨"BadOrder", "given", ⟨(Str.ofString "BadOrder", some ("__init__" : Str)), "__init__", "BadOrder.__init__", defArgs (inClass (top 6) 0), defBody (inClass (top 6) 0), defScope (inClass (top 6) 0), [], []⟩⟩
theorem oe_BadOrder : e_BadOrder.Ok "DrawError" := ⟨by decide +kernel, fun _ _ _ _ _ _ us hl => match us, hl with | [_, _], _ => rfl⟩
def e_BadLeague : Xd := ⟨"BadLeague", "given", ⟨(Str.ofString "BadLeague", some ("__init__" : Str)), "__init__", "BadLeague.__init__", defArgs (inClass (top 7) 0), defBody (inClass (top 7) 0), defScope (inClass (top 7) 0), [], []⟩⟩
theorem oe_BadLeague : e_BadLeague.Ok "DrawError" := ⟨by decide +kernel, fun _ _ _ _ _ _ us hl => match us, hl with | [_, _], _ => rfl⟩
theorem p_0 : PatD d_reach x_reach.ps 2 (["numbers"].map Str.ofString) [0, 1, 2] := fun _ _ _ _ _ _ us ws as h1 h2 h3 => match us, ws, h1, h2, h3 with
  | [a0, a1], [b0], _, _, h3 => by cases h3; rfl
theorem p_1 : PatD d_late x_late.ps 1 (["league"].map Str.ofString) [0, 1] := fun _ _ _ _ _ _ us ws as h1 h2 h3 => match us, ws, h1, h2, h3 with
  | [a0], [b0], _, _, h3 => by cases h3; rfl
def tab : List Df := [x_is_integer, x_all_outcomes, x_Group_init, x_Group_outcomes, x_Group_zero, x_Group_has, x_Group_checked, x_Group_added, x_Group_plus, x_Group_total, x_Group_event, x_is_name, x_check_order, x_check_league, x_late, x_sums_of, x_reach, x_law_cell, x_law_box, x_law_take, x_law_sizes, x_law_all, x_law_add, x_law_pick, x_law_event, x_law_sum, x_law_late, x_law_choices, x_law_reach, x_law_late_refused, x_law_reach_refused, x_law_leagues, x_law]
def xs : List Xd := [e_BadSizes, e_BadOutcome, e_BadEvent, e_BadOrder, e_BadLeague]
def fn : List He.DefD := tab.map (·.d) ++ xs.map (·.d)
def rt : Option String := some "DrawError"
theorem t_ok : TabOk tb rt tab xs fn where
  ok := List.forall_mem_cons.mpr ⟨o_is_integer, List.forall_mem_cons.mpr ⟨o_all_outcomes, List.forall_mem_cons.mpr ⟨o_Group_init, List.forall_mem_cons.mpr ⟨o_Group_outcomes, List.forall_mem_cons.mpr ⟨o_Group_zero, List.forall_mem_cons.mpr ⟨o_Group_has, List.forall_mem_cons.mpr ⟨o_Group_checked, List.forall_mem_cons.mpr ⟨o_Group_added, List.forall_mem_cons.mpr ⟨o_Group_plus, List.forall_mem_cons.mpr ⟨o_Group_total, List.forall_mem_cons.mpr ⟨o_Group_event, List.forall_mem_cons.mpr ⟨o_is_name, List.forall_mem_cons.mpr ⟨o_check_order, List.forall_mem_cons.mpr ⟨o_check_league, List.forall_mem_cons.mpr ⟨o_late, List.forall_mem_cons.mpr ⟨o_sums_of, List.forall_mem_cons.mpr ⟨o_reach, List.forall_mem_cons.mpr ⟨o_law_cell, List.forall_mem_cons.mpr ⟨o_law_box, List.forall_mem_cons.mpr ⟨o_law_take, List.forall_mem_cons.mpr ⟨o_law_sizes, List.forall_mem_cons.mpr ⟨o_law_all, List.forall_mem_cons.mpr ⟨o_law_add, List.forall_mem_cons.mpr ⟨o_law_pick, List.forall_mem_cons.mpr ⟨o_law_event, List.forall_mem_cons.mpr ⟨o_law_sum, List.forall_mem_cons.mpr ⟨o_law_late, List.forall_mem_cons.mpr ⟨o_law_choices, List.forall_mem_cons.mpr ⟨o_law_reach, List.forall_mem_cons.mpr ⟨o_law_late_refused, List.forall_mem_cons.mpr ⟨o_law_reach_refused, List.forall_mem_cons.mpr ⟨o_law_leagues, List.forall_mem_cons.mpr ⟨o_law, fun _ h => (nomatch h)⟩⟩⟩⟩⟩⟩⟩⟩⟩⟩⟩⟩⟩⟩⟩⟩⟩⟩⟩⟩⟩⟩⟩⟩⟩⟩⟩⟩⟩⟩⟩⟩⟩
  ex := List.forall_mem_cons.mpr ⟨⟨_, rfl, e_BadSizes, by simp [xs], rfl, rfl, oe_BadSizes⟩, List.forall_mem_cons.mpr ⟨⟨_, rfl, e_BadOutcome, by simp [xs], rfl, rfl, oe_BadOutcome⟩, List.forall_mem_cons.mpr ⟨⟨_, rfl, e_BadEvent, by simp [xs], rfl, rfl, oe_BadEvent⟩, List.forall_mem_cons.mpr ⟨⟨_, rfl, e_BadOrder, by simp [xs], rfl, rfl, oe_BadOrder⟩, List.forall_mem_cons.mpr ⟨⟨_, rfl, e_BadLeague, by simp [xs], rfl, rfl, oe_BadLeague⟩, fun _ h => (nomatch h)⟩⟩⟩⟩⟩
  fd := fun x h => List.mem_append_left _ (List.mem_map.mpr ⟨x, h, rfl⟩)
  fx := fun x h => List.mem_append_right _ (List.mem_map.mpr ⟨x, h, rfl⟩)
  fns := by decide +kernel
  pats := List.forall_mem_cons.mpr ⟨⟨_, rfl, p_0⟩, List.forall_mem_cons.mpr ⟨⟨_, rfl, p_1⟩, fun _ h => (nomatch h)⟩⟩
  mts := by decide +kernel
  mks := by decide +kernel
  exn := by decide +kernel
theorem u_is_integer {j : Nat} {ds : List D} {m : Mem} (h : ds.length = 1) : callL tab (xnT tb) (j + 1) "" "is_integer" ds m = retR m.length (evSs (glL tab (xnT tb) j) (xnT tb) b_is_integer (e0 1 ds) m) := callL_eq (x := x_is_integer) (by rfl) h
theorem u_all_outcomes {j : Nat} {ds : List D} {m : Mem} (h : ds.length = 1) : callL tab (xnT tb) (j + 1) "" "all_outcomes" ds m = retR m.length (evSs (glL tab (xnT tb) j) (xnT tb) b_all_outcomes (e0 5 ds) m) := callL_eq (x := x_all_outcomes) (by rfl) h
theorem u_Group_init {j : Nat} {ds : List D} {m : Mem} (h : ds.length = 2) : callL tab (xnT tb) (j + 1) "Group" "__init__" ds m = retR m.length (evSs (glL tab (xnT tb) j) (xnT tb) b_Group_init (e0 3 ds) m) := callL_eq (x := x_Group_init) (by rfl) h
theorem u_Group_outcomes {j : Nat} {ds : List D} {m : Mem} (h : ds.length = 1) : callL tab (xnT tb) (j + 1) "Group" "outcomes" ds m = retR m.length (evSs (glL tab (xnT tb) j) (xnT tb) b_Group_outcomes (e0 1 ds) m) := callL_eq (x := x_Group_outcomes) (by rfl) h
theorem u_Group_zero {j : Nat} {ds : List D} {m : Mem} (h : ds.length = 1) : callL tab (xnT tb) (j + 1) "Group" "zero" ds m = retR m.length (evSs (glL tab (xnT tb) j) (xnT tb) b_Group_zero (e0 1 ds) m) := callL_eq (x := x_Group_zero) (by rfl) h
theorem u_Group_has {j : Nat} {ds : List D} {m : Mem} (h : ds.length = 2) : callL tab (xnT tb) (j + 1) "Group" "has" ds m = retR m.length (evSs (glL tab (xnT tb) j) (xnT tb) b_Group_has (e0 4 ds) m) := callL_eq (x := x_Group_has) (by rfl) h
theorem u_Group_checked {j : Nat} {ds : List D} {m : Mem} (h : ds.length = 2) : callL tab (xnT tb) (j + 1) "Group" "checked" ds m = retR m.length (evSs (glL tab (xnT tb) j) (xnT tb) b_Group_checked (e0 2 ds) m) := callL_eq (x := x_Group_checked) (by rfl) h
theorem u_Group_added {j : Nat} {ds : List D} {m : Mem} (h : ds.length = 4) : callL tab (xnT tb) (j + 1) "Group" "added" ds m = retR m.length (evSs (glL tab (xnT tb) j) (xnT tb) b_Group_added (e0 6 ds) m) := callL_eq (x := x_Group_added) (by rfl) h
theorem u_Group_plus {j : Nat} {ds : List D} {m : Mem} (h : ds.length = 3) : callL tab (xnT tb) (j + 1) "Group" "plus" ds m = retR m.length (evSs (glL tab (xnT tb) j) (xnT tb) b_Group_plus (e0 3 ds) m) := callL_eq (x := x_Group_plus) (by rfl) h
theorem u_Group_total {j : Nat} {ds : List D} {m : Mem} (h : ds.length = 2) : callL tab (xnT tb) (j + 1) "Group" "total" ds m = retR m.length (evSs (glL tab (xnT tb) j) (xnT tb) b_Group_total (e0 4 ds) m) := callL_eq (x := x_Group_total) (by rfl) h
theorem u_Group_event {j : Nat} {ds : List D} {m : Mem} (h : ds.length = 2) : callL tab (xnT tb) (j + 1) "Group" "event" ds m = retR m.length (evSs (glL tab (xnT tb) j) (xnT tb) b_Group_event (e0 3 ds) m) := callL_eq (x := x_Group_event) (by rfl) h
theorem u_is_name {j : Nat} {ds : List D} {m : Mem} (h : ds.length = 1) : callL tab (xnT tb) (j + 1) "" "is_name" ds m = retR m.length (evSs (glL tab (xnT tb) j) (xnT tb) b_is_name (e0 2 ds) m) := callL_eq (x := x_is_name) (by rfl) h
theorem u_check_order {j : Nat} {ds : List D} {m : Mem} (h : ds.length = 1) : callL tab (xnT tb) (j + 1) "" "check_order" ds m = retR m.length (evSs (glL tab (xnT tb) j) (xnT tb) b_check_order (e0 3 ds) m) := callL_eq (x := x_check_order) (by rfl) h
theorem u_check_league {j : Nat} {ds : List D} {m : Mem} (h : ds.length = 2) : callL tab (xnT tb) (j + 1) "" "check_league" ds m = retR m.length (evSs (glL tab (xnT tb) j) (xnT tb) b_check_league (e0 4 ds) m) := callL_eq (x := x_check_league) (by rfl) h
theorem u_late {j : Nat} {ds : List D} {m : Mem} (h : ds.length = 2) : callL tab (xnT tb) (j + 1) "" "late" ds m = retR m.length (evSs (glL tab (xnT tb) j) (xnT tb) b_late (e0 4 ds) m) := callL_eq (x := x_late) (by rfl) h
theorem u_sums_of {j : Nat} {ds : List D} {m : Mem} (h : ds.length = 2) : callL tab (xnT tb) (j + 1) "" "sums_of" ds m = retR m.length (evSs (glL tab (xnT tb) j) (xnT tb) b_sums_of (e0 5 ds) m) := callL_eq (x := x_sums_of) (by rfl) h
theorem u_reach {j : Nat} {ds : List D} {m : Mem} (h : ds.length = 3) : callL tab (xnT tb) (j + 1) "" "reach" ds m = retR m.length (evSs (glL tab (xnT tb) j) (xnT tb) b_reach (e0 6 ds) m) := callL_eq (x := x_reach) (by rfl) h
theorem u_law_cell {j : Nat} {ds : List D} {m : Mem} (h : ds.length = 2) : callL tab (xnT tb) (j + 1) "" "_law_cell" ds m = retR m.length (evSs (glL tab (xnT tb) j) (xnT tb) b_law_cell (e0 2 ds) m) := callL_eq (x := x_law_cell) (by rfl) h
theorem u_law_box {j : Nat} {ds : List D} {m : Mem} (h : ds.length = 2) : callL tab (xnT tb) (j + 1) "" "_law_box" ds m = retR m.length (evSs (glL tab (xnT tb) j) (xnT tb) b_law_box (e0 2 ds) m) := callL_eq (x := x_law_box) (by rfl) h
theorem u_law_take {j : Nat} {ds : List D} {m : Mem} (h : ds.length = 2) : callL tab (xnT tb) (j + 1) "" "_law_take" ds m = retR m.length (evSs (glL tab (xnT tb) j) (xnT tb) b_law_take (e0 4 ds) m) := callL_eq (x := x_law_take) (by rfl) h
theorem u_law_sizes {j : Nat} {ds : List D} {m : Mem} (h : ds.length = 2) : callL tab (xnT tb) (j + 1) "" "_law_sizes" ds m = retR m.length (evSs (glL tab (xnT tb) j) (xnT tb) b_law_sizes (e0 3 ds) m) := callL_eq (x := x_law_sizes) (by rfl) h
theorem u_law_all {j : Nat} {ds : List D} {m : Mem} (h : ds.length = 1) : callL tab (xnT tb) (j + 1) "" "_law_all" ds m = retR m.length (evSs (glL tab (xnT tb) j) (xnT tb) b_law_all (e0 6 ds) m) := callL_eq (x := x_law_all) (by rfl) h
theorem u_law_add {j : Nat} {ds : List D} {m : Mem} (h : ds.length = 4) : callL tab (xnT tb) (j + 1) "" "_law_add" ds m = retR m.length (evSs (glL tab (xnT tb) j) (xnT tb) b_law_add (e0 5 ds) m) := callL_eq (x := x_law_add) (by rfl) h
theorem u_law_pick {j : Nat} {ds : List D} {m : Mem} (h : ds.length = 2) : callL tab (xnT tb) (j + 1) "" "_law_pick" ds m = retR m.length (evSs (glL tab (xnT tb) j) (xnT tb) b_law_pick (e0 3 ds) m) := callL_eq (x := x_law_pick) (by rfl) h
theorem u_law_event {j : Nat} {ds : List D} {m : Mem} (h : ds.length = 2) : callL tab (xnT tb) (j + 1) "" "_law_event" ds m = retR m.length (evSs (glL tab (xnT tb) j) (xnT tb) b_law_event (e0 4 ds) m) := callL_eq (x := x_law_event) (by rfl) h
theorem u_law_sum {j : Nat} {ds : List D} {m : Mem} (h : ds.length = 2) : callL tab (xnT tb) (j + 1) "" "_law_sum" ds m = retR m.length (evSs (glL tab (xnT tb) j) (xnT tb) b_law_sum (e0 5 ds) m) := callL_eq (x := x_law_sum) (by rfl) h
theorem u_law_late {j : Nat} {ds : List D} {m : Mem} (h : ds.length = 2) : callL tab (xnT tb) (j + 1) "" "_law_late" ds m = retR m.length (evSs (glL tab (xnT tb) j) (xnT tb) b_law_late (e0 4 ds) m) := callL_eq (x := x_law_late) (by rfl) h
theorem u_law_choices {j : Nat} {ds : List D} {m : Mem} (h : ds.length = 1) : callL tab (xnT tb) (j + 1) "" "_law_choices" ds m = retR m.length (evSs (glL tab (xnT tb) j) (xnT tb) b_law_choices (e0 4 ds) m) := callL_eq (x := x_law_choices) (by rfl) h
theorem u_law_reach {j : Nat} {ds : List D} {m : Mem} (h : ds.length = 3) : callL tab (xnT tb) (j + 1) "" "_law_reach" ds m = retR m.length (evSs (glL tab (xnT tb) j) (xnT tb) b_law_reach (e0 9 ds) m) := callL_eq (x := x_law_reach) (by rfl) h
theorem u_law_late_refused {j : Nat} {ds : List D} {m : Mem} (h : ds.length = 2) : callL tab (xnT tb) (j + 1) "" "_law_late_refused" ds m = retR m.length (evSs (glL tab (xnT tb) j) (xnT tb) b_law_late_refused (e0 3 ds) m) := callL_eq (x := x_law_late_refused) (by rfl) h
theorem u_law_reach_refused {j : Nat} {ds : List D} {m : Mem} (h : ds.length = 3) : callL tab (xnT tb) (j + 1) "" "_law_reach_refused" ds m = retR m.length (evSs (glL tab (xnT tb) j) (xnT tb) b_law_reach_refused (e0 4 ds) m) := callL_eq (x := x_law_reach_refused) (by rfl) h
theorem u_law_leagues {j : Nat} {ds : List D} {m : Mem} (h : ds.length = 1) : callL tab (xnT tb) (j + 1) "" "_law_leagues" ds m = retR m.length (evSs (glL tab (xnT tb) j) (xnT tb) b_law_leagues (e0 9 ds) m) := callL_eq (x := x_law_leagues) (by rfl) h
theorem u_law {j : Nat} {ds : List D} {m : Mem} (h : ds.length = 1) : callL tab (xnT tb) (j + 1) "" "law" ds m = retR m.length (evSs (glL tab (xnT tb) j) (xnT tb) b_law (e0 11 ds) m) := callL_eq (x := x_law) (by rfl) h
@[simp] theorem xn_BadSizes : xnT tb "BadSizes" = some ["given"] := by rfl
@[simp] theorem xn_BadOutcome : xnT tb "BadOutcome" = some ["given"] := by rfl
@[simp] theorem xn_BadEvent : xnT tb "BadEvent" = some ["given"] := by rfl
@[simp] theorem xn_BadOrder : xnT tb "BadOrder" = some ["given"] := by rfl
@[simp] theorem xn_BadLeague : xnT tb "BadLeague" = some ["given"] := by rfl
end K11

/-! K11M -/
set_option Elab.async false
set_option linter.all false
set_option maxRecDepth 100000
set_option maxHeartbeats 400000
namespace K11
open PySem L2 PyProof.Rows IP Gm
@[simp] theorem L_is_integer {j : Nat} {m : Mem} {d : D} (h : nice (vw m d) = true) : callL tab (xnT tb) (j + 1) "" "is_integer" [d] m = .ok (.bl (isIn (vw m d))) m := by
  rw [u_is_integer rfl]
  unfold b_is_integer
  cases e : vw m d <;> simp [e0, e, isAny, isTy, isIn, truth] at h ⊢
/-- a group -/
@[reducible] def gD (ss : List Int) : D := .ins "Group" [("kept_sizes", .lst (ss.map .int)), ("kept_outcomes", .lst ((outs ss).map oD))]
@[simp] theorem vw_gD {m : Mem} {ss : List Int} : vw m (gD ss) = gD ss := rfl
@[simp] theorem att_s {m : Mem} {ss : List Int} : attG (gD ss) "kept_sizes" m = some (.lst (ss.map .int)) := by simp [attG, gD]
@[simp] theorem att_o {m : Mem} {ss : List Int} : attG (gD ss) "kept_outcomes" m = some (.lst ((outs ss).map oD)) := by simp [attG, gD]
theorem L_outcomes {j : Nat} {m : Mem} {ss : List Int} : callL tab (xnT tb) (j + 1) "Group" "outcomes" [gD ss] m = .ok (.lst ((outs ss).map oD)) m := by
  rw [u_Group_outcomes rfl]
  unfold b_Group_outcomes
  simp [e0]
theorem L_zero {j : Nat} {m : Mem} {ss : List Int} (hs : VS ss) : callL tab (xnT tb) (j + 1) "Group" "zero" [gD ss] m = .ok (oD (zero ss)) m := by
  rw [u_Group_zero rfl]
  unfold b_Group_zero
  obtain ⟨r, e⟩ := outs_head hs
  simp [e0, e]
def hasI : List Int → List D → Bool
  | [], [] => true
  | s :: ss, .int x :: xs => decide (0 ≤ x) && decide (x < s) && hasI ss xs
  | _, _ => false
theorem hasI_ints : ∀ {ss : List Int} {o : O}, hasI ss (o.map .int) = true ↔ VO ss o
  | [], [] => by simp [hasI, VO]
  | [], _ :: _ => by simp [hasI, VO]
  | _ :: _, [] => by simp [hasI, VO]
  | s :: ss, x :: xs => by simp [hasI, VO, hasI_ints, and_assoc]
def chkP (p : D × Int) : Bool := match p.1 with
  | .int x => decide (0 ≤ x) && decide (x < p.2)
  | _ => false
theorem hasI_zip : ∀ {ss : List Int} {xs : List D}, xs.length = ss.length → ((List.zip xs ss).map chkP).all id = hasI ss xs
  | [], [], _ => rfl
  | [], _ :: _, h => by simp at h
  | _ :: _, [], h => by simp at h
  | s :: ss, x :: xs, h => by
    have ih := hasI_zip (ss := ss) (xs := xs) (by simpa using h)
    rw [List.zip_cons_cons, List.map_cons, List.all_cons, ih]
    cases x <;> simp [chkP, hasI]
theorem hasI_len : ∀ {ss : List Int} {xs : List D}, xs.length ≠ ss.length → hasI ss xs = false
  | [], [], h => (h rfl).elim
  | [], _ :: _, _ => rfl
  | s :: ss, [], h => by simp [hasI]
  | s :: ss, x :: xs, h => by
    have ih := hasI_len (ss := ss) (xs := xs) (by simpa using h)
    cases x <;> simp [hasI, ih]
theorem L_has_t {j : Nat} {m : Mem} {ss : List Int} {xs : List D} (hss : ss.length ≤ 1000) (hn : ∀ x ∈ xs, nice x = true) : callL tab (xnT tb) (j + 2) "Group" "has" [gD ss, .tup xs] m = .ok (.bl (hasI ss xs)) m := by
  rw [u_Group_has rfl]
  unfold b_Group_has
  by_cases hl : xs.length = ss.length
  · simp [e0, isAny, isTy, hl]
    rw [zip_map, compK_each fun p => .bl (chkP p)]
    · have h1 : (xs.zip ss).length ≤ 1000000 := by simp; omega
      have h2 : lenOk (min xs.length ss.length) = true := k_lenOk_of (by simpa using h1)
      simp [h2, ← hasI_zip hl]
    · rintro ⟨x, s⟩ hx
      have h1 := hn x (List.of_mem_zip hx).1
      cases x with
      | int i =>
        simp [isIn, chkP]
        by_cases h0 : 0 ≤ i <;> simp [h0]
      | ref => simp [nice] at h1
      | scr => simp [nice] at h1
      | cls => simp [nice] at h1
      | _ => simp [isIn, chkP]
  · simp [e0, isAny, isTy, hl, hasI_len hl]
theorem L_has_n {j : Nat} {m : Mem} {ss : List Int} {d : D} (h : nice (vw m d) = true) (h2 : ∀ xs, vw m d ≠ .tup xs) : callL tab (xnT tb) (j + 2) "Group" "has" [gD ss, d] m = .ok (.bl false) m := by
  rw [u_Group_has rfl]
  unfold b_Group_has
  cases e : vw m d with
  | tup xs => exact absurd e (h2 xs)
  | ref => simp [e] at h
  | scr => simp [e] at h
  | cls => simp [e] at h
  | _ => simp [e0, isAny, isTy, e]
theorem nice_ints {o : List Int} : ∀ x ∈ o.map D.int, nice x = true := by
  intro x hx
  obtain ⟨i, _, rfl⟩ := List.mem_map.mp hx
  rfl
theorem L_has_o {j : Nat} {m : Mem} {ss : List Int} {o : O} (hs : VS ss) (h : VO ss o) : callL tab (xnT tb) (j + 2) "Group" "has" [gD ss, oD o] m = .ok (.bl true) m := by
  rw [L_has_t (by have := hs.2.1; omega) nice_ints, hasI_ints.mpr h]
theorem L_checked {j : Nat} {m : Mem} {ss : List Int} {o : O} (hs : VS ss) (h : VO ss o) : callL tab (xnT tb) (j + 3) "Group" "checked" [gD ss, oD o] m = .ok (oD o) m := by
  rw [u_Group_checked rfl]
  unfold b_Group_checked
  simp [e0, L_has_o hs h]
theorem L_checked_bad {j : Nat} {m : Mem} {ss : List Int} {d : D} (h : callL tab (xnT tb) (j + 2) "Group" "has" [gD ss, d] m = .ok (.bl false) m) : callL tab (xnT tb) (j + 3) "Group" "checked" [gD ss, d] m = .ex ⟨"BadOutcome", [("given", d)]⟩ m := by
  rw [u_Group_checked rfl]
  unfold b_Group_checked
  simp [e0, h]
theorem L_added {j : Nat} {m : Mem} {ss : List Int} {a b : O} {t : Int} (hs : VS ss) (ha : VO ss a) (hb : VO ss b) (ht : t.natAbs ≤ 1) : callL tab (xnT tb) (j + 1) "Group" "added" [gD ss, oD a, oD b, .int t] m = .ok (oD (addT t ss a b)) m := by
  rw [u_Group_added rfl]
  unfold b_Group_added
  simp [e0]
  rw [enum_map, compK_each (g := fun p : Int × Nat => D.tup [.int (p.2 : Int), .int p.1]) fun p => D.int (((a[p.2]?).getD 0 + t * (b[p.2]?).getD 0) % p.1)]
  · have h1 : lenOk ss.length = true := k_lenOk_of (by have := hs.2.1; omega)
    simp [h1, addT_zip]
  · rintro ⟨s, k⟩ hp
    have hk : ss[k]? = some s := by simpa using List.mem_zipIdx_iff_getElem?.mp hp
    obtain ⟨x, hx, x0, x1⟩ := ha.at hk
    obtain ⟨y, hy, y0, y1⟩ := hb.at hk
    have hS := hs.at hk
    have hM : mulOk t y = true := mulOk_of (Nat.lt_of_le_of_lt (m := 1) (by omega) (by decide)) (Nat.lt_of_le_of_lt (m := 1000) (by omega) (by decide))
    have h0 : s ≠ 0 := by omega
    have h2 : ∀ z : Int, z.fmod s = z % s := fun z => k_fmod_pos (by omega)
    simp [e0, k_atI_nat, hx, hy, hM, h0, h2]
theorem L_plus {j : Nat} {m : Mem} {ss : List Int} {a b : O} (hs : VS ss) (ha : VO ss a) (hb : VO ss b) : callL tab (xnT tb) (j + 4) "Group" "plus" [gD ss, oD a, oD b] m = .ok (oD (add ss a b)) m := by
  rw [u_Group_plus rfl]
  unfold b_Group_plus
  simp [e0, L_checked hs ha, L_checked hs hb, L_added hs ha hb]
theorem L_plus_bad {j : Nat} {m : Mem} {ss : List Int} {a : O} {d : D} (hs : VS ss) (ha : VO ss a) (h : callL tab (xnT tb) (j + 2) "Group" "has" [gD ss, d] m = .ok (.bl false) m) : callL tab (xnT tb) (j + 4) "Group" "plus" [gD ss, oD a, d] m = .ex ⟨"BadOutcome", [("given", d)]⟩ m := by
  rw [u_Group_plus rfl]
  unfold b_Group_plus
  simp [e0, L_checked hs ha, L_checked_bad h]
noncomputable abbrev totalB (j : Nat) := forB (glL tab (xnT tb) (j + 4)) (xnT tb) (.one 3) (.cons (.set 2 (.meth "Group" "plus" (.loc 0) (.one (.loc 2) (.one (.loc 3) .nil)) [] [])) .nil)
theorem total_loop {j : Nat} {m : Mem} {ss : List Int} {x : D} {ds : List D} (hs : VS ss) : ∀ (os : List O) (a : O) (y : Option D), VO ss a → (∀ o ∈ os, VO ss o) → ∃ z, forL (totalB j) (os.map oD ++ ds) [some (gD ss), some x, some (oD a), y] m = forL (totalB j) ds [some (gD ss), some x, some (oD (os.foldl (add ss) a)), z] m
  | [], a, y, _, _ => ⟨y, rfl⟩
  | o :: os, a, y, ha, h => by
    have ho := h o List.mem_cons_self
    obtain ⟨z, e⟩ := total_loop hs os (add ss a o) (some (oD o)) (addT_vo hs) fun x hx => h x (List.mem_cons_of_mem _ hx)
    refine ⟨z, ?_⟩
    rw [List.map_cons, List.cons_append, forL_nx (e1 := [some (gD ss), some x, some (oD (add ss a o)), some (oD o)]) (m1 := m)]
    · exact e
    · simp [L_plus hs ha ho]
theorem L_total {j : Nat} {m : Mem} {ss : List Int} {nd : D} {os : List O} (hw : walkP nd = some (os.map oD)) (hs : VS ss) (h : ∀ o ∈ os, VO ss o) : callL tab (xnT tb) (j + 5) "Group" "total" [gD ss, nd] m = .ok (oD (sum ss os)) m := by
  rw [u_Group_total rfl]
  unfold b_Group_total
  obtain ⟨z, e⟩ := total_loop (j := j) (m := m) (x := nd) (ds := []) hs os (zero ss) none (zero_vo hs.pos) h
  rw [List.append_nil] at e
  simp [e0, L_zero hs, hw, e, Gm.sum]
theorem L_total_bad {j : Nat} {m : Mem} {ss : List Int} {nd d : D} {os : List O} {r : List D} (hw : walkP nd = some (os.map oD ++ d :: r)) (hs : VS ss) (h : ∀ o ∈ os, VO ss o) (hd : callL tab (xnT tb) (j + 2) "Group" "has" [gD ss, d] m = .ok (.bl false) m) : callL tab (xnT tb) (j + 5) "Group" "total" [gD ss, nd] m = .ex ⟨"BadOutcome", [("given", d)]⟩ m := by
  rw [u_Group_total rfl]
  unfold b_Group_total
  obtain ⟨z, e⟩ := total_loop (j := j) (m := m) (x := nd) (ds := d :: r) hs os (zero ss) none (zero_vo hs.pos) h
  have hv := foldl_vo hs os _ (zero_vo hs.pos)
  rw [forL_ex (e1 := [some (gD ss), some nd, some (oD (os.foldl (add ss) (zero ss))), some d]) (m1 := m) (x := ⟨"BadOutcome", [("given", d)]⟩)] at e
  · simp [e0, L_zero hs, hw, e]
  · simp [L_plus_bad hs hv hd]
theorem L_event {j : Nat} {m : Mem} {ss : List Int} {os : List O} (hs : VS ss) (hl : os.length ≤ 1000000) (h : ∀ o ∈ os, VO ss o) (hN : (outs ss).length ≤ 1000000) : callL tab (xnT tb) (j + 3) "Group" "event" [gD ss, .lst (os.map oD)] m = .ok (.lst (((outs ss).filter fun o => decide (o ∈ os)).map oD)) m := by
  rw [u_Group_event rfl]
  unfold b_Group_event
  have h1 : lenOk os.length = true := k_lenOk_of hl
  have h2 : lenOk ((outs ss).filter fun o => decide (o ∈ os)).length = true := k_lenOk_of (Nat.le_trans (List.length_filter_le _ _) hN)
  simp [e0, isAny, isTy]
  rw [compK_each (g := oD) (fun o => D.bl true) fun o ho => by simp [e0, L_has_o hs (h o ho)]]
  simp [h1, e0]
  rw [compK_filter (g := oD) oD (fun o => decide (o ∈ os)) fun o ho => by by_cases q : o ∈ os <;> simp [e0, q]]
  simp [h2]
/-- a list that holds a value that is no outcome -/
def hasV (ss : List Int) (d : D) : Bool := match d with
  | .tup xs => hasI ss xs
  | _ => false
def niceV (d : D) : Bool := match d with
  | .tup xs => xs.all nice
  | d => nice d
theorem L_has_v {j : Nat} {m : Mem} {ss : List Int} {d : D} (hs : VS ss) (h : niceV d = true) : callL tab (xnT tb) (j + 2) "Group" "has" [gD ss, d] m = .ok (.bl (hasV ss d)) m := by
  cases d with
  | tup xs => exact L_has_t (by have := hs.2.1; omega) (by simpa [niceV] using h)
  | ref => simp [niceV] at h
  | scr => simp [niceV] at h
  | cls => simp [niceV] at h
  | _ => exact L_has_n (by simp) (by simp)
theorem L_event_bad {j : Nat} {m : Mem} {ss : List Int} {xs : List D} (hs : VS ss) (hl : xs.length ≤ 1000000) (h : ∀ x ∈ xs, niceV x = true) (hb : xs.all (hasV ss) = false) : callL tab (xnT tb) (j + 3) "Group" "event" [gD ss, .lst xs] m = .ex ⟨"BadEvent", [("given", .lst xs)]⟩ m := by
  rw [u_Group_event rfl]
  unfold b_Group_event
  have h1 : lenOk xs.length = true := k_lenOk_of hl
  have e : compL (cmpB (glL tab (xnT tb) (j + 2)) (.meth "Group" "has" (.loc 0) (.one (.loc 2) .nil) [] []) (.one 2) .non [2] [some (gD ss), some (.lst xs), none]) xs m = .ok (xs.map fun x => .bl (hasV ss x)) m := by
    have q := compK_each (g := fun x : D => x) (f := cmpB (glL tab (xnT tb) (j + 2)) (.meth "Group" "has" (.loc 0) (.one (.loc 2) .nil) [] []) (.one 2) .non [2] [some (gD ss), some (.lst xs), none]) (m := m) (xs := xs) (fun x => .bl (hasV ss x)) fun x hx => by simp [L_has_v hs (h x hx)]
    simpa using q
  simp [e0, isAny, isTy, e, h1, hb]
theorem L_event_no {j : Nat} {m : Mem} {ss : List Int} {d : D} (h : nice (vw m d) = true) (h1 : ∀ xs, vw m d ≠ .lst xs) (h2 : ∀ xs, vw m d ≠ .tup xs) : callL tab (xnT tb) (j + 3) "Group" "event" [gD ss, d] m = .ex ⟨"BadEvent", [("given", d)]⟩ m := by
  rw [u_Group_event rfl]
  unfold b_Group_event
  cases e : vw m d with
  | lst xs => exact absurd e (h1 xs)
  | tup xs => exact absurd e (h2 xs)
  | ref => simp [e] at h
  | scr => simp [e] at h
  | cls => simp [e] at h
  | _ => simp [e0, isAny, isTy, e]
theorem sumsF_len {ss : List Int} {ns : List O} : (sumsF ss ns).length = 2 ^ ns.length := by
  have key : ∀ (ns : List O) (fd : List O), (ns.foldl (fun fd n => fd ++ fd.map fun o => add ss o n) fd).length = fd.length * 2 ^ ns.length := by
    intro ns
    induction ns with
    | nil => intro fd; simp
    | cons n ns ih =>
      intro fd
      rw [List.foldl_cons, ih]
      simp [Nat.pow_succ]
      rw [← Nat.two_mul, Nat.mul_comm 2, Nat.mul_assoc, Nat.mul_comm 2]
  rw [sumsF, key]
  simp
noncomputable abbrev sumsB (j : Nat) := forB (glL tab (xnT tb) (j + 4)) (xnT tb) (.one 3) (.cons (.set 2 (.lst false (.star (.loc 2) (.star (.comp false (.meth "Group" "plus" (.loc 0) (.one (.loc 4) (.one (.loc 3) .nil)) [] []) (.one 4) (.seq (.loc 2)) .non [4]) .nil)))) .nil)
theorem sums_loop {j : Nat} {m : Mem} {ss : List Int} {x : D} (hs : VS ss) : ∀ (ns : List O) (fd : List O) (y : Option D), (∀ o ∈ fd, VO ss o) → (∀ o ∈ ns, VO ss o) → fd.length * 2 ^ ns.length ≤ 1000000 → ∃ z, forL (sumsB j) (ns.map oD) [some (gD ss), some x, some (.lst (fd.map oD)), y, none] m = .nx [some (gD ss), some x, some (.lst ((ns.foldl (fun fd n => fd ++ fd.map fun o => add ss o n) fd).map oD)), z, none] m
  | [], fd, y, _, _, _ => ⟨y, rfl⟩
  | n :: ns, fd, y, hf, hn, hl => by
    have ho := hn n List.mem_cons_self
    have hl2 : (fd ++ fd.map fun o => add ss o n).length * 2 ^ ns.length ≤ 1000000 := by
      simp [Nat.pow_succ] at hl ⊢
      rw [← Nat.two_mul, Nat.mul_comm 2, Nat.mul_assoc, Nat.mul_comm 2]
      exact hl
    have hp : 0 < 2 ^ ns.length := Nat.two_pow_pos _
    have hl3 : fd.length + fd.length ≤ 1000000 := by
      have : (fd ++ fd.map fun o => add ss o n).length ≤ 1000000 := Nat.le_trans (Nat.le_mul_of_pos_right _ hp) hl2
      simpa using this
    obtain ⟨z, e⟩ := sums_loop hs ns (fd ++ fd.map fun o => add ss o n) (some (oD n)) (fun o h => by
      rcases List.mem_append.mp h with h | h
      · exact hf o h
      · obtain ⟨p, _, rfl⟩ := List.mem_map.mp h
        exact addT_vo hs) (fun x hx => hn x (List.mem_cons_of_mem _ hx)) hl2
    refine ⟨z, ?_⟩
    rw [List.map_cons, forL_nx (e1 := [some (gD ss), some x, some (.lst ((fd ++ fd.map fun o => add ss o n).map oD)), some (oD n), none]) (m1 := m)]
    · exact e
    · simp
      rw [compK_each (g := oD) (fun o => oD (add ss o n)) fun o h => by simp [L_plus hs (hf o h) ho]]
      have h1 : lenOk fd.length = true := k_lenOk_of (by omega)
      have h2 : lenOk (fd.length + fd.length) = true := k_lenOk_of (by omega)
      simp [h1, h2]
/-- sizes of the laws -/
def VN (ss : List Int) : Prop := VS ss ∧ (outs ss).length ≤ 1000
theorem L_sums_of {j : Nat} {m : Mem} {ss : List Int} {nd : D} {ns : List O} (hw : walkP nd = some (ns.map oD)) (hs : VN ss) (h : ∀ o ∈ ns, VO ss o) (hl : ns.length ≤ 10) : callL tab (xnT tb) (j + 5) "" "sums_of" [gD ss, nd] m = .ok (.lst (((outs ss).filter fun o => decide (o ∈ sumsF ss ns)).map oD)) m := by
  rw [u_sums_of rfl]
  unfold b_sums_of
  have hp : 2 ^ ns.length ≤ 1024 := Nat.pow_le_pow_right (n := 2) (by decide) hl
  obtain ⟨z, e⟩ := sums_loop (j := j) (m := m) (x := nd) hs.1 ns [zero ss] none (fun o h => by simp at h; subst h; exact zero_vo hs.1.pos) h (by simp; omega)
  have e2 : callL tab (xnT tb) (j + 4) "Group" "event" [gD ss, .lst ((sumsF ss ns).map oD)] m = _ := L_event (j := j + 1) (m := m) (os := sumsF ss ns) hs.1 (by rw [sumsF_len]; omega) (sumsF_vo hs.1) (by have := hs.2; omega)
  have h1 : lenOk 1 = true := by decide
  have e : forL (sumsB j) (ns.map oD) [some (gD ss), some nd, some (.lst ([zero ss].map oD)), none, none] m = .nx [some (gD ss), some nd, some (.lst ((sumsF ss ns).map oD)), z, none] m := e
  simp at e
  simp [e0, L_zero hs.1, hw, h1, e, e2]
/-- what some of the numbers lead into an event -/
def rchP (ss : List Int) (ev ns : List O) (here : O) : Bool := (sumsF ss ns).any fun one => decide (add ss here one ∈ ev)
def reachL (ss : List Int) (ev ns : List O) : List O := (outs ss).filter (rchP ss ev ns)
theorem rchP_eq {ss : List Int} {ev ns : List O} {o : O} (hs : VS ss) : (((outs ss).filter fun s => decide (s ∈ sumsF ss ns)).any fun s => decide (add ss o s ∈ (outs ss).filter fun o => decide (o ∈ ev))) = rchP ss ev ns o := by
  unfold rchP
  rw [Bool.eq_iff_iff]
  simp only [List.any_eq_true, List.mem_filter, decide_eq_true_eq]
  constructor
  · rintro ⟨s, ⟨_, h2⟩, _, h4⟩
    exact ⟨s, h2, h4⟩
  · rintro ⟨s, h2, h4⟩
    exact ⟨s, ⟨mem_outs.mpr (sumsF_vo hs s h2), h2⟩, mem_outs.mpr (addT_vo hs), h4⟩
theorem L_reach {j : Nat} {m : Mem} {ss : List Int} {nd : D} {ns ev : List O} (hw : walkP nd = some (ns.map oD)) (hs : VN ss) (h : ∀ o ∈ ns, VO ss o) (hl : ns.length ≤ 10) (he : ∀ o ∈ ev, VO ss o) (hl2 : ev.length ≤ 1000000) : callL tab (xnT tb) (j + 6) "" "reach" [gD ss, .lst (ev.map oD), nd] m = .ok (.ref m.length) (m ++ [.lst ((reachL ss ev ns).map oD)]) := by
  rw [u_reach rfl]
  unfold b_reach
  have e1 : callL tab (xnT tb) (j + 5) "Group" "event" [gD ss, .lst (ev.map oD)] m = _ := L_event (j := j + 2) (m := m) (os := ev) hs.1 hl2 he (by have := hs.2; omega)
  have e2 : callL tab (xnT tb) (j + 5) "Group" "total" [gD ss, nd] m = _ := L_total (j := j) (m := m) hw hs.1 h
  have e3 : callL tab (xnT tb) (j + 5) "" "sums_of" [gD ss, nd] m = _ := L_sums_of (j := j) (m := m) hw hs h hl
  have e4 : callL tab (xnT tb) (j + 5) "Group" "outcomes" [gD ss] m = _ := L_outcomes (j := j + 4) (m := m) (ss := ss)
  have h2 : lenOk ((outs ss).filter fun o => decide (o ∈ ev)).length = true := k_lenOk_of (Nat.le_trans (List.length_filter_le _ _) (by have := hs.2; omega))
  have h3 : lenOk ((outs ss).filter fun o => decide (o ∈ sumsF ss ns)).length = true := k_lenOk_of (Nat.le_trans (List.length_filter_le _ _) (by have := hs.2; omega))
  have h4 : lenOk (reachL ss ev ns).length = true := k_lenOk_of (Nat.le_trans (List.length_filter_le _ _) (by have := hs.2; omega))
  simp [e0, e1, e2, e3, e4]
  rw [compK_filter (g := oD) oD (rchP ss ev ns) fun o ho => ?_]
  · have h5 : (outs ss).filter (rchP ss ev ns) = reachL ss ev ns := rfl
    simp [h4, h5, fin_new]
  · have ho := mem_outs.mp ho
    have e5 : ∀ {s m}, VO ss s → callL tab (xnT tb) (j + 5) "Group" "plus" [gD ss, oD o, oD s] m = .ok (oD (add ss o s)) m := fun hv => L_plus (j := j + 1) hs.1 ho hv
    simp [e0]
    rw [compK_each (g := oD) (fun s => D.bl (decide (add ss o s ∈ (outs ss).filter fun o => decide (o ∈ ev)))) fun s hs' => by
      have hv := mem_outs.mp (List.mem_filter.mp hs').1
      simp [e0, e5 hv]]
    have key := rchP_eq (ss := ss) (ev := ev) (ns := ns) (o := o) hs.1
    simp [h3]
    simp at key
    rw [key]
    cases rchP ss ev ns o <;> simp
end K11

/-! K11D -/
set_option Elab.async false
set_option linter.all false
set_option maxRecDepth 100000
set_option maxHeartbeats 400000
namespace K11
open PySem L2 PyProof.Rows IP Gm
/-- a box, from which N may be drawn -/
def BO (N : Nat) (x : MO) : Prop := ∃ a b c : Int, x = .lst [.int a, .int b, .int c] ∧ 0 ≤ a ∧ 0 ≤ b ∧ b + N ≤ 1000000000 ∧ 0 ≤ c ∧ c ≤ 1000000000
theorem BO.mono {N M : Nat} {x : MO} (h : BO N x) (hm : M ≤ N) : BO M x := by
  obtain ⟨a, b, c, h1, h2, h3, h4, h5⟩ := h
  exact ⟨a, b, c, h1, h2, h3, by omega, h5⟩
theorem get_lt {m : Mem} {r : Nat} {x : MO} (h : m[r]? = some x) : r < m.length := (List.getElem?_eq_some_iff.mp h).1
theorem L_cell {j : Nat} {m : Mem} {ns : List Int} {k : Nat} : callL tab (xnT tb) (j + 1) "" "_law_cell" [.scr (ns.map .int), .int (k : Int)] m = .ok (.int ((ns[k]?).getD 0)) m := by
  rw [u_law_cell rfl]
  unfold b_law_cell
  by_cases h : k < ns.length
  · have h' : (k : Int) < ns.length := by omega
    simp [e0, h', h, subP, k_atI_nat]
  · have h' : ¬ (k : Int) < ns.length := by omega
    simp [e0, h', h]
theorem L_box {j : Nat} {m : Mem} {ns : List Int} {k : Nat} (hk : k ≤ 1000) : ∃ x, BO 900000000 x ∧ callL tab (xnT tb) (j + 2) "" "_law_box" [.scr (ns.map .int), .int (k : Int)] m = .ok (.ref m.length) (m ++ [x]) := by
  rw [u_law_box rfl]
  unfold b_law_box
  have h1 : mulOk 40503 (k : Int) = true := mulOk_of (by decide) (Nat.lt_of_le_of_lt (m := 1000) (by omega) (by decide))
  have h2 : lenOk 3 = true := by decide
  refine ⟨.lst [.int (if (ns[k]?).getD 0 < 0 then -(ns[k]?).getD 0 else (ns[k]?).getD 0), .int 0, .int (40503 * k + 911)], ⟨_, _, _, rfl, ?_, by omega, by omega, by omega, by omega⟩, ?_⟩
  · split <;> omega
  · simp [e0, L_cell, h1, h2, fin_new]
theorem pow3 {z : Int} (h1 : 0 ≤ z) (h2 : z < 1000000000000000000000000000000000000000000) : powOk z 3 = true := powOk_of (Nat.lt_of_lt_of_le (m := 1000000000000000000000000000000000000000000) (by omega) (by decide +kernel)) (by decide) (by decide)
theorem mul2 {z k : Int} (h1 : 0 ≤ z) (h2 : z < 1000000000000000000000000000000000000000000) (h3 : 0 ≤ k) (h4 : k < 1000000000000000000000000000000000000000000) : mulOk z k = true := mulOk_of (Nat.lt_of_lt_of_le (m := 1000000000000000000000000000000000000000000) (by omega) (by decide +kernel)) (Nat.lt_of_lt_of_le (m := 1000000000000000000000000000000000000000000) (by omega) (by decide +kernel))
/-- 10 ** 18 -/
theorem pow18 : powOk 10 18 = true := by decide +kernel
theorem div64 : divOk 64 = true := by decide +kernel
theorem L_take {j : Nat} {m : Mem} {r : Nat} {n : Int} {N : Nat} {x : MO} (hx : m[r]? = some x) (hb : BO (N + 1) x) (hn : 0 < n) (hn2 : n ≤ 1000) : ∃ (d : Int) (y : MO), 0 ≤ d ∧ d < n ∧ BO N y ∧ callL tab (xnT tb) (j + 1) "" "_law_take" [.ref r, .int n] m = .ok (.int d) (m.set r y) := by
  obtain ⟨a, b, c, rfl, ha, hb0, hb1, hc0, hc1⟩ := hb
  rw [u_law_take rfl]
  unfold b_law_take
  have hr := get_lt hx
  have hP := pow18
  have hnz : n ≠ 0 := by omega
  have hD : divOk n = true := divOk_of hn (by omega)
  have hm : ∀ z : Int, z.fmod n = z % n := fun z => k_fmod_pos (by omega)
  have hd : ∀ z : Int, z.fdiv n = z / n := fun z => k_fdiv_pos (by omega)
  by_cases h : 1000000000000000000 ≤ a
  · refine ⟨a % n, .lst [.int (a / n), .int b, .int c], Int.emod_nonneg _ (by omega), Int.emod_lt_of_pos _ hn, ⟨_, _, _, rfl, Int.ediv_nonneg ha (by omega), hb0, by omega, hc0, hc1⟩, ?_⟩
    simp [e0, hx, hP, h, hnz, hD, hm, hd, isL]
  · skip
    have q1 := pow3 (z := (a + 7) * 69069 + (b + 1) * 40692 + c) (by omega) (by omega)
    have q2 := mul2 (z := a + 7) (k := 69069) (by omega) (by omega) (by decide) (by decide)
    have q3 := mul2 (z := b + 1) (k := 40692) (by omega) (by omega) (by decide) (by decide)
    have q4 := mul2 (z := b + 1) (k := 17389) (by omega) (by omega) (by decide) (by decide)
    have q5 := div64
    have f1 : ∀ z : Int, z.fmod 2147483647 = z % 2147483647 := fun z => k_fmod_pos (by decide)
    have f2 : ∀ z : Int, z.fmod 2147483399 = z % 2147483399 := fun z => k_fmod_pos (by decide)
    have f3 : ∀ z : Int, z.fdiv 64 = z / 64 := fun z => k_fdiv_pos (by decide)
    have q6 : ∀ z : Int, powOk (z % 2147483647 + (b + 1) * 17389) 3 = true := fun z => pow3 (by omega) (by omega)
    have k1 : (m.set r (.lst [.int a, .int (b + 1), .int c]))[r]? = some (.lst [.int a, .int (b + 1), .int c]) := set_get hx
    refine ⟨(((((a + 7) * 69069 + (b + 1) * 40692 + c) ^ 3 % 2147483647 + (b + 1) * 17389) ^ 3 % 2147483399) / 64) % n, .lst [.int a, .int (b + 1), .int c], Int.emod_nonneg _ (by omega), Int.emod_lt_of_pos _ hn, ⟨_, _, _, rfl, ha, by omega, by omega, hc0, hc1⟩, ?_⟩
    simp [e0, hx, hP, h, hnz, hm, isL, k1, q1, q2, q3, q4, q5, q6, f1, f2, f3]
/-! ### lists of draws -/
theorem comp_draw {a : Type} {g : a → D} {f : D → Mem → Res (List D)} {r c : Nat} (P : a → List D → Prop) : ∀ (xs : List a), (∀ x ∈ xs, ∀ m N b, m[r]? = some b → BO (N + c) b → ∃ ys b', P x ys ∧ BO N b' ∧ f (g x) m = .ok ys (m.set r b')) →
    ∀ m N b, m[r]? = some b → BO (N + c * xs.length) b → ∃ (yss : List (List D)) (b' : MO), Al P xs yss ∧ BO N b' ∧ compL f (xs.map g) m = .ok yss.flatten (m.set r b')
  | [], _, m, N, b, hb, ho => ⟨[], b, .nil, ho.mono (by omega), by rw [set_id hb]; rfl⟩
  | x :: xs, h, m, N, b, hb, ho => by
    obtain ⟨ys, b1, p1, o1, e1⟩ := h x List.mem_cons_self m (N + c * xs.length) b hb (by
      have : N + c * (x :: xs).length = N + c * xs.length + c := by rw [List.length_cons, Nat.mul_add]; omega
      rw [← this]
      exact ho)
    obtain ⟨yss, b2, p2, o2, e2⟩ := comp_draw P xs (fun y hy => h y (List.mem_cons_of_mem _ hy)) (m.set r b1) N b1 (set_get hb) o1
    refine ⟨ys :: yss, b2, .cons p1 p2, o2, ?_⟩
    rw [List.map_cons, compL_ok e1 e2, set_same]
    rfl
theorem L_pick {j : Nat} {m : Mem} {r N : Nat} {x : MO} {ss : List Int} (hx : m[r]? = some x) (hs : VS ss) (hb : BO (N + 1 * ss.length) x) : ∃ (o : O) (y : MO), VO ss o ∧ BO N y ∧ callL tab (xnT tb) (j + 2) "" "_law_pick" [.ref r, .lst (ss.map .int)] m = .ok (oD o) (m.set r y) := by
  obtain ⟨yss, b', p, o1, e⟩ := comp_draw (g := D.int) (f := cmpB (glL tab (xnT tb) (j + 1)) (.call "" "_law_take" (.one (.loc 0) (.one (.loc 2) .nil)) [] []) (.one 2) .non [2] [some (.ref r), some (.lst (ss.map .int)), none]) (r := r) (c := 1) (fun s ys => ∃ x : Int, ys = [.int x] ∧ 0 ≤ x ∧ x < s) ss (fun s h m N b hb ho => by
    have := hs.2.2 s h
    obtain ⟨d, y, h1, h2, h3, h4⟩ := L_take (j := j) (n := s) hb ho (by omega) (by omega)
    exact ⟨[.int d], y, ⟨d, rfl, h1, h2⟩, h3, by simp [h4]⟩) m N x hx hb
  have q : ∃ o : O, VO ss o ∧ yss.flatten = o.map .int := by
    clear e hs hb
    induction p with
    | nil => exact ⟨[], trivial, rfl⟩
    | cons p1 p2 ih =>
      obtain ⟨x, rfl, h1, h2⟩ := p1
      obtain ⟨o, h3, h4⟩ := ih
      exact ⟨x :: o, ⟨h1, h2, h3⟩, by simp [h4]⟩
  obtain ⟨o, h1, h2⟩ := q
  refine ⟨o, b', h1, o1, ?_⟩
  rw [u_law_pick rfl]
  unfold b_law_pick
  rw [h2] at e
  have h3 : lenOk o.length = true := k_lenOk_of (by have := h1.len; have := hs.2.1; omega)
  simp [e0, e, h3]
theorem L_law_all {j : Nat} {m : Mem} {ss : List Int} (hs : VN ss) : callL tab (xnT tb) (j + 1) "" "_law_all" [.lst (ss.map .int)] m = .ok (.lst ((outs ss).map oD)) m := by
  rw [u_law_all rfl]
  unfold b_law_all
  have inner : ∀ (s : Int) (sz : D), 0 ≤ s → s ≤ 1000 → ∀ (fd more fd0 : List O) (y : Option D), (∀ o ∈ fd, o.length ≤ 1000) → more.length + fd.length * s.toNat ≤ 1000 → ∃ z,
      forL (forB (glL tab (xnT tb) j) (xnT tb) (.one 4) (.cons (.set 3 (.bin .Add (.loc 3) (.comp false (.bin .Add (.loc 4) (.tup (.one (.loc 5) .nil))) (.one 5) (.rng1 (.loc 2)) .non [5]))) .nil)) (fd.map oD) [some sz, some (.lst (fd0.map oD)), some (.int s), some (.lst (more.map oD)), y, none] m = .nx [some sz, some (.lst (fd0.map oD)), some (.int s), some (.lst ((more ++ fd.flatMap fun o => (List.range s.toNat).map fun (r : Nat) => o ++ [(r : Int)]).map oD)), z, none] m := by
    intro s sz h0 h1 fd
    induction fd with
    | nil => intro more fd0 y _ _; exact ⟨y, by simp⟩
    | cons o fd ih =>
      intro more fd0 y hl hm
      have hl0 := hl o List.mem_cons_self
      have hq : more.length + s.toNat + fd.length * s.toNat ≤ 1000 := by
        rw [List.length_cons, Nat.add_mul] at hm
        omega
      obtain ⟨z, e⟩ := ih (more ++ (List.range s.toNat).map fun (r : Nat) => o ++ [(r : Int)]) fd0 (some (oD o)) (fun x hx => hl x (List.mem_cons_of_mem _ hx)) (by simpa using hq)
      refine ⟨z, ?_⟩
      rw [List.map_cons, forL_nx (e1 := [some sz, some (.lst (fd0.map oD)), some (.int s), some (.lst ((more ++ (List.range s.toNat).map fun (r : Nat) => o ++ [(r : Int)]).map oD)), some (oD o), none]) (m1 := m)]
      · rw [e]
        simp
      · have h2 : rngOk s = true := rngOk_of h0 (by omega)
        have h3 : lenOk (o.length + 1) = true := k_lenOk_of (by omega)
        have h4 : lenOk s.toNat = true := k_lenOk_of (by omega)
        have h5 : lenOk (more.length + s.toNat) = true := k_lenOk_of (by omega)
        have h6 : lenOk 1 = true := by decide
        simp [h2, rng_map]
        rw [compK_each (g := fun (k : Nat) => D.int (k : Int)) (fun (k : Nat) => oD (o ++ [(k : Int)])) fun k hk => by simp [h3, h6]]
        simp [h4, h5]
  have outer : ∀ (ss : List Int) (sz : D) (fd : List O) (a b c : Option D) (L : Nat), (∀ s ∈ ss, 2 ≤ s ∧ s ≤ 1000) → (∀ o ∈ fd, o.length ≤ L) → L + ss.length ≤ 1000 → fd.length * prodN ss ≤ 1000 → ∃ x y z,
      forL (forB (glL tab (xnT tb) j) (xnT tb) (.one 2) (.cons (.set 3 (.lst false .nil))
    (.cons (.for_ (.one 4) (.seq (.loc 1)) (.cons (.set 3 (.bin .Add (.loc 3) (.comp false (.bin .Add (.loc 4) (.tup (.one (.loc 5) .nil))) (.one 5) (.rng1 (.loc 2)) .non [5])))
    .nil))
    (.cons (.set 1 (.loc 3))
    .nil)))) (ss.map .int) [some sz, some (.lst (fd.map oD)), a, b, c, none] m = .nx [some sz, some (.lst ((outsF fd ss).map oD)), x, y, z, none] m := by
    intro ss sz
    induction ss with
    | nil => intro fd a b c L _ _ _ _; exact ⟨a, b, c, rfl⟩
    | cons s ss ih =>
      intro fd a b c L hs hl hL hp
      have h1 := hs s List.mem_cons_self
      have hpp : 0 < prodN ss := prodN_pos fun x hx => by have := hs x (List.mem_cons_of_mem _ hx); omega
      have hp2 : fd.length * s.toNat * prodN ss ≤ 1000 := by rw [Nat.mul_assoc]; exact hp
      have hp3 : fd.length * s.toNat ≤ 1000 := Nat.le_trans (Nat.le_mul_of_pos_right _ hpp) hp2
      obtain ⟨z, e1⟩ := inner s sz (by omega) (by omega) fd [] fd c (fun o h => by have := hl o h; omega) (by simpa using hp3)
      obtain ⟨x', y', z', e2⟩ := ih (fd.flatMap fun o => (List.range s.toNat).map fun (r : Nat) => o ++ [(r : Int)]) (some (.int s)) (some (.lst ((fd.flatMap fun o => (List.range s.toNat).map fun (r : Nat) => o ++ [(r : Int)]).map oD))) z (L + 1) (fun x hx => hs x (List.mem_cons_of_mem _ hx)) (fun o h => by
        obtain ⟨p, h1, h2⟩ := List.mem_flatMap.mp h
        obtain ⟨r, _, rfl⟩ := List.mem_map.mp h2
        have := hl p h1
        simp
        omega) (by rw [List.length_cons] at hL; omega) (by rw [flat_len]; exact hp2)
      refine ⟨x', y', z', ?_⟩
      rw [List.map_cons, forL_nx (e1 := [some sz, some (.lst ((fd.flatMap fun o => (List.range s.toNat).map fun (r : Nat) => o ++ [(r : Int)]).map oD)), some (.int s), some (.lst ((fd.flatMap fun o => (List.range s.toNat).map fun (r : Nat) => o ++ [(r : Int)]).map oD)), z, none]) (m1 := m)]
      · exact e2
      · have h6 : lenOk 0 = true := by decide
        simp at e1
        simp [h6, e1]
  obtain ⟨x, y, z, e⟩ := outer ss (.lst (ss.map .int)) [[]] none none none 0 hs.1.2.2 (by simp) (by have := hs.1.2.1; omega) (by have := hs.2; rw [outs_len] at this; simpa using this)
  have h6 : lenOk 0 = true := by decide
  have h7 : lenOk 1 = true := by decide
  have eo : oD [] = .tup [] := rfl
  simp [eo] at e
  simp [e0, h6, h7, e, outs]
theorem L_law_add {j : Nat} {m : Mem} {ss : List Int} {a b : O} {t : Int} (hs : VS ss) (ha : VO ss a) (hb : VO ss b) (ht : t.natAbs ≤ 1) : callL tab (xnT tb) (j + 1) "" "_law_add" [.lst (ss.map .int), oD a, oD b, .int t] m = .ok (oD (addT t ss a b)) m := by
  rw [u_law_add rfl]
  unfold b_law_add
  have h2 : rngOk (ss.length : Int) = true := rngOk_of (by omega) (by have := hs.2.1; omega)
  have h3 : lenOk ss.length = true := k_lenOk_of (by have := hs.2.1; omega)
  simp [e0, h2, rng_map]
  rw [compK_each (g := fun (k : Nat) => D.int (k : Int)) (fun (k : Nat) => D.int (((a[k]?).getD 0 + t * (b[k]?).getD 0) % (ss[k]?).getD 0)) fun k hk => by
    have hk := List.mem_range.mp hk
    have hk' : ss[k]? = some ss[k] := List.getElem?_eq_getElem hk
    obtain ⟨x, hx, x0, x1⟩ := ha.at hk'
    obtain ⟨y, hy, y0, y1⟩ := hb.at hk'
    have hS := hs.at hk'
    have hM : mulOk t y = true := mulOk_of (Nat.lt_of_le_of_lt (m := 1) (by omega) (by decide)) (Nat.lt_of_le_of_lt (m := 1000) (by omega) (by decide))
    generalize ss[k] = s at hk' hS x1 y1
    have h0 : s ≠ 0 := by omega
    have h2 : ∀ z : Int, z.fmod s = z % s := fun z => k_fmod_pos (by omega)
    simp [k_atI_nat, hk', hx, hy, hM, h0, h2]]
  simp [h3, addT_range]
theorem L_law_sum {j : Nat} {m : Mem} {ss : List Int} {os : List O} (hs : VS ss) (ho : ∀ o ∈ os, VO ss o) : callL tab (xnT tb) (j + 2) "" "_law_sum" [.lst (ss.map .int), .lst (os.map oD)] m = .ok (oD (sum ss os)) m := by
  rw [u_law_sum rfl]
  unfold b_law_sum
  have lp : ∀ (os : List O) (x : D) (a : O) (y : Option D), (∀ o ∈ os, VO ss o) → VO ss a → ∃ z, forL (forB (glL tab (xnT tb) (j + 1)) (xnT tb) (.one 4) (.cons (.set 2 (.call "" "_law_add" (.one (.loc 0) (.one (.loc 2) (.one (.loc 4) (.one (.con (.int 1)) .nil)))) [] [])) .nil)) (os.map oD) [some (.lst (ss.map .int)), some x, some (oD a), none, y] m = .nx [some (.lst (ss.map .int)), some x, some (oD (os.foldl (add ss) a)), none, z] m := by
    intro os x
    induction os with
    | nil => intro a y _ _; exact ⟨y, rfl⟩
    | cons o os ih =>
      intro a y h ha
      obtain ⟨z, e⟩ := ih (add ss a o) (some (oD o)) (fun x hx => h x (List.mem_cons_of_mem _ hx)) (addT_vo hs)
      refine ⟨z, ?_⟩
      rw [List.map_cons, forL_nx (e1 := [some (.lst (ss.map .int)), some x, some (oD (add ss a o)), none, some (oD o)]) (m1 := m)]
      · exact e
      · simp [L_law_add hs ha (h o List.mem_cons_self)]
  obtain ⟨z, e⟩ := lp os (.lst (os.map oD)) (zero ss) none ho (zero_vo hs.pos)
  have h3 : lenOk ss.length = true := k_lenOk_of (by have := hs.2.1; omega)
  have h4 : oD (zero ss) = D.tup (ss.map fun _ => .int 0) := by simp [zero]
  simp [e0]
  rw [compK_each (g := D.int) (fun _ => D.int 0) fun s hs => by simp]
  rw [h4] at e
  simp [e0, h3, e, Gm.sum]
theorem al_sub {os : List O} {yss : List (List D)} (p : Al (fun o ys => ys = [] ∨ ys = [oD o]) os yss) : ∃ ev : List O, (∀ o ∈ ev, o ∈ os) ∧ ev.length ≤ os.length ∧ yss.flatten = ev.map oD := by
  induction p with
  | nil => exact ⟨[], by simp, by simp, rfl⟩
  | @cons x y xs ys p1 p2 ih =>
    obtain ⟨o, h3, h5, h4⟩ := ih
    rcases p1 with rfl | rfl
    · exact ⟨o, fun z hz => List.mem_cons_of_mem _ (h3 z hz), by simp; omega, by simp [h4]⟩
    · refine ⟨x :: o, fun z hz => ?_, by simpa using h5, by simp [h4]⟩
      rcases List.mem_cons.mp hz with rfl | hz
      · exact List.mem_cons_self
      · exact List.mem_cons_of_mem _ (h3 z hz)
theorem L_law_event {j : Nat} {m : Mem} {r N : Nat} {x : MO} {ss : List Int} (hx : m[r]? = some x) (hs : VN ss) (hb : BO (N + 1001) x) : ∃ (ev : List O) (y : MO), (∀ o ∈ ev, VO ss o) ∧ ev.length ≤ 1000 ∧ BO N y ∧ callL tab (xnT tb) (j + 2) "" "_law_event" [.ref r, .lst (ss.map .int)] m = .ok (.lst (ev.map oD)) (m.set r y) := by
  obtain ⟨d, y0, h1, h2, h3, h4⟩ := L_take (j := j) (n := 4) hx hb (by decide) (by decide)
  have hl := hs.2
  obtain ⟨yss, b', p, o1, e⟩ := comp_draw (g := oD) (f := cmpB (glL tab (xnT tb) (j + 1)) (.loc 3) (.one 3) (.som (.cmp .Lt (.call "" "_law_take" (.one (.loc 0) (.one (.con (.int 5)) .nil)) [] []) (.loc 2))) [3] [some (.ref r), some (.lst (ss.map .int)), some (.int (1 + d)), none]) (r := r) (c := 1) (fun o ys => ys = [] ∨ ys = [oD o]) (outs ss) (fun o h m N b hb ho => by
    obtain ⟨d2, y, h1, h2, h3, h4⟩ := L_take (j := j) (n := 5) hb ho (by omega) (by omega)
    by_cases q : d2 < 1 + d
    · exact ⟨[oD o], y, .inr rfl, h3, by simp [h4, q]⟩
    · exact ⟨[], y, .inl rfl, h3, by simp [h4, q]⟩) (m.set r y0) N y0 (set_get hx) (h3.mono (by omega))
  have q := al_sub p
  obtain ⟨ev, q1, q2, q3⟩ := q
  refine ⟨ev, b', fun o h => mem_outs.mp (q1 o h), by omega, o1, ?_⟩
  rw [u_law_event rfl]
  unfold b_law_event
  rw [q3] at e
  have h5 : lenOk ev.length = true := k_lenOk_of (by omega)
  have ea : ∀ m, callL tab (xnT tb) (j + 1) "" "_law_all" [.lst (ss.map .int)] m = .ok (.lst ((outs ss).map oD)) m := fun m => L_law_all hs
  simp [e0, h4, ea, e, h5, set_same]
theorem choices_len : ∀ {n : Nat}, (choicesF n).length = 2 ^ n
  | 0 => rfl
  | n + 1 => by
    rw [choices_succ, List.length_append, List.length_map, choices_len, Nat.pow_succ]
    omega
theorem choices_rl : ∀ {n : Nat} {r : List Nat}, r ∈ choicesF n → r.length ≤ n
  | 0, r, h => by
    simp [choicesF] at h
    simp [h]
  | n + 1, r, h => by
    rw [choices_succ] at h
    rcases List.mem_append.mp h with h | h
    · have := choices_rl h
      omega
    · obtain ⟨r0, h0, rfl⟩ := List.mem_map.mp h
      have := choices_rl h0
      simp
      omega
abbrev nD (r : List Nat) : D := .lst (r.map fun (k : Nat) => D.int (k : Int))
theorem L_choices {j : Nat} {m : Mem} {xs : List D} (hl : xs.length ≤ 8) : callL tab (xnT tb) (j + 1) "" "_law_choices" [.lst xs] m = .ok (.lst ((choicesF xs.length).map nD)) m := by
  rw [u_law_choices rfl]
  unfold b_law_choices
  have lp : ∀ n k z, k + n ≤ 8 → ∃ z', forL (forB (glL tab (xnT tb) j) (xnT tb) (.one 2) (.cons (.set 1 (.bin .Add (.loc 1) (.comp false (.bin .Add (.loc 3) (.lst false (.one (.loc 2) .nil))) (.one 3) (.seq (.loc 1)) .non [3]))) .nil)) ((List.range' k n).map fun (k : Nat) => D.int (k : Int)) [some (.lst xs), some (.lst ((choicesF k).map nD)), z, none] m = .nx [some (.lst xs), some (.lst ((choicesF (k + n)).map nD)), z', none] m := by
    intro n
    induction n with
    | zero => intro k z _; exact ⟨z, rfl⟩
    | succ n ih =>
      intro k z hn
      obtain ⟨z', e⟩ := ih (k + 1) (some (.int k)) (by omega)
      refine ⟨z', ?_⟩
      rw [List.range'_succ, List.map_cons, forL_nx (e1 := [some (.lst xs), some (.lst ((choicesF (k + 1)).map nD)), some (.int k), none]) (m1 := m)]
      · have : k + (n + 1) = k + 1 + n := by omega
        rw [this]
        exact e
      · have hp : 2 ^ k ≤ 256 := Nat.pow_le_pow_right (n := 2) (i := k) (j := 8) (by decide) (by omega)
        have h1 : lenOk (choicesF k).length = true := k_lenOk_of (by rw [choices_len]; omega)
        have h2 : lenOk ((choicesF k).length + (choicesF k).length) = true := k_lenOk_of (by rw [choices_len]; omega)
        have h3 : lenOk 1 = true := by decide
        simp
        rw [compK_each (g := nD) (fun r => nD (r ++ [k])) fun r hr => by
          have h4 : lenOk (r.length + 1) = true := k_lenOk_of (by have := choices_rl hr; omega)
          simp [h3, h4]]
        simp [h1, h2, choices_succ]
  obtain ⟨z, e⟩ := lp xs.length 0 none (by omega)
  have h2 : rngOk (xs.length : Int) = true := rngOk_of (by omega) (by omega)
  have h3 : lenOk 1 = true := by decide
  have h4 : lenOk 0 = true := by decide
  have h5 : (choicesF 0).map nD = [.lst []] := rfl
  rw [h5, ← List.range_eq_range'] at e
  simp at e
  simp [e0, h2, h3, h4, rng_map, e]
def rowS (ss : List Int) (ns : List O) (o : O) (r : List Nat) : O := sum ss (o :: r.map fun k => (ns[k]?).getD [])
theorem rowS_reach {ss : List Int} {ev ns : List O} {o : O} (hs : VS ss) (ho : VO ss o) (hn : ∀ x ∈ ns, VO ss x) : decide (((choicesF ns.length).filter fun r => decide (rowS ss ns o r ∈ ev)).map (rowS ss ns o) = []) = !rchP ss ev ns o := by
  have h1 : ∀ r ∈ choicesF ns.length, rowS ss ns o r = add ss o (sum ss (r.map fun k => ns.getD k [])) := fun r hr => by
    unfold rowS
    have e : (r.map fun k => (ns[k]?).getD []) = r.map fun k => ns.getD k [] := by simp
    rw [e]
    refine sum_cons hs fun x hx => ?_
    rcases List.mem_cons.mp hx with rfl | hx
    · exact ho
    · obtain ⟨k, hk, rfl⟩ := List.mem_map.mp hx
      have := choices_lt hr k hk
      rw [List.getD_eq_getElem?_getD, List.getElem?_eq_getElem this]
      exact hn _ (List.getElem_mem this)
  have h2 := sums_choices (ss := ss) ns ns.length (Nat.le_refl _)
  rw [List.take_length] at h2
  unfold rchP
  rw [h2, Bool.eq_iff_iff]
  simp only [List.map_eq_nil_iff, List.filter_eq_nil_iff, decide_eq_true_eq, Bool.not_eq_true', List.any_map, List.any_eq_false, Function.comp]
  constructor
  · intro h r hr q
    exact h r hr (by rw [h1 r hr]; exact q)
  · intro h r hr q
    exact h r hr (by rw [← h1 r hr]; exact q)
theorem L_law_reach {j : Nat} {m : Mem} {ss : List Int} {ev ns : List O} (hs : VN ss) (hn : ∀ o ∈ ns, VO ss o) (hl : ns.length ≤ 8) : callL tab (xnT tb) (j + 3) "" "_law_reach" [.lst (ss.map .int), .lst (ev.map oD), .lst (ns.map oD)] m = .ok (.ref m.length) (m ++ [.lst ((reachL ss ev ns).map oD)]) := by
  rw [u_law_reach rfl]
  unfold b_law_reach
  have ea : ∀ m, callL tab (xnT tb) (j + 2) "" "_law_all" [.lst (ss.map .int)] m = .ok (.lst ((outs ss).map oD)) m := fun m => L_law_all (j := j + 1) hs
  have ec : ∀ m, callL tab (xnT tb) (j + 2) "" "_law_choices" [.lst (ns.map oD)] m = .ok (.lst ((choicesF ns.length).map nD)) m := fun m => by
    have := L_choices (j := j + 1) (m := m) (xs := ns.map oD) (by simpa using hl)
    simpa using this
  have lp : ∀ (os acc : List O) (a b : Option D), (∀ o ∈ os, VO ss o) → acc.length + os.length ≤ 1000 → ∃ a' b', forL (forB (glL tab (xnT tb) (j + 2)) (xnT tb) (.one 4) (.cons (.set 5 (.comp false (.call "" "_law_sum" (.one (.loc 0) (.one (.bin .Add (.lst false (.one (.loc 4) .nil)) (.comp false (.sub (.loc 2) (.loc 6)) (.one 6) (.seq (.loc 7)) .non [6])) .nil)) [] []) (.one 7) (.seq (.call "" "_law_choices" (.one (.loc 2) .nil) [] [])) .non [7]))
    (.cons (.ifs (.cmp .NotEq (.comp false (.loc 8) (.one 8) (.seq (.loc 5)) (.som (.cmp .In (.loc 8) (.loc 1))) [8]) (.lst false .nil)) (.cons (.app (.loc 3) (.loc 4))
    .nil) .nil)
    .nil))) (os.map oD) [some (.lst (ss.map .int)), some (.lst (ev.map oD)), some (.lst (ns.map oD)), some (.ref m.length), a, b, none, none, none] (m ++ [.lst (acc.map oD)]) = .nx [some (.lst (ss.map .int)), some (.lst (ev.map oD)), some (.lst (ns.map oD)), some (.ref m.length), a', b', none, none, none] (m ++ [.lst ((acc ++ os.filter (rchP ss ev ns)).map oD)]) := by
    intro os
    induction os with
    | nil => intro acc a b _ _; exact ⟨a, b, by simp⟩
    | cons o os ih =>
      intro acc a b h hl2
      have ho := h o List.mem_cons_self
      have hp : 2 ^ ns.length ≤ 256 := Nat.pow_le_pow_right (n := 2) (i := ns.length) (j := 8) (by decide) hl
      obtain ⟨a', b', e⟩ := ih (acc ++ if rchP ss ev ns o then [o] else []) (some (oD o)) (some (.lst ((choicesF ns.length).map fun r => oD (rowS ss ns o r)))) (fun x hx => h x (List.mem_cons_of_mem _ hx)) (by
        rw [List.length_append, List.length_cons] at *
        split <;> simp <;> omega)
      refine ⟨a', b', ?_⟩
      rw [List.map_cons, forL_nx (e1 := [some (.lst (ss.map .int)), some (.lst (ev.map oD)), some (.lst (ns.map oD)), some (.ref m.length), some (oD o), some (.lst ((choicesF ns.length).map fun r => oD (rowS ss ns o r))), none, none, none]) (m1 := m ++ [.lst ((acc ++ if rchP ss ev ns o then [o] else []).map oD)])]
      · rw [e, List.filter_cons]
        split <;> simp [*]
      · have h3 : lenOk 1 = true := by decide
        have h4 : lenOk 0 = true := by decide
        have hlc : lenOk (choicesF ns.length).length = true := k_lenOk_of (by rw [choices_len]; omega)
        simp [ec]
        rw [compK_each (g := nD) (fun r => oD (rowS ss ns o r)) fun r hr => by
          have hr1 := choices_rl hr
          have hr2 := choices_lt hr
          have h5 : lenOk r.length = true := k_lenOk_of (by omega)
          have h6 : lenOk (r.length + 1) = true := k_lenOk_of (by omega)
          have es : callL tab (xnT tb) (j + 2) "" "_law_sum" [.lst (ss.map .int), .lst ((o :: r.map fun k => (ns[k]?).getD []).map oD)] (m ++ [.lst (acc.map oD)]) = .ok (oD (rowS ss ns o r)) (m ++ [.lst (acc.map oD)]) := L_law_sum (j := j) hs.1 fun x hx => by
            rcases List.mem_cons.mp hx with rfl | hx
            · exact ho
            · obtain ⟨k, hk, rfl⟩ := List.mem_map.mp hx
              have := hr2 k hk
              rw [List.getElem?_eq_getElem this]
              exact hn _ (List.getElem_mem this)
          simp
          rw [compK_each (g := fun (k : Nat) => D.int (k : Int)) (fun k => oD ((ns[k]?).getD [])) fun k hk => by
            have := hr2 k hk
            simp [k_atI_nat, this]]
          simp [Function.comp_def] at es
          simp [h3, h5, h6, Nat.add_comm 1, es]]
        simp [hlc]
        rw [compK_filter (g := fun r => oD (rowS ss ns o r)) (fun r => oD (rowS ss ns o r)) (fun r => decide (rowS ss ns o r ∈ ev)) fun r hr => by
          by_cases q : rowS ss ns o r ∈ ev <;> simp [q]]
        have key := rowS_reach (ss := ss) (ev := ev) (ns := ns) (o := o) hs.1 ho hn
        have h8 : lenOk ((choicesF ns.length).filter fun r => decide (rowS ss ns o r ∈ ev)).length = true := k_lenOk_of (Nat.le_trans (List.length_filter_le _ _) (by rw [choices_len]; omega))
        have h9 : acc.length < sizeLine := by
          have : (1000000 : Nat) ≤ sizeLine := by decide
          rw [List.length_cons] at hl2
          omega
        have h10 : eqB (.lst (((choicesF ns.length).filter fun r => decide (rowS ss ns o r ∈ ev)).map fun r => oD (rowS ss ns o r))) (.lst []) = some (!rchP ss ev ns o) := by
          have q := eqB_os_nil (((choicesF ns.length).filter fun r => decide (rowS ss ns o r ∈ ev)).map (rowS ss ns o))
          rw [List.map_map] at q
          rw [← key]
          exact q
        cases q : rchP ss ev ns o <;> simp [h8, h10, isL, h9, q]
  obtain ⟨a', b', e⟩ := lp (outs ss) [] none none (fun o h => mem_outs.mp h) (by have := hs.2; simpa using this)
  simp at e
  have e2 : (outs ss).filter (rchP ss ev ns) = reachL ss ev ns := rfl
  rw [e2] at e
  simp [e0, ea, e, fin_new]
end K11

/-! K11E -/
set_option Elab.async false
set_option linter.all false
set_option maxRecDepth 100000
set_option maxHeartbeats 400000
namespace K11
open PySem L2 PyProof.Rows IP Gm
/-! ### a group is made -/
theorem L_all_outcomes {j : Nat} {m : Mem} {ss : List Int} (hs : VN ss) : callL tab (xnT tb) (j + 1) "" "all_outcomes" [.lst (ss.map .int)] m = .ok (.lst ((outs ss).map oD)) m := by
  rw [u_all_outcomes rfl]
  unfold b_all_outcomes
  have lp : ∀ (ss : List Int) (sz : D) (fd : List O) (a : Option D) (L : Nat), (∀ s ∈ ss, 2 ≤ s ∧ s ≤ 1000) → (∀ o ∈ fd, o.length ≤ L) → L + ss.length ≤ 1000 → fd.length * prodN ss ≤ 1000 → ∃ x,
      forL (forB (glL tab (xnT tb) j) (xnT tb) (.one 2) (.cons (.set 1 (.comp2 false (.tup (.star (.loc 3) (.one (.loc 4) .nil))) (.one 3) (.seq (.loc 1)) (.one 4) (.rng1 (.loc 2)) .non [3, 4])) .nil)) (ss.map .int) [some sz, some (.lst (fd.map oD)), a, none, none] m = .nx [some sz, some (.lst ((outsF fd ss).map oD)), x, none, none] m := by
    intro ss sz
    induction ss with
    | nil => intro fd a L _ _ _ _; exact ⟨a, rfl⟩
    | cons s ss ih =>
      intro fd a L hs hl hL hp
      have h1 := hs s List.mem_cons_self
      have hpp : 0 < prodN ss := prodN_pos fun x hx => by have := hs x (List.mem_cons_of_mem _ hx); omega
      have hp2 : fd.length * s.toNat * prodN ss ≤ 1000 := by rw [Nat.mul_assoc]; exact hp
      have hp3 : fd.length * s.toNat ≤ 1000 := Nat.le_trans (Nat.le_mul_of_pos_right _ hpp) hp2
      obtain ⟨x', e2⟩ := ih (fd.flatMap fun o => (List.range s.toNat).map fun (r : Nat) => o ++ [(r : Int)]) (some (.int s)) (L + 1) (fun x hx => hs x (List.mem_cons_of_mem _ hx)) (fun o h => by
        obtain ⟨p, h1, h2⟩ := List.mem_flatMap.mp h
        obtain ⟨r, _, rfl⟩ := List.mem_map.mp h2
        have := hl p h1
        simp
        omega) (by rw [List.length_cons] at hL; omega) (by rw [flat_len]; exact hp2)
      refine ⟨x', ?_⟩
      rw [List.map_cons, forL_nx (e1 := [some sz, some (.lst ((fd.flatMap fun o => (List.range s.toNat).map fun (r : Nat) => o ++ [(r : Int)]).map oD)), some (.int s), none, none]) (m1 := m)]
      · exact e2
      · have h2 : rngOk s = true := rngOk_of (by omega) (by omega)
        have h7 : lenOk (fd.flatMap fun o => (List.range s.toNat).map fun (r : Nat) => o ++ [(r : Int)]).length = true := k_lenOk_of (by rw [flat_len]; omega)
        simp
        rw [compK_flat (g := oD) (fun o => (List.range s.toNat).map fun (r : Nat) => oD (o ++ [(r : Int)])) fun o ho => by
          have h3 : lenOk (o.length + 1) = true := k_lenOk_of (by have := hl o ho; rw [List.length_cons] at hL; omega)
          simp [h2, rng_map, tgL]
          rw [compK_each (g := fun (k : Nat) => D.int (k : Int)) (fun (k : Nat) => oD (o ++ [(k : Int)])) fun k hk => by simp [h3, tgL]]]
        have e5 : (fd.flatMap fun o => (List.range s.toNat).map fun (r : Nat) => oD (o ++ [(r : Int)])) = (fd.flatMap fun o => (List.range s.toNat).map fun (r : Nat) => o ++ [(r : Int)]).map oD := by
          rw [List.map_flatMap]
          congr 1
          funext o
          rw [List.map_map]
          rfl
        rw [e5]
        simp only [k_newL_false, List.length_map, h7, bindK_ok, goK_ok, if_true]
        simp
  obtain ⟨x, e⟩ := lp ss (.lst (ss.map .int)) [[]] none 0 hs.1.2.2 (by simp) (by have := hs.1.2.1; omega) (by have := hs.2; rw [outs_len] at this; simpa using this)
  have eo : oD [] = .tup [] := rfl
  simp [eo] at e
  simp [e0, e, outs]
theorem L_Group_init {j r : Nat} {m : Mem} {ss : List Int} (hs : VN ss) (hr : m[r]? = some (.ins "Group" [])) : callL tab (xnT tb) (j + 2) "Group" "__init__" [.ref r, .lst (ss.map .int)] m = .ok .non (m.set r (.ins "Group" [("kept_sizes", .lst (ss.map .int)), ("kept_outcomes", .lst ((outs ss).map oD))])) := by
  rw [u_Group_init rfl]
  unfold b_Group_init
  have hne : ss ≠ [] := hs.1.1
  have hl : lenOk ss.length = true := k_lenOk_of (by have := hs.1.2.1; omega)
  have h0 : ¬ ((ss.length : Int) = 0) := by
    have := List.length_pos_iff.mpr hne
    omega
  simp [e0, isAny, isTy, h0, hne]
  rw [compK_each (g := D.int) (fun _ => D.bl true) fun s h => by
    have := hs.1.2.2 s h
    have h1 : 1 < s := by omega
    simp [L_is_integer, h1]]
  have g1 : (m.set r (.ins "Group" [("kept_sizes", .lst (ss.map .int))]))[r]? = some (.ins "Group" [("kept_sizes", .lst (ss.map .int))]) := set_get hr
  have a1 : attG (.ref r) "kept_sizes" (m.set r (.ins "Group" [("kept_sizes", .lst (ss.map .int))])) = some (.lst (ss.map .int)) := by
    unfold attG
    rw [k_vw_refi g1]
    simp
  have eo : ∀ m, callL tab (xnT tb) (j + 1) "" "all_outcomes" [.lst (ss.map .int)] m = .ok (.lst ((outs ss).map oD)) m := fun m => L_all_outcomes (j := j) hs
  simp [hl, e0, hr, putD, g1, a1, eo, set_same]
theorem L_make {j : Nat} {m : Mem} {ss : List Int} (hs : VN ss) (hW : WM m) : makeG (glL tab (xnT tb) (j + 2)) false "Group" [.lst (ss.map .int)] m = .ok (gD ss) m := by
  unfold makeG
  have h1 : (m ++ [MO.ins "Group" []])[m.length]? = some (.ins "Group" []) := get_new
  have e := L_Group_init (j := j) hs h1
  rw [set_new] at e
  unfold WM at hW
  simp [e, hW]
/-! ### names, orders -/
def letters : List Nat := (Str.ofString "abcdefghijklmnopqrstuvwxyz").cps.toList
def isName (x : Str) : Bool := decide (1 ≤ x.length) && (decide (x.length ≤ 8) && x.cps.toList.all fun c => decide (c ∈ letters))
theorem L_is_name {j : Nat} {m : Mem} {x : Str} (hx : x.length ≤ 1000) : callL tab (xnT tb) (j + 1) "" "is_name" [.str x] m = .ok (.bl (isName x)) m := by
  rw [u_is_name rfl]
  unfold b_is_name
  have h1 : lenOk x.length = true := k_lenOk_of (by omega)
  have h2 : lenOk x.cps.size = true := h1
  have hl : (Str.ofString "abcdefghijklmnopqrstuvwxyz").cps.toList = letters := rfl
  by_cases q1 : 1 ≤ x.length
  · have q1' : (1 : Int) ≤ x.length := by omega
    by_cases q2 : x.length ≤ 8
    · have q2' : (x.length : Int) ≤ 8 := by omega
      simp [e0, isAny, isTy, biLen, h1, q1', q2', walkP]
      rw [compK_each (g := fun c : Nat => D.str ⟨#[c]⟩) (fun c => D.bl (decide (c ∈ letters))) fun c hc => by simp [hl]]
      simp [h2, isName, q1, q2]
    · have q2' : ¬ (x.length : Int) ≤ 8 := by omega
      simp [e0, isAny, isTy, biLen, h1, q1', q2', isName, q2]
  · have q1' : ¬ (1 : Int) ≤ x.length := by omega
    simp [e0, isAny, isTy, biLen, h1, q1', isName, q1]
theorem L_is_name_n {j : Nat} {m : Mem} {d : D} (h : nice d = true) (h2 : ∀ x, d ≠ .str x) : callL tab (xnT tb) (j + 1) "" "is_name" [d] m = .ok (.bl false) m := by
  rw [u_is_name rfl]
  unfold b_is_name
  cases d with
  | str x => exact absurd rfl (h2 x)
  | ref => simp at h
  | scr => simp at h
  | cls => simp at h
  | _ => simp [e0, isAny, isTy]
def nmB : D → Bool
  | .str x => isName x
  | _ => false
/-- items of an order: texts or others -/
def ordV (d : D) : Prop := (∃ x : Str, d = .str x ∧ x.length ≤ 1000) ∨ (nice d = true ∧ ∀ x, d ≠ .str x)
theorem L_is_name_v {j : Nat} {m : Mem} {d : D} (h : ordV d) : callL tab (xnT tb) (j + 1) "" "is_name" [d] m = .ok (.bl (nmB d)) m := by
  rcases h with ⟨x, rfl, h⟩ | ⟨h1, h2⟩
  · exact L_is_name h
  · rw [L_is_name_n h1 h2]
    cases d <;> first | rfl | exact absurd rfl (h2 _)
theorem order_bad {j : Nat} {m : Mem} {ds : List D} (h : ∀ d ∈ ds, ordV d) (hl : ds.length ≤ 1000) (hb : ds = [] ∨ ds.all nmB = false) : callL tab (xnT tb) (j + 2) "" "check_order" [.lst ds] m = .ex ⟨"BadOrder", [("given", .lst ds)]⟩ m := by
  rw [u_check_order rfl]
  unfold b_check_order
  by_cases h0 : ds = []
  · subst h0
    simp [e0, isAny, isTy]
  · have h1 : ¬ ((ds.length : Int) = 0) := by
      have := List.length_pos_iff.mpr h0
      omega
    have hb' : ds.all nmB = false := hb.resolve_left h0
    have h2 : lenOk ds.length = true := k_lenOk_of (by omega)
    have e := compK_each (g := fun d : D => d) (f := cmpB (glL tab (xnT tb) (j + 1)) (.call "" "is_name" (.one (.loc 1) .nil) [] []) (.one 1) .non [1] [some (.lst ds), none, none]) (m := m) (xs := ds) (fun d => .bl (nmB d)) fun d hd => by simp [L_is_name_v (h d hd)]
    simp at e
    simp [e0, isAny, isTy, h0, e, h2, hb']
theorem nodup_take {xs : List Str} (h : xs.Nodup) {k : Nat} {x : Str} (hk : xs[k]? = some x) : x ∉ xs.take k := by
  intro hx
  obtain ⟨i, hi, e⟩ := List.getElem_of_mem hx
  have hi' : i < k := by simp at hi; omega
  obtain ⟨hk1, hk2⟩ := List.getElem?_eq_some_iff.mp hk
  have : xs[i] = xs[k] := by rw [hk2, ← e]; simp
  exact (List.pairwise_iff_getElem.mp h) i k _ _ hi' this
/-- an order of a law -/
structure OK_ (ns : List Str) : Prop where
  ne : ns ≠ []
  len : ns.length ≤ 1000
  nm : ∀ x ∈ ns, isName x = true ∧ x.length ≤ 1000 ∧ PyData.strOk x = true
  nd : ns.Nodup
theorem order_ok {j : Nat} {m : Mem} {ns : List Str} (h : OK_ ns) : callL tab (xnT tb) (j + 2) "" "check_order" [.lst (ns.map .str)] m = .ok .non m := by
  rw [u_check_order rfl]
  unfold b_check_order
  have h0 := h.ne
  have h1 : ¬ ((ns.length : Int) = 0) := by
    have := List.length_pos_iff.mpr h0
    omega
  have h2 : lenOk ns.length = true := k_lenOk_of (by have := h.len; omega)
  simp [e0, isAny, isTy, h0]
  rw [compK_each (g := D.str) (fun _ => D.bl true) fun x hx => by simp [L_is_name (h.nm x hx).2.1, (h.nm x hx).1]]
  simp [h2, e0]
  rw [enum_map, compK_each (g := fun p : Str × Nat => D.tup [.int (p.2 : Int), .str p.1]) (fun _ => D.bl true) fun p hp => by
    obtain ⟨x, k⟩ := p
    have hk : ns[k]? = some x := by simpa using List.mem_zipIdx_iff_getElem?.mp hp
    have hx := nodup_take h.nd hk
    have hm := List.mem_of_getElem? hk
    have e1 : cut (ns.map D.str) none (some (k : Int)) = (ns.map D.str).take k := k_cut_to
    have e2 : inB (.str x) ((ns.map D.str).take k) = some (decide (x ∈ ns.take k)) := by
      rw [← List.map_take]
      exact inB_s x (ns.take k) (h.nm x hm).2.2 fun y hy => (h.nm y (List.mem_of_mem_take hy)).2.2
    simp [e1, e2, hx]]
  simp [h2]
/-- a league: a list or a tuple -/
def lgD (b : Bool) (lg : List Str) : D := if b then .tup (lg.map .str) else .lst (lg.map .str)
structure LG (ns lg : List Str) : Prop where
  len : lg.length ≤ 1000
  sub : ∀ x ∈ lg, x ∈ ns
  nd : lg.Nodup
theorem league_ok {j : Nat} {m : Mem} {ns lg : List Str} {b : Bool} (h : OK_ ns) (hg : LG ns lg) : callL tab (xnT tb) (j + 1) "" "check_league" [.lst (ns.map .str), lgD b lg] m = .ok .non m := by
  rw [u_check_league rfl]
  unfold b_check_league
  have h2 : lenOk lg.length = true := k_lenOk_of (by have := hg.len; omega)
  have hin : ∀ x ∈ lg, inB (.str x) (ns.map .str) = some true := fun x hx => by
    rw [inB_s x ns (h.nm x (hg.sub x hx)).2.2 fun y hy => (h.nm y hy).2.2]
    simp [hg.sub x hx]
  cases b
  · simp only [lgD, Bool.false_eq_true, if_false]
    simp [e0, isAny, isTy]
    rw [compK_each (g := D.str) (fun _ => D.bl true) fun x hx => by simp [isAny, isTy, hin x hx]]
    simp [h2, e0]
    rw [enum_map, compK_each (g := fun p : Str × Nat => D.tup [.int (p.2 : Int), .str p.1]) (fun _ => D.bl true) fun p hp => by
      obtain ⟨x, k⟩ := p
      have hk : lg[k]? = some x := by simpa using List.mem_zipIdx_iff_getElem?.mp hp
      have hx := nodup_take hg.nd hk
      have hm := List.mem_of_getElem? hk
      have e1 : cut (lg.map D.str) none (some (k : Int)) = (lg.map D.str).take k := k_cut_to
      have e2 : inB (.str x) ((lg.map D.str).take k) = some (decide (x ∈ lg.take k)) := by
        rw [← List.map_take]
        exact inB_s x (lg.take k) (h.nm x (hg.sub x hm)).2.2 fun y hy => (h.nm y (hg.sub y (List.mem_of_mem_take hy))).2.2
      simp [e1, e2, hx]]
    simp [h2]
  · simp only [lgD, if_true]
    simp [e0, isAny, isTy]
    rw [compK_each (g := D.str) (fun _ => D.bl true) fun x hx => by simp [isAny, isTy, hin x hx]]
    simp [h2, e0]
    rw [enum_map, compK_each (g := fun p : Str × Nat => D.tup [.int (p.2 : Int), .str p.1]) (fun _ => D.bl true) fun p hp => by
      obtain ⟨x, k⟩ := p
      have hk : lg[k]? = some x := by simpa using List.mem_zipIdx_iff_getElem?.mp hp
      have hx := nodup_take hg.nd hk
      have e1 : cut (lg.map D.str) none (some (k : Int)) = (lg.map D.str).take k := k_cut_to
      have e2 : inT (.str x) ((lg.map D.str).take k) = some (decide (x ∈ lg.take k)) := by
        rw [← List.map_take]
        exact inT_s x (lg.take k)
      simp [e1, e2, hx]]
    simp [h2]
theorem in_league {ns lg : List Str} {b : Bool} {x : Str} (h : OK_ ns) (hg : LG ns lg) (hx : PyData.strOk x = true) : cmpP .In (.str x) (lgD b lg) = some (decide (x ∈ lg)) := by
  cases b
  · simp only [lgD, Bool.false_eq_true, if_false, k_cmpP_inL]
    exact inB_s x lg hx fun y hy => (h.nm y (hg.sub y hy)).2.2
  · simp only [lgD, if_true, k_inTup]
    exact inT_s x lg
def lateF (ns lg : List Str) : List Str := ns.foldl (fun fd x => if decide (x ∈ lg) then fd ++ [x] else []) []
@[simp] theorem vw_lgD {m : Mem} {b : Bool} {lg : List Str} : vw m (lgD b lg) = lgD b lg := by cases b <;> rfl
theorem L_late {j : Nat} {m : Mem} {ns lg : List Str} {b : Bool} (h : OK_ ns) (hg : LG ns lg) (hW : WM m) : callL tab (xnT tb) (j + 3) "" "late" [.lst (ns.map .str), lgD b lg] m = .ok (.ref m.length) (m ++ [.lst ((lateF ns lg).map .str)]) := by
  rw [u_late rfl]
  unfold b_late
  have lp : ∀ (xs acc : List Str) (y : Option D) (cs : Mem) (k : Nat), (∀ x ∈ xs, x ∈ ns) → acc.length + xs.length ≤ 1000 → (m ++ cs)[m.length + k]? = some (.lst (acc.map .str)) → ∃ (cs' : Mem) (k' : Nat) (z : Option D),
      forL (forB (glL tab (xnT tb) (j + 2)) (xnT tb) (.one 3) (.cons (.set 2 (.ife (.cmp .In (.loc 3) (.loc 1)) (.lst true (.star (.loc 2) (.one (.loc 3) .nil))) (.lst true .nil))) .nil)) (xs.map .str) [some (.lst (ns.map .str)), some (lgD b lg), some (.ref (m.length + k)), y] (m ++ cs) = .nx [some (.lst (ns.map .str)), some (lgD b lg), some (.ref (m.length + k')), z] (m ++ cs') ∧ (m ++ cs')[m.length + k']? = some (.lst ((xs.foldl (fun fd x => if decide (x ∈ lg) then fd ++ [x] else []) acc).map .str)) := by
    intro xs
    induction xs with
    | nil => intro acc y cs k _ _ hc; exact ⟨cs, k, y, rfl, hc⟩
    | cons x xs ih =>
      intro acc y cs k hx hl hc
      have hi := in_league (b := b) h hg (h.nm x (hx x List.mem_cons_self)).2.2
      have hlen : (m ++ cs).length = m.length + cs.length := List.length_append
      obtain ⟨cs', k', z, e1, e2⟩ := ih (if decide (x ∈ lg) then acc ++ [x] else []) (some (.str x)) (cs ++ [.lst ((if decide (x ∈ lg) then acc ++ [x] else []).map .str)]) cs.length (fun y hy => hx y (List.mem_cons_of_mem _ hy)) (by
        rw [List.length_cons] at hl
        split <;> simp <;> omega) (by
        rw [← List.append_assoc, ← hlen]
        exact get_new)
      refine ⟨cs', k', z, ?_, e2⟩
      rw [List.map_cons, forL_nx (e1 := [some (.lst (ns.map .str)), some (lgD b lg), some (.ref (m.length + cs.length)), some (.str x)]) (m1 := m ++ (cs ++ [.lst ((if decide (x ∈ lg) then acc ++ [x] else []).map .str)]))]
      · exact e1
      · have h5 : lenOk (acc.length + 1) = true := k_lenOk_of (by rw [List.length_cons] at hl; omega)
        have hv : vw (m ++ cs) (.ref (m.length + k)) = .lst (acc.map .str) := k_vw_ref hc
        by_cases q : x ∈ lg
        · simp [hi, q, hv, h5]
        · simp [hi, q]
  obtain ⟨cs', k', z, e1, e2⟩ := lp ns [] none [.lst []] 0 (fun x h => h) (by have := h.len; simpa using this) (by simp)
  have ho : callL tab (xnT tb) (j + 2) "" "check_order" [.lst (ns.map .str)] m = _ := order_ok (j := j) (m := m) h
  have hg' : callL tab (xnT tb) (j + 2) "" "check_league" [.lst (ns.map .str), lgD b lg] m = _ := league_ok (j := j + 1) (m := m) h hg
  have e3 := fin_ref (n := m.length) rfl hW e2 (by show D.unds _ _ = true; exact unds_strs)
  simp at e1
  simp [e0, ho, hg', e1, e3, lateF]
end K11

/-! K11F -/
set_option Elab.async false
set_option linter.all false
set_option maxRecDepth 100000
set_option maxHeartbeats 400000
namespace K11
open PySem L2 PyProof.Rows IP Gm
theorem L_law_late {j : Nat} {m : Mem} {ns lg : List Str} (h : OK_ ns) (hg : LG ns lg) (hW : WM m) : callL tab (xnT tb) (j + 1) "" "_law_late" [.lst (ns.map .str), .lst (lg.map .str)] m = .ok (.lst (((ns.reverse).takeWhile fun x => decide (x ∈ lg)).reverse.map .str)) m := by
  rw [u_law_late rfl]
  unfold b_law_late
  have lp : ∀ (xs acc : List Str) (y : Option D), (∀ x ∈ xs, x ∈ ns) → acc.length + xs.length ≤ 1000 → 
      (∃ z, forL (forB (glL tab (xnT tb) j) (xnT tb) (.one 3) (.cons (.ifs (.cmp .NotIn (.loc 3) (.loc 1)) (.cons (.ret (.rev (.loc 2))) .nil) .nil) (.cons (.app (.loc 2) (.loc 3)) .nil))) (xs.map .str) [some (.lst (ns.map .str)), some (.lst (lg.map .str)), some (.ref m.length), y] (m ++ [.lst (acc.map .str)]) = .nx [some (.lst (ns.map .str)), some (.lst (lg.map .str)), some (.ref m.length), z] (m ++ [.lst ((acc ++ xs.takeWhile fun x => decide (x ∈ lg)).map .str)])) ∨
      forL (forB (glL tab (xnT tb) j) (xnT tb) (.one 3) (.cons (.ifs (.cmp .NotIn (.loc 3) (.loc 1)) (.cons (.ret (.rev (.loc 2))) .nil) .nil) (.cons (.app (.loc 2) (.loc 3)) .nil))) (xs.map .str) [some (.lst (ns.map .str)), some (.lst (lg.map .str)), some (.ref m.length), y] (m ++ [.lst (acc.map .str)]) = .rt (.lst ((acc ++ xs.takeWhile fun x => decide (x ∈ lg)).reverse.map .str)) (m ++ [.lst ((acc ++ xs.takeWhile fun x => decide (x ∈ lg)).map .str)]) := by
    intro xs
    induction xs with
    | nil => intro acc y _ _; exact .inl ⟨y, by simp⟩
    | cons x xs ih =>
      intro acc y hx hl
      have hm := hx x List.mem_cons_self
      have hi := inB_s x lg (h.nm x hm).2.2 fun y hy => (h.nm y (hg.sub y hy)).2.2
      rw [List.length_cons] at hl
      have h9 : acc.length < sizeLine := by
        have : (1000000 : Nat) ≤ sizeLine := by decide
        omega
      by_cases q : x ∈ lg
      · have ih' := ih (acc ++ [x]) (some (.str x)) (fun y hy => hx y (List.mem_cons_of_mem _ hy)) (by simp; omega)
        have e1 : (x :: xs).takeWhile (fun x => decide (x ∈ lg)) = x :: xs.takeWhile fun x => decide (x ∈ lg) := by simp [q]
        rw [e1, List.map_cons, forL_nx (e1 := [some (.lst (ns.map .str)), some (.lst (lg.map .str)), some (.ref m.length), some (.str x)]) (m1 := m ++ [.lst ((acc ++ [x]).map .str)])]
        · have e2 : acc ++ x :: xs.takeWhile (fun x => decide (x ∈ lg)) = (acc ++ [x]) ++ xs.takeWhile fun x => decide (x ∈ lg) := by simp
          rw [e2]
          exact ih'
        · simp [hi, q, isL, h9]
      · refine .inr ?_
        have e1 : (x :: xs).takeWhile (fun x => decide (x ∈ lg)) = [] := by simp [q]
        rw [e1, List.map_cons, forL_rt (x := .lst ((acc ++ []).reverse.map .str)) (m1 := m ++ [.lst ((acc ++ []).map .str)])]
        simp [hi, q]
  have eu : D.und m.length (.lst (((ns.reverse).takeWhile fun x => decide (x ∈ lg)).reverse.map .str)) = true := by rw [und_lst]; exact unds_strs
  have e3 := fin_plain (n := m.length) (cs := [.lst (((ns.reverse).takeWhile fun x => decide (x ∈ lg)).map .str)]) rfl hW eu
  rcases lp ns.reverse [] none (fun x hx => by simpa using hx) (by have := h.len; simpa using this) with ⟨z, e⟩ | e
  · simp only [List.nil_append, List.map_nil, List.map_reverse] at e e3
    simp [e0, e, e3]
  · simp only [List.nil_append, List.map_nil, List.map_reverse] at e e3
    simp [e0, e, e3]
theorem late_eq {ns lg : List Str} : lateF ns lg.reverse = ((ns.reverse).takeWhile fun x => decide (x ∈ lg)).reverse := by
  unfold lateF
  rw [takeWhile_late]
  simp
theorem order_no {j : Nat} {m : Mem} {d : D} (h : nice (vw m d) = true) (h1 : ∀ xs, vw m d ≠ .lst xs) (h2 : ∀ xs, vw m d ≠ .tup xs) : callL tab (xnT tb) (j + 2) "" "check_order" [d] m = .ex ⟨"BadOrder", [("given", d)]⟩ m := by
  rw [u_check_order rfl]
  unfold b_check_order
  cases e : vw m d with
  | lst xs => exact absurd e (h1 xs)
  | tup xs => exact absurd e (h2 xs)
  | ref => simp [e] at h
  | scr => simp [e] at h
  | cls => simp [e] at h
  | _ => simp [e0, isAny, isTy, e]
theorem league_no {j : Nat} {m : Mem} {o d : D} (h : nice (vw m d) = true) (h1 : ∀ xs, vw m d ≠ .lst xs) (h2 : ∀ xs, vw m d ≠ .tup xs) : callL tab (xnT tb) (j + 1) "" "check_league" [o, d] m = .ex ⟨"BadLeague", [("given", d)]⟩ m := by
  rw [u_check_league rfl]
  unfold b_check_league
  cases e : vw m d with
  | lst xs => exact absurd e (h1 xs)
  | tup xs => exact absurd e (h2 xs)
  | ref => simp [e] at h
  | scr => simp [e] at h
  | cls => simp [e] at h
  | _ => simp [e0, isAny, isTy, e]
def seqD (b : Bool) (xs : List D) : D := if b then .tup xs else .lst xs
def cB (ns : List Str) : D → Bool
  | .str x => decide (x ∈ ns)
  | _ => false
theorem league_bad {j : Nat} {m : Mem} {ns : List Str} {ds : List D} {b : Bool} (h : OK_ ns) (hd : ∀ d ∈ ds, nice d = true ∧ ∀ x, d = .str x → PyData.strOk x = true) (hl : ds.length ≤ 1000) (hb : ds.all (cB ns) = false) : callL tab (xnT tb) (j + 1) "" "check_league" [.lst (ns.map .str), seqD b ds] m = .ex ⟨"BadLeague", [("given", seqD b ds)]⟩ m := by
  rw [u_check_league rfl]
  unfold b_check_league
  have h2 : lenOk ds.length = true := k_lenOk_of (by omega)
  have e : ∀ x : D, compL (cmpB (glL tab (xnT tb) j) (.an (.isi (.loc 2) [.bt "str"]) (.cmp .In (.loc 2) (.loc 0))) (.one 2) .non [2] [some (.lst (ns.map .str)), some x, none, none]) ds m = .ok (ds.map fun d => .bl (cB ns d)) m := fun x => by
    have q := compK_each (g := fun d : D => d) (f := cmpB (glL tab (xnT tb) j) (.an (.isi (.loc 2) [.bt "str"]) (.cmp .In (.loc 2) (.loc 0))) (.one 2) .non [2] [some (.lst (ns.map .str)), some x, none, none]) (m := m) (xs := ds) (fun d => .bl (cB ns d)) fun d hx => by
      obtain ⟨q1, q2⟩ := hd d hx
      cases d with
      | str x =>
        have := inB_s x ns (q2 x rfl) fun y hy => (h.nm y hy).2.2
        simp [isAny, isTy, this, cB]
      | ref => simp at q1
      | scr => simp at q1
      | cls => simp at q1
      | _ => simp [isAny, isTy, cB]
    simpa using q
  cases b
  · simp only [seqD, Bool.false_eq_true, if_false]
    simp [e0, isAny, isTy, e, h2, hb]
  · simp only [seqD, if_true]
    simp [e0, isAny, isTy, e, h2, hb]
theorem compL_cons {f : D → Mem → Res (List D)} {d : D} {ds : List D} {m : Mem} : compL f (d :: ds) m = match f d m with
    | .ok y m1 => (match compL f ds m1 with
      | .ok r m2 => .ok (y ++ r) m2
      | _ => .no)
    | _ => .no := Eq.trans rfl rfl
theorem inB_one {x : Str} (h : PyData.strOk x = true) : inB (.str x) [.str x] = some true := by
  have := inB_s x [x] h (by simpa using h)
  simpa using this
theorem inB_none {x : Str} (h : PyData.strOk x = true) : inB (.str x) [] = some false := by
  have := inB_s x [] h (by simp)
  simpa using this
theorem league_twice {j : Nat} {m : Mem} {ns : List Str} {x : Str} (h : OK_ ns) (hx : x ∈ ns) : callL tab (xnT tb) (j + 1) "" "check_league" [.lst (ns.map .str), .lst [.str x, .str x]] m = .ex ⟨"BadLeague", [("given", .lst [.str x, .str x])]⟩ m := by
  rw [u_check_league rfl]
  unfold b_check_league
  have hs := (h.nm x hx).2.2
  have hi : inB (.str x) (ns.map .str) = some true := by
    rw [inB_s x ns hs fun y hy => (h.nm y hy).2.2]
    simp [hx]
  have e1 : cut [D.str x, D.str x] none (some 0) = [] := k_cut_to (k := 0)
  have e2 : cut [D.str x, D.str x] none (some 1) = [.str x] := k_cut_to (k := 1)
  simp [e0, isAny, isTy, compL_cons, hi, e1, e2, inB_one hs, inB_none hs]
theorem order_twice {j : Nat} {m : Mem} {x : Str} {b : Bool} (hx : isName x = true) (hs : PyData.strOk x = true) (hl : x.length ≤ 1000) : callL tab (xnT tb) (j + 2) "" "check_order" [seqD b [.str x, .str x]] m = .ex ⟨"BadOrder", [("given", seqD b [.str x, .str x])]⟩ m := by
  rw [u_check_order rfl]
  unfold b_check_order
  have e1 : cut [D.str x, D.str x] none (some 0) = [] := k_cut_to (k := 0)
  have e2 : cut [D.str x, D.str x] none (some 1) = [.str x] := k_cut_to (k := 1)
  have t1 : inT (.str x) [] = some false := by simpa using inT_s x []
  have t2 : inT (.str x) [.str x] = some true := by simpa using inT_s x [x]
  cases b
  · simp only [seqD, Bool.false_eq_true, if_false]
    simp [e0, isAny, isTy, compL_cons, L_is_name hl, hx, e1, e2, inB_one hs, inB_none hs]
  · simp only [seqD, if_true]
    simp [e0, isAny, isTy, compL_cons, L_is_name hl, hx, e1, e2, t1, t2]
theorem L_late_bo {j : Nat} {m : Mem} {bad odd : D} {x : Exc} (h : callL tab (xnT tb) (j + 2) "" "check_order" [bad] m = .ex x m) : callL tab (xnT tb) (j + 3) "" "late" [bad, odd] m = .ex x m := by
  rw [u_late rfl]
  unfold b_late
  simp [e0, h]
theorem L_late_bl {j : Nat} {m : Mem} {ns : List Str} {odd : D} {x : Exc} (h : OK_ ns) (h2 : callL tab (xnT tb) (j + 1 + 1) "" "check_league" [.lst (ns.map .str), odd] m = .ex x m) : callL tab (xnT tb) (j + 3) "" "late" [.lst (ns.map .str), odd] m = .ex x m := by
  rw [u_late rfl]
  unfold b_late
  have e : callL tab (xnT tb) (j + 2) "" "check_order" [.lst (ns.map .str)] m = _ := order_ok (j := j) (m := m) h
  simp [e0, e, h2]
theorem L_refused_o {j : Nat} {m : Mem} {bad odd : D} (h : callL tab (xnT tb) (j + 2) "" "check_order" [bad] m = .ex ⟨"BadOrder", [("given", bad)]⟩ m) : callL tab (xnT tb) (j + 4) "" "_law_late_refused" [bad, odd] m = .ok (.lst [.str (Str.ofString "order"), bad]) m := by
  rw [u_law_late_refused rfl]
  unfold b_law_late_refused
  have e := L_late_bo (odd := odd) h
  simp [e0, e, isX, unb]
theorem L_refused_l {j : Nat} {m : Mem} {ns : List Str} {odd : D} (h : OK_ ns) (h2 : callL tab (xnT tb) (j + 1 + 1) "" "check_league" [.lst (ns.map .str), odd] m = .ex ⟨"BadLeague", [("given", odd)]⟩ m) : callL tab (xnT tb) (j + 4) "" "_law_late_refused" [.lst (ns.map .str), odd] m = .ok (.lst [.str (Str.ofString "league"), odd]) m := by
  rw [u_law_late_refused rfl]
  unfold b_law_late_refused
  have e := L_late_bl h h2
  simp [e0, e, isX, unb]
end K11

/-! K11G -/
set_option Elab.async false
set_option linter.all false
set_option maxRecDepth 100000
set_option maxHeartbeats 400000
namespace K11
open PySem L2 PyProof.Rows IP Gm
theorem al_subG {a : Type} {g : a → D} {os : List a} {yss : List (List D)} (p : Al (fun o ys => ys = [] ∨ ys = [g o]) os yss) : ∃ ev : List a, ev.Sublist os ∧ yss.flatten = ev.map g := by
  induction p with
  | nil => exact ⟨[], List.Sublist.refl _, rfl⟩
  | @cons x y xs ys p1 p2 ih =>
    obtain ⟨o, h3, h4⟩ := ih
    rcases p1 with rfl | rfl
    · exact ⟨o, h3.cons _, by simp [h4]⟩
    · exact ⟨x :: o, h3.cons₂ _, by simp [h4]⟩
theorem set_app {m cs : Mem} {r : Nat} {x : MO} (h : r < m.length) : (m ++ cs).set r x = m.set r x ++ cs := List.set_append_left _ _ h
theorem get_app {m cs : Mem} {r : Nat} {x : MO} (h : m[r]? = some x) : (m ++ cs)[r]? = some x := by
  rw [List.getElem?_append_left (get_lt h)]
  exact h
theorem BO.und {N n : Nat} {x : MO} (h : BO N x) : x.und n = true := by
  obtain ⟨a, b, c, rfl, _⟩ := h
  show D.unds n _ = true
  simp
def menu6 : List Str := ["kai", "ann", "anna", "bob", "zoe", "eleanora"].map Str.ofString
def ordN (k a : Nat) : List Str := (menu6.take (k + 1)).drop a ++ (menu6.take (k + 1)).take a
def okO (ns : List Str) : Bool := !ns.isEmpty && (decide (ns.length ≤ 1000) && ((ns.all fun x => isName x && (decide (x.length ≤ 1000) && PyData.strOk x)) && (decide ns.Nodup && !ns.contains (Str.ofString "zed"))))
theorem okO_all : ∀ k < 6, ∀ a < 6, a ≤ k → okO (ordN k a) = true := by decide +kernel
theorem okO_ok {ns : List Str} (h : okO ns = true) : OK_ ns ∧ Str.ofString "zed" ∉ ns := by
  unfold okO at h
  simp only [Bool.and_eq_true, Bool.not_eq_true', decide_eq_true_eq, List.all_eq_true] at h
  obtain ⟨h1, h2, h3, h4, h5⟩ := h
  exact ⟨⟨(by intro e; subst e; simp at h1), h2, h3, h4⟩, by simpa using h5⟩
theorem ss_nx {g : IP.Gl} {xn : String → Option (List String)} {s : S} {r : Ss} {e e1 : Ev} {m m1 : Mem} (h : evS g xn s e m = .nx e1 m1) : evSs g xn (.cons s r) e m = evSs g xn r e1 m1 := by
  rw [evSs, h]
  rfl
abbrev tS (x : String) : D := .str (Str.ofString x)
def bads : List D := [.non, .lst [], .int 5, .lst [tS "a", tS "a"], .lst [tS "a", tS "B"], tS "ab", .lst [.lst [tS "a"]], .lst [tS "B", tS "a"], .lst [tS "a1"], .lst [tS "eleanoraz"], .tup [tS "a", tS "a"]]
theorem ordV_s {x : Str} (h : x.length ≤ 1000) : ordV (.str x) := .inl ⟨x, rfl, h⟩
theorem bads_ok : ∀ bad ∈ bads, (∀ {j : Nat} {m : Mem}, callL tab (xnT tb) (j + 2) "" "check_order" [bad] m = .ex ⟨"BadOrder", [("given", bad)]⟩ m) ∧ Gd 3 bad := by
  have s : ∀ {x : String}, PyData.strOk (Str.ofString x) = true → Gd 0 (tS x) := fun h => Gd.str h
  have l1 : ∀ {x : D} {k : Nat}, Gd k x → Gd (k + 1) (.lst [x]) := fun h => Gd.lst (by simpa using h)
  have l2 : ∀ {x y : D} {k : Nat}, Gd k x → Gd k y → Gd (k + 1) (.lst [x, y]) := fun h1 h2 => Gd.lst (by simpa using ⟨h1, h2⟩)
  unfold bads
  simp only [List.forall_mem_cons]
  refine ⟨⟨fun {j m} => order_no (by simp) (by simp) (by simp), Gd.non.mono (by decide)⟩, ⟨fun {j m} => order_bad (by simp) (by simp) (.inl rfl), (Gd.lst (k := 0) (by simp)).mono (by decide)⟩, ⟨fun {j m} => order_no (by simp) (by simp) (by simp), Gd.int.mono (by decide)⟩,
    ⟨fun {j m} => order_twice (b := false) (by decide +kernel) (by decide +kernel) (by decide +kernel), (l2 (s (by decide +kernel)) (s (by decide +kernel))).mono (by decide)⟩,
    ⟨fun {j m} => order_bad (by intro d hd; simp at hd; rcases hd with rfl | rfl <;> exact ordV_s (by decide +kernel)) (by simp) (.inr (by decide +kernel)), (l2 (s (by decide +kernel)) (s (by decide +kernel))).mono (by decide)⟩,
    ⟨fun {j m} => order_no (by simp) (by simp) (by simp), (s (by decide +kernel)).mono (by decide)⟩,
    ⟨fun {j m} => order_bad (by intro d hd; simp at hd; subst hd; exact .inr ⟨by simp, by intro x h; cases h⟩) (by simp) (.inr (by decide +kernel)), (l1 (l1 (s (by decide +kernel)))).mono (by decide)⟩,
    ⟨fun {j m} => order_bad (by intro d hd; simp at hd; rcases hd with rfl | rfl <;> exact ordV_s (by decide +kernel)) (by simp) (.inr (by decide +kernel)), (l2 (s (by decide +kernel)) (s (by decide +kernel))).mono (by decide)⟩,
    ⟨fun {j m} => order_bad (by intro d hd; simp at hd; subst hd; exact ordV_s (by decide +kernel)) (by simp) (.inr (by decide +kernel)), (l1 (s (by decide +kernel))).mono (by decide)⟩,
    ⟨fun {j m} => order_bad (by intro d hd; simp at hd; subst hd; exact ordV_s (by decide +kernel)) (by simp) (.inr (by decide +kernel)), (l1 (s (by decide +kernel))).mono (by decide)⟩,
    ⟨fun {j m} => order_twice (b := true) (by decide +kernel) (by decide +kernel) (by decide +kernel), (Gd.tup (k := 0) (by intro x hx; simp at hx; subst hx; exact s (by decide +kernel))).mono (by decide)⟩, fun _ h => (nomatch h)⟩
def odds (n0 : Str) (q : Nat) : List D := [.non, .int 5, .lst [tS "zed"], .lst [.str n0, .str n0], tS "ann", .lst [.non], .lst [.lst [tS "ann"]], .ref q, .tup [tS "zed"], .lst [tS "zed", .str n0]]
def lgT : D := tS "league"
theorem eqC_gd {k : Nat} {x : D} (hk : k ≤ 60) (h : Gd k x) {s : Str} (hs : PyData.strOk s = true) : eqC (.lst [.str s, x]) (.lst [.str s, x]) = some true :=
  k_eqC_of ((Gd.lst (k := k) (xs := [.str s, x]) (by intro y hy; simp at hy; rcases hy with rfl | rfl; exact (Gd.str hs).mono (Nat.zero_le _); exact h)).eq (by omega))
theorem eqC_rf {q : Nat} {s : Str} (hs : PyData.strOk s = true) : eqC (.lst [.str s, .ref q]) (.lst [.str s, .ref q]) = some true := by
  have h1 : eqB (.str s) (.str s) = some true := (Gd.str hs).eq (by decide)
  have h2 : (D.ref q).py = none := by rw [D.py]
  have h3 : eqB (.lst [.str s, .ref q]) (.lst [.str s, .ref q]) = none := by
    unfold eqB
    rw [py_lst, pys_cons, py_str, pys_cons, h2]
    rfl
  unfold eqC
  rw [h3]
  dsimp only
  rw [eqIs, eqIs, eqIs]
  have h4 : eqI (.str s) (.str s) = some true := h1
  have h5 : eqI (.ref q) (.ref q) = some true := by unfold eqI; simp
  rw [h4, h5]
  rfl
theorem odds_ok {ns : List Str} {n0 : Str} {q : Nat} (h : OK_ ns) (hz : Str.ofString "zed" ∉ ns) (hn : n0 ∈ ns) : ∀ odd ∈ odds n0 q, (∀ {j : Nat} {m : Mem} {kvs : List (D × D)}, m[q]? = some (.dic .k kvs) → callL tab (xnT tb) (j + 1) "" "check_league" [.lst (ns.map .str), odd] m = .ex ⟨"BadLeague", [("given", odd)]⟩ m) ∧ eqC (.lst [lgT, odd]) (.lst [lgT, odd]) = some true := by
  have s : ∀ {x : String}, PyData.strOk (Str.ofString x) = true → Gd 0 (tS x) := fun h => Gd.str h
  have l1 : ∀ {x : D} {k : Nat}, Gd k x → Gd (k + 1) (.lst [x]) := fun h => Gd.lst (by simpa using h)
  have l2 : ∀ {x y : D} {k : Nat}, Gd k x → Gd k y → Gd (k + 1) (.lst [x, y]) := fun h1 h2 => Gd.lst (by simpa using ⟨h1, h2⟩)
  have g0 : Gd 0 (.str n0) := Gd.str (h.nm n0 hn).2.2
  have lok : PyData.strOk (Str.ofString "league") = true := by decide +kernel
  have zok : PyData.strOk (Str.ofString "zed") = true := by decide +kernel
  have aok : PyData.strOk (Str.ofString "ann") = true := by decide +kernel
  unfold odds
  simp only [List.forall_mem_cons]
  refine ⟨⟨fun {j m kvs} hq => league_no (by simp) (by simp) (by simp), eqC_gd (by decide) Gd.non lok⟩, ⟨fun {j m kvs} hq => league_no (by simp) (by simp) (by simp), eqC_gd (by decide) Gd.int lok⟩,
    ⟨fun {j m kvs} hq => league_bad (b := false) h (by intro d hd; simp at hd; subst hd; exact ⟨by simp, by intro x e; cases e; exact zok⟩) (by simp) (by simp [cB, hz]), eqC_gd (by decide) (l1 (s zok)) lok⟩,
    ⟨fun {j m kvs} hq => league_twice h hn, eqC_gd (by decide) (l2 g0 g0) lok⟩,
    ⟨fun {j m kvs} hq => league_no (by simp) (by simp) (by simp), eqC_gd (by decide) (s aok) lok⟩,
    ⟨fun {j m kvs} hq => league_bad (b := false) h (by intro d hd; simp at hd; subst hd; exact ⟨by simp, by intro x e; cases e⟩) (by simp) (by simp [cB]), eqC_gd (by decide) (l1 Gd.non) lok⟩,
    ⟨fun {j m kvs} hq => league_bad (b := false) h (by intro d hd; simp at hd; subst hd; exact ⟨by simp, by intro x e; cases e⟩) (by simp) (by simp [cB]), eqC_gd (by decide) (l1 (l1 (s aok))) lok⟩,
    ⟨fun {j m kvs} hq => league_no (by rw [k_vw_refd hq]; simp) (by rw [k_vw_refd hq]; simp) (by rw [k_vw_refd hq]; simp), eqC_rf lok⟩,
    ⟨fun {j m kvs} hq => league_bad (b := true) h (by intro d hd; simp at hd; subst hd; exact ⟨by simp, by intro x e; cases e; exact zok⟩) (by simp) (by simp [cB, hz]), eqC_gd (k := 1) (by decide) (Gd.tup (k := 0) (by intro x hx; simp at hx; subst hx; exact s zok)) lok⟩,
    ⟨fun {j m kvs} hq => league_bad (b := false) h (by intro d hd; simp at hd; rcases hd with rfl | rfl; exact ⟨by simp, by intro x e; cases e; exact zok⟩; exact ⟨by simp, by intro x e; cases e; exact (h.nm n0 hn).2.2⟩) (by simp) (by simp [cB, hz]), eqC_gd (by decide) (l2 (s zok) g0) lok⟩, fun _ h => (nomatch h)⟩
end K11

/-! K11I -/
set_option Elab.async false
set_option linter.all false
set_option maxRecDepth 100000
set_option maxHeartbeats 1000000
namespace K11
open PySem L2 PyProof.Rows IP Gm
theorem arr01 {a : Type} {x y : a} : arr [0, 1] [x, y] = some [x, y] := rfl
theorem arr012 {a : Type} {x y z : a} : arr [0, 1, 2] [x, y, z] = some [x, y, z] := rfl
theorem L_leagues {j : Nat} {m : Mem} {r N : Nat} {x : MO} (hx : m[r]? = some x) (hb : BO (N + 20) x) (hW : WM m) : ∃ y, BO N y ∧ callL tab (xnT tb) (j + 5) "" "_law_leagues" [.ref r] m = .ok (.bl true) (m.set r y) := by
  obtain ⟨d1, y1, d10, d11, b1, t1⟩ := L_take (j := j + 3) (n := 6) hx (hb.mono (Nat.le_refl _) : BO (N + 19 + 1) x) (by decide) (by decide)
  obtain ⟨k, rfl⟩ : ∃ k : Nat, d1 = k := ⟨d1.toNat, by omega⟩
  have hk : k < 6 := by omega
  obtain ⟨d2, y2, d20, d21, b2, t2⟩ := L_take (j := j + 3) (m := m.set r y1) (n := ((k : Int) + 1)) (set_get hx) (b1.mono (Nat.le_refl _) : BO (N + 18 + 1) y1) (by omega) (by omega)
  obtain ⟨a, rfl⟩ : ∃ a : Nat, d2 = a := ⟨d2.toNat, by omega⟩
  rw [set_same] at t2
  obtain ⟨ho, hz⟩ := okO_ok (okO_all k hk a (by omega) (by omega))
  have hns : (ordN k a).length = k + 1 := by
    unfold ordN
    have : menu6.length = 6 := by decide
    simp
    omega
  have hcut1 : cut (menu6.map D.str) none (some (1 + (k : Int))) = (menu6.map D.str).take (k + 1) := by
    have : (1 + (k : Int)) = ((k + 1 : Nat) : Int) := by omega
    rw [this, k_cut_to]
  generalize hgn : ordN k a = ns at ho hz hns
  have hord : (((menu6.map D.str).take (k + 1)).drop a) ++ (((menu6.map D.str).take (k + 1)).take a) = ns.map .str := by
    rw [← hgn]
    unfold ordN
    simp [List.map_drop, List.map_take]
  obtain ⟨yss, y3, p, b3, t3⟩ := comp_draw (g := D.str) (f := cmpB (glL tab (xnT tb) (j + 4)) (.loc 4) (.one 4) (.som (.cmp .Gt (.call "" "_law_take" (.one (.loc 0) (.one (.con (.int 4)) .nil)) [] []) (.con (.int 0)))) [4] [some (.ref r), some (.lst (ns.map .str)), some (.int (a : Int)), none, none, none, none, none, none]) (r := r) (c := 1) (fun o ys => ys = [] ∨ ys = [D.str o]) ns (fun o h m N b hb ho => by
    obtain ⟨d2, y, h1, h2, h3, h4⟩ := L_take (j := j + 3) (n := 4) hb ho (by omega) (by omega)
    by_cases q : 0 < d2
    · exact ⟨[.str o], y, .inr rfl, h3, by simp [h4, q]⟩
    · exact ⟨[], y, .inl rfl, h3, by simp [h4, q]⟩) (m.set r y2) (N + 12) y2 (set_get hx) (b2.mono (by omega))
  rw [set_same] at t3
  obtain ⟨lg, lsub, lfl⟩ := al_subG p
  rw [lfl] at t3
  have hG : LG ns lg := ⟨Nat.le_trans lsub.length_le ho.len, fun x hx => lsub.subset hx, List.Nodup.sublist lsub ho.nd⟩
  have hG2 : LG ns lg.reverse := ⟨by simpa using hG.len, fun x hx => hG.sub x (by simpa using hx), by
    unfold List.Nodup
    rw [List.pairwise_reverse]
    exact hG.nd.imp fun h e => h e.symm⟩
  have hW3 : WM (m.set r y3) := hW.set b3.und
  have l1 : lenOk lg.length = true := k_lenOk_of (by have := hG.len; omega)
  have l2 : lenOk ns.length = true := k_lenOk_of (by omega)
  have hg3 : (m.set r y3)[r]? = some y3 := set_get hx
  have hlen6 : menu6.length = 6 := by decide
  have hmin : min (k + 1) 6 = k + 1 := by omega
  have hlp := forL_inv (f := forB (glL tab (xnT tb) (j + 4)) (xnT tb) (.one 6) (.cons (.ifs (.cmp .NotEq (.call "" "late" (.one (.loc 1) (.one (.seq .tuple (.loc 5)) .nil)) [0, 1] []) (.call "" "_law_late" (.one (.loc 1) (.one (.loc 3) .nil)) [] [])) (.cons (.ret (.con (.bl false)))
    .nil) .nil)
    (.cons (.app (.call "" "late" (.one (.loc 1) (.one (.loc 5) .nil)) [] []) (.con (.str (Str.ofString "zed"))))
    .nil))) (fun e m' => ∃ t cs, e = [some (.ref r), some (.lst (ns.map .str)), some (.int (a : Int)), some (.lst (lg.map .str)), none, some (.lst (lg.map .str).reverse), t, none, none] ∧ m' = m.set r y3 ++ cs ∧ WM (m.set r y3 ++ cs)) [.int 0, .int 1] (fun d hd e m' ⟨t, cs, he, hm, hw⟩ => by
    subst he hm
    generalize hM : m.set r y3 ++ cs = M at hw
    have e1 : callL tab (xnT tb) (j + 4) "" "late" [.lst (ns.map .str), .tup (lg.map .str).reverse] M = .ok (.ref M.length) (M ++ [MO.lst ((lateF ns lg.reverse).map .str)]) := by
      have := L_late (j := j + 1) (m := M) (b := true) ho hG2 hw
      simp only [lgD, if_true, List.map_reverse] at this
      exact this
    have hw2 : WM (M ++ [MO.lst ((lateF ns lg.reverse).map .str)]) := hw.app (by show D.unds _ _ = true; exact unds_strs)
    have e2 : ∀ c, WM (M ++ [c]) → callL tab (xnT tb) (j + 4) "" "_law_late" [.lst (ns.map .str), .lst (lg.map .str)] (M ++ [c]) = .ok (.lst ((lateF ns lg.reverse).map .str)) (M ++ [c]) := fun c hc => by
      rw [late_eq]
      exact L_law_late (j := j + 3) ho hG hc
    have e3 : callL tab (xnT tb) (j + 4) "" "late" [.lst (ns.map .str), .lst (lg.map .str).reverse] (M ++ [MO.lst ((lateF ns lg.reverse).map .str)]) = .ok (.ref (M ++ [MO.lst ((lateF ns lg.reverse).map .str)]).length) ((M ++ [MO.lst ((lateF ns lg.reverse).map .str)]) ++ [.lst ((lateF ns lg.reverse).map .str)]) := by
      have := L_late (j := j + 1) (m := M ++ [MO.lst ((lateF ns lg.reverse).map .str)]) (b := false) ho hG2 hw2
      simp only [lgD, Bool.false_eq_true, if_false, List.map_reverse] at this
      exact this
    have hsub : ∀ x ∈ lateF ns lg.reverse, PyData.strOk x = true := fun x hx => by
      rw [late_eq] at hx
      have : x ∈ ns := by
        have := (List.takeWhile_sublist _).subset (List.mem_reverse.mp hx)
        simpa using this
      exact (ho.nm x this).2.2
    have e4 := eqB_ss (lateF ns lg.reverse) (lateF ns lg.reverse) hsub hsub
    have hl : (lateF ns lg.reverse).length < sizeLine := by
      have : (1000000 : Nat) ≤ sizeLine := by decide
      rw [late_eq]
      have := (List.takeWhile_sublist (fun x => decide (x ∈ lg)) (l := ns.reverse)).length_le
      simp at this ⊢
      omega
    have hv := k_vw_ref (m := M ++ [MO.lst ((lateF ns lg.reverse).map .str)]) get_new
    have hc := k_cmpG_ref (g := glL tab (xnT tb) (j + 4)) (op := .NotEq) (y := .lst ((lateF ns lg.reverse).map .str)) hv
    refine ⟨_, (M ++ [MO.lst ((lateF ns lg.reverse).map .str)]) ++ [.lst ((lateF ns lg.reverse).map .str ++ [tS "zed"])], ?_, some d, cs ++ [.lst ((lateF ns lg.reverse).map .str), .lst ((lateF ns lg.reverse).map .str ++ [tS "zed"])], rfl, ?_, ?_⟩
    · have g1 := get_new (m := M ++ [MO.lst ((lateF ns lg.reverse).map .str)]) (c := .lst ((lateF ns lg.reverse).map .str))
      have g2 := set_new (m := M ++ [MO.lst ((lateF ns lg.reverse).map .str)]) (c := .lst ((lateF ns lg.reverse).map .str)) (c' := .lst ((lateF ns lg.reverse).map .str ++ [tS "zed"]))
      simp [arr01, e1, e2 _ hw2, e3, hc, e4, isL, hl, g1, g2]
    · rw [← hM]
      simp
    · rw [← hM] at hw2
      have := hw2.app (c := .lst ((lateF ns lg.reverse).map .str ++ [tS "zed"])) (by show D.unds _ _ = true; simp)
      simpa using this)
  obtain ⟨e4, m4, lpe, t, cs, rfl, rfl, hw4⟩ := hlp [some (.ref r), some (.lst (ns.map .str)), some (.int (a : Int)), some (.lst (lg.map .str)), none, some (.lst (lg.map .str).reverse), none, none, none] (m.set r y3) ⟨none, [], rfl, by simp, by simpa using hW3⟩
  obtain ⟨n0, rest, hn0⟩ : ∃ n0 rest, ns = n0 :: rest := by
    cases ns with
    | nil => simp at hns
    | cons n0 rest => exact ⟨n0, rest, rfl⟩
  have hrl : r < m.length := get_lt hx
  have hgM : (m.set r y3 ++ cs)[r]? = some y3 := get_app hg3
  obtain ⟨d3, y4, d30, d31, b4, t4⟩ := L_take (j := j + 3) (n := 11) hgM (b3.mono (Nat.le_refl _) : BO (N + 11 + 1) y3) (by decide) (by decide)
  obtain ⟨k3, rfl⟩ : ∃ k : Nat, d3 = k := ⟨d3.toNat, by omega⟩
  have hk3 : k3 < bads.length := by have : bads.length = 11 := rfl; omega
  have hb3 : bads[k3]? = some bads[k3] := List.getElem?_eq_getElem hk3
  obtain ⟨bo, bg⟩ := bads_ok _ (List.getElem_mem hk3)
  generalize bads[k3] = bad at hb3 bo bg
  rw [set_app (by simpa using hrl), set_same] at t4
  generalize hM2 : m.set r y4 ++ cs = M2 at t4
  have hgM2 : M2[r]? = some y4 := by rw [← hM2]; exact get_app (set_get hx)
  have hgM3 : (M2 ++ [MO.dic .k [(tS "ann", .int 1)]])[r]? = some y4 := get_app hgM2
  obtain ⟨d4, y5, d40, d41, b5, t5⟩ := L_take (j := j + 3) (n := 10) hgM3 (b4.mono (Nat.le_refl _) : BO (N + 10 + 1) y4) (by decide) (by decide)
  obtain ⟨k4, rfl⟩ : ∃ k : Nat, d4 = k := ⟨d4.toNat, by omega⟩
  have hk4 : k4 < (odds n0 M2.length).length := by have : (odds n0 M2.length).length = 10 := rfl; omega
  have hb4 : (odds n0 M2.length)[k4]? = some (odds n0 M2.length)[k4] := List.getElem?_eq_getElem hk4
  obtain ⟨oo, og⟩ := odds_ok ho hz (by rw [hn0]; exact List.mem_cons_self) _ (List.getElem_mem hk4)
  generalize (odds n0 M2.length)[k4] = odd at hb4 oo og
  have hdic : ((M2 ++ [MO.dic .k [(tS "ann", .int 1)]]).set r y5)[M2.length]? = some (.dic .k [(tS "ann", .int 1)]) := by
    rw [List.getElem?_set_ne (by have := get_lt hgM2; omega)]
    exact get_new
  generalize hM5 : (M2 ++ [MO.dic .k [(tS "ann", .int 1)]]).set r y5 = M5 at t5 hdic
  have r1 := L_refused_o (j := j) (m := M5) (odd := odd) bo
  have r2 := L_refused_l (j := j) (m := M5) (ns := ns) (odd := odd) ho (oo hdic)
  have q1 : eqC (.lst [tS "order", bad]) (.lst [tS "order", bad]) = some true := eqC_gd (by decide) bg (by decide +kernel)
  have q2 : eqC (.lst [tS "league", odd]) (.lst [tS "league", odd]) = some true := og
  refine ⟨y5, b5.mono (by omega), ?_⟩
  have hfin : fin m.length (.bl true) M5 = (.bl true, m.set r y5) := by
    have e : M5 = m.set r y5 ++ (cs ++ [MO.dic .k [(tS "ann", .int 1)]]) := by
      rw [← hM5, ← hM2, set_app (by simp; omega), set_app (by simpa using hrl), set_same, List.append_assoc]
    rw [e]
    exact fin_plain (by simp) (hW.set b5.und) (by simp)
  rw [u_law_leagues rfl]
  unfold b_law_leagues
  have em : [D.str (Str.ofString "kai"), .str (Str.ofString "ann"), .str (Str.ofString "anna"), .str (Str.ofString "bob"), .str (Str.ofString "zoe"), .str (Str.ofString "eleanora")] = menu6.map .str := rfl
  rw [ss_nx (e1 := [some (.ref r), some (.lst ((menu6.map D.str).take (k + 1))), none, none, none, none, none, none, none]) (m1 := m.set r y1) (by
    simp [e0, t1]
    rw [em, hcut1])]
  rw [ss_nx (e1 := [some (.ref r), some (.lst ((menu6.map D.str).take (k + 1))), some (.int (a : Int)), none, none, none, none, none, none]) (m1 := m.set r y2) (by
    simp [hlen6, hmin, t2])]
  rw [ss_nx (e1 := [some (.ref r), some (.lst (ns.map .str)), some (.int (a : Int)), none, none, none, none, none, none]) (m1 := m.set r y2) (by
    have l7 : lenOk ((((menu6.map D.str).take (k + 1)).drop a).length + (((menu6.map D.str).take (k + 1)).take a).length) = true := k_lenOk_of (by simp; omega)
    simp only [r_evS_set, r_ev_bin, r_ev_slc, r_ev_loc, r_evI_som, r_evI_non, go_K, bind_K, bindK_ok, goK_ok, k_vw_lst, k_slcP_lst, IP.opt_some, k_cut_from, k_cut_to, List.getElem?_cons_succ, List.getElem?_cons_zero, k_binG_lst, k_binP_addL, l7, hord, List.set_cons_succ, List.set_cons_zero, if_true])]
  rw [ss_nx (e1 := [some (.ref r), some (.lst (ns.map .str)), some (.int (a : Int)), some (.lst (lg.map .str)), none, none, none, none, none]) (m1 := m.set r y3) (by
    simp [t3, l1])]
  rw [ss_nx (e1 := [some (.ref r), some (.lst (ns.map .str)), some (.int (a : Int)), some (.lst (lg.map .str)), none, some (.lst (lg.map .str).reverse), none, none, none]) (m1 := m.set r y3) (by
    simp)]
  have hr2 : rngOk 2 = true := by decide +kernel
  have hr3 : rng 0 2 = [.int 0, .int 1] := rfl
  rw [ss_nx (e1 := [some (.ref r), some (.lst (ns.map .str)), some (.int (a : Int)), some (.lst (lg.map .str)), none, some (.lst (lg.map .str).reverse), t, none, none]) (m1 := m.set r y3 ++ cs) (by
    simp [hr2, hr3, lpe])]
  have q7 : eqB (.lst (lg.map D.str).reverse) (.lst (lg.map D.str).reverse) = some true := by
    rw [← List.map_reverse, eqB_ss _ _ (fun x hx => (ho.nm x (hG2.sub x hx)).2.2) (fun x hx => (ho.nm x (hG2.sub x hx)).2.2)]
    simp
  rw [ss_nx (e1 := [some (.ref r), some (.lst (ns.map .str)), some (.int (a : Int)), some (.lst (lg.map .str)), none, some (.lst (lg.map .str).reverse), t, none, none]) (m1 := m.set r y3 ++ cs) (by
    simp [q7])]
  rw [ss_nx (e1 := [some (.ref r), some (.lst (ns.map .str)), some (.int (a : Int)), some (.lst (lg.map .str)), none, some (.lst (lg.map .str).reverse), t, some (.lst bads), none]) (m1 := m.set r y3 ++ cs) (by
    simp [bads])]
  rw [ss_nx (e1 := [some (.ref r), some (.lst (ns.map .str)), some (.int (a : Int)), some (.lst (lg.map .str)), none, some (.lst (lg.map .str).reverse), t, some bad, none]) (m1 := M2) (by
    simp [t4, k_atI_nat, hb3])]
  have hko : keysOk [(tS "ann", .int 1)] = true := by decide +kernel
  rw [ss_nx (e1 := [some (.ref r), some (.lst (ns.map .str)), some (.int (a : Int)), some (.lst (lg.map .str)), none, some (.lst (lg.map .str).reverse), t, some bad, some (.lst ((odds n0 M2.length).take 9))]) (m1 := M2 ++ [MO.dic .k [(tS "ann", .int 1)]]) (by
    have c1 : cut (ns.map D.str) none (some 1) = [.str n0] := by rw [show (1 : Int) = ((1 : Nat) : Int) from rfl, k_cut_to, hn0]; rfl
    simp [c1, hko, odds])]
  rw [ss_nx (e1 := [some (.ref r), some (.lst (ns.map .str)), some (.int (a : Int)), some (.lst (lg.map .str)), none, some (.lst (lg.map .str).reverse), t, some bad, some odd]) (m1 := M5) (by
    have c2 : (odds n0 M2.length).take 9 ++ [.lst [tS "zed", .str n0]] = odds n0 M2.length := rfl
    have c3 : ((odds n0 M2.length).take 9).length = 9 := rfl
    have c4 : (ns.map D.str)[0]? = some (.str n0) := by rw [hn0]; rfl
    simp at c4
    simp [c2, c3, c4, t5, k_atI_nat, hb4])]
  simp [r1, r2, q1, q2, hfin]
end K11

/-! K11J -/
set_option Elab.async false
set_option linter.all false
set_option maxRecDepth 100000
set_option maxHeartbeats 1000000
namespace K11
open PySem L2 PyProof.Rows IP Gm
def menuS : List (List Int) := [[2], [3], [2, 2], [5], [6], [2, 3], [7], [2, 2, 2], [9], [3, 3], [4, 3], [11]]
theorem menuS_ok : ∀ ss ∈ menuS, VN ss := by
  unfold VN VS menuS
  decide +kernel
theorem L_sizes {j : Nat} {m : Mem} {r N : Nat} {x : MO} (hx : m[r]? = some x) (hb : BO (N + 1) x) : ∃ (ss : List Int) (y : MO), VN ss ∧ BO N y ∧ callL tab (xnT tb) (j + 2) "" "_law_sizes" [.ref r, .int 12] m = .ok (.lst (ss.map .int)) (m.set r y) := by
  obtain ⟨d, y, d0, d1, b, t⟩ := L_take (j := j) (n := 12) hx hb (by decide) (by decide)
  obtain ⟨k, rfl⟩ : ∃ k : Nat, d = k := ⟨d.toNat, by omega⟩
  have hk : k < menuS.length := by have : menuS.length = 12 := rfl; omega
  have hm : (menuS.map fun ss => D.lst (ss.map .int))[k]? = some (.lst (menuS[k].map .int)) := by
    rw [List.getElem?_map, List.getElem?_eq_getElem hk]
    rfl
  refine ⟨menuS[k], y, menuS_ok _ (List.getElem_mem hk), b, ?_⟩
  rw [u_law_sizes rfl]
  unfold b_law_sizes
  rw [ss_nx (e1 := [some (.ref r), some (.int 12), some (.lst (menuS.map fun ss => D.lst (ss.map .int)))]) (m1 := m) (by simp [e0, menuS])]
  generalize (menuS.map fun ss => D.lst (ss.map .int)) = L at hm ⊢
  generalize menuS[k] = ss at hm ⊢
  simp [t, k_atI_nat, hm]
def odds2 (ss : List Int) : List D := [.non, .int 5, .lst [.int 0], .tup (ss.map .int), tS "0", .tup (List.replicate ss.length [D.bl true]).flatten]
theorem rep_true : ∀ {n : Nat}, (List.replicate n [D.bl true]).flatten = List.replicate n (D.bl true)
  | 0 => rfl
  | n + 1 => by rw [List.replicate_succ, List.flatten_cons, rep_true]; rfl
theorem odds2_ok {ss : List Int} (hs : VS ss) : ∀ odd ∈ odds2 ss, niceV odd = true ∧ hasV ss odd = false ∧ Gd 3 odd := by
  obtain ⟨s, r, hr⟩ : ∃ s r, ss = s :: r := by
    have := hs.1
    cases ss with
    | nil => exact absurd rfl this
    | cons s r => exact ⟨s, r, rfl⟩
  unfold odds2
  simp only [List.forall_mem_cons]
  refine ⟨⟨rfl, rfl, Gd.non.mono (by decide)⟩, ⟨rfl, rfl, Gd.int.mono (by decide)⟩, ⟨rfl, rfl, (Gd.lst (k := 0) (by intro x hx; simp at hx; subst hx; exact Gd.int)).mono (by decide)⟩,
    ⟨by simp [niceV], by rw [hr]; simp [hasV, hasI], Gd.o.mono (by decide)⟩, ⟨rfl, rfl, (Gd.str (by decide +kernel)).mono (by decide)⟩,
    ⟨by rw [rep_true]; simp [niceV], by rw [rep_true, hr]; simp [hasV, List.replicate_succ, hasI], (Gd.tup (k := 0) (by rw [rep_true]; intro x hx; have := (List.mem_replicate.mp hx).2; subst this; exact Gd.bl)).mono (by decide)⟩, fun _ h => (nomatch h)⟩
theorem reachL_congr {ss : List Int} {ev ev' ns : List O} (h : ∀ o, o ∈ ev' ↔ o ∈ ev) : reachL ss ev' ns = reachL ss ev ns := by
  have : rchP ss ev' ns = rchP ss ev ns := by
    funext o
    unfold rchP
    congr 1
    funext x
    rw [decide_eq_decide]
    exact h _
  unfold reachL
  rw [this]
theorem L_reach_ev {j : Nat} {m : Mem} {ss : List Int} {v nd : D} (h : callL tab (xnT tb) (j + 3) "Group" "event" [gD ss, v] m = .ex ⟨"BadEvent", [("given", v)]⟩ m) : callL tab (xnT tb) (j + 5) "" "_law_reach_refused" [gD ss, v, nd] m = .ok (.lst [tS "event", v]) m := by
  rw [u_law_reach_refused rfl]
  unfold b_law_reach_refused
  have e : callL tab (xnT tb) (j + 4) "" "reach" [gD ss, v, nd] m = .ex ⟨"BadEvent", [("given", v)]⟩ m := by
    rw [u_reach rfl]
    unfold b_reach
    simp [e0, h]
  simp [e0, e, isX, unb]
theorem L_reach_out {j : Nat} {m : Mem} {ss : List Int} {ev os : List O} {nd d : D} {r : List D} (hs : VN ss) (he : ∀ o ∈ ev, VO ss o) (hl : ev.length ≤ 1000000) (hw : walkP nd = some (os.map oD ++ d :: r)) (ho : ∀ o ∈ os, VO ss o) (hd : niceV d = true) (hd2 : hasV ss d = false) : callL tab (xnT tb) (j + 7) "" "_law_reach_refused" [gD ss, .lst (ev.map oD), nd] m = .ok (.lst [tS "outcome", d]) m := by
  rw [u_law_reach_refused rfl]
  unfold b_law_reach_refused
  have e : callL tab (xnT tb) (j + 6) "" "reach" [gD ss, .lst (ev.map oD), nd] m = .ex ⟨"BadOutcome", [("given", d)]⟩ m := by
    rw [u_reach rfl]
    unfold b_reach
    have e1 : callL tab (xnT tb) (j + 5) "Group" "event" [gD ss, .lst (ev.map oD)] m = _ := L_event (j := j + 2) (m := m) (os := ev) hs.1 hl he (by have := hs.2; omega)
    have hh : callL tab (xnT tb) (j + 2) "Group" "has" [gD ss, d] m = .ok (.bl false) m := by rw [← hd2]; exact L_has_v hs.1 hd
    have e2 : callL tab (xnT tb) (j + 5) "Group" "total" [gD ss, nd] m = _ := L_total_bad (j := j) (m := m) hw hs.1 ho hh
    simp [e0, e1, e2]
  simp [e0, e, isX, unb]
end K11

/-! K11L -/
set_option Elab.async false
set_option linter.all false
set_option maxRecDepth 100000
set_option maxHeartbeats 1000000
namespace K11
open PySem L2 PyProof.Rows IP Gm
noncomputable abbrev gM : IP.Gl := glL tab (xnT tb) 29
def b_reachT : Ss := (.cons (.ifs (.cmp .NotEq (.call "" "reach" (.one (.loc 4) (.one (.bin .Add (.rev (.loc 5)) (.slc (.loc 5) .non (.som (.con (.int 1))))) (.one (.seq .tuple (.loc 6)) .nil))) [0, 1, 2] []) (.loc 8)) (.cons (.ret (.con (.bl false)))
    .nil) .nil)
    (.cons (.app (.call "" "reach" (.one (.loc 4) (.one (.loc 5) (.one (.loc 6) .nil))) [] []) (.meth "Group" "zero" (.loc 4) .nil [] []))
    .nil))
def b_valT : Ss := (.cons (.ifs (.cmp .NotEq (.call "" "_law_reach_refused" (.one (.loc 4) (.one (.loc 10) (.one (.lst false (.one (.loc 9) .nil)) .nil))) [] []) (.lst false (.one (.con (.str (Str.ofString "event"))) (.one (.loc 10) .nil)))) (.cons (.ret (.con (.bl false)))
    .nil) .nil)
    .nil)
def b_turn : Ss := match b_law with
  | .cons (.for_ _ _ b) _ => b
  | _ => .nil
/-- a turn of the law -/
theorem turn {m : Mem} {ns : List Int} {k : Nat} (hk : k ≤ 1) (hW : WM m) {a1 a2 a3 a4 a5 a6 a7 a8 a9 a10 : Option D} : ∃ c2 c3 c4 c5 c6 c7 c8 c9 c10 m', evSs gM (xnT tb) b_turn [some (.scr (ns.map .int)), some (.int (k : Int)), a2, a3, a4, a5, a6, a7, a8, a9, a10] m = .nx [some (.scr (ns.map .int)), some (.int (k : Int)), c2, c3, c4, c5, c6, c7, c8, c9, c10] m' ∧ WM m' := by
  obtain ⟨x, bx, tx⟩ := L_box (j := 27) (m := m) (ns := ns) (k := k) (by omega)
  generalize hr : m.length = r at tx
  generalize hm0 : m ++ [x] = m0 at tx
  have hW0 : WM m0 := by rw [← hm0]; exact hW.app bx.und
  have hx0 : m0[r]? = some x := by rw [← hm0, ← hr]; exact get_new
  obtain ⟨y1, b1, t1⟩ := L_leagues (j := 24) (N := 10000) hx0 (bx.mono (by decide)) hW0
  obtain ⟨ss, y2, hs, b2, t2⟩ := L_sizes (j := 27) (m := m0.set r y1) (N := 9000) (set_get hx0) (b1.mono (by decide))
  rw [set_same] at t2
  have hW2 : WM (m0.set r y2) := hW0.set b2.und
  have t3 := L_make (j := 27) hs hW2
  obtain ⟨ev, y3, hev, hevl, b3, t4⟩ := L_law_event (j := 27) (m := m0.set r y2) (N := 1000) (set_get hx0) hs (b2.mono (by decide))
  rw [set_same] at t4
  obtain ⟨d4, y4, d40, d41, b4, t5⟩ := L_take (j := 28) (m := m0.set r y3) (n := 4) (N := 900) (set_get hx0) (b3.mono (by decide)) (by decide) (by decide)
  obtain ⟨k4, rfl⟩ : ∃ k : Nat, d4 = k := ⟨d4.toNat, by omega⟩
  rw [set_same] at t5
  obtain ⟨yss, y5, p, b5, t6⟩ := comp_draw (g := fun (k : Nat) => D.int (k : Int)) (f := cmpB gM (.call "" "_law_pick" (.one (.loc 2) (.one (.loc 3) .nil)) [] []) (.one 7) .non [7] [some (.scr (ns.map .int)), some (.int (k : Int)), some (.ref r), some (.lst (ss.map .int)), some (gD ss), some (.lst (ev.map oD)), a6, a7, a8, a9, a10]) (r := r) (c := 20) (fun _ ys => ∃ o : O, VO ss o ∧ ys = [oD o]) (List.range k4) (fun q h m N b hb ho => by
    have := hs.1.2.1
    obtain ⟨o, y, h1, h2, h3⟩ := L_pick (j := 27) (N := N) hb hs.1 (ho.mono (by omega))
    exact ⟨[oD o], y, ⟨o, h1, rfl⟩, h2, by simp [h3]⟩) (m0.set r y4) 800 y4 (set_get hx0) (b4.mono (by simp; omega))
  rw [set_same] at t6
  have hfig : ∃ figs : List O, (∀ o ∈ figs, VO ss o) ∧ figs.length = k4 ∧ yss.flatten = figs.map oD := by
    have key : ∀ {xs : List Nat} {yss : List (List D)}, Al (fun _ ys => ∃ o : O, VO ss o ∧ ys = [oD o]) xs yss → ∃ figs : List O, (∀ o ∈ figs, VO ss o) ∧ figs.length = xs.length ∧ yss.flatten = figs.map oD := by
      intro xs yss p
      induction p with
      | nil => exact ⟨[], by simp, rfl, rfl⟩
      | cons p1 p2 ih =>
        obtain ⟨o, h1, rfl⟩ := p1
        obtain ⟨figs, h2, h3, h4⟩ := ih
        exact ⟨o :: figs, by simpa using ⟨h1, h2⟩, by simp [h3], by simp [h4]⟩
    obtain ⟨figs, h1, h2, h3⟩ := key p
    exact ⟨figs, h1, by simpa using h2, h3⟩
  obtain ⟨figs, hf, hfl, hff⟩ := hfig
  rw [hff] at t6
  have hW5 : WM (m0.set r y5) := hW0.set b5.und
  have hx5 : (m0.set r y5)[r]? = some y5 := set_get hx0
  generalize hM : m0.set r y5 = M at t6 hW5 hx5
  have t7 := L_law_reach (j := 26) (m := M) (ev := ev) hs hf (by omega)
  generalize hR : reachL ss ev figs = R at t7
  have hRl : R.length ≤ 1000 := by
    rw [← hR]
    exact Nat.le_trans (List.length_filter_le _ _) hs.2
  have hWR : WM (M ++ [MO.lst (R.map oD)]) := hW5.app (by show D.unds _ _ = true; exact unds_os)
  have hev2 : ∀ o, o ∈ ev.reverse ++ ev.take 1 ↔ o ∈ ev := fun o => by
    rw [List.mem_append, List.mem_reverse]
    exact ⟨fun h => h.elim id List.mem_of_mem_take, .inl⟩
  have hlp := forL_inv (f := forB gM (xnT tb) (.one 7) b_reachT) (fun e m' => ∃ t cs, e = [some (.scr (ns.map .int)), some (.int (k : Int)), some (.ref r), some (.lst (ss.map .int)), some (gD ss), some (.lst (ev.map oD)), some (.lst (figs.map oD)), t, some (.ref M.length), a9, a10] ∧ m' = (M ++ [MO.lst (R.map oD)]) ++ cs ∧ WM m') [.int 0, .int 1] (fun d hd e m' ⟨t, cs, he, hm, hw⟩ => by
    subst he
    have hq : m'[M.length]? = some (.lst (R.map oD)) := by rw [hm]; exact get_app get_new
    have e1 : callL tab (xnT tb) 29 "" "reach" [gD ss, .lst ((ev.map oD).reverse ++ (ev.map oD).take 1), .tup (figs.map oD)] m' = .ok (.ref m'.length) (m' ++ [.lst (R.map oD)]) := by
      have := L_reach (j := 23) (m := m') (nd := .tup (figs.map oD)) (ns := figs) (ev := ev.reverse ++ ev.take 1) rfl hs hf (by omega) (fun o h => hev o ((hev2 o).mp h)) (by simp; omega)
      rw [reachL_congr hev2, hR] at this
      simpa using this
    have e2 : callL tab (xnT tb) 29 "" "reach" [gD ss, .lst (ev.map oD), .lst (figs.map oD)] (m' ++ [MO.lst (R.map oD)]) = .ok (.ref (m' ++ [MO.lst (R.map oD)]).length) ((m' ++ [MO.lst (R.map oD)]) ++ [.lst (R.map oD)]) := by
      have := L_reach (j := 23) (m := m' ++ [MO.lst (R.map oD)]) (nd := .lst (figs.map oD)) (ns := figs) (ev := ev) rfl hs hf (by omega) hev (by omega)
      rw [hR] at this
      exact this
    have e3 : ∀ m, callL tab (xnT tb) 29 "Group" "zero" [gD ss] m = .ok (oD (zero ss)) m := fun m => L_zero (j := 28) hs.1
    have hl : R.length < sizeLine := by
      have : (1000000 : Nat) ≤ sizeLine := by decide
      omega
    have hl1 : lenOk (ev.length + min 1 ev.length) = true := k_lenOk_of (by omega)
    have c1 : cut (ev.map oD) none (some 1) = (ev.map oD).take 1 := k_cut_to (k := 1)
    have hv1 := k_vw_ref (m := m' ++ [MO.lst (R.map oD)]) (n := m'.length) get_new
    have hv2 := k_vw_ref (m := m' ++ [MO.lst (R.map oD)]) (n := M.length) (get_app hq)
    have hc := k_cmpG_ref (g := gM) (op := .NotEq) (y := .ref M.length) hv1
    have g1 := get_new (m := m' ++ [MO.lst (R.map oD)]) (c := .lst (R.map oD))
    have g2 := set_new (m := m' ++ [MO.lst (R.map oD)]) (c := .lst (R.map oD)) (c' := .lst (R.map oD ++ [oD (zero ss)]))
    refine ⟨_, (m' ++ [MO.lst (R.map oD)]) ++ [.lst (R.map oD ++ [oD (zero ss)])], ?_, some d, cs ++ [.lst (R.map oD), .lst (R.map oD ++ [oD (zero ss)])], rfl, ?_, ?_⟩
    · unfold b_reachT
      simp only [gM] at hc
      simp [arr012, c1, hl1, e1, e2, e3, hc, hv2, isL, hl, g1, g2]
    · rw [hm]
      simp
    · have h1 := hw.app (c := .lst (R.map oD)) (by show D.unds _ _ = true; exact unds_os)
      exact h1.app (by show D.unds _ _ = true; simp))
  obtain ⟨e8, m8, lpe, t8, cs, rfl, hm8, hw8⟩ := hlp [some (.scr (ns.map .int)), some (.int (k : Int)), some (.ref r), some (.lst (ss.map .int)), some (gD ss), some (.lst (ev.map oD)), some (.lst (figs.map oD)), a7, some (.ref M.length), a9, a10] (M ++ [MO.lst (R.map oD)]) ⟨a7, [], rfl, by simp, hWR⟩
  have hx8 : m8[r]? = some y5 := by rw [hm8]; exact get_app (get_app hx5)
  obtain ⟨d6, y6, d60, d61, b6, t9⟩ := L_take (j := 28) (m := m8) (n := 6) (N := 700) hx8 (b5.mono (by decide)) (by decide) (by decide)
  obtain ⟨k6, rfl⟩ : ∃ k : Nat, d6 = k := ⟨d6.toNat, by omega⟩
  have hW9 : WM (m8.set r y6) := hw8.set b6.und
  have hk6 : k6 < (odds2 ss).length := by have : (odds2 ss).length = 6 := rfl; omega
  have hb6 : (odds2 ss)[k6]? = some (odds2 ss)[k6] := List.getElem?_eq_getElem hk6
  obtain ⟨on, ohv, og⟩ := odds2_ok hs.1 _ (List.getElem_mem hk6)
  generalize (odds2 ss)[k6] = odd at hb6 on ohv og
  generalize hM9 : m8.set r y6 = M9 at t9 hW9
  have no : ∀ o : O, niceV (oD o) = true := fun o => by simp [niceV]
  have evok : PyData.strOk (Str.ofString "event") = true := by decide +kernel
  have hvals : ∀ v ∈ [D.non, .int 5, .lst [odd], .lst (ev.map oD ++ [odd]), .lst (odd :: ev.map oD), tS "0"], callL tab (xnT tb) 29 "" "_law_reach_refused" [gD ss, v, .lst [odd]] M9 = .ok (.lst [tS "event", v]) M9 ∧ eqB (.lst [tS "event", v]) (.lst [tS "event", v]) = some true := by
    have q : ∀ {v : D}, Gd 4 v → eqB (.lst [tS "event", v]) (.lst [tS "event", v]) = some true := fun {v} h =>
      (Gd.lst (k := 4) (xs := [tS "event", v]) (by intro y hy; simp at hy; rcases hy with rfl | rfl; exact (Gd.str evok).mono (by decide); exact h)).eq (by decide)
    have qe : ∀ x ∈ ev.map oD, Gd 3 x := fun x hx => by
      obtain ⟨o, _, rfl⟩ := List.mem_map.mp hx
      exact Gd.o.mono (by decide)
    have ne : ∀ x ∈ ev.map oD, niceV x = true := fun x hx => by
      obtain ⟨o, _, rfl⟩ := List.mem_map.mp hx
      exact no o
    simp only [List.forall_mem_cons]
    refine ⟨⟨L_reach_ev (j := 24) (L_event_no (j := 24) (by simp) (by simp) (by simp)), q (Gd.non.mono (by decide))⟩, ⟨L_reach_ev (j := 24) (L_event_no (j := 24) (by simp) (by simp) (by simp)), q (Gd.int.mono (by decide))⟩,
      ⟨L_reach_ev (j := 24) (L_event_bad (j := 24) hs.1 (by simp) (by simpa using on) (by simp [ohv])), q (Gd.lst (k := 3) (by simpa using og))⟩,
      ⟨L_reach_ev (j := 24) (L_event_bad (j := 24) hs.1 (by simp; omega) (by intro x hx; rcases List.mem_append.mp hx with h | h; exact ne x h; simp at h; subst h; exact on) (by simp [ohv])), q (Gd.lst (k := 3) (by intro x hx; rcases List.mem_append.mp hx with h | h; exact qe x h; simp at h; subst h; exact og))⟩,
      ⟨L_reach_ev (j := 24) (L_event_bad (j := 24) hs.1 (by simp; omega) (by intro x hx; rcases List.mem_cons.mp hx with h | h; subst h; exact on; exact ne x h) (by simp [ohv])), q (Gd.lst (k := 3) (by intro x hx; rcases List.mem_cons.mp hx with h | h; subst h; exact og; exact qe x h))⟩,
      ⟨L_reach_ev (j := 24) (L_event_no (j := 24) (by simp) (by simp) (by simp)), q ((Gd.str (by decide +kernel)).mono (by decide))⟩, fun _ h => (nomatch h)⟩
  have hlv := forL_inv (f := forB gM (xnT tb) (.one 10) b_valT) (fun e m' => ∃ t, e = [some (.scr (ns.map .int)), some (.int (k : Int)), some (.ref r), some (.lst (ss.map .int)), some (gD ss), some (.lst (ev.map oD)), some (.lst (figs.map oD)), t8, some (.ref M.length), some odd, t] ∧ m' = M9) [D.non, .int 5, .lst [odd], .lst (ev.map oD ++ [odd]), .lst (odd :: ev.map oD), tS "0"] (fun d hd e m' ⟨t, he, hm⟩ => by
    subst he
    rw [hm]
    obtain ⟨v1, v2⟩ := hvals d hd
    refine ⟨_, M9, ?_, some d, rfl, rfl⟩
    unfold b_valT
    simp [v1, v2])
  obtain ⟨e10, m10, lve, t10, he10, hm10⟩ := hlv [some (.scr (ns.map .int)), some (.int (k : Int)), some (.ref r), some (.lst (ss.map .int)), some (gD ss), some (.lst (ev.map oD)), some (.lst (figs.map oD)), t8, some (.ref M.length), some odd, a10] M9 ⟨a10, rfl, rfl⟩
  rw [hm10, he10] at lve
  clear he10 hm10
  have hlast := L_reach_out (j := 22) (m := M9) (ss := ss) (ev := ev) (os := figs.take 2) (nd := .lst ((figs.map oD).take 2 ++ [odd, .non])) (d := odd) (r := [.non]) hs hev (by omega) (by rw [List.map_take]; rfl) (fun o h => hf o (List.mem_of_mem_take h)) on ohv
  have hq : eqB (.lst [tS "outcome", odd]) (.lst [tS "outcome", odd]) = some true :=
    (Gd.lst (k := 3) (xs := [tS "outcome", odd]) (by intro y hy; simp at hy; rcases hy with rfl | rfl; exact (Gd.str (by decide +kernel)).mono (by decide); exact og)).eq (by decide)
  refine ⟨some (.ref r), some (.lst (ss.map .int)), some (gD ss), some (.lst (ev.map oD)), some (.lst (figs.map oD)), t8, some (.ref M.length), some odd, t10, M9, ?_, hW9⟩
  unfold b_turn b_law
  dsimp only
  unfold b_reachT at lpe
  unfold b_valT at lve
  rw [ss_nx (e1 := [some (.scr (ns.map .int)), some (.int (k : Int)), some (.ref r), a3, a4, a5, a6, a7, a8, a9, a10]) (m1 := m0) (by simp [tx])]
  rw [ss_nx (e1 := [some (.scr (ns.map .int)), some (.int (k : Int)), some (.ref r), a3, a4, a5, a6, a7, a8, a9, a10]) (m1 := m0.set r y1) (by simp [t1])]
  rw [ss_nx (e1 := [some (.scr (ns.map .int)), some (.int (k : Int)), some (.ref r), some (.lst (ss.map .int)), a4, a5, a6, a7, a8, a9, a10]) (m1 := m0.set r y2) (by simp [t2])]
  rw [ss_nx (e1 := [some (.scr (ns.map .int)), some (.int (k : Int)), some (.ref r), some (.lst (ss.map .int)), some (gD ss), a5, a6, a7, a8, a9, a10]) (m1 := m0.set r y2) (by simp [t3])]
  rw [ss_nx (e1 := [some (.scr (ns.map .int)), some (.int (k : Int)), some (.ref r), some (.lst (ss.map .int)), some (gD ss), some (.lst (ev.map oD)), a6, a7, a8, a9, a10]) (m1 := m0.set r y3) (by simp [t4])]
  have hrk : rngOk (k4 : Int) = true := rngOk_of (by omega) (by omega)
  have hlf : lenOk figs.length = true := k_lenOk_of (by omega)
  rw [ss_nx (e1 := [some (.scr (ns.map .int)), some (.int (k : Int)), some (.ref r), some (.lst (ss.map .int)), some (gD ss), some (.lst (ev.map oD)), some (.lst (figs.map oD)), a7, a8, a9, a10]) (m1 := M) (by
    simp [t5, hrk, rng_map, t6, hlf])]
  rw [ss_nx (e1 := [some (.scr (ns.map .int)), some (.int (k : Int)), some (.ref r), some (.lst (ss.map .int)), some (gD ss), some (.lst (ev.map oD)), some (.lst (figs.map oD)), a7, some (.ref M.length), a9, a10]) (m1 := M ++ [MO.lst (R.map oD)]) (by
    simp [t7])]
  have hr2 : rngOk 2 = true := by decide +kernel
  have hr3 : rng 0 2 = [.int 0, .int 1] := rfl
  rw [ss_nx (e1 := [some (.scr (ns.map .int)), some (.int (k : Int)), some (.ref r), some (.lst (ss.map .int)), some (gD ss), some (.lst (ev.map oD)), some (.lst (figs.map oD)), t8, some (.ref M.length), a9, a10]) (m1 := m8) (by
    simp only [gM] at lpe
    simp [hr2, hr3, lpe])]
  rw [ss_nx (e1 := [some (.scr (ns.map .int)), some (.int (k : Int)), some (.ref r), some (.lst (ss.map .int)), some (gD ss), some (.lst (ev.map oD)), some (.lst (figs.map oD)), t8, some (.ref M.length), some odd, a10]) (m1 := M9) (by
    have hsl : ss ≠ [] := hs.1.1
    have hs2 := hs.1.2.1
    have e1 : binP .Mult (.tup [.bl true]) (.int (ss.length : Int)) = some (.tup (List.replicate ss.length [D.bl true]).flatten) := by
      have h1 : 0 < ss.length := List.length_pos_iff.mpr hsl
      have h2 : (1 : Int) ≤ ss.length := by omega
      have h3 : (ss.length : Int) ≤ 1000 := by omega
      unfold binP
      simp [h2, h3]
    have e2 : [D.non, .int 5, .lst [.int 0], .tup (ss.map .int), tS "0", .tup (List.replicate ss.length [D.bl true]).flatten] = odds2 ss := rfl
    generalize hO : odds2 ss = OO at hb6 e2
    rw [r_evS_set, r_ev_sub]
    simp [e1, -List.flatten_replicate_singleton, -List.flatten_replicate_nil, t9]
    rw [e2, k_atI_nat, hb6]
    simp)]
  rw [ss_nx (e1 := [some (.scr (ns.map .int)), some (.int (k : Int)), some (.ref r), some (.lst (ss.map .int)), some (gD ss), some (.lst (ev.map oD)), some (.lst (figs.map oD)), t8, some (.ref M.length), some odd, t10]) (m1 := M9) (by
    have hq1 : lenOk (ev.length + 1) = true := k_lenOk_of (by omega)
    have hq2 : lenOk (1 + ev.length) = true := k_lenOk_of (by omega)
    simp only [gM] at lve
    simp [lve, hq1, hq2])]
  have c2 : cut (figs.map oD) none (some 2) = (figs.map oD).take 2 := k_cut_to (k := 2)
  have hl9 : lenOk (min 2 figs.length + 2) = true := k_lenOk_of (by omega)
  rw [ss_nx (e1 := [some (.scr (ns.map .int)), some (.int (k : Int)), some (.ref r), some (.lst (ss.map .int)), some (gD ss), some (.lst (ev.map oD)), some (.lst (figs.map oD)), t8, some (.ref M.length), some odd, t10]) (m1 := M9) (by
    simp [c2, hl9, hlast, hq])]
  simp
theorem main (ns : List Int) (hn : ns.length ≤ 63) (_ : ∀ z ∈ ns, Builtin.Int.intBits z ≤ 1048576) : ∃ m, callL tab (xnT tb) 30 "" "law" [.scr (ns.map D.int)] [] = .ok (.bl true) m := by
  have hW : WM [] := by unfold WM; rfl
  obtain ⟨v, hv, hv2⟩ : ∃ v : Int, (if (if (ns.length : Int) < 2 then (ns.length : Int) else 2) > 1 then (if (ns.length : Int) < 2 then (ns.length : Int) else 2) else 1) = v ∧ (v = 1 ∨ v = 2) := ⟨_, rfl, by split <;> split <;> omega⟩
  have hlp := forL_inv (f := forB gM (xnT tb) (.one 1) b_turn) (fun e m' => ∃ c1 c2 c3 c4 c5 c6 c7 c8 c9 c10, e = [some (.scr (ns.map .int)), c1, c2, c3, c4, c5, c6, c7, c8, c9, c10] ∧ WM m') (rng 0 v.toNat) (fun d hd e m' ⟨c1, c2, c3, c4, c5, c6, c7, c8, c9, c10, he, hw⟩ => by
    subst he
    rw [rng_map] at hd
    obtain ⟨k, hk, rfl⟩ := List.mem_map.mp hd
    have hk := List.mem_range.mp hk
    obtain ⟨a2, a3, a4, a5, a6, a7, a8, a9, a10, m2, h1, h2⟩ := turn (m := m') (ns := ns) (k := k) (by omega) hw (a1 := c1) (a2 := c2) (a3 := c3) (a4 := c4) (a5 := c5) (a6 := c6) (a7 := c7) (a8 := c8) (a9 := c9) (a10 := c10)
    exact ⟨_, m2, by
      rw [r_forB]
      simp only [k_bindT_one, List.set_cons_succ, List.set_cons_zero]
      exact h1, _, _, _, _, _, _, _, _, _, _, rfl, h2⟩)
  obtain ⟨e1, m1, h1, c1, c2, c3, c4, c5, c6, c7, c8, c9, c10, he, hw⟩ := hlp [some (.scr (ns.map .int)), none, none, none, none, none, none, none, none, none, none] [] ⟨_, _, _, _, _, _, _, _, _, _, rfl, hW⟩
  have hrv : rngOk v = true := rngOk_of (by omega) (by omega)
  rw [u_law rfl]
  have eb : b_law = .cons (.for_ (.one 1) (.rng1 (.bi .max2 (.one (.con (.int 1)) (.one (.bi .min2 (.one (.con (.int 2)) (.one (.bi .len (.one (.loc 0) .nil)) .nil))) .nil)))) b_turn) (.cons (.ret (.con (.bl true))) .nil) := rfl
  rw [eb]
  rw [ss_nx (e1 := e1) (m1 := m1) (by
    have hv' := hv
    simp only [gM] at h1
    simp only [e0, r_evS_for, r_evIt_rng1, r_ev_bi, r_evs_one, r_evs_nil, r_ev_con, r_ev_loc, go_K, bind_K, bindK_ok, goK_ok, List.map_cons, List.map_nil, List.cons_append, List.nil_append, List.length_cons, List.length_nil, List.getElem?_cons_zero, k_biP_len, k_biLen_scr, k_biP_min, k_biP_max, List.length_map, hv, hrv, if_true]
    exact h1)]
  rw [he]
  rcases fin_val (n := 0) (d := .bl true) (m := m1) (by intro k h; cases h) with h | h
  · exact ⟨m1, by simp [h]⟩
  · exact ⟨m1.take 0, by simp [h]⟩
end K11

/-! K11H -/
set_option Elab.async false
set_option linter.all false
set_option maxRecDepth 100000
set_option maxHeartbeats 0
namespace K11
open PySem L2 PyProof.Rows IP
abbrev Rr : PySem.W.OpenRow := PySem.W.OpenLaw.row PySem.Challenge.rw_benddraws_k11_late_and_reach
abbrev qq : Program := PySem.W.view Rr.prog [39]
abbrev hk : PySem.W.Hook := hookI 5 tb rt fn
def ob (s : PySem.W.SharedT) : Bool × He.AlD := obI 5 tb rt fn (HandSHeadRun.getT s)
theorem ob_eq (s : PySem.W.SharedT) : ob s = hk.obs s.abs := obI_eq (HandSHeadRun.getT_eq s)
def loose0 : List Str := [Str.ofString "_wall", Str.ofString "__name__", Str.ofString "DrawError", Str.ofString "BadSizes", Str.ofString "BadOutcome", Str.ofString "BadEvent", Str.ofString "BadOrder", Str.ofString "BadLeague", Str.ofString "is_integer", Str.ofString "all_outcomes", Str.ofString "Group", Str.ofString "LETTERS", Str.ofString "MOST_LETTERS", Str.ofString "is_name", Str.ofString "check_order", Str.ofString "check_league", Str.ofString "late", Str.ofString "sums_of", Str.ofString "reach", Str.ofString "_law_cell", Str.ofString "_law_box", Str.ofString "_law_take", Str.ofString "_law_sizes", Str.ofString "_law_all", Str.ofString "_law_add", Str.ofString "_law_pick", Str.ofString "_law_event", Str.ofString "_law_sum", Str.ofString "_law_late", Str.ofString "_law_choices", Str.ofString "_law_reach", Str.ofString "_law_late_refused", Str.ofString "_law_reach_refused", Str.ofString "_law_leagues"]
def loose : List Str := loose0
theorem run (w : World) : HandSHeadRun.RunEq Rr qq hk ob 3000 loose w := by
  intro os
  kernel_rfl
end K11

/-! K11Z -/
open PySem PySem.W PySem.Calls PyProof.Rows IP
set_option maxRecDepth 100000 in
set_option maxHeartbeats 0 in
theorem PySem.Challenge.cw_benddraws_k11_late_and_reach_holds : PySem.Challenge.rw_benddraws_k11_late_and_reach.Holds := by
  w_on; o_law
  refine HandSHeadRun.head_any (r := K11.Rr) (q := K11.qq) (H := K11.hk) (ob := K11.ob) (M := 3000) (loose := K11.loose) (d := HandSHeadRun.topDef K11.Rr.prog 39) (kwd := []) K11.ob_eq
    (by kernel_rfl) (fun s => by kernel_rfl) K11.run (by kernel_rfl) (by kernel_rfl) (by kernel_rfl) (by rfl) (by first | assumption | decide +kernel) (by decide +kernel) ⟨rfl, rfl, rfl, rfl, rfl, by decide +kernel⟩ ?hw ?hc
  case hw => w_witness2
  case hc => exact walk_I (l := PySem.Challenge.rw_benddraws_k11_late_and_reach) (n := 63) (J := 30) (x := K11.x_law) (f := "law") rfl (by decide) (by kernel_rfl) (by decide) K11.t_ok (by rfl) (by rfl) (by kernel_rfl) (by decide) K11.main

