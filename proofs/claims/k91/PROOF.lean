import PyProof.Rows.All
import Wide.All
import OpenK.AllK
import Wide.FinOn
import KE.KStateDown
import HandS.ForMost
import HandS.ForExc
import HandS.ExcInit
import HandS.TryMany
import HandS.Defaults
import HandS.IsInst
import HandS.FStr
import HandS.DictComp
import HandS.Wide
import HandS.Star
import HandS.ClsMeth
import HandS.Deep
import HandS.HeadEnd
import HandS.HeadHook2
import HandS.OwnEq
import HandS.TupAny
import HandS.TupMul
import HandS.Style
import HandS.TupLe
import HandS.Conv
import HandS.TupLen
import HandS.RaiseMore
import HandS.Zip
import HandS.ListEq
import KE.KEqNest
import KE.KIntText
import KE.IntTextLaws
import HandS.Text
import PyProof.Rows.TupDisplay
import PyProof.NeKinds
import HandS.More
import KE.GoesNew
import HandS.NoneIn
import HandS.Walk
import HandS.Small
import HandS.ExcField
import HandS.CallRecv
import HandS.HeadWalk
import HandS.Flow
import HandS.DictSub
import HandS.SlotsOwn
import PyProof.DictUpdate
import PyProof.DictDisplay
import HandS.Words
import HandS.EndBits
import PySem.Challenge.RW_benddraws_k91_whole_hope_from_turn_to_tu
import HandS.Head2
/-! IpA -/
set_option Elab.async false
set_option linter.all false
set_option maxRecDepth 100000
/-! IpA: deep data, a store of cells, my own expressions and statements, and what they come to. -/
namespace IP
open PySem L2

/-! ### data -/
/-- the keys of a dict: ints and texts; tuples of them -/
inductive DK where
  | k | t
  deriving DecidableEq

inductive D where
  | non | bl (b : Bool) | int (i : Int) | str (x : Str)
  | tup (xs : List D) | lst (xs : List D)
  | dic (q : DK) (kvs : List (D × D))
  | ins (c : String) (fs : List (String × D))
  | cls (c : String) | ref (n : Nat)
  /-- the script -/
  | scr (xs : List D)

/-- a cell of the store: what may change -/
inductive MO where
  | lst (xs : List D) | dic (q : DK) (kvs : List (D × D)) | ins (c : String) (fs : List (String × D)) | dead

abbrev Mem := List MO
abbrev Ev := List (Option D)
structure Exc where
  cls : String
  fs : List (String × D)

inductive Res (α : Type) where
  | ok (a : α) (m : Mem) | ex (x : Exc) (m : Mem) | no
def Res.bind {α β : Type} (r : Res α) (f : α → Mem → Res β) : Res β := match r with
  | .ok a m => f a m
  | .ex x m => .ex x m
  | .no => .no
@[simp] theorem Res.bind_ok {α β : Type} (a : α) (m : Mem) (f : α → Mem → Res β) : (Res.ok a m).bind f = f a m := rfl
@[simp] theorem Res.bind_ex {α β : Type} (x : Exc) (m : Mem) (f : α → Mem → Res β) : (Res.ex x m : Res α).bind f = .ex x m := rfl
@[simp] theorem Res.bind_no {α β : Type} (f : α → Mem → Res β) : (Res.no : Res α).bind f = .no := rfl
def opt {α : Type} (o : Option α) (m : Mem) : Res α := match o with
  | some a => .ok a m
  | none => .no
@[simp] theorem opt_some {α : Type} (a : α) (m : Mem) : opt (some a) m = .ok a m := rfl
@[simp] theorem opt_none {α : Type} (m : Mem) : opt (none : Option α) m = .no := rfl

/-- how a statement ends -/
inductive Rs where
  | nx (e : Ev) (m : Mem) | rt (d : D) (m : Mem) | bk (e : Ev) (m : Mem) | ct (e : Ev) (m : Mem) | ex (x : Exc) (e : Ev) (m : Mem) | no
def Rs.seq (r : Rs) (f : Ev → Mem → Rs) : Rs := match r with
  | .nx e m => f e m
  | r => r
@[simp] theorem Rs.seq_nx (e : Ev) (m : Mem) (f : Ev → Mem → Rs) : (Rs.nx e m).seq f = f e m := rfl
@[simp] theorem Rs.seq_rt (d : D) (m : Mem) (f : Ev → Mem → Rs) : (Rs.rt d m).seq f = .rt d m := rfl
@[simp] theorem Rs.seq_bk (e : Ev) (m : Mem) (f : Ev → Mem → Rs) : (Rs.bk e m).seq f = .bk e m := rfl
@[simp] theorem Rs.seq_ct (e : Ev) (m : Mem) (f : Ev → Mem → Rs) : (Rs.ct e m).seq f = .ct e m := rfl
@[simp] theorem Rs.seq_ex (x : Exc) (e : Ev) (m : Mem) (f : Ev → Mem → Rs) : (Rs.ex x e m).seq f = .ex x e m := rfl
@[simp] theorem Rs.seq_no (f : Ev → Mem → Rs) : Rs.no.seq f = .no := rfl
/-- behind an expression -/
def Res.go {α : Type} (r : Res α) (e : Ev) (f : α → Mem → Rs) : Rs := match r with
  | .ok a m => f a m
  | .ex x m => .ex x e m
  | .no => .no
@[simp] theorem Res.go_ok {α : Type} (a : α) (m : Mem) (e : Ev) (f : α → Mem → Rs) : (Res.ok a m).go e f = f a m := rfl
@[simp] theorem Res.go_ex {α : Type} (x : Exc) (m : Mem) (e : Ev) (f : α → Mem → Rs) : (Res.ex x m : Res α).go e f = .ex x e m := rfl
@[simp] theorem Res.go_no {α : Type} (e : Ev) (f : α → Mem → Rs) : (Res.no : Res α).go e f = .no := rfl

/-! ### plain data as PyData, == -/
mutual
def D.py : D → Option PyData
  | .non => some .none
  | .bl b => some (.bool b)
  | .int i => some (.int i)
  | .str x => some (.str x)
  | .tup xs => (D.pys xs).map .tuple
  | .lst xs => (D.pys xs).map .list
  | .dic _ _ => none
  | .ins _ _ => none
  | .cls _ => none
  | .ref _ => none
  | .scr _ => none
def D.pys : List D → Option (List PyData)
  | [] => some []
  | x :: xs => match x.py, D.pys xs with
    | some a, some r => some (a :: r)
    | _, _ => none
end
def eqB (x y : D) : Option Bool := match x.py, y.py with
  | some a, some b => if SeqAt.shaped a && SeqAt.shaped b then some (PyData.eqv a b) else none
  | _, _ => none
/-- items: the same object, or plain -/
def eqJ (x y : D) : Option Bool := match x, y with
  | .ref n, .ref k => if n = k then some true else none
  | _, _ => eqB x y
def eqIs (q : D → D → Option Bool) : List D → List D → Option Bool
  | [], [] => some true
  | x :: xs, y :: ys => match q x y, eqIs q xs ys with
    | some a, some b => some (a && b)
    | _, _ => none
  | _, _ => none
/-- .. or lists and tuples of such that are alike, so many floors -/
def eqN : Nat → D → D → Option Bool
  | 0, x, y => eqJ x y
  | k + 1, x, y => match eqJ x y with
    | some b => some b
    | none => match x, y with
      | .lst xs, .lst ys => if eqIs (eqN k) xs ys = some true then some true else none
      | .tup xs, .tup ys => if eqIs (eqN k) xs ys = some true then some true else none
      | _, _ => none
abbrev eqI (x y : D) : Option Bool := eqN 4 x y
def eqC (x y : D) : Option Bool := match eqB x y with
  | some b => some b
  | none => match x, y with
    | .lst xs, .lst ys => eqIs eqI xs ys
    | _, _ => none
def inB (x : D) (ys : List D) : Option Bool := match x.py, D.pys ys with
  | some a, some bs => if SeqAt.shaped a && SeqAt.shaped (.list bs) then some (bs.any fun z => PyData.eqv z a) else none
  | _, _ => none

def D.fl : D → Option V
  | .non => some .non
  | .bl b => some (.bl b)
  | .int i => some (.int i)
  | .str x => some (.str x)
  | _ => none
def fls : List D → Option (List V)
  | [] => some []
  | x :: xs => match x.fl, fls xs with
    | some a, some r => some (a :: r)
    | _, _ => none
/-- x in a tuple of flat things -/
def inT (x : D) (ys : List D) : Option Bool := match x.fl, fls ys with
  | some a, some bs => some (inV a bs)
  | _, _ => none
/-- .. or of plain things -/
def inU (x : D) (ys : List D) : Option Bool := match inT x ys with
  | some b => some b
  | none => inB x ys
def leTup (ns ms : List Int) : Bool := Ob.lexAt (fun j => decide (ns.getD j 0 = ms.getD j 0)) (fun j => decide (ns.getD j 0 ≤ ms.getD j 0)) (decide (ns.length ≤ ms.length)) 0 (min ns.length ms.length)

/-- what stands behind a reference -/
def vw (m : Mem) : D → D
  | .ref n => match m[n]? with
    | some (.lst xs) => .lst xs
    | some (.dic q kvs) => .dic q kvs
    | some (.ins c fs) => .ins c fs
    | _ => .ref n
  | d => d

/-! ### numbers, operators -/
def mulOk (a b : Int) : Bool := decide (a.natAbs.log2 + b.natAbs.log2 < 1000000)
def divOk (b : Int) : Bool := decide (b ≠ 0) && decide (b.natAbs.log2 < 9000)
def powOk (a b : Int) : Bool := decide (0 ≤ b) && decide (((a.natAbs.log2 : Int) + 1) * b ≤ 134217728)
def lenOk (n : Nat) : Bool := decide (n ≤ sizeLine)
def intsD : List D → Option (List Int)
  | [] => some []
  | .int i :: r => (intsD r).map (i :: ·)
  | _ :: _ => none
def binP (op : Operator) (x y : D) : Option D := match op, x, y with
  | .Add, .int a, .int b => some (.int (a + b))
  | .Add, .str a, .str b => if lenOk (a.length + b.length) then some (.str (a ++ b)) else none
  | .Add, .lst a, .lst b => if lenOk (a.length + b.length) then some (.lst (a ++ b)) else none
  | .Add, .tup a, .tup b => if lenOk (a.length + b.length) then some (.tup (a ++ b)) else none
  | .Sub, .int a, .int b => some (.int (a - b))
  | .Mult, .int a, .int b => if mulOk a b then some (.int (a * b)) else none
  | .Mult, .lst a, .int b => if decide (-(2 ^ 63) ≤ b) && decide (b < 2 ^ 63) && lenOk (a.length * b.toNat) then some (.lst (List.replicate b.toNat a).flatten) else none
  | .Mult, .tup a, .int b => if !a.isEmpty && decide (1 ≤ b) && decide (b ≤ 1000) && decide (a.length ≤ 1000) then some (.tup (List.replicate b.toNat a).flatten) else none
  | .FloorDiv, .int a, .int b => if divOk b then some (.int (a.fdiv b)) else none
  | .Mod, .int a, .int b => if b ≠ 0 then some (.int (a.fmod b)) else none
  | .Pow, .int a, .int b => if powOk a b then some (.int (a ^ b.toNat)) else none
  | _, _, _ => none

/-! ### comparisons of plain data -/
def keyD : D → Option Key
  | .int i => some (.inl i)
  | .str x => some (.inr x)
  | _ => none
def keyT : D → Option (List Key)
  | .tup (x :: xs) => (x :: xs).mapM keyD
  | _ => none
/-- a look into a dict -/
def getP (q : DK) (kvs : List (D × D)) (x : D) : Option (Option D) := match q with
  | .k => (keyD x).map fun k => (kvs.find? fun p => decide (keyD p.1 = some k)).map (·.2)
  | .t => (keyT x).map fun k => (kvs.find? fun p => decide (keyT p.1 = some k)).map (·.2)
/-- d[x] = v -/
def putP (q : DK) (kvs : List (D × D)) (x v : D) : Option (List (D × D)) := match q with
  | .k => (keyD x).map fun k => if (kvs.any fun p => decide (keyD p.1 = some k)) then kvs.map (fun p => if keyD p.1 = some k then (p.1, v) else p) else kvs ++ [(x, v)]
  | .t => (keyT x).map fun k => if (kvs.any fun p => decide (keyT p.1 = some k)) then kvs.map (fun p => if keyT p.1 = some k then (p.1, v) else p) else kvs ++ [(x, v)]
def ltP (x y : D) : Option Bool := match x, y with
  | .int a, .int b => some (decide (a < b))
  | .str a, .str b => some (decide (a.cps.toList < b.cps.toList))
  | .tup a, .tup b => match intsD a, intsD b with
    | some is, some js => some (HT.lexLt is js)
    | _, _ => none
  | _, _ => none
def cmpP (op : CmpOp) (x y : D) : Option Bool := match op with
  | .Eq => eqC x y
  | .NotEq => (eqC x y).map not
  | .Lt => ltP x y
  | .Gt => match x, y with
    | .tup _, _ => none
    | _, _ => ltP y x
  | .LtE => match x, y with
    | .int a, .int b => some (decide (a ≤ b))
    | .tup a, .tup b => match intsD a, intsD b with
      | some is, some js => some (leTup is js)
      | _, _ => none
    | _, _ => none
  | .GtE => match x, y with
    | .int a, .int b => some (decide (b ≤ a))
    | _, _ => none
  | .Is => match y with
    | .non => some (match x with | .non => true | _ => false)
    | _ => none
  | .IsNot => match y with
    | .non => some (match x with | .non => false | _ => true)
    | _ => none
  | .In => match y with
    | .lst ys => inB x ys
    | .tup ys => inU x ys
    | .str z => match x with
      | .str a => (match a.cps.toList with | [c] => some (decide (c ∈ z.cps.toList)) | _ => none)
      | _ => none
    | .dic q kvs => (getP q kvs x).map Option.isSome
    | _ => none
  | .NotIn => match y with
    | .lst ys => (inB x ys).map not
    | .tup ys => (inU x ys).map not
    | .str z => match x with
      | .str a => (match a.cps.toList with | [c] => some (!decide (c ∈ z.cps.toList)) | _ => none)
      | _ => none
    | .dic q kvs => (getP q kvs x).map fun o => !o.isSome
    | _ => none
def truth : D → Option Bool
  | .non => some false
  | .bl b => some b
  | .int i => some (i != 0)
  | .str x => if lenOk x.length then some ((x.length : Int) != 0) else none
  | .lst xs => some !xs.isEmpty
  | .tup xs => some !xs.isEmpty
  | _ => none
def subP (x i : D) : Option D := match x, i with
  | .lst xs, .int i => atI xs i
  | .tup xs, .int i => atI xs i
  | .scr xs, .int i => atI xs i
  | .str x, .int i => if lenOk x.length then (atI x.cps.toList i).map fun c => .str ⟨#[c]⟩ else none
  | .dic q kvs, i => (getP q kvs i).bind id
  | _, _ => none
def cut {α : Type} (xs : List α) (lo hi : Option Int) : List α := (xs.drop (HT.sIx xs.length 0 lo)).take (HT.sIx xs.length xs.length hi - HT.sIx xs.length 0 lo)
def slcP (x : D) (lo hi : Option Int) : Option D := match x with
  | .lst xs => some (.lst (cut xs lo hi))
  | .tup xs => some (.tup (cut xs lo hi))
  | .str x => if lenOk x.length then some (.str (cutS x lo hi)) else none
  | _ => none

/-! ### my expressions -/
inductive Ty where
  | bt (n : String) | own (c : String)
/-- built-in calls by values -/
inductive Bi where
  | len | abs | int | str | max2 | min2 | repr
/-- .. over what is walked -/
inductive Sq where
  | list (mu : Bool) | tuple | all | any | sum | dict
/-- a built-in type's method -/
inductive Bm where
  | split | join
inductive Tg where
  | one (i : Nat) | many (is : List Nat)

mutual
inductive E where
  | loc (i : Nat)
  | con (d : D)
  | gcon (x : String) (d : D)
  | bin (op : Operator) (a b : E)
  | neg (a : E)
  | nt (a : E)
  | an (a b : E)
  | orr (a b : E)
  | cmp (op : CmpOp) (a b : E)
  | cmp2 (op1 op2 : CmpOp) (a b c : E)
  | ife (c a b : E)
  | tup (es : Es)
  | lst (mu : Bool) (es : Es)
  | dic (q : DK) (mu : Bool) (kvs : Kv)
  | comp (mu : Bool) (elt : E) (tg : Tg) (it : It) (cnd : Oe) (own : List Nat)
  | comp2 (mu : Bool) (elt : E) (tg : Tg) (it : It) (tg2 : Tg) (it2 : It) (cnd : Oe) (own : List Nat)
  | sub (a i : E)
  | slc (a : E) (lo hi : Oe)
  | rev (a : E)
  | att (a : E) (f : String)
  | exf (f : String)
  | call (c f : String) (es : Es) (ar : List Nat) (dv : List D)
  | meth (c m : String) (o : E) (es : Es) (ar : List Nat) (dv : List D)
  | make (mu : Bool) (c : String) (es : Es) (ar : List Nat) (dv : List D)
  | bi (b : Bi) (es : Es)
  | seq (t : Sq) (e : E)
  | bm (b : Bm) (o a : E)
  | isi (a : E) (ts : List Ty)
  | fst (es : Es)
  | frz (a : E)
  | dup (a k v : E)
inductive Es where
  | nil
  | one (e : E) (r : Es)
  | star (e : E) (r : Es)
inductive Kv where
  | nil
  | cons (k v : E) (r : Kv)
inductive Oe where
  | non
  | som (e : E)
inductive It where
  | seq (e : E) | rng1 (a : E) | rng2 (a b : E) | rng3 (a b c : E) | enum (e : E) | zip (a b : E) | items (e : E) | vals (e : E)
end

mutual
inductive S where
  | expr (e : E)
  | set (i : Nat) (e : E)
  | unp (is : List Nat) (e : E)
  | par (i j : Nat) (a b : E)
  | fld (o : E) (f : String) (e : E)
  | sub (o i e : E)
  | app (o e : E)
  | clr (o : E)
  | ifs (c : E) (t u : Ss)
  | for_ (tg : Tg) (it : It) (b : Ss)
  | wh (c : E) (b : Ss)
  | ret (e : E)
  | ret0
  | rais (c : String) (es : Es)
  | try_ (b : Ss) (hs : Hs)
  | pass | brk | cnt
inductive Ss where
  | nil
  | cons (s : S) (r : Ss)
inductive Hs where
  | nil
  | cons (c : String) (slot : Option Nat) (b : Ss) (r : Hs)
end
/-! ### references -/
mutual
def D.und (n : Nat) : D → Bool
  | .ref k => decide (k < n)
  | .tup xs => D.unds n xs
  | .lst xs => D.unds n xs
  | .scr xs => D.unds n xs
  | .dic _ kvs => D.undK n kvs
  | .ins _ fs => D.undF n fs
  | _ => true
def D.unds (n : Nat) : List D → Bool
  | [] => true
  | x :: xs => x.und n && D.unds n xs
def D.undK (n : Nat) : List (D × D) → Bool
  | [] => true
  | (x, y) :: xs => x.und n && (y.und n && D.undK n xs)
def D.undF (n : Nat) : List (String × D) → Bool
  | [] => true
  | (_, y) :: xs => y.und n && D.undF n xs
end
def MO.und (n : Nat) : MO → Bool
  | .lst xs => D.unds n xs
  | .dic _ kvs => D.undK n kvs
  | .ins _ fs => D.undF n fs
  | .dead => true
def allB (n : Nat) : Mem → Bool
  | [] => true
  | c :: r => c.und n && allB n r
/-- what a def leaves: cells of its own that nobody holds are let go -/
def fin (n : Nat) (d : D) (m : Mem) : D × Mem :=
  if m.length ≤ n then (d, m)
  else if d.und n && allB n (m.take n) then (d, m.take n)
  else match d with
    | .ref k => match m[k]? with
      | some c => if decide (n ≤ k) && (c.und n && allB n (m.take n)) then (.ref n, m.take n ++ [c]) else (d, m)
      | none => (d, m)
    | _ => (d, m)
def finX (n : Nat) (x : Exc) (m : Mem) : Mem := if m.length ≤ n then m else if D.undF n x.fs && allB n (m.take n) then m.take n else m

/-! ### targets, walks -/
def wipeE (e : Ev) : List Nat → Ev
  | [] => e
  | v :: vs => (wipeE e vs).set v none
def setAll : List Nat → List D → Ev → Option Ev
  | [], [], e => some e
  | i :: is, d :: ds, e => setAll is ds (e.set i (some d))
  | _, _, _ => none
def bindT (tg : Tg) (d : D) (e : Ev) : Option Ev := match tg with
  | .one i => some (e.set i (some d))
  | .many is => match d with
    | .tup xs => setAll is xs e
    | .lst xs => setAll is xs e
    | _ => none
def tgL : Tg → List Nat
  | .one i => [i]
  | .many is => is
def compL (f : D → Mem → Res (List D)) : List D → Mem → Res (List D)
  | [], m => .ok [] m
  | d :: ds, m => match f d m with
    | .ok y m1 => match compL f ds m1 with
      | .ok r m2 => .ok (y ++ r) m2
      | _ => .no
    | _ => .no
def forL (f : D → Ev → Mem → Rs) : List D → Ev → Mem → Rs
  | [], e, m => .nx e m
  | d :: ds, e, m => match f d e m with
    | .nx e1 m1 => forL f ds e1 m1
    | .ct e1 m1 => forL f ds e1 m1
    | .bk e1 m1 => .nx e1 m1
    | r => r
/-- what is walked: what comes, and the cells that stand meanwhile -/
structure Wl where
  xs : List D
  ws : List (Nat × MO)
def Wl.of (xs : List D) : Wl := ⟨xs, []⟩
def Wl.ok (w : Wl) (m : Mem) : Prop := ∀ p ∈ w.ws, m[p.1]? = some p.2
open Classical in
noncomputable def Wl.gd {α : Type} (w : Wl) (m : Mem) (r no : α) : α := if w.ok m then r else no
noncomputable def compW (w : Wl) (f : D → Mem → Res (List D)) : List D → Mem → Res (List D)
  | [], m => w.gd m (.ok [] m) .no
  | d :: ds, m => w.gd m (match f d m with
    | .ok y m1 => match compW w f ds m1 with
      | .ok r m2 => .ok (y ++ r) m2
      | _ => .no
    | _ => .no) .no
noncomputable def forW (w : Wl) (f : D → Ev → Mem → Rs) : List D → Ev → Mem → Rs
  | [], e, m => w.gd m (.nx e m) .no
  | d :: ds, e, m => w.gd m (match f d e m with
    | .nx e1 m1 => forW w f ds e1 m1
    | .ct e1 m1 => forW w f ds e1 m1
    | .bk e1 m1 => .nx e1 m1
    | r => r) .no
theorem Wl.ok_nil {xs : List D} {m : Mem} : Wl.ok ⟨xs, []⟩ m := fun _ h => by cases h
theorem Wl.gd_pos {α : Type} {w : Wl} {m : Mem} {r no : α} (h : w.ok m) : w.gd m r no = r := if_pos h
theorem Wl.gd_neg {α : Type} {w : Wl} {m : Mem} {r no : α} (h : ¬ w.ok m) : w.gd m r no = no := if_neg h
theorem Wl.gd_ne {α : Type} {w : Wl} {m : Mem} {r no : α} (h : w.gd m r no ≠ no) : w.ok m := Classical.byContradiction fun q => h (Wl.gd_neg q)
theorem compW_nil {xs : List D} {f : D → Mem → Res (List D)} : ∀ (ds : List D) (m : Mem), compW ⟨xs, []⟩ f ds m = compL f ds m
  | [], m => by rw [compW, compL, Wl.gd_pos Wl.ok_nil]
  | d :: ds, m => by
    rw [compW, compL, Wl.gd_pos Wl.ok_nil]
    cases f d m with
    | ok y m1 => dsimp only; rw [compW_nil ds m1]
    | ex x m1 => rfl
    | no => rfl
theorem forW_nil {xs : List D} {f : D → Ev → Mem → Rs} : ∀ (ds : List D) (e : Ev) (m : Mem), forW ⟨xs, []⟩ f ds e m = forL f ds e m
  | [], e, m => by rw [forW, forL, Wl.gd_pos Wl.ok_nil]
  | d :: ds, e, m => by
    rw [forW, forL, Wl.gd_pos Wl.ok_nil]
    cases f d e m with
    | nx e1 m1 => exact forW_nil ds e1 m1
    | ct e1 m1 => exact forW_nil ds e1 m1
    | _ => rfl
/-- n turns at most -/
def whN (c : Ev → Mem → Res Bool) (f : Ev → Mem → Rs) : Nat → Ev → Mem → Option Rs
  | 0, _, _ => none
  | n + 1, e, m => match c e m with
    | .ok true m1 => match f e m1 with
      | .nx e2 m2 => whN c f n e2 m2
      | .ct e2 m2 => whN c f n e2 m2
      | .bk e2 m2 => some (.nx e2 m2)
      | r => some r
    | .ok false m1 => some (.nx e m1)
    | .ex x m1 => some (.ex x e m1)
    | .no => some .no
open Classical in
noncomputable def whL (c : Ev → Mem → Res Bool) (f : Ev → Mem → Rs) (e : Ev) (m : Mem) : Rs :=
  if h : ∃ n r, whN c f n e m = some r then (Classical.choose_spec h).choose else .no

/-! ### what is around -/
structure Gl where
  call : String → String → List D → Mem → Res D
  has : String → String → Bool
  cur : Option Exc
def Gl.hot (g : Gl) (x : Exc) : Gl := { g with cur := some x }
def arr {α : Type} (ar : List Nat) (vs : List α) : Option (List α) := match ar with
  | [] => some vs
  | _ => ar.mapM fun i => vs[i]?

def walkP (m : Mem) (d : D) : Option Wl := match d with
  | .lst xs => some (.of xs)
  | .tup xs => some (.of xs)
  | .scr xs => some (.of xs)
  | .str z => some (.of (z.cps.toList.map fun c => .str ⟨#[c]⟩))
  | .ref n => match m[n]? with
    | some (.lst xs) => some ⟨xs, [(n, .lst xs)]⟩
    | _ => none
  | _ => none
def seqP (m : Mem) (d : D) : Option Wl := match d with
  | .lst xs => some (.of xs)
  | .tup xs => some (.of xs)
  | .ref n => match m[n]? with
    | some (.lst xs) => some ⟨xs, [(n, .lst xs)]⟩
    | _ => none
  | _ => none
def rngOk (i : Int) : Bool := decide (-(2 ^ 62) ≤ i) && decide (i < 2 ^ 62)
def rng (lo : Int) (n : Nat) : List D := (List.range n).map fun (k : Nat) => D.int (lo + (k : Int))
def rngDown (hi : Int) (n : Nat) : List D := (List.range n).map fun (k : Nat) => D.int (hi - (k : Int))
def newL (mu : Bool) (xs : List D) (m : Mem) : Res D := if lenOk xs.length then (if mu then .ok (.ref m.length) (m ++ [.lst xs]) else .ok (.lst xs) m) else .no
def frzD (n : Nat) (d : D) (m : Mem) : Res D := match d with
  | .ref k => if decide (k = n) && (decide (m.length = n + 1) && allB n (m.take n)) then (match m[n]? with
    | some (.lst xs) => if D.unds n xs then .ok (.lst xs) (m.take n) else .no
    | some (.dic q xs) => if D.undK n xs then .ok (.dic q xs) (m.take n) else .no
    | _ => .no) else .no
  | d => .ok d m
def isTy (m : Mem) (d : D) : Ty → Option Bool
  | .bt n => match vw m d with
    | .non => some false
    | .bl _ => some (n == "bool" || n == "int")
    | .int _ => some (n == "int")
    | .str _ => some (n == "str")
    | .lst _ => some (n == "list")
    | .scr _ => none
    | .tup _ => some (n == "tuple")
    | .dic _ _ => some (n == "dict")
    | .ins _ _ => some false
    | _ => none
  | .own c => match vw m d with
    | .ins c' _ => some (c == c')
    | .cls _ => none
    | .scr _ => none
    | .ref _ => none
    | _ => some false
def isAny (m : Mem) (d : D) : List Ty → Option Bool
  | [] => some false
  | t :: ts => match isTy m d t, isAny m d ts with
    | some a, some b => some (a || b)
    | _, _ => none
def bools : List D → Option (List Bool)
  | [] => some []
  | .bl b :: r => (bools r).map (b :: ·)
  | _ :: _ => none
def strsD : List D → Option (List Str)
  | [] => some []
  | .str x :: r => (strsD r).map (x :: ·)
  | _ :: _ => none
def intText (i : Int) : Option Str := if decide (i.natAbs.log2 < 1920) then some (toString i) else none
def biLen (g : Gl) : List D → Mem → Res D
  | [x], m => match vw m x with
    | .lst xs => .ok (.int xs.length) m
    | .tup xs => .ok (.int xs.length) m
    | .scr xs => .ok (.int xs.length) m
    | .dic _ xs => .ok (.int xs.length) m
    | .str z => if lenOk z.length then .ok (.int z.length) m else .no
    | .ins c _ => if g.has c "__len__" then (g.call c "__len__" [x] m).bind fun d m1 => (match d with | .int i => if decide (0 ≤ i) && decide (i < 2 ^ 63) then .ok (.int i) m1 else .no | _ => .no) else .no
    | _ => .no
  | _, _ => .no
def biAbs : List D → Mem → Res D
  | [.int i], m => .ok (.int (if i < 0 then -i else i)) m
  | _, _ => .no
def biInt : List D → Mem → Res D
  | [.int i], m => .ok (.int i) m
  | [.bl b], m => .ok (.int (if b then 1 else 0)) m
  | [.str x], m => (match PySem.intText? x with
    | some n => if decide (x.length ≤ 640) then .ok (.int n) m else .no
    | none => .no)
  | _, _ => .no
def biStr : List D → Mem → Res D
  | [.int i], m => opt ((intText i).map .str) m
  | [.str x], m => .ok (.str x) m
  | _, _ => .no
def biMax : List D → Mem → Res D
  | [.int i, .int j], m => .ok (.int (if j > i then j else i)) m
  | _, _ => .no
def biMin : List D → Mem → Res D
  | [.int i, .int j], m => .ok (.int (if j < i then j else i)) m
  | _, _ => .no
def biRepr : List D → Mem → Res D
  | [.int i], m => opt ((intText i).map .str) m
  | _, _ => .no
def biP (g : Gl) (b : Bi) (vs : List D) (m : Mem) : Res D := match b with
  | .len => biLen g vs m
  | .abs => biAbs vs m
  | .int => biInt vs m
  | .str => biStr vs m
  | .max2 => biMax vs m
  | .min2 => biMin vs m
  | .repr => biRepr vs m
def newM (mu : Bool) (xs : List D) (m : Mem) : Res D := if mu then .ok (.ref m.length) (m ++ [.lst xs]) else .ok (.lst xs) m
def sqP (t : Sq) (x : D) (m : Mem) : Res D := match t with
  | .list mu => match x with
    | .lst xs => newM mu xs m
    | .tup xs => newM mu xs m
    | .scr xs => newM mu xs m
    | _ => .no
  | .tuple => match x with
    | .lst xs => .ok (.tup xs) m
    | .tup xs => .ok (.tup xs) m
    | _ => .no
  | .all => match x with
    | .lst xs => opt ((bools xs).map fun bs => .bl (bs.all id)) m
    | _ => .no
  | .any => match x with
    | .lst xs => opt ((bools xs).map fun bs => .bl (bs.any id)) m
    | _ => .no
  | .sum => match x with
    | .lst xs => opt ((intsD xs).map fun is => .int is.sum) m
    | _ => .no
  | .dict => match x with
    | .dic .k kvs => .ok (.ref m.length) (m ++ [.dic .k kvs])
    | _ => .no
def joinR (a : Str) (xs : List D) (m : Mem) : Res D := match strsD xs with
  | some ys => if decide ((ys.map (·.length)).sum + ys.length * a.length ≤ 16777216) then .ok (.str (Txt.join a ys)) m else .no
  | none => .no
def bmP (b : Bm) (a : Str) (y : D) (m : Mem) : Res D := match b with
  | .split => (match y with
    | .str c => if !(c.length == 0) && decide (a.length + 2 ≤ sizeLine) then .ok (.lst ((Txt.split a c).map .str)) m else .no
    | _ => .no)
  | .join => (match vw m y with
    | .lst xs => joinR a xs m
    | .tup xs => joinR a xs m
    | _ => .no)

/-- what may stand on the right of an own operator -/
def nzB : D → Bool
  | .cls _ => false
  | .ref _ => false
  | .scr _ => false
  | _ => true
def arB (c : String) : D → Bool
  | .int _ => true
  | .ins c' _ => c' == c
  | _ => false
def blR (d : D) (m : Mem) : Res Bool := match d with
  | .bl b => .ok b m
  | _ => .no
/-- a comparison -/
def cmpG (g : Gl) (op : CmpOp) (x y : D) (m : Mem) : Res Bool := match vw m x with
  | .ins c _ => match op with
    | .Eq => if g.has c "__eq__" && (g.cur.isNone && nzB (vw m y)) then (g.call c "__eq__" [x, y] m).bind blR else .no
    | .NotEq => if g.has c "__eq__" && (g.cur.isNone && nzB (vw m y)) then (g.call c "__eq__" [x, y] m).bind fun d m1 => (blR d m1).bind fun b m2 => .ok (!b) m2 else .no
    | .Lt => if g.has c "__lt__" && (g.cur.isNone && nzB (vw m y)) then (g.call c "__lt__" [x, y] m).bind blR else .no
    | .LtE => if g.has c "__le__" && (g.cur.isNone && nzB (vw m y)) then (g.call c "__le__" [x, y] m).bind blR else .no
    | .Is => opt (cmpP .Is (.ins c []) y) m
    | .IsNot => opt (cmpP .IsNot (.ins c []) y) m
    | _ => .no
  | x' => opt (cmpP op x' (vw m y)) m
def dunder : Operator → Option String
  | .Add => some "__add__"
  | .Sub => some "__sub__"
  | .Mult => some "__mul__"
  | _ => none
def binG (g : Gl) (op : Operator) (x y : D) (m : Mem) : Res D := match vw m x with
  | .ins c _ => match dunder op with
    | some nm => if g.has c nm && (g.cur.isNone && arB c (vw m y)) then g.call c nm [x, y] m else .no
    | none => .no
  | x' => opt (binP op x' (vw m y)) m
def putD (f : String) (d : D) : List (String × D) → List (String × D)
  | [] => [(f, d)]
  | (g, x) :: r => if g = f then (g, d) :: r else (g, x) :: putD f d r
/-- a dict display's keys: all ints or texts, no two alike -/
def keysOk (ps : List (D × D)) : Bool := match ps.mapM fun p => keyD p.1 with
  | some ks => decide ks.Nodup
  | none => false
def isL : Option MO → Bool
  | some (.lst _) => true
  | _ => false
def attG (x : D) (f : String) (m : Mem) : Option D := match vw m x with
  | .ins _ fs => fs.lookup f
  | _ => none
/-- C(..) -/
def makeG (g : Gl) (mu : Bool) (c : String) (vs : List D) (m : Mem) : Res D :=
  if g.cur.isNone then (g.call c "__init__" (.ref m.length :: vs) (m ++ [.ins c []])).bind fun d m1 => (match d with
    | .non => if mu then .ok (.ref m.length) m1 else (match m1[m.length]? with
      | some (.ins c' fs) => if c' == c && (decide (m1.length = m.length + 1) && (D.undF m.length fs && allB m.length (m1.take m.length))) then .ok (.ins c fs) (m1.take m.length) else .no
      | _ => .no)
    | _ => .no)
  else .no

/-- not the cell n itself -/
def nrfD (n : Nat) : D → Bool
  | .ref k => decide (k ≠ n)
  | _ => true
def Kv.isNil : Kv → Bool
  | .nil => true
  | .cons _ _ _ => false
mutual
noncomputable def ev (g : Gl) : E → Ev → Mem → Res D
  | .loc i, e, m => match e[i]? with
    | some (some d) => .ok d m
    | _ => .no
  | .con d, _, m => .ok d m
  | .gcon _ d, _, m => .ok d m
  | .bin op a b, e, m => (ev g a e m).bind fun x m1 => (ev g b e m1).bind fun y m2 => binG g op x y m2
  | .neg a, e, m => (ev g a e m).bind fun x m1 => (match vw m1 x with
    | .int i => .ok (.int (-i)) m1
    | .ins c _ => if g.has c "__neg__" && g.cur.isNone then g.call c "__neg__" [x] m1 else .no
    | _ => .no)
  | .nt a, e, m => (ev g a e m).bind fun x m1 => opt ((truth (vw m1 x)).map fun b => .bl (!b)) m1
  | .an a b, e, m => (ev g a e m).bind fun x m1 => (match x with
    | .bl true => ev g b e m1
    | .bl false => .ok (.bl false) m1
    | _ => .no)
  | .orr a b, e, m => (ev g a e m).bind fun x m1 => (match x with
    | .bl true => .ok (.bl true) m1
    | .bl false => ev g b e m1
    | _ => .no)
  | .cmp op a b, e, m => (ev g a e m).bind fun x m1 => (ev g b e m1).bind fun y m2 => (cmpG g op x y m2).bind fun b m3 => .ok (.bl b) m3
  | .cmp2 op1 op2 a b c, e, m => (ev g a e m).bind fun x m1 => (ev g b e m1).bind fun y m2 => (cmpG g op1 x y m2).bind fun r m3 => (match r with
    | true => (ev g c e m3).bind fun z m4 => (cmpG g op2 y z m4).bind fun b m5 => .ok (.bl b) m5
    | false => .ok (.bl false) m3)
  | .ife c a b, e, m => (evT g c e m).bind fun t m1 => (match t with
    | true => ev g a e m1
    | false => ev g b e m1)
  | .tup es, e, m => (evs g es e m).bind fun xs m1 => if lenOk xs.length then .ok (.tup xs) m1 else .no
  | .lst mu es, e, m => (evs g es e m).bind fun xs m1 => newL mu xs m1
  | .dic q mu kvs, e, m => (match q with
    | .k => if mu then (evK g kvs e (m ++ [.dic .k []])).bind fun ps m1 => (match m1[m.length]? with
      | some (.dic .k []) => if decide (ps.length ≤ 15) && keysOk ps then .ok (.ref m.length) (m1.set m.length (.dic .k ps)) else .no
      | _ => .no) else .no
    | .t => if mu then (match kvs.isNil with
      | true => .ok (.ref m.length) (m ++ [.dic .t []])
      | false => (evK g kvs e (m ++ [.dic .t []])).bind fun ps m1 => (match m1[m.length]?, ps with
        | some (.dic .t []), [p] => if (keyT p.1).isSome then .ok (.ref m.length) (m1.set m.length (.dic .t [p])) else .no
        | _, _ => .no)) else .no)
  | .comp mu elt tg it cnd own, e, m => if g.cur.isNone then (evIt g it e m).bind fun w m1 =>
      (compW w (fun d m2 => match bindT tg d (wipeE e own) with
        | some e1 => (evO g cnd e1 m2).bind fun b m3 => (match b with
          | true => (ev g elt e1 m3).bind fun y m4 => .ok [y] m4
          | false => .ok [] m3)
        | none => .no) w.xs m1).bind fun ys m2 => newL mu ys m2 else .no
  | .comp2 mu elt tg it tg2 it2 cnd own, e, m => if g.cur.isNone then (evIt g it e m).bind fun w m1 =>
      (compW w (fun d m2 => match bindT tg d (wipeE e own) with
        | some e1 => (evIt g it2 e1 m2).bind fun z m3 => compW z (fun d2 m4 => match bindT tg2 d2 (wipeE e1 (tgL tg2)) with
          | some e2 => (evO g cnd e2 m4).bind fun b m5 => (match b with
            | true => (ev g elt e2 m5).bind fun y m6 => .ok [y] m6
            | false => .ok [] m5)
          | none => .no) z.xs m3
        | none => .no) w.xs m1).bind fun ys m2 => newL mu ys m2 else .no
  | .sub a i, e, m => (ev g a e m).bind fun x m1 => (ev g i e m1).bind fun y m2 => opt (subP (vw m2 x) y) m2
  | .slc a lo hi, e, m => (ev g a e m).bind fun x m1 => (evI g lo e m1).bind fun l m2 => (evI g hi e m2).bind fun h m3 => opt (slcP (vw m3 x) l h) m3
  | .rev a, e, m => (ev g a e m).bind fun x m1 => (match vw m1 x with
    | .lst xs => .ok (.lst xs.reverse) m1
    | _ => .no)
  | .att a f, e, m => (ev g a e m).bind fun x m1 => opt (attG x f m1) m1
  | .exf f, _, m => match g.cur with
    | some x => opt (x.fs.lookup f) m
    | none => .no
  | .call c f es ar dv, e, m => if g.cur.isNone then (evs g es e m).bind fun vs m1 => (match arr ar (vs ++ dv) with
    | some as => g.call c f as m1
    | none => .no) else .no
  | .meth c f o es ar dv, e, m => if g.cur.isNone then (ev g o e m).bind fun x m1 => (match vw m1 x with
    | .ins c' fs => if c' == c && (fs.lookup f).isNone then (evs g es e m1).bind fun vs m2 => (match arr ar (vs ++ dv) with
      | some as => g.call c f (x :: as) m2
      | none => .no) else .no
    | _ => .no) else .no
  | .make mu c es ar dv, e, m => if g.cur.isNone then (evs g es e m).bind fun vs m1 => (match arr ar (vs ++ dv) with
    | some as => makeG g mu c as m1
    | none => .no) else .no
  | .bi b es, e, m => if g.cur.isNone then (evs g es e m).bind fun vs m1 => biP g b vs m1 else .no
  | .seq t a, e, m => if g.cur.isNone then (ev g a e m).bind fun x m1 => sqP t (vw m1 x) m1 else .no
  | .bm b o a, e, m => (ev g o e m).bind fun x m1 => (match x with
    | .str z => (ev g a e m1).bind fun y m2 => bmP b z y m2
    | _ => .no)
  | .isi a ts, e, m => (ev g a e m).bind fun x m1 => opt ((isAny m1 x ts).map .bl) m1
  | .fst _, _, _ => .no
  | .frz a, e, m => (ev g a e m).bind fun x m1 => frzD m.length x m1
  | .dup a k v, e, m => (ev g a e (m ++ [.dic .k []])).bind fun x m1 => (match vw m1 x, m1[m.length]? with
    | .dic .k kvs, some (.dic .k []) => if decide (kvs.length < sizeLine) && nrfD m.length x then (ev g k e (m1.set m.length (.dic .k kvs))).bind fun y m2 => (ev g v e m2).bind fun z m3 => (match m3[m.length]? with
      | some (.dic .k ws) => if decide (ws.length < sizeLine) then (match putP .k ws y z with
        | some ws' => .ok (.ref m.length) (m3.set m.length (.dic .k ws'))
        | none => .no) else .no
      | _ => .no) else .no
    | _, _ => .no)
noncomputable def evs (g : Gl) : Es → Ev → Mem → Res (List D)
  | .nil, _, m => .ok [] m
  | .one a r, e, m => (ev g a e m).bind fun x m1 => (evs g r e m1).bind fun xs m2 => .ok (x :: xs) m2
  | .star a r, e, m => (ev g a e m).bind fun x m1 => (match vw m1 x with
    | .lst ys => (evs g r e m1).bind fun xs m2 => .ok (ys ++ xs) m2
    | .tup ys => (evs g r e m1).bind fun xs m2 => .ok (ys ++ xs) m2
    | _ => .no)
noncomputable def evK (g : Gl) : Kv → Ev → Mem → Res (List (D × D))
  | .nil, _, m => .ok [] m
  | .cons k v r, e, m => (ev g k e m).bind fun x m1 => (ev g v e m1).bind fun y m2 => (evK g r e m2).bind fun ps m3 => .ok ((x, y) :: ps) m3
noncomputable def evT (g : Gl) : E → Ev → Mem → Res Bool
  | .nt a, e, m => (evT g a e m).bind fun b m1 => .ok (!b) m1
  | .an a b, e, m => (evT g a e m).bind fun t m1 => (match t with
    | true => evT g b e m1
    | false => .ok false m1)
  | .orr a b, e, m => (evT g a e m).bind fun t m1 => (match t with
    | true => .ok true m1
    | false => evT g b e m1)
  | a, e, m => (ev g a e m).bind fun x m1 => opt (truth (vw m1 x)) m1
noncomputable def evO (g : Gl) : Oe → Ev → Mem → Res Bool
  | .non, _, m => .ok true m
  | .som a, e, m => evT g a e m
noncomputable def evI (g : Gl) : Oe → Ev → Mem → Res (Option Int)
  | .non, _, m => .ok none m
  | .som a, e, m => (ev g a e m).bind fun x m1 => (match x with
    | .int i => .ok (some i) m1
    | _ => .no)
noncomputable def evIt (g : Gl) : It → Ev → Mem → Res Wl
  | .seq a, e, m => (ev g a e m).bind fun x m1 => opt (walkP m1 x) m1
  | .rng1 a, e, m => (ev g a e m).bind fun x m1 => (match x with
    | .int j => if rngOk j then .ok (.of (rng 0 j.toNat)) m1 else .no
    | _ => .no)
  | .rng2 a b, e, m => (ev g a e m).bind fun x m1 => (ev g b e m1).bind fun y m2 => (match x, y with
    | .int i, .int j => if rngOk i && rngOk j then .ok (.of (rng i (j - i).toNat)) m2 else .no
    | _, _ => .no)
  | .rng3 a b c, e, m => (ev g a e m).bind fun x m1 => (ev g b e m1).bind fun y m2 => (ev g c e m2).bind fun z m3 => (match x, y, z with
    | .int i, .int j, .int k => if rngOk i && (rngOk j && decide (k = -1)) then .ok (.of (rngDown i (i - j).toNat)) m3 else .no
    | _, _, _ => .no)
  | .enum a, e, m => (ev g a e m).bind fun x m1 => opt ((seqP m1 x).map fun w => ⟨w.xs.zipIdx.map fun p => .tup [.int (p.2 : Int), p.1], w.ws⟩) m1
  | .zip a b, e, m => (ev g a e m).bind fun x m1 => (ev g b e m1).bind fun y m2 => (match seqP m2 x, seqP m2 y with
    | some w, some z => .ok ⟨List.zipWith (fun p q => .tup [p, q]) w.xs z.xs, w.ws ++ z.ws⟩ m2
    | _, _ => .no)
  | .items a, e, m => (ev g a e m).bind fun x m1 => (match x with
    | .dic _ kvs => .ok (.of (kvs.map fun p => .tup [p.1, p.2])) m1
    | _ => .no)
  | .vals a, e, m => (ev g a e m).bind fun x m1 => (match x with
    | .dic _ kvs => .ok (.of (kvs.map fun p => p.2)) m1
    | _ => .no)
end

/-- the classes that an except clause takes -/
def isX (cls c : String) : Bool := cls == c || (c == "DrawError" || c == "ValueError")
/-- behind an except suite: its name goes -/
def unb (o : Option Nat) (r : Rs) : Rs := match o with
  | some i => (match r with
    | .nx e1 m1 => .nx (e1.set i none) m1
    | .bk e1 m1 => .bk (e1.set i none) m1
    | .ct e1 m1 => .ct (e1.set i none) m1
    | .ex _ _ _ => .no
    | r => r)
  | none => (match r with
    | .ex _ _ _ => .no
    | r => r)
/-- an exception of one's own, by its class: the names of its fields -/
structure GS extends Gl where
  exn : String → Option (List String)

mutual
noncomputable def evS (g : Gl) (xn : String → Option (List String)) : S → Ev → Mem → Rs
  | .expr a, e, m => (ev g a e m).go e fun _ m1 => .nx e m1
  | .set i a, e, m => (ev g a e m).go e fun x m1 => .nx (e.set i (some x)) m1
  | .unp is a, e, m => if g.cur.isNone then (ev g a e m).go e fun x m1 => (match bindT (.many is) x e with
    | some e1 => .nx e1 m1
    | none => .no) else .no
  | .par i j a b, e, m => if g.cur.isNone then (ev g a e m).go e fun x m1 => (ev g b e m1).go e fun y m2 => .nx ((e.set i (some x)).set j (some y)) m2 else .no
  | .fld o f a, e, m => (ev g a e m).go e fun x m1 => (ev g o e m1).go e fun y m2 => (match y with
    | .ref n => (match m2[n]? with
      | some (.ins c fs) => if decide (fs.length < 1000) then .nx e (m2.set n (.ins c (putD f x fs))) else .no
      | _ => .no)
    | _ => .no)
  | .sub o i a, e, m => (ev g a e m).go e fun x m1 => (ev g o e m1).go e fun y m2 => (ev g i e m2).go e fun z m3 => (match y with
    | .ref n => (match m3[n]?, z with
      | some (.lst xs), .int k => (match ixN xs.length k with
        | some j => .nx e (m3.set n (.lst (xs.set j x)))
        | none => .no)
      | some (.dic q kvs), z => if decide (kvs.length < sizeLine) then (match putP q kvs z x with
        | some kvs' => .nx e (m3.set n (.dic q kvs'))
        | none => .no) else .no
      | _, _ => .no)
    | _ => .no)
  | .clr o, e, m => (ev g o e m).go e fun y m1 => (match y with
    | .ref n => (match m1[n]? with
      | some (.lst _) => .nx e (m1.set n (.lst []))
      | _ => .no)
    | _ => .no)
  | .app o a, e, m => (ev g o e m).go e fun y m1 => (match y with
    | .ref n => if isL m1[n]? then (ev g a e m1).go e fun x m2 => (match m2[n]? with
      | some (.lst xs) => if decide (xs.length < sizeLine) then .nx e (m2.set n (.lst (xs ++ [x]))) else .no
      | _ => .no) else .no
    | _ => .no)
  | .ifs c t u, e, m => (evT g c e m).go e fun b m1 => (match b with
    | true => evSs g xn t e m1
    | false => evSs g xn u e m1)
  | .for_ tg it b, e, m => if g.cur.isNone then (evIt g it e m).go e fun w m1 => forW w (fun d e1 m2 => match bindT tg d e1 with
    | some e2 => evSs g xn b e2 m2
    | none => .no) w.xs e m1 else .no
  | .wh c b, e, m => whL (evT g c) (evSs g xn b) e m
  | .ret a, e, m => (ev g a e m).go e fun x m1 => .rt x m1
  | .ret0, _, m => .rt .non m
  | .rais c es, e, m => if g.cur.isNone then (evs g es e m).go e fun vs m1 => (match xn c with
    | some ns => if decide (vs.length = ns.length) then .ex ⟨c, ns.zip vs⟩ e m1 else .no
    | none => .no) else .no
  | .try_ b hs, e, m => if g.cur.isNone then (match evSs g xn b e m with
    | .ex x e1 m1 => if xn x.cls = some (x.fs.map (·.1)) then evH g xn hs x e1 m1 else .no
    | r => r) else .no
  | .pass, e, m => .nx e m
  | .brk, e, m => .bk e m
  | .cnt, e, m => .ct e m
noncomputable def evSs (g : Gl) (xn : String → Option (List String)) : Ss → Ev → Mem → Rs
  | .nil, e, m => .nx e m
  | .cons s r, e, m => (evS g xn s e m).seq fun e1 m1 => evSs g xn r e1 m1
noncomputable def evH (g : Gl) (xn : String → Option (List String)) : Hs → Exc → Ev → Mem → Rs
  | .nil, x, e, m => .ex x e m
  | .cons c slot b r, x, e, m => if isX x.cls c then (match slot with
      | none => unb none (evSs (g.hot x) xn b e m)
      | some i => if i < e.length then unb (some i) (evSs (g.hot x) xn b (e.set i none) m) else .no)
    else evH g xn r x e m
end
end IP

/-! IpB -/
set_option Elab.async false
set_option linter.all false
set_option maxRecDepth 100000
set_option maxHeartbeats 4000000
/-! IpB: how deep data stand in the abstract heap; readings. -/
namespace IP
open PySem L2

/-- the exception that is handled: its slot, where it lies, what it is -/
structure Sl where
  i : Nat
  a : Addr
  x : Exc
  dd : Option Addr
/-- what is fixed: the written part, where the classes stand -/
structure GC where
  K : PySem.W.Frag
  mg : Str → Option Value
  own : String → Option Addr
  exa : String → Option Addr
  sl : Option Sl

def isDic : HO → Bool
  | .dK _ => true
  | .dT _ => true
  | _ => false
/-- what F says stands in H (a dict may be locked there) -/
structure Sub (F H : Hp) : Prop where
  at_ : ∀ {a : Addr} {u : HO}, F a = some u → H a = some u ∨ (isDic u = true ∧ ∃ o, H a = some (.frz o u))
theorem Sub.get {F H : Hp} (s : Sub F H) {a : Addr} {u : HO} (h : F a = some u) (n : isDic u = false) : H a = some u := by
  rcases s.at_ h with h | ⟨h, _⟩
  · exact h
  · rw [n] at h
    cases h
theorem Sub.rd {F H : Hp} (s : Sub F H) {a : Addr} {u : HO} (h : F a = some u) : Rd H a u := by
  rcases s.at_ h with h | ⟨_, h⟩
  · exact .inl h
  · exact .inr h
theorem Sub.rd2 {F H : Hp} (s : Sub F H) {a : Addr} {u : HO} (h : Rd F a u) : Rd H a u := by
  rcases h with h | ⟨o, h⟩
  · exact s.rd h
  · exact .inr ⟨o, s.get h rfl⟩
def Grow (F F' : Hp) : Prop := ∀ a u, F a = some u → F' a = some u
theorem Grow.refl (F : Hp) : Grow F F := fun _ _ h => h
theorem Grow.trans {F F1 F2 : Hp} (a : Grow F F1) (b : Grow F1 F2) : Grow F F2 := fun c u h => b c u (a c u h)
theorem Grow.sub {F F' : Hp} (h : Grow F F') : Sub F F' := ⟨fun e => .inl (h _ _ e)⟩

mutual
inductive RD (G : GC) (rho : List Addr) (H : Hp) : D → V → Prop
  | non : RD G rho H .non .non
  | bl (b : Bool) : RD G rho H (.bl b) (.bl b)
  | int (i : Int) : RD G rho H (.int i) (.int i)
  | str (x : Str) : RD G rho H (.str x) (.str x)
  | lst {a : Addr} {vs : List V} {xs : List D} : H a = some (.lst vs) → RDs G rho H xs vs → RD G rho H (.lst xs) (.ref a)
  | scr {a : Addr} {o : Obj} {vs : List V} {xs : List D} : H a = some (.frz o (.lst vs)) → RDs G rho H xs vs → RD G rho H (.scr xs) (.ref a)
  | scrK {a : Addr} {vs : List V} {xs : List D} : (∀ H', SqL G.K H' a vs) → RDs G rho H xs vs → RD G rho H (.scr xs) (.ref a)
  | tup {a : Addr} {vs : List V} {xs : List D} : H a = some (.tup vs) → RDs G rho H xs vs → RD G rho H (.tup xs) (.ref a)
  | tupK {a : Addr} : (∀ H', SqT G.K H' a []) → RD G rho H (.tup []) (.ref a)
  | dicK {a : Addr} {kvs : List (Key × V)} {xs : List (D × D)} : Rd H a (.dK kvs) → RDk G rho H xs kvs → RD G rho H (.dic .k xs) (.ref a)
  | dicT {a : Addr} {kvs : List (List Key × V)} {xs : List (D × D)} : Rd H a (.dT kvs) → RDt G rho H xs kvs → RD G rho H (.dic .t xs) (.ref a)
  | ins {c : String} {C a dx : Addr} {fs : List (String × D)} {fvs : List (Str × V)} : G.own c = some C → H a = some (.ins C dx fvs) → RDf G rho H fs fvs → RD G rho H (.ins c fs) (.ref a)
  | cls {c : String} {C : Addr} : G.own c = some C → RD G rho H (.cls c) (.ref C)
  | ref {n : Nat} {a : Addr} : rho[n]? = some a → RD G rho H (.ref n) (.ref a)
inductive RDs (G : GC) (rho : List Addr) (H : Hp) : List D → List V → Prop
  | nil : RDs G rho H [] []
  | cons {d : D} {v : V} {ds : List D} {vs : List V} : RD G rho H d v → RDs G rho H ds vs → RDs G rho H (d :: ds) (v :: vs)
inductive RDf (G : GC) (rho : List Addr) (H : Hp) : List (String × D) → List (Str × V) → Prop
  | nil : RDf G rho H [] []
  | cons {f : String} {d : D} {v : V} {ds : List (String × D)} {vs : List (Str × V)} : RD G rho H d v → RDf G rho H ds vs → RDf G rho H ((f, d) :: ds) ((Str.ofString f, v) :: vs)
inductive RDk (G : GC) (rho : List Addr) (H : Hp) : List (D × D) → List (Key × V) → Prop
  | nil : RDk G rho H [] []
  | cons {x d : D} {k : Key} {v : V} {ds : List (D × D)} {vs : List (Key × V)} : keyD x = some k → RD G rho H d v → RDk G rho H ds vs → RDk G rho H ((x, d) :: ds) ((k, v) :: vs)
inductive RDt (G : GC) (rho : List Addr) (H : Hp) : List (D × D) → List (List Key × V) → Prop
  | nil : RDt G rho H [] []
  | cons {x d : D} {k : List Key} {v : V} {ds : List (D × D)} {vs : List (List Key × V)} : keyT x = some k → RD G rho H d v → RDt G rho H ds vs → RDt G rho H ((x, d) :: ds) ((k, v) :: vs)
end

/-- one list of addresses begins another -/
def Beg (r r' : List Addr) : Prop := ∀ (n : Nat) (a : Addr), r[n]? = some a → r'[n]? = some a
theorem Beg.refl (r : List Addr) : Beg r r := fun _ _ h => h
theorem Beg.trans {r r1 r2 : List Addr} (a : Beg r r1) (b : Beg r1 r2) : Beg r r2 := fun n c h => b n c (a n c h)
theorem Beg.app (r s : List Addr) : Beg r (r ++ s) := fun n a h => by
  obtain ⟨h1, _⟩ := List.getElem?_eq_some_iff.mp h
  rw [List.getElem?_append_left h1]
  exact h

mutual
theorem RD.mono {G : GC} {rho rho' : List Addr} {F H : Hp} (s : Sub F H) (b : Beg rho rho') : ∀ (d : D) (v : V), RD G rho F d v → RD G rho' H d v
  | .non, _, h => by cases h; exact .non
  | .bl _, _, h => by cases h; exact .bl _
  | .int _, _, h => by cases h; exact .int _
  | .str _, _, h => by cases h; exact .str _
  | .lst xs, _, h => by
    cases h with
    | lst h1 h2 => exact .lst (s.get h1 rfl) (RDs.mono s b xs _ h2)
  | .scr xs, _, h => by
    cases h with
    | scr h1 h2 => exact .scr (s.get h1 rfl) (RDs.mono s b xs _ h2)
    | scrK h1 h2 => exact .scrK h1 (RDs.mono s b xs _ h2)
  | .tup xs, _, h => by
    cases h with
    | tup h1 h2 => exact .tup (s.get h1 rfl) (RDs.mono s b xs _ h2)
    | tupK h1 => exact .tupK h1
  | .dic q xs, _, h => by
    cases h with
    | dicK h1 h2 => exact .dicK (s.rd2 h1) (RDk.mono s b xs _ h2)
    | dicT h1 h2 => exact .dicT (s.rd2 h1) (RDt.mono s b xs _ h2)
  | .ins c fs, _, h => by
    cases h with
    | ins h1 h2 h3 => exact .ins h1 (s.get h2 rfl) (RDf.mono s b fs _ h3)
  | .cls c, _, h => by
    cases h with
    | cls h => exact .cls h
  | .ref n, _, h => by
    cases h with
    | ref h => exact .ref (b _ _ h)
theorem RDs.mono {G : GC} {rho rho' : List Addr} {F H : Hp} (s : Sub F H) (b : Beg rho rho') : ∀ (ds : List D) (vs : List V), RDs G rho F ds vs → RDs G rho' H ds vs
  | [], _, h => by cases h; exact .nil
  | d :: ds, _, h => by
    cases h with
    | cons h1 h2 => exact .cons (RD.mono s b d _ h1) (RDs.mono s b ds _ h2)
theorem RDf.mono {G : GC} {rho rho' : List Addr} {F H : Hp} (s : Sub F H) (b : Beg rho rho') : ∀ (ds : List (String × D)) (vs : List (Str × V)), RDf G rho F ds vs → RDf G rho' H ds vs
  | [], _, h => by cases h; exact .nil
  | (f, d) :: ds, _, h => by
    cases h with
    | cons h1 h2 => exact .cons (RD.mono s b d _ h1) (RDf.mono s b ds _ h2)
theorem RDk.mono {G : GC} {rho rho' : List Addr} {F H : Hp} (s : Sub F H) (b : Beg rho rho') : ∀ (ds : List (D × D)) (vs : List (Key × V)), RDk G rho F ds vs → RDk G rho' H ds vs
  | [], _, h => by cases h; exact .nil
  | (x, d) :: ds, _, h => by
    cases h with
    | cons h0 h1 h2 => exact .cons h0 (RD.mono s b d _ h1) (RDk.mono s b ds _ h2)
theorem RDt.mono {G : GC} {rho rho' : List Addr} {F H : Hp} (s : Sub F H) (b : Beg rho rho') : ∀ (ds : List (D × D)) (vs : List (List Key × V)), RDt G rho F ds vs → RDt G rho' H ds vs
  | [], _, h => by cases h; exact .nil
  | (x, d) :: ds, _, h => by
    cases h with
    | cons h0 h1 h2 => exact .cons h0 (RD.mono s b d _ h1) (RDt.mono s b ds _ h2)
end

/-- a cell as it stands -/
def Cel (G : GC) (rho : List Addr) (F H : Hp) (a : Addr) : MO → Prop
  | .lst xs => ∃ vs, H a = some (.lst vs) ∧ RDs G rho F xs vs
  | .dic .k xs => ∃ kvs, H a = some (.dK kvs) ∧ RDk G rho F xs kvs
  | .dic .t xs => ∃ kvs, H a = some (.dT kvs) ∧ RDt G rho F xs kvs
  | .ins c fs => ∃ C dx fvs, G.own c = some C ∧ H a = some (.ins C dx fvs) ∧ RDf G rho F fs fvs
  | .dead => ∃ u, F a = some u
/-- the store stands in the heap: F what never changes, rho where the cells stand -/
structure RelM (G : GC) (F H : Hp) (rho : List Addr) (m : Mem) : Prop where
  sub : Sub F H
  len : m.length = rho.length
  nd : rho.Nodup
  cel : ∀ (n : Nat) (a : Addr) (c : MO), rho[n]? = some a → m[n]? = some c → Cel G rho F H a c
  off : ∀ (n : Nat) (a : Addr) (c : MO), rho[n]? = some a → m[n]? = some c → c ≠ .dead → F a = none
def SlOk (G : GC) (F : Hp) (rho : List Addr) (σ : L2.St) : Prop := ∀ s, G.sl = some s → σ[s.i]? = some (some (.ref s.a)) ∧ (s.x.fs = [] ∨ ∃ d fvs, s.dd = some d ∧ F d = some (.xd fvs) ∧ RDf G rho F s.x.fs fvs)
theorem SlOk.non {G : GC} {F : Hp} {rho : List Addr} {σ : L2.St} (h : G.sl = none) : SlOk G F rho σ := fun s e => by
  rw [h] at e
  cases e
def RelE (G : GC) (F : Hp) (rho : List Addr) (e : Ev) (σ : L2.St) : Prop := e.length = σ.length ∧ (∀ (i : Nat) (d : D), e[i]? = some (some d) → ∃ v, σ[i]? = some (some v) ∧ RD G rho F d v) ∧ SlOk G F rho σ
/-- behind some steps -/
structure Ext (F H : Hp) (rho : List Addr) (F' H' : Hp) (rho' : List Addr) : Prop where
  fr : Grow F F'
  beg : Beg rho rho'
  keep : ∀ (a : Addr) (o : HO), H a = some o → a ∉ rho → H' a = some o
  new : ∀ a : Addr, a ∈ rho' → a ∉ rho → H a = none
  cl : ∀ (a : Addr) (u : HO), F' a = some u → F a = some u ∨ H a = none ∨ a ∈ rho
theorem Ext.refl (F H : Hp) (rho : List Addr) : Ext F H rho F H rho := ⟨Grow.refl F, Beg.refl rho, fun _ _ h _ => h, fun _ h n => absurd h n, fun _ _ h => .inl h⟩
theorem Beg.mem {r r' : List Addr} (b : Beg r r') {a : Addr} (h : a ∈ r) : a ∈ r' := by
  obtain ⟨n, e⟩ := List.getElem?_of_mem h
  exact List.mem_of_getElem? (b n a e)
theorem Ext.trans {F H F1 H1 F2 H2 : Hp} {r r1 r2 : List Addr} (a : Ext F H r F1 H1 r1) (b : Ext F1 H1 r1 F2 H2 r2) : Ext F H r F2 H2 r2 where
  fr := a.fr.trans b.fr
  beg := a.beg.trans b.beg
  keep := fun c o h n => by
    refine b.keep c o (a.keep c o h n) fun z => ?_
    have := a.new c z n
    rw [h] at this
    cases this
  new := fun c h n => by
    by_cases hc : c ∈ r1
    · exact a.new c hc n
    · have e := b.new c h hc
      cases q : H c with
      | none => rfl
      | some o =>
        rw [a.keep c o q n] at e
        cases e
  cl := fun c u h => by
    have k : H1 c = none → H c = none ∨ c ∈ r := fun e => by
      by_cases hc : c ∈ r
      · exact .inr hc
      · cases q : H c with
        | none => exact .inl rfl
        | some o =>
          rw [a.keep c o q hc] at e
          cases e
    rcases b.cl c u h with h | h | h
    · exact a.cl c u h
    · exact .inr (k h)
    · by_cases hc : c ∈ r
      · exact .inr (.inr hc)
      · exact .inr (.inl (a.new c h hc))
section
variable {G : GC} {F H F' H' : Hp} {rho rho' : List Addr} {m : Mem} {e : Ev} {σ : L2.St}
theorem Ext.rd (x : Ext F H rho F' H' rho') (r : RelM G F H rho m) {d : D} {v : V} (h : RD G rho F d v) : RD G rho' F' d v := RD.mono x.fr.sub x.beg d v h
theorem Ext.rds (x : Ext F H rho F' H' rho') (r : RelM G F H rho m) {d : List D} {v : List V} (h : RDs G rho F d v) : RDs G rho' F' d v := RDs.mono x.fr.sub x.beg d v h
theorem Ext.rde (x : Ext F H rho F' H' rho') (r : RelM G F H rho m) (h : RelE G F rho e σ) : RelE G F' rho' e σ := ⟨h.1, fun i d q => by
  obtain ⟨v, e1, e2⟩ := h.2.1 i d q
  exact ⟨v, e1, x.rd r e2⟩, fun s hs => by
  obtain ⟨q1, q2⟩ := h.2.2 s hs
  refine ⟨q1, ?_⟩
  rcases q2 with q2 | ⟨d, fvs, e1, e2, e3⟩
  · exact .inl q2
  · exact .inr ⟨d, fvs, e1, x.fr _ _ e2, RDf.mono x.fr.sub x.beg _ _ e3⟩⟩
/-- in the heap itself -/
theorem RelM.up (r : RelM G F H rho m) {d : D} {v : V} (h : RD G rho F d v) : RD G rho H d v := RD.mono r.sub (Beg.refl rho) d v h
theorem RelM.ups (r : RelM G F H rho m) {d : List D} {v : List V} (h : RDs G rho F d v) : RDs G rho H d v := RDs.mono r.sub (Beg.refl rho) d v h
theorem RelM.upf (r : RelM G F H rho m) {d : List (String × D)} {v : List (Str × V)} (h : RDf G rho F d v) : RDf G rho H d v := RDf.mono r.sub (Beg.refl rho) d v h
theorem RelM.upk (r : RelM G F H rho m) {d : List (D × D)} {v : List (Key × V)} (h : RDk G rho F d v) : RDk G rho H d v := RDk.mono r.sub (Beg.refl rho) d v h
theorem RelM.upt (r : RelM G F H rho m) {d : List (D × D)} {v : List (List Key × V)} (h : RDt G rho F d v) : RDt G rho H d v := RDt.mono r.sub (Beg.refl rho) d v h
/-- what stands behind a reference -/
theorem RelM.view (r : RelM G F H rho m) {d : D} {v : V} (h : RD G rho F d v) : RD G rho H (vw m d) v := by
  cases d with
  | ref n =>
    cases h with
    | @ref _ a h =>
      show RD G rho H (match m[n]? with
        | some (.lst xs) => .lst xs
        | some (.dic q kvs) => .dic q kvs
        | some (.ins c fs) => .ins c fs
        | _ => .ref n) (.ref a)
      cases q : m[n]? with
      | none => exact .ref h
      | some c =>
        have z := r.cel n a c h q
        cases c with
        | lst xs =>
          obtain ⟨vs, e1, e2⟩ := z
          exact .lst e1 (r.ups e2)
        | dic k kvs =>
          cases k with
          | k =>
            obtain ⟨vs, e1, e2⟩ := z
            exact .dicK (.inl e1) (r.upk e2)
          | t =>
            obtain ⟨vs, e1, e2⟩ := z
            exact .dicT (.inl e1) (r.upt e2)
        | ins c fs =>
          obtain ⟨C, dx, fvs, e0, e1, e2⟩ := z
          exact .ins e0 e1 (r.upf e2)
        | dead => exact .ref h
  | non => exact r.up h
  | bl _ => exact r.up h
  | int _ => exact r.up h
  | str _ => exact r.up h
  | tup _ => exact r.up h
  | lst _ => exact r.up h
  | scr _ => exact r.up h
  | dic _ _ => exact r.up h
  | ins _ _ => exact r.up h
  | cls _ => exact r.up h
end
/-- lists and tuples, as the layer reads them -/
theorem RD.sql {G : GC} {rho : List Addr} {H : Hp} {xs : List D} {v : V} (h : RD G rho H (.lst xs) v) : ∃ a vs, v = .ref a ∧ SqL G.K H a vs ∧ RDs G rho H xs vs := by
  cases h with
  | lst h1 h2 => exact ⟨_, _, rfl, .inl (.inl h1), h2⟩
theorem RD.sqt {G : GC} {rho : List Addr} {H : Hp} {xs : List D} {v : V} (h : RD G rho H (.tup xs) v) : ∃ a vs, v = .ref a ∧ SqT G.K H a vs ∧ RDs G rho H xs vs := by
  cases h with
  | tup h1 h2 => exact ⟨_, _, rfl, .inl (.inl h1), h2⟩
  | tupK h1 => exact ⟨_, _, rfl, h1 H, .nil⟩
theorem RDs.length {G : GC} {rho : List Addr} {H : Hp} : ∀ {xs : List D} {vs : List V}, RDs G rho H xs vs → xs.length = vs.length
  | _, _, .nil => rfl
  | _, _, .cons _ t => congrArg Nat.succ (RDs.length t)
theorem RDs.get {G : GC} {rho : List Addr} {H : Hp} : ∀ {xs : List D} {vs : List V} {i : Nat} {d : D}, RDs G rho H xs vs → xs[i]? = some d → ∃ v, vs[i]? = some v ∧ RD G rho H d v
  | _, _, _, _, .nil, e => by simp at e
  | _, _, 0, _, .cons h _, e => by
    simp at e
    subst e
    exact ⟨_, rfl, h⟩
  | _, _, i + 1, d, .cons _ t, e => by
    obtain ⟨v, h1, h2⟩ := RDs.get (i := i) (d := d) t (by simpa using e)
    exact ⟨v, by simpa using h1, h2⟩
theorem RDs.get' {G : GC} {rho : List Addr} {H : Hp} : ∀ {xs : List D} {vs : List V} {i : Nat} {v : V}, RDs G rho H xs vs → vs[i]? = some v → ∃ d, xs[i]? = some d ∧ RD G rho H d v
  | _, _, _, _, .nil, e => by simp at e
  | _, _, 0, _, .cons h _, e => by
    simp at e
    subst e
    exact ⟨_, rfl, h⟩
  | _, _, i + 1, v, .cons _ t, e => by
    obtain ⟨d, h1, h2⟩ := RDs.get' (i := i) (v := v) t (by simpa using e)
    exact ⟨d, by simpa using h1, h2⟩
theorem RDs.append {G : GC} {rho : List Addr} {H : Hp} : ∀ {xs ys : List D} {vs ws : List V}, RDs G rho H xs vs → RDs G rho H ys ws → RDs G rho H (xs ++ ys) (vs ++ ws)
  | _, _, _, _, .nil, s => s
  | _, _, _, _, .cons h t, s => .cons h (RDs.append t s)
theorem RDs.take {G : GC} {rho : List Addr} {H : Hp} : ∀ {xs : List D} {vs : List V} (n : Nat), RDs G rho H xs vs → RDs G rho H (xs.take n) (vs.take n)
  | _, _, 0, _ => .nil
  | _, _, _ + 1, .nil => .nil
  | _, _, n + 1, .cons h t => .cons h (RDs.take n t)
theorem RDs.drop {G : GC} {rho : List Addr} {H : Hp} : ∀ {xs : List D} {vs : List V} (n : Nat), RDs G rho H xs vs → RDs G rho H (xs.drop n) (vs.drop n)
  | _, _, 0, h => h
  | _, _, _ + 1, .nil => .nil
  | _, _, n + 1, .cons _ t => RDs.drop n t
theorem RDs.set {G : GC} {rho : List Addr} {H : Hp} {d : D} {v : V} (r : RD G rho H d v) : ∀ {xs : List D} {vs : List V} (i : Nat), RDs G rho H xs vs → RDs G rho H (xs.set i d) (vs.set i v)
  | _, _, _, .nil => .nil
  | _, _, 0, .cons _ t => .cons r t
  | _, _, i + 1, .cons q t => .cons q (RDs.set r i t)
theorem RDf.lookup {G : GC} {rho : List Addr} {H : Hp} (inj : ∀ a b : String, Str.ofString a = Str.ofString b → a = b) (f : String) : ∀ {xs : List (String × D)} {vs : List (Str × V)} {d : D}, RDf G rho H xs vs → xs.lookup f = some d → ∃ v, vs.lookup (Str.ofString f) = some v ∧ RD G rho H d v
  | _, _, _, .nil, e => by cases e
  | _, _, d, .cons (f := g) h t, e => by
    by_cases q : f = g
    · subst q
      simp only [List.lookup, beq_self_eq_true] at e ⊢
      cases e
      exact ⟨_, rfl, h⟩
    · have q1 : (f == g) = false := by simpa using q
      have q2 : (Str.ofString f == Str.ofString g) = false := by
        simpa using fun z => q (inj _ _ z)
      simp only [List.lookup, q1, q2] at e ⊢
      exact RDf.lookup inj f t e
end IP

/-! IpC -/
set_option Elab.async false
set_option linter.all false
set_option maxRecDepth 100000
set_option maxHeartbeats 4000000
/-! IpC: what is wanted behind a piece of code; the readings of my expressions and statements. -/
namespace IP
open PySem L2

theorem ofString_inj {a b : String} (h : Str.ofString a = Str.ofString b) : a = b := by
  rw [Str.ofString_eq_toList, Str.ofString_eq_toList] at h
  injection h with h
  have h2 : a.toList.map Char.toNat = b.toList.map Char.toNat := by simpa using congrArg Array.toList h
  have h3 : a.toList = b.toList := by
    have inj : ∀ x y : Char, x.toNat = y.toNat → x = y := fun x y e => Char.ext (UInt32.toNat_inj.mp e)
    have gen : ∀ l k : List Char, l.map Char.toNat = k.map Char.toNat → l = k := by
      intro l
      induction l with
      | nil => intro k h; cases k with | nil => rfl | cons _ _ => cases h
      | cons x l ih =>
        intro k h
        cases k with
        | nil => cases h
        | cons y k =>
          simp only [List.map_cons, List.cons.injEq] at h
          rw [inj x y h.1, ih k h.2]
    exact gen _ _ h2
  exact String.toList_injective h3

/-- an exception, as it lies behind a raise -/
def RX (G : GC) (F H : Hp) (rho : List Addr) (x : Exc) (c : Value) (dd : Option Addr) : Prop :=
  ∃ C, G.exa x.cls = some C ∧ c = .ref C ∧ ((x.fs = [] ∧ dd = none) ∨ ∃ d fvs, dd = some d ∧ F d = some (.xd fvs) ∧ RDf G rho F x.fs fvs)

section
variable {α β γ : Type}
/-- behind a piece that gives an α, which stands as a β -/
def Post (G : GC) (W : WX) (σ : L2.St) (R : Hp → List Addr → α → β → Prop) (F H : Hp) (rho : List Addr) (r : Res α) (Q : β → Hp → Prop) : Prop := match r with
  | .ok d m' => ∀ (v : β) (H' F' : Hp) (rho' : List Addr), Ext F H rho F' H' rho' → RelM G F' H' rho' m' → R F' rho' d v → Q v H'
  | .ex x m' => ∀ (c : Value) (dd : Option Addr) (H' F' : Hp) (rho' : List Addr), Ext F H rho F' H' rho' → RelM G F' H' rho' m' → RX G F' H' rho' x c dd → W c dd σ H'
  | .no => False
variable {G : GC} {W : WX} {σ : L2.St} {R : Hp → List Addr → α → β → Prop} {F H : Hp} {rho : List Addr} {Q : β → Hp → Prop}
theorem Post.ext {F1 H1 : Hp} {rho1 : List Addr} {r : Res α} (h : Post G W σ R F H rho r Q) (x : Ext F H rho F1 H1 rho1) : Post G W σ R F1 H1 rho1 r Q := by
  cases r with
  | ok d m => exact fun v H' F' rho' x' rm rr => h v H' F' rho' (x.trans x') rm rr
  | ex e m => exact fun c dd H' F' rho' x' rm rr => h c dd H' F' rho' (x.trans x') rm rr
  | no => exact h
theorem Post.imp {Q' : β → Hp → Prop} {r : Res α} (h : Post G W σ R F H rho r Q) (hq : ∀ v H', Q v H' → Q' v H') : Post G W σ R F H rho r Q' := by
  cases r with
  | ok d m => exact fun v H' F' rho' x' rm rr => hq _ _ (h v H' F' rho' x' rm rr)
  | ex e m => exact h
  | no => exact h
/-- where one stands behind a piece -/
def At {α β : Type} (G : GC) (R : Hp → List Addr → α → β → Prop) (F H : Hp) (rho : List Addr) (v : β) (H1 : Hp) (K : Hp → List Addr → α → Mem → Prop) : Prop :=
  ∃ (F1 : Hp) (rho1 : List Addr) (d : α) (m1 : Mem), Ext F H rho F1 H1 rho1 ∧ RelM G F1 H1 rho1 m1 ∧ R F1 rho1 d v ∧ K F1 rho1 d m1
theorem Post.bind {δ : Type} {R1 : Hp → List Addr → γ → δ → Prop} {r : Res γ} {k : γ → Mem → Res α} (h : Post G W σ R F H rho (r.bind k) Q) :
    Post G W σ R1 F H rho r fun v H1 => At G R1 F H rho v H1 fun F1 rho1 d m1 => Post G W σ R F1 H1 rho1 (k d m1) Q := by
  cases r with
  | ok d m => exact fun v H' F' rho' x' rm rr => ⟨F', rho', d, m, x', rm, rr, Post.ext h x'⟩
  | ex e m => exact h
  | no => exact h
theorem Post.opt {o : Option α} {m : Mem} (h : Post G W σ R F H rho (opt o m) Q) : ∃ d, o = some d ∧ Post G W σ R F H rho (.ok d m) Q := by
  cases o with
  | none => exact h.elim
  | some d => exact ⟨d, rfl, h⟩
theorem Post.ite {c : Prop} [Decidable c] {r : Res α} (h : Post G W σ R F H rho (if c then r else .no) Q) : c ∧ Post G W σ R F H rho r Q := by
  by_cases hc : c
  · rw [if_pos hc] at h
    exact ⟨hc, h⟩
  · rw [if_neg hc] at h
    exact h.elim
/-- nothing has changed -/
theorem Post.here {d : α} {m : Mem} {v : β} (h : Post G W σ R F H rho (.ok d m) Q) (r : RelM G F H rho m) (rr : R F rho d v) : Q v H := h v H F rho (Ext.refl F H rho) r rr
end

def RD1 (G : GC) : Hp → List Addr → D → V → Prop := fun F rho d v => RD G rho F d v
def RDL (G : GC) : Hp → List Addr → List D → List V → Prop := fun F rho d v => RDs G rho F d v
def REq {α : Type} : Hp → List Addr → α → α → Prop := fun _ _ a b => a = b

/-- the reading of an expression that comes to f -/
def tI {α β : Type} (G : GC) (W : WX) (R : Hp → List Addr → α → β → Prop) (f : Ev → Mem → Res α) : L2.St → Hp → (β → Hp → Prop) → Prop := fun σ H Q =>
  ∃ (F : Hp) (rho : List Addr) (m : Mem) (e : Ev), RelM G F H rho m ∧ RelE G F rho e σ ∧ Post G W σ R F H rho (f e m) Q
theorem tI.mk {α β : Type} {G : GC} {W : WX} {R : Hp → List Addr → α → β → Prop} {f : Ev → Mem → Res α} {σ : L2.St} {F H : Hp} {rho : List Addr} {m : Mem} {e : Ev} {Q : β → Hp → Prop}
    (r : RelM G F H rho m) (re : RelE G F rho e σ) (h : Post G W σ R F H rho (f e m) Q) : tI G W R f σ H Q := ⟨F, rho, m, e, r, re, h⟩

theorem _root_.L2.PE.imp {X : Cx} {e : Expr} {t t' : TE} (h : PE X e t) (hi : ∀ σ H Q, t' σ H Q → t σ H Q) : PE X e t' := ⟨fun pins s σ H Q I q => h.run pins s σ H Q I (hi σ H Q q)⟩
theorem _root_.L2.PT.imp {X : Cx} {e : Expr} {t t' : TT} (h : PT X e t) (hi : ∀ σ H Q, t' σ H Q → t σ H Q) : PT X e t' := ⟨fun pins s σ H Q I q => h.run pins s σ H Q I (hi σ H Q q)⟩
theorem _root_.L2.PW.imp {X : Cx} {e : Expr} {t t' : TT} (h : PW X e t) (hi : ∀ σ H Q, t' σ H Q → t σ H Q) : PW X e t' := ⟨fun wh pins s σ H Q I q => h.run wh pins s σ H Q I (hi σ H Q q)⟩
theorem _root_.L2.PA.imp {X : Cx} {e : List Expr} {t t' : TA} (h : PA X e t) (hi : ∀ σ H Q, t' σ H Q → t σ H Q) : PA X e t' := ⟨fun pos pins s σ H Q I q => h.run pos pins s σ H Q I (hi σ H Q q)⟩

/-! ### new things -/
section
variable {G : GC} {F H : Hp} {rho : List Addr} {m : Mem}
theorem RelM.notin (r : RelM G F H rho m) {p : Addr} (hp : H p = none) : F p = none := by
  cases q : F p with
  | none => rfl
  | some u =>
    rcases r.sub.rd q with z | ⟨o, z⟩ <;> (rw [hp] at z; cases z)
/-- what a cell needs of the heap: its own place -/
theorem Cel.mono {F' H' : Hp} {rho' : List Addr} {a : Addr} {c : MO} (g : Grow F F') (b : Beg rho rho') (h : Cel G rho F H a c) (k : c ≠ .dead → ∀ o, H a = some o → H' a = some o) : Cel G rho' F' H' a c := by
  have s := g.sub
  cases c with
  | lst xs =>
    obtain ⟨vs, e1, e2⟩ := h
    exact ⟨vs, k (fun z => nomatch z) _ e1, RDs.mono s b xs vs e2⟩
  | dic q kvs =>
    cases q with
    | k =>
      obtain ⟨vs, e1, e2⟩ := h
      exact ⟨vs, k (fun z => nomatch z) _ e1, RDk.mono s b kvs vs e2⟩
    | t =>
      obtain ⟨vs, e1, e2⟩ := h
      exact ⟨vs, k (fun z => nomatch z) _ e1, RDt.mono s b kvs vs e2⟩
  | ins c fs =>
    obtain ⟨C, dx, fvs, e0, e1, e2⟩ := h
    exact ⟨C, dx, fvs, e0, k (fun z => nomatch z) _ e1, RDf.mono s b fs fvs e2⟩
  | dead =>
    obtain ⟨u, e⟩ := h
    exact ⟨u, g _ _ e⟩
theorem Grow.upd {p : Addr} {o : HO} (hp : F p = none) : Grow F (upd F p o) := fun a u e => by rw [upd_ne (ne_of_none e hp)]; exact e
/-- the cells stand -/
theorem RelM.live (r : RelM G F H rho m) {a : Addr} (h1 : a ∈ rho) : ∃ o, H a = some o := by
  obtain ⟨n, e⟩ := List.getElem?_of_mem h1
  have hn : n < m.length := by
    rw [r.len]
    exact (List.getElem?_eq_some_iff.mp e).1
  have z := r.cel n a m[n] e (List.getElem?_eq_getElem hn)
  cases q : m[n] with
  | lst xs =>
    rw [q] at z
    obtain ⟨vs, e1, _⟩ := z
    exact ⟨_, e1⟩
  | dic k kvs =>
    rw [q] at z
    cases k with
    | k =>
      obtain ⟨vs, e1, _⟩ := z
      exact ⟨_, e1⟩
    | t =>
      obtain ⟨vs, e1, _⟩ := z
      exact ⟨_, e1⟩
  | ins c fs =>
    rw [q] at z
    obtain ⟨C, dx, fvs, e0, e1, e2⟩ := z
    exact ⟨_, e1⟩
  | dead =>
    rw [q] at z
    obtain ⟨u, e1⟩ := z
    rcases r.sub.rd e1 with z | ⟨o, z⟩
    · exact ⟨_, z⟩
    · exact ⟨_, z⟩
theorem RelM.off' (r : RelM G F H rho m) {p : Addr} (hp : H p = none) : p ∉ rho := fun h => by
  obtain ⟨o, e⟩ := r.live h
  rw [hp] at e
  cases e
/-- a new thing that never changes -/
theorem RelM.frozen (r : RelM G F H rho m) {p : Addr} {o : HO} (hp : H p = none) : RelM G (upd F p o) (upd H p o) rho m ∧ Ext F H rho (upd F p o) (upd H p o) rho := by
  have hF := r.notin hp
  have hnp := r.off' hp
  have gr : Grow F (upd F p o) := Grow.upd hF
  have sb : Sub F (upd F p o) := gr.sub
  refine ⟨⟨⟨fun {a u} e => ?_⟩, r.len, r.nd, fun n a c h1 h2 => ?_, fun n a c h1 h2 h3 => ?_⟩, ⟨gr, Beg.refl _, fun a u e _ => ?_, fun a h n => absurd h n, fun a u e => ?_⟩⟩
  · by_cases hap : a = p
    · subst hap
      rw [upd_same] at e ⊢
      exact .inl e
    · rw [upd_ne hap] at e ⊢
      exact r.sub.at_ e
  · exact (r.cel n a c h1 h2).mono gr (Beg.refl _) fun _ u e => by rw [upd_ne (ne_of_none e hp)]; exact e
  · have z := r.off n a c h1 h2 h3
    rw [upd_ne fun q => hnp (by rw [← q]; exact List.mem_of_getElem? h1)]
    exact z
  · rw [upd_ne (ne_of_none e hp)]
    exact e
  · by_cases hap : a = p
    · subst hap
      exact .inr (.inl hp)
    · rw [upd_ne hap] at e
      exact .inl e
/-- a new cell -/
theorem RelM.cell (r : RelM G F H rho m) {p : Addr} {o : HO} {c : MO} (hp : H p = none) (hc : Cel G (rho ++ [p]) F (upd H p o) p c) : RelM G F (upd H p o) (rho ++ [p]) (m ++ [c]) ∧ Ext F H rho F (upd H p o) (rho ++ [p]) := by
  have hF := r.notin hp
  have hnp := r.off' hp
  refine ⟨⟨⟨fun {a u} e => ?_⟩, by rw [List.length_append, List.length_append, r.len] <;> rfl, ?_, fun n a c' h1 h2 => ?_, fun n a c' h1 h2 h3 => ?_⟩,
    ⟨Grow.refl F, Beg.app _ _, fun a u e _ => ?_, fun a h n => ?_, fun a u e => .inl e⟩⟩
  · have hap : a ≠ p := fun z => by rw [z, hF] at e; cases e
    rw [upd_ne hap]
    exact r.sub.at_ e
  · refine List.nodup_append.mpr ⟨r.nd, by simp, fun a ha b hb => ?_⟩
    have e : b = p := by simpa using hb
    subst e
    exact fun z => hnp (z ▸ ha)
  · by_cases hn : n < rho.length
    · rw [List.getElem?_append_left hn] at h1
      rw [List.getElem?_append_left (by rw [r.len]; exact hn)] at h2
      exact (r.cel n a c' h1 h2).mono (Grow.refl F) (Beg.app _ _) fun _ u e => by rw [upd_ne (ne_of_none e hp)]; exact e
    · have h1' : rho.length ≤ n := Nat.le_of_not_lt hn
      rw [List.getElem?_append_right h1'] at h1
      rw [List.getElem?_append_right (by rw [r.len]; exact h1'), r.len] at h2
      have hz : n - rho.length = 0 := by
        cases q : n - rho.length with
        | zero => rfl
        | succ k => rw [q] at h1; simp at h1
      rw [hz] at h1 h2
      simp at h1 h2
      subst h1 h2
      exact hc
  · by_cases hn : n < rho.length
    · rw [List.getElem?_append_left hn] at h1
      rw [List.getElem?_append_left (by rw [r.len]; exact hn)] at h2
      exact r.off n a c' h1 h2 h3
    · have h1' : rho.length ≤ n := Nat.le_of_not_lt hn
      rw [List.getElem?_append_right h1'] at h1
      have hz : n - rho.length = 0 := by
        cases q : n - rho.length with
        | zero => rfl
        | succ k => rw [q] at h1; simp at h1
      rw [hz] at h1
      simp at h1
      subst h1
      exact hF
  · rw [upd_ne (ne_of_none e hp)]
    exact e
  · rcases List.mem_append.mp h with h | h
    · exact absurd h n
    · have e : a = p := by simpa using h
      subst e
      exact hp
end
end IP

/-! IpD -/
set_option Elab.async false
set_option linter.all false
set_option maxRecDepth 100000
set_option maxHeartbeats 4000000
/-! IpD: the primitives keep what they say. -/
namespace IP
open PySem L2 PyProof.Rows
/-! ### != of lists, item by item -/
section
open PySem.SeqAt
open AutoSeq1 (wpAny_loadPart')
open MeetsSeq MeetsSeq2 MeetsSeq3 SeqRoads2
variable {prog : Program} {w : World}
theorem ne_turns (l b : Addr) (us vs : Array Value) (n n2 : Nat) (dd dd2 : Option Addr) (sl sl2 : Array (Option Value)) (hz : us.size = vs.size) (e : Nat → Bool) (k : Nat) :
    ∀ i : Nat, us.size - i = k → MeetsIn prog w (Builtin.«list.__eq__.loop» ⟨[.ref l, .ref b, rawInt i, rawInt 3], []⟩)
      (fun A R s => s.heap.get? l = some { cls := .type "list", dict := dd, data := .seq us n, slots := sl } ∧ s.heap.get? b = some { cls := .type "list", dict := dd2, data := .seq vs n2, slots := sl2 } ∧
        (∀ j (h1 : j < us.size) (h2 : j < vs.size), EqP prog w A.in1 s us[j] vs[j] (e j)) ∧ R (.ok (.ret (.bool (!((List.range us.size).drop i).all e)))) s) := by
  induction k with
  | zero =>
    rintro i hk A R ⟨hp, g, d, tk, os⟩ ⟨hl, hb, he, h⟩
    wp_walk using wpAny_loadPart' hl, wpAny_loadPart' hb
    have q1 : us[((i : Nat) : Int).toNat]? = none := by simp; omega
    have q2 : vs[((i : Nat) : Int).toNat]? = none := by simp; omega
    have q3 : (List.range us.size).drop i = [] := by simp; omega
    rw [q3] at h
    rw [q1, q2]
    wp_walk using wpAny_loadPart' hl, wpAny_loadPart' hb
    show R (.ok (.ret (.bool (us.size != vs.size)))) _
    rw [hz]
    simpa using h
  | succ k ih =>
    rintro i hk A R ⟨hp, g, d, tk, os⟩ ⟨hl, hb, he, h⟩
    wp_walk using wpAny_loadPart' hl, wpAny_loadPart' hb
    have k1 : i < us.size := by omega
    have k2 : i < vs.size := by omega
    have q1 : us[((i : Nat) : Int).toNat]? = some us[i] := by simp [k1]
    have q2 : vs[((i : Nat) : Int).toNat]? = some vs[i] := by simp [k2]
    have q3 : (List.range us.size).drop i = i :: (List.range us.size).drop (i + 1) := by simp [List.drop_eq_getElem_cons, k1]
    have q4 : ((i : Int) + 1) = ((i + 1 : Nat) : Int) := by push_cast; rfl
    rw [q3, List.all_cons] at h
    rw [q1, q2]
    refine wpAny_bind (he i k1 k2 _ _ ?_)
    cases hx : e i with
    | true =>
      rw [hx] at h
      wp_walk
      rw [q4]
      exact ⟨plainId_quiet plain_eq_loop _, codeAny_builtin entry_eq_loop (by
        rw [Around.under_plainId plain_eq_loop _]
        exact ih (i + 1) (by omega) A R _ ⟨hl, hb, he, by simpa using h⟩)⟩
    | false =>
      rw [hx] at h
      wp_walk using wpAny_loadPart' hl, wpAny_loadPart' hb
      rw [q1, q2]
      wp_walk
      simpa using h
theorem ne_meets (l b : Addr) (us vs : Array Value) (n n2 : Nat) (dd dd2 : Option Addr) (sl sl2 : Array (Option Value)) (hz : us.size = vs.size) (e : Nat → Bool) :
    MeetsIn prog w (Builtin.«list.__ne__» ⟨[.ref l, .ref b], []⟩)
      (fun A R s => s.heap.get? l = some { cls := .type "list", dict := dd, data := .seq us n, slots := sl } ∧ s.heap.get? b = some { cls := .type "list", dict := dd2, data := .seq vs n2, slots := sl2 } ∧
        (∀ j (h1 : j < us.size) (h2 : j < vs.size), EqP prog w A.in1 s us[j] vs[j] (e j)) ∧ R (.ok (.ret (.bool (!(List.range us.size).all e)))) s) := by
  rintro A R ⟨hp, g, d, tk, os⟩ ⟨hl, hb, he, h⟩
  have f3 := AutoSeq1.sub_list_list
  have hne : ¬ (us.size != vs.size) = true := by simp [hz]
  wp_walk using wpAny_loadPart' hl, wpAny_loadPart' hb
  exact ⟨plainId_quiet plain_eq_loop _, codeAny_builtin entry_eq_loop (by
    rw [Around.under_plainId plain_eq_loop _]
    exact ne_turns l b us vs n n2 dd dd2 sl sl2 hz e _ 0 rfl A R _ ⟨hl, hb, he, by simpa using h⟩)⟩
theorem rcP_neL {A : Around} {s : Shared} {l b : Addr} {us vs : Array Value} {e : Nat → Bool} (hl : s.heap.IsList l us) (hb : s.heap.IsList b vs) (hz : us.size = vs.size) (hu : A.units < cLine)
    (he : ∀ j (h1 : j < us.size) (h2 : j < vs.size), EqP prog w A.in1 s us[j] vs[j] (e j)) (E Q : Value → Shared → Prop) (h : Q (.bool (!(List.range us.size).all e)) s) : wpAny (model prog w) A (richCompare .NotEq (.ref l) (.ref b)) Q E s := by
  obtain ⟨⟨c1, dd, da1, sl⟩, ho, hc, n, hd⟩ := id hl
  obtain ⟨⟨c2, dd2, da2, sl2⟩, ho2, hc2, n2, hd2⟩ := id hb
  simp only at hc hd hc2 hd2
  subst hc hd hc2 hd2
  have ta : s.TypeIs (.ref l) "list" := ⟨_, ho, rfl⟩
  have tb : s.TypeIs (.ref b) "list" := ⟨_, ho2, rfl⟩
  exact wpAny_richCompare_same_room (op := .NotEq) ta tb F.slot_list_ne (call_meetsIn F.slot_list_ne ta F.entry_list_ne (F.args_list_ne_2 _ _) (ne_meets l b us vs n n2 dd dd2 sl sl2 hz e)
    ⟨ho, ho2, he, show Value.bool (!(List.range us.size).all e) ≠ Value.notImplemented ∧ Q (.bool (!(List.range us.size).all e)) s from ⟨(fun x => nomatch x), h⟩⟩) hu
end

theorem mulOk_ok {a b : Int} (h : mulOk a b = true) : CMulW a b := of_decide_eq_true (p := a.natAbs.log2 + b.natAbs.log2 < 1000000) h
theorem op_fdivG {X : Cx} : OpR X (binaryOp .FloorDiv) (rI (fun _ j => j ≠ 0 ∧ j.natAbs.log2 < 9000) fun i j => .int (i.fdiv j)) :=
  opI fun _ _ _ _ _ _ _ hc q => floordiv_int hc.1 q (.inl (PyProof.noPylong_of_log2 hc.2))
theorem op_powG {X : Cx} : OpR X (binaryOp .Pow) (rI (fun i j => 0 ≤ j ∧ ((i.natAbs.log2 : Int) + 1) * j ≤ 134217728) fun i j => .int (i ^ j.toNat)) :=
  opI fun i j _ _ _ _ _ hc q => by
    refine PyProof.Rows.pow_int hc.1 ?_ q
    have b : Builtin.Int.intBits i ≤ i.natAbs.log2 + 1 := by
      unfold Builtin.Int.intBits
      split <;> omega
    have h : ((Builtin.Int.intBits i : Nat) : Int) * j ≤ ((i.natAbs.log2 : Int) + 1) * j := Int.mul_le_mul_of_nonneg_right (by omega) hc.1
    have e : (2 : Int) ^ 27 = 134217728 := by decide
    rw [e]
    exact Int.le_trans h hc.2

theorem tuple_mul1 (l : Addr) (items : Array Value) (n : Nat) (dd : Option Addr) (sl : Array (Option Value)) (u : Tok) :
    Meets (Builtin.«tuple.__mul__» ⟨[.ref l, .int 1 u], []⟩) (fun _ R s => s.heap.get? l = some { cls := .type "tuple", dict := dd, data := .seq items n, slots := sl } ∧ R (.ok (.ret (Value.ref l))) s) :=
  .of_wp fun prog w A R s h => by
    obtain ⟨hp, g, d, tk, os⟩ := s
    obtain ⟨hl, h⟩ := h
    have f1 := AutoSeq1.idx_int
    have c1 : (items.isEmpty || (1 : Int) == 1) = true := by simp
    wp_walk using wpAny_loadPart' hl
    repeat (first
      | (refine wpAny_ite_false (by decide) ?_; wp_walk using wpAny_loadPart' hl)
      | (refine wpAny_ite_true (decide_eq_true c1) ?_; wp_walk using wpAny_loadPart' hl))
    all_goals exact ⟨_, rfl, h⟩
section
variable {X : Cx} {G : GC} {W : WX} {σ : L2.St} {F H : Hp} {rho : List Addr} {m : Mem} {pins : List (Addr × Obj)} {s : Shared}
/-- a new object that never changes is handed back -/
theorem new_frozen {Q : VK} {d : D} (r : RelM G F H rho m) (h : Post G W σ (RD1 G) F H rho (.ok d m) Q) {p : Addr} {o : HO} (hp : H p = none) (hd : RD G rho (upd F p o) d (.ref p)) : Q (.ref p) (upd H p o) := by
  obtain ⟨r', x⟩ := r.frozen (o := o) hp
  exact h _ _ _ _ x r' hd
theorem rds_up {p : Addr} {o : HO} {xs : List D} {vs : List V} (r : RelM G F H rho m) (hp : H p = none) (h : RDs G rho F xs vs) : RDs G rho (upd F p o) xs vs := by
  obtain ⟨r', x⟩ := r.frozen (o := o) hp
  exact x.rds r h
theorem rd_tup {p : Addr} {xs : List D} {vs : List V} (r : RelM G F H rho m) (hp : H p = none) (h : RDs G rho F xs vs) : RD G rho (upd F p (.tup vs)) (.tup xs) (.ref p) := .tup upd_same (rds_up r hp h)
theorem rd_lst {p : Addr} {xs : List D} {vs : List V} (r : RelM G F H rho m) (hp : H p = none) (h : RDs G rho F xs vs) : RD G rho (upd F p (.lst vs)) (.lst xs) (.ref p) := .lst upd_same (rds_up r hp h)

/-- the values' own items, told over the heap, are told over F -/
theorem RelM.vwl (r : RelM G F H rho m) {d : D} {v : V} {xs : List D} (h : RD G rho F d v) (e : vw m d = .lst xs) : ∃ a vs, v = .ref a ∧ H a = some (.lst vs) ∧ RDs G rho F xs vs := by
  cases d with
  | lst ys =>
    cases e
    cases h with
    | lst h1 h2 => exact ⟨_, _, rfl, r.sub.get h1 rfl, h2⟩
  | ref n =>
    cases h with
    | @ref _ a h =>
      have e : (match m[n]? with
        | some (.lst xs) => D.lst xs
        | some (.dic q kvs) => .dic q kvs
        | some (.ins c fs) => .ins c fs
        | _ => .ref n) = .lst xs := e
      cases q : m[n]? with
      | none =>
        rw [q] at e
        cases e
      | some c =>
        have z := r.cel n a c h q
        rw [q] at e
        cases c with
        | lst ys =>
          cases e
          obtain ⟨vs, e1, e2⟩ := z
          exact ⟨a, vs, rfl, e1, e2⟩
        | dic k kvs => cases e
        | ins c fs => cases e
        | dead => cases e
  | non => cases e
  | bl _ => cases e
  | int _ => cases e
  | str _ => cases e
  | tup _ => cases e
  | scr _ => cases e
  | dic _ _ => cases e
  | ins _ _ => cases e
  | cls _ => cases e
/-- what is no reference is itself -/
theorem vw_of {m : Mem} {d d' : D} (e : vw m d = d') (n : ∀ k, d ≠ .ref k) : d = d' := by
  cases d with
  | ref k => exact absurd rfl (n k)
  | lst _ => exact e
  | non => exact e
  | bl _ => exact e
  | int _ => exact e
  | str _ => exact e
  | tup _ => exact e
  | scr _ => exact e
  | dic _ _ => exact e
  | ins _ _ => exact e
  | cls _ => exact e
theorem vw_ref {m : Mem} {n : Nat} {d : D} (e : vw m (.ref n) = d) : (∃ xs, d = .lst xs) ∨ (∃ q kvs, d = .dic q kvs) ∨ (∃ c fs, d = .ins c fs) ∨ d = .ref n := by
  have e : (match m[n]? with
    | some (.lst xs) => D.lst xs
    | some (.dic q kvs) => .dic q kvs
    | some (.ins c fs) => .ins c fs
    | _ => .ref n) = d := e
  cases q : m[n]? with
  | none =>
    rw [q] at e
    exact .inr (.inr (.inr e.symm))
  | some c =>
    rw [q] at e
    cases c with
    | lst ys => exact .inl ⟨ys, e.symm⟩
    | dic k kvs => exact .inr (.inl ⟨k, kvs, e.symm⟩)
    | ins c fs => exact .inr (.inr (.inl ⟨c, fs, e.symm⟩))
    | dead => exact .inr (.inr (.inr e.symm))
theorem RelM.vwt (r : RelM G F H rho m) {d : D} {v : V} {xs : List D} (h : RD G rho F d v) (e : vw m d = .tup xs) : ∃ a vs, v = .ref a ∧ SqT G.K H a vs ∧ SqT G.K F a vs ∧ RDs G rho F xs vs := by
  have e2 : d = .tup xs := vw_of e fun k z => by
    subst z
    rcases vw_ref e with ⟨_, z⟩ | ⟨_, _, z⟩ | ⟨_, _, z⟩ | z <;> cases z
  subst e2
  cases h with
  | tup h1 h2 => exact ⟨_, _, rfl, .inl (.inl (r.sub.get h1 rfl)), .inl (.inl h1), h2⟩
  | tupK h1 => exact ⟨_, _, rfl, h1 H, h1 F, .nil⟩

theorem vw_tup {d : D} {xs : List D} (e : vw m d = .tup xs) : d = .tup xs := vw_of e fun k z => by
  subst z
  rcases vw_ref e with ⟨_, z⟩ | ⟨_, _, z⟩ | ⟨_, _, z⟩ | z <;> cases z
theorem _root_.IP.RDs.rep {G : GC} {rho : List Addr} {H : Hp} {xs : List D} {vs : List V} (h : RDs G rho H xs vs) : ∀ n : Nat, RDs G rho H (List.replicate n xs).flatten (List.replicate n vs).flatten
  | 0 => .nil
  | n + 1 => by
    rw [List.replicate_succ, List.replicate_succ, List.flatten_cons, List.flatten_cons]
    exact h.append (RDs.rep h n)

/-- the operators, of plain values -/
theorem binP_ok {op : Operator} {dx dy d : D} {x y : V} {v u : Value} {Q : VK} (hK : X.K = G.K) (I : Inv X pins σ H s) (rx : RelV x v) (ry : RelV y u) (r : RelM G F H rho m) (hx : RD G rho F dx x) (hy : RD G rho F dy y)
    (e : binP op (vw m dx) (vw m dy) = some d) (q : Post G W σ (RD1 G) F H rho (.ok d m) Q) : wpAny (model X.prog X.w) X.A (binaryOp op v u) (EP X pins σ Q) X.xe s := by
  have gx := r.view hx
  have gy := r.view hy
  generalize ex : vw m dx = vx at e gx
  generalize ey : vw m dy = vy at e gy
  unfold binP at e
  split at e
  · cases gx; cases gy; cases e
    exact op_add pins s σ H _ _ v u Q I rx ry ⟨_, _, rfl, rfl, q.here r (.int _)⟩
  · cases gx; cases gy
    split at e
    · rename_i h1
      cases e
      exact op_add_str pins s σ H _ _ v u Q I rx ry ⟨_, _, rfl, rfl, of_decide_eq_true h1, q.here r (.str _)⟩
    · cases e
  · split at e
    · rename_i h1
      cases e
      obtain ⟨a, vs, rfl, ha, hvs⟩ := r.vwl hx ex
      obtain ⟨b, ws, rfl, hb, hws⟩ := r.vwl hy ey
      refine op_cat pins s σ H _ _ v u Q I rx ry ⟨a, b, vs, ws, rfl, rfl, ha, hb, ?_, fun p hp => new_frozen r q hp (rd_lst r hp (hvs.append hws))⟩
      rw [← hvs.length, ← hws.length]
      exact of_decide_eq_true h1
    · cases e
  · split at e
    · rename_i h1
      cases e
      obtain ⟨a, vs, rfl, ha, fa, hvs⟩ := r.vwt hx ex
      obtain ⟨b, ws, rfl, hb, fb, hws⟩ := r.vwt hy ey
      refine op_catA pins s σ H _ _ v u Q I rx ry ⟨a, b, vs, ws, rfl, rfl, hK ▸ ha, hK ▸ hb, ?_, fun z => ?_, fun _ z => ?_, fun _ _ p hp => new_frozen r q hp (rd_tup r hp (hvs.append hws))⟩
      · rw [← hvs.length, ← hws.length]
        exact of_decide_eq_true h1
      · subst z
        cases hvs
        have e2 := vw_tup ey
        subst e2
        exact q.here r hy
      · subst z
        cases hws
        rw [List.append_nil] at q
        have e2 := vw_tup ex
        subst e2
        exact q.here r hx
    · cases e
  · cases gx; cases gy; cases e
    exact op_sub pins s σ H _ _ v u Q I rx ry ⟨_, _, rfl, rfl, q.here r (.int _)⟩
  · cases gx; cases gy
    split at e
    · rename_i h1
      cases e
      exact op_mulW pins s σ H _ _ v u Q I rx ry ⟨_, _, rfl, rfl, mulOk_ok h1, q.here r (.int _)⟩
    · cases e
  · cases gy
    split at e
    · rename_i h1
      cases e
      obtain ⟨a, vs, rfl, ha, hvs⟩ := r.vwl hx ex
      simp only [Bool.and_eq_true, decide_eq_true_eq] at h1
      refine op_rep pins s σ H _ _ v u Q I rx ry ⟨a, _, vs, rfl, rfl, ha, h1.1.1, h1.1.2, ?_, fun p hp => new_frozen r q hp (rd_lst r hp (hvs.rep _))⟩
      rw [← hvs.length]
      exact of_decide_eq_true h1.2
    · cases e
  · cases gy
    split at e
    · rename_i h1
      cases e
      obtain ⟨a, vs, rfl, ha, fa, hvs⟩ := r.vwt hx ex
      simp only [Bool.and_eq_true, decide_eq_true_eq, Bool.not_eq_true'] at h1
      obtain ⟨⟨⟨h0, h1⟩, h2⟩, h3⟩ := h1
      rename_i as k
      by_cases hk : k = 1
      · subst hk
        have e2 := vw_tup ex
        subst e2
        have er : (List.replicate (1 : Int).toNat as).flatten = as := by simp
        rw [er] at q
        obtain ⟨t, rfl⟩ := ry
        cases rx
        obtain ⟨its, rv, ⟨⟨cls, dd, data, sl⟩, ho, hc, n, hd⟩, hs⟩ := I.tuple (hK ▸ ha)
        simp only at hc hd
        subst hc hd
        refine wpAny_binaryOp_repeat_ref (T := "tuple") (U := "int") (by decide) ⟨_, ho, rfl⟩ (fun s' => typeIs_int s' 1 t) noFill_tuple_mul PySem.F.fills_int_mul PySem.F.slot_int_rmul repeat_tuple PySem.F.slot_int_index.lookup
          (call_meets PySem.F.slot_int_rmul (typeIs_int s 1 t) PySem.F.entry_int_rmul (PySem.F.args_int_rmul_2 _ _) (int_rmul_tuple 1 t a its.toArray n dd sl)
            ⟨ho, rfl, ⟨_, ho, rfl⟩, call_meets PySem.F.slot_tuple_mul ⟨_, ho, rfl⟩ PySem.F.entry_tuple_mul (PySem.F.args_tuple_mul_2 _ _) (tuple_mul1 a its.toArray n dd sl t) ⟨ho, ?_⟩⟩)
        exact ⟨.ref a, H, I, rfl, q.here r hx⟩
      · refine op_repT pins s σ H _ _ v u Q I rx ry ⟨a, k, vs, rfl, rfl, hK ▸ ha, ?_, by omega, h2, by rw [← hvs.length]; exact h3, fun p hp => new_frozen r q hp (rd_tup r hp (hvs.rep _))⟩
        intro z
        subst z
        cases hvs
        cases h0
    · cases e
  · cases gx; cases gy
    split at e
    · rename_i h1
      cases e
      unfold divOk at h1
      simp only [Bool.and_eq_true, decide_eq_true_eq] at h1
      exact op_fdivG pins s σ H _ _ v u Q I rx ry ⟨_, _, rfl, rfl, h1, q.here r (.int _)⟩
    · cases e
  · cases gx; cases gy
    split at e
    · rename_i h1
      cases e
      exact op_modN pins s σ H _ _ v u Q I rx ry ⟨_, _, rfl, rfl, h1, q.here r (.int _)⟩
    · cases e
  · cases gx; cases gy
    split at e
    · rename_i h1
      cases e
      unfold powOk at h1
      simp only [Bool.and_eq_true, decide_eq_true_eq] at h1
      exact op_powG pins s σ H _ _ v u Q I rx ry ⟨_, _, rfl, rfl, h1, q.here r (.int _)⟩
    · cases e
  · cases e
end

/-! ### plain data -/
mutual
theorem RD.dp {G : GC} {rho : List Addr} {H : Hp} : ∀ (d : D) (v : V) (pd : PyData), d.py = some pd → RD G rho H d v → Dp G.K H v pd
  | .non, _, _, e, h => by cases e; cases h; exact .non
  | .bl _, _, _, e, h => by cases e; cases h; exact .bl _
  | .int _, _, _, e, h => by cases e; cases h; exact .int _
  | .str _, _, _, e, h => by cases e; cases h; exact .str _
  | .tup xs, v, pd, e, h => by
    have e : (D.pys xs).map .tuple = some pd := by simpa only [D.py] using e
    cases q : D.pys xs with
    | none => rw [q] at e; cases e
    | some ps =>
      rw [q] at e
      cases e
      obtain ⟨a, vs, rfl, h1, h2⟩ := h.sqt
      exact .tup h1 (RDs.dp xs vs ps q h2)
  | .lst xs, v, pd, e, h => by
    have e : (D.pys xs).map .list = some pd := by simpa only [D.py] using e
    cases q : D.pys xs with
    | none => rw [q] at e; cases e
    | some ps =>
      rw [q] at e
      cases e
      obtain ⟨a, vs, rfl, h1, h2⟩ := h.sql
      exact .lst h1 (RDs.dp xs vs ps q h2)
  | .dic _ _, _, _, e, _ => by simp [D.py] at e
  | .ins _ _, _, _, e, _ => by simp [D.py] at e
  | .cls _, _, _, e, _ => by simp [D.py] at e
  | .ref _, _, _, e, _ => by simp [D.py] at e
  | .scr _, _, _, e, _ => by simp [D.py] at e
theorem RDs.dp {G : GC} {rho : List Addr} {H : Hp} : ∀ (ds : List D) (vs : List V) (ps : List PyData), D.pys ds = some ps → RDs G rho H ds vs → DpAll G.K H vs ps
  | [], _, _, e, h => by
    simp only [D.pys] at e
    cases e
    cases h
    exact .nil
  | d :: ds, _, ps, e, h => by
    cases h with
    | @cons _ v _ vs h1 h2 =>
      simp only [D.pys] at e
      cases q1 : d.py with
      | none => rw [q1] at e; cases e
      | some a =>
        cases q2 : D.pys ds with
        | none => rw [q1, q2] at e; cases e
        | some r =>
          rw [q1, q2] at e
          cases e
          exact .cons (RD.dp d v a q1 h1) (RDs.dp ds vs r q2 h2)
end
theorem RD.flat {G : GC} {rho : List Addr} {H : Hp} {d : D} {v x : V} (e : d.fl = some x) (h : RD G rho H d v) : v = x ∧ flatV x = true := by
  cases d <;> simp only [D.fl] at e <;> cases e <;> cases h <;> exact ⟨rfl, rfl⟩
theorem RDs.flat {G : GC} {rho : List Addr} {H : Hp} : ∀ {ds : List D} {vs xs : List V}, fls ds = some xs → RDs G rho H ds vs → vs = xs ∧ xs.all flatV = true
  | [], _, _, e, h => by
    cases e
    cases h
    exact ⟨rfl, rfl⟩
  | d :: ds, _, xs, e, h => by
    cases h with
    | @cons _ v _ vs h1 h2 =>
      simp only [fls] at e
      cases q1 : d.fl with
      | none => rw [q1] at e; cases e
      | some a =>
        cases q2 : fls ds with
        | none => rw [q1, q2] at e; cases e
        | some r =>
          rw [q1, q2] at e
          cases e
          obtain ⟨rfl, f1⟩ := RD.flat q1 h1
          obtain ⟨rfl, f2⟩ := RDs.flat q2 h2
          exact ⟨rfl, by rw [List.all_cons, f1, f2] <;> rfl⟩
theorem RDs.ints {G : GC} {rho : List Addr} {H : Hp} : ∀ {ds : List D} {vs : List V} {is : List Int}, intsD ds = some is → RDs G rho H ds vs → vs = is.map V.int
  | [], _, _, e, h => by
    cases e
    cases h
    rfl
  | .int i :: ds, _, is, e, h => by
    cases h with
    | @cons _ v _ vs h1 h2 =>
      simp only [intsD] at e
      cases q2 : intsD ds with
      | none => rw [q2] at e; cases e
      | some r =>
        rw [q2] at e
        cases e
        cases h1
        rw [RDs.ints q2 h2] <;> rfl
  | .non :: _, _, _, e, _ => by cases e
  | .bl _ :: _, _, _, e, _ => by cases e
  | .str _ :: _, _, _, e, _ => by cases e
  | .tup _ :: _, _, _, e, _ => by cases e
  | .lst _ :: _, _, _, e, _ => by cases e
  | .dic _ _ :: _, _, _, e, _ => by cases e
  | .ins _ _ :: _, _, _, e, _ => by cases e
  | .cls _ :: _, _, _, e, _ => by cases e
  | .ref _ :: _, _, _, e, _ => by cases e
  | .scr _ :: _, _, _, e, _ => by cases e
/-! ### dicts -/
theorem keyD_rd {G : GC} {rho : List Addr} {H : Hp} {d : D} {v : V} {k : Key} (e : keyD d = some k) (h : RD G rho H d v) : v = kV k := by
  cases d <;> simp only [keyD] at e <;> cases e <;> cases h <;> rfl
theorem keyL_rd {G : GC} {rho : List Addr} {H : Hp} : ∀ {ds : List D} {vs : List V} {ks : List Key}, ds.mapM keyD = some ks → RDs G rho H ds vs → vs = ks.map kV
  | [], _, _, e, h => by
    cases e
    cases h
    rfl
  | d :: ds, _, ks, e, h => by
    cases h with
    | @cons _ v _ vs h1 h2 =>
      rw [List.mapM_cons] at e
      cases q1 : keyD d with
      | none => rw [q1] at e; cases e
      | some a =>
        cases q2 : ds.mapM keyD with
        | none => rw [q1, q2] at e; cases e
        | some r =>
          rw [q1, q2] at e
          cases e
          rw [keyD_rd q1 h1, keyL_rd q2 h2] <;> rfl
inductive RO (G : GC) (rho : List Addr) (H : Hp) : Option D → Option V → Prop
  | non : RO G rho H none none
  | som {d : D} {v : V} : RD G rho H d v → RO G rho H (some d) (some v)
theorem RDk.val {G : GC} {rho : List Addr} {H : Hp} (k : Key) : ∀ {xs : List (D × D)} {kvs : List (Key × V)}, RDk G rho H xs kvs → RO G rho H ((xs.find? fun p => decide (keyD p.1 = some k)).map (·.2)) (valV kvs k)
  | _, _, .nil => .non
  | _, _, .cons (x := x) (d := d) (k := k') (v := v) (ds := ds) (vs := vs) e h t => by
    by_cases hk : k' = k
    · subst hk
      have c1 : (fun p : D × D => decide (keyD p.1 = some k')) (x, d) = true := decide_eq_true e
      have c3 := List.find?_cons_of_pos (p := fun p : D × D => decide (keyD p.1 = some k')) (a := (x, d)) (l := ds) c1
      have c2 : valV ((k', v) :: vs) k' = some v := by simp [valV]
      rw [c3, c2]
      exact .som h
    · have c1 : ¬ (fun p : D × D => decide (keyD p.1 = some k)) (x, d) = true := by
        show ¬ decide (keyD x = some k) = true
        rw [e]
        simpa using hk
      have c3 := List.find?_cons_of_neg (p := fun p : D × D => decide (keyD p.1 = some k)) (a := (x, d)) (l := ds) c1
      have c2 : valV ((k', v) :: vs) k = valV vs k := by simp [valV, List.find?_cons_of_neg, hk]
      rw [c3, c2]
      exact RDk.val k t
theorem RDt.val {G : GC} {rho : List Addr} {H : Hp} (k : List Key) : ∀ {xs : List (D × D)} {kvs : List (List Key × V)}, RDt G rho H xs kvs → RO G rho H ((xs.find? fun p => decide (keyT p.1 = some k)).map (·.2)) (valV kvs k)
  | _, _, .nil => .non
  | _, _, .cons (x := x) (d := d) (k := k') (v := v) (ds := ds) (vs := vs) e h t => by
    by_cases hk : k' = k
    · subst hk
      have c1 : (fun p : D × D => decide (keyT p.1 = some k')) (x, d) = true := decide_eq_true e
      have c3 := List.find?_cons_of_pos (p := fun p : D × D => decide (keyT p.1 = some k')) (a := (x, d)) (l := ds) c1
      have c2 : valV ((k', v) :: vs) k' = some v := by simp [valV]
      rw [c3, c2]
      exact .som h
    · have c1 : ¬ (fun p : D × D => decide (keyT p.1 = some k)) (x, d) = true := by
        show ¬ decide (keyT x = some k) = true
        rw [e]
        simpa using hk
      have c3 := List.find?_cons_of_neg (p := fun p : D × D => decide (keyT p.1 = some k)) (a := (x, d)) (l := ds) c1
      have c2 : valV ((k', v) :: vs) k = valV vs k := by simp [valV, List.find?_cons_of_neg, hk]
      rw [c3, c2]
      exact RDt.val k t
/-- a dict where it stands, its entries over F -/
inductive DicAt (G : GC) (rho : List Addr) (F H : Hp) : DK → List (D × D) → Addr → Prop
  | k {kvs : List (D × D)} {ks : List (Key × V)} {a : Addr} : Rd H a (.dK ks) → RDk G rho F kvs ks → DicAt G rho F H .k kvs a
  | t {kvs : List (D × D)} {ks : List (List Key × V)} {a : Addr} : Rd H a (.dT ks) → RDt G rho F kvs ks → DicAt G rho F H .t kvs a
theorem RelM.vwd {G : GC} {rho : List Addr} {F H : Hp} {m : Mem} (r : RelM G F H rho m) {d : D} {v : V} {q : DK} {kvs : List (D × D)} (h : RD G rho F d v) (e : IP.vw m d = .dic q kvs) : ∃ a, v = .ref a ∧ DicAt G rho F H q kvs a := by
  cases d with
  | dic q' ys =>
    cases e
    cases h with
    | dicK h1 h2 => exact ⟨_, rfl, .k (r.sub.rd2 h1) h2⟩
    | dicT h1 h2 => exact ⟨_, rfl, .t (r.sub.rd2 h1) h2⟩
  | ref n =>
    cases h with
    | @ref _ a h =>
      have e : (match m[n]? with
        | some (.lst xs) => D.lst xs
        | some (.dic q kvs) => .dic q kvs
        | some (.ins c fs) => .ins c fs
        | _ => .ref n) = .dic q kvs := e
      cases q : m[n]? with
      | none =>
        rw [q] at e
        cases e
      | some c =>
        have z := r.cel n a c h q
        rw [q] at e
        cases c with
        | lst ys => cases e
        | dic k kvs =>
          cases k with
          | k =>
            cases e
            obtain ⟨vs, e1, e2⟩ := z
            exact ⟨a, rfl, .k (.inl e1) e2⟩
          | t =>
            cases e
            obtain ⟨vs, e1, e2⟩ := z
            exact ⟨a, rfl, .t (.inl e1) e2⟩
        | ins c fs => cases e
        | dead => cases e
  | _ => cases e
theorem DicAt.of {G : GC} {rho : List Addr} {H : Hp} {q : DK} {kvs : List (D × D)} {v : V} (h : RD G rho H (.dic q kvs) v) : ∃ a, v = .ref a ∧ DicAt G rho H H q kvs a := by
  cases h with
  | dicK h1 h2 => exact ⟨_, rfl, .k h1 h2⟩
  | dicT h1 h2 => exact ⟨_, rfl, .t h1 h2⟩
/-- a look into a dict -/
theorem getP_ok {G : GC} {rho : List Addr} {F H : Hp} {q : DK} {kvs : List (D × D)} {x : D} {o : Option D} {a : Addr} {vx : V} (e : getP q kvs x = some o) (hd : DicAt G rho F H q kvs a) (hx : RD G rho H x vx) :
    ∃ r, DGet H a vx r ∧ RO G rho F o r := by
  cases hd with
  | k h1 h2 =>
    simp only [getP] at e
    cases q1 : keyD x with
    | none => rw [q1] at e; cases e
    | some k =>
      rw [q1] at e
      cases e
      exact ⟨_, .inl ⟨_, k, h1, keyD_rd q1 hx, rfl⟩, RDk.val k h2⟩
  | t h1 h2 =>
    simp only [getP] at e
    cases q1 : keyT x with
    | none => rw [q1] at e; cases e
    | some k =>
      rw [q1] at e
      cases e
      cases hx with
      | @tup a vs ys g1 g2 =>
        cases ys with
        | nil => cases q1
        | cons y ys => exact ⟨_, .inr ⟨_, k, _, h1, rfl, by rw [g1, keyL_rd (show (y :: ys).mapM keyD = some k from q1) g2], rfl⟩, RDt.val k h2⟩
      | _ => cases q1
section
variable {X : Cx} {G : GC} {W : WX} {σ : L2.St} {F H : Hp} {rho : List Addr} {m : Mem} {pins : List (Addr × Obj)} {s : Shared}
theorem eqB_some {x y : D} {b : Bool} (e : eqB x y = some b) : ∃ p q, x.py = some p ∧ y.py = some q ∧ SeqAt.shaped p = true ∧ SeqAt.shaped q = true ∧ b = PyData.eqv p q := by
  unfold eqB at e
  cases h1 : x.py with
  | none => rw [h1] at e; cases e
  | some p =>
    cases h2 : y.py with
    | none => rw [h1, h2] at e; cases e
    | some q =>
      rw [h1, h2] at e
      simp only at e
      split at e
      · rename_i h
        cases e
        simp only [Bool.and_eq_true] at h
        exact ⟨p, q, rfl, rfl, h.1, h.2, rfl⟩
      · cases e
theorem inB_some {x : D} {ys : List D} {b : Bool} (e : inB x ys = some b) : ∃ p qs, x.py = some p ∧ D.pys ys = some qs ∧ SeqAt.shaped p = true ∧ SeqAt.shaped (.list qs) = true ∧ b = qs.any fun z => PyData.eqv z p := by
  unfold inB at e
  cases h1 : x.py with
  | none => rw [h1] at e; cases e
  | some p =>
    cases h2 : D.pys ys with
    | none => rw [h1, h2] at e; cases e
    | some q =>
      rw [h1, h2] at e
      simp only at e
      split at e
      · rename_i h
        cases e
        simp only [Bool.and_eq_true] at h
        exact ⟨p, q, rfl, rfl, h.1, h.2, rfl⟩
      · cases e
theorem inT_some {x : D} {ys : List D} {b : Bool} (e : inT x ys = some b) : ∃ a bs, x.fl = some a ∧ fls ys = some bs ∧ b = inV a bs := by
  unfold inT at e
  cases h1 : x.fl with
  | none => rw [h1] at e; cases e
  | some p =>
    cases h2 : fls ys with
    | none => rw [h1, h2] at e; cases e
    | some q =>
      rw [h1, h2] at e
      cases e
      exact ⟨p, q, rfl, rfl, rfl⟩
theorem py_list {ys : List D} {qs : List PyData} (e : D.pys ys = some qs) : (D.lst ys).py = some (.list qs) := by simp [D.py, e]

theorem py_tuple {ys : List D} {qs : List PyData} (e : D.pys ys = some qs) : (D.tup ys).py = some (.tuple qs) := by simp [D.py, e]
theorem map_some {α β : Type} {o : Option α} {f : α → β} {b : β} (e : o.map f = some b) : ∃ a, o = some a ∧ b = f a := by
  cases o with
  | none => cases e
  | some a => cases e; exact ⟨a, rfl, rfl⟩
theorem eqJ_ok {x y : D} {b : Bool} {vx vy : V} {v u : Value} {A : Around} (hK : X.K = G.K) (hu : A.units + 64 < cLine) (I : Inv X pins σ H s) (e : eqJ x y = some b) (gx : RD G rho H x vx) (gy : RD G rho H y vy) (rx : RelV vx v) (ry : RelV vy u) : SeqAt.EqP X.prog X.w A s v u b := by
  unfold eqJ at e
  split at e
  · split at e
    · rename_i n k hn
      subst hn
      cases e
      cases gx with
      | ref h1 =>
        cases gy with
        | ref h2 =>
          rw [h1] at h2
          cases h2
          cases rx
          cases ry
          exact (SeqAt.EqAt.same _).eqP
    · cases e
  · obtain ⟨p, q', e1, e2, s1, s2, rfl⟩ := eqB_some e
    obtain ⟨as, r1⟩ := Dp.reads I p _ v (hK ▸ RD.dp _ _ _ e1 gx) rx
    obtain ⟨bs, r2⟩ := Dp.reads I q' _ u (hK ▸ RD.dp _ _ _ e2 gy) ry
    exact (SeqAt.eqAt_reads p q' A s v u as bs r1 r2 (SeqAt.canLay_of_shaped s1) (SeqAt.canLay_of_shaped s2) (SeqAt.room_of_shaped s1 hu)).eqP
theorem range_all_succ (n : Nat) (f : Nat → Bool) : (List.range (n + 1)).all f = (f 0 && (List.range n).all fun j => f (j + 1)) := by
  rw [List.range_succ_eq_map]
  simp [Function.comp_def]
theorem eqIs_ok {A : Around} {q : D → D → Option Bool} (hq : ∀ {x y : D} {b : Bool} {vx vy : V} {v u : Value}, q x y = some b → RD G rho H x vx → RD G rho H y vy → RelV vx v → RelV vy u → SeqAt.EqP X.prog X.w A s v u b) : ∀ {xs ys : List D} {b : Bool} {vs ws : List V} {us zs : List Value}, eqIs q xs ys = some b → RDs G rho H xs vs → RDs G rho H ys ws → Vals vs us → Vals ws zs →
    us.length = zs.length ∧ ∃ f : Nat → Bool, (∀ j (h1 : j < us.length) (h2 : j < zs.length), SeqAt.EqP X.prog X.w A s us[j] zs[j] (f j)) ∧ b = (List.range us.length).all f
  | [], [], b, _, _, _, _, e, .nil, .nil, .nil, .nil => by
    cases e
    exact ⟨rfl, fun _ => true, fun j h1 => absurd h1 (Nat.not_lt_zero j), rfl⟩
  | [], _ :: _, _, _, _, _, _, e, _, _, _, _ => by cases e
  | _ :: _, [], _, _, _, _, _, e, _, _, _, _ => by cases e
  | x :: xs, y :: ys, b, _, _, _, _, e, .cons g1 t1, .cons g2 t2, .cons r1 k1, .cons r2 k2 => by
    unfold eqIs at e
    split at e
    · rename_i a c e1 e2
      cases e
      obtain ⟨hl, f, hf, hb⟩ := eqIs_ok hq e2 t1 t2 k1 k2
      refine ⟨by simp [hl], fun j => match j with | 0 => a | j + 1 => f j, fun j h1 h2 => ?_, ?_⟩
      · cases j with
        | zero => exact hq e1 g1 g2 r1 r2
        | succ j => exact hf j (Nat.lt_of_succ_lt_succ h1) (Nat.lt_of_succ_lt_succ h2)
      · rw [List.length_cons, range_all_succ, hb]
    · cases e
theorem eqN_ok (hK : X.K = G.K) (I : Inv X pins σ H s) : ∀ (n : Nat) {x y : D} {b : Bool} {vx vy : V} {v u : Value} {A : Around}, A.units + (64 + n) < cLine → eqN n x y = some b → RD G rho H x vx → RD G rho H y vy → RelV vx v → RelV vy u → SeqAt.EqP X.prog X.w A s v u b
  | 0, x, y, b, vx, vy, v, u, A, hu, e, gx, gy, rx, ry => eqJ_ok hK hu I e gx gy rx ry
  | n + 1, x, y, b, vx, vy, v, u, A, hu, e, gx, gy, rx, ry => by
    have ih : ∀ {x y : D} {b : Bool} {vx vy : V} {v u : Value}, eqN n x y = some b → RD G rho H x vx → RD G rho H y vy → RelV vx v → RelV vy u → SeqAt.EqP X.prog X.w A.in1 s v u b :=
      fun e g1 g2 k1 k2 => eqN_ok hK I n (by show A.units + 1 + (64 + n) < cLine; omega) e g1 g2 k1 k2
    unfold eqN at e
    split at e
    · rename_i b' e'
      cases e
      exact eqJ_ok hK (by omega) I e' gx gy rx ry
    · split at e
      · split at e
        · rename_i ht
          cases e
          obtain ⟨a1, vs1, rfl, h1, r1⟩ := gx.sql
          obtain ⟨a2, vs2, rfl, h2, r2⟩ := gy.sql
          cases (show v = Value.ref a1 from rx)
          cases (show u = Value.ref a2 from ry)
          by_cases ha : a1 = a2
          · subst ha
            exact (SeqAt.EqAt.same _).eqP
          · obtain ⟨us, w1, p1, _⟩ := I.list (hK ▸ h1)
            obtain ⟨ws, w2, p2, _⟩ := I.list (hK ▸ h2)
            obtain ⟨hl, f, hf, hb⟩ := eqIs_ok (A := A.in1) ih ht r1 r2 w1 w2
            refine SeqAt.eqP_refs ha fun E Q h => SeqAt.rcP_lists (e := f) p1.isList p2.isList (by simpa using hl) (by omega) (fun j g1 g2 => ?_) E Q ?_
            · have := hf j (by simpa using g1) (by simpa using g2)
              simpa using this
            · rw [List.size_toArray, ← hb]
              exact h
        · cases e
      · split at e
        · rename_i ht
          cases e
          obtain ⟨a1, vs1, rfl, h1, r1⟩ := gx.sqt
          obtain ⟨a2, vs2, rfl, h2, r2⟩ := gy.sqt
          cases (show v = Value.ref a1 from rx)
          cases (show u = Value.ref a2 from ry)
          by_cases ha : a1 = a2
          · subst ha
            exact (SeqAt.EqAt.same _).eqP
          · obtain ⟨us, w1, p1, _⟩ := I.tuple (hK ▸ h1)
            obtain ⟨ws, w2, p2, _⟩ := I.tuple (hK ▸ h2)
            obtain ⟨hl, f, hf, hb⟩ := eqIs_ok (A := A.in1) ih ht r1 r2 w1 w2
            refine SeqAt.eqP_refs ha fun E Q h => SeqAt.rcIn_tuples (e := f) p1 p2 (by omega) (fun j g1 g2 => ?_) ?_
            · have := hf j (by simpa using g1) (by simpa using g2)
              show SeqAt.EqP _ _ _ _ _ _ _
              simpa using this
            · rw [List.size_toArray, List.size_toArray, hl, Nat.min_self, ← hl, ← hb]
              simpa using h
        · cases e
      · cases e
/-- the comparisons, of plain values -/
theorem cmpP_ok {op : CmpOp} {vx vy : D} {b : Bool} {x y : V} {v u : Value} {Q : VK} (hK : X.K = G.K) (hu : X.A.units + 70 < cLine) (I : Inv X pins σ H s) (rx : RelV x v) (ry : RelV y u) (gx : RD G rho H vx x) (gy : RD G rho H vy y)
    (e : cmpP op vx vy = some b) (q : Q (.bl b) H) : wpAny (model X.prog X.w) X.A (compareOp op v u) (EP X pins σ Q) X.xe s := by
  unfold cmpP at e
  split at e
  · unfold eqC at e
    split at e
    · rename_i b' e'
      cases e
      obtain ⟨p, q', e1, e2, s1, s2, rfl⟩ := eqB_some e'
      exact op_eqD (by omega) pins s σ H x y v u Q I rx ry ⟨p, q', hK ▸ RD.dp _ _ _ e1 gx, hK ▸ RD.dp _ _ _ e2 gy, s1, s2, q⟩
    · split at e
      · obtain ⟨a1, vs1, rfl, h1, r1⟩ := gx.sql
        obtain ⟨a2, vs2, rfl, h2, r2⟩ := gy.sql
        cases (show v = Value.ref a1 from rx)
        cases (show u = Value.ref a2 from ry)
        obtain ⟨us, w1, p1, _⟩ := I.list (hK ▸ h1)
        obtain ⟨ws, w2, p2, _⟩ := I.list (hK ▸ h2)
        obtain ⟨hl, f, hf, hb⟩ := eqIs_ok (A := X.A.in1) (fun e g1 g2 k1 k2 => eqN_ok hK I 4 (by show X.A.units + 1 + (64 + 4) < cLine; omega) e g1 g2 k1 k2) e r1 r2 w1 w2
        refine SeqAt.rcP_lists (e := f) p1.isList p2.isList (by simpa using hl) (by omega) (fun j g1 g2 => ?_) X.xe _ ?_
        · have := hf j (by simpa using g1) (by simpa using g2)
          simpa using this
        · rw [List.size_toArray, ← hb]
          exact ⟨.bl b, H, I, rfl, q⟩
      · cases e
  · obtain ⟨b0, e0, rfl⟩ := map_some e
    unfold eqC at e0
    split at e0
    · rename_i b' e'
      cases e0
      obtain ⟨p, q', e1, e2, s1, s2, rfl⟩ := eqB_some e'
      exact op_neD (by omega) pins s σ H x y v u Q I rx ry ⟨p, q', hK ▸ RD.dp _ _ _ e1 gx, hK ▸ RD.dp _ _ _ e2 gy, s1, s2, q⟩
    · split at e0
      · obtain ⟨a1, vs1, rfl, h1, r1⟩ := gx.sql
        obtain ⟨a2, vs2, rfl, h2, r2⟩ := gy.sql
        cases (show v = Value.ref a1 from rx)
        cases (show u = Value.ref a2 from ry)
        obtain ⟨us, w1, p1, _⟩ := I.list (hK ▸ h1)
        obtain ⟨ws, w2, p2, _⟩ := I.list (hK ▸ h2)
        obtain ⟨hl, f, hf, hb⟩ := eqIs_ok (A := X.A.in1) (fun e g1 g2 k1 k2 => eqN_ok hK I 4 (by show X.A.units + 1 + (64 + 4) < cLine; omega) e g1 g2 k1 k2) e0 r1 r2 w1 w2
        refine rcP_neL (e := f) p1.isList p2.isList (by simpa using hl) (by omega) (fun j g1 g2 => ?_) X.xe _ ?_
        · have := hf j (by simpa using g1) (by simpa using g2)
          simpa using this
        · rw [List.size_toArray, ← hb]
          exact ⟨.bl (!b0), H, I, rfl, q⟩
      · cases e0
  · unfold ltP at e
    split at e
    · cases gx; cases gy; cases e
      exact op_lt pins s σ H _ _ v u Q I rx ry ⟨_, _, rfl, rfl, q⟩
    · cases gx; cases gy; cases e
      exact op_lt_str pins s σ H _ _ v u Q I rx ry ⟨_, _, rfl, rfl, q⟩
    · split at e
      · rename_i e1 e2
        cases e
        obtain ⟨a, vs, rfl, h1, h2⟩ := gx.sqt
        obtain ⟨a', vs', rfl, h1', h2'⟩ := gy.sqt
        have z1 := RDs.ints e1 h2
        have z2 := RDs.ints e2 h2'
        subst z1 z2
        exact op_ltT (by omega) pins s σ H _ _ v u Q I rx ry ⟨_, _, _, _, rfl, rfl, hK ▸ h1, hK ▸ h1', q⟩
      · cases e
    · cases e
  · split at e
    · cases e
    · unfold ltP at e
      split at e
      · cases gx; cases gy; cases e
        exact op_gt pins s σ H _ _ v u Q I rx ry ⟨_, _, rfl, rfl, q⟩
      · cases gx; cases gy; cases e
        exact op_gt_str pins s σ H _ _ v u Q I rx ry ⟨_, _, rfl, rfl, q⟩
      · rename_i hno
        first | exact (hno rfl rfl).elim | exact (hno _ _).elim | (simp at hno)
      · cases e
  · split at e
    · cases gx; cases gy; cases e
      exact op_le pins s σ H _ _ v u Q I rx ry ⟨_, _, rfl, rfl, q⟩
    · split at e
      · rename_i e1 e2
        cases e
        obtain ⟨a, vs, rfl, h1, h2⟩ := gx.sqt
        obtain ⟨a', vs', rfl, h1', h2'⟩ := gy.sqt
        have z1 := RDs.ints e1 h2
        have z2 := RDs.ints e2 h2'
        subst z1 z2
        exact op_leT (by omega) pins s σ H _ _ v u Q I rx ry ⟨_, _, _, _, rfl, rfl, hK ▸ h1, hK ▸ h1', q⟩
      · cases e
    · cases e
  · split at e
    · cases gx; cases gy; cases e
      exact op_ge pins s σ H _ _ v u Q I rx ry ⟨_, _, rfl, rfl, q⟩
    · cases e
  · split at e
    · cases gy
      refine op_isN pins s σ H _ _ v u Q I rx ry ⟨rfl, ?_⟩
      cases gx <;> cases e <;> exact q
    · cases e
  · split at e
    · cases gy
      refine op_notN pins s σ H _ _ v u Q I rx ry ⟨rfl, ?_⟩
      cases gx <;> cases e <;> exact q
    · cases e
  · split at e
    · obtain ⟨p, qs, e1, e2, s1, s2, rfl⟩ := inB_some e
      exact op_inD (by omega) pins s σ H x y v u Q I rx ry ⟨p, qs, hK ▸ RD.dp _ _ _ e1 gx, hK ▸ RD.dp _ _ _ (py_list e2) gy, s1, s2, q⟩
    · unfold inU at e
      split at e
      · rename_i e''
        cases e
        obtain ⟨p, qs, e1, e2, rfl⟩ := inT_some e''
        obtain ⟨rfl, f1⟩ := RD.flat e1 gx
        obtain ⟨a, vs, rfl, h1, h2⟩ := gy.sqt
        obtain ⟨rfl, f2⟩ := RDs.flat e2 h2
        exact op_in_seq pins s σ H _ _ v u Q I rx ry ⟨a, _, rfl, .inr (hK ▸ h1), f1, f2, q⟩
      · obtain ⟨p, qs, e1, e2, s1, s2, rfl⟩ := inB_some e
        obtain ⟨as, r1⟩ := Dp.reads I p x v (hK ▸ RD.dp _ _ _ e1 gx) rx
        obtain ⟨bs, r2⟩ := Dp.reads I (.tuple qs) y u (hK ▸ RD.dp _ _ _ (py_tuple e2) gy) ry
        exact SeqAt.in_tuple_reads r2 r1 (SeqAt.canLay_of_shaped s2) (SeqAt.canLay_of_shaped s1) (room_in_shaped s1 (by omega)) ⟨.bl _, H, I, rfl, q⟩
    · cases gy
      split at e
      · cases gx
        split at e
        · rename_i a _ c hc
          cases e
          have ea : a = ⟨#[c]⟩ := by
            cases a with
            | mk cps =>
              simp only at hc
              have : cps = #[c] := by
                rw [← Array.toArray_toList (xs := cps), hc]
              rw [this]
          subst ea
          exact op_in_sign pins s σ H _ _ v u Q I rx ry ⟨c, _, rfl, rfl, q⟩
        · cases e
      · cases e
    · obtain ⟨o, e', rfl⟩ := map_some e
      obtain ⟨a, rfl, hd⟩ := DicAt.of gy
      obtain ⟨r, hg, ho⟩ := getP_ok e' hd gx
      cases ry
      have hb : o.isSome = r.isSome := by cases ho <;> rfl
      exact d_in (by omega) I hg rx fun s3 I3 => ⟨.bl r.isSome, H, I3, rfl, hb ▸ q⟩
    · cases e
  · split at e
    · obtain ⟨b', e', rfl⟩ := map_some e
      obtain ⟨p, qs, e1, e2, s1, s2, rfl⟩ := inB_some e'
      exact op_notInD (by omega) pins s σ H x y v u Q I rx ry ⟨p, qs, hK ▸ RD.dp _ _ _ e1 gx, hK ▸ RD.dp _ _ _ (py_list e2) gy, s1, s2, q⟩
    · obtain ⟨b', e', rfl⟩ := map_some e
      unfold inU at e'
      split at e'
      · rename_i e''
        cases e'
        obtain ⟨p, qs, e1, e2, rfl⟩ := inT_some e''
        obtain ⟨rfl, f1⟩ := RD.flat e1 gx
        obtain ⟨a, vs, rfl, h1, h2⟩ := gy.sqt
        obtain ⟨rfl, f2⟩ := RDs.flat e2 h2
        exact op_notIn_seq pins s σ H _ _ v u Q I rx ry ⟨a, _, rfl, .inr (hK ▸ h1), f1, f2, q⟩
      · obtain ⟨p, qs, e1, e2, s1, s2, rfl⟩ := inB_some e'
        obtain ⟨as, r1⟩ := Dp.reads I p x v (hK ▸ RD.dp _ _ _ e1 gx) rx
        obtain ⟨bs, r2⟩ := Dp.reads I (.tuple qs) y u (hK ▸ RD.dp _ _ _ (py_tuple e2) gy) ry
        exact SeqAt.notIn_tuple_reads r2 r1 (SeqAt.canLay_of_shaped s2) (SeqAt.canLay_of_shaped s1) (room_in_shaped s1 (by omega)) ⟨.bl _, H, I, rfl, q⟩
    · cases gy
      split at e
      · cases gx
        split at e
        · rename_i a _ c hc
          cases e
          have ea : a = ⟨#[c]⟩ := by
            cases a with
            | mk cps =>
              simp only at hc
              have : cps = #[c] := by
                rw [← Array.toArray_toList (xs := cps), hc]
              rw [this]
          subst ea
          exact op_notIn_sign pins s σ H _ _ v u Q I rx ry ⟨c, _, rfl, rfl, q⟩
        · cases e
      · cases e
    · obtain ⟨o, e', rfl⟩ := map_some e
      obtain ⟨a, rfl, hd⟩ := DicAt.of gy
      obtain ⟨r, hg, ho⟩ := getP_ok e' hd gx
      cases ry
      have hb : o.isSome = r.isSome := by cases ho <;> rfl
      exact d_notIn (by omega) I hg rx fun s3 I3 => ⟨.bl (!r.isSome), H, I3, rfl, hb ▸ q⟩
    · cases e
end
end IP

/-! IpE -/
set_option Elab.async false
set_option linter.all false
set_option maxRecDepth 100000
set_option maxHeartbeats 4000000
/-! IpE: expressions without calls. -/
namespace IP
open PySem L2 PyProof.Rows

/-- where one stands -/
structure Base (X : Cx) (G : GC) (W : WX) (g : Gl) : Prop where
  hK : X.K = G.K
  hm : X.mg = G.mg
  tk : Takes X W
  units : X.A.units + 70 < cLine
  calm : g.cur = none → X.calm = true
  nd : X.N.Nodup
  slc : g.cur.isNone = true → G.sl = none

abbrev SE (X : Cx) (G : GC) (W : WX) (g : Gl) (e : Expr) (a : E) : Prop := PE X e (tI G W (RD1 G) (ev g a))
abbrev ST (X : Cx) (G : GC) (W : WX) (g : Gl) (e : Expr) (a : E) : Prop := PT X e (tI G W REq (evT g a))
abbrev SA (X : Cx) (G : GC) (W : WX) (g : Gl) (es : List Expr) (as : Es) : Prop := PA X es (tI G W (RDL G) (evs g as))

section
variable {X : Cx} {G : GC} {W : WX} {g : Gl} {a b c : E} {ea eb ec : Expr} {pos : Pos}
theorem se_loc {i : Nat} {x : Str} (hN : X.N[i]? = some x) (hv : Vis X.env.scope x) (hd : (x == ("__debug__" : Str)) = false) (hcd : (x == ("__classdict__" : Str)) = false) : SE X G W g (.Name x pos) (.loc i) := by
  refine (pe_var hN hv hd hcd).imp fun σ H Q h => ?_
  obtain ⟨F, rho, m, e, r, re, hp⟩ := h
  unfold ev at hp
  split at hp
  · rename_i d he
    obtain ⟨v, e1, e2⟩ := re.2.1 i d he
    exact ⟨v, e1, hp.here r e2⟩
  · exact hp.elim
theorem se_const {d : D} {v : V} (h : PE X ea (tC v)) (hr : ∀ rho H, RD G rho H d v) : SE X G W g ea (.con d) := by
  refine h.imp fun σ H Q h => ?_
  obtain ⟨F, rho, m, e, r, re, hp⟩ := h
  unfold ev at hp
  exact hp.here r (hr rho F)
theorem se_gcon {x : String} {d : D} {v : V} (h : PE X ea (tC v)) (hr : ∀ rho H, RD G rho H d v) : SE X G W g ea (.gcon x d) := by
  refine h.imp fun σ H Q h => ?_
  obtain ⟨F, rho, m, e, r, re, hp⟩ := h
  unfold ev at hp
  exact hp.here r (hr rho F)

/-- two in a row -/
theorem two (ha : SE X G W g ea a) (hb : SE X G W g eb b) {pins : List (Addr × Obj)} {s : Shared} {σ : L2.St} {H : Hp} (I : Inv X pins σ H s) {α β : Type} {R : Hp → List Addr → α → β → Prop} {k : D → D → Mem → Res α} {Q : β → Hp → Prop}
    (h : tI G W R (fun e m => (ev g a e m).bind fun x m1 => (ev g b e m1).bind fun y m2 => k x y m2) σ H Q) {γ : Type} {QQ : γ → Shared → Prop} {f : Value → Value → Sem γ}
    (hf : ∀ (v u : Value) (s2 : Shared) (x y : V) (H2 F2 : Hp) (rho2 : List Addr) (m2 : Mem) (dx dy : D), Inv X pins σ H2 s2 → RelV x v → RelV y u → RelM G F2 H2 rho2 m2 → RD G rho2 F2 dx x → RD G rho2 F2 dy y → (∃ F0 rho0, ∃ e, RelE G F0 rho0 e σ) →
      Post G W σ R F2 H2 rho2 (k dx dy m2) Q → wpAny (model X.prog X.w) X.A (f v u) QQ X.xe s2) :
    wpAny (model X.prog X.w) X.A (eval ea X.env) (fun v s₁ => wpAny (model X.prog X.w) X.A (eval eb X.env) (fun u s₂ => wpAny (model X.prog X.w) X.A (f v u) QQ X.xe s₂) X.xe s₁) X.xe s := by
  obtain ⟨F, rho, m, e, r, re, hp⟩ := h
  refine thn (ha.run pins s σ H _ I (tI.mk r re (Post.bind (R1 := RD1 G) hp))) fun v s1 ⟨x, H1, I1, rx, F1, rho1, dx, m1, x1, r1, d1, hp1⟩ => ?_
  refine thn (hb.run pins s1 σ H1 _ I1 (tI.mk r1 (x1.rde r re) (Post.bind (R1 := RD1 G) hp1))) fun u s2 ⟨y, H2, I2, ry, F2, rho2, dy, m2, x2, r2, d2, hp2⟩ => ?_
  exact hf v u s2 x y H2 F2 rho2 m2 dx dy I2 rx ry r2 (x2.rd r1 d1) d2 ⟨F, rho, e, re⟩ hp2

/-! ### and, or, not, tests -/
theorem st_not (h : ST X G W g ea a) : ST X G W g (.UnaryOp .Not ea pos) (.nt a) := by
  refine (pt_not h).imp fun σ H Q hq => ?_
  obtain ⟨F, rho, m, e, r, re, hp⟩ := hq
  unfold evT at hp
  refine tI.mk r re ((Post.bind (R1 := REq) hp).imp fun v H' ⟨F1, rho1, d, m1, x1, r1, rr, hp1⟩ => ?_)
  cases rr
  exact hp1.here r1 rfl
theorem sw_and1 (h : ST X G W g ea a) : PW X (.BoolOp .And [ea] pos) (tI G W REq (evT g a)) := pw_and1 h
theorem sw_and (ha : ST X G W g ea a) {rest : List Expr} (hb : PW X (.BoolOp .And (eb :: rest) pos) (tI G W REq (evT g b))) : PW X (.BoolOp .And (ea :: eb :: rest) pos) (tI G W REq (evT g (.an a b))) := by
  refine (pw_and ha hb).imp fun σ H Q hq => ?_
  obtain ⟨F, rho, m, e, r, re, hp⟩ := hq
  unfold evT at hp
  refine tI.mk r re ((Post.bind (R1 := REq) hp).imp fun v H' ⟨F1, rho1, d, m1, x1, r1, rr, hp1⟩ => ?_)
  cases rr
  cases v with
  | true => exact iteT (tI.mk r1 (x1.rde r re) hp1)
  | false => exact iteF (hp1.here r1 rfl)
theorem sw_or1 (h : ST X G W g ea a) : PW X (.BoolOp .Or [ea] pos) (tI G W REq (evT g a)) := pw_or1 h
theorem sw_or (ha : ST X G W g ea a) {rest : List Expr} (hb : PW X (.BoolOp .Or (eb :: rest) pos) (tI G W REq (evT g b))) : PW X (.BoolOp .Or (ea :: eb :: rest) pos) (tI G W REq (evT g (.orr a b))) := by
  refine (pw_or ha hb).imp fun σ H Q hq => ?_
  obtain ⟨F, rho, m, e, r, re, hp⟩ := hq
  unfold evT at hp
  refine tI.mk r re ((Post.bind (R1 := REq) hp).imp fun v H' ⟨F1, rho1, d, m1, x1, r1, rr, hp1⟩ => ?_)
  cases rr
  cases v with
  | true => exact iteT (hp1.here r1 rfl)
  | false => exact iteF (tI.mk r1 (x1.rde r re) hp1)
theorem se_and (ha : SE X G W g ea a) {rest : List Expr} (hb : SE X G W g (.BoolOp .And (eb :: rest) pos) b) : SE X G W g (.BoolOp .And (ea :: eb :: rest) pos) (.an a b) := by
  refine (pe_and ha hb).imp fun σ H Q hq => ?_
  obtain ⟨F, rho, m, e, r, re, hp⟩ := hq
  unfold ev at hp
  refine tI.mk r re ((Post.bind (R1 := RD1 G) hp).imp fun v H' ⟨F1, rho1, d, m1, x1, r1, rr, hp1⟩ => ?_)
  cases d with
  | bl t =>
    cases rr
    cases t with
    | true => exact ⟨true, rfl, iteT (tI.mk r1 (x1.rde r re) hp1)⟩
    | false => exact ⟨false, rfl, iteF (hp1.here r1 (.bl _))⟩
  | _ => exact hp1.elim
theorem se_or (ha : SE X G W g ea a) {rest : List Expr} (hb : SE X G W g (.BoolOp .Or (eb :: rest) pos) b) : SE X G W g (.BoolOp .Or (ea :: eb :: rest) pos) (.orr a b) := by
  refine (pe_or ha hb).imp fun σ H Q hq => ?_
  obtain ⟨F, rho, m, e, r, re, hp⟩ := hq
  unfold ev at hp
  refine tI.mk r re ((Post.bind (R1 := RD1 G) hp).imp fun v H' ⟨F1, rho1, d, m1, x1, r1, rr, hp1⟩ => ?_)
  cases d with
  | bl t =>
    cases rr
    cases t with
    | true => exact ⟨true, rfl, iteT (hp1.here r1 (.bl _))⟩
    | false => exact ⟨false, rfl, iteF (tI.mk r1 (x1.rde r re) hp1)⟩
  | _ => exact hp1.elim
theorem se_ife (hc : ST X G W g ec c) (ha : SE X G W g ea a) (hb : SE X G W g eb b) : SE X G W g (.IfExp ec ea eb pos) (.ife c a b) := by
  refine (pe_ifExp hc ha hb).imp fun σ H Q hq => ?_
  obtain ⟨F, rho, m, e, r, re, hp⟩ := hq
  unfold ev at hp
  refine tI.mk r re ((Post.bind (R1 := REq) hp).imp fun v H' ⟨F1, rho1, d, m1, x1, r1, rr, hp1⟩ => ?_)
  cases rr
  cases v with
  | true => exact iteT (tI.mk r1 (x1.rde r re) hp1)
  | false => exact iteF (tI.mk r1 (x1.rde r re) hp1)
/-- what is truth of a value -/
theorem truth_ok {G : GC} {rho : List Addr} {H : Hp} {d : D} {v : V} {b : Bool} {K : PySem.W.Frag} (hK : K = G.K) (e : truth d = some b) (h : RD G rho H d v) : TruV K v H b := by
  subst hK
  cases d with
  | non => cases e; cases h; exact rfl
  | bl t => cases e; cases h; exact rfl
  | int i => cases e; cases h; exact rfl
  | str x =>
    simp only [truth] at e
    split at e
    · rename_i hl
      cases e
      cases h
      exact ⟨of_decide_eq_true hl, rfl⟩
    · cases e
  | lst xs =>
    cases e
    obtain ⟨a, vs, rfl, h1, h2⟩ := h.sql
    refine .inl ⟨vs, h1, ?_⟩
    cases h2 <;> rfl
  | tup xs =>
    cases e
    obtain ⟨a, vs, rfl, h1, h2⟩ := h.sqt
    refine .inr (.inl ⟨vs, h1, ?_⟩)
    cases h2 <;> rfl
  | _ => cases e
def plainT : Expr → Bool
  | .UnaryOp .Not _ _ => false
  | .BoolOp _ _ _ => false
  | .IfExp _ _ _ _ => false
  | .Compare _ _ _ _ => false
  | _ => true
theorem isTrue_of {e : Expr} {env : Env} (h : plainT e = true) (whole : Sem Value) : isTrue e env whole = (do let v ← whole; standAt e.pos; holding [v] (truthy v)) := by
  cases e with
  | UnaryOp op x p => cases op <;> first | rfl | cases h
  | _ => first | rfl | cases h
/-- a value as a test -/
theorem st_val (hK : X.K = G.K) (h : SE X G W g ea a) (hp : plainT ea = true) (he : ∀ e m, evT g a e m = (ev g a e m).bind fun x m1 => opt (truth (vw m1 x)) m1) : ST X G W g ea a := by
  refine (pt_truth h (isTrue_of hp)).imp fun σ H Q hq => ?_
  obtain ⟨F, rho, m, e, r, re, hp⟩ := hq
  rw [he] at hp
  refine tI.mk r re ((Post.bind (R1 := RD1 G) hp).imp fun v H' ⟨F1, rho1, d, m1, x1, r1, rr, hp1⟩ => ?_)
  obtain ⟨b, e1, hp2⟩ := Post.opt hp1
  exact ⟨b, truth_ok hK e1 (r1.view rr), hp2.here r1 rfl⟩

/-! ### displays -/
theorem sa_nil : SA X G W g [] .nil := by
  refine pa_nil.imp fun σ H Q hq => ?_
  obtain ⟨F, rho, m, e, r, re, hp⟩ := hq
  unfold evs at hp
  exact hp.here r .nil
def notStar : Expr → Bool
  | .Starred _ _ => false
  | _ => true
theorem starEach_of {e : Expr} {es : List Expr} {env : Env} (h : notStar e = true) : starEach (e :: es) env = (false, eval e env) :: starEach es env := by
  cases e <;> first | rfl | cases h
theorem sa_one {es : List Expr} {as : Es} (ha : SE X G W g ea a) (hs : SA X G W g es as) (hn : notStar ea = true) : SA X G W g (ea :: es) (.one a as) := by
  refine (pa_cons ha hs (starEach_of hn)).imp fun σ H Q hq => ?_
  obtain ⟨F, rho, m, e, r, re, hp⟩ := hq
  unfold evs at hp
  refine tI.mk r re ((Post.bind (R1 := RD1 G) hp).imp fun v H' ⟨F1, rho1, d, m1, x1, r1, rr, hp1⟩ => ?_)
  refine tI.mk r1 (x1.rde r re) ((Post.bind (R1 := RDL G) hp1).imp fun vs H2 ⟨F2, rho2, ds, m2, x2, r2, rr2, hp2⟩ => ?_)
  exact hp2.here r2 (.cons (x2.rd r1 rr) rr2)
theorem sa_star {es : List Expr} {as : Es} {p : Pos} (hK : X.K = G.K) (ha : SE X G W g ea a) (hs : SA X G W g es as) : SA X G W g (.Starred ea p :: es) (.star a as) := by
  refine (StX.pa_star ha hs).imp fun σ H Q hq => ?_
  obtain ⟨F, rho, m, e, r, re, hp⟩ := hq
  unfold evs at hp
  refine tI.mk r re ((Post.bind (R1 := RD1 G) hp).imp fun v H' ⟨F1, rho1, d, m1, x1, r1, rr, hp1⟩ => ?_)
  have key : ∀ {a : Addr} {vs : List V} {ds : List D}, v = .ref a → (SqT X.K H' a vs ∨ SqL X.K H' a vs) → RDs G rho1 F1 ds vs → Post G W σ (RDL G) F1 H' rho1 ((evs g as e m1).bind fun xs m2 => .ok (ds ++ xs) m2) Q → ∃ p xs, v = V.ref p ∧ (SqT X.K H' p xs ∨ SqL X.K H' p xs) ∧ tI G W (RDL G) (evs g as) σ H' fun ys H2 => Q (xs ++ ys) H2 := fun {a vs ds} e1 e2 e3 e4 =>
    ⟨a, vs, e1, e2, tI.mk r1 (x1.rde r re) ((Post.bind (R1 := RDL G) e4).imp fun ws H2 ⟨F2, rho2, es, m2, x2, r2, rr2, hp2⟩ => hp2.here r2 ((x2.rds r1 e3).append rr2))⟩
  dsimp only at hp1
  split at hp1
  · rename_i ys he
    obtain ⟨a, vs, e1, e2, e3⟩ := r1.vwl rr he
    exact key e1 (.inr (SqL.of e2)) e3 hp1
  · rename_i ys he
    obtain ⟨a, vs, e1, e2, _, e3⟩ := r1.vwt rr he
    exact key e1 (.inl (hK ▸ e2)) e3 hp1
  · exact hp1.elim
theorem se_tup {es : List Expr} {as : Es} {x1 : _} (h : SA X G W g es as) : SE X G W g (.Tuple es x1 pos) (.tup as) := by
  refine (pe_tup h).imp fun σ H Q hq => ?_
  obtain ⟨F, rho, m, e, r, re, hp⟩ := hq
  unfold ev at hp
  refine tI.mk r re ((Post.bind (R1 := RDL G) hp).imp fun vs H' ⟨F1, rho1, ds, m1, x1, r1, rr, hp1⟩ => ?_)
  obtain ⟨hl, hp2⟩ := Post.ite hp1
  refine ⟨?_, fun p hp => new_frozen r1 hp2 hp (rd_tup r1 hp rr)⟩
  rw [← RDs.length rr]
  exact of_decide_eq_true hl
/-- a new list: a value, or a cell -/
theorem newL_ok {mu : Bool} {F H : Hp} {rho : List Addr} {m : Mem} {σ : L2.St} {ds : List D} {vs : List V} {Q : VK} {p : Addr} {o : Option HO} (r : RelM G F H rho m) (rr : RDs G rho F ds vs) (hp : H p = none) (h : Post G W σ (RD1 G) F H rho (newL mu ds m) Q) :
    vs.length ≤ sizeLine ∧ Q (.ref p) (upd H p (.lst vs)) := by
  unfold newL at h
  obtain ⟨hl, h2⟩ := Post.ite h
  refine ⟨by rw [← RDs.length rr]; exact of_decide_eq_true hl, ?_⟩
  cases mu with
  | false => exact new_frozen r h2 hp (rd_lst r hp rr)
  | true =>
    have gr : RDs G (rho ++ [p]) F ds vs := RDs.mono (Grow.refl F).sub (Beg.app _ _) ds vs rr
    obtain ⟨r', x⟩ := r.cell (o := .lst vs) (c := .lst ds) hp ⟨vs, upd_same, gr⟩
    refine h2 _ _ _ _ x r' (.ref ?_)
    rw [r.len]
    simp
theorem se_lst {es : List Expr} {as : Es} {mu : Bool} (h : SA X G W g es as) : SE X G W g (.List es pos) (.lst mu as) := by
  refine (pe_lst h).imp fun σ H Q hq => ?_
  obtain ⟨F, rho, m, e, r, re, hp⟩ := hq
  unfold ev at hp
  refine tI.mk r re ((Post.bind (R1 := RDL G) hp).imp fun vs H' ⟨F1, rho1, ds, m1, x1, r1, rr, hp1⟩ => ?_)
  have hl : vs.length ≤ sizeLine := by
    unfold newL at hp1
    rw [← RDs.length rr]
    exact of_decide_eq_true (Post.ite hp1).1
  exact ⟨hl, fun p hp => (newL_ok (o := none) r1 rr hp hp1).2⟩

/-! ### operators -/
/-- the operators of one's own classes -/
structure Own (X : Cx) (G : GC) (W : WX) (g : Gl) : Prop where
  cmp : ∀ {op : CmpOp} {c : String} {fs : List (String × D)} {pins : List (Addr × Obj)} {s : Shared} {σ : L2.St} {H F : Hp} {rho : List Addr} {m : Mem} {dx dy : D} {x y : V} {v u : Value} {Q : Bool → Hp → Prop}, Inv X pins σ H s → RelV x v → RelV y u → RelM G F H rho m → RD G rho F dx x → RD G rho F dy y →
    vw m dx = .ins c fs → Post G W σ REq F H rho (cmpG g op dx dy m) Q → wpAny (model X.prog X.w) X.A (compareOp op v u) (EP X pins σ fun z H' => ∃ k, z = .bl k ∧ Q k H') X.xe s
  bin : ∀ {op : Operator} {c : String} {fs : List (String × D)} {pins : List (Addr × Obj)} {s : Shared} {σ : L2.St} {H F : Hp} {rho : List Addr} {m : Mem} {dx dy : D} {x y : V} {v u : Value} {Q : VK}, Inv X pins σ H s → RelV x v → RelV y u → RelM G F H rho m → RD G rho F dx x → RD G rho F dy y →
    vw m dx = .ins c fs → Post G W σ (RD1 G) F H rho (binG g op dx dy m) Q → wpAny (model X.prog X.w) X.A (binaryOp op v u) (EP X pins σ Q) X.xe s
  neg : ∀ {c : String} {fs : List (String × D)} {pins : List (Addr × Obj)} {s : Shared} {σ : L2.St} {H F : Hp} {rho : List Addr} {m : Mem} {dx : D} {x : V} {v : Value} {Q : VK}, Inv X pins σ H s → RelV x v → RelM G F H rho m → RD G rho F dx x →
    vw m dx = .ins c fs → Post G W σ (RD1 G) F H rho (if g.has c "__neg__" && g.cur.isNone then g.call c "__neg__" [dx] m else .no) Q → wpAny (model X.prog X.w) X.A (unaryOp .USub v) (EP X pins σ Q) X.xe s
  len : ∀ {c : String} {fs : List (String × D)} {pins : List (Addr × Obj)} {s : Shared} {σ : L2.St} {H F : Hp} {rho : List Addr} {m : Mem} {dx : D} {x : V} {v : Value} {Q : VK}, g.cur.isNone = true → Inv X pins σ H s → RelV x v → RelM G F H rho m → RD G rho F dx x →
    vw m dx = .ins c fs → Post G W σ (RD1 G) F H rho (biLen g [dx] m) Q → wpAny (model X.prog X.w) X.A (call (.builtin "len") [v]) (EP X pins σ Q) X.xe s

theorem se_bin (B : Base X G W g) (O : Own X G W g) {op : Operator} (ha : SE X G W g ea a) (hb : SE X G W g eb b) : SE X G W g (.BinOp ea op eb pos) (.bin op a b) := by
  refine ⟨fun pins s σ H Q I h => ?_⟩
  refine wpAny_BinOp (two ha hb I (k := fun x y m2 => binG g op x y m2) (by
    obtain ⟨F, rho, m, e, r, re, hp⟩ := h
    unfold ev at hp
    exact tI.mk r re hp) fun v u s2 x y H2 F2 rho2 m2 dx dy I2 rx ry r2 d1 d2 _ hp => ?_)
  cases hv : vw m2 dx with
  | ins c fs => exact O.bin I2 rx ry r2 d1 d2 hv hp
  | _ =>
    unfold binG at hp
    rw [hv] at hp
    obtain ⟨d, e1, hp2⟩ := Post.opt hp
    rw [← hv] at e1
    exact binP_ok B.hK I2 rx ry r2 d1 d2 e1 hp2
/-- a comparison of two values -/
theorem cmp_ok (B : Base X G W g) (O : Own X G W g) {op : CmpOp} {pins : List (Addr × Obj)} {s : Shared} {σ : L2.St} {H F : Hp} {rho : List Addr} {m : Mem} {dx dy : D} {x y : V} {v u : Value} {Q : Bool → Hp → Prop} (I : Inv X pins σ H s) (rx : RelV x v) (ry : RelV y u)
    (r : RelM G F H rho m) (d1 : RD G rho F dx x) (d2 : RD G rho F dy y) (hp : Post G W σ REq F H rho (cmpG g op dx dy m) Q) : wpAny (model X.prog X.w) X.A (compareOp op v u) (EP X pins σ fun z H' => ∃ k, z = .bl k ∧ Q k H') X.xe s := by
  cases hv : vw m dx with
  | ins c fs => exact O.cmp I rx ry r d1 d2 hv hp
  | _ =>
    unfold cmpG at hp
    rw [hv] at hp
    obtain ⟨d, e1, hp2⟩ := Post.opt hp
    rw [← hv] at e1
    exact cmpP_ok B.hK B.units I rx ry (r.view d1) (r.view d2) e1 ⟨d, rfl, hp2.here r rfl⟩
def notSet : Expr → Bool
  | .Set _ _ _ => false
  | _ => true
theorem nomarkS {op : CmpOp} {b : Expr} (h : notSet b = true) : behindInMarks op b = false := by
  cases b <;> first | rfl | cases h
theorem se_cmp (B : Base X G W g) (O : Own X G W g) {op : CmpOp} (ha : SE X G W g ea a) (hb : SE X G W g eb b) (hm : notSet eb = true) : SE X G W g (.Compare ea [op] [eb] pos) (.cmp op a b) := by
  refine ⟨fun pins s σ H Q I h => ?_⟩
  refine wpAny_Compare1 (two ha hb I (k := fun x y m2 => (cmpG g op x y m2).bind fun b m3 => .ok (D.bl b) m3) (R := RD1 G) (Q := Q) (by
    obtain ⟨F, rho, m, e, r, re, hp⟩ := h
    unfold ev at hp
    exact tI.mk r re hp) fun v u s2 x y H2 F2 rho2 m2 dx dy I2 rx ry r2 d1 d2 _ hp => ?_) (nomarkS hm)
  refine thn (cmp_ok B O I2 rx ry r2 d1 d2 (Post.bind (R1 := REq) hp)) fun z s3 ⟨z', H3, I3, rz, k, ek, F3, rho3, k', m3, x3, r3, ek', hp3⟩ => ?_
  subst ek
  cases ek'
  exact ⟨.bl k, H3, I3, rz, hp3.here r3 (.bl _)⟩
theorem st_cmp (B : Base X G W g) (O : Own X G W g) {op : CmpOp} (ha : SE X G W g ea a) (hb : SE X G W g eb b) (hm : notSet eb = true) : ST X G W g (.Compare ea [op] [eb] pos) (.cmp op a b) := by
  refine ⟨fun pins s σ H Q I h => ?_⟩
  refine wpAny_isTrue_Compare1 (two ha hb I (k := fun x y m2 => (cmpG g op x y m2)) (R := REq) (Q := Q) (by
    obtain ⟨F, rho, m, e, r, re, hp⟩ := h
    refine tI.mk r re ?_
    have e1 : evT g (.cmp op a b) e m = (ev g a e m).bind fun x m1 => (ev g b e m1).bind fun y m2 => cmpG g op x y m2 := by
      have e0 : evT g (.cmp op a b) e m = (ev g (.cmp op a b) e m).bind fun x m1 => opt (truth (vw m1 x)) m1 := by simp only [evT]
      rw [e0, show ev g (.cmp op a b) e m = (ev g a e m).bind fun x m1 => (ev g b e m1).bind fun y m2 => (cmpG g op x y m2).bind fun b m3 => .ok (.bl b) m3 from by rw [ev]]
      cases ev g a e m with
      | ok x m1 =>
        simp only [Res.bind_ok]
        cases ev g b e m1 with
        | ok y m2 =>
          simp only [Res.bind_ok]
          cases cmpG g op x y m2 with
          | ok b m3 => rfl
          | ex _ _ => rfl
          | no => rfl
        | ex _ _ => rfl
        | no => rfl
      | ex _ _ => rfl
      | no => rfl
    rw [e1] at hp
    exact hp) fun v u s2 x y H2 F2 rho2 m2 dx dy I2 rx ry r2 d1 d2 _ hp => ?_) (nomarkS hm)
  refine thn (cmp_ok B O I2 rx ry r2 d1 d2 hp) fun z s3 ⟨z', H3, I3, rz, k, ek, q⟩ => ?_
  subst ek
  cases rz
  exact wpAny_truthy_bool ⟨H3, I3, q⟩
end
end IP

/-! IpF -/
set_option Elab.async false
set_option linter.all false
set_option maxRecDepth 100000
set_option maxHeartbeats 4000000
/-! IpF: chains, signs, items, slices, attributes, isinstance. -/
namespace IP
open PySem L2 PyProof.Rows
theorem RelM.vwi {G : GC} {rho : List Addr} {F H : Hp} {m : Mem} (r : RelM G F H rho m) {d : D} {v : V} {c : String} {fs : List (String × D)} (h : RD G rho F d v) (e : IP.vw m d = .ins c fs) :
    ∃ a C dx fvs, v = .ref a ∧ G.own c = some C ∧ H a = some (.ins C dx fvs) ∧ RDf G rho F fs fvs := by
  cases d with
  | ins c' ys =>
    cases e
    cases h with
    | ins h0 h1 h2 => exact ⟨_, _, _, _, rfl, h0, r.sub.get h1 rfl, h2⟩
  | ref n =>
    cases h with
    | @ref _ a h =>
      have e : (match m[n]? with
        | some (.lst xs) => D.lst xs
        | some (.dic q kvs) => .dic q kvs
        | some (.ins c fs) => .ins c fs
        | _ => .ref n) = .ins c fs := e
      cases q : m[n]? with
      | none =>
        rw [q] at e
        cases e
      | some c =>
        have z := r.cel n a c h q
        rw [q] at e
        cases c with
        | lst ys => cases e
        | dic k kvs => cases e
        | ins c fs =>
          cases e
          obtain ⟨C, dx, fvs, e0, e1, e2⟩ := z
          exact ⟨a, C, dx, fvs, rfl, e0, e1, e2⟩
        | dead => cases e
  | _ => cases e
section
variable {X : Cx} {G : GC} {W : WX} {g : Gl} {a b c : E} {ea eb ec : Expr} {pos : Pos}
theorem evT_cmp2 {op1 op2 : CmpOp} {e : Ev} {m : Mem} : evT g (.cmp2 op1 op2 a b c) e m = (ev g a e m).bind fun x m1 => (ev g b e m1).bind fun y m2 => (cmpG g op1 x y m2).bind fun r m3 => (match r with
    | true => (ev g c e m3).bind fun z m4 => cmpG g op2 y z m4
    | false => .ok false m3) := by
  have e0 : evT g (.cmp2 op1 op2 a b c) e m = (ev g (.cmp2 op1 op2 a b c) e m).bind fun x m1 => opt (truth (vw m1 x)) m1 := by simp only [evT]
  rw [e0]
  rw [ev]
  cases ev g a e m with
  | ok x m1 =>
    simp only [Res.bind_ok]
    cases ev g b e m1 with
    | ok y m2 =>
      simp only [Res.bind_ok]
      cases cmpG g op1 x y m2 with
      | ok r m3 =>
        cases r with
        | true =>
          simp only [Res.bind_ok]
          cases ev g c e m3 with
          | ok z m4 =>
            simp only [Res.bind_ok]
            cases cmpG g op2 y z m4 <;> rfl
          | ex _ _ => rfl
          | no => rfl
        | false => rfl
      | ex _ _ => rfl
      | no => rfl
    | ex _ _ => rfl
    | no => rfl
  | ex _ _ => rfl
  | no => rfl
theorem last2 {op op' : CmpOp} {x y : Expr} (h : notSet y = true) : lastMarks [op, op'] [x, y] = false := by
  show behindInMarks op' y = false
  exact nomarkS h
theorem se_cmp2 (B : Base X G W g) (O : Own X G W g) {op1 op2 : CmpOp} (ha : SE X G W g ea a) (hb : SE X G W g eb b) (hc : SE X G W g ec c) (hm : notSet ec = true) : SE X G W g (.Compare ea [op1, op2] [eb, ec] pos) (.cmp2 op1 op2 a b c) := by
  refine ⟨fun pins s σ H Q I h => ?_⟩
  obtain ⟨F, rho, m, e, r, re, hp⟩ := h
  rw [ev] at hp
  refine Compare_chain (thn (ha.run pins s σ H _ I (tI.mk r re (Post.bind (R1 := RD1 G) hp))) fun v s1 ⟨x, H1, I1, rx, F1, rho1, dx, m1, x1, r1, d1, hp1⟩ => chain_link (thn (hb.run pins s1 σ H1 _ I1 (tI.mk r1 (x1.rde r re) (Post.bind (R1 := RD1 G) hp1))) fun u s2 ⟨y, H2, I2, ry, F2, rho2, dy, m2, x2, r2, d2, hp2⟩ =>
    thn (cmp_ok B O I2 rx ry r2 (x2.rd r1 d1) d2 (Post.bind (R1 := REq) hp2)) fun z s3 ⟨z', H3, I3, rz, k, ek, F3, rho3, k', m3, x3, r3, ek', hp3⟩ => ?_)) (last2 hm)
  subst ek
  cases ek'
  cases rz
  refine wpAny_truthy_bool ?_
  cases k with
  | false => exact ite_ff ⟨.bl false, H3, I3, rfl, hp3.here r3 (.bl _)⟩
  | true =>
    have re3 := x3.rde r2 (x2.rde r1 (x1.rde r re))
    refine ite_tt (chain_last (thn (hc.run pins s3 σ H3 _ I3 (tI.mk r3 re3 (Post.bind (R1 := RD1 G) hp3))) fun w' s4 ⟨z', H4, I4, rz, F4, rho4, dz, m4, x4, r4, d4, hp4⟩ => ?_))
    refine thn (cmp_ok B O I4 ry rz r4 (x4.rd r3 (x3.rd r2 d2)) d4 (Post.bind (R1 := REq) hp4)) fun z s5 ⟨z', H5, I5, rz, k, ek, F5, rho5, k', m5, x5, r5, ek', hp5⟩ => ?_
    subst ek
    cases ek'
    exact ⟨.bl k, H5, I5, rz, hp5.here r5 (.bl _)⟩
theorem st_cmp2 (B : Base X G W g) (O : Own X G W g) {op1 op2 : CmpOp} (ha : SE X G W g ea a) (hb : SE X G W g eb b) (hc : SE X G W g ec c) (hm : notSet ec = true) : ST X G W g (.Compare ea [op1, op2] [eb, ec] pos) (.cmp2 op1 op2 a b c) := by
  refine ⟨fun pins s σ H Q I h => ?_⟩
  obtain ⟨F, rho, m, e, r, re, hp⟩ := h
  rw [evT_cmp2] at hp
  refine isTrue_chain (thn (ha.run pins s σ H _ I (tI.mk r re (Post.bind (R1 := RD1 G) hp))) fun v s1 ⟨x, H1, I1, rx, F1, rho1, dx, m1, x1, r1, d1, hp1⟩ => test_link (thn (hb.run pins s1 σ H1 _ I1 (tI.mk r1 (x1.rde r re) (Post.bind (R1 := RD1 G) hp1))) fun u s2 ⟨y, H2, I2, ry, F2, rho2, dy, m2, x2, r2, d2, hp2⟩ =>
    thn (cmp_ok B O I2 rx ry r2 (x2.rd r1 d1) d2 (Post.bind (R1 := REq) hp2)) fun z s3 ⟨z', H3, I3, rz, k, ek, F3, rho3, k', m3, x3, r3, ek', hp3⟩ => ?_)) (last2 hm)
  subst ek
  cases ek'
  cases rz
  refine wpAny_truthy_bool ?_
  cases k with
  | false => exact ite_ff ⟨H3, I3, hp3.here r3 rfl⟩
  | true =>
    have re3 := x3.rde r2 (x2.rde r1 (x1.rde r re))
    refine ite_tt (test_last (thn (hc.run pins s3 σ H3 _ I3 (tI.mk r3 re3 (Post.bind (R1 := RD1 G) hp3))) fun w' s4 ⟨z', H4, I4, rz, F4, rho4, dz, m4, x4, r4, d4, hp4⟩ => ?_))
    refine thn (cmp_ok B O I4 ry rz r4 (x4.rd r3 (x3.rd r2 d2)) d4 hp4) fun z s5 ⟨z', H5, I5, rz, k, ek, q⟩ => ?_
    subst ek
    cases rz
    exact wpAny_truthy_bool ⟨H5, I5, q⟩
theorem se_neg (O : Own X G W g) (ha : SE X G W g ea a) : SE X G W g (.UnaryOp .USub ea pos) (.neg a) := by
  refine ⟨fun pins s σ H Q I h => ?_⟩
  obtain ⟨F, rho, m, e, r, re, hp⟩ := h
  rw [ev] at hp
  refine UnaryOp_ (thn (ha.run pins s σ H _ I (tI.mk r re (Post.bind (R1 := RD1 G) hp))) fun v s1 ⟨x, H1, I1, rx, F1, rho1, dx, m1, x1, r1, d1, hp1⟩ => ?_)
  have hv0 := r1.view d1
  cases hv : vw m1 dx with
  | ins c fs =>
    dsimp only at hp1
    rw [hv] at hp1
    exact O.neg I1 rx r1 d1 hv hp1
  | int i =>
    dsimp only at hp1
    rw [hv] at hp1 hv0
    cases hv0
    exact un_neg pins s1 σ H1 _ v Q I1 rx ⟨_, rfl, hp1.here r1 (.int _)⟩
  | _ =>
    dsimp only at hp1
    rw [hv] at hp1
    exact hp1.elim

/-! ### items, slices -/
def notSlice : Expr → Bool
  | .Slice _ _ _ _ => false
  | _ => true
theorem plainIx_of {b : Expr} (h : notSlice b = true) : PlainIx b := fun o i => by
  cases b <;> first | rfl | cases h
theorem atI_some {α β : Type} {R : α → β → Prop} {xs : List α} {vs : List β} {i : Int} {d : α} (hl : xs.length = vs.length) (hg : ∀ (j : Nat) (d : α), xs[j]? = some d → ∃ v, vs[j]? = some v ∧ R d v) (e : atI xs i = some d) : ∃ v, atI vs i = some v ∧ R d v := by
  unfold atI at e ⊢
  rw [← hl]
  cases q : ixN xs.length i with
  | none => rw [q] at e; cases e
  | some j =>
    rw [q] at e
    exact hg j d e
theorem se_sub (B : Base X G W g) (ha : SE X G W g ea a) (hb : SE X G W g eb b) (hs : notSlice eb = true) : SE X G W g (.Subscript ea eb pos) (.sub a b) := by
  refine ⟨fun pins s σ H Q I h => ?_⟩
  refine Subscript_ (two ha hb I (k := fun x y m2 => opt (subP (vw m2 x) y) m2) (R := RD1 G) (Q := Q) (by
    obtain ⟨F, rho, m, e, r, re, hp⟩ := h
    rw [ev] at hp
    exact tI.mk r re hp) fun v u s2 x y H2 F2 rho2 m2 dx dy I2 rx ry r2 d1 d2 _ hp => ?_)
  obtain ⟨d, e1, hp2⟩ := Post.opt hp
  have hsb : ∀ v u, subscripted eb false v u = operate [v, u] (getItem v u) := fun v u => plainIx_of hs v u
  unfold subP at e1
  split at e1
  · rename_i xs i ev_
    obtain ⟨p, vs, rfl, h1, h2⟩ := r2.vwl d1 ev_
    cases d2
    obtain ⟨z, e2, e3⟩ := atI_some (R := RD G rho2 F2) h2.length (fun j d q => h2.get q) e1
    exact ix_list ea eb pins s2 σ H2 _ _ v u Q I2 rx ry ⟨p, vs, i, z, rfl, rfl, SqL.of h1, e2, hp2.here r2 e3⟩ (hsb _ _)
  · rename_i xs i ev_
    obtain ⟨p, vs, rfl, h1, _, h2⟩ := r2.vwt d1 ev_
    cases d2
    obtain ⟨z, e2, e3⟩ := atI_some (R := RD G rho2 F2) h2.length (fun j d q => h2.get q) e1
    exact ix_tup ea eb pins s2 σ H2 _ _ v u Q I2 rx ry ⟨p, vs, i, z, rfl, rfl, B.hK ▸ h1, e2, hp2.here r2 e3⟩ (hsb _ _)
  · rename_i xs i ev_
    have ed : dx = .scr xs := vw_of ev_ fun k z => by
      subst z
      rcases vw_ref ev_ with ⟨_, z⟩ | ⟨_, _, z⟩ | ⟨_, _, z⟩ | z <;> cases z
    subst ed
    cases d1 with
    | @scr p o vs _ h1 h2 =>
      cases d2
      obtain ⟨z, e2, e3⟩ := atI_some (R := RD G rho2 F2) h2.length (fun j d q => h2.get q) e1
      exact ix_list ea eb pins s2 σ H2 _ _ v u Q I2 rx ry ⟨p, vs, i, z, rfl, rfl, .inl (.inr ⟨o, r2.sub.get h1 rfl⟩), e2, hp2.here r2 e3⟩ (hsb _ _)
    | @scrK p vs _ h1 h2 =>
      cases d2
      obtain ⟨z, e2, e3⟩ := atI_some (R := RD G rho2 F2) h2.length (fun j d q => h2.get q) e1
      exact ix_list ea eb pins s2 σ H2 _ _ v u Q I2 rx ry ⟨p, vs, i, z, rfl, rfl, B.hK ▸ h1 _, e2, hp2.here r2 e3⟩ (hsb _ _)
  · rename_i z i ev_
    split at e1
    · rename_i hl
      obtain ⟨c, e2, rfl⟩ := map_some e1
      have ed : dx = .str z := vw_of ev_ fun k w => by
        subst w
        rcases vw_ref ev_ with ⟨_, w⟩ | ⟨_, _, w⟩ | ⟨_, _, w⟩ | w <;> cases w
      subst ed
      cases d1
      cases d2
      exact ix_str ea eb pins s2 σ H2 _ _ v u Q I2 rx ry ⟨z, i, c, rfl, rfl, of_decide_eq_true hl, e2, hp2.here r2 (.str _)⟩ (hsb _ _)
    · cases e1
  · rename_i dy' _ _ q kvs ev_
    cases q1 : getP q kvs dy' with
    | none => rw [q1] at e1; cases e1
    | some o =>
      rw [q1] at e1
      cases o with
      | none => cases e1
      | some d' =>
        cases e1
        obtain ⟨p, rfl, hd⟩ := r2.vwd d1 ev_
        obtain ⟨ro, hg, ho⟩ := getP_ok q1 hd (r2.up d2)
        cases ho with
        | som hv =>
          cases (show v = Value.ref p from rx)
          exact tail_any (dict_typeIs I2 hg) PySem.F.slot_dict_getitem.lookup (d_getItem (by have := B.units; omega) I2 hg ry fun w' s3 I3 rw' => ⟨_, H2, I3, rw', hp2.here r2 hv⟩) (hsb _ _)
  · cases e1
/-- a part of a slice -/
theorem po_of {l : Oe} {lo : Option Expr} (h : match l, lo with
    | .non, none => True
    | .som a, some e => SE X G W g e a
    | _, _ => False) : PO X lo (tI G W REq (evI g l)) := by
  cases l with
  | non =>
    cases lo with
    | none =>
      refine ⟨fun pins s σ H Q I hq => po_none.run pins s σ H Q I ?_⟩
      obtain ⟨F, rho, m, e, r, re, hp⟩ := hq
      rw [evI] at hp
      exact hp.here r rfl
    | some e => exact h.elim
  | som a =>
    cases lo with
    | none => exact h.elim
    | some e =>
      refine ⟨fun pins s σ H Q I hq => (po_some h).run pins s σ H Q I ?_⟩
      obtain ⟨F, rho, m, e, r, re, hp⟩ := hq
      rw [evI] at hp
      refine tI.mk r re ((Post.bind (R1 := RD1 G) hp).imp fun v H' ⟨F1, rho1, d, m1, x1, r1, rr, hp1⟩ => ?_)
      cases d with
      | int i =>
        cases rr
        exact ⟨i, rfl, hp1.here r1 rfl⟩
      | _ => exact hp1.elim
theorem cut_rds {rho : List Addr} {H : Hp} {xs : List D} {vs : List V} {lo hi : Option Int} (h : RDs G rho H xs vs) : RDs G rho H (cut xs lo hi) (cutV vs lo hi) := by
  unfold cut cutV
  rw [h.length]
  exact (h.drop _).take _
theorem se_slc (B : Base X G W g) {l h : Oe} {lo hi : Option Expr} {p2 : Pos} (ha : SE X G W g ea a) (hl : PO X lo (tI G W REq (evI g l))) (hh : PO X hi (tI G W REq (evI g h))) : SE X G W g (.Subscript ea (.Slice lo hi none p2) pos) (.slc a l h) := by
  refine (pe_slice (sl_list.or (sl_tupA.or sl_str)) ha hl hh).imp fun σ H Q hq => ?_
  obtain ⟨F, rho, m, e, r, re, hp⟩ := hq
  rw [ev] at hp
  refine tI.mk r re ((Post.bind (R1 := RD1 G) hp).imp fun v H1 ⟨F1, rho1, d, m1, x1, r1, rr, hp1⟩ => ?_)
  refine tI.mk r1 (x1.rde r re) ((Post.bind (R1 := REq) hp1).imp fun lo' H2 ⟨F2, rho2, lo2, m2, x2, r2, e2, hp2⟩ => ?_)
  cases e2
  refine tI.mk r2 (x2.rde r1 (x1.rde r re)) ((Post.bind (R1 := REq) hp2).imp fun hi' H3 ⟨F3, rho3, hi2, m3, x3, r3, e3, hp3⟩ => ?_)
  cases e3
  have rr3 := x3.rd r2 (x2.rd r1 rr)
  obtain ⟨z, ez, hp4⟩ := Post.opt hp3
  unfold slcP at ez
  split at ez
  · rename_i xs ev_
    cases ez
    obtain ⟨p, vs, rfl, h1, h2⟩ := r3.vwl rr3 ev_
    exact .inl ⟨p, vs, rfl, SqL.of h1, fun p hp => new_frozen r3 hp4 hp (rd_lst r3 hp (cut_rds h2))⟩
  · rename_i xs ev_
    cases ez
    obtain ⟨p, vs, rfl, h1, _, h2⟩ := r3.vwt rr3 ev_
    refine .inr (.inl ⟨p, vs, rfl, B.hK ▸ h1, fun hw => ?_, fun _ p hp => new_frozen r3 hp4 hp (rd_tup r3 hp (cut_rds h2))⟩)
    have ed := vw_tup ev_
    subst ed
    have ec : cut xs lo' hi' = xs := by
      unfold cut
      rw [h2.length, hw.1, hw.2]
      rw [List.drop_zero, Nat.sub_zero, ← h2.length, List.take_length]
    rw [ec] at hp4
    exact hp4.here r3 rr3
  · rename_i x ev_
    split at ez
    · rename_i hl
      cases ez
      have ed : d = .str x := vw_of ev_ fun k w => by
        subst w
        rcases vw_ref ev_ with ⟨_, w⟩ | ⟨_, _, w⟩ | ⟨_, _, w⟩ | w <;> cases w
      subst ed
      cases rr3
      exact .inr (.inr ⟨x, rfl, of_decide_eq_true hl, hp4.here r3 (.str _)⟩)
    · cases ez
  · cases ez
theorem RDs.rev {rho : List Addr} {H : Hp} : ∀ {xs : List D} {vs : List V}, RDs G rho H xs vs → RDs G rho H xs.reverse vs.reverse
  | _, _, .nil => .nil
  | _, _, .cons h t => by
    rw [List.reverse_cons, List.reverse_cons]
    exact (RDs.rev t).append (.cons h .nil)
theorem se_rev {k : Nat} {p1 p2 p3 : Pos} (ha : SE X G W g ea a) : SE X G W g (.Subscript ea (.Slice none none (some (.UnaryOp .USub (.Constant (.int 1) k p1) p2)) p3) pos) (.rev a) := by
  refine (pe_revL ha).imp fun σ H Q hq => ?_
  obtain ⟨F, rho, m, e, r, re, hp⟩ := hq
  rw [ev] at hp
  refine tI.mk r re ((Post.bind (R1 := RD1 G) hp).imp fun v H1 ⟨F1, rho1, d, m1, x1, r1, rr, hp1⟩ => ?_)
  dsimp only at hp1
  split at hp1
  · rename_i xs ev_
    obtain ⟨p, vs, rfl, h1, h2⟩ := r1.vwl rr ev_
    exact ⟨p, vs, rfl, SqL.of h1, fun p hp => new_frozen r1 hp1 hp (rd_lst r1 hp h2.rev)⟩
  · exact hp1.elim

/-! ### attributes -/
/-- what the written part says of a class's attribute -/
def AttF (G : GC) (f : String) : Prop := ∀ c C, G.own c = some C → Cls G.K C ∧ NoAttr G.K C (Str.ofString f)
def baseOk : Expr → Bool
  | .Call (.Name _ _) [] [] _ => false
  | _ => true
theorem base_of {e : Expr} {f : Str} {env : Env} (h : baseOk e = true) : attributeBase e f env (eval e env) = eval e env := by
  unfold attributeBase
  split
  · cases h
  · rfl
theorem se_att (B : Base X G W g) {f : String} (hf : AttF G f) (ha : SE X G W g ea a) (hb : baseOk ea = true) : SE X G W g (.Attribute ea (Str.ofString f) pos) (.att a f) := by
  refine (pe_fld ha (base_of hb)).imp fun σ H Q hq => ?_
  obtain ⟨F, rho, m, e, r, re, hp⟩ := hq
  rw [ev] at hp
  refine tI.mk r re ((Post.bind (R1 := RD1 G) hp).imp fun v H1 ⟨F1, rho1, d, m1, x1, r1, rr, hp1⟩ => ?_)
  obtain ⟨z, ez, hp2⟩ := Post.opt hp1
  unfold attG at ez
  split at ez
  · rename_i c fs ev_
    obtain ⟨p, C, dx, fvs, rfl, hC, h1, h2⟩ := r1.vwi rr ev_
    obtain ⟨y, e1, e2⟩ := RDf.lookup (fun _ _ => ofString_inj) f h2 ez
    obtain ⟨g1, g2⟩ := hf c C hC
    exact ⟨p, C, dx, fvs, y, rfl, h1, B.hK ▸ g1, B.hK ▸ g2, e1, hp2.here r1 e2⟩
  · cases ez
end
end IP

/-! IpG -/
set_option Elab.async false
set_option linter.all false
set_option maxRecDepth 100000
set_option maxHeartbeats 4000000
/-! IpG: isinstance, built-in calls. -/
namespace IP
open PySem L2 PyProof.Rows

def tagL : List String := ["NoneType", "bool", "int", "str", "list", "tuple", "dict"]
def btyL : List String := ["int", "bool", "str", "list", "tuple", "dict"]
/-- what is true of the plain classes of the text -/
structure Facts (G : GC) : Prop where
  cls : ∀ {c : String} {C : Addr}, G.own c = some C → Cls G.K C
  ha : ∀ {c : String} {C : Addr}, G.own c = some C → PySem.W.findIn G.K (.ref C) "__class__" = some (some (.builtin "object.__class__"))
  hn : PySem.W.specialIn G.K (.builtin "object.__class__") "__get__" = some (some (.builtin "getset_descriptor.__get__"))
  htk : PySem.W.takesIn G.K (.builtin "object.__class__") = some true
  hm : ∀ {c : String} {C : Addr}, G.own c = some C → PySem.W.mroIn G.K C (.type "object") = some true
  kit1 : ∀ {c : String} {C : Addr} {a : String}, G.own c = some C → a ∈ tagL → PySem.W.kitOne G.K (.type a) (.ref C) = some false
  kit2 : ∀ {c : String} {C : Addr} {b : String}, G.own c = some C → b ∈ btyL → PySem.W.kitOne G.K (.ref C) (.type b) = some false
  kit3 : ∀ {c c' : String} {C C' : Addr}, G.own c = some C → G.own c' = some C' → PySem.W.kitOne G.K (.ref C') (.ref C) = some (c == c')
/-- a class as my expressions name it -/
inductive TyV (G : GC) : Ty → V → Value → Prop
  | bt {n : String} : n ∈ btyL → TyV G (.bt n) (.ty n) (.type n)
  | own {c : String} {C : Addr} : G.own c = some C → TyV G (.own c) (.ref C) (.ref C)
theorem TyV.cls {G : GC} {t : Ty} {v : V} {u : Value} (h : TyV G t v u) : ClsV v u := by
  cases h with
  | bt _ => exact .ty _
  | own _ => exact .own _
/-- a value's type, with locked dicts -/
inductive TyY (K : PySem.W.Frag) (H : Hp) : V → Value → Prop
  | x {x : V} {t : Value} : TyX K H x t → TyY K H x t
  | fT {a : Addr} {o : Obj} {kvs : List (List Key × V)} : H a = some (.frz o (.dT kvs)) → TyY K H (.ref a) (.type "dict")
theorem kit_ofY {X : Cx} {pins : List (Addr × Obj)} {σ : L2.St} {H : Hp} {s : Shared} {x : V} {u t : Value} (I : Inv X pins σ H s) (rx : RelV x u) (ty : TyY X.K H x t) : ∃ P : Heap → Prop, PySem.W.KitX X.K u t P ∧ P s.heap ∧ u ≠ .builtin "__main__.__loader__#opaque" := by
  cases ty with
  | x h => exact kit_of I rx h
  | @fT a ob kvs ea =>
    cases (show u = Value.ref a from rx)
    obtain ⟨_, _, _, xs, _, o, es, ep, h1, h2, _⟩ := (show ObjOk X.prog X.w H s.heap a (.frz ob (.dT kvs)) from I.hok a _ ea)
    exact ⟨_, PySem.W.kitx_dict, ⟨o, h1, h2.1⟩, fun z => nomatch z⟩
theorem call_isiY {X : Cx} {pins : List (Addr × Obj)} {σ : L2.St} {H : Hp} {s : Shared} {x c : V} {t u v w : Value} {b : Bool} {Q : VK} (I : Inv X pins σ H s) (r1 : RelV x v) (r2 : RelV c w) (k : ClsV c u) (ty : TyY X.K H x t) (e : PySem.W.kitOne X.K t u = some b) (q : Q (.bl b) H) :
    wpAny (model X.prog X.w) X.A (call (.builtin "isinstance") [v, w]) (EP X pins σ Q) X.xe s := by
  have e2 := k.eq r2
  subst e2
  obtain ⟨P, Z, p, hx⟩ := kit_ofY I r1 ty
  exact PySem.W.kia_one Z I.kIn p e hx fun tk => ⟨.bl b, H, I.tok tk, rfl, q⟩
theorem call_isiTY {X : Cx} {pins : List (Addr × Obj)} {σ : L2.St} {H : Hp} {s : Shared} {x : V} {tp : Addr} {cs : List V} {t v : Value} {us : List Value} {b : Bool} {Q : VK} (I : Inv X pins σ H s) (r1 : RelV x v) (hT : H tp = some (.tup cs)) (k : Paired ClsV cs us) (ty : TyY X.K H x t)
    (e : PySem.W.kitAny X.K t us = some b) (q : Q (.bl b) H) : wpAny (model X.prog X.w) X.A (call (.builtin "isinstance") [v, .ref tp]) (EP X pins σ Q) X.xe s := by
  obtain ⟨P, Z, p, hx⟩ := kit_ofY I r1 ty
  obtain ⟨_, its, rv, o, h1, h2, n, h3⟩ := (show ObjOk X.prog X.w H s.heap tp (.tup cs) from I.hok tp _ hT)
  have e3 := ClsV.all k rv
  subst e3
  obtain ⟨oc, od, dt, sl⟩ := o
  simp only at h2 h3
  subst h2 h3
  exact PySem.W.kia_tup Z I.kIn p h1 e hx fun tk => ⟨.bl b, H, I.tok tk, rfl, q⟩
/-- the built-in types among each other -/
def kitTab : Bool := tagL.all fun a => btyL.all fun b => kitB a b == some (b == a || (a == "bool" && b == "int"))
theorem kitTab_ok : kitTab = true := by decide +kernel
theorem kit_tab {K : PySem.W.Frag} {a b : String} (ha : a ∈ tagL) (hb : b ∈ btyL) : PySem.W.kitOne K (.type a) (.type b) = some (b == a || (a == "bool" && b == "int")) := by
  have h := kitTab_ok
  unfold kitTab at h
  have h1 := List.all_eq_true.mp (List.all_eq_true.mp h a ha) b hb
  exact kit_ty (by simpa using h1)

section
variable {G : GC} {F H : Hp} {rho : List Addr} {m : Mem}
/-- the type of what has one -/
theorem isTy_tag (Fa : Facts G) (r : RelM G F H rho m) {d : D} {v : V} (h : RD G rho F d v) (hs : ∃ t b, isTy m d t = some b) : ∃ tag, TyY G.K H v tag ∧ ∀ t b cv cu, isTy m d t = some b → TyV G t cv cu → PySem.W.kitOne G.K tag cu = some b := by
  have gv := r.view h
  have tg : ∀ (a : String), a ∈ tagL → (∀ n b, n ∈ btyL → isTy m d (.bt n) = some b → b = (n == a || (a == "bool" && n == "int"))) → (∀ c b, isTy m d (.own c) = some b → b = false) → TyY G.K H v (.type a) →
      ∃ tag, TyY G.K H v tag ∧ ∀ t b cv cu, isTy m d t = some b → TyV G t cv cu → PySem.W.kitOne G.K tag cu = some b := fun a ha h1 h2 ty => ⟨_, ty, fun t b cv cu e tv => by
    cases tv with
    | bt hn => rw [kit_tab ha hn, h1 _ _ hn e]
    | own hc => rw [Fa.kit1 hc ha, h2 _ _ e]⟩
  cases hv : vw m d with
  | non =>
    rw [hv] at gv
    cases gv
    refine tg "NoneType" (by decide) (fun n b hn e => ?_) (fun c b e => ?_) (.x (.base .non))
    · simp only [isTy, hv] at e; cases e
      revert hn; revert n; decide
    · simp only [isTy, hv] at e; cases e; rfl
  | bl x =>
    rw [hv] at gv
    cases gv
    refine tg "bool" (by decide) (fun n b hn e => ?_) (fun c b e => ?_) (.x (.base (.bl _)))
    · simp only [isTy, hv] at e; cases e
      revert hn; revert n; decide
    · simp only [isTy, hv] at e; cases e; rfl
  | int x =>
    rw [hv] at gv
    cases gv
    refine tg "int" (by decide) (fun n b hn e => ?_) (fun c b e => ?_) (.x (.base (.int _)))
    · simp only [isTy, hv] at e; cases e
      revert hn; revert n; decide
    · simp only [isTy, hv] at e; cases e; rfl
  | str x =>
    rw [hv] at gv
    cases gv
    refine tg "str" (by decide) (fun n b hn e => ?_) (fun c b e => ?_) (.x (.base (.str _)))
    · simp only [isTy, hv] at e; cases e
      revert hn; revert n; decide
    · simp only [isTy, hv] at e; cases e; rfl
  | lst xs =>
    rw [hv] at gv
    refine tg "list" (by decide) (fun n b hn e => ?_) (fun c b e => ?_) ?_
    · simp only [isTy, hv] at e; cases e
      revert hn; revert n; decide
    · simp only [isTy, hv] at e; cases e; rfl
    · cases gv with
      | lst h1 _ => exact .x (.base (.lst h1))
  | scr xs =>
    obtain ⟨t, b, e⟩ := hs
    cases t <;> (simp only [isTy, hv] at e; cases e)
  | tup xs =>
    rw [hv] at gv
    refine tg "tuple" (by decide) (fun n b hn e => ?_) (fun c b e => ?_) ?_
    · simp only [isTy, hv] at e; cases e
      revert hn; revert n; decide
    · simp only [isTy, hv] at e; cases e; rfl
    · cases gv with
      | tup h1 _ => exact .x (.base (.tup h1))
      | tupK h1 =>
        rcases h1 (fun _ => none) with z | ⟨o, its, n, e1, e2, _⟩
        · rcases z with z | ⟨o, z⟩ <;> cases z
        · exact .x (.kTuple e1 e2)
  | dic q xs =>
    rw [hv] at gv
    refine tg "dict" (by decide) (fun n b hn e => ?_) (fun c b e => ?_) ?_
    · simp only [isTy, hv] at e; cases e
      revert hn; revert n; decide
    · simp only [isTy, hv] at e; cases e; rfl
    · cases gv with
      | dicK h1 _ =>
        rcases h1 with h1 | ⟨o, h1⟩
        · exact .x (.base (.dK h1))
        · exact .x (.fDict h1)
      | dicT h1 _ =>
        rcases h1 with h1 | ⟨o, h1⟩
        · exact .x (.base (.dT h1))
        · exact .fT h1
  | ins c fs =>
    rw [hv] at gv
    cases gv with
    | @ins _ C a dx _ fvs h0 h1 h2 =>
      refine ⟨.ref C, .x (.base (.ins h1 (Fa.cls h0) (Fa.ha h0) Fa.hn Fa.htk (Fa.hm h0))), fun t b cv cu e tv => ?_⟩
      cases tv with
      | bt hn =>
        simp only [isTy, hv] at e; cases e
        exact Fa.kit2 h0 hn
      | own hc =>
        simp only [isTy, hv] at e; cases e
        exact Fa.kit3 hc h0
  | cls c =>
    obtain ⟨t, b, e⟩ := hs
    cases t <;> (simp only [isTy, hv] at e; cases e)
  | ref n =>
    obtain ⟨t, b, e⟩ := hs
    cases t <;> (simp only [isTy, hv] at e; cases e)
end

section
variable {X : Cx} {G : GC} {W : WX} {g : Gl} {a b c : E} {ea eb ec : Expr} {pos : Pos}
/-- names of classes -/
def tCs (cs : List V) : TA := fun _ H Q => Q cs H
theorem pa_cs : ∀ {es : List Expr} {cs : List V}, Paired (fun e v => PE X e (tC v) ∧ notStar e = true) es cs → PA X es (tCs cs)
  | _, _, .nil => pa_nil
  | e :: es, v :: cs, .cons h t => by
    refine (pa_cons h.1 (pa_cs t) (starEach_of h.2)).imp fun σ H Q hq => ?_
    exact hq
/-- the one of a value's types -/
theorem isAny_ok (Fa : Facts G) {F H : Hp} {rho : List Addr} {m : Mem} (r : RelM G F H rho m) {d : D} {tag : Value} (hk : ∀ t b cv cu, isTy m d t = some b → TyV G t cv cu → PySem.W.kitOne G.K tag cu = some b) :
    ∀ {ts : List Ty} {cs : List V} {us : List Value} {b : Bool}, isAny m d ts = some b → Paired (fun (t : Ty) (c : V × Value) => TyV G t c.1 c.2) ts (cs.zip us) → cs.length = us.length → PySem.W.kitAny G.K tag us = some b
  | [], [], [], b, e, _, _ => by cases e; rfl
  | [], _ :: _, _ :: _, _, _, h, _ => by cases h
  | [], [], _ :: _, _, _, _, z => by cases z
  | [], _ :: _, [], _, _, _, z => by cases z
  | t :: ts, [], us, _, _, h, _ => by cases h
  | t :: ts, c :: cs, [], _, _, h, _ => by cases h
  | t :: ts, c :: cs, u :: us, b, e, h, z => by
    cases h with
    | cons h1 h2 =>
      unfold isAny at e
      cases e1 : isTy m d t with
      | none => rw [e1] at e; cases e
      | some b1 =>
        cases e2 : isAny m d ts with
        | none => rw [e1, e2] at e; cases e
        | some b2 =>
          rw [e1, e2] at e
          cases e
          refine kitAny_cons (b := b1) (hk _ _ _ _ e1 h1) (fun q => ?_) (fun q => ?_)
          · subst q
            rw [Bool.false_or]
            exact isAny_ok Fa r hk e2 h2 (by simpa using z)
          · subst q
            rfl
theorem isAny_one {m : Mem} {d : D} : ∀ {ts : List Ty} {b : Bool}, isAny m d ts = some b → ts ≠ [] → ∃ t b, isTy m d t = some b
  | [], _, _, h => absurd rfl h
  | t :: ts, b, e, _ => by
    unfold isAny at e
    cases e1 : isTy m d t with
    | none => rw [e1] at e; cases e
    | some b1 => exact ⟨t, b1, e1⟩
theorem se_isi {ty : Ty} {cv : V} {cu : Value} {p : Pos} (Fa : Facts G) (B : Base X G W g) (hg : L2.Gl X "isinstance") (hm : X.mg "isinstance" = none) (ha : SE X G W g ea a) (hs : notStar ea = true) (hc : PE X ec (tC cv)) (hs2 : notStar ec = true) (tv : TyV G ty cv cu) :
    SE X G W g (.Call (.Name "isinstance" p) [ea, ec] [] pos) (.isi a [ty]) := by
  refine ⟨fun pins s σ H Q I h => ?_⟩
  obtain ⟨F, rho, m, e, r, re, hp⟩ := h
  rw [ev] at hp
  refine wpAny_Call_Name_kw (ld_blt I hg hm (by decide +kernel : bootBuiltins "isinstance" = some (.builtin "isinstance")) ?_ (by decide) (by decide))
  have pa := pa_cons (te := tI G W (RD1 G) (ev g a)) ha (pa_cs (.cons ⟨hc, hs2⟩ .nil)) (starEach_of hs)
  refine PyProof.Rows.callWith_builtin1 (thn (pa.run pos pins s σ H (fun vs H' => ∃ x, vs = [x, cv] ∧ At G (RD1 G) F H rho x H' fun F1 rho1 d m1 => Post G W σ (RD1 G) F1 H' rho1 (opt ((isAny m1 d [ty]).map .bl) m1) Q) I (tI.mk r re ((Post.bind (R1 := RD1 G) hp).imp fun x H' q => ⟨x, rfl, q⟩))) fun us s1 ⟨vs, H1, I1, r1, x, ev_, q1⟩ => ?_) (starEach_of hs) ?_
  · subst ev_
    obtain ⟨u1, u2, rfl, ra, rc⟩ := vals2 r1
    obtain ⟨F1, rho1, d, m1, x1, rm1, rr, hp1⟩ := q1
    obtain ⟨d', e1, hp2⟩ := Post.opt hp1
    obtain ⟨b, e2, rfl⟩ := map_some e1
    obtain ⟨tag, ty', hk⟩ := isTy_tag Fa rm1 rr (isAny_one e2 (by simp))
    have e3 : isTy m1 d ty = some b := by
      unfold isAny at e2
      cases q : isTy m1 d ty with
      | none => rw [q] at e2; cases e2
      | some b1 =>
        rw [q] at e2
        unfold isAny at e2
        cases e2
        rw [Bool.or_false]
    exact call_isiY I1 ra rc tv.cls (B.hK ▸ ty') (B.hK ▸ hk _ _ _ _ e3 tv) (hp2.here rm1 (.bl _))
  · rw [starEach_of hs2]
    rfl
theorem se_isiT {tys : List Ty} {cs : List V} {us : List Value} {es : List Expr} {kk : Nat} {p p2 : Pos} (Fa : Facts G) (B : Base X G W g) (hg : L2.Gl X "isinstance") (hm : X.mg "isinstance" = none) (ha : SE X G W g ea a) (hs : notStar ea = true)
    (hc : Paired (fun e v => PE X e (tC v) ∧ notStar e = true) es cs) (tv : Paired (fun (t : Ty) (c : V × Value) => TyV G t c.1 c.2) tys (cs.zip us)) (hl : cs.length = us.length) (hne : tys ≠ []) (hsz : cs.length ≤ sizeLine) :
    SE X G W g (.Call (.Name "isinstance" p) [ea, .Tuple es kk p2] [] pos) (.isi a tys) := by
  refine ⟨fun pins s σ H Q I h => ?_⟩
  obtain ⟨F, rho, m, e, r, re, hp⟩ := h
  rw [ev] at hp
  refine wpAny_Call_Name_kw (ld_blt I hg hm (by decide +kernel : bootBuiltins "isinstance" = some (.builtin "isinstance")) ?_ (by decide) (by decide))
  have pa := pa_cons (te := tI G W (RD1 G) (ev g a)) ha (pa_cons (pe_tup (pos := p2) (x1 := kk) (pa_cs hc)) pa_nil (starEach_of rfl)) (starEach_of hs)
  refine PyProof.Rows.callWith_builtin1 (thn (pa.run pos pins s σ H (fun vs H' => ∃ x tp, vs = [x, .ref tp] ∧ H' tp = some (.tup cs) ∧ At G (RD1 G) F H rho x H' fun F1 rho1 d m1 => Post G W σ (RD1 G) F1 H' rho1 (opt ((isAny m1 d tys).map .bl) m1) Q) I (tI.mk r re ((Post.bind (R1 := RD1 G) hp).imp fun x H' q => ⟨hsz, fun tp htp => ?_⟩))) fun us s1 ⟨vs, H1, I1, r1, x, tp, ev_, ht, q1⟩ => ?_) (starEach_of hs) rfl
  · refine ⟨x, tp, rfl, upd_same, ?_⟩
    obtain ⟨F1, rho1, d, m1, x1, rm1, rr, hp1⟩ := q
    obtain ⟨rm2, x2⟩ := rm1.frozen (o := .tup cs) htp
    exact ⟨_, _, d, m1, x1.trans x2, rm2, x2.rd rm1 rr, hp1.ext x2⟩
  · subst ev_
    obtain ⟨u1, u2, rfl, ra, rc⟩ := vals2 r1
    obtain ⟨F1, rho1, d, m1, x1, rm1, rr, hp1⟩ := q1
    obtain ⟨d', e1, hp2⟩ := Post.opt hp1
    obtain ⟨b, e2, rfl⟩ := map_some e1
    obtain ⟨tag, ty', hk⟩ := isTy_tag Fa rm1 rr (isAny_one e2 hne)
    cases rc
    have pc : ∀ {tys : List Ty} {cs : List V} {us : List Value}, Paired (fun (t : Ty) (c : V × Value) => TyV G t c.1 c.2) tys (cs.zip us) → cs.length = us.length → Paired ClsV cs us := by
      intro tys cs
      induction cs generalizing tys with
      | nil =>
        intro us h z
        cases us with
        | nil => exact .nil
        | cons _ _ => cases z
      | cons c cs ih =>
        intro us h z
        cases us with
        | nil => cases z
        | cons u us =>
          cases h with
          | cons h1 h2 => exact .cons h1.cls (ih h2 (by simpa using z))
    exact call_isiTY I1 ra ht (pc tv hl) (B.hK ▸ ty') (B.hK ▸ isAny_ok Fa rm1 hk e2 tv hl) (hp2.here rm1 (.bl _))

/-! ### built-in calls by values -/
/-- what a built-in does with values -/
def BiR (X : Cx) (G : GC) (W : WX) (f : Value) (k : List D → Mem → Res D) : Prop :=
  ∀ (pins : List (Addr × Obj)) (s : Shared) (σ : L2.St) (H F : Hp) (rho : List Addr) (m : Mem) (ds : List D) (vs : List V) (us : List Value) (Q : VK), Inv X pins σ H s → Vals vs us → RelM G F H rho m → RDs G rho F ds vs →
    Post G W σ (RD1 G) F H rho (k ds m) Q → wpAny (model X.prog X.w) X.A (call f us) (EP X pins σ Q) X.xe s
theorem se_callB {x : Str} {id : String} {p : Pos} {es : List Expr} {as : Es} {k : List D → Mem → Res D} {E : E} (hc : BiR X G W (.builtin id) k) (hg : L2.Gl X x) (hm : X.mg x = none) (hv : bootBuiltins x = some (.builtin id)) (ha : SA X G W g (ea :: es) as)
    (hn : x ≠ "__name__") (hdb : (x == ("__debug__" : Str)) = false) (he : notStar ea = true) (hpl : (backTo pos (starEach es X.env)).any (·.1) = false)
    (hE : ∀ e m, ev g E e m = (evs g as e m).bind fun vs m1 => k vs m1) : SE X G W g (.Call (.Name x p) (ea :: es) [] pos) E := by
  refine ⟨fun pins s σ H Q I h => ?_⟩
  obtain ⟨F, rho, m, e, r, re, hp⟩ := h
  rw [hE] at hp
  refine wpAny_Call_Name_kw (ld_blt I hg hm hv ?_ hn hdb)
  refine PyProof.Rows.callWith_builtin1 (thn (ha.run pos pins s σ H _ I (tI.mk r re (Post.bind (R1 := RDL G) hp))) fun us s1 ⟨vs, H1, I1, r1, F1, rho1, ds, m1, x1, rm1, rr, hp1⟩ => ?_) (starEach_of he) hpl
  exact hc pins s1 σ H1 F1 rho1 m1 ds vs us Q I1 r1 rm1 rr hp1
theorem se_callTy {x : Str} {T : String} {p : Pos} {es : List Expr} {as : Es} {k : List D → Mem → Res D} {E : E} (hc : BiR X G W (.type T) k) (hg : L2.Gl X x) (hm : X.mg x = none) (hv : bootBuiltins x = some (.type T)) (ha : SA X G W g (ea :: es) as)
    (hn : x ≠ "__name__") (hdb : (x == ("__debug__" : Str)) = false) (he : notStar ea = true) (hpl : (backTo pos (starEach es X.env)).any (·.1) = false)
    (hE : ∀ e m, ev g E e m = (evs g as e m).bind fun vs m1 => k vs m1) : SE X G W g (.Call (.Name x p) (ea :: es) [] pos) E := by
  refine ⟨fun pins s σ H Q I h => ?_⟩
  obtain ⟨F, rho, m, e, r, re, hp⟩ := h
  rw [hE] at hp
  refine wpAny_Call_Name_kw (ld_blt I hg hm hv ?_ hn hdb)
  refine PyProof.Rows.callWith_type1 (thn (ha.run pos pins s σ H _ I (tI.mk r re (Post.bind (R1 := RDL G) hp))) fun us s1 ⟨vs, H1, I1, r1, F1, rho1, ds, m1, x1, rm1, rr, hp1⟩ => ?_) (starEach_of he) hpl
  exact hc pins s1 σ H1 F1 rho1 m1 ds vs us Q I1 r1 rm1 rr hp1
theorem one_of {G : GC} {rho : List Addr} {F : Hp} {d : D} {vs : List V} (h : RDs G rho F [d] vs) : ∃ v, vs = [v] ∧ RD G rho F d v := by
  cases h with
  | cons h t => cases t; exact ⟨_, rfl, h⟩
theorem two_of {G : GC} {rho : List Addr} {F : Hp} {d d' : D} {vs : List V} (h : RDs G rho F [d, d'] vs) : ∃ v v', vs = [v, v'] ∧ RD G rho F d v ∧ RD G rho F d' v' := by
  cases h with
  | cons h t =>
    cases t with
    | cons h' t => cases t; exact ⟨_, _, rfl, h, h'⟩
theorem bi_len (B : Base X G W g) (O : Own X G W g) (hc : g.cur.isNone = true) : BiR X G W (.builtin "len") (biLen g) := by
  intro pins s σ H F rho m ds vs us Q I rv r rd h
  unfold biLen at h
  split at h
  · obtain ⟨v, rfl, rr⟩ := one_of rd
    split at h
    · rename_i xs ev_
      obtain ⟨a, ws, rfl, h1, h2⟩ := r.vwl rr ev_
      exact call_len_seq pins s σ H _ us Q I rv ⟨a, ws, rfl, .inl (SqL.of h1), by rw [← h2.length]; exact h.here r (.int _)⟩
    · rename_i xs ev_
      obtain ⟨a, ws, rfl, h1, _, h2⟩ := r.vwt rr ev_
      exact call_len_seq pins s σ H _ us Q I rv ⟨a, ws, rfl, .inr (B.hK ▸ h1), by rw [← h2.length]; exact h.here r (.int _)⟩
    · rename_i xs ev_
      have ed : _ = D.scr xs := vw_of ev_ fun k w => by
        subst w
        rcases vw_ref ev_ with ⟨_, w⟩ | ⟨_, _, w⟩ | ⟨_, _, w⟩ | w <;> cases w
      subst ed
      cases rr with
      | @scr a o ws _ h1 h2 =>
        exact call_len_seq pins s σ H _ us Q I rv ⟨a, ws, rfl, .inl (.inl (.inr ⟨o, r.sub.get h1 rfl⟩)), by rw [← h2.length]; exact h.here r (.int _)⟩
      | @scrK a ws _ h1 h2 => exact call_len_seq pins s σ H _ us Q I rv ⟨a, ws, rfl, .inl (B.hK ▸ h1 _), by rw [← h2.length]; exact h.here r (.int _)⟩
    · rename_i q xs ev_
      obtain ⟨a, rfl, hd⟩ := r.vwd rr ev_
      obtain ⟨u, rfl, ru⟩ := vals1 rv
      cases ru
      cases hd with
      | @k _ ks _ h1 h2 =>
        have hl : ∀ {xs : List (D × D)} {ks : List (Key × V)}, RDk G rho F xs ks → xs.length = ks.length := by
          intro xs
          induction xs with
          | nil => intro ks h; cases h; rfl
          | cons x xs ih => intro ks h; cases h with | cons _ _ t => exact congrArg Nat.succ (ih t)
        exact d_len I h1 fun t s' I' => ⟨.int ks.length, H, I', ⟨t, rfl⟩, by rw [← hl h2]; exact h.here r (.int _)⟩
      | @t _ ks _ h1 h2 =>
        have hl : ∀ {xs : List (D × D)} {ks : List (List Key × V)}, RDt G rho F xs ks → xs.length = ks.length := by
          intro xs
          induction xs with
          | nil => intro ks h; cases h; rfl
          | cons x xs ih => intro ks h; cases h with | cons _ _ t => exact congrArg Nat.succ (ih t)
        obtain ⟨z, hd, ys, rel, dd⟩ := dt_rd I.hok h1
        have hl2 : ks.length = ys.length := Paired.length rel
        refine call_len_dictH hd dd (by rw [← hl2]; rw [sizeLine_eq] at z; omega) ?_
        rw [← hl2, ← hl h2]
        exact ⟨.int ((xs.length : Nat) : Int), H, I.tok _, ⟨_, rfl⟩, h.here r (.int _)⟩
    · rename_i x ev_
      obtain ⟨hl, h2⟩ := Post.ite h
      have ed : _ = D.str x := vw_of ev_ fun k w => by
        subst w
        rcases vw_ref ev_ with ⟨_, w⟩ | ⟨_, _, w⟩ | ⟨_, _, w⟩ | w <;> cases w
      subst ed
      cases rr
      exact call_len_str pins s σ H _ us Q I rv ⟨x, rfl, of_decide_eq_true hl, h2.here r (.int _)⟩
    · rename_i c fs ev_
      obtain ⟨u, rfl, ru⟩ := vals1 rv
      refine O.len hc I ru r rr ev_ ?_
      unfold biLen
      simp only [ev_]
      exact h
    · exact h.elim
  · exact h.elim
theorem bi_abs : BiR X G W (.builtin "abs") biAbs := by
  intro pins s σ H F rho m ds vs us Q I rv r rd h
  unfold biAbs at h
  split at h <;> first | exact h.elim | skip
  · obtain ⟨v, rfl, rr⟩ := one_of rd
    cases rr
    exact call_abs pins s σ H _ us Q I rv ⟨_, rfl, h.here r (.int _)⟩
theorem bi_int : BiR X G W (.type "int") biInt := by
  intro pins s σ H F rho m ds vs us Q I rv r rd h
  unfold biInt at h
  split at h <;> first | exact h.elim | skip
  · obtain ⟨v, rfl, rr⟩ := one_of rd
    cases rr
    exact call_int1 pins s σ H _ us Q I rv (.inl ⟨_, rfl, h.here r (.int _)⟩)
  · obtain ⟨v, rfl, rr⟩ := one_of rd
    cases rr
    exact call_int1 pins s σ H _ us Q I rv (.inr ⟨_, rfl, h.here r (.int _)⟩)
  · split at h
    · rename_i n e1
      obtain ⟨hl, h2⟩ := Post.ite h
      obtain ⟨v, rfl, rr⟩ := one_of rd
      cases rr
      exact call_int_str pins s σ H _ us Q I rv ⟨_, _, rfl, e1, of_decide_eq_true hl, h2.here r (.int _)⟩
    · exact h.elim
theorem intText_some {i : Int} {x : Str} (e : intText i = some x) : i.natAbs.log2 < 1920 ∧ x = toString i := by
  unfold intText at e
  split at e
  · rename_i h
    cases e
    exact ⟨of_decide_eq_true h, rfl⟩
  · cases e
theorem bi_str : BiR X G W (.type "str") biStr := by
  intro pins s σ H F rho m ds vs us Q I rv r rd h
  unfold biStr at h
  split at h <;> first | exact h.elim | skip
  · obtain ⟨v, rfl, rr⟩ := one_of rd
    cases rr
    obtain ⟨d, e1, h2⟩ := Post.opt h
    obtain ⟨x, e2, rfl⟩ := map_some e1
    obtain ⟨hl, rfl⟩ := intText_some e2
    exact call_str_int pins s σ H _ us Q I rv ⟨_, rfl, hl, h2.here r (.str _)⟩
  · obtain ⟨v, rfl, rr⟩ := one_of rd
    cases rr
    exact SkE.call_str_str pins s σ H _ us Q I rv ⟨_, rfl, h.here r (.str _)⟩
theorem bi_repr : BiR X G W (.builtin "repr") biRepr := by
  intro pins s σ H F rho m ds vs us Q I rv r rd h
  unfold biRepr at h
  split at h <;> first | exact h.elim | skip
  · obtain ⟨v, rfl, rr⟩ := one_of rd
    cases rr
    obtain ⟨d, e1, h2⟩ := Post.opt h
    obtain ⟨x, e2, rfl⟩ := map_some e1
    obtain ⟨hl, rfl⟩ := intText_some e2
    exact SkE.call_repr_int pins s σ H _ us Q I rv ⟨_, rfl, hl, h2.here r (.str _)⟩
theorem bi_max (hc : X.calm = true) : BiR X G W (.builtin "max") biMax := by
  intro pins s σ H F rho m ds vs us Q I rv r rd h
  unfold biMax at h
  split at h <;> first | exact h.elim | skip
  · obtain ⟨v, v', rfl, rr, rr'⟩ := two_of rd
    cases rr
    cases rr'
    exact call_max2 hc pins s σ H _ us Q I rv ⟨_, _, rfl, h.here r (.int _)⟩
theorem bi_min (hc : X.calm = true) : BiR X G W (.builtin "min") biMin := by
  intro pins s σ H F rho m ds vs us Q I rv r rd h
  unfold biMin at h
  split at h <;> first | exact h.elim | skip
  · obtain ⟨v, v', rfl, rr, rr'⟩ := two_of rd
    cases rr
    cases rr'
    exact call_min2 hc pins s σ H _ us Q I rv ⟨_, _, rfl, h.here r (.int _)⟩
/-- the built-in's name, the value it stands for -/
def biName : Bi → Str × Value
  | .len => ("len", .builtin "len")
  | .abs => ("abs", .builtin "abs")
  | .int => ("int", .type "int")
  | .str => ("str", .type "str")
  | .max2 => ("max", .builtin "max")
  | .min2 => ("min", .builtin "min")
  | .repr => ("repr", .builtin "repr")
theorem bi_ok (B : Base X G W g) (O : Own X G W g) (hc : g.cur.isNone = true) (b : Bi) : BiR X G W (biName b).2 (biP g b) := by
  have hc' : X.calm = true := B.calm (by simpa using hc)
  cases b with
  | len => exact bi_len B O hc
  | abs => exact bi_abs
  | int => exact bi_int
  | str => exact bi_str
  | max2 => exact bi_max hc'
  | min2 => exact bi_min hc'
  | repr => exact bi_repr
theorem se_bi {b : Bi} {es : List Expr} {as : Es} {p : Pos} (B : Base X G W g) (O : Own X G W g) (hg : L2.Gl X (biName b).1) (hm : X.mg (biName b).1 = none) (ha : SA X G W g (ea :: es) as)
    (he : notStar ea = true) (hpl : (backTo pos (starEach es X.env)).any (·.1) = false) : SE X G W g (.Call (.Name (biName b).1 p) (ea :: es) [] pos) (.bi b as) := by
  refine ⟨fun pins s σ H Q I h => ?_⟩
  by_cases hc : g.cur.isNone = true
  · have hE : ∀ e m, ev g (.bi b as) e m = (evs g as e m).bind fun vs m1 => biP g b vs m1 := fun e m => by rw [ev, if_pos hc]
    have key : SE X G W g (.Call (.Name (biName b).1 p) (ea :: es) [] pos) (.bi b as) := by
      have hk := bi_ok B O hc b
      cases b <;> first
        | exact se_callB hk hg hm (by decide +kernel) ha (by decide) (by decide) he hpl hE
        | exact se_callTy hk hg hm (by decide +kernel) ha (by decide) (by decide) he hpl hE
    exact key.run pins s σ H Q I h
  · obtain ⟨F, rho, m, e, r, re, hp⟩ := h
    rw [ev, if_neg hc] at hp
    exact hp.elim
/-! ### list(x), tuple(x), all(x), any(x), sum(x) -/
theorem newM_ok {mu : Bool} {F H : Hp} {rho : List Addr} {m : Mem} {σ : L2.St} {ds : List D} {vs : List V} {Q : VK} {p : Addr} (r : RelM G F H rho m) (rr : RDs G rho F ds vs) (hp : H p = none) (h : Post G W σ (RD1 G) F H rho (newM mu ds m) Q) : Q (.ref p) (upd H p (.lst vs)) := by
  unfold newM at h
  cases mu with
  | false => exact new_frozen r h hp (rd_lst r hp rr)
  | true =>
    have gr : RDs G (rho ++ [p]) F ds vs := RDs.mono (Grow.refl F).sub (Beg.app _ _) ds vs rr
    obtain ⟨r', x⟩ := r.cell (o := .lst vs) (c := .lst ds) hp ⟨vs, upd_same, gr⟩
    refine h _ _ _ _ x r' (.ref ?_)
    rw [r.len]
    simp
theorem bools_rd {rho : List Addr} {H : Hp} : ∀ {ds : List D} {vs : List V} {bs : List Bool}, bools ds = some bs → RDs G rho H ds vs → vs = bs.map V.bl
  | [], _, _, e, h => by
    cases e
    cases h
    rfl
  | .bl i :: ds, _, is, e, h => by
    cases h with
    | @cons _ v _ vs h1 h2 =>
      simp only [bools] at e
      cases q2 : bools ds with
      | none => rw [q2] at e; cases e
      | some r =>
        rw [q2] at e
        cases e
        cases h1
        rw [bools_rd q2 h2] <;> rfl
  | .non :: _, _, _, e, _ => by cases e
  | .int _ :: _, _, _, e, _ => by cases e
  | .str _ :: _, _, _, e, _ => by cases e
  | .tup _ :: _, _, _, e, _ => by cases e
  | .lst _ :: _, _, _, e, _ => by cases e
  | .dic _ _ :: _, _, _, e, _ => by cases e
  | .ins _ _ :: _, _, _, e, _ => by cases e
  | .cls _ :: _, _, _, e, _ => by cases e
  | .ref _ :: _, _, _, e, _ => by cases e
  | .scr _ :: _, _, _, e, _ => by cases e
def sqName : Sq → Str × Value
  | .list _ => ("list", .type "list")
  | .tuple => ("tuple", .type "tuple")
  | .all => ("all", .builtin "all")
  | .any => ("any", .builtin "any")
  | .sum => ("sum", .builtin "sum")
  | .dict => ("dict", .type "dict")
def sqL (t : Sq) : List D → Mem → Res D
  | [x], m => sqP t (vw m x) m
  | _, _ => .no
theorem sq_ok (B : Base X G W g) (hc : g.cur.isNone = true) (t : Sq) : BiR X G W (sqName t).2 (sqL t) := by
  have hc' : X.calm = true := B.calm (by simpa using hc)
  intro pins s σ H F rho m ds vs us Q I rv r rd h
  unfold sqL at h
  split at h
  rotate_left
  · exact h.elim
  obtain ⟨v, rfl, rr⟩ := one_of rd
  generalize ev_ : vw m _ = y at h
  cases t with
  | list mu =>
    dsimp only [sqP] at h
    split at h
    · rename_i xs
      obtain ⟨a, ws, rfl, h1, h2⟩ := r.vwl rr ev_
      exact call_list_of pins s σ H _ us Q I rv ⟨a, ws, rfl, .inl (SqL.of h1), fun p hp => newM_ok r h2 hp h⟩
    · rename_i xs
      obtain ⟨a, ws, rfl, h1, _, h2⟩ := r.vwt rr ev_
      exact call_list_of pins s σ H _ us Q I rv ⟨a, ws, rfl, .inr (B.hK ▸ h1), fun p hp => newM_ok r h2 hp h⟩
    · rename_i xs
      have ed : _ = D.scr xs := vw_of ev_ fun k w => by
        subst w
        rcases vw_ref ev_ with ⟨_, w⟩ | ⟨_, _, w⟩ | ⟨_, _, w⟩ | w <;> cases w
      subst ed
      cases rr with
      | @scr a o ws _ h1 h2 => exact call_list_of pins s σ H _ us Q I rv ⟨a, ws, rfl, .inl (.inl (.inr ⟨o, r.sub.get h1 rfl⟩)), fun p hp => newM_ok r h2 hp h⟩
      | @scrK a ws _ h1 h2 => exact call_list_of pins s σ H _ us Q I rv ⟨a, ws, rfl, .inl (B.hK ▸ h1 _), fun p hp => newM_ok r h2 hp h⟩
    · exact h.elim
  | tuple =>
    dsimp only [sqP] at h
    split at h
    · rename_i xs
      obtain ⟨a, ws, rfl, h1, h2⟩ := r.vwl rr ev_
      exact call_tuple_of pins s σ H _ us Q I rv ⟨a, ws, rfl, .inl ⟨SqL.of h1, fun p hp => new_frozen r h hp (rd_tup r hp h2)⟩⟩
    · rename_i xs
      obtain ⟨a, ws, rfl, h1, _, h2⟩ := r.vwt rr ev_
      have ed := vw_tup ev_
      subst ed
      exact call_tuple_of pins s σ H _ us Q I rv ⟨a, ws, rfl, .inr ⟨B.hK ▸ h1, h.here r rr⟩⟩
    · exact h.elim
  | all =>
    dsimp only [sqP] at h
    split at h
    · rename_i xs
      obtain ⟨a, ws, rfl, h1, h2⟩ := r.vwl rr ev_
      obtain ⟨d, e1, h3⟩ := Post.opt h
      obtain ⟨bs, e2, rfl⟩ := map_some e1
      have z := bools_rd e2 h2
      subst z
      exact cr_all hc' pins s σ H _ us Q I rv ⟨a, bs, rfl, SqL.of h1, h3.here r (.bl _)⟩
    · exact h.elim
  | any =>
    dsimp only [sqP] at h
    split at h
    · rename_i xs
      obtain ⟨a, ws, rfl, h1, h2⟩ := r.vwl rr ev_
      obtain ⟨d, e1, h3⟩ := Post.opt h
      obtain ⟨bs, e2, rfl⟩ := map_some e1
      have z := bools_rd e2 h2
      subst z
      exact cr_any hc' pins s σ H _ us Q I rv ⟨a, bs, rfl, SqL.of h1, h3.here r (.bl _)⟩
    · exact h.elim
  | sum =>
    dsimp only [sqP] at h
    split at h
    · rename_i xs
      obtain ⟨a, ws, rfl, h1, h2⟩ := r.vwl rr ev_
      obtain ⟨d, e1, h3⟩ := Post.opt h
      obtain ⟨bs, e2, rfl⟩ := map_some e1
      have z := RDs.ints e2 h2
      subst z
      exact cr_sum hc' pins s σ H _ us Q I rv ⟨a, bs, rfl, SqL.of h1, h3.here r (.int _)⟩
    · exact h.elim
  | dict =>
    dsimp only [sqP] at h
    split at h
    · obtain ⟨a, rfl, hd⟩ := r.vwd rr ev_
      cases hd with
      | k h1 h2 =>
        refine call_dictD pins s σ H _ us Q I rv ⟨a, _, rfl, h1, fun p hp => ?_⟩
        obtain ⟨r1, x1⟩ := r.cell (o := .dK _) (c := .dic .k _) hp ⟨_, upd_same, RDk.mono (Grow.refl F).sub (Beg.app _ _) _ _ h2⟩
        exact h _ _ _ _ x1 r1 (.ref (by rw [r.len]; simp))
    · exact h.elim
theorem se_seq {t : Sq} {p : Pos} (B : Base X G W g) (hg : L2.Gl X (sqName t).1) (hm : X.mg (sqName t).1 = none) (ha : SE X G W g ea a) (he : notStar ea = true) : SE X G W g (.Call (.Name (sqName t).1 p) [ea] [] pos) (.seq t a) := by
  refine ⟨fun pins s σ H Q I h => ?_⟩
  by_cases hc : g.cur.isNone = true
  · have hE : ∀ e m, ev g (.seq t a) e m = (evs g (.one a .nil) e m).bind fun vs m1 => sqL t vs m1 := fun e m => by
      rw [ev, if_pos hc, evs]
      cases ev g a e m with
      | ok x m1 =>
        simp only [Res.bind_ok]
        rw [evs]
        rfl
      | ex x m1 => rfl
      | no => rfl
    have key : SE X G W g (.Call (.Name (sqName t).1 p) [ea] [] pos) (.seq t a) := by
      have hk := sq_ok B hc t
      have ha' := sa_one ha sa_nil he
      rcases t with mu | _ | _ | _ | _ | _
      · cases mu <;> exact se_callTy hk hg hm (by decide +kernel) ha' (by decide) (by decide) he rfl hE
      all_goals first
        | exact se_callB hk hg hm (by decide +kernel) ha' (by decide) (by decide) he rfl hE
        | exact se_callTy hk hg hm (by decide +kernel) ha' (by decide) (by decide) he rfl hE
    exact key.run pins s σ H Q I h
  · obtain ⟨F, rho, m, e, r, re, hp⟩ := h
    rw [ev, if_neg hc] at hp
    exact hp.elim
/-! ### methods of texts -/
def bmName : Bm → String
  | .split => "split"
  | .join => "join"
theorem strs_rd {rho : List Addr} {H : Hp} : ∀ {ds : List D} {vs : List V} {ys : List Str}, strsD ds = some ys → RDs G rho H ds vs → vs = ys.map V.str
  | [], _, _, e, h => by
    cases e
    cases h
    rfl
  | .str i :: ds, _, is, e, h => by
    cases h with
    | @cons _ v _ vs h1 h2 =>
      simp only [strsD] at e
      cases q2 : strsD ds with
      | none => rw [q2] at e; cases e
      | some r =>
        rw [q2] at e
        cases e
        cases h1
        rw [strs_rd q2 h2] <;> rfl
  | .non :: _, _, _, e, _ => by cases e
  | .int _ :: _, _, _, e, _ => by cases e
  | .bl _ :: _, _, _, e, _ => by cases e
  | .tup _ :: _, _, _, e, _ => by cases e
  | .lst _ :: _, _, _, e, _ => by cases e
  | .dic _ _ :: _, _, _, e, _ => by cases e
  | .ins _ _ :: _, _, _, e, _ => by cases e
  | .cls _ :: _, _, _, e, _ => by cases e
  | .ref _ :: _, _, _, e, _ => by cases e
  | .scr _ :: _, _, _, e, _ => by cases e
theorem rds_strs {rho : List Addr} {H : Hp} : ∀ (ys : List Str), RDs G rho H (ys.map .str) (ys.map V.str)
  | [] => .nil
  | y :: ys => .cons (.str y) (rds_strs ys)
theorem se_split {eo : Expr} {o : E} {apos : Pos} (ho : SE X G W g eo o) (ha : SE X G W g ea a) (hn : notStar ea = true) (hbase : attributeBase eo "split" X.env (eval eo X.env) = eval eo X.env) (hline : (apos.endLine == pos.line) = true) : SE X G W g (.Call (.Attribute eo "split" apos) [ea] [] pos) (.bm .split o a) := by
  refine (pe_split ho ha (by rw [starEach_of hn]; rfl) hbase hline).imp fun σ H Q h => ?_
  obtain ⟨F, rho, m, e, r, re, hp⟩ := h
  rw [ev] at hp
  refine tI.mk r re ((Post.bind (R1 := RD1 G) hp).imp fun v H1 ⟨F1, rho1, d, m1, x1, r1, rr, hp1⟩ => ?_)
  have re1 := x1.rde r re
  cases d with
  | str z =>
    cases rr
    refine ⟨⟨_, rfl⟩, tI.mk r1 re1 ((Post.bind (R1 := RD1 G) hp1).imp fun y H2 ⟨F2, rho2, d2, m2, x2, r2, rr2, hp2⟩ => ?_)⟩
    unfold bmP at hp2
    dsimp only at hp2
    split at hp2
    · cases rr2
      obtain ⟨hc, hp3⟩ := Post.ite hp2
      simp only [Bool.and_eq_true, Bool.not_eq_true', decide_eq_true_eq] at hc
      exact ⟨_, _, rfl, rfl, hc.1, hc.2, fun p hp => new_frozen r2 hp3 hp (rd_lst r2 hp (rds_strs _))⟩
    · exact hp2.elim
  | _ => exact hp1.elim
theorem se_join {eo : Expr} {o : E} {apos : Pos} (hK : X.K = G.K) (ho : SE X G W g eo o) (ha : SE X G W g ea a) (hn : notStar ea = true) (hbase : attributeBase eo "join" X.env (eval eo X.env) = eval eo X.env) (hline : (apos.endLine == pos.line) = true) : SE X G W g (.Call (.Attribute eo "join" apos) [ea] [] pos) (.bm .join o a) := by
  refine (pe_join ho ha (by rw [starEach_of hn]; rfl) hbase hline).imp fun σ H Q h => ?_
  obtain ⟨F, rho, m, e, r, re, hp⟩ := h
  rw [ev] at hp
  refine tI.mk r re ((Post.bind (R1 := RD1 G) hp).imp fun v H1 ⟨F1, rho1, d, m1, x1, r1, rr, hp1⟩ => ?_)
  have re1 := x1.rde r re
  cases d with
  | str z =>
    cases rr
    refine ⟨⟨_, rfl⟩, tI.mk r1 re1 ((Post.bind (R1 := RD1 G) hp1).imp fun y H2 ⟨F2, rho2, d2, m2, x2, r2, rr2, hp2⟩ => ?_)⟩
    unfold bmP at hp2
    dsimp only at hp2
    split at hp2
    · rename_i xs ev_
      unfold joinR at hp2
      split at hp2
      · rename_i ys hy
        obtain ⟨hc, hp3⟩ := Post.ite hp2
        obtain ⟨p, ws, rfl, h1, h2⟩ := r2.vwl rr2 ev_
        have z := strs_rd hy h2
        subst z
        exact ⟨_, p, ys, rfl, rfl, .inl (SqL.of h1), of_decide_eq_true hc, hp3.here r2 (.str _)⟩
      · exact hp2.elim
    · rename_i xs ev_
      unfold joinR at hp2
      split at hp2
      · rename_i ys hy
        obtain ⟨hc, hp3⟩ := Post.ite hp2
        obtain ⟨p, ws, rfl, h1, _, h2⟩ := r2.vwt rr2 ev_
        have z := strs_rd hy h2
        subst z
        exact ⟨_, p, ys, rfl, rfl, .inr (hK ▸ h1), of_decide_eq_true hc, hp3.here r2 (.str _)⟩
      · exact hp2.elim
    · exact hp2.elim
  | _ => exact hp1.elim
end
end IP

/-! IpH -/
set_option Elab.async false
set_option linter.all false
set_option maxRecDepth 100000
set_option maxHeartbeats 4000000
/-! IpH: walks. -/
namespace IP
open PySem L2 PyProof.Rows

/-! ### enumerate and zip over lists and tuples of any mix -/
inductive Kd where
  | l | t
def Kd.sq (K : PySem.W.Frag) (H : Hp) (a : Addr) (xs : List V) : Kd → Prop
  | .l => SqL K H a xs
  | .t => SqT K H a xs
def Kd.is (h : Heap) (a : Addr) (xs : Array Value) : Kd → Prop
  | .l => h.IsList a xs
  | .t => h.IsTuple a xs
def Kd.it (h : Heap) (it a : Addr) (i : Nat) : Kd → Prop
  | .l => h.IsListIter it a i
  | .t => h.IsTupleIter it a i
def Kd.o (a : Addr) : Kd → Obj
  | .l => { cls := .type "list_iterator", data := .fields #[.ref a, .int 0 0] }
  | .t => { cls := .type "tuple_iterator", data := .fields #[.ref a, .int 0 0] }
theorem Kd.begins (k : Kd) (a : Addr) (its : Array Value) : Begins (.ref a) (k.o a) fun h => k.is h a its := by
  cases k with
  | l => exact begins_list a its
  | t => exact begins_tuple a its
theorem Kd.draws (k : Kd) {prog : Program} {w : World} {A : Around} (hh : A.handled = none) (it a : Addr) (hne : a ≠ it) (its : Array Value) : Draws prog w A it [it, a] its.size (fun i v => its[i]? = some v) (fun i h => k.it h it a i ∧ k.is h a its) := by
  cases k with
  | l => exact Draws.list hh it a hne its
  | t => exact Draws.tuple hh it a hne its
theorem Kd.look {X : Cx} {pins : List (Addr × Obj)} {σ : L2.St} {H : Hp} {s : Shared} (k : Kd) (I : Inv X pins σ H s) {a : Addr} {xs : List V} (h : k.sq X.K H a xs) : ∃ its, Vals xs its ∧ k.is s.heap a its.toArray ∧ a < s.heap.objs.size := by
  cases k with
  | l =>
    obtain ⟨its, rv, p, _⟩ := I.list h
    exact ⟨its, rv, p.isList, p.lt⟩
  | t =>
    obtain ⟨its, rv, p, _⟩ := I.tuple h
    obtain ⟨o, ho, _⟩ := id p
    exact ⟨its, rv, p, Heap.lt_size ho⟩
theorem Kd.inj {X : Cx} {pins : List (Addr × Obj)} {σ : L2.St} {H : Hp} {s : Shared} (k : Kd) (I : Inv X pins σ H s) {a : Addr} {xs ys : List V} (h : k.sq X.K H a xs) (h' : k.sq X.K H a ys) : xs = ys := by
  cases k with
  | l => exact I.list_inj h h'
  | t => exact I.tuple_inj h h'
theorem Kd.it_obj {h : Heap} {it a : Addr} {i : Nat} (k : Kd) (x : k.it h it a i) : ∃ o, h.get? it = some o ∧ ∀ v, o.data ≠ .cell v := by
  cases k with
  | l => obtain ⟨o, e, _, d⟩ := x; exact ⟨o, e, fun v q => by rw [d] at q; cases q⟩
  | t => obtain ⟨o, e, _, d⟩ := x; exact ⟨o, e, fun v q => by rw [d] at q; cases q⟩
theorem Kd.it_at {h h' : Heap} {it a : Addr} {i : Nat} (k : Kd) (x : k.it h it a i) (hk : ∀ o, h.get? it = some o → h'.get? it = some o) : k.it h' it a i := by
  cases k with
  | l => exact x.at hk
  | t => exact x.at hk
theorem Kd.is_at {h h' : Heap} {a : Addr} {xs : Array Value} (k : Kd) (x : k.is h a xs) (hk : ∀ o, h.get? a = some o → h'.get? a = some o) : k.is h' a xs := by
  cases k with
  | l => exact x.at hk
  | t => exact x.at hk
theorem Kd.it_new {h : Heap} {it a : Addr} (k : Kd) (x : h.get? it = some (k.o a)) : k.it h it a 0 := by
  cases k with
  | l => exact ⟨_, x, rfl, rfl⟩
  | t => exact ⟨_, x, rfl, rfl⟩

/-- enumerate -/
def ItE (K : PySem.W.Frag) (k : Kd) (a : Addr) : L2.It :=
  ⟨fun i H => ∃ (xs : List V) (x : V), k.sq K H a xs ∧ xs[i]? = some x, fun i H v H' => ∃ T x, v = .ref T ∧ H T = none ∧ H' = upd H T (.tup [.int (i : Nat), x]) ∧ ∀ xs, k.sq K H a xs → xs[i]? = some x, fun i H => ∃ xs : List V, k.sq K H a xs ∧ xs.length = i⟩
theorem turn_E {P : Program} {w : World} {K : PySem.W.Frag} {elts : List Expr} {kk : Nat} {tpos : Pos} (k : Kd) (a e it : Addr) :
    Turn P w K (.Tuple elts kk tpos) (ItE K k a) [e, it] e (fun i h => (∃ old, IsEnum h e it (0 + ((i : Nat) : Int)) old) ∧ k.it h it a i ∧ e ≠ it ∧ a ≠ it ∧ e ≠ a) where
  mem := by simp
  obj := fun i h st b hb => by
    obtain ⟨⟨old, he⟩, hit, _⟩ := st
    have e' : b = e ∨ b = it := by simpa using hb
    rcases e' with z | z
    · rw [z]; exact ⟨_, he, fun v q => nomatch q⟩
    · rw [z]; exact k.it_obj hit
  keep := fun i h h' st kp => let ⟨⟨old, he⟩, hi, hne⟩ := st; ⟨⟨old, kp e (by simp) _ he⟩, k.it_at hi fun o q => kp it (by simp) o q, hne⟩
  item := by
    intro X hP hw hK hc i pins s σ H E I hf st hg
    subst hP hw hK
    obtain ⟨⟨old, he⟩, hit, hne, hai, hea⟩ := st
    obtain ⟨xs, x, hq, hx⟩ := hg
    obtain ⟨its, rv, p, hl⟩ := k.look I hq
    obtain ⟨u, hu, ru⟩ := rv.get hx
    have hi : i < its.toArray.size := by
      have := (List.getElem?_eq_some_iff.mp hu).1
      simpa using this
    have W := GoesN.enumFrom (elts := elts) (x1 := kk) (pos := tpos) 0 (k.draws (prog := X.prog) (w := X.w) (A := X.A.in1) (I.ok.hd hc) it a hai its.toArray) e hne (by simp [hne, hea]) (by simp)
    have hel : e < s.heap.objs.size := Heap.lt_size he
    have hil : it < s.heap.objs.size := by obtain ⟨_, q, _⟩ := k.it_obj hit; exact Heap.lt_size q
    refine wpAny_mono (W.goes i s (fun v s₂ => ∃ y H', Inv X pins σ H' s₂ ∧ RelV y v ∧ (ItE X.K k a).yld i H y H' ∧ ((∃ old, IsEnum s₂.heap e it (0 + ((i + 1 : Nat) : Int)) old) ∧ k.it s₂.heap it a (i + 1) ∧ e ≠ it ∧ a ≠ it ∧ e ≠ a) ∧ ∀ b ∈ [e, it], H' b = none) E hi ⟨⟨old, he⟩, hit, p⟩ fun v h' tk hY st' hk htk => ?_) (fun r s1 h1 => h1) fun _ _ z => z
    obtain ⟨T, t, y, rfl, hn, hy, hT⟩ := hY
    have hyu : y = u := by
      have : its[i]? = some y := by simpa using hy
      rw [hu] at this
      exact (Option.some.inj this).symm
    subst hyu
    have new : ObjOk X.prog X.w (upd H T (.tup [.int (i : Nat), x])) h' T (.tup [.int (i : Nat), x]) :=
      ⟨by show 2 ≤ sizeLine; decide, [.int (0 + (i : Int)) t, y], .cons ⟨t, by rw [Int.zero_add]⟩ (.cons ru .nil), hT⟩
    have I1 : Inv X pins σ (upd H T (.tup [.int (i : Nat), x])) { s with heap := h', toks := tk } :=
      I.turnedNew (ch := [e, it]) (fun b ob hb q => hk b ob hb q) hf hn new
    refine ⟨.ref T, _, I1, rfl, ⟨_, x, rfl, I.hok.fresh hn, rfl, fun ys hy => by rw [k.inj I hy hq]; exact hx⟩, ⟨st'.1, st'.2.1, hne, hai, hea⟩, fun b hb => ?_⟩
    have hb' : b < s.heap.objs.size := by
      have e' : b = e ∨ b = it := by simpa using hb
      rcases e' with z | z
      · rw [z]; exact hel
      · rw [z]; exact hil
    rw [upd_ne (Nat.ne_of_lt (Nat.lt_of_lt_of_le hb' hn))]
    exact (hf b hb).1
  done := by
    intro X hP hw hK hc i pins s σ H E I hf st hg
    subst hP hw hK
    obtain ⟨⟨old, he⟩, hit, hne, hai, hea⟩ := st
    obtain ⟨xs, hq, hx⟩ := hg
    obtain ⟨its, rv, p, hl⟩ := k.look I hq
    have hlen := rv.length
    have hi : its.toArray.size = i := by simp; omega
    have W := GoesN.enumFrom (elts := elts) (x1 := kk) (pos := tpos) 0 (k.draws (prog := X.prog) (w := X.w) (A := X.A.in1) (I.ok.hd hc) it a hai its.toArray) e hne (by simp [hne, hea]) (by simp)
    refine W.stops s (fun s1 => Inv X pins σ H s1) E ?_ fun h' tk hk htk => I.turnedL (ch := [e, it]) (fun b o hb q => hk b o hb q) hf
    rw [hi]
    exact ⟨⟨old, he⟩, hit, p⟩
  self := fun A i s Q E st h => let ⟨⟨_, he⟩, _⟩ := st; wpAny_pyIter_enum he h
/-- zip -/
def ItZ (K : PySem.W.Frag) (k : Kd) (a : Addr) (k' : Kd) (b : Addr) : L2.It :=
  ⟨fun i H => ∃ (xs ys : List V) (x y : V), k.sq K H a xs ∧ k'.sq K H b ys ∧ xs[i]? = some x ∧ ys[i]? = some y,
    fun i H v H' => ∃ T x y, v = .ref T ∧ H T = none ∧ H' = upd H T (.tup [x, y]) ∧ (∀ xs, k.sq K H a xs → xs[i]? = some x) ∧ ∀ ys, k'.sq K H b ys → ys[i]? = some y,
    fun i H => ∃ xs ys : List V, k.sq K H a xs ∧ k'.sq K H b ys ∧ min xs.length ys.length = i⟩
theorem turn_Z {P : Program} {w : World} {K : PySem.W.Frag} {elts : List Expr} {kk : Nat} {tpos : Pos} (k k' : Kd) {a b z TI TO i1 i2 : Addr} (S : ZipSep2 z TI TO i1 i2 [i1, a] [i2, b]) :
    Turn P w K (.Tuple elts kk tpos) (ItZ K k a k' b) [z, TI, TO, i1, i2] z (fun i h => IsZip h z TI TO .none ∧ IsTupOf2 h TI (.ref i1) (.ref i2) ∧ (∃ a1 a2, IsTupOf2 h TO a1 a2) ∧ k.it h i1 a i ∧ k'.it h i2 b i ∧ a ≠ i1 ∧ b ≠ i2) where
  mem := by simp
  obj := fun i h st c hc => by
    obtain ⟨hz, hTI, ⟨x, y, hTO⟩, h1, h2, _⟩ := st
    have e' : c = z ∨ c = TI ∨ c = TO ∨ c = i1 ∨ c = i2 := by simpa using hc
    rcases e' with q | q | q | q | q
    · rw [q]; exact ⟨_, hz, fun v q => nomatch q⟩
    · rw [q]; exact ⟨_, hTI, fun v q => nomatch q⟩
    · rw [q]; exact ⟨_, hTO, fun v q => nomatch q⟩
    · rw [q]; exact k.it_obj h1
    · rw [q]; exact k'.it_obj h2
  keep := fun i h h' st kp => by
    obtain ⟨hz, hTI, ⟨x, y, hTO⟩, h1, h2, h3⟩ := st
    exact ⟨kp z (by simp) _ hz, kp TI (by simp) _ hTI, ⟨x, y, kp TO (by simp) _ hTO⟩, k.it_at h1 fun o q => kp i1 (by simp) o q, k'.it_at h2 fun o q => kp i2 (by simp) o q, h3⟩
  item := by
    intro X hP hw hK hc i pins s σ H E I hf st hg
    subst hP hw hK
    obtain ⟨hz, hTI, ⟨x0, y0, hTO⟩, h1, h2, hai, hbi⟩ := st
    obtain ⟨xs, ys, x, y, hqx, hqy, hx, hy⟩ := hg
    obtain ⟨its, rv, p, hl⟩ := k.look I hqx
    obtain ⟨its2, rv2, p2, hl2⟩ := k'.look I hqy
    obtain ⟨u, hu, ru⟩ := rv.get hx
    obtain ⟨u2, hu2, ru2⟩ := rv2.get hy
    have hi : i < min its.toArray.size its2.toArray.size := by
      have e1 := (List.getElem?_eq_some_iff.mp hu).1
      have e2 := (List.getElem?_eq_some_iff.mp hu2).1
      simp
      omega
    have W := GoesN.zip2 (elts := elts) (x1 := kk) (pos := tpos) S (k.draws (prog := X.prog) (w := X.w) (A := X.A.in1) (I.ok.hd hc) i1 a hai its.toArray) (k'.draws (prog := X.prog) (w := X.w) (A := X.A.in1) (I.ok.hd hc) i2 b hbi its2.toArray)
    have hlt : ∀ c ∈ [z, TI, TO, i1, i2], c < s.heap.objs.size := fun c hcm => by
      have e' : c = z ∨ c = TI ∨ c = TO ∨ c = i1 ∨ c = i2 := by simpa using hcm
      rcases e' with q | q | q | q | q
      · rw [q]; exact Heap.lt_size hz
      · rw [q]; exact Heap.lt_size hTI
      · rw [q]; exact Heap.lt_size hTO
      · rw [q]; obtain ⟨_, e1, _⟩ := k.it_obj h1; exact Heap.lt_size e1
      · rw [q]; obtain ⟨_, e2, _⟩ := k'.it_obj h2; exact Heap.lt_size e2
    refine wpAny_mono (W.goes i s (fun v s₂ => ∃ y H', Inv X pins σ H' s₂ ∧ RelV y v ∧ (ItZ X.K k a k' b).yld i H y H' ∧ (IsZip s₂.heap z TI TO .none ∧ IsTupOf2 s₂.heap TI (.ref i1) (.ref i2) ∧ (∃ a1 a2, IsTupOf2 s₂.heap TO a1 a2) ∧ k.it s₂.heap i1 a (i + 1) ∧ k'.it s₂.heap i2 b (i + 1) ∧ a ≠ i1 ∧ b ≠ i2) ∧ ∀ b ∈ [z, TI, TO, i1, i2], H' b = none) E hi ⟨hz, hTI, ⟨x0, y0, hTO⟩, ⟨h1, p⟩, h2, p2⟩ fun v h' tk hY st' hk htk => ?_) (fun r s1 h1 => h1) fun _ _ z => z
    obtain ⟨T, y1, y2, rfl, hn, hy1, hy2, hT⟩ := hY
    have e1 : y1 = u := by
      have : its[i]? = some y1 := by simpa using hy1
      rw [hu] at this
      exact (Option.some.inj this).symm
    have e2 : y2 = u2 := by
      have : its2[i]? = some y2 := by simpa using hy2
      rw [hu2] at this
      exact (Option.some.inj this).symm
    subst e1 e2
    have new : ObjOk X.prog X.w (upd H T (.tup [x, y])) h' T (.tup [x, y]) := ⟨by show 2 ≤ sizeLine; decide, [y1, y2], .cons ru (.cons ru2 .nil), hT⟩
    have I1 : Inv X pins σ (upd H T (.tup [x, y])) { s with heap := h', toks := tk } :=
      I.turnedNew (ch := [z, TI, TO, i1, i2]) (fun c o hb q => hk c o (fun hm => hb (by
        have e' : c = z ∨ c = TO ∨ c = i1 ∨ c = i2 := by simpa using hm
        rcases e' with q | q | q | q <;> simp [q])) q) hf hn new
    refine ⟨.ref T, _, I1, rfl, ⟨_, x, y, rfl, I.hok.fresh hn, rfl, fun l hl => by rw [k.inj I hl hqx]; exact hx, fun l hl => by rw [k'.inj I hl hqy]; exact hy⟩, ⟨st'.1, st'.2.1, st'.2.2.1, st'.2.2.2.1.1, st'.2.2.2.2.1, hai, hbi⟩, fun c hcm => ?_⟩
    rw [upd_ne (Nat.ne_of_lt (Nat.lt_of_lt_of_le (hlt c hcm) hn))]
    exact (hf c hcm).1
  done := by
    intro X hP hw hK hc i pins s σ H E I hf st hg
    subst hP hw hK
    obtain ⟨hz, hTI, ⟨x0, y0, hTO⟩, h1, h2, hai, hbi⟩ := st
    obtain ⟨xs, ys, hqx, hqy, hend⟩ := hg
    obtain ⟨its, rv, p, hl⟩ := k.look I hqx
    obtain ⟨its2, rv2, p2, hl2⟩ := k'.look I hqy
    have l1 := rv.length
    have l2 := rv2.length
    have hi : min its.toArray.size its2.toArray.size = i := by simp; omega
    have W := GoesN.zip2 (elts := elts) (x1 := kk) (pos := tpos) S (k.draws (prog := X.prog) (w := X.w) (A := X.A.in1) (I.ok.hd hc) i1 a hai its.toArray) (k'.draws (prog := X.prog) (w := X.w) (A := X.A.in1) (I.ok.hd hc) i2 b hbi its2.toArray)
    refine W.stops s (fun s1 => Inv X pins σ H s1) E ?_ fun h' tk hk htk => I.turnedL (ch := [z, TI, TO, i1, i2]) (fun c o hb q => hk c o (fun hm => hb (by
        have e' : c = z ∨ c = TO ∨ c = i1 ∨ c = i2 := by simpa using hm
        rcases e' with q | q | q | q <;> simp [q])) q) hf
    rw [hi]
    exact ⟨hz, hTI, ⟨x0, y0, hTO⟩, ⟨h1, p⟩, h2, p2⟩
  self := fun A i s Q E st h => wpAny_pyIter_zip st.1 h
end IP

/-! IpI -/
set_option Elab.async false
set_option linter.all false
set_option maxRecDepth 100000
set_option maxHeartbeats 4000000
/-! IpI: what a loop or a comprehension walks. -/
namespace PySem
open Sem (wp)
theorem meets_enumerate_new1 {v : Value} {o : Obj} {H : Heap → Prop} (B : Begins v o H) :
    Meets (Builtin.«enumerate.__new__» ⟨[.type "enumerate", v], []⟩) (fun _ R s => H s.heap ∧
      R (.ok (.ret (.ref (s.heap.push o).objs.size))) { s with heap := (s.heap.push o).push { cls := .type "enumerate", data := .fields #[.none, .bool false, .ref s.heap.objs.size, rawInt 0, .none, .none] } }) :=
  .of_wp fun prog w A R s h => by
    obtain ⟨hp, g, d, tk, os⟩ := s; obtain ⟨h1, h⟩ := h
    have hsub := sub_enumerate
    have q1 : ∀ {A' : Around} {E : Value → Shared → Prop} {Q : Value → Shared → Prop}, Q (.ref hp.objs.size) ⟨hp.push o, g, d, tk, os⟩ → wpAny (model prog w) A' (pyIter v) Q E ⟨hp, g, d, tk, os⟩ :=
      fun q => B.iter prog w _ _ ⟨hp, g, d, tk, os⟩ _ h1 q
    wp_walk using q1
    refine wpAny_stack_any fun st => wpAny_pure ?_
    split
    · rename_i c _ _ _ _ _
      cases (c == Value.type "enumerate")
      · wp_walk using q1
        exact ⟨_, rfl, h⟩
      · wp_walk using q1
        exact ⟨_, rfl, h⟩
    · wp_walk using q1
      exact ⟨_, rfl, h⟩
theorem call_enumerateK {prog : Program} {w : World} {A : Around} {E : Value → Shared → Prop} {s : Shared} {v : Value} {o : Obj} {H : Heap → Prop} {Q : Value → Shared → Prop} (B : Begins v o H) (h1 : H s.heap)
    (h : ∀ h', IsEnum h' (s.heap.objs.size + 1) s.heap.objs.size 0 .none → h'.get? s.heap.objs.size = some o → h'.objs.size = s.heap.objs.size + 2 →
      (∀ b o, s.heap.get? b = some o → h'.get? b = some o) → Q (.ref (s.heap.objs.size + 1)) { s with heap := h' }) :
    wpAny (model prog w) A (call (.type "enumerate") [v]) Q E s := by
  refine callType_new F.called_enumerate (by decide) (F.typeCall_enumerate_1 _) (F.newCall_enumerate_1 _) (fun obj => F.args_object_init_2 obj _) F.entry_enumerate_new
    (meets_enumerate_new1 B) ⟨h1, ?_⟩
  have hz : (s.heap.push o).objs.size = s.heap.objs.size + 1 := Heap.size_push ..
  show _ ∧ _
  rw [hz]
  have he : IsEnum ((s.heap.push o).push { cls := .type "enumerate", data := .fields #[.none, .bool false, .ref s.heap.objs.size, rawInt 0, .none, .none] }) (s.heap.objs.size + 1) s.heap.objs.size 0 .none := by
    have := Heap.get?_push_size (s.heap.push o) (o := { cls := .type "enumerate", data := .fields #[.none, .bool false, .ref s.heap.objs.size, rawInt 0, .none, .none] }) rfl
    rw [hz] at this; exact this
  refine ⟨⟨_, he, rfl⟩, h _ he (Heap.get?_push_of_some _ (Heap.get?_push_size _ B.free)) (by rw [Heap.size_push, hz]) fun b o x => Heap.get?_push_of_some _ (Heap.get?_push_of_some _ x)⟩
end PySem
namespace IP
open PySem L2 PyProof.Rows

/-- what F knows stands behind some steps -/
structure Onw (F H : Hp) (rho : List Addr) (F' H' : Hp) (rho' : List Addr) : Prop where
  fr : Grow F F'
  beg : Beg rho rho'
  kp : ∀ (a : Addr) (u o : HO), F a = some u → H a = some o → a ∉ rho → H' a = some o
  new : ∀ a : Addr, a ∈ rho' → a ∉ rho → F a = none
theorem Ext.onw {G : GC} {F H F' H' : Hp} {rho rho' : List Addr} {m : Mem} (x : Ext F H rho F' H' rho') (r : RelM G F H rho m) : Onw F H rho F' H' rho' :=
  ⟨x.fr, x.beg, fun a _ o _ h n => x.keep a o h n, fun a h n => r.notin (x.new a h n)⟩
theorem Onw.trans {F H F1 H1 F2 H2 : Hp} {r r1 r2 : List Addr} (a : Onw F H r F1 H1 r1) (b : Onw F1 H1 r1 F2 H2 r2) : Onw F H r F2 H2 r2 where
  fr := a.fr.trans b.fr
  beg := a.beg.trans b.beg
  kp := fun c u o e h n => by
    refine b.kp c u o (a.fr c u e) (a.kp c u o e h n) fun z => ?_
    have := a.new c z n
    rw [e] at this
    cases this
  new := fun c h n => by
    by_cases hc : c ∈ r1
    · exact a.new c hc n
    · have e := b.new c h hc
      cases q : F c with
      | none => rfl
      | some o =>
        rw [a.fr c o q] at e
        cases e
theorem Onw.other {F H F1 H1 : Hp} {r r1 : List Addr} (a : Onw F H r F1 H1 r1) {p : Addr} {o : HO} (h : F p = none) : Onw F H r F1 (upd H1 p o) r1 :=
  ⟨a.fr, a.beg, fun c u o e q n => by rw [upd_ne (ne_of_none e h)]; exact a.kp c u o e q n, a.new⟩
section
variable {G : GC} {F H F' H' : Hp} {rho rho' : List Addr}
theorem Onw.rd (x : Onw F H rho F' H' rho') {d : D} {v : V} (h : RD G rho F d v) : RD G rho' F' d v := RD.mono x.fr.sub x.beg d v h
theorem Onw.rde (x : Onw F H rho F' H' rho') {e : Ev} {σ : L2.St} (h : RelE G F rho e σ) : RelE G F' rho' e σ := ⟨h.1, fun i d q => by
  obtain ⟨v, e1, e2⟩ := h.2.1 i d q
  exact ⟨v, e1, x.rd e2⟩, fun s hs => by
  obtain ⟨q1, q2⟩ := h.2.2 s hs
  refine ⟨q1, ?_⟩
  rcases q2 with q2 | ⟨d, fvs, e1, e2, e3⟩
  · exact .inl q2
  · exact .inr ⟨d, fvs, e1, x.fr _ _ e2, RDf.mono x.fr.sub x.beg _ _ e3⟩⟩
end
/-- J gives w as long as what F knows and the cells of w stand -/
structure Wk (G : GC) (J : L2.It) (F H : Hp) (rho : List Addr) (w : Wl) : Prop where
  go : ∀ {i : Nat} {F' H' : Hp} {rho' : List Addr} {m' : Mem}, Onw F H rho F' H' rho' → RelM G F' H' rho' m' → w.ok m' → i < w.xs.length → J.go i H'
  stop : ∀ {F' H' : Hp} {rho' : List Addr} {m' : Mem}, Onw F H rho F' H' rho' → RelM G F' H' rho' m' → w.ok m' → J.stop w.xs.length H'
  yld : ∀ {i : Nat} {F' H' H2 : Hp} {rho' : List Addr} {m' : Mem} {x : V}, Onw F H rho F' H' rho' → RelM G F' H' rho' m' → w.ok m' → i < w.xs.length → J.yld i H' x H2 → ∃ F2 d, Ext F' H' rho' F2 H2 rho' ∧ RelM G F2 H2 rho' m' ∧ w.xs[i]? = some d ∧ RD G rho' F2 d x
def PostW (G : GC) (W : WX) (σ : L2.St) (F H : Hp) (rho : List Addr) (r : Res Wl) (R : L2.It → Hp → Prop) : Prop := match r with
  | .ok ds m' => ∀ (J : L2.It) (H' F' : Hp) (rho' : List Addr), Ext F H rho F' H' rho' → RelM G F' H' rho' m' → Wk G J F' H' rho' ds → R J H'
  | .ex x m' => ∀ (c : Value) (dd : Option Addr) (H' F' : Hp) (rho' : List Addr), Ext F H rho F' H' rho' → RelM G F' H' rho' m' → RX G F' H' rho' x c dd → W c dd σ H'
  | .no => False
def tW (G : GC) (W : WX) (f : Ev → Mem → Res Wl) : L2.TI := fun σ H R =>
  ∃ (F : Hp) (rho : List Addr) (m : Mem) (e : Ev), RelM G F H rho m ∧ RelE G F rho e σ ∧ PostW G W σ F H rho (f e m) R
section
variable {G : GC} {W : WX} {σ : L2.St} {F H : Hp} {rho : List Addr} {R : L2.It → Hp → Prop}
theorem PostW.ext {F1 H1 : Hp} {rho1 : List Addr} {r : Res Wl} (h : PostW G W σ F H rho r R) (x : Ext F H rho F1 H1 rho1) : PostW G W σ F1 H1 rho1 r R := by
  cases r with
  | ok d m => exact fun v H' F' rho' x' rm rr => h v H' F' rho' (x.trans x') rm rr
  | ex e m => exact fun c dd H' F' rho' x' rm rr => h c dd H' F' rho' (x.trans x') rm rr
  | no => exact h
theorem PostW.bind {γ δ : Type} {R1 : Hp → List Addr → γ → δ → Prop} {r : Res γ} {k : γ → Mem → Res Wl} (h : PostW G W σ F H rho (r.bind k) R) :
    Post G W σ R1 F H rho r fun v H1 => At G R1 F H rho v H1 fun F1 rho1 d m1 => PostW G W σ F1 H1 rho1 (k d m1) R := by
  cases r with
  | ok d m => exact fun v H' F' rho' x' rm rr => ⟨F', rho', d, m, x', rm, rr, PostW.ext h x'⟩
  | ex e m => exact h
  | no => exact h
theorem PostW.opt {o : Option Wl} {m : Mem} (h : PostW G W σ F H rho (opt o m) R) : ∃ d, o = some d ∧ PostW G W σ F H rho (.ok d m) R := by
  cases o with
  | none => exact h.elim
  | some d => exact ⟨d, rfl, h⟩
theorem PostW.here {d : Wl} {m : Mem} {J : L2.It} (h : PostW G W σ F H rho (.ok d m) R) (r : RelM G F H rho m) (w : Wk G J F H rho d) : R J H := h J H F rho (Ext.refl F H rho) r w
theorem PostW.ite {c : Prop} [Decidable c] {r : Res Wl} (h : PostW G W σ F H rho (if c then r else .no) R) : c ∧ PostW G W σ F H rho r R := by
  by_cases hc : c
  · rw [if_pos hc] at h
    exact ⟨hc, h⟩
  · rw [if_neg hc] at h
    exact h.elim
end

/-- a list or tuple that stands as long as the cells of w do -/
def Std (G : GC) (F H : Hp) (rho : List Addr) (w : Wl) (a : Addr) (k : Kd) (ds : List D) : Prop :=
  ∀ (F' H' : Hp) (rho' : List Addr) (m' : Mem), Onw F H rho F' H' rho' → RelM G F' H' rho' m' → w.ok m' → ∃ vs, k.sq G.K H' a vs ∧ RDs G rho' F' ds vs
theorem std_fix {G : GC} {F H : Hp} {rho : List Addr} {w : Wl} {a : Addr} {k : Kd} {ds : List D} {vs : List V} (h : ∀ {F' H' : Hp}, Grow F F' → Sub F' H' → k.sq G.K H' a vs) (rd : RDs G rho F ds vs) : Std G F H rho w a k ds :=
  fun F' H' rho' m' x r _ => ⟨vs, h x.fr r.sub, RDs.mono x.fr.sub x.beg _ _ rd⟩
theorem std_cel {G : GC} {F H : Hp} {rho : List Addr} {w : Wl} {a : Addr} {n : Nat} {ds : List D} (hr : rho[n]? = some a) (hw : (n, MO.lst ds) ∈ w.ws) : Std G F H rho w a .l ds :=
  fun F' H' rho' m' x r hok => by
    obtain ⟨vs, e1, e2⟩ := r.cel n a _ (x.beg _ _ hr) (hok _ hw)
    exact ⟨vs, .inl (.inl e1), e2⟩
theorem Std.mono {G : GC} {F H : Hp} {rho : List Addr} {w w' : Wl} {a : Addr} {k : Kd} {ds : List D} (h : Std G F H rho w a k ds) (i : ∀ m, w'.ok m → w.ok m) : Std G F H rho w' a k ds :=
  fun F' H' rho' m' x r hok => h F' H' rho' m' x r (i _ hok)
theorem ok_of {xs : List D} {m : Mem} : Wl.ok (Wl.of xs) m := fun _ h => by cases h
theorem ok_one {xs : List D} {m : Mem} {n : Nat} {c : MO} (h : m[n]? = some c) : Wl.ok ⟨xs, [(n, c)]⟩ m := fun p hp => by
  have : p = (n, c) := by simpa using hp
  subst this
  exact h
theorem seqP_ok {G : GC} {F H : Hp} {rho : List Addr} {m : Mem} {d : D} {v : V} {w : Wl} (r : RelM G F H rho m) (h : RD G rho F d v) (e : seqP m d = some w) : ∃ a k, v = .ref a ∧ Std G F H rho w a k w.xs ∧ w.ok m := by
  unfold seqP at e
  split at e
  · cases e
    cases h with
    | lst h1 h2 => exact ⟨_, .l, rfl, std_fix (fun g s => .inl (.inl (s.get (g _ _ h1) rfl))) h2, ok_of⟩
  · cases e
    cases h with
    | tup h1 h2 => exact ⟨_, .t, rfl, std_fix (fun g s => .inl (.inl (s.get (g _ _ h1) rfl))) h2, ok_of⟩
    | tupK h1 => exact ⟨_, .t, rfl, std_fix (fun g s => h1 _) .nil, ok_of⟩
  · split at e
    · rename_i hm
      cases e
      cases h with
      | ref hr => exact ⟨_, .l, rfl, std_cel hr (by simp), ok_one hm⟩
    · cases e
  · cases e
section
variable {G : GC} {F H : Hp} {rho : List Addr} {m : Mem} {ds : List D} {vs : List V} {w : Wl} {a : Addr}
theorem getD_lt {α : Type} {xs : List α} {i : Nat} (h : i < xs.length) : xs[i]? = some xs[i] := List.getElem?_eq_getElem h
theorem wk_l (h : Std G F H rho w a .l w.xs) : Wk G (Itl G.K a) F H rho w where
  go := fun {i} {F' H'} {rho' m'} x r' hok hi => by
    obtain ⟨vs, hq, rd⟩ := h _ _ _ _ x r' hok
    have hi' : i < vs.length := by rw [← rd.length]; exact hi
    exact ⟨vs, vs[i], hq, getD_lt hi'⟩
  stop := fun {F' H'} {rho' m'} x r' hok => by
    obtain ⟨vs, hq, rd⟩ := h _ _ _ _ x r' hok
    exact ⟨vs, hq, by rw [rd.length]; exact Nat.le_refl _⟩
  yld := fun {i} {F' H' H2} {rho' m' v} x r' hok hi y => by
    obtain ⟨e, y⟩ := y
    subst e
    obtain ⟨vs, hq, rd⟩ := h _ _ _ _ x r' hok
    obtain ⟨d, e1, e2⟩ := rd.get' (y vs hq)
    exact ⟨F', d, Ext.refl _ _ _, r', e1, e2⟩
theorem wk_t (h : Std G F H rho w a .t w.xs) : Wk G (Itt G.K a) F H rho w where
  go := fun {i} {F' H'} {rho' m'} x r' hok hi => by
    obtain ⟨vs, hq, rd⟩ := h _ _ _ _ x r' hok
    have hi' : i < vs.length := by rw [← rd.length]; exact hi
    exact ⟨vs, vs[i], hq, getD_lt hi'⟩
  stop := fun {F' H'} {rho' m'} x r' hok => by
    obtain ⟨vs, hq, rd⟩ := h _ _ _ _ x r' hok
    exact ⟨vs, hq, by rw [rd.length]; exact Nat.le_refl _⟩
  yld := fun {i} {F' H' H2} {rho' m' v} x r' hok hi y => by
    obtain ⟨e, y⟩ := y
    subst e
    obtain ⟨vs, hq, rd⟩ := h _ _ _ _ x r' hok
    obtain ⟨d, e1, e2⟩ := rd.get' (y vs hq)
    exact ⟨F', d, Ext.refl _ _ _, r', e1, e2⟩
theorem wk_list (h : ∀ {F' H' : Hp}, Grow F F' → Sub F' H' → SqL G.K H' a vs) (r : RelM G F H rho m) (rd : RDs G rho F ds vs) : Wk G (Itl G.K a) F H rho (.of ds) := wk_l (std_fix (k := .l) h rd)
theorem wk_tup (h : ∀ {F' H' : Hp}, Grow F F' → Sub F' H' → SqT G.K H' a vs) (r : RelM G F H rho m) (rd : RDs G rho F ds vs) : Wk G (Itt G.K a) F H rho (.of ds) := wk_t (std_fix (k := .t) h rd)
theorem wk_str {z : Str} : Wk G (Its z) F H rho (.of (z.cps.toList.map fun c => .str ⟨#[c]⟩)) where
  go := fun {i} {F' H'} {rho' m'} x r' hok hi => by
    show i < z.cps.size
    simpa [Wl.of] using hi
  stop := fun {F' H'} {rho' m'} x r' hok => by
    show z.cps.size ≤ _
    simp [Wl.of]
  yld := fun {i} {F' H' H2} {rho' m' v} x r' hok hi y => by
    obtain ⟨e, c, hc, ev_⟩ := y
    subst e ev_
    exact ⟨F', .str ⟨#[c]⟩, Ext.refl _ _ _, r', by simp [Wl.of, hc], .str _⟩
theorem wk_range {lo : Int} {n : Nat} : Wk G (Itr lo n) F H rho (.of (rng lo n)) where
  go := fun {i} {F' H'} {rho' m'} x r' hok hi => by
    show i < n
    simpa [Wl.of, rng] using hi
  stop := fun {F' H'} {rho' m'} x r' hok => by
    show n ≤ _
    simp [Wl.of, rng]
  yld := fun {i} {F' H' H2} {rho' m' v} x r' hok hi y => by
    obtain ⟨e, ev_⟩ := y
    subst e ev_
    have hi' : i < n := by simpa [Wl.of, rng] using hi
    exact ⟨F', .int (lo + i), Ext.refl _ _ _, r', by simp [Wl.of, rng, hi'], .int _⟩
theorem wk_rangeD {hi_ : Int} {n : Nat} : Wk G (Itc hi_ (-1) n) F H rho (.of (rngDown hi_ n)) where
  go := fun {i} {F' H'} {rho' m'} x r' hok hi => by
    show i < n
    simpa [Wl.of, rngDown] using hi
  stop := fun {F' H'} {rho' m'} x r' hok => by
    show n ≤ _
    simp [Wl.of, rngDown]
  yld := fun {i} {F' H' H2} {rho' m' v} x r' hok hi y => by
    obtain ⟨e, ev_⟩ := y
    subst e ev_
    have hi' : i < n := by simpa [Wl.of, rngDown] using hi
    have e2 : hi_ + (i : Nat) * (-1 : Int) = hi_ - i := by omega
    exact ⟨F', .int (hi_ - i), Ext.refl _ _ _, r', by simp [Wl.of, rngDown, hi'], e2 ▸ .int _⟩
theorem wk_enum {k : Kd} (h : Std G F H rho w a k w.xs) : Wk G (ItE G.K k a) F H rho ⟨w.xs.zipIdx.map fun p => .tup [.int (p.2 : Int), p.1], w.ws⟩ where
  go := fun {i} {F' H'} {rho' m'} x r' hok hi => by
    obtain ⟨vs, hq, rd⟩ := h _ _ _ _ x r' hok
    have hi' : i < vs.length := by rw [← rd.length]; simpa using hi
    exact ⟨vs, vs[i], hq, getD_lt hi'⟩
  stop := fun {F' H'} {rho' m'} x r' hok => by
    obtain ⟨vs, hq, rd⟩ := h _ _ _ _ x r' hok
    exact ⟨vs, hq, by simp [rd.length]⟩
  yld := fun {i} {F' H' H2} {rho' m' v} x r' hok hi y => by
    obtain ⟨T, u, rfl, hT, rfl, y⟩ := y
    obtain ⟨vs, hq, rd⟩ := h _ _ _ _ x r' hok
    obtain ⟨d, e1, e2⟩ := rd.get' (y vs hq)
    obtain ⟨r2, x2⟩ := r'.frozen (o := .tup [.int (i : Nat), u]) hT
    refine ⟨_, .tup [.int (i : Nat), d], x2, r2, by simp [e1], .tup upd_same (.cons (.int _) (.cons (x2.rd r' e2) .nil))⟩
theorem wk_zip {k k' : Kd} {b : Addr} {z : Wl} (h : Std G F H rho w a k w.xs) (h' : Std G F H rho z b k' z.xs) : Wk G (ItZ G.K k a k' b) F H rho ⟨List.zipWith (fun p q => .tup [p, q]) w.xs z.xs, w.ws ++ z.ws⟩ where
  go := fun {i} {F' H'} {rho' m'} x r' hok hi => by
    obtain ⟨vs, hq, rd⟩ := h _ _ _ _ x r' fun p hp => hok p (List.mem_append_left _ hp)
    obtain ⟨vs', hq', rd'⟩ := h' _ _ _ _ x r' fun p hp => hok p (List.mem_append_right _ hp)
    have hi2 : i < vs.length ∧ i < vs'.length := by rw [← rd.length, ← rd'.length]; simpa [Nat.lt_min] using hi
    exact ⟨vs, vs', vs[i], vs'[i], hq, hq', getD_lt hi2.1, getD_lt hi2.2⟩
  stop := fun {F' H'} {rho' m'} x r' hok => by
    obtain ⟨vs, hq, rd⟩ := h _ _ _ _ x r' fun p hp => hok p (List.mem_append_left _ hp)
    obtain ⟨vs', hq', rd'⟩ := h' _ _ _ _ x r' fun p hp => hok p (List.mem_append_right _ hp)
    exact ⟨vs, vs', hq, hq', by simp [rd.length, rd'.length]⟩
  yld := fun {i} {F' H' H2} {rho' m' v} x r' hok hi y => by
    obtain ⟨T, u, u', rfl, hT, rfl, y, y'⟩ := y
    obtain ⟨vs, hq, rd⟩ := h _ _ _ _ x r' fun p hp => hok p (List.mem_append_left _ hp)
    obtain ⟨vs', hq', rd'⟩ := h' _ _ _ _ x r' fun p hp => hok p (List.mem_append_right _ hp)
    obtain ⟨d, e1, e2⟩ := rd.get' (y vs hq)
    obtain ⟨d', e1', e2'⟩ := rd'.get' (y' vs' hq')
    obtain ⟨r2, x2⟩ := r'.frozen (o := .tup [u, u']) hT
    refine ⟨_, .tup [d, d'], x2, r2, by simp [List.getElem?_zipWith, e1, e1'], .tup upd_same (.cons (x2.rd r' e2) (.cons (x2.rd r' e2') .nil))⟩
end

abbrev SW (X : Cx) (G : GC) (W : WX) (g : Gl) (tg it : Expr) (i : It) : Prop := PI X tg it (tW G W (evIt g i))
section
variable {X : Cx} {G : GC} {W : WX} {g : Gl} {a b c : E} {ea eb ec tg : Expr} {pos : Pos}
/-- a value, walked -/
theorem sw_seq (B : Base X G W g) (ha : SE X G W g ea a) : SW X G W g tg ea (.seq a) := by
  refine ⟨fun pins s σ H R I h => ?_⟩
  obtain ⟨F, rho, m, e, r, re, hp⟩ := h
  rw [evIt] at hp
  cases hv : ev g a e m with
  | no => rw [hv] at hp; exact hp.elim
  | ex x m1 =>
    rw [hv] at hp
    exact (pi_list ha).run pins s σ H R I (tI.mk r re (by rw [hv]; exact hp))
  | ok d m1 =>
    rw [hv] at hp
    obtain ⟨ds, e1, hp2⟩ := PostW.opt hp
    unfold walkP at e1
    split at e1
    · cases e1
      refine (pi_list ha).run pins s σ H R I (tI.mk r re ?_)
      rw [hv]
      intro v H' F' rho' x rm rd
      cases rd with
      | lst h1 h2 => exact B.hK ▸ ⟨_, rfl, ⟨_, SqL.of (rm.sub.get h1 rfl)⟩, hp2 _ _ _ _ x rm (wk_list (fun g s => .inl (.inl (s.get (g _ _ h1) rfl))) rm h2)⟩
    · cases e1
      refine (pi_tup ha).run pins s σ H R I (tI.mk r re ?_)
      rw [hv]
      intro v H' F' rho' x rm rd
      cases rd with
      | tup h1 h2 => exact B.hK ▸ ⟨_, rfl, ⟨_, .inl (.inl (rm.sub.get h1 rfl))⟩, hp2 _ _ _ _ x rm (wk_tup (fun g s => .inl (.inl (s.get (g _ _ h1) rfl))) rm h2)⟩
      | tupK h1 => exact B.hK ▸ ⟨_, rfl, ⟨_, h1 _⟩, hp2 _ _ _ _ x rm (wk_tup (fun g s => h1 _) rm .nil)⟩
    · cases e1
      refine (pi_list ha).run pins s σ H R I (tI.mk r re ?_)
      rw [hv]
      intro v H' F' rho' x rm rd
      cases rd with
      | scr h1 h2 => exact B.hK ▸ ⟨_, rfl, ⟨_, .inl (.inr ⟨_, rm.sub.get h1 rfl⟩)⟩, hp2 _ _ _ _ x rm (wk_list (fun g s => .inl (.inr ⟨_, s.get (g _ _ h1) rfl⟩)) rm h2)⟩
      | scrK h1 h2 => exact B.hK ▸ ⟨_, rfl, ⟨_, h1 _⟩, hp2 _ _ _ _ x rm (wk_list (fun g s => h1 _) rm h2)⟩
    · cases e1
      refine (pi_str ha).run pins s σ H R I (tI.mk r re ?_)
      rw [hv]
      intro v H' F' rho' x rm rd
      cases rd
      exact ⟨_, rfl, hp2 _ _ _ _ x rm wk_str⟩
    · split at e1
      · rename_i zs hm
        cases e1
        refine (pi_list ha).run pins s σ H R I (tI.mk r re ?_)
        rw [hv]
        intro v H' F' rho' x rm rd
        cases rd with
        | ref hr =>
          obtain ⟨vs, hq, rd⟩ := std_cel (w := ⟨zs, [(_, MO.lst zs)]⟩) (ds := zs) hr (by simp) _ _ _ _ ((Ext.refl F' H' rho').onw rm) rm (ok_one hm)
          exact B.hK ▸ ⟨_, rfl, ⟨_, hq⟩, hp2 _ _ _ _ x rm (wk_l (std_cel hr (by simp)))⟩
      · cases e1
    · cases e1
theorem sta1 {e : Expr} {env : Env} (h : notStar e = true) : starEach [e] env = [(false, eval e env)] := starEach_of h
theorem plain1 {p : Pos} {e : Expr} {env : Env} (h : notStar e = true) : (backTo p (starEach [e] env)).any (·.1) = false := by
  rw [sta1 h]
  rfl
theorem plain2 {p : Pos} {e e2 : Expr} {env : Env} (h : notStar e = true) (h2 : notStar e2 = true) : (backTo p (starEach [e, e2] env)).any (·.1) = false := by
  rw [starEach_of h, sta1 h2]
  rfl
theorem one_ofL {F : Hp} {rho : List Addr} {d : D} {vs : List V} (h : RDL G F rho [d] vs) : ∃ v, vs = [v] ∧ RD1 G F rho d v := one_of h
theorem two_ofL {F : Hp} {rho : List Addr} {d d' : D} {vs : List V} (h : RDL G F rho [d, d'] vs) : ∃ v v', vs = [v, v'] ∧ RD1 G F rho d v ∧ RD1 G F rho d' v' := two_of h
theorem sw_rng1 {p : Pos} (hg : L2.Gl X "range") (hm : X.mg "range" = none) (ha : SE X G W g ea a) (hs : notStar ea = true) : SW X G W g tg (.Call (.Name "range" p) [ea] [] pos) (.rng1 a) := by
  refine ⟨fun pins s σ H R I h => ?_⟩
  obtain ⟨F, rho, m, e, r, re, hp⟩ := h
  rw [evIt] at hp
  refine (pi_range1 hg hm (sa_one ha sa_nil hs) (sta1 hs)).run pins s σ H R I (tI.mk r re ?_)
  rw [evs]
  cases hv : ev g a e m with
  | no => rw [hv] at hp; exact hp.elim
  | ex x m1 => rw [hv] at hp; exact hp
  | ok d m1 =>
    rw [hv] at hp
    simp only [Res.bind_ok] at hp ⊢
    rw [evs]
    simp only [Res.bind_ok]
    intro v H' F' rho' x rm rd0
    obtain ⟨w, rfl, rd⟩ := one_of rd0
    cases d with
    | int j =>
      obtain ⟨hc, hp2⟩ := PostW.ite hp
      cases rd
      unfold rngOk at hc
      simp only [Bool.and_eq_true, decide_eq_true_eq] at hc
      exact ⟨j, rfl, hc.1, hc.2, hp2 _ _ _ _ x rm wk_range⟩
    | _ => exact hp.elim
theorem sw_rng2 {p : Pos} (hg : L2.Gl X "range") (hm : X.mg "range" = none) (ha : SE X G W g ea a) (hs : notStar ea = true) (hb : SE X G W g eb b) (hs2 : notStar eb = true) : SW X G W g tg (.Call (.Name "range" p) [ea, eb] [] pos) (.rng2 a b) := by
  refine ⟨fun pins s σ H R I h => ?_⟩
  obtain ⟨F, rho, m, e, r, re, hp⟩ := h
  rw [evIt] at hp
  refine (pi_range2 hg hm (sa_one ha (sa_one hb sa_nil hs2) hs) (by rw [starEach_of hs, sta1 hs2]) (sta1 hs2)).run pins s σ H R I (tI.mk r re ?_)
  rw [evs]
  cases hv : ev g a e m with
  | no => rw [hv] at hp; exact hp.elim
  | ex x m1 => rw [hv] at hp; exact hp
  | ok d m1 =>
    rw [hv] at hp
    simp only [Res.bind_ok] at hp ⊢
    rw [evs]
    cases hv2 : ev g b e m1 with
    | no => rw [hv2] at hp; exact hp.elim
    | ex x m1 => rw [hv2] at hp; exact hp
    | ok d2 m2 =>
      rw [hv2] at hp
      simp only [Res.bind_ok] at hp ⊢
      rw [evs]
      simp only [Res.bind_ok]
      intro v H' F' rho' x rm rd0
      obtain ⟨w, w2, rfl, rd, rd2⟩ := two_of rd0
      cases d with
      | int i =>
        cases d2 with
        | int j =>
          obtain ⟨hc, hp2⟩ := PostW.ite hp
          cases rd
          cases rd2
          unfold rngOk at hc
          simp only [Bool.and_eq_true, decide_eq_true_eq] at hc
          exact ⟨i, j, rfl, ⟨hc.1.1, hc.1.2, hc.2.1, hc.2.2⟩, hp2 _ _ _ _ x rm wk_range⟩
        | _ => exact hp.elim
      | _ => exact hp.elim
theorem sw_rng3 {p : Pos} (hg : L2.Gl X "range") (hm : X.mg "range" = none) (ha : SE X G W g ea a) (hs : notStar ea = true) (hb : SE X G W g eb b) (hs2 : notStar eb = true) (hc : SE X G W g ec c) (hs3 : notStar ec = true) :
    SW X G W g tg (.Call (.Name "range" p) [ea, eb, ec] [] pos) (.rng3 a b c) := by
  refine ⟨fun pins s σ H R I h => ?_⟩
  obtain ⟨F, rho, m, e, r, re, hp⟩ := h
  rw [evIt] at hp
  refine (pi_range3 hg hm (sa_one ha (sa_one hb (sa_one hc sa_nil hs3) hs2) hs) (by rw [starEach_of hs]) (plain2 hs2 hs3)).run pins s σ H R I (tI.mk r re ?_)
  rw [evs]
  cases hv : ev g a e m with
  | no => rw [hv] at hp; exact hp.elim
  | ex x m1 => rw [hv] at hp; exact hp
  | ok d m1 =>
    rw [hv] at hp
    simp only [Res.bind_ok] at hp ⊢
    rw [evs]
    cases hv2 : ev g b e m1 with
    | no => rw [hv2] at hp; exact hp.elim
    | ex x m1 => rw [hv2] at hp; exact hp
    | ok d2 m2 =>
      rw [hv2] at hp
      simp only [Res.bind_ok] at hp ⊢
      rw [evs]
      cases hv3 : ev g c e m2 with
      | no => rw [hv3] at hp; exact hp.elim
      | ex x m1 => rw [hv3] at hp; exact hp
      | ok d3 m3 =>
        rw [hv3] at hp
        simp only [Res.bind_ok] at hp ⊢
        rw [evs]
        simp only [Res.bind_ok]
        intro v H' F' rho' x rm rd0
        cases rd0 with
        | cons rd rd0 =>
          obtain ⟨w2, w3, rfl, rd2, rd3⟩ := two_of rd0
          cases d with
          | int i =>
            cases d2 with
            | int j =>
              cases d3 with
              | int k =>
                obtain ⟨hc, hp2⟩ := PostW.ite hp
                cases rd
                cases rd2
                cases rd3
                unfold rngOk at hc
                simp only [Bool.and_eq_true, decide_eq_true_eq] at hc
                obtain ⟨⟨h1, h2⟩, ⟨h3, h4⟩, h5⟩ := hc
                subst h5
                exact ⟨i, j, -1, _, rfl, RgC.neg h1 h2 h3 h4, hp2 _ _ _ _ x rm wk_rangeD⟩
              | _ => exact hp.elim
            | _ => exact hp.elim
          | _ => exact hp.elim
theorem sw_enum {p tpos : Pos} {elts : List Expr} {kk : Nat} (B : Base X G W g) (hg : L2.Gl X "enumerate") (hm : X.mg "enumerate" = none) (ha : SE X G W g ea a) (hs : notStar ea = true) : SW X G W g (.Tuple elts kk tpos) (.Call (.Name "enumerate" p) [ea] [] pos) (.enum a) := by
  refine ⟨fun pins s σ H R I h => ?_⟩
  obtain ⟨F, rho, m, e, r, re, hp⟩ := h
  rw [evIt] at hp
  have ha' : SA X G W g [ea] (.one a .nil) := sa_one ha sa_nil hs
  refine Call_ (ld_blt I hg hm boot_enumerate (PyProof.Rows.callWith_type1 (thn (ha'.run pos pins s σ H (fun vs H1 => ∃ v, vs = [v] ∧ At G (RD1 G) F H rho v H1 fun F1 rho1 d m1 => PostW G W σ F1 H1 rho1 (opt ((seqP m1 d).map fun w => (⟨w.xs.zipIdx.map fun p => D.tup [.int (p.2 : Int), p.1], w.ws⟩ : Wl)) m1) R) I (tI.mk r re ?_)) fun us s1 ⟨vs, H1, I1, r1, v, ev_, q1⟩ => ?_) (sta1 hs) rfl))
  · rw [evs]
    have h1 := PostW.bind (R1 := RD1 G) hp
    cases hv : ev g a e m with
    | no => rw [hv] at h1; exact h1.elim
    | ex x m1 => rw [hv] at h1; exact h1
    | ok d m1 =>
      rw [hv] at h1
      simp only [Res.bind_ok]
      rw [evs]
      simp only [Res.bind_ok]
      intro v H' F' rho' x rm rd0
      obtain ⟨w, rfl, rd⟩ := one_of rd0
      exact ⟨w, rfl, h1 w H' F' rho' x rm (show RD1 G F' rho' d w from rd)⟩
  · subst ev_
    obtain ⟨F1, rho1, d, m1, x1, rm1, rr, hp1⟩ := q1
    obtain ⟨ds, e1, hp2⟩ := PostW.opt hp1
    obtain ⟨xs, e2, rfl⟩ := map_some e1
    obtain ⟨p, k, rfl, hq, hok⟩ := seqP_ok rm1 rr e2
    obtain ⟨u, rfl, ru⟩ := vals1 r1
    cases ru
    obtain ⟨ws, hq1, hds⟩ := hq _ _ _ _ ((Ext.refl F1 H1 rho1).onw rm1) rm1 hok
    obtain ⟨its, rv, pq, hl⟩ := k.look (X := X) I1 (B.hK ▸ hq1)
    refine call_enumerateK (k.begins p its.toArray) pq fun h' he hit hsz hk => wpAny_pyIter_enum he ?_
    have I2 : Inv X pins σ H1 { s1 with heap := h' } := I1.kept (t' := s1.toks) hk
    refine ⟨s1.heap.objs.size + 1, [s1.heap.objs.size + 1, s1.heap.objs.size], _, _, H1, rfl, I2, turn_E k p (s1.heap.objs.size + 1) s1.heap.objs.size, ⟨⟨.none, by simpa using he⟩, k.it_new hit, Nat.succ_ne_self _, Nat.ne_of_lt hl, Nat.ne_of_gt (Nat.lt_succ_of_lt hl)⟩, fun b hb => ?_, B.hK ▸ hp2.here rm1 (wk_enum hq)⟩
    have e' : b = s1.heap.objs.size + 1 ∨ b = s1.heap.objs.size := by simpa using hb
    have hle : s1.heap.objs.size ≤ b := by
      rcases e' with z | z
      · rw [z]; exact Nat.le_add_right _ _
      · rw [z]; exact Nat.le_refl _
    exact I1.fpOk hle (I1.hok.fresh hle)
theorem sw_zip {p tpos : Pos} {elts : List Expr} {kk : Nat} (B : Base X G W g) (hg : L2.Gl X "zip") (hm : X.mg "zip" = none) (ha : SE X G W g ea a) (hs : notStar ea = true) (hb : SE X G W g eb b) (hs2 : notStar eb = true) :
    SW X G W g (.Tuple elts kk tpos) (.Call (.Name "zip" p) [ea, eb] [] pos) (.zip a b) := by
  refine ⟨fun pins s σ H R I h => ?_⟩
  obtain ⟨F, rho, m, e, r, re, hp⟩ := h
  rw [evIt] at hp
  have ha' : SA X G W g [ea, eb] (.one a (.one b .nil)) := sa_one ha (sa_one hb sa_nil hs2) hs
  refine Call_ (ld_blt I hg hm PyProof.Rows.boot_zip (PyProof.Rows.callWith_type1 (thn (ha'.run pos pins s σ H (fun vs H1 => ∃ v v', vs = [v, v'] ∧ ∃ F1 rho1 d d' m1, Ext F H rho F1 H1 rho1 ∧ RelM G F1 H1 rho1 m1 ∧ RD G rho1 F1 d v ∧ RD G rho1 F1 d' v' ∧ PostW G W σ F1 H1 rho1 (match seqP m1 d, seqP m1 d' with
    | some w, some z => .ok ⟨List.zipWith (fun p q => .tup [p, q]) w.xs z.xs, w.ws ++ z.ws⟩ m1
    | _, _ => .no) R) I (tI.mk r re ?_)) fun us s1 ⟨vs, H1, I1, r1, v, v', ev_, F1, rho1, d, d', m1, x1, rm1, rr, rr', hp1⟩ => ?_) (starEach_of hs) (plain1 hs2)))
  · rw [evs]
    cases hv : ev g a e m with
    | no => rw [hv] at hp; exact hp.elim
    | ex x m1 => rw [hv] at hp; exact hp
    | ok d m1 =>
      rw [hv] at hp
      simp only [Res.bind_ok] at hp ⊢
      rw [evs]
      cases hv2 : ev g b e m1 with
      | no => rw [hv2] at hp; exact hp.elim
      | ex x m1 => rw [hv2] at hp; exact hp
      | ok d2 m2 =>
        rw [hv2] at hp
        simp only [Res.bind_ok] at hp ⊢
        rw [evs]
        simp only [Res.bind_ok]
        intro v H' F' rho' x rm rd0
        obtain ⟨w, w2, rfl, rd, rd2⟩ := two_of rd0
        exact ⟨w, w2, rfl, F', rho', d, d2, m2, x, rm, rd, rd2, hp.ext x⟩
  · subst ev_
    split at hp1
    · rename_i xs ys e1 e2
      obtain ⟨p, k, rfl, hq, hok⟩ := seqP_ok rm1 rr e1
      obtain ⟨p', k', rfl, hq', hok'⟩ := seqP_ok rm1 rr' e2
      obtain ⟨ws, hq1, hds⟩ := hq _ _ _ _ ((Ext.refl F1 H1 rho1).onw rm1) rm1 hok
      obtain ⟨ws', hq1', hds'⟩ := hq' _ _ _ _ ((Ext.refl F1 H1 rho1).onw rm1) rm1 hok'
      obtain ⟨u, u', rfl, ru, ru'⟩ := vals2 r1
      cases ru
      cases ru'
      obtain ⟨its, rv, pq, hl⟩ := k.look (X := X) I1 (B.hK ▸ hq1)
      obtain ⟨its', rv', pq', hl'⟩ := k'.look (X := X) I1 (B.hK ▸ hq1')
      refine zip_begins2 (k.begins p its.toArray) (k'.begins p' its'.toArray) pq pq' fun h' hz hTI hTO h1 h2 hsz hk => wpAny_pyIter_zip hz ?_
      have I2 : Inv X pins σ H1 { s1 with heap := h' } := I1.kept (t' := s1.toks) hk
      refine ⟨s1.heap.objs.size + 4, [s1.heap.objs.size + 4, s1.heap.objs.size + 2, s1.heap.objs.size + 3, s1.heap.objs.size, s1.heap.objs.size + 1], _, _, H1, rfl, I2, turn_Z k k' (a := p) (b := p') (zip_sep2 (fun b hb => ?_) (fun b hb => ?_)), ⟨hz, hTI, ⟨_, _, hTO⟩, k.it_new h1, k'.it_new h2, Nat.ne_of_lt hl, Nat.ne_of_lt (Nat.lt_succ_of_lt hl')⟩, fun c hcm => ?_, B.hK ▸ hp1.here rm1 (wk_zip hq hq')⟩
      · have e : b = p := by simpa using hb
        subst e
        exact hl
      · have e : b = p' := by simpa using hb
        subst e
        exact hl'
      · have e' : c = s1.heap.objs.size + 4 ∨ c = s1.heap.objs.size + 2 ∨ c = s1.heap.objs.size + 3 ∨ c = s1.heap.objs.size ∨ c = s1.heap.objs.size + 1 := by simpa using hcm
        have hle : s1.heap.objs.size ≤ c := by
          rcases e' with z | z | z | z | z
          · rw [z]; exact Nat.le_add_right _ _
          · rw [z]; exact Nat.le_add_right _ _
          · rw [z]; exact Nat.le_add_right _ _
          · rw [z]; exact Nat.le_refl _
          · rw [z]; exact Nat.le_add_right _ _
        exact I1.fpOk hle (I1.hok.fresh hle)
    · exact hp1.elim
end
end IP

/-! IpJ -/
set_option Elab.async false
set_option linter.all false
set_option maxRecDepth 100000
set_option maxHeartbeats 4000000
/-! IpJ: targets, comprehensions. -/
namespace IP
open PySem L2 PyProof.Rows

/-! ### slots -/
theorem wipe_in {σ : L2.St} {j : Nat} : ∀ {vs : List Nat}, j ∈ vs → (wipe σ vs)[j]? = if j < σ.length then some none else none
  | [], h => by cases h
  | v :: vs, h => by
    unfold wipe
    by_cases hv : v = j
    · subst hv
      by_cases hl : v < σ.length
      · rw [List.getElem?_set_self (by rw [wipe_length]; exact hl), if_pos hl]
      · rw [List.getElem?_eq_none (by rw [List.length_set, wipe_length]; omega), if_neg hl]
    · rw [List.getElem?_set_ne hv]
      rcases List.mem_cons.mp h with e | h
      · exact absurd e.symm hv
      · exact wipe_in h
theorem wipe_eq {σ σ' : L2.St} {vs : List Nat} (hl : σ.length = σ'.length) (h : ∀ j, j ∉ vs → σ[j]? = σ'[j]?) : wipe σ vs = wipe σ' vs := by
  refine List.ext_getElem? fun j => ?_
  by_cases hj : j ∈ vs
  · rw [wipe_in hj, wipe_in hj, hl]
  · rw [wipe_out hj, wipe_out hj, h j hj]
theorem wipe_wipe {σ : L2.St} {vs : List Nat} : wipe (wipe σ vs) vs = wipe σ vs := wipe_eq (wipe_length σ vs) fun j hj => wipe_out hj
theorem wipeE_length (e : Ev) : ∀ vs : List Nat, (wipeE e vs).length = e.length
  | [] => rfl
  | v :: vs => by unfold wipeE; rw [List.length_set, wipeE_length e vs]
theorem wipeE_some {e : Ev} {i : Nat} {x : D} : ∀ {vs : List Nat}, (wipeE e vs)[i]? = some (some x) → e[i]? = some (some x) ∧ i ∉ vs
  | [], h => ⟨h, by simp⟩
  | v :: vs, h => by
    unfold wipeE at h
    by_cases hi : v = i
    · subst hi
      by_cases hv : v < (wipeE e vs).length
      · rw [List.getElem?_set_self hv] at h; cases h
      · rw [List.getElem?_eq_none (by simpa using hv)] at h; cases h
    · rw [List.getElem?_set_ne hi] at h
      obtain ⟨h1, h2⟩ := wipeE_some h
      exact ⟨h1, by simp only [List.mem_cons, not_or]; exact ⟨fun e => hi e.symm, h2⟩⟩
section
variable {G : GC} {F H : Hp} {rho : List Addr} {m : Mem} {e e1 : Ev} {σ : L2.St}
theorem RelE.wipe (h : RelE G F rho e σ) (hsl : G.sl = Option.none) (vs : List Nat) : RelE G F rho (wipeE e vs) (L2.wipe σ vs) := ⟨by rw [wipeE_length, wipe_length]; exact h.1, fun i d q => by
  obtain ⟨q1, q2⟩ := wipeE_some q
  obtain ⟨v, e1, e2⟩ := h.2.1 i d q1
  exact ⟨v, by rw [wipe_out q2]; exact e1, e2⟩, SlOk.non hsl⟩
theorem SlOk.set (h : SlOk G F rho σ) {i : Nat} {o : Option V} (hs : ∀ s, G.sl = some s → s.i ≠ i) : SlOk G F rho (σ.set i o) := fun s e => by
  obtain ⟨q1, q2⟩ := h s e
  exact ⟨by rw [List.getElem?_set_ne (Ne.symm (hs s e))]; exact q1, q2⟩
theorem RelE.set (h : RelE G F rho e σ) {d : D} {v : V} (hd : RD G rho F d v) (i : Nat) (hs : ∀ s, G.sl = some s → s.i ≠ i) : RelE G F rho (e.set i (some d)) (σ.set i (some v)) := ⟨by rw [List.length_set, List.length_set]; exact h.1, fun j d' q => by
  by_cases hj : i = j
  · subst hj
    by_cases hl : i < e.length
    · rw [List.getElem?_set_self hl] at q
      cases q
      exact ⟨v, by rw [List.getElem?_set_self (by rw [← h.1]; exact hl)], hd⟩
    · rw [List.getElem?_eq_none (by simpa using hl)] at q
      cases q
  · rw [List.getElem?_set_ne hj] at q
    obtain ⟨w, e1, e2⟩ := h.2.1 j d' q
    exact ⟨w, by rw [List.getElem?_set_ne hj]; exact e1, e2⟩, SlOk.set h.2.2 hs⟩
theorem RelE.clr (h : RelE G F rho e σ) (i : Nat) (o : Option V) (hs : ∀ s, G.sl = some s → s.i ≠ i) : RelE G F rho (e.set i Option.none) (σ.set i o) := ⟨by rw [List.length_set, List.length_set]; exact h.1, fun j d' q => by
  by_cases hj : i = j
  · subst hj
    by_cases hl : i < e.length
    · rw [List.getElem?_set_self hl] at q
      cases q
    · rw [List.getElem?_eq_none (by simpa using hl)] at q
      cases q
  · rw [List.getElem?_set_ne hj] at q
    obtain ⟨w, e1, e2⟩ := h.2.1 j d' q
    exact ⟨w, by rw [List.getElem?_set_ne hj]; exact e1, e2⟩, SlOk.set h.2.2 hs⟩
theorem noSl (hsl : G.sl = Option.none) {i : Nat} : ∀ s, G.sl = some s → s.i ≠ i := fun s e => by
  rw [hsl] at e
  cases e

/-! ### targets -/
def gNames : List Nat → TGs
  | [] => gNil
  | i :: is => gCons (gName i) (gNames is)
/-- a tuple or a list is unpacked -/
def gSq (K : PySem.W.Frag) (n : Nat) (t : TGs) : TG := fun v σ H Q => gTup K n t v σ H Q ∨ gUnl K n t v σ H Q
theorem pg_sq {X : Cx} {pos : Pos} {es : List Expr} {k : Nat} {t : TGs} {n : Nat} (hc : X.calm = true) (h : PGs X es t)
    (hn : (assignEach es X.env).length = n) (hst : (assignEach es X.env).findIdx? (·.1) = none) : PG X (.Tuple es k pos) (gSq X.K n t) := by
  refine ⟨fun pins s σ H v u Q I r hw => ?_⟩
  rcases hw with hw | hw
  · exact (pg_tup hc h hn hst).run pins s σ H v u Q I r hw
  · exact (pg_unl hc h hn hst).run pins s σ H v u Q I r hw
def gOf (K : PySem.W.Frag) : Tg → TG
  | .one i => gName i
  | .many is => gSq K is.length (gNames is)
theorem setAll_ok (hsl : G.sl = none) : ∀ {is : List Nat} {ds : List D} {vs : List V} {e e1 : Ev} {σ : L2.St} {Q : L2.St → Hp → Prop}, setAll is ds e = some e1 → RDs G rho F ds vs → RelE G F rho e σ →
    (∀ σ', RelE G F rho e1 σ' → σ'.length = σ.length → (∀ j, j ∉ is → σ'[j]? = σ[j]?) → Q σ' H) → gNames is vs σ H Q
  | [], [], _, _, _, _, _, hb, rd, re, h => by
    cases hb
    cases rd
    exact ⟨rfl, h _ re rfl fun _ _ => rfl⟩
  | [], _ :: _, _, _, _, _, _, hb, _, _, _ => by cases hb
  | _ :: _, [], _, _, _, _, _, hb, _, _, _ => by cases hb
  | i :: is, d :: ds, _, e, e1, σ, Q, hb, rd, re, h => by
    cases rd with
    | @cons _ v _ vs h1 h2 =>
      refine ⟨v, vs, rfl, ?_⟩
      have hb : setAll is ds (e.set i (some d)) = some e1 := hb
      refine setAll_ok hsl hb h2 (re.set h1 i (noSl hsl)) fun σ' re' hl hj => h σ' re' (by rw [hl, List.length_set]) fun j hn => ?_
      rw [hj j fun z => hn (List.mem_cons_of_mem _ z), List.getElem?_set_ne fun z => hn (by rw [z]; exact List.mem_cons_self)]
theorem setAll_len : ∀ {is : List Nat} {ds : List D} {e e1 : Ev}, setAll is ds e = some e1 → ds.length = is.length
  | [], [], _, _, _ => rfl
  | [], _ :: _, _, _, hb => by cases hb
  | _ :: _, [], _, _, hb => by cases hb
  | i :: is, d :: ds, e, e1, hb => by
    have hb : setAll is ds (e.set i (some d)) = some e1 := hb
    rw [List.length_cons, List.length_cons, setAll_len hb]
theorem bindT_ok {K : PySem.W.Frag} (hK : K = G.K) (hsl : G.sl = none) {tg : Tg} {d : D} {v : V} {Q : L2.St → Hp → Prop} (r : RelM G F H rho m) (rd : RD G rho F d v) (re : RelE G F rho e σ) (hb : bindT tg d e = some e1)
    (h : ∀ σ', RelE G F rho e1 σ' → σ'.length = σ.length → (∀ j, j ∉ tgL tg → σ'[j]? = σ[j]?) → Q σ' H) : gOf K tg v σ H Q := by
  cases tg with
  | one i =>
    cases hb
    exact h _ (re.set rd i (noSl hsl)) (by rw [List.length_set]) fun j hj => List.getElem?_set_ne fun z => hj (by rw [z]; exact List.mem_cons_self)
  | many is =>
    cases d with
    | tup xs =>
      obtain ⟨a, vs, rfl, h1, h2⟩ := rd.sqt
      have hb : setAll is xs e = some e1 := hb
      have h1' : SqT G.K H a vs := by
        rcases h1 with h1 | h1
        · exact .inl (r.sub.rd2 h1)
        · exact .inr h1
      exact .inl ⟨a, vs, rfl, hK ▸ h1', by rw [← h2.length]; exact setAll_len hb, setAll_ok hsl hb h2 re h⟩
    | lst xs =>
      have hb : setAll is xs e = some e1 := hb
      cases rd with
      | lst h1 h2 => exact .inr ⟨_, _, rfl, SqL.of (r.sub.get h1 rfl), by rw [← h2.length]; exact setAll_len hb, setAll_ok hsl hb h2 re h⟩
    | _ => cases hb
end

/-! ### a list that is being made -/
section
variable {G : GC} {F H F0 H0 F1 H1 : Hp} {rho rho0 rho1 : List Addr} {m : Mem}
/-- what is no cell and no part of F may be anything -/
theorem RelM.other (r : RelM G F H rho m) {p : Addr} {o : HO} (h1 : p ∉ rho) (h2 : F p = none) : RelM G F (upd H p o) rho m := by
  refine ⟨⟨fun {a u} e => ?_⟩, r.len, r.nd, fun n a c e1 e2 => ?_, r.off⟩
  · rw [upd_ne (ne_of_none e h2)]
    exact r.sub.at_ e
  · refine (r.cel n a c e1 e2).mono (Grow.refl F) (Beg.refl _) fun _ u e => ?_
    rw [upd_ne fun z => h1 (by rw [← z]; exact List.mem_of_getElem? e1)]
    exact e
theorem Ext.other (x : Ext F0 H0 rho0 F H rho) {p : Addr} {o : HO} (h : H0 p = none) : Ext F0 H0 rho0 F (upd H p o) rho :=
  ⟨x.fr, x.beg, fun a u e n => by rw [upd_ne (ne_of_none e h)]; exact x.keep a u e n, x.new, x.cl⟩
/-- the list at D with acc so far -/
structure CI (G : GC) (D_ : Addr) (F0 H0 : Hp) (rho0 : List Addr) (acc : List D) (m : Mem) (F H : Hp) (rho : List Addr) (accV : List V) : Prop where
  x : Ext F0 H0 rho0 F H rho
  r : RelM G F H rho m
  at_ : H D_ = some (.lst accV)
  nr : D_ ∉ rho
  nf : F D_ = none
  rd : RDs G rho F acc accV
variable {D_ : Addr} {acc : List D} {accV : List V}
theorem CI.start (r : RelM G F0 H0 rho0 m) (h : H0 D_ = none) : CI G D_ F0 H0 rho0 [] m F0 (upd H0 D_ (.lst [])) rho0 [] :=
  ⟨(Ext.refl _ _ _).other h, r.other (r.off' h) (r.notin h), upd_same, r.off' h, r.notin h, .nil⟩
/-- a further step keeps it -/
theorem CI.step (c : CI G D_ F0 H0 rho0 acc m F H rho accV) {m1 : Mem} (x : Ext F H rho F1 H1 rho1) (r : RelM G F1 H1 rho1 m1) : CI G D_ F0 H0 rho0 acc m1 F1 H1 rho1 accV := by
  refine ⟨c.x.trans x, r, x.keep _ _ c.at_ c.nr, fun z => ?_, ?_, x.rds c.r c.rd⟩
  · have := x.new _ z c.nr
    rw [c.at_] at this
    cases this
  · cases q : F1 D_ with
    | none => rfl
    | some u =>
      rcases x.cl _ _ q with e | e | e
      · rw [c.nf] at e; cases e
      · rw [c.at_] at e; cases e
      · exact absurd e c.nr
theorem CI.add (c : CI G D_ F0 H0 rho0 acc m F H rho accV) (h : H0 D_ = none) {d : D} {v : V} (rd : RD G rho F d v) : CI G D_ F0 H0 rho0 (acc ++ [d]) m F (upd H D_ (.lst (accV ++ [v]))) rho (accV ++ [v]) :=
  ⟨c.x.other h, c.r.other c.nr c.nf, upd_same, c.nr, c.nf, c.rd.append (.cons rd .nil)⟩
/-- it is done: the list is a value, or a cell -/
theorem CI.done {W : WX} {σ : L2.St} {Q : VK} {mu : Bool} (c : CI G D_ F0 H0 rho0 acc m F H rho accV) (h : H0 D_ = none) (hp : Post G W σ (RD1 G) F0 H0 rho0 (newM mu acc m) Q) : Q (.ref D_) H := by
  unfold newM at hp
  cases mu with
  | false =>
    have gr : Grow F (upd F D_ (.lst accV)) := Grow.upd c.nf
    have x' : Ext F0 H0 rho0 (upd F D_ (.lst accV)) H rho := ⟨c.x.fr.trans gr, c.x.beg, c.x.keep, c.x.new, fun a u e => by
      by_cases ha : a = D_
      · subst ha
        exact .inr (.inl h)
      · rw [upd_ne ha] at e
        exact c.x.cl a u e⟩
    have r' : RelM G (upd F D_ (.lst accV)) H rho m := by
      refine ⟨⟨fun {a u} e => ?_⟩, c.r.len, c.r.nd, fun n a c' e1 e2 => ?_, fun n a c' e1 e2 e3 => ?_⟩
      · by_cases ha : a = D_
        · subst ha
          rw [upd_same] at e
          cases e
          exact .inl c.at_
        · rw [upd_ne ha] at e
          exact c.r.sub.at_ e
      · exact (c.r.cel n a c' e1 e2).mono gr (Beg.refl _) fun _ _ e => e
      · rw [upd_ne fun z => c.nr (by rw [← z]; exact List.mem_of_getElem? e1)]
        exact c.r.off n a c' e1 e2 e3
    exact hp _ _ _ _ x' r' (.lst upd_same (RDs.mono gr.sub (Beg.refl _) _ _ c.rd))
  | true =>
    have x' : Ext F0 H0 rho0 F H (rho ++ [D_]) := ⟨c.x.fr, c.x.beg.trans (Beg.app _ _), c.x.keep, fun a ha hn => by
      rcases List.mem_append.mp ha with z | z
      · exact c.x.new a z hn
      · have e : a = D_ := by simpa using z
        subst e
        exact h, c.x.cl⟩
    have r' : RelM G F H (rho ++ [D_]) (m ++ [.lst acc]) := by
      refine ⟨c.r.sub, by rw [List.length_append, List.length_append, c.r.len] <;> rfl, ?_, fun n a c' h1 h2 => ?_, fun n a c' h1 h2 h3 => ?_⟩
      · refine List.nodup_append.mpr ⟨c.r.nd, by simp, fun a ha b hb => ?_⟩
        have e : b = D_ := by simpa using hb
        subst e
        exact fun z => c.nr (z ▸ ha)
      · by_cases hn : n < rho.length
        · rw [List.getElem?_append_left hn] at h1
          rw [List.getElem?_append_left (by rw [c.r.len]; exact hn)] at h2
          exact (c.r.cel n a c' h1 h2).mono (Grow.refl F) (Beg.app _ _) fun _ _ e => e
        · have h1' : rho.length ≤ n := Nat.le_of_not_lt hn
          rw [List.getElem?_append_right h1'] at h1
          rw [List.getElem?_append_right (by rw [c.r.len]; exact h1'), c.r.len] at h2
          have hz : n - rho.length = 0 := by
            cases q : n - rho.length with
            | zero => rfl
            | succ k => rw [q] at h1; simp at h1
          rw [hz] at h1 h2
          simp at h1 h2
          subst h1 h2
          exact ⟨accV, c.at_, RDs.mono (Grow.refl F).sub (Beg.app _ _) _ _ c.rd⟩
      · by_cases hn : n < rho.length
        · rw [List.getElem?_append_left hn] at h1
          rw [List.getElem?_append_left (by rw [c.r.len]; exact hn)] at h2
          exact c.r.off n a c' h1 h2 h3
        · have h1' : rho.length ≤ n := Nat.le_of_not_lt hn
          rw [List.getElem?_append_right h1'] at h1
          have hz : n - rho.length = 0 := by
            cases q : n - rho.length with
            | zero => rfl
            | succ k => rw [q] at h1; simp at h1
          rw [hz] at h1
          simp at h1
          subst h1
          exact c.nf
    refine hp _ _ _ _ x' r' (.ref ?_)
    rw [c.r.len]
    simp
theorem newL_newM {mu : Bool} {xs : List D} {m : Mem} {W : WX} {σ : L2.St} {Q : VK} (hp : Post G W σ (RD1 G) F H rho (newL mu xs m) Q) : xs.length ≤ sizeLine ∧ Post G W σ (RD1 G) F H rho (newM mu xs m) Q := by
  unfold newL at hp
  obtain ⟨h1, h2⟩ := Post.ite hp
  exact ⟨of_decide_eq_true h1, h2⟩
end
theorem compW_ok {w : Wl} {f : D → Mem → Res (List D)} {ds : List D} {m m' : Mem} {ys : List D} (h : compW w f ds m = .ok ys m') : w.ok m := by
  refine Classical.byContradiction fun q => ?_
  cases ds with
  | nil => rw [compW, Wl.gd_neg q] at h; cases h
  | cons d ds => rw [compW, Wl.gd_neg q] at h; cases h
theorem compW_end {w : Wl} {f : D → Mem → Res (List D)} {m m' : Mem} {ys : List D} (h : compW w f [] m = .ok ys m') : ys = [] ∧ m' = m := by
  have q := compW_ok h
  rw [compW, Wl.gd_pos q] at h
  cases h
  exact ⟨rfl, rfl⟩
theorem compW_cons {w : Wl} {f : D → Mem → Res (List D)} {d : D} {ds : List D} {m m' : Mem} {ys : List D} (h : compW w f (d :: ds) m = .ok ys m') : ∃ y m1 r, f d m = .ok y m1 ∧ compW w f ds m1 = .ok r m' ∧ ys = y ++ r := by
  have q := compW_ok h
  rw [compW, Wl.gd_pos q] at h
  cases h1 : f d m with
  | ok y m1 =>
    rw [h1] at h
    dsimp only at h
    cases h2 : compW w f ds m1 with
    | ok r m2 =>
      rw [h2] at h
      cases h
      exact ⟨y, m1, r, rfl, h2, rfl⟩
    | ex x m2 => rw [h2] at h; cases h
    | no => rw [h2] at h; cases h
  | ex x m1 => rw [h1] at h; cases h
  | no => rw [h1] at h; cases h
theorem compW_ex {w : Wl} {f : D → Mem → Res (List D)} {x : Exc} : ∀ {ds : List D} {m m' : Mem}, compW w f ds m ≠ .ex x m'
  | [], m, _, h => by
    by_cases q : w.ok m
    · rw [compW, Wl.gd_pos q] at h; cases h
    · rw [compW, Wl.gd_neg q] at h; cases h
  | d :: ds, m, m', h => by
    by_cases q : w.ok m
    rotate_left
    · rw [compW, Wl.gd_neg q] at h; cases h
    rw [compW, Wl.gd_pos q] at h
    cases h1 : f d m with
    | ok y m1 =>
      rw [h1] at h
      dsimp only at h
      cases h2 : compW w f ds m1 with
      | ok r m2 => rw [h2] at h; cases h
      | ex x m2 => rw [h2] at h; cases h
      | no => rw [h2] at h; cases h
    | ex x m1 => rw [h1] at h; cases h
    | no => rw [h1] at h; cases h
end IP

/-! IpK -/
set_option Elab.async false
set_option linter.all false
set_option maxRecDepth 100000
set_option maxHeartbeats 4000000
/-! IpK: comprehensions. -/
namespace IP
open PySem L2 PyProof.Rows

/-- nothing is raised -/
def WF : WX := fun _ _ _ _ => False
section
variable {G : GC} {W : WX} {g : Gl} {σ : L2.St} {H : Hp} {Q : VK} {K : PySem.W.Frag}
theorem drop_some {α : Type} {xs : List α} {i : Nat} {d : α} (h : xs[i]? = some d) : xs.drop i = d :: xs.drop (i + 1) := by
  obtain ⟨h1, h2⟩ := List.getElem?_eq_some_iff.mp h
  rw [List.drop_eq_getElem_cons h1, h2]
theorem res_bind_ok {α β : Type} {r : Res α} {f : α → Mem → Res β} {b : β} {m : Mem} (h : r.bind f = .ok b m) : ∃ a m1, r = .ok a m1 ∧ f a m1 = .ok b m := by
  cases r with
  | ok a m1 => exact ⟨a, m1, rfl, h⟩
  | ex x m1 => cases h
  | no => cases h
theorem comp_ok (hK : K = G.K) (hcs : g.cur.isNone = true → G.sl = none) {mu : Bool} {elt : E} {tg : Tg} {it : It} {cnd : Oe} {own : List Nat} (ht : ∀ i ∈ tgL tg, i ∈ own) (h : tI G W (RD1 G) (ev g (.comp mu elt tg it cnd own)) σ H Q) :
    tLc (tW G W (evIt g it)) (gOf K tg) (tI G WF REq (evO g cnd)) (tI G WF (RD1 G) (ev g elt)) own σ H Q := by
  obtain ⟨F, rho, m, e, r, re, hp⟩ := h
  rw [ev] at hp
  by_cases hcur : g.cur.isNone = true
  rotate_left
  · rw [if_neg hcur] at hp
    exact hp.elim
  rw [if_pos hcur] at hp
  refine ⟨F, rho, m, e, r, re, ?_⟩
  cases hit : evIt g it e m with
  | no => rw [hit] at hp; exact hp.elim
  | ex x m1 => rw [hit] at hp; exact hp
  | ok w m1 =>
    rw [hit] at hp
    simp only [Res.bind_ok] at hp
    intro J H1 F1 rho1 x1 r1 wk D_ hD
    have hp1 := hp.ext x1
    have re1 := x1.rde r re
    generalize hf : (fun (d : D) (m2 : Mem) => match bindT tg d (wipeE e own) with
          | some e1 => (evO g cnd e1 m2).bind fun b m3 => (match b with
            | true => (ev g elt e1 m3).bind fun y m4 => .ok [y] m4
            | false => .ok [] m3)
          | none => (Res.no : Res (List D))) = f at hp1
    cases hL : compW w f w.xs m1 with
    | no => rw [hL] at hp1; exact hp1.elim
    | ex x m2 => exact absurd hL compW_ex
    | ok ys mE =>
      rw [hL] at hp1
      simp only [Res.bind_ok] at hp1
      obtain ⟨hlen, hp2⟩ := newL_newM hp1
      let Gd : Hp → Prop := fun H => ∃ F2 rho2 m2, Ext F1 H1 rho1 F2 H rho2 ∧ RelM G F2 H rho2 m2 ∧ w.ok m2
      let Yd : Nat → Hp → V → Hp → Prop := fun i H x H' => ∀ F2 rho2 m2, Ext F1 H1 rho1 F2 H rho2 → RelM G F2 H rho2 m2 → w.ok m2 → ∃ F3 d, Ext F2 H rho2 F3 H' rho2 ∧ RelM G F3 H' rho2 m2 ∧ w.xs[i]? = some d ∧ RD G rho2 F3 d x
      have wlk : Walk J w.xs.length Gd Yd := ⟨fun i H hi ⟨F2, rho2, m2, x2, r2, hok⟩ => wk.go (x2.onw r1) r2 hok hi, fun H ⟨F2, rho2, m2, x2, r2, hok⟩ => wk.stop (x2.onw r1) r2 hok, fun i H x H' hi _ y F2 rho2 m2 x2 r2 hok => wk.yld (x2.onw r1) r2 hok hi y⟩
      let Pv : Nat → Hp → Prop := fun i H => ∃ acc m2 F2 rho2 accV rest, CI G D_ F1 H1 rho1 acc m2 F2 H rho2 accV ∧ compW w f (w.xs.drop i) m2 = .ok rest mE ∧ acc ++ rest = ys
      refine lc_it wlk (Pv := Pv) ⟨[], m1, F1, rho1, [], ys, CI.start r1 hD, by rw [List.drop_zero]; exact hL, rfl⟩ (fun i H _ ⟨acc, m2, F2, rho2, accV, rest, c, e1, _⟩ => ⟨F2, rho2, m2, c.x, c.r, compW_ok e1⟩) (fun i x H H' hi ⟨acc, m2, F2, rho2, accV, rest, c, e1, e2⟩ y => ?_) fun H ⟨acc, m2, F2, rho2, accV, rest, c, e1, e2⟩ => ?_
      · obtain ⟨F3, d, x3, r3, ed, rd⟩ := y F2 rho2 m2 c.x c.r (compW_ok e1)
        have c3 := c.step x3 r3
        rw [drop_some ed] at e1
        obtain ⟨y1, m3, rest', f1, f2, f3⟩ := compW_cons e1
        rw [← hf] at f1
        dsimp only at f1
        cases hb : bindT tg d (wipeE e own) with
        | none => rw [hb] at f1; cases f1
        | some e3 =>
          rw [hb] at f1
          dsimp only at f1
          have re3 : RelE G F3 rho2 (wipeE e own) (wipe σ own) := (c3.x.rde r1 re1).wipe (hcs hcur) own
          refine bindT_ok hK (hcs hcur) r3 rd re3 hb fun σ' re4 hl hj => ⟨?_, ?_⟩
          · have e5 : wipe σ' own = wipe (wipe σ own) own := wipe_eq hl fun j hn => hj j fun z => hn (ht j z)
            rw [e5, wipe_wipe]
          · obtain ⟨b, m4, g1, g2⟩ := res_bind_ok f1
            refine ⟨F3, rho2, m2, e3, r3, re4, ?_⟩
            rw [g1]
            intro b' H4 F4 rho4 x4 r4 eb
            cases eb
            have c4 := c3.step x4 r4
            cases b with
            | false =>
              cases g2
              exact iteF ⟨acc, _, F4, rho4, accV, rest', c4, f2, by rw [← e2, f3]; rfl⟩
            | true =>
              refine iteT ?_
              obtain ⟨yd, m5, k1, k2⟩ := res_bind_ok g2
              cases k2
              refine ⟨F4, rho4, m4, e3, r4, x4.rde r3 re4, ?_⟩
              rw [k1]
              intro yv H5 F5 rho5 x5 r5 rd5
              have c5 := c4.step x5 r5
              refine ⟨accV, c5.at_, ?_, acc ++ [yd], m3, F5, rho5, accV ++ [yv], rest', c5.add hD rd5, f2, by rw [← e2, f3]; simp⟩
              have hl5 := c5.rd.length
              have e6 : ys.length = acc.length + (1 + rest'.length) := by
                rw [← e2, f3]
                simp
                omega
              omega
      · rw [List.drop_length] at e1
        obtain ⟨q1, q2⟩ := compW_end e1
        subst q1 q2
        rw [List.append_nil] at e2
        subst e2
        exact c.done hD hp2
theorem comp2_ok (hK : K = G.K) (hcs : g.cur.isNone = true → G.sl = none) {mu : Bool} {elt : E} {tg tg2 : Tg} {it it2 : It} {cnd : Oe} {own : List Nat} (ht : ∀ i ∈ tgL tg, i ∈ own) (h : tI G W (RD1 G) (ev g (.comp2 mu elt tg it tg2 it2 cnd own)) σ H Q) :
    tLc2 (tW G W (evIt g it)) (gOf K tg) tYes (tW G WF (evIt g it2)) (gOf K tg2) (tI G WF REq (evO g cnd)) (tI G WF (RD1 G) (ev g elt)) own (tgL tg2) σ H Q := by
  obtain ⟨F, rho, m, e, r, re, hp⟩ := h
  rw [ev] at hp
  by_cases hcur : g.cur.isNone = true
  rotate_left
  · rw [if_neg hcur] at hp
    exact hp.elim
  rw [if_pos hcur] at hp
  refine ⟨F, rho, m, e, r, re, ?_⟩
  cases hit : evIt g it e m with
  | no => rw [hit] at hp; exact hp.elim
  | ex x m1 => rw [hit] at hp; exact hp
  | ok w m1 =>
    rw [hit] at hp
    simp only [Res.bind_ok] at hp
    intro J H1 F1 rho1 x1 r1 wk D_ hD
    have hp1 := hp.ext x1
    have re1 := x1.rde r re
    generalize hf : (fun (d : D) (m2 : Mem) => match bindT tg d (wipeE e own) with
        | some e1 => (evIt g it2 e1 m2).bind fun z m3 => compW z (fun d2 m4 => match bindT tg2 d2 (wipeE e1 (tgL tg2)) with
          | some e2 => (evO g cnd e2 m4).bind fun b m5 => (match b with
            | true => (ev g elt e2 m5).bind fun y m6 => .ok [y] m6
            | false => .ok [] m5)
          | none => (Res.no : Res (List D))) z.xs m3
        | none => (Res.no : Res (List D))) = f at hp1
    cases hL : compW w f w.xs m1 with
    | no => rw [hL] at hp1; exact hp1.elim
    | ex x m2 => exact absurd hL compW_ex
    | ok ys mE =>
      rw [hL] at hp1
      simp only [Res.bind_ok] at hp1
      obtain ⟨hlen, hp2⟩ := newL_newM hp1
      let Pv : Nat → Hp → Prop := fun i H => ∃ acc m2 F2 rho2 accV rest, CI G D_ F1 H1 rho1 acc m2 F2 H rho2 accV ∧ compW w f (w.xs.drop i) m2 = .ok rest mE ∧ acc ++ rest = ys
      refine ⟨fun i m H => m = w.xs.length - i ∧ i ≤ w.xs.length ∧ Pv i H, ⟨w.xs.length, by simp, Nat.zero_le _, [], m1, F1, rho1, [], ys, CI.start r1 hD, by rw [List.drop_zero]; exact hL, rfl⟩, ?_⟩
      rintro i _ H ⟨rfl, hi, acc, m2, F2, rho2, accV, rest, c, e1, e2⟩
      by_cases hlt : i < w.xs.length
      rotate_left
      · have hin : i = w.xs.length := by omega
        subst hin
        rw [List.drop_length] at e1
        have hok := compW_ok e1
        obtain ⟨q1, q2⟩ := compW_end e1
        subst q1 q2
        rw [List.append_nil] at e2
        subst e2
        exact .inl ⟨wk.stop (c.x.onw r1) c.r hok, c.done hD hp2⟩
      refine .inr ⟨wk.go (c.x.onw r1) c.r (compW_ok e1) hlt, Pv (i + 1), fun H' p' => ⟨w.xs.length - (i + 1), by omega, rfl, hlt, p'⟩, fun x H' y => ?_⟩
      obtain ⟨F3, d, x3, r3, ed, rd⟩ := wk.yld (c.x.onw r1) c.r (compW_ok e1) hlt y
      have c3 := c.step x3 r3
      rw [drop_some ed] at e1
      obtain ⟨y1, m3, rest', f1, f2, f3⟩ := compW_cons e1
      rw [← hf] at f1
      dsimp only at f1
      cases hb : bindT tg d (wipeE e own) with
      | none => rw [hb] at f1; cases f1
      | some e3 =>
        rw [hb] at f1
        dsimp only at f1
        have re3 : RelE G F3 rho2 (wipeE e own) (wipe σ own) := (c3.x.rde r1 re1).wipe (hcs hcur) own
        refine bindT_ok hK (hcs hcur) r3 rd re3 hb fun σ' re4 hl hj => ⟨?_, ?_⟩
        · have e5 : wipe σ' own = wipe (wipe σ own) own := wipe_eq hl fun j hn => hj j fun z => hn (ht j z)
          rw [e5, wipe_wipe]
        · refine iteT (B := Pv (i + 1) H') ?_
          obtain ⟨z, m4, g1, g2⟩ := res_bind_ok f1
          refine ⟨F3, rho2, m2, e3, r3, re4, ?_⟩
          rw [g1]
          intro J2 H4 F4 rho4 x4 r4 wk2
          have c4 := c3.step x4 r4
          have re5 := x4.rde r3 re4
          generalize hf2 : (fun (d2 : D) (m4 : Mem) => match bindT tg2 d2 (wipeE e3 (tgL tg2)) with
            | some e2 => (evO g cnd e2 m4).bind fun b m5 => (match b with
              | true => (ev g elt e2 m5).bind fun y m6 => .ok [y] m6
              | false => .ok [] m5)
            | none => (Res.no : Res (List D))) = fi at g2
          let Pi : Nat → Hp → Prop := fun j H => ∃ acc' m5 F5 rho5 accV' rest2, CI G D_ F1 H1 rho1 acc' m5 F5 H rho5 accV' ∧ Onw F4 H4 rho4 F5 H rho5 ∧ compW z fi (z.xs.drop j) m5 = .ok rest2 m3 ∧ acc' ++ rest2 = acc ++ y1
          refine ⟨fun j k H => k = z.xs.length - j ∧ j ≤ z.xs.length ∧ Pi j H, ⟨z.xs.length, by simp, Nat.zero_le _, acc, m4, F4, rho4, accV, y1, c4, (Ext.refl _ _ _).onw r4, by rw [List.drop_zero]; exact g2, rfl⟩, ?_⟩
          rintro j _ H ⟨rfl, hj2, acc', m5, F5, rho5, accV', rest2, c5, x5, k1, k2⟩
          by_cases hlt2 : j < z.xs.length
          rotate_left
          · have hin : j = z.xs.length := by omega
            subst hin
            rw [List.drop_length] at k1
            have hok := compW_ok k1
            obtain ⟨q1, q2⟩ := compW_end k1
            subst q1 q2
            rw [List.append_nil] at k2
            subst k2
            exact .inl ⟨wk2.stop x5 c5.r hok, acc ++ y1, _, F5, rho5, accV', rest', c5, f2, by rw [← e2, f3, List.append_assoc]⟩
          refine .inr ⟨wk2.go x5 c5.r (compW_ok k1) hlt2, Pi (j + 1), fun H' p' => ⟨z.xs.length - (j + 1), by omega, rfl, hlt2, p'⟩, fun x' H' y' => ?_⟩
          obtain ⟨F6, d2, x6, r6, ed2, rd2⟩ := wk2.yld x5 c5.r (compW_ok k1) hlt2 y'
          have c6 := c5.step x6 r6
          have o6 := x5.trans (x6.onw c5.r)
          rw [drop_some ed2] at k1
          obtain ⟨y2, m6, rest3, p1, p2, p3⟩ := compW_cons k1
          rw [← hf2] at p1
          dsimp only at p1
          cases hb2 : bindT tg2 d2 (wipeE e3 (tgL tg2)) with
          | none => rw [hb2] at p1; cases p1
          | some e4 =>
            rw [hb2] at p1
            dsimp only at p1
            have re6 : RelE G F6 rho5 (wipeE e3 (tgL tg2)) (wipe σ' (tgL tg2)) := (o6.rde re5).wipe (hcs hcur) _
            refine bindT_ok hK (hcs hcur) r6 rd2 re6 hb2 fun σ'' re7 hl2 hj3 => ⟨?_, ?_⟩
            · have e5 : wipe σ'' (tgL tg2) = wipe (wipe σ' (tgL tg2)) (tgL tg2) := wipe_eq hl2 fun j hn => hj3 j hn
              rw [e5, wipe_wipe]
            · obtain ⟨b, m7, q1, q2⟩ := res_bind_ok p1
              refine ⟨F6, rho5, m5, e4, r6, re7, ?_⟩
              rw [q1]
              intro b' H7 F7 rho7 x7 r7 eb
              cases eb
              have c7 := c6.step x7 r7
              have o7 := o6.trans (x7.onw r6)
              cases b with
              | false =>
                cases q2
                exact iteF ⟨acc', _, F7, rho7, accV', rest3, c7, o7, p2, by rw [← k2, p3]; rfl⟩
              | true =>
                refine iteT ?_
                obtain ⟨yd, m8, t1, t2⟩ := res_bind_ok q2
                cases t2
                refine ⟨F7, rho7, m7, e4, r7, x7.rde r6 re7, ?_⟩
                rw [t1]
                intro yv H8 F8 rho8 x8 r8 rd8
                have c8 := c7.step x8 r8
                have o8 := o7.trans (x8.onw r7)
                refine ⟨accV', c8.at_, ?_, acc' ++ [yd], _, F8, rho8, accV' ++ [yv], rest3, c8.add hD rd8, o8.other c4.nf, p2, by rw [← k2, p3]; simp⟩
                have hl5 := c8.rd.length
                have e6 : ys.length = acc'.length + (1 + rest3.length) + rest'.length := by
                  rw [← e2, f3, ← List.append_assoc, ← k2, p3]
                  simp
                  omega
                omega
end
end IP

/-! IpL -/
set_option Elab.async false
set_option linter.all false
set_option maxRecDepth 100000
set_option maxHeartbeats 4000000
/-! IpL: statements. -/
namespace IP
open PySem L2 PyProof.Rows

/-- behind a statement -/
def PostS (G : GC) (W : WX) (F H : Hp) (rho : List Addr) (r : Rs) (D : Ends) : Prop := match r with
  | .nx e m => ∀ (σ' : L2.St) (H' F' : Hp) (rho' : List Addr), Ext F H rho F' H' rho' → RelM G F' H' rho' m → RelE G F' rho' e σ' → D.nx σ' H'
  | .bk e m => ∀ (σ' : L2.St) (H' F' : Hp) (rho' : List Addr), Ext F H rho F' H' rho' → RelM G F' H' rho' m → RelE G F' rho' e σ' → D.bk σ' H'
  | .ct e m => ∀ (σ' : L2.St) (H' F' : Hp) (rho' : List Addr), Ext F H rho F' H' rho' → RelM G F' H' rho' m → RelE G F' rho' e σ' → D.ct σ' H'
  | .rt d m => ∀ (v : V) (H' F' : Hp) (rho' : List Addr), Ext F H rho F' H' rho' → RelM G F' H' rho' m → RD G rho' F' d v → D.rt v H'
  | .ex x e m => ∀ (c : Value) (dd : Option Addr) (σ' : L2.St) (H' F' : Hp) (rho' : List Addr), Ext F H rho F' H' rho' → RelM G F' H' rho' m → RelE G F' rho' e σ' → RX G F' H' rho' x c dd → W c dd σ' H'
  | .no => False
section
variable {G : GC} {W : WX} {σ : L2.St} {F H : Hp} {rho : List Addr} {D : Ends}
theorem PostS.ext {F1 H1 : Hp} {rho1 : List Addr} {r : Rs} (h : PostS G W F H rho r D) (x : Ext F H rho F1 H1 rho1) : PostS G W F1 H1 rho1 r D := by
  cases r with
  | nx e m => exact fun σ' H' F' rho' x' => h σ' H' F' rho' (x.trans x')
  | bk e m => exact fun σ' H' F' rho' x' => h σ' H' F' rho' (x.trans x')
  | ct e m => exact fun σ' H' F' rho' x' => h σ' H' F' rho' (x.trans x')
  | rt d m => exact fun v H' F' rho' x' => h v H' F' rho' (x.trans x')
  | ex y e m => exact fun c dd σ' H' F' rho' x' => h c dd σ' H' F' rho' (x.trans x')
  | no => exact h
theorem PostS.imp {D' : Ends} {W' : WX} {r : Rs} (h : PostS G W F H rho r D) (h1 : ∀ σ H, D.nx σ H → D'.nx σ H) (h2 : ∀ v H, D.rt v H → D'.rt v H) (h3 : ∀ σ H, D.bk σ H → D'.bk σ H) (h4 : ∀ σ H, D.ct σ H → D'.ct σ H) (h5 : ∀ c d σ H, W c d σ H → W' c d σ H) : PostS G W' F H rho r D' := by
  cases r with
  | nx e m => exact fun σ' H' F' rho' x' r' e' => h1 _ _ (h σ' H' F' rho' x' r' e')
  | bk e m => exact fun σ' H' F' rho' x' r' e' => h3 _ _ (h σ' H' F' rho' x' r' e')
  | ct e m => exact fun σ' H' F' rho' x' r' e' => h4 _ _ (h σ' H' F' rho' x' r' e')
  | rt d m => exact fun v H' F' rho' x' r' d' => h2 _ _ (h v H' F' rho' x' r' d')
  | ex y e m => exact fun c dd σ' H' F' rho' x' r' e' rx => h5 _ _ _ _ (h c dd σ' H' F' rho' x' r' e' rx)
  | no => exact h
/-- behind an expression -/
theorem PostS.go {α β : Type} {R1 : Hp → List Addr → α → β → Prop} {r : Res α} {e : Ev} {k : α → Mem → Rs} {m : Mem} (rm : RelM G F H rho m) (re : RelE G F rho e σ) (h : PostS G W F H rho (r.go e k) D) :
    Post G W σ R1 F H rho r fun v H1 => At G R1 F H rho v H1 fun F1 rho1 d m1 => PostS G W F1 H1 rho1 (k d m1) D := by
  cases r with
  | ok d m => exact fun v H' F' rho' x' r' rr => ⟨F', rho', d, m, x', r', rr, PostS.ext h x'⟩
  | ex y m => exact fun c dd H' F' rho' x' r' rx => h c dd σ H' F' rho' x' r' (x'.rde rm re) rx
  | no => exact h
theorem PostS.here {e : Ev} {m : Mem} (h : PostS G W F H rho (.nx e m) D) (r : RelM G F H rho m) (re : RelE G F rho e σ) : D.nx σ H := h σ H F rho (Ext.refl _ _ _) r re
theorem PostS.ite {c : Prop} [Decidable c] {r : Rs} (h : PostS G W F H rho (if c then r else .no) D) : c ∧ PostS G W F H rho r D := by
  by_cases hc : c
  · rw [if_pos hc] at h
    exact ⟨hc, h⟩
  · rw [if_neg hc] at h
    exact h.elim
end
/-- the reading of a statement that comes to f -/
def tS (G : GC) (W : WX) (f : Ev → Mem → Rs) : TS := fun D σ H =>
  ∃ (F : Hp) (rho : List Addr) (m : Mem) (e : Ev), RelM G F H rho m ∧ RelE G F rho e σ ∧ PostS G W F H rho (f e m) D
theorem tS.mk {G : GC} {W : WX} {f : Ev → Mem → Rs} {D : Ends} {σ : L2.St} {F H : Hp} {rho : List Addr} {m : Mem} {e : Ev} (r : RelM G F H rho m) (re : RelE G F rho e σ) (h : PostS G W F H rho (f e m) D) : tS G W f D σ H := ⟨F, rho, m, e, r, re, h⟩
theorem _root_.L2.PS.imp {X : Cx} {s : Stmt} {t t' : TS} (h : PS X s t) (hi : ∀ D σ H, t' D σ H → t D σ H) : PS X s t' := ⟨fun pins s σ H D I q => h.run pins s σ H D I (hi D σ H q)⟩
theorem _root_.L2.PSs.imp {X : Cx} {s : List Stmt} {t t' : TS} (h : PSs X s t) (hi : ∀ D σ H, t' D σ H → t D σ H) : PSs X s t' := ⟨fun pins s σ H D I q => h.run pins s σ H D I (hi D σ H q)⟩
abbrev SS (X : Cx) (G : GC) (W : WX) (g : Gl) (xn : String → Option (List String)) (st : Stmt) (s : S) : Prop := PS X st (tS G W (evS g xn s))
abbrev SSs (X : Cx) (G : GC) (W : WX) (g : Gl) (xn : String → Option (List String)) (st : List Stmt) (s : Ss) : Prop := PSs X st (tS G W (evSs g xn s))

/-! ### storing -/
section
variable {G : GC} {F H : Hp} {rho : List Addr} {m : Mem}
/-- a cell is written -/
theorem RelM.write (r : RelM G F H rho m) {n : Nat} {a : Addr} {c c' : MO} {o : HO} (h1 : rho[n]? = some a) (h2 : m[n]? = some c) (hd : c ≠ .dead) (hc : Cel G rho F (upd H a o) a c') : RelM G F (upd H a o) rho (m.set n c') ∧ Ext F H rho F (upd H a o) rho := by
  have hF := r.off n a c h1 h2 hd
  have ha : a ∈ rho := List.mem_of_getElem? h1
  refine ⟨⟨⟨fun {b u} e => ?_⟩, by rw [List.length_set]; exact r.len, r.nd, fun j b c'' e1 e2 => ?_, fun j b c'' e1 e2 e3 => ?_⟩, ⟨Grow.refl F, Beg.refl rho, fun b u e hb => ?_, fun b hb hn => absurd hb hn, fun b u e => .inl e⟩⟩
  · rw [upd_ne (ne_of_none e hF)]
    exact r.sub.at_ e
  · by_cases hj : n = j
    · subst hj
      rw [h1] at e1
      cases e1
      have hl : n < m.length := (List.getElem?_eq_some_iff.mp h2).1
      rw [List.getElem?_set_self hl] at e2
      cases e2
      exact hc
    · rw [List.getElem?_set_ne hj] at e2
      refine (r.cel j b c'' e1 e2).mono (Grow.refl F) (Beg.refl _) fun _ u e => ?_
      rw [upd_ne fun z => hj ?_]
      · exact e
      · subst z
        obtain ⟨l1, q1⟩ := List.getElem?_eq_some_iff.mp h1
        obtain ⟨l2, q2⟩ := List.getElem?_eq_some_iff.mp e1
        exact (List.getElem_inj r.nd).mp (q1.trans q2.symm)
  · by_cases hj : n = j
    · subst hj
      rw [h1] at e1
      cases e1
      exact hF
    · rw [List.getElem?_set_ne hj] at e2
      exact r.off j b c'' e1 e2 e3
  · rw [upd_ne fun z => hb (by rw [z]; exact ha)]
    exact e
end
theorem putF_rd {G : GC} {rho : List Addr} {F : Hp} {f : String} {d : D} {y : V} (hd : RD G rho F d y) : ∀ {fs : List (String × D)} {vs : List (Str × V)}, RDf G rho F fs vs → RDf G rho F (putD f d fs) (putF (Str.ofString f) y vs)
  | _, _, .nil => .cons hd .nil
  | _, _, .cons (f := g) (ds := ds) (vs := vs) h t => by
    unfold putD putF
    by_cases hg : g = f
    · subst hg
      rw [if_pos rfl, if_pos rfl]
      exact .cons hd t
    · rw [if_neg hg, if_neg fun z => hg (ofString_inj z)]
      exact .cons h (putF_rd hd t)

section
variable {X : Cx} {G : GC} {W : WX} {g : Gl} {xn : String → Option (List String)} {a b c o : E} {ea eb ec eo : Expr} {pos : Pos}
theorem ss_expr (ha : SE X G W g ea a) (hs : swapsWith ea none pos.line X.env = pure false) : SS X G W g xn (.Expr ea pos) (.expr a) := by
  refine (ps_expr ha hs).imp fun D σ H h => ?_
  obtain ⟨F, rho, m, e, r, re, hp⟩ := h
  rw [evS] at hp
  refine tI.mk r re ((PostS.go (R1 := RD1 G) r re hp).imp fun v H' ⟨F1, rho1, d, m1, x1, r1, rr, hp1⟩ => ?_)
  exact hp1.here r1 (x1.rde r re)
theorem ss_set {i : Nat} {x : Str} {p : Pos} (hsl : ∀ s, G.sl = some s → s.i ≠ i) (hN : X.N.Nodup) (hi : X.N[i]? = some x) (hx : Loc X.env.scope x) (hf : X.fn x = true ∨ X.env.scope.names.lookup x = some .local) (ha : SE X G W g ea a) (hs : swapsWith ea (some (.Name x p)) pos.line X.env = pure false) :
    SS X G W g xn (.Assign [.Name x p] ea pos) (.set i a) := by
  refine (ps_set hN hi hx ha hs hf).imp fun D σ H h => ?_
  obtain ⟨F, rho, m, e, r, re, hp⟩ := h
  rw [evS] at hp
  refine tI.mk r re ((PostS.go (R1 := RD1 G) r re hp).imp fun v H' ⟨F1, rho1, d, m1, x1, r1, rr, hp1⟩ => ?_)
  exact hp1.here r1 ((x1.rde r re).set rr i hsl)
/-- name = [..], by what the list comprehension's reading asks -/
theorem set_lc {i : Nat} (hsl : ∀ s, G.sl = some s → s.i ≠ i) {D : Ends} {σ : L2.St} {H : Hp} {E : E} {T : TE} (hT : ∀ {Q : VK}, tI G W (RD1 G) (ev g E) σ H Q → T σ H Q) (h : tS G W (evS g xn (.set i E)) D σ H) : tAsg T (gName i) D σ H := by
  obtain ⟨F, rho, m, e, r, re, hp⟩ := h
  rw [evS] at hp
  refine hT (tI.mk r re ((PostS.go (R1 := RD1 G) r re hp).imp fun v H' ⟨F1, rho1, d, m1, x1, r1, rr, hp1⟩ => ?_))
  exact hp1.here r1 ((x1.rde r re).set rr i hsl)
theorem ss_unp {tg : Expr} {is : List Nat} (hK : X.K = G.K) (hcs : g.cur.isNone = true → G.sl = none) (hg : PG X tg (gOf X.K (.many is))) (ha : SE X G W g ea a) (hs : swapsWithSole [tg] ea pos.line X.env = pure false) (hw : swappedStores [tg] ea X.env = pure none) (h1 : (assignEach [tg] X.env).map (·.2) = [assign tg X.env]) :
    SS X G W g xn (.Assign [tg] ea pos) (.unp is a) := by
  refine (ps_asg ha hg hs hw h1).imp fun D σ H h => ?_
  obtain ⟨F, rho, m, e, r, re, hp⟩ := h
  rw [evS] at hp
  by_cases hcur : g.cur.isNone = true
  rotate_left
  · rw [if_neg hcur] at hp
    exact hp.elim
  rw [if_pos hcur] at hp
  refine tI.mk r re ((PostS.go (R1 := RD1 G) r re hp).imp fun v H' ⟨F1, rho1, d, m1, x1, r1, rr, hp1⟩ => ?_)
  dsimp only at hp1
  cases hb : bindT (.many is) d e with
  | none => rw [hb] at hp1; exact hp1.elim
  | some e1 =>
    rw [hb] at hp1
    exact bindT_ok hK (hcs hcur) r1 rr (x1.rde r re) hb fun σ' re' _ _ => hp1.here r1 re'
theorem ss_par {i j : Nat} (hcs : g.cur.isNone = true → G.sl = none) {x y : Str} {px py pt pt2 : Pos} {kt k2 : Nat} (hc : X.calm = true) (hN : X.N.Nodup) (hi : X.N[i]? = some x) (hj : X.N[j]? = some y) (hij : i ≠ j) (hx : X.env.scope.names.lookup x = some .local) (hy : X.env.scope.names.lookup y = some .local)
    (ha : SE X G W g ea a) (hb : SE X G W g eb b) (hna : notStar ea = true) (hnb : notStar eb = true) (hw : swappedStores [.Tuple [.Name x px, .Name y py] kt pt] (.Tuple [ea, eb] k2 pt2) X.env = pure (some [x, y])) (hs : swapsWithSole [.Tuple [.Name x px, .Name y py] kt pt] (.Tuple [ea, eb] k2 pt2) pos.line X.env = pure false) :
    SS X G W g xn (.Assign [.Tuple [.Name x px, .Name y py] kt pt] (.Tuple [ea, eb] k2 pt2) pos) (.par i j a b) := by
  refine (ps_par hc hN hi hj hij hx hy (sa_one ha (sa_one hb sa_nil hnb) hna) hw hs).imp fun D σ H h => ?_
  obtain ⟨F, rho, m, e, r, re, hp⟩ := h
  rw [evS] at hp
  by_cases hcur : g.cur.isNone = true
  rotate_left
  · rw [if_neg hcur] at hp
    exact hp.elim
  rw [if_pos hcur] at hp
  refine tI.mk r re ?_
  rw [evs]
  cases h1 : ev g a e m with
  | no => rw [h1] at hp; exact hp.elim
  | ex y m1 =>
    rw [h1] at hp
    exact fun c dd H' F' rho' x' r' rx => hp c dd σ H' F' rho' x' r' (x'.rde r re) rx
  | ok d1 m1 =>
    rw [h1] at hp
    simp only [Res.bind_ok, Res.go_ok] at hp ⊢
    rw [evs]
    cases h2 : ev g b e m1 with
    | no => rw [h2] at hp; exact hp.elim
    | ex y m2 =>
      rw [h2] at hp
      exact fun c dd H' F' rho' x' r' rx => hp c dd σ H' F' rho' x' r' (x'.rde r re) rx
    | ok d2 m2 =>
      rw [h2] at hp
      simp only [Res.bind_ok, Res.go_ok] at hp ⊢
      rw [evs]
      simp only [Res.bind_ok]
      intro vs H' F' rho' x' r' rd
      obtain ⟨v, w, rfl, q1, q2⟩ := two_of rd
      exact ⟨v, w, rfl, hp _ _ _ _ x' r' (((x'.rde r re).set q1 i (noSl (hcs hcur))).set q2 j (noSl (hcs hcur)))⟩
theorem ss_ret (ha : SE X G W g ea a) : SS X G W g xn (.Return (some ea) pos) (.ret a) := by
  refine (ps_ret ha).imp fun D σ H h => ?_
  obtain ⟨F, rho, m, e, r, re, hp⟩ := h
  rw [evS] at hp
  refine tI.mk r re ((PostS.go (R1 := RD1 G) r re hp).imp fun v H' ⟨F1, rho1, d, m1, x1, r1, rr, hp1⟩ => ?_)
  exact hp1 _ _ _ _ (Ext.refl _ _ _) r1 rr
theorem ss_ret0 : SS X G W g xn (.Return none pos) .ret0 := by
  refine ps_retN.imp fun D σ H h => ?_
  obtain ⟨F, rho, m, e, r, re, hp⟩ := h
  rw [evS] at hp
  exact hp _ _ _ _ (Ext.refl _ _ _) r .non
theorem ss_pass : SS X G W g xn (.Pass pos) .pass := by
  refine ps_pass.imp fun D σ H h => ?_
  obtain ⟨F, rho, m, e, r, re, hp⟩ := h
  rw [evS] at hp
  exact hp.here r re
theorem ss_brk : SS X G W g xn (.Break pos) .brk := by
  refine ps_break.imp fun D σ H h => ?_
  obtain ⟨F, rho, m, e, r, re, hp⟩ := h
  rw [evS] at hp
  exact hp _ _ _ _ (Ext.refl _ _ _) r re
theorem ss_cnt : SS X G W g xn (.Continue pos) .cnt := by
  refine ps_continue.imp fun D σ H h => ?_
  obtain ⟨F, rho, m, e, r, re, hp⟩ := h
  rw [evS] at hp
  exact hp _ _ _ _ (Ext.refl _ _ _) r re
theorem sss_nil : SSs X G W g xn [] .nil := by
  refine pss_nil.imp fun D σ H h => ?_
  obtain ⟨F, rho, m, e, r, re, hp⟩ := h
  rw [evSs] at hp
  exact hp.here r re
theorem sss_cons {st : Stmt} {rest : List Stmt} {s : S} {ss : Ss} (h1 : SS X G W g xn st s) (h2 : SSs X G W g xn rest ss) : SSs X G W g xn (st :: rest) (.cons s ss) := by
  refine (pss_cons h1 h2).imp fun D σ H h => ?_
  obtain ⟨F, rho, m, e, r, re, hp⟩ := h
  rw [evSs] at hp
  refine tS.mk r re ?_
  cases hs : evS g xn s e m with
  | nx e1 m1 =>
    rw [hs] at hp
    intro σ' H' F' rho' x' r' re'
    exact tS.mk r' re' (PostS.ext hp x')
  | bk e1 m1 => rw [hs] at hp; exact hp
  | ct e1 m1 => rw [hs] at hp; exact hp
  | rt d m1 => rw [hs] at hp; exact hp
  | ex y e1 m1 => rw [hs] at hp; exact hp
  | no => rw [hs] at hp; exact hp.elim
theorem ss_if {t u : List Stmt} {st su : Ss} (hc : ST X G W g ec c) (ht : SSs X G W g xn t st) (hu : SSs X G W g xn u su) : SS X G W g xn (.If ec t u pos) (.ifs c st su) := by
  refine (ps_if hc ht hu).imp fun D σ H h => ?_
  obtain ⟨F, rho, m, e, r, re, hp⟩ := h
  rw [evS] at hp
  refine tI.mk r re ((PostS.go (R1 := REq) r re hp).imp fun v H' ⟨F1, rho1, d, m1, x1, r1, rr, hp1⟩ => ?_)
  cases rr
  cases v with
  | true => exact iteT (tS.mk r1 (x1.rde r re) hp1)
  | false => exact iteF (tS.mk r1 (x1.rde r re) hp1)
theorem ss_app {p cpos : Pos} (ho : SE X G W g eo o) (ha : SE X G W g ea a) (hn : notStar ea = true) (hbase : attributeBase eo "append" X.env (eval eo X.env) = eval eo X.env) (hline : (p.endLine == cpos.line) = true) :
    SS X G W g xn (.Expr (.Call (.Attribute eo "append" p) [ea] [] cpos) pos) (.app o a) := by
  have pe := pe_bm (cpos := cpos) (apos := p) PySem.F.plainAttrs_list PySem.F.slot_list_append PySem.F.type_list_append mt_append ho (sa_one ha sa_nil hn) hbase (by rw [sta1 hn]; rfl) hline (starEach_of hn) rfl
  refine (ps_expr pe rfl).imp fun D σ H h => ?_
  obtain ⟨F, rho, m, e, r, re, hp⟩ := h
  rw [evS] at hp
  refine tI.mk r re ((PostS.go (R1 := RD1 G) r re hp).imp fun v H' ⟨F1, rho1, d, m1, x1, r1, rr, hp1⟩ => ?_)
  have re1 := x1.rde r re
  cases d with
  | ref n =>
    dsimp only at hp1
    cases rr with
    | @ref _ p h1 =>
      obtain ⟨hl, hp2⟩ := PostS.ite hp1
      refine ⟨?_, ?_⟩
      · cases h2 : m1[n]? with
        | none => rw [h2] at hl; cases hl
        | some cc =>
          rw [h2] at hl
          cases cc with
          | lst xs =>
            obtain ⟨vs, e1, e2⟩ := r1.cel n p _ h1 h2
            exact .inl ⟨rfl, _, SqL.of e1⟩
          | _ => cases hl
      · refine tI.mk r1 re1 ?_
        rw [evs]
        have key := PostS.go (R1 := RD1 G) r1 re1 hp2
        cases hv : ev g a e m1 with
        | no => rw [hv] at key; exact key.elim
        | ex y m2 => rw [hv] at key; exact key
        | ok d2 m2 =>
          rw [hv] at key
          simp only [Res.bind_ok]
          rw [evs]
          simp only [Res.bind_ok]
          intro vs H2 F2 rho2 x2 r2 rd
          obtain ⟨w, rfl, rw'⟩ := one_of rd
          obtain ⟨F3, rho3, d3, m3, x3, r3, rr3, hp3⟩ := key w H2 F2 rho2 x2 r2 rw'
          have h1' := x3.beg n p h1
          cases h2 : m3[n]? with
          | none => rw [h2] at hp3; exact hp3.elim
          | some cc =>
            cases cc with
            | lst xs =>
              rw [h2] at hp3
              obtain ⟨hlt, hp4⟩ := PostS.ite hp3
              obtain ⟨us, e1, e2⟩ := r3.cel n p _ h1' h2
              refine ⟨p, us, w, rfl, rfl, e1, by rw [← e2.length]; exact of_decide_eq_true hlt, ?_⟩
              obtain ⟨r4, x4⟩ := r3.write (o := .lst (us ++ [w])) (c' := .lst (xs ++ [d3])) h1' h2 (fun z => nomatch z) ⟨_, upd_same, e2.append (.cons rr3 .nil)⟩
              exact hp4 _ _ _ _ x4 r4 (x4.rde r3 (x3.rde r1 re1))
            | _ => rw [h2] at hp3; exact hp3.elim
  | _ => exact hp1.elim
theorem ss_fld {f : String} {p : Pos} (hK : X.K = G.K) (hf : AttF G f) (ho : SE X G W g eo o) (ha : SE X G W g ea a) (hs : swapsWith ea (some (.Attribute eo (Str.ofString f) p)) pos.line X.env = pure false) :
    SS X G W g xn (.Assign [.Attribute eo (Str.ofString f) p] ea pos) (.fld o f a) := by
  refine (ps_fld ho ha hs).imp fun D σ H h => ?_
  obtain ⟨F, rho, m, e, r, re, hp⟩ := h
  rw [evS] at hp
  refine tI.mk r re ((PostS.go (R1 := RD1 G) r re hp).imp fun v H' ⟨F1, rho1, d, m1, x1, r1, rr, hp1⟩ => ?_)
  refine tI.mk r1 (x1.rde r re) ((PostS.go (R1 := RD1 G) r1 (x1.rde r re) hp1).imp fun w H2 ⟨F2, rho2, d2, m2, x2, r2, rr2, hp2⟩ => ?_)
  cases d2 with
  | ref n =>
    dsimp only at hp2
    cases rr2 with
    | @ref _ p h1 =>
      cases h2 : m2[n]? with
      | none => rw [h2] at hp2; exact hp2.elim
      | some cc =>
        cases cc with
        | ins c fs =>
          rw [h2] at hp2
          obtain ⟨hlt, hp3⟩ := PostS.ite hp2
          obtain ⟨C, dx, fvs, e0, e1, e2⟩ := r2.cel n p _ h1 h2
          have hl : fvs.length = fs.length := by
            have : ∀ {fs : List (String × IP.D)} {vs : List (Str × V)}, RDf G rho2 F2 fs vs → vs.length = fs.length := by
              intro fs
              induction fs with
              | nil => intro vs h; cases h; rfl
              | cons x fs ih => intro vs h; cases h with | cons _ t => exact congrArg Nat.succ (ih t)
            exact this e2
          obtain ⟨g1, g2⟩ := hf c C e0
          refine ⟨p, C, dx, fvs, rfl, e1, hK ▸ g1, hK ▸ g2, by rw [hl]; exact of_decide_eq_true hlt, ?_⟩
          obtain ⟨r3, x3⟩ := r2.write (o := .ins C dx (putF (Str.ofString f) v fvs)) (c' := .ins c (putD f d fs)) h1 h2 (fun z => nomatch z) ⟨C, dx, _, e0, upd_same, putF_rd (x2.rd r1 rr) e2⟩
          exact hp3 _ _ _ _ x3 r3 (x3.rde r2 (x2.rde r1 (x1.rde r re)))
        | _ => rw [h2] at hp2; exact hp2.elim
  | _ => exact hp2.elim
theorem keyT_rd {G : GC} {rho : List Addr} {H : Hp} {d : D} {v : V} {k : List Key} (e : keyT d = some k) (h : RD G rho H d v) : ∃ b, v = .ref b ∧ H b = some (.tup (k.map kV)) := by
  cases d with
  | tup xs =>
    cases xs with
    | nil => simp only [keyT] at e; cases e
    | cons x xs =>
      have e : (x :: xs).mapM keyD = some k := e
      cases h with
      | @tup a vs _ h1 h2 => exact ⟨a, rfl, by rw [← keyL_rd e h2]; exact h1⟩
  | _ => simp only [keyT] at e; cases e
theorem any_rdk {G : GC} {rho : List Addr} {F : Hp} {k : Key} : ∀ {kvs : List (D × D)} {ks : List (Key × V)}, RDk G rho F kvs ks → (kvs.any fun p => decide (keyD p.1 = some k)) = ks.any fun kv => decide (kv.1 = k)
  | _, _, .nil => rfl
  | _, _, .cons h _ t => by rw [List.any_cons, List.any_cons, any_rdk t, h]; simp
theorem any_rdt {G : GC} {rho : List Addr} {F : Hp} {k : List Key} : ∀ {kvs : List (D × D)} {ks : List (List Key × V)}, RDt G rho F kvs ks → (kvs.any fun p => decide (keyT p.1 = some k)) = ks.any fun kv => decide (kv.1 = k)
  | _, _, .nil => rfl
  | _, _, .cons h _ t => by rw [List.any_cons, List.any_cons, any_rdt t, h]; simp
theorem map_rdk {G : GC} {rho : List Addr} {F : Hp} {k : Key} {d : D} {v : V} (hd : RD G rho F d v) : ∀ {kvs : List (D × D)} {ks : List (Key × V)}, RDk G rho F kvs ks → RDk G rho F (kvs.map fun p => if keyD p.1 = some k then (p.1, d) else p) (ks.map fun kv => if kv.1 = k then (kv.1, v) else kv)
  | _, _, .nil => .nil
  | (x, y) :: _, (k', w) :: _, .cons h h2 t => by
    rw [List.map_cons, List.map_cons]
    by_cases q : k' = k
    · rw [if_pos (by rw [h, q]), if_pos q]
      exact .cons h hd (map_rdk hd t)
    · rw [if_neg (by rw [h]; simpa using q), if_neg q]
      exact .cons h h2 (map_rdk hd t)
theorem map_rdt {G : GC} {rho : List Addr} {F : Hp} {k : List Key} {d : D} {v : V} (hd : RD G rho F d v) : ∀ {kvs : List (D × D)} {ks : List (List Key × V)}, RDt G rho F kvs ks → RDt G rho F (kvs.map fun p => if keyT p.1 = some k then (p.1, d) else p) (ks.map fun kv => if kv.1 = k then (kv.1, v) else kv)
  | _, _, .nil => .nil
  | (x, y) :: _, (k', w) :: _, .cons h h2 t => by
    rw [List.map_cons, List.map_cons]
    by_cases q : k' = k
    · rw [if_pos (by rw [h, q]), if_pos q]
      exact .cons h hd (map_rdt hd t)
    · rw [if_neg (by rw [h]; simpa using q), if_neg q]
      exact .cons h h2 (map_rdt hd t)
theorem app_rdk {G : GC} {rho : List Addr} {F : Hp} {k : Key} {x d : D} {v : V} (hx : keyD x = some k) (hd : RD G rho F d v) : ∀ {kvs : List (D × D)} {ks : List (Key × V)}, RDk G rho F kvs ks → RDk G rho F (kvs ++ [(x, d)]) (ks ++ [(k, v)])
  | _, _, .nil => .cons hx hd .nil
  | _, _, .cons h h2 t => .cons h h2 (app_rdk hx hd t)
theorem app_rdt {G : GC} {rho : List Addr} {F : Hp} {k : List Key} {x d : D} {v : V} (hx : keyT x = some k) (hd : RD G rho F d v) : ∀ {kvs : List (D × D)} {ks : List (List Key × V)}, RDt G rho F kvs ks → RDt G rho F (kvs ++ [(x, d)]) (ks ++ [(k, v)])
  | _, _, .nil => .cons hx hd .nil
  | _, _, .cons h h2 t => .cons h h2 (app_rdt hx hd t)
theorem rdk_len {G : GC} {rho : List Addr} {F : Hp} : ∀ {kvs : List (D × D)} {ks : List (Key × V)}, RDk G rho F kvs ks → kvs.length = ks.length
  | _, _, .nil => rfl
  | _, _, .cons _ _ t => congrArg (· + 1) (rdk_len t)
theorem rdt_len {G : GC} {rho : List Addr} {F : Hp} : ∀ {kvs : List (D × D)} {ks : List (List Key × V)}, RDt G rho F kvs ks → kvs.length = ks.length
  | _, _, .nil => rfl
  | _, _, .cons _ _ t => congrArg (· + 1) (rdt_len t)
/-- o[i] = v of a list or a dict -/
def rSetA : TSet := fun o i v H Q => rSetL o i v H Q ∨ rSetD o i v H Q
theorem set_any {X : Cx} (hu : X.A.units + 1 < cLine) : PSet X rSetA := by
  intro pins s σ H o i v ov iv u Q I ro ri rv h
  rcases h with h | h
  · exact set_list pins s σ H o i v ov iv u Q I ro ri rv h
  · exact set_dict hu pins s σ H o i v ov iv u Q I ro ri rv h
theorem ss_clr {p cpos : Pos} (ho : SE X G W g eo o) (hbase : attributeBase eo "clear" X.env (eval eo X.env) = eval eo X.env) (hline : (p.endLine == cpos.line) = true) :
    SS X G W g xn (.Expr (.Call (.Attribute eo "clear" p) [] [] cpos) pos) (.clr o) := by
  have pe := pe_bm0 (cpos := cpos) (apos := p) PySem.F.plainAttrs_list PySem.F.slot_list_clear PySem.F.type_list_clear mt_clear ho hbase hline
  refine (ps_expr pe rfl).imp fun D σ H h => ?_
  obtain ⟨F, rho, m, e, r, re, hp⟩ := h
  rw [evS] at hp
  refine tI.mk r re ((PostS.go (R1 := RD1 G) r re hp).imp fun v H' ⟨F1, rho1, d, m1, x1, r1, rr, hp1⟩ => ?_)
  cases d with
  | ref n =>
    dsimp only at hp1
    cases rr with
    | @ref _ p h1 =>
      cases h2 : m1[n]? with
      | none => rw [h2] at hp1; exact hp1.elim
      | some cc =>
        rw [h2] at hp1
        cases cc with
        | lst xs =>
          obtain ⟨vs, e1, e2⟩ := r1.cel n p _ h1 h2
          refine ⟨.inl ⟨rfl, _, SqL.of e1⟩, p, vs, rfl, rfl, e1, ?_⟩
          obtain ⟨r2, x2⟩ := r1.write (o := .lst []) (c' := .lst []) h1 h2 (fun z => nomatch z) ⟨[], upd_same, .nil⟩
          exact hp1 _ _ _ _ x2 r2 (x2.rde r1 (x1.rde r re))
        | _ => exact hp1.elim
  | _ => exact hp1.elim
theorem ss_sub {p : Pos} (hu : X.A.units + 1 < cLine) (ho : SE X G W g eo o) (hb : SE X G W g eb b) (ha : SE X G W g ea a) (has : ∀ v, assign (.Subscript eo eb p) X.env v = (do
      let ov ← holding [v] (eval eo X.env)
      let iv ← holding [v, ov] (eval eb X.env)
      standAt p
      holding [v, ov, iv] (setItem ov iv v)
      release [v, ov, iv] [])) (hs : swapsWithSole [.Subscript eo eb p] ea pos.line X.env = pure false) (hw : swappedStores [.Subscript eo eb p] ea X.env = pure none) (h1 : (assignEach [.Subscript eo eb p] X.env).map (·.2) = [assign (.Subscript eo eb p) X.env]) :
    SS X G W g xn (.Assign [.Subscript eo eb p] ea pos) (.sub o b a) := by
  refine (ps_asg ha (pg_sub ho hb (set_any hu) has) hs hw h1).imp fun D σ H h => ?_
  obtain ⟨F, rho, m, e, r, re, hp⟩ := h
  rw [evS] at hp
  refine tI.mk r re ((PostS.go (R1 := RD1 G) r re hp).imp fun v H' ⟨F1, rho1, d, m1, x1, r1, rr, hp1⟩ => ?_)
  refine tI.mk r1 (x1.rde r re) ((PostS.go (R1 := RD1 G) r1 (x1.rde r re) hp1).imp fun w H2 ⟨F2, rho2, d2, m2, x2, r2, rr2, hp2⟩ => ?_)
  have re2 := x2.rde r1 (x1.rde r re)
  refine tI.mk r2 re2 ((PostS.go (R1 := RD1 G) r2 re2 hp2).imp fun w' H3 ⟨F3, rho3, d3, m3, x3, r3, rr3, hp3⟩ => ?_)
  cases d2 with
  | ref n =>
    dsimp only at hp3
    cases rr2 with
    | @ref _ p h1 =>
      have h1' := x3.beg n p h1
      cases h2 : m3[n]? with
      | none => rw [h2] at hp3; exact hp3.elim
      | some cc =>
        cases cc with
        | dic q kvs =>
          rw [h2] at hp3
          have hp3 : PostS G W F3 H3 rho3 (if decide (kvs.length < sizeLine) then (match putP q kvs d3 d with
            | some kvs' => .nx e (m3.set n (.dic q kvs'))
            | none => .no) else .no) D := hp3
          obtain ⟨hz, hp4⟩ := PostS.ite hp3
          have hz := of_decide_eq_true hz
          cases hq : putP q kvs d3 d with
          | none => rw [hq] at hp4; exact hp4.elim
          | some kvs' =>
            rw [hq] at hp4
            have hd := x3.rd r2 (x2.rd r1 rr)
            cases q with
            | k =>
              obtain ⟨ks, e1, e2⟩ := r3.cel n p _ h1' h2
              cases hk : keyD d3 with
              | none => rw [putP, hk] at hq; cases hq
              | some kk =>
                rw [putP, hk] at hq
                have hq := Option.some.inj hq
                have h5 := keyD_rd hk rr3
                subst h5
                have hlen : ks.length < sizeLine := by rw [← rdk_len e2]; exact hz
                refine .inr ⟨p, _, rfl, DPut.k e1 hlen, ?_⟩
                obtain ⟨r4, x4⟩ := r3.write (o := .dK (putK ks kk v)) (c' := .dic .k kvs') h1' h2 (fun z => nomatch z) ⟨_, upd_same, by
                  subst hq
                  unfold putK
                  dsimp only
                  rw [any_rdk e2]
                  split
                  · exact map_rdk hd e2
                  · exact app_rdk hk hd e2⟩
                exact hp4 _ _ _ _ x4 r4 (x4.rde r3 (x3.rde r2 re2))
            | t =>
              obtain ⟨ks, e1, e2⟩ := r3.cel n p _ h1' h2
              cases hk : keyT d3 with
              | none => rw [putP, hk] at hq; cases hq
              | some kk =>
                rw [putP, hk] at hq
                have hq := Option.some.inj hq
                obtain ⟨b, h5, h6⟩ := keyT_rd hk rr3
                subst h5
                have hlen : ks.length < sizeLine := by rw [← rdt_len e2]; exact hz
                refine .inr ⟨p, _, rfl, DPut.t e1 (r3.sub.get h6 rfl) hlen, ?_⟩
                obtain ⟨r4, x4⟩ := r3.write (o := .dT (putK ks kk v)) (c' := .dic .t kvs') h1' h2 (fun z => nomatch z) ⟨_, upd_same, by
                  subst hq
                  unfold putK
                  dsimp only
                  rw [any_rdt e2]
                  split
                  · exact map_rdt hd e2
                  · exact app_rdt hk hd e2⟩
                exact hp4 _ _ _ _ x4 r4 (x4.rde r3 (x3.rde r2 re2))
        | lst xs =>
          cases d3 with
          | int k =>
            rw [h2] at hp3
            dsimp only at hp3
            cases hj : ixN xs.length k with
            | none => rw [hj] at hp3; exact hp3.elim
            | some j =>
              rw [hj] at hp3
              obtain ⟨vs, e1, e2⟩ := r3.cel n p _ h1' h2
              cases rr3
              refine .inl ⟨p, vs, k, j, rfl, rfl, e1, by rw [← e2.length]; exact hj, ?_⟩
              obtain ⟨r4, x4⟩ := r3.write (o := .lst (vs.set j v)) (c' := .lst (xs.set j d)) h1' h2 (fun z => nomatch z) ⟨_, upd_same, e2.set (x3.rd r2 (x2.rd r1 rr)) j⟩
              exact hp3 _ _ _ _ x4 r4 (x4.rde r3 (x3.rde r2 re2))
          | _ => rw [h2] at hp3; exact hp3.elim
        | _ => rw [h2] at hp3; first | exact hp3.elim | (cases d3 <;> exact hp3.elim)
  | _ => exact hp3.elim
end
end IP

/-! IpM -/
set_option Elab.async false
set_option linter.all false
set_option maxRecDepth 100000
set_option maxHeartbeats 4000000
/-! IpM: loops. -/
namespace IP
open PySem L2 PyProof.Rows
section
variable {X : Cx} {G : GC} {W : WX} {g : Gl} {xn : String → Option (List String)} {c : E} {ec tge ite : Expr} {pos : Pos}
theorem forW_ok {w : Wl} {f : IP.D → Ev → Mem → Rs} {ds : List IP.D} {e : Ev} {m : Mem} {F H : Hp} {rho : List Addr} {D : Ends} (h : PostS G W F H rho (forW w f ds e m) D) : w.ok m := by
  refine Classical.byContradiction fun q => ?_
  cases ds with
  | nil => rw [forW, Wl.gd_neg q] at h; exact h.elim
  | cons d ds => rw [forW, Wl.gd_neg q] at h; exact h.elim
theorem ss_for {tg : Tg} {it : It} {body : List Stmt} {b : Ss} (B : Base X G W g) (hp : PassesOwn (model X.prog X.w) X.A X.env X.xe) (hg : PG X tge (gOf X.K tg)) (hi : SW X G W g tge ite it) (hb : SSs X G W g xn body b) (hs : ∀ x, foldedSetIterable ite X.env x = pure x) :
    SS X G W g xn (.For tge ite body [] pos) (.for_ tg it b) := by
  by_cases hcur : g.cur.isNone = true
  rotate_left
  · refine ⟨fun pins s σ H D I h => ?_⟩
    obtain ⟨F, rho, m, e, r, re, hp⟩ := h
    rw [evS, if_neg hcur] at hp
    exact hp.elim
  have hsl := B.slc hcur
  refine (ps_for hp (B.calm (by simpa using hcur)) hi hg hb hs).imp fun D σ H h => ?_
  obtain ⟨F, rho, m, e, r, re, hp⟩ := h
  rw [evS, if_pos hcur] at hp
  refine ⟨F, rho, m, e, r, re, ?_⟩
  cases hit : evIt g it e m with
  | no => rw [hit] at hp; exact hp.elim
  | ex x m1 =>
    rw [hit] at hp
    exact fun c dd H' F' rho' x' r' rx => hp c dd σ H' F' rho' x' r' (x'.rde r re) rx
  | ok w m1 =>
    rw [hit] at hp
    simp only [Res.go_ok] at hp
    intro J H1 F1 rho1 x1 r1 wk
    have hp1 := PostS.ext hp x1
    have re1 := x1.rde r re
    generalize hf : (fun (d : IP.D) (e1 : Ev) (m2 : Mem) => match bindT tg d e1 with
      | some e2 => evSs g xn b e2 m2
      | none => Rs.no) = f at hp1
    let Pv : Nat → L2.St → Hp → Prop := fun i σ H => ∃ F2 rho2 m2 e2, Ext F1 H1 rho1 F2 H rho2 ∧ RelM G F2 H rho2 m2 ∧ RelE G F2 rho2 e2 σ ∧ PostS G W F2 H rho2 (forW w f (w.xs.drop i) e2 m2) D
    refine ⟨fun i m σ H => m = w.xs.length - i ∧ i ≤ w.xs.length ∧ Pv i σ H, ⟨w.xs.length, by simp, Nat.zero_le _, F1, rho1, m1, e, Ext.refl _ _ _, r1, re1, by rw [List.drop_zero]; exact hp1⟩, ?_⟩
    rintro i _ σ2 H2 ⟨rfl, hi, F2, rho2, m2, e2, x2, r2, re2, hp2⟩
    by_cases hlt : i < w.xs.length
    rotate_left
    · have hin : i = w.xs.length := by omega
      subst hin
      have hok := forW_ok hp2
      rw [List.drop_length, forW, Wl.gd_pos hok] at hp2
      exact .inl ⟨wk.stop (x2.onw r1) r2 hok, hp2.here r2 re2⟩
    have hok := forW_ok hp2
    refine .inr ⟨wk.go (x2.onw r1) r2 hok hlt, Pv (i + 1), fun σ' H' p' => ⟨w.xs.length - (i + 1), by omega, rfl, hlt, p'⟩, fun x H' y => ?_⟩
    obtain ⟨F3, d, x3, r3, ed, rd⟩ := wk.yld (x2.onw r1) r2 hok hlt y
    rw [drop_some ed, forW, Wl.gd_pos hok] at hp2
    have re3 := x3.rde r2 re2
    have hp3 := PostS.ext hp2 x3
    have x13 := x2.trans x3
    rw [← hf] at hp3
    dsimp only at hp3
    cases hbt : bindT tg d e2 with
    | none => rw [hbt] at hp3; exact hp3.elim
    | some e3 =>
      rw [hbt] at hp3
      refine bindT_ok B.hK hsl r3 rd re3 hbt fun σ' re4 _ _ => tS.mk r3 re4 ?_
      dsimp only at hp3
      rw [hf] at hp3
      cases hev : evSs g xn b e3 m2 with
      | nx e4 m4 =>
        rw [hev] at hp3
        exact fun σ'' H'' F'' rho'' x' r' re' => ⟨F'', rho'', m4, e4, x13.trans x', r', re', PostS.ext hp3 x'⟩
      | ct e4 m4 =>
        rw [hev] at hp3
        exact fun σ'' H'' F'' rho'' x' r' re' => ⟨F'', rho'', m4, e4, x13.trans x', r', re', PostS.ext hp3 x'⟩
      | bk e4 m4 => rw [hev] at hp3; exact hp3
      | rt d m4 => rw [hev] at hp3; exact hp3
      | ex y e4 m4 => rw [hev] at hp3; exact hp3
      | no => rw [hev] at hp3; exact hp3.elim
theorem whL_some {cf : Ev → Mem → Res Bool} {f : Ev → Mem → Rs} {e : Ev} {m : Mem} {F H : Hp} {rho : List Addr} {D : Ends} (h : PostS G W F H rho (whL cf f e m) D) : ∃ n r, whN cf f n e m = some r ∧ PostS G W F H rho r D := by
  unfold whL at h
  by_cases hx : ∃ n r, whN cf f n e m = some r
  · rw [dif_pos hx] at h
    exact ⟨_, _, (Classical.choose_spec hx).choose_spec, h⟩
  · rw [dif_neg hx] at h
    exact h.elim
theorem ss_while {body : List Stmt} {b : Ss} (hp : PassesOwn (model X.prog X.w) X.A X.env X.xe) (hc : ST X G W g ec c) (hb : SSs X G W g xn body b) : SS X G W g xn (.While ec body [] pos) (.wh c b) := by
  refine (ps_while hp hc hb).imp fun D σ H h => ?_
  obtain ⟨F, rho, m, e, r, re, hp⟩ := h
  rw [evS] at hp
  obtain ⟨n, rs, h1, h2⟩ := whL_some hp
  refine ⟨fun k σ H => ∃ F rho m e rs, RelM G F H rho m ∧ RelE G F rho e σ ∧ whN (evT g c) (evSs g xn b) k e m = some rs ∧ PostS G W F H rho rs D, ⟨n, F, rho, m, e, rs, r, re, h1, h2⟩, ?_⟩
  rintro k σ1 H1 ⟨F1, rho1, m1, e1, rs1, r1, re1, w1, q1⟩
  cases k with
  | zero => cases w1
  | succ k =>
    rw [whN] at w1
    refine ⟨F1, rho1, m1, e1, r1, re1, ?_⟩
    cases hc1 : evT g c e1 m1 with
    | no =>
      rw [hc1] at w1
      cases w1
      exact q1.elim
    | ex x m2 =>
      rw [hc1] at w1
      cases w1
      exact fun c dd H' F' rho' x' r' rx => q1 c dd σ1 H' F' rho' x' r' (x'.rde r1 re1) rx
    | ok t m2 =>
      rw [hc1] at w1
      intro t' H2 F2 rho2 x2 r2 et
      cases et
      have re2 := x2.rde r1 re1
      cases t with
      | false =>
        cases w1
        refine iteF ?_
        exact q1 _ _ _ _ x2 r2 re2
      | true =>
        refine iteT ⟨fun σ H => ∃ F rho m e rs, RelM G F H rho m ∧ RelE G F rho e σ ∧ whN (evT g c) (evSs g xn b) k e m = some rs ∧ PostS G W F H rho rs D, fun σ' H' p => ⟨k, Nat.lt_succ_self k, p⟩, tS.mk r2 re2 ?_⟩
        have q2 := PostS.ext q1 x2
        dsimp only at w1
        cases hev : evSs g xn b e1 m2 with
        | nx e4 m4 =>
          rw [hev] at w1
          exact fun σ'' H'' F'' rho'' x' r' re' => ⟨F'', rho'', m4, e4, _, r', re', w1, PostS.ext q2 x'⟩
        | ct e4 m4 =>
          rw [hev] at w1
          exact fun σ'' H'' F'' rho'' x' r' re' => ⟨F'', rho'', m4, e4, _, r', re', w1, PostS.ext q2 x'⟩
        | bk e4 m4 => rw [hev] at w1; cases w1; exact q2
        | rt d m4 => rw [hev] at w1; cases w1; exact q2
        | ex y e4 m4 => rw [hev] at w1; cases w1; exact q2
        | no => rw [hev] at w1; cases w1; exact q2.elim
end
end IP

/-! IpN -/
set_option Elab.async false
set_option linter.all false
set_option maxRecDepth 100000
set_option maxHeartbeats 4000000
/-! IpN: exceptions. -/
namespace IP
open PySem L2 PyProof.Rows

/-! ### the handled exception's slot makes no difference to data -/
abbrev GC.at_ (G : GC) (s : Option Sl) : GC := { G with sl := s }
mutual
theorem RD.gc {G G' : GC} {rho : List Addr} {H : Hp} (hK : G.K = G'.K) (ho : G.own = G'.own) : ∀ (d : D) (v : V), RD G rho H d v → RD G' rho H d v
  | .non, _, h => by cases h; exact .non
  | .bl _, _, h => by cases h; exact .bl _
  | .int _, _, h => by cases h; exact .int _
  | .str _, _, h => by cases h; exact .str _
  | .lst xs, _, h => by
    cases h with
    | lst h1 h2 => exact .lst h1 (RDs.gc hK ho xs _ h2)
  | .scr xs, _, h => by
    cases h with
    | scr h1 h2 => exact .scr h1 (RDs.gc hK ho xs _ h2)
    | scrK h1 h2 => exact .scrK (hK ▸ h1) (RDs.gc hK ho xs _ h2)
  | .tup xs, _, h => by
    cases h with
    | tup h1 h2 => exact .tup h1 (RDs.gc hK ho xs _ h2)
    | tupK h1 => exact .tupK (hK ▸ h1)
  | .dic q xs, _, h => by
    cases h with
    | dicK h1 h2 => exact .dicK h1 (RDk.gc hK ho xs _ h2)
    | dicT h1 h2 => exact .dicT h1 (RDt.gc hK ho xs _ h2)
  | .ins c fs, _, h => by
    cases h with
    | ins h1 h2 h3 => exact .ins (ho ▸ h1) h2 (RDf.gc hK ho fs _ h3)
  | .cls c, _, h => by
    cases h with
    | cls h => exact .cls (ho ▸ h)
  | .ref n, _, h => by
    cases h with
    | ref h => exact .ref h
theorem RDs.gc {G G' : GC} {rho : List Addr} {H : Hp} (hK : G.K = G'.K) (ho : G.own = G'.own) : ∀ (ds : List D) (vs : List V), RDs G rho H ds vs → RDs G' rho H ds vs
  | [], _, h => by cases h; exact .nil
  | d :: ds, _, h => by
    cases h with
    | cons h1 h2 => exact .cons (RD.gc hK ho d _ h1) (RDs.gc hK ho ds _ h2)
theorem RDf.gc {G G' : GC} {rho : List Addr} {H : Hp} (hK : G.K = G'.K) (ho : G.own = G'.own) : ∀ (ds : List (String × D)) (vs : List (Str × V)), RDf G rho H ds vs → RDf G' rho H ds vs
  | [], _, h => by cases h; exact .nil
  | (f, d) :: ds, _, h => by
    cases h with
    | cons h1 h2 => exact .cons (RD.gc hK ho d _ h1) (RDf.gc hK ho ds _ h2)
theorem RDk.gc {G G' : GC} {rho : List Addr} {H : Hp} (hK : G.K = G'.K) (ho : G.own = G'.own) : ∀ (ds : List (D × D)) (vs : List (Key × V)), RDk G rho H ds vs → RDk G' rho H ds vs
  | [], _, h => by cases h; exact .nil
  | (x, d) :: ds, _, h => by
    cases h with
    | cons h0 h1 h2 => exact .cons h0 (RD.gc hK ho d _ h1) (RDk.gc hK ho ds _ h2)
theorem RDt.gc {G G' : GC} {rho : List Addr} {H : Hp} (hK : G.K = G'.K) (ho : G.own = G'.own) : ∀ (ds : List (D × D)) (vs : List (List Key × V)), RDt G rho H ds vs → RDt G' rho H ds vs
  | [], _, h => by cases h; exact .nil
  | (x, d) :: ds, _, h => by
    cases h with
    | cons h0 h1 h2 => exact .cons h0 (RD.gc hK ho d _ h1) (RDt.gc hK ho ds _ h2)
end
section
variable {G G' : GC} {F H : Hp} {rho : List Addr} {m : Mem} {e : Ev} {σ : L2.St}
theorem Cel.gc (hK : G.K = G'.K) (ho : G.own = G'.own) {a : Addr} {c : MO} (h : Cel G rho F H a c) : Cel G' rho F H a c := by
  cases c with
  | lst xs =>
    obtain ⟨vs, e1, e2⟩ := h
    exact ⟨vs, e1, RDs.gc hK ho _ _ e2⟩
  | dic q kvs =>
    cases q with
    | k =>
      obtain ⟨vs, e1, e2⟩ := h
      exact ⟨vs, e1, RDk.gc hK ho _ _ e2⟩
    | t =>
      obtain ⟨vs, e1, e2⟩ := h
      exact ⟨vs, e1, RDt.gc hK ho _ _ e2⟩
  | ins c fs =>
    obtain ⟨C, dx, fvs, e0, e1, e2⟩ := h
    exact ⟨C, dx, fvs, ho ▸ e0, e1, RDf.gc hK ho _ _ e2⟩
  | dead => exact h
theorem RelM.gc (hK : G.K = G'.K) (ho : G.own = G'.own) (r : RelM G F H rho m) : RelM G' F H rho m := ⟨r.sub, r.len, r.nd, fun n a c h1 h2 => (r.cel n a c h1 h2).gc hK ho, r.off⟩
/-- the slot is forgotten -/
theorem RelE.gc (hK : G.K = G'.K) (ho : G.own = G'.own) (hs : G'.sl = none) (r : RelE G F rho e σ) : RelE G' F rho e σ := ⟨r.1, fun i d q => by
  obtain ⟨v, e1, e2⟩ := r.2.1 i d q
  exact ⟨v, e1, RD.gc hK ho _ _ e2⟩, SlOk.non hs⟩
end

/-! ### several clauses, with and without names -/
abbrev TsX := Addr → Value → Option Addr → TS
def endsX (i : Nat) (D : Ends) : Ends := { nx := fun σ' H' => D.nx (σ'.set i none) H', rt := D.rt, bk := fun σ' H' => D.bk (σ'.set i none) H', ct := fun σ' H' => D.ct (σ'.set i none) H' }
def wMix (K : PySem.W.Frag) (Wout : WX) (D : Ends) : List (Value × Option Nat × TsX) → WX
  | [] => Wout
  | (c, o, ts) :: r => fun cls d σ H => ∃ b, PySem.W.exmOne K cls c = some b ∧ (b = true → ∀ a, H a = none → match o with
      | none => ts a cls d D σ H
      | some i => ts a cls d (endsX i D) (σ.set i (some (.ref a))) H) ∧ (b = false → wMix K Wout D r cls d σ H)
inductive HdsM (X : Cx) : List ExceptHandler → List (Value × Option Nat × TsX) → Prop
  | nil : HdsM X [] []
  | bare {x : Str} {c : Value} {ts : TsX} {b₀ : Stmt} {suite : List Stmt} {np pos' : Pos} {hds : List ExceptHandler} {l : List (Value × Option Nat × TsX)} (hc : Names X x c)
      (hsu : ∀ (a : Addr) (oe : Obj) (cls : Value) (d : Option Addr) (pn : List (Addr × Obj)), Zc cls d oe → (∃ vs, oe.data = .fields vs) → PSs (X.suite a ((a, oe) :: pn)) (b₀ :: suite) (ts a cls d)) (r : HdsM X hds l) :
      HdsM X (.ExceptHandler (some (.Name x np)) none (b₀ :: suite) pos' :: hds) ((c, none, ts) :: l)
  | as_ {x n : Str} {i : Nat} {c : Value} {ts : TsX} {b₀ : Stmt} {suite : List Stmt} {np pos' : Pos} {hds : List ExceptHandler} {l : List (Value × Option Nat × TsX)} (hc : Names X x c) (hi : X.N[i]? = some n) (hl : X.env.kindOf n = some .local)
      (hsu : ∀ (a : Addr) (oe : Obj) (cls : Value) (d : Option Addr) (pn : List (Addr × Obj)), Zc cls d oe → (∃ vs, oe.data = .fields vs) → PSs (X.suite a ((a, oe) :: pn)) (b₀ :: suite) (ts a cls d)) (r : HdsM X hds l) :
      HdsM X (.ExceptHandler (some (.Name x np)) (some n) (b₀ :: suite) pos' :: hds) ((c, some i, ts) :: l)
section
variable {X : Cx} {body : List Stmt} {h₀ : ExceptHandler} {hds : List ExceptHandler} {l : List (Value × Option Nat × TsX)} {pos : Pos} {tb : WX → TS} {Wout : WX}
theorem ps_try_mix (hs : X.stack = X.env :: X.outer) (hf : X.env.frame = some X.env.locals) (hN : X.N.Nodup) (tk : Takes X Wout)
    (hb : ∀ (W : WX) (pn : List (Addr × Obj)) (xe : Value → Shared → Prop), Takes (X.tr pn xe) W → PassesOwn (model X.prog X.w) X.A X.env xe → PSs (X.tr pn xe) body (tb W))
    (hh : HdsM X (h₀ :: hds) l) : PS X (.Try body (h₀ :: hds) [] [] pos) (fun D σ H => tb (wMix X.K Wout D l) D σ H) := by
  refine ⟨fun pins s σ H D I h => ?_⟩
  have ok := I.ok
  have hfr : X.A.frames = some (X.env :: X.outer) := by rw [ok.frames, hs]
  refine wpAny_Try_except ?_
  refine wpAny_mono ((hb (wMix X.K Wout D l) (X.pn ++ pins) (fun e s₁ => wpAny (model X.prog X.w) X.A (noteFrame e X.env) (fun _ s₂ => wpAny (model X.prog X.w) X.A (setFlight e none) (fun _ s₃ =>
    wpAny (model X.prog X.w) X.A (handleBy e X.env (h₀ :: hds)) (SP X pins D) X.xe s₃) X.xe s₂) X.xe s₁) (fun u s' xx => ?_) PassesOwn.looking).run [] s σ H D (I.toTry _) h) (fun f s1 hsp => ?_) (fun e s1 he => he)
  · -- the catch
    obtain ⟨a, B, sI, pins', σ', H', cls, d, rfl, J', nb, up, sky, na, os, ag, w⟩ := xx
    have J : Inv X pins σ' H' sI := J'.ofTry ok
    have sky' : Sky B (X.env :: X.outer) a (Zc cls d) X.env.locals s'.heap := by rw [← hs]; exact sky
    show wpAny (model X.prog X.w) X.A (noteFrame (.ref a) X.env) _ _ _
    refine Sky.land Zc.steady hfr hf sky' fun h3 fl3 up3 => ?_
    have J3 : Inv X pins σ' H' { s' with heap := h3 } := J.landed nb fl3.1 (up.trans up3) os ag
    obtain ⟨oe3, vs3, he3, hz3, hd3⟩ := fl3.there
    have notFr : ∀ {h : Heap} {o : Obj} {vs : Array Value}, h.FunFrames B (X.env :: X.outer) → h.get? a = some o → o.data = .fields vs → a ∉ frs (X.env :: X.outer) := fun {h o vs} ff e dd hm => by
      obtain ⟨_, o', e', hnf⟩ := ff.mem hm
      rw [e] at e'; cases e'
      exact hnf _ dd
    have nfr := notFr fl3.2.2.1 he3 hd3
    have nL : a ≠ X.env.locals := fun z => nfr (List.mem_filterMap.mpr ⟨X.env, List.mem_cons_self, by rw [hf, z]⟩)
    have nF : a ∉ X.fs := fun hm => by
      obtain ⟨e, he, q⟩ := List.mem_filterMap.mp hm
      exact nfr (List.mem_filterMap.mpr ⟨e, List.mem_cons_of_mem _ he, q⟩)
    have S3 := J3.suite he3 hd3 na nL nF
    have LT : PySem.W.Looks (model X.prog X.w) h3 (typeOf (.ref a)) cls := fun A Q E s k q => wpAny_typeOf_ref (k _ _ he3) (by rw [hz3.1]; exact q)
    have test : ∀ {x : Str} {c : Value} {np : Pos} {Q : Value → Shared → Prop} {E : Value → Shared → Prop}, Names X x c → Q c { s' with heap := h3 } → wpAny (model X.prog X.w) (X.A.mark (some (.ref a))) (eval (.Name x np) X.env) Q E { s' with heap := h3 } := fun {x c np Q E} hc q => by
      obtain ⟨hg, hdbg, hm | ⟨hm, hv, hnn⟩⟩ := hc
      · exact ld_glob (X := X.suite a ((a, oe3) :: (X.pn ++ pins))) S3 hg hm q hdbg
      · exact ld_blt (X := X.suite a ((a, oe3) :: (X.pn ++ pins))) S3 hg hm hv q hnn hdbg
    have go : ∀ {hds' : List ExceptHandler} {l' : List (Value × Option Nat × TsX)}, HdsM X hds' l' → wMix X.K Wout D l' cls d σ' H' →
        wpAny (model X.prog X.w) X.A (handleBy (.ref a) X.env hds') (SP X pins D) X.xe { s' with heap := h3 } := by
      intro hds' l' hk
      induction hk with
      | nil =>
        intro w
        refine wpAny_handleBy_nil ?_
        obtain ⟨k1, k2, k3, oe, vs, T, oT, ts', he, hz, hd, h1, hr⟩ := id fl3
        unfold PySem.passOn
        refine wpAny_bind (wpAny_field he hd h1 ?_)
        rw [if_neg (show ¬ ((Value.ref T == Value.none) = true) from by simp)]
        have fin : wpAny (model X.prog X.w) X.A (setFlight (.ref a) X.env.frame) (fun _ s4 => wpAny (model X.prog X.w) X.A (throw (.ref a) : Sem Flow) (SP X pins D) X.xe s4) X.xe { s' with heap := h3 } := by
          rw [hf]
          refine HandSPX.setFlight_upZ fl3 fun h4 hh4 up4 => wpAny_throw (tk _ _ ?_)
          exact ⟨a, B, sI, pins, σ', H', cls, d, rfl, J, nb, (up.trans up3).trans up4, .inr (.inr (by rw [hs]; exact hh4)), na, os, ag, w⟩
        first
          | exact wpAny_bind (wpAny_pure (wpAny_bind fin))
          | exact wpAny_bind fin
      | @bare x c ts b₀ suite np pos' hds2 l2 hc hsu r ih =>
        intro w
        obtain ⟨b, hb1, hyes, hno⟩ := w
        refine wpAny_handleBy_cons (codeAny_handlers_test ?_) (by intro q; cases q)
        have LM := PySem.W.exm_one (M := model X.prog X.w) (J3.kIn) LT hb1
        refine test hc (LM.here ?_)
        cases b with
        | true =>
          refine codeAny_handlers_suite ?_
          refine HandSPX.lands_againZ fl3 fun h4 fl4 up4 => ?_
          have J4 : Inv X pins σ' H' { s' with heap := h4 } := J.landed nb fl4.1 ((up.trans up3).trans up4) os ag
          obtain ⟨oe4, vs4, he4, hz4, hd4⟩ := fl4.there
          have S4 := J4.suite he4 hd4 na nL nF
          refine wpAny_mono ((hsu a oe4 cls d (X.pn ++ pins) hz4 ⟨_, hd4⟩).run [] _ _ H' _ S4 (hyes rfl a na)) (fun f s6 hsp => ?_) (fun _ _ z => False.elim z)
          cases f with
          | next =>
            obtain ⟨σ6, H6, S6, q6⟩ := hsp
            exact ⟨_, _, S6.unsuite ok, q6⟩
          | brk =>
            obtain ⟨σ6, H6, S6, q6⟩ := hsp
            exact ⟨_, _, S6.unsuite ok, q6⟩
          | cont =>
            obtain ⟨σ6, H6, S6, q6⟩ := hsp
            exact ⟨_, _, S6.unsuite ok, q6⟩
          | ret u =>
            obtain ⟨v6, σ6, H6, S6, r6, q6⟩ := hsp
            exact ⟨_, _, _, S6.unsuite ok, r6, q6⟩
        | false =>
          show wpAny _ X.A (handleBy (.ref a) X.env hds2) _ _ _
          exact ih (hno rfl)
      | @as_ x n i c ts b₀ suite np pos' hds2 l2 hc hi hln hsu r ih =>
        intro w
        obtain ⟨b, hb1, hyes, hno⟩ := w
        refine wpAny_handleBy_cons (codeAny_handlers_test ?_) (by intro q; cases q)
        have LM := PySem.W.exm_one (M := model X.prog X.w) (J3.kIn) LT hb1
        have hloc : Loc X.env.scope n := .inl hln
        refine test hc (LM.here ?_)
        cases b with
        | true =>
          refine codeAny_handlers_suite_as ?_
          refine HandSPX.lands_againZ fl3 fun h4 fl4 up4 => ?_
          have J4 : Inv X pins σ' H' { s' with heap := h4 } := J.landed nb fl4.1 ((up.trans up3).trans up4) os ag
          obtain ⟨oe4, vs4, he4, hz4, hd4⟩ := fl4.there
          have S4 := J4.suite he4 hd4 na nL nF
          refine store_ok (X := X.suite a ((a, oe4) :: (X.pn ++ pins))) (v := .ref a) S4 hN hi hloc rfl (fun s5 S5 => ?_) (.inr hln)
          refine wpAny_mono ((hsu a oe4 cls d (X.pn ++ pins) hz4 ⟨_, hd4⟩).run [] s5 _ H' _ S5 (hyes rfl a na)) (fun f s6 hsp => ?_) (fun _ _ z => False.elim z)
          have end_ : ∀ {σ6 : L2.St} {H6 : Hp} {Q : Shared → Prop}, Inv (X.suite a ((a, oe4) :: (X.pn ++ pins))) [] σ6 H6 s6 → (∀ s7, Inv X pins (σ6.set i none) H6 s7 → Q s7) →
              wpAny (model X.prog X.w) X.A (do bindName X.env n .none; unbindBehindTheSuite X.env n pos') (fun _ s7 => Q s7) X.xe s6 := fun {σ6 H6 Q} S6 hq => gone_ok (S6.unsuite ok) hN hi hln hq
          cases f with
          | next =>
            obtain ⟨σ6, H6, S6, q6⟩ := hsp
            exact end_ S6 fun s7 J7 => ⟨_, _, J7, q6⟩
          | brk =>
            obtain ⟨σ6, H6, S6, q6⟩ := hsp
            exact end_ S6 fun s7 J7 => ⟨_, _, J7, q6⟩
          | cont =>
            obtain ⟨σ6, H6, S6, q6⟩ := hsp
            exact end_ S6 fun s7 J7 => ⟨_, _, J7, q6⟩
          | ret u =>
            obtain ⟨v6, σ6, H6, S6, r6, q6⟩ := hsp
            exact end_ S6 fun s7 J7 => ⟨_, _, _, J7, r6, q6⟩
        | false =>
          show wpAny _ X.A (handleBy (.ref a) X.env hds2) _ _ _
          exact ih (hno rfl)
    exact go hh w
  · cases f with
    | next =>
      obtain ⟨σ', H', J', q⟩ := hsp
      exact wpAny_execs_nil ⟨σ', H', J'.ofTry ok, q⟩
    | brk =>
      obtain ⟨σ', H', J', q⟩ := hsp
      exact ⟨σ', H', J'.ofTry ok, q⟩
    | cont =>
      obtain ⟨σ', H', J', q⟩ := hsp
      exact ⟨σ', H', J'.ofTry ok, q⟩
    | ret u =>
      obtain ⟨v, σ', H', J', r, q⟩ := hsp
      exact ⟨v, σ', H', J'.ofTry ok, r, q⟩
end
end IP

/-! IpO -/
set_option Elab.async false
set_option linter.all false
set_option maxRecDepth 100000
set_option maxHeartbeats 4000000
/-! IpO: try, raise. -/
namespace IP
open PySem L2 PyProof.Rows
/-- what is true of the exception classes of the text -/
structure FactsX (G : GC) (xn : String → Option (List String)) : Prop where
  xf : ∀ {c : String} {C : Addr}, G.exa c = some C → XfC G.K C
  no : ∀ {c : String} {C : Addr} {ns : List String} {f : String}, G.exa c = some C → xn c = some ns → f ∈ ns → PySem.W.findIn G.K (.ref C) (Str.ofString f) = some none
/-- the suite's slot -/
def slOf (o : Option Nat) (a : Addr) (x : Exc) (dd : Option Addr) : Option Sl := o.map fun i => ⟨i, a, x, dd⟩
def XOf (G : GC) (xn : String → Option (List String)) (x : Exc) (cls : Value) : Prop := ∃ C ns, G.exa x.cls = some C ∧ cls = .ref C ∧ xn x.cls = some ns ∧ x.fs.map (·.1) = ns
def tsOf (G : GC) (g : Gl) (xn : String → Option (List String)) (o : Option Nat) (b : Ss) : TsX := fun a cls dd D σ H =>
  ∃ x, XOf G xn x cls ∧ tS (G.at_ (slOf o a x dd)) WF (evSs (g.hot x) xn b) D σ H
inductive HR (X : Cx) (G : GC) (g : Gl) (xn : String → Option (List String)) : List ExceptHandler → Hs → List (Value × Option Nat × TsX) → Prop
  | nil : HR X G g xn [] .nil []
  | cons {h : ExceptHandler} {hds : List ExceptHandler} {c : String} {cv : Value} {o : Option Nat} {b : Ss} {r : Hs} {l : List (Value × Option Nat × TsX)} (hx : ∀ {cls : String} {C : Addr}, G.exa cls = some C → PySem.W.exmOne X.K (.ref C) cv = some (isX cls c)) (t : HR X G g xn hds r l) :
      HR X G g xn (h :: hds) (.cons c o b r) ((cv, o, tsOf G g xn o b) :: l)
section
variable {X : Cx} {G : GC} {W : WX} {g : Gl} {xn : String → Option (List String)}
theorem RD.un {s : Option Sl} {rho : List Addr} {F : Hp} {d : D} {v : V} (h : RD (G.at_ s) rho F d v) : RD G rho F d v := RD.gc (G := G.at_ s) (G' := G) rfl rfl d v h
theorem RD.to_ {s : Option Sl} {rho : List Addr} {F : Hp} {d : D} {v : V} (h : RD G rho F d v) : RD (G.at_ s) rho F d v := RD.gc (G := G) (G' := G.at_ s) rfl rfl d v h
theorem RelM.un {s : Option Sl} {rho : List Addr} {F H : Hp} {m : Mem} (h : RelM (G.at_ s) F H rho m) : RelM G F H rho m := RelM.gc (G := G.at_ s) (G' := G) rfl rfl h
theorem RelM.to_ {s : Option Sl} {rho : List Addr} {F H : Hp} {m : Mem} (h : RelM G F H rho m) : RelM (G.at_ s) F H rho m := RelM.gc (G := G) (G' := G.at_ s) rfl rfl h
theorem RelE.un {s : Option Sl} {rho : List Addr} {F : Hp} {e : Ev} {σ : L2.St} (hsl : G.sl = none) (h : RelE (G.at_ s) F rho e σ) : RelE G F rho e σ := RelE.gc (G := G.at_ s) (G' := G) rfl rfl hsl h
theorem unb_ok {i : Nat} {F H : Hp} {rho : List Addr} {D : Ends} {r : Rs} {s : Sl} (hsl : G.sl = none) (h : PostS G W F H rho (unb (some i) r) D) : PostS (G.at_ (some s)) WF F H rho r (endsX i D) := by
  cases r with
  | nx e1 m1 => exact fun σ' H' F' rho' x' r' e' => h (σ'.set i none) H' F' rho' x' r'.un ((e'.un hsl).clr i none (noSl hsl))
  | bk e1 m1 => exact fun σ' H' F' rho' x' r' e' => h (σ'.set i none) H' F' rho' x' r'.un ((e'.un hsl).clr i none (noSl hsl))
  | ct e1 m1 => exact fun σ' H' F' rho' x' r' e' => h (σ'.set i none) H' F' rho' x' r'.un ((e'.un hsl).clr i none (noSl hsl))
  | rt d m1 => exact fun v H' F' rho' x' r' d' => h v H' F' rho' x' r'.un d'.un
  | ex x e m => exact h.elim
  | no => exact h
theorem unb_ok0 {F H : Hp} {rho : List Addr} {D : Ends} {r : Rs} (hsl : G.sl = none) (h : PostS G W F H rho (unb none r) D) : PostS (G.at_ none) WF F H rho r D := by
  cases r with
  | nx e1 m1 => exact fun σ' H' F' rho' x' r' e' => h σ' H' F' rho' x' r'.un (e'.un hsl)
  | bk e1 m1 => exact fun σ' H' F' rho' x' r' e' => h σ' H' F' rho' x' r'.un (e'.un hsl)
  | ct e1 m1 => exact fun σ' H' F' rho' x' r' e' => h σ' H' F' rho' x' r'.un (e'.un hsl)
  | rt d m1 => exact fun v H' F' rho' x' r' d' => h v H' F' rho' x' r'.un d'.un
  | ex x e m => exact h.elim
  | no => exact h
theorem evH_cons {cn : String} {o : Option Nat} {b : Ss} {r : Hs} {x : Exc} {e : Ev} {m : Mem} : evH g xn (.cons cn o b r) x e m = if isX x.cls cn then (match o with
      | none => unb none (evSs (g.hot x) xn b e m)
      | some i => if i < e.length then unb (some i) (evSs (g.hot x) xn b (e.set i none) m) else .no)
    else evH g xn r x e m := by
  cases o <;> rw [evH]
theorem wmix_ok (hsl : G.sl = none) {D : Ends} {hds : List ExceptHandler} {hs : Hs} {l : List (Value × Option Nat × TsX)} {F H : Hp} {rho : List Addr} {m : Mem} {e : Ev} {σ : L2.St} {x : Exc} {c : Value} {dd : Option Addr} (hr : HR X G g xn hds hs l)
    (hX : XOf G xn x c) (r : RelM G F H rho m) (re : RelE G F rho e σ) (rx : RX G F H rho x c dd) (hp : PostS G W F H rho (evH g xn hs x e m) D) : wMix X.K W D l c dd σ H := by
  induction hr with
  | nil =>
    rw [evH] at hp
    exact hp c dd σ H F rho (Ext.refl _ _ _) r re rx
  | @cons h hds cn cv o b r' l' hx t ih =>
    rw [evH_cons] at hp
    obtain ⟨C, ns, h1, h2, h3⟩ := id hX
    subst h2
    refine ⟨isX x.cls cn, hx h1, fun hb a ha => ?_, fun hb => ?_⟩
    · rw [if_pos hb] at hp
      cases o with
      | none =>
        refine ⟨x, hX, F, rho, m, e, r.to_, ⟨re.1, fun i d q => ?_, SlOk.non rfl⟩, unb_ok0 hsl hp⟩
        obtain ⟨v, e1, e2⟩ := re.2.1 i d q
        exact ⟨v, e1, e2.to_⟩
      | some i =>
        obtain ⟨hlt, hp2⟩ := PostS.ite hp
        refine ⟨x, hX, F, rho, m, e.set i none, r.to_, ?_, unb_ok hsl hp2⟩
        have re1 := re.clr i (some (.ref a)) (noSl hsl)
        refine ⟨re1.1, fun i d q => ?_, fun s hs => ?_⟩
        · obtain ⟨v, e1, e2⟩ := re1.2.1 i d q
          exact ⟨v, e1, e2.to_⟩
        · have hs' : (⟨i, a, x, dd⟩ : Sl) = s := Option.some.inj hs
          subst hs'
          refine ⟨List.getElem?_set_self (by rw [← re.1]; exact hlt), ?_⟩
          obtain ⟨_, _, _, q | ⟨d, fvs, q1, q2, q3⟩⟩ := rx
          · exact .inl q.1
          · exact .inr ⟨d, fvs, q1, q2, RDf.gc (G := G) (G' := G.at_ (slOf (some i) a x dd)) rfl rfl _ _ q3⟩
    · rw [if_neg (by rw [hb]; exact Bool.false_ne_true)] at hp
      exact ih hp
theorem ss_try {body : List Stmt} {b : Ss} {h₀ : ExceptHandler} {hds : List ExceptHandler} {hs : Hs} {l : List (Value × Option Nat × TsX)} {pos : Pos} (hsl : g.cur.isNone = true → G.sl = none) (hst : X.stack = X.env :: X.outer) (hf : X.env.frame = some X.env.locals) (hN : X.N.Nodup) (tk : Takes X W)
    (hb : ∀ (W : WX) (pn : List (Addr × Obj)) (xe : Value → Shared → Prop), Takes (X.tr pn xe) W → PassesOwn (model X.prog X.w) X.A X.env xe → SSs (X.tr pn xe) G W g xn body b)
    (hr : HR X G g xn (h₀ :: hds) hs l) (hm : HdsM X (h₀ :: hds) l) : SS X G W g xn (.Try body (h₀ :: hds) [] [] pos) (.try_ b hs) := by
  refine (ps_try_mix hst hf hN tk hb hm).imp fun D σ H h => ?_
  obtain ⟨F, rho, m, e, r, re, hp⟩ := h
  rw [evS] at hp
  by_cases hcur : g.cur.isNone = true
  rotate_left
  · rw [if_neg hcur] at hp
    exact hp.elim
  rw [if_pos hcur] at hp
  refine tS.mk r re ?_
  cases hev : evSs g xn b e m with
  | nx e1 m1 => rw [hev] at hp; exact hp
  | bk e1 m1 => rw [hev] at hp; exact hp
  | ct e1 m1 => rw [hev] at hp; exact hp
  | rt d m1 => rw [hev] at hp; exact hp
  | no => rw [hev] at hp; exact hp.elim
  | ex x e1 m1 =>
    rw [hev] at hp
    intro c dd σ' H' F' rho' x' r' re' rx
    obtain ⟨q1, hp2⟩ := PostS.ite hp
    obtain ⟨C, h1, h2, _⟩ := id rx
    exact wmix_ok (hsl hcur) hr ⟨C, _, h1, h2, q1, rfl⟩ r' re' rx (PostS.ext hp2 x')
/-- e.f of the handled exception -/
theorem se_exf {a : Addr} {oe : Obj} {cls : Value} {dd : Option Addr} {pn : List (Addr × Obj)} {x : Exc} {i : Nat} {n : Str} {f : String} {p pos : Pos} (hK : X.K = G.K) (Fx : FactsX G xn) (hN : X.N[i]? = some n) (hl : X.env.kindOf n = some .local) (hd : (n == ("__debug__" : Str)) = false) (hcd : (n == ("__classdict__" : Str)) = false)
    (hX : XOf G xn x cls) (hz : Zc cls dd oe) (hf : ∃ vs, oe.data = .fields vs) : SE (X.suite a ((a, oe) :: pn)) (G.at_ (some ⟨i, a, x, dd⟩)) WF (g.hot x) (.Attribute (.Name n p) (Str.ofString f) pos) (.exf f) := by
  obtain ⟨C, ns, h1, h2, h3, h4⟩ := id hX
  subst h2
  refine ⟨fun pins s σ H Q I h => ?_⟩
  obtain ⟨F, rho, m, e, r, re, hp⟩ := h
  rw [ev] at hp
  have hcur : (g.hot x).cur = some x := rfl
  rw [hcur] at hp
  obtain ⟨d, e1, hp2⟩ := Post.opt (show Post _ WF σ _ F H rho (opt (x.fs.lookup f) m) Q from hp)
  have hin : f ∈ ns := by
    rw [← h4]
    have : ∀ {l : List (String × IP.D)} {d : IP.D}, l.lookup f = some d → f ∈ l.map (·.1) := by
      intro l
      induction l with
      | nil => intro d h; cases h
      | cons q l ih =>
        intro d h
        obtain ⟨k, v⟩ := q
        by_cases hk : f = k
        · rw [hk]
          exact List.mem_cons_self
        · have hk' : (f == k) = false := by simpa using hk
          simp only [List.lookup, hk'] at h
          exact List.mem_cons_of_mem _ (ih h)
    exact this e1
  have he : PE (X.suite a ((a, oe) :: pn)) (.Name n p) (tVar i) := pe_var hN (.inl hl) hd hcd
  refine (pe_xf (hK ▸ Fx.xf h1) (hK ▸ Fx.no h1 h3 hin) hz hf he rfl).run pins s σ H Q I ?_
  obtain ⟨q1, q2⟩ := re.2.2 _ rfl
  rcases q2 with q2 | ⟨d', fvs, q2, q3, q4⟩
  · rw [show x.fs = [] from q2] at e1
    cases e1
  · obtain ⟨y, e2, e3⟩ := RDf.lookup (fun _ _ => ofString_inj) f q4 e1
    exact ⟨_, q1, rfl, rfl, d', fvs, y, q2, r.sub.get q3 rfl, e2, hp2.here r e3⟩
end
end IP

/-! IpP -/
set_option Elab.async false
set_option linter.all false
set_option maxRecDepth 100000
set_option maxHeartbeats 4000000
/-! IpP: what a def promises; its body keeps it. -/
namespace IP
open PySem L2 PyProof.Rows

/-- what a def promises that comes to h -/
def spI (G : GC) (n : Nat) (h : List D → Mem → Res D) : Sp := fun vs H Q E =>
  ∃ (F : Hp) (rho : List Addr) (m : Mem) (ds : List D), RelM G F H rho m ∧ RDs G rho F ds vs ∧ ds.length = n ∧ Post G (fun c d _ H' => E c d H') [] (RD1 G) F H rho (h ds m) Q
theorem spI_len {G : GC} {n : Nat} {h : List D → Mem → Res D} {vs : List V} {H : Hp} {Q : VK} {E : XK} (x : spI G n h vs H Q E) : vs.length = n := by
  obtain ⟨F, rho, m, ds, r, rd, hl, _⟩ := x
  rw [← rd.length]
  exact hl
section
variable {α β : Type} {G : GC} {W W' : WX} {σ σ' : L2.St} {R : Hp → List Addr → α → β → Prop} {F H : Hp} {rho : List Addr} {Q : β → Hp → Prop}
theorem Post.sig {r : Res α} (h : Post G W σ R F H rho r Q) (hw : ∀ c d H, W c d σ H → W' c d σ' H) : Post G W' σ' R F H rho r Q := by
  cases r with
  | ok d m => exact h
  | ex x m => exact fun c dd H' F' rho' x' r' rx => hw _ _ _ (h c dd H' F' rho' x' r' rx)
  | no => exact h
end

/-! ### what a def leaves -/
mutual
theorem RD.lt {G : GC} {rho rho2 : List Addr} {H : Hp} {n : Nat} (hr : ∀ (k : Nat) (a : Addr), k < n → rho[k]? = some a → rho2[k]? = some a) : ∀ (d : D) (v : V), d.und n = true → RD G rho H d v → RD G rho2 H d v
  | .non, _, _, h => by cases h; exact .non
  | .bl _, _, _, h => by cases h; exact .bl _
  | .int _, _, _, h => by cases h; exact .int _
  | .str _, _, _, h => by cases h; exact .str _
  | .lst xs, _, u, h => by
    cases h with
    | lst h1 h2 => exact .lst h1 (RDs.lt hr xs _ (by simpa only [D.und] using u) h2)
  | .scr xs, _, u, h => by
    cases h with
    | scr h1 h2 => exact .scr h1 (RDs.lt hr xs _ (by simpa only [D.und] using u) h2)
    | scrK h1 h2 => exact .scrK h1 (RDs.lt hr xs _ (by simpa only [D.und] using u) h2)
  | .tup xs, _, u, h => by
    cases h with
    | tup h1 h2 => exact .tup h1 (RDs.lt hr xs _ (by simpa only [D.und] using u) h2)
    | tupK h1 => exact .tupK h1
  | .dic q xs, _, u, h => by
    cases h with
    | dicK h1 h2 => exact .dicK h1 (RDk.lt hr xs _ (by simpa only [D.und] using u) h2)
    | dicT h1 h2 => exact .dicT h1 (RDt.lt hr xs _ (by simpa only [D.und] using u) h2)
  | .ins c fs, _, u, h => by
    cases h with
    | ins h1 h2 h3 => exact .ins h1 h2 (RDf.lt hr fs _ (by simpa only [D.und] using u) h3)
  | .cls c, _, _, h => by
    cases h with
    | cls h => exact .cls h
  | .ref k, _, u, h => by
    cases h with
    | ref h => exact .ref (hr k _ (of_decide_eq_true (by simpa only [D.und] using u)) h)
theorem RDs.lt {G : GC} {rho rho2 : List Addr} {H : Hp} {n : Nat} (hr : ∀ (k : Nat) (a : Addr), k < n → rho[k]? = some a → rho2[k]? = some a) : ∀ (ds : List D) (vs : List V), D.unds n ds = true → RDs G rho H ds vs → RDs G rho2 H ds vs
  | [], _, _, h => by cases h; exact .nil
  | d :: ds, _, u, h => by
    cases h with
    | cons h1 h2 =>
      simp only [D.unds, Bool.and_eq_true] at u
      exact .cons (RD.lt hr d _ u.1 h1) (RDs.lt hr ds _ u.2 h2)
theorem RDf.lt {G : GC} {rho rho2 : List Addr} {H : Hp} {n : Nat} (hr : ∀ (k : Nat) (a : Addr), k < n → rho[k]? = some a → rho2[k]? = some a) : ∀ (ds : List (String × D)) (vs : List (Str × V)), D.undF n ds = true → RDf G rho H ds vs → RDf G rho2 H ds vs
  | [], _, _, h => by cases h; exact .nil
  | (f, d) :: ds, _, u, h => by
    cases h with
    | cons h1 h2 =>
      simp only [D.undF, Bool.and_eq_true] at u
      exact .cons (RD.lt hr d _ u.1 h1) (RDf.lt hr ds _ u.2 h2)
theorem RDk.lt {G : GC} {rho rho2 : List Addr} {H : Hp} {n : Nat} (hr : ∀ (k : Nat) (a : Addr), k < n → rho[k]? = some a → rho2[k]? = some a) : ∀ (ds : List (D × D)) (vs : List (Key × V)), D.undK n ds = true → RDk G rho H ds vs → RDk G rho2 H ds vs
  | [], _, _, h => by cases h; exact .nil
  | (x, d) :: ds, _, u, h => by
    cases h with
    | cons h0 h1 h2 =>
      simp only [D.undK, Bool.and_eq_true] at u
      exact .cons h0 (RD.lt hr d _ u.2.1 h1) (RDk.lt hr ds _ u.2.2 h2)
theorem RDt.lt {G : GC} {rho rho2 : List Addr} {H : Hp} {n : Nat} (hr : ∀ (k : Nat) (a : Addr), k < n → rho[k]? = some a → rho2[k]? = some a) : ∀ (ds : List (D × D)) (vs : List (List Key × V)), D.undK n ds = true → RDt G rho H ds vs → RDt G rho2 H ds vs
  | [], _, _, h => by cases h; exact .nil
  | (x, d) :: ds, _, u, h => by
    cases h with
    | cons h0 h1 h2 =>
      simp only [D.undK, Bool.and_eq_true] at u
      exact .cons h0 (RD.lt hr d _ u.2.1 h1) (RDt.lt hr ds _ u.2.2 h2)
end
theorem allB_get {n : Nat} : ∀ {m : Mem} {i : Nat} {c : MO}, allB n m = true → m[i]? = some c → c.und n = true
  | [], _, _, _, e => by simp at e
  | c :: r, 0, c', h, e => by
    simp only [allB, Bool.and_eq_true] at h
    simp at e
    rw [← e]
    exact h.1
  | c :: r, i + 1, c', h, e => by
    simp only [allB, Bool.and_eq_true] at h
    exact allB_get h.2 (by simpa using e)
theorem Cel.lt {G : GC} {rho rho2 : List Addr} {F H : Hp} {n : Nat} {a : Addr} {c : MO} (hr : ∀ (k : Nat) (a : Addr), k < n → rho[k]? = some a → rho2[k]? = some a) (u : c.und n = true) (h : Cel G rho F H a c) : Cel G rho2 F H a c := by
  cases c with
  | lst xs =>
    obtain ⟨vs, e1, e2⟩ := h
    exact ⟨vs, e1, RDs.lt hr _ _ u e2⟩
  | dic q kvs =>
    cases q with
    | k =>
      obtain ⟨vs, e1, e2⟩ := h
      exact ⟨vs, e1, RDk.lt hr _ _ u e2⟩
    | t =>
      obtain ⟨vs, e1, e2⟩ := h
      exact ⟨vs, e1, RDt.lt hr _ _ u e2⟩
  | ins c fs =>
    obtain ⟨C, dx, fvs, e0, e1, e2⟩ := h
    exact ⟨C, dx, fvs, e0, e1, RDf.lt hr _ _ u e2⟩
  | dead => exact h
section
variable {G : GC} {F H F' H' : Hp} {rho rho' : List Addr} {m m' : Mem}
theorem beg_take (b : Beg rho rho') (hl : rho.length ≤ rho'.length) : rho'.take rho.length = rho := by
  refine List.ext_getElem? fun i => ?_
  by_cases hi : i < rho.length
  · rw [List.getElem?_take_of_lt hi]
    obtain ⟨a, e⟩ : ∃ a, rho[i]? = some a := ⟨_, List.getElem?_eq_getElem hi⟩
    rw [e, b i a e]
  · rw [List.getElem?_eq_none (by rw [List.length_take]; omega), List.getElem?_eq_none (by omega)]
/-- cells that nobody holds are let go -/
theorem drop_cells (r : RelM G F H rho m) (r' : RelM G F' H' rho' m') (x : Ext F H rho F' H' rho') (hl : m.length ≤ m'.length) (hb : allB m.length (m'.take m.length) = true) :
    RelM G F' H' rho (m'.take m.length) ∧ Ext F H rho F' H' rho ∧ ∀ (k : Nat) (a : Addr), k < m.length → rho'[k]? = some a → rho[k]? = some a := by
  have hl2 : rho.length ≤ rho'.length := by rw [← r.len, ← r'.len]; exact hl
  have et := beg_take x.beg hl2
  have lt : ∀ (k : Nat) (a : Addr), k < m.length → rho'[k]? = some a → rho[k]? = some a := fun k a hk e => by
    rw [← et, List.getElem?_take_of_lt (by rw [← r.len]; exact hk)]
    exact e
  refine ⟨⟨r'.sub, by rw [List.length_take, r.len] <;> (rw [← r.len]; omega), r.nd, fun i a c h1 h2 => ?_, fun i a c h1 h2 h3 => ?_⟩, ⟨x.fr, Beg.refl _, x.keep, fun a h n => absurd h n, x.cl⟩, lt⟩
  · have hi : i < m.length := by
      by_cases hi : i < m.length
      · exact hi
      · rw [List.getElem?_eq_none (by rw [List.length_take]; omega)] at h2
        cases h2
    rw [List.getElem?_take_of_lt hi] at h2
    exact Cel.lt lt (allB_get (i := i) hb (by rw [List.getElem?_take_of_lt hi]; exact h2)) (r'.cel i a c (x.beg i a h1) h2)
  · have hi : i < m.length := by
      by_cases hi : i < m.length
      · exact hi
      · rw [List.getElem?_eq_none (by rw [List.length_take]; omega)] at h2
        cases h2
    rw [List.getElem?_take_of_lt hi] at h2
    exact r'.off i a c (x.beg i a h1) h2 h3
theorem fin_ok {d d2 : D} {v : V} {m2 : Mem} (r : RelM G F H rho m) (r' : RelM G F' H' rho' m') (x : Ext F H rho F' H' rho') (rd : RD G rho' F' d v) (e : fin m.length d m' = (d2, m2)) :
    ∃ rho2, Ext F H rho F' H' rho2 ∧ RelM G F' H' rho2 m2 ∧ RD G rho2 F' d2 v := by
  unfold fin at e
  split at e
  · cases e
    exact ⟨rho', x, r', rd⟩
  · rename_i hl
    have hl' : m.length ≤ m'.length := by omega
    split at e
    · rename_i hb
      cases e
      simp only [Bool.and_eq_true] at hb
      obtain ⟨q1, q2, q3⟩ := drop_cells r r' x hl' hb.2
      exact ⟨rho, q2, q1, RD.lt q3 _ _ hb.1 rd⟩
    · split at e
      · rename_i k _
        cases hc : m'[k]? with
        | none =>
          rw [hc] at e
          cases e
          exact ⟨rho', x, r', rd⟩
        | some c =>
          rw [hc] at e
          dsimp only at e
          split at e
          · rename_i hb
            cases e
            simp only [Bool.and_eq_true, decide_eq_true_eq] at hb
            obtain ⟨hk, hu, hb⟩ := hb
            obtain ⟨q1, q2, q3⟩ := drop_cells r r' x hl' hb
            cases rd with
            | @ref _ a ha =>
              have nin : a ∉ rho := fun hin => by
                obtain ⟨j, hj⟩ := List.getElem?_of_mem hin
                have hj' := x.beg j a hj
                obtain ⟨l1, w1⟩ := List.getElem?_eq_some_iff.mp hj'
                obtain ⟨l2, w2⟩ := List.getElem?_eq_some_iff.mp ha
                have ejk := (List.getElem_inj r'.nd).mp (w1.trans w2.symm)
                obtain ⟨l3, _⟩ := List.getElem?_eq_some_iff.mp hj
                rw [← r.len] at l3
                omega
              have gt : ∀ (j : Nat) (b : Addr), j < m.length → rho'[j]? = some b → (rho ++ [a])[j]? = some b := fun j b h1 h2 => by
                rw [List.getElem?_append_left (by rw [← r.len]; exact h1)]
                exact q3 j b h1 h2
              have lmt : (m'.take m.length).length = rho.length := q1.len
              refine ⟨rho ++ [a], ⟨x.fr, Beg.app _ _, x.keep, fun b hb2 hn => ?_, x.cl⟩, ⟨r'.sub, by rw [List.length_append, List.length_append, q1.len] <;> rfl, ?_, fun i b c' h1 h2 => ?_, fun i b c' h1 h2 h3 => ?_⟩, .ref ?_⟩
              · exact x.new b (by
                  rcases List.mem_append.mp hb2 with z | z
                  · exact absurd z hn
                  · have e : b = a := by simpa using z
                    subst e
                    exact List.mem_of_getElem? ha) hn
              · refine List.nodup_append.mpr ⟨r.nd, by simp, fun b hb2 b' hb' => ?_⟩
                have e : b' = a := by simpa using hb'
                subst e
                exact fun z => nin (z ▸ hb2)
              · by_cases hi : i < rho.length
                · rw [List.getElem?_append_left hi] at h1
                  rw [List.getElem?_append_left (by rw [lmt]; exact hi)] at h2
                  exact (q1.cel i b c' h1 h2).mono (Grow.refl _) (Beg.app _ _) fun _ _ e => e
                · have hi' : rho.length ≤ i := Nat.le_of_not_lt hi
                  rw [List.getElem?_append_right hi'] at h1
                  rw [List.getElem?_append_right (by rw [lmt]; exact hi'), lmt] at h2
                  have hz : i - rho.length = 0 := by
                    cases q : i - rho.length with
                    | zero => rfl
                    | succ k => rw [q] at h1; simp at h1
                  rw [hz] at h1 h2
                  simp at h1 h2
                  subst h1 h2
                  exact Cel.lt gt hu (r'.cel k a c ha hc)
              · by_cases hi : i < rho.length
                · rw [List.getElem?_append_left hi] at h1
                  rw [List.getElem?_append_left (by rw [lmt]; exact hi)] at h2
                  exact q1.off i b c' h1 h2 h3
                · have hi' : rho.length ≤ i := Nat.le_of_not_lt hi
                  rw [List.getElem?_append_right hi'] at h1
                  rw [List.getElem?_append_right (by rw [lmt]; exact hi'), lmt] at h2
                  have hz : i - rho.length = 0 := by
                    cases q : i - rho.length with
                    | zero => rfl
                    | succ k => rw [q] at h1; simp at h1
                  rw [hz] at h1 h2
                  simp at h1 h2
                  subst h1 h2
                  exact r'.off k a c ha hc h3
              · rw [r.len]
                simp
          · cases e
            exact ⟨rho', x, r', rd⟩
      · cases e
        exact ⟨rho', x, r', rd⟩
theorem finX_ok {x : Exc} {c : Value} {dd : Option Addr} (r : RelM G F H rho m) (r' : RelM G F' H' rho' m') (xt : Ext F H rho F' H' rho') (rx : RX G F' H' rho' x c dd) :
    ∃ rho2, Ext F H rho F' H' rho2 ∧ RelM G F' H' rho2 (finX m.length x m') ∧ RX G F' H' rho2 x c dd := by
  unfold finX
  split
  · exact ⟨rho', xt, r', rx⟩
  · rename_i hl
    split
    · rename_i hb
      simp only [Bool.and_eq_true] at hb
      obtain ⟨q1, q2, q3⟩ := drop_cells r r' xt (by omega) hb.2
      refine ⟨rho, q2, q1, ?_⟩
      obtain ⟨C, h1, h2, h3⟩ := rx
      refine ⟨C, h1, h2, ?_⟩
      rcases h3 with h3 | ⟨d, fvs, w1, w2, w3⟩
      · exact .inl h3
      · exact .inr ⟨d, fvs, w1, w2, RDf.lt q3 _ _ hb.1 w3⟩
    · exact ⟨rho', xt, r', rx⟩
end

/-! ### a def -/
def e0 (N : Nat) (ds : List D) : Ev := ds.map some ++ List.replicate (N - ds.length) none
/-- what a def comes to: N its names, n its parameters -/
noncomputable def callD (g : Gl) (xn : String → Option (List String)) (N n : Nat) (b : Ss) (ds : List D) (m : Mem) : Res D :=
  if ds.length = n then (match evSs g xn b (e0 N ds) m with
    | .nx _ m' => .ok (fin m.length .non m').1 (fin m.length .non m').2
    | .rt d m' => .ok (fin m.length d m').1 (fin m.length d m').2
    | .ex x _ m' => .ex x (finX m.length x m')
    | _ => .no) else .no
theorem rel_start {G : GC} {F : Hp} {rho : List Addr} {N : List Str} {ds : List D} {vs : List V} (hsl : G.sl = none) (h : RDs G rho F ds vs) : RelE G F rho (e0 N.length ds) (L2.start N vs) := by
  refine ⟨by unfold e0 L2.start; simp [h.length], fun i d e => ?_, SlOk.non hsl⟩
  unfold e0 at e
  by_cases hi : i < ds.length
  · rw [List.getElem?_append_left (by simpa using hi), List.getElem?_map] at e
    cases q : ds[i]? with
    | none => rw [q] at e; cases e
    | some d' =>
      rw [q] at e
      cases e
      obtain ⟨v, e1, e2⟩ := h.get q
      refine ⟨v, ?_, e2⟩
      unfold L2.start
      rw [List.getElem?_append_left (by rw [List.length_map, ← h.length]; exact hi), List.getElem?_map, e1]
      rfl
  · rw [List.getElem?_append_right (by simpa using hi), List.getElem?_replicate] at e
    split at e <;> cases e
theorem fn_ok {P : Program} {w : World} {K : PySem.W.Frag} {mg : Str → Option Value} {base : Heap} {x qual : Str} {params : Arguments} {body : List Stmt} {scope : Scope} {dvs : List V} {kws : List (Str × V)} {f : Addr} {fd : FuncData} {G : GC} {g : Gl} {xn : String → Option (List String)} {N ps : List Str} {k n : Nat} {b : Ss}
    (F : FunD K x qual params body scope dvs kws f fd) (S : FnScope N ps scope) (hn : ps.length = n) (hsl : G.sl = none)
    (hb : ∀ (cdv : Value) (A : Around) (outer : List Env) (s : Shared) (H : Hp) (E : XK), Room k (A.deeper (envOfC qual scope s.heap.objs.size f cdv)) →
      SSs (cxOf (CX P w) P w K mg base N qual scope f cdv A outer s H E) G (fun c d _ H' => E c d H') g xn body b) :
    FnOk P w K mg base (CX P w) (k + 1) f fd ps (spI G n (callD g xn N.length n b)) := by
  refine F.ok S (fun vs H Q E h => (spI_len h).trans hn.symm) fun cdv A outer s H vs Q E hr h => ⟨_, hb cdv A outer s H E hr, ?_⟩
  obtain ⟨F0, rho, m, ds, r, rd, hl, hp⟩ := h
  refine tS.mk r (rel_start hsl rd) ?_
  unfold callD at hp
  rw [if_pos hl] at hp
  cases hev : evSs g xn b (e0 N.length ds) m with
  | nx e1 m1 =>
    rw [hev] at hp
    intro σ' H' F' rho' x' r' re'
    obtain ⟨rho2, q1, q2, q3⟩ := fin_ok (d := .non) (v := .non) r r' x' .non rfl
    exact hp _ _ _ _ q1 q2 q3
  | rt d m1 =>
    rw [hev] at hp
    intro v H' F' rho' x' r' rd'
    obtain ⟨rho2, q1, q2, q3⟩ := fin_ok r r' x' rd' rfl
    exact hp _ _ _ _ q1 q2 q3
  | ex y e1 m1 =>
    rw [hev] at hp
    intro c dd σ' H' F' rho' x' r' re' rx
    obtain ⟨rho2, q1, q2, q3⟩ := finX_ok r r' x' rx
    exact hp _ _ _ _ _ q1 q2 q3
  | bk e1 m1 => rw [hev] at hp; exact hp.elim
  | ct e1 m1 => rw [hev] at hp; exact hp.elim
  | no => rw [hev] at hp; exact hp.elim
end IP

/-! IpQ -/
set_option Elab.async false
set_option linter.all false
set_option maxRecDepth 100000
set_option maxHeartbeats 4000000
/-! IpQ: calls. -/
namespace IP
open PySem L2 PyProof.Rows

/-- a def that may be called -/
structure Callee (P : Program) (w : World) (K : PySem.W.Frag) (mg : Str → Option Value) (base : Heap) (G : GC) (a : Addr) (fd : FuncData) (ps : List Str) (k : Nat) (h : List D → Mem → Res D) : Prop where
  ok : FnOk P w K mg base (CX P w) k a fd ps (spI G ps.length h)
  kp : PySem.W.keepIn K (.ref a) = true
  ar : ∀ ds m, ds.length ≠ ps.length → h ds m = .no
abbrev CalX (X : Cx) (G : GC) (a : Addr) (fd : FuncData) (ps : List Str) (k : Nat) (h : List D → Mem → Res D) : Prop := Callee X.prog X.w X.K X.mg X.base G a fd ps k h

section
variable {X : Cx} {G : GC} {W : WX} {g : Gl} {c : String} {a : Addr} {fd : FuncData} {ps : List Str} {k : Nat} {h : List D → Mem → Res D}
/-- the call itself -/
theorem cal_run (C : CalX X G a fd ps k h) (hb : Binds X.K fd ps []) (tk : Takes X W) (hr : Room k X.A) {pins : List (Addr × Obj)} {σ : L2.St} {H F : Hp} {rho : List Addr} {m : Mem} {s : Shared} {Q : VK} {us : List Value} {vs : List V} {ds : List D}
    (I : Inv X pins σ H s) (r : Vals vs us) (rm : RelM G F H rho m) (rd : RDs G rho F ds vs) (hp : Post G W σ (RD1 G) F H rho (h ds m) Q) : wpAny (model X.prog X.w) X.A (call (.ref a) us) (EP X pins σ Q) X.xe s := by
  by_cases hl : ds.length = ps.length
  · exact run_fnS C.ok hr hb (passAt tk σ) I r ⟨F, rho, m, ds, rm, rd, hl, hp.sig fun _ _ _ h => h⟩
  · rw [C.ar ds m hl] at hp
    exact hp.elim
variable {ea : Expr} {es : List Expr} {as : Es} {x : Str} {f : String} {pos p : Pos}
theorem arr_nil {α : Type} {vs : List α} : arr [] vs = some vs := rfl
theorem se_call (C : CalX X G a fd ps k (g.call c f)) (hb : Binds X.K fd ps []) (tk : Takes X W) (hr : g.cur.isNone = true → Room k X.A) (hg : L2.Gl X x) (hm : X.mg x = some (.ref a)) (hdb : (x == ("__debug__" : Str)) = false)
    (ha : SA X G W g (ea :: es) as) (he : notStar ea = true) (hpl : (backTo pos (starEach es X.env)).any (·.1) = false) : SE X G W g (.Call (.Name x p) (ea :: es) [] pos) (.call c f as [] []) := by
  refine ⟨fun pins s σ H Q I h => ?_⟩
  obtain ⟨F, rho, m, e, r, re, hp⟩ := h
  rw [ev] at hp
  obtain ⟨hcur, hp⟩ := Post.ite hp
  refine wpAny_Call_Name_kw (ld_glob I hg hm ?_ hdb)
  refine PySem.W.callWith_K (h₀ := X.base) I.ok.mod.kin C.kp (thn (ha.run pos pins s σ H _ I (tI.mk r re (Post.bind (R1 := RDL G) hp))) fun us s1 ⟨vs, H1, I1, r1, F1, rho1, ds, m1, x1, rm1, rr, hp1⟩ => ⟨I1.kIn, ?_⟩) (starEach_of he) hpl
  simp only [List.append_nil, arr_nil] at hp1
  exact cal_run C hb tk (hr hcur) I1 r1 rm1 rr hp1
theorem se_call0 (C : CalX X G a fd ps k (g.call c f)) (hb : Binds X.K fd ps []) (tk : Takes X W) (hr : g.cur.isNone = true → Room k X.A) (hg : L2.Gl X x) (hm : X.mg x = some (.ref a)) (hdb : (x == ("__debug__" : Str)) = false) :
    SE X G W g (.Call (.Name x p) [] [] pos) (.call c f .nil [] []) := by
  refine ⟨fun pins s σ H Q I h => ?_⟩
  obtain ⟨F, rho, m, e, r, re, hp⟩ := h
  rw [ev] at hp
  obtain ⟨hcur, hp⟩ := Post.ite hp
  rw [evs] at hp
  refine wpAny_Call_Name_kw (ld_glob I hg hm ?_ hdb)
  exact PySem.W.callWith_K0 I.kIn C.kp (cal_run (us := []) (vs := []) (ds := []) C hb tk (hr hcur) I .nil r .nil hp)

/-! ### keywords -/
def Es.app : Es → Es → Es
  | .nil, s => s
  | .one e r, s => .one e (r.app s)
  | .star e r, s => .star e (r.app s)
theorem evs_app {e : Ev} {s : Es} : ∀ {a : Es} {m : Mem}, evs g (a.app s) e m = (evs g a e m).bind fun xs m1 => (evs g s e m1).bind fun ys m2 => .ok (xs ++ ys) m2
  | .nil, m => by
    rw [Es.app, evs]
    simp only [Res.bind_ok, List.nil_append]
    cases evs g s e m <;> rfl
  | .one b r, m => by
    rw [Es.app, evs, evs]
    cases ev g b e m with
    | ok x m1 =>
      simp only [Res.bind_ok]
      rw [evs_app]
      cases evs g r e m1 with
      | ok xs m2 =>
        simp only [Res.bind_ok]
        cases evs g s e m2 <;> rfl
      | ex _ _ => rfl
      | no => rfl
    | ex _ _ => rfl
    | no => rfl
  | .star b r, m => by
    rw [Es.app, evs, evs]
    cases ev g b e m with
    | ok x m1 =>
      simp only [Res.bind_ok]
      cases vw m1 x with
      | lst ys =>
        dsimp only
        rw [evs_app]
        cases evs g r e m1 with
        | ok xs m2 =>
          simp only [Res.bind_ok]
          cases evs g s e m2 <;> simp [Res.bind]
        | ex _ _ => rfl
        | no => rfl
      | tup ys =>
        dsimp only
        rw [evs_app]
        cases evs g r e m1 with
        | ok xs m2 =>
          simp only [Res.bind_ok]
          cases evs g s e m2 <;> simp [Res.bind]
        | ex _ _ => rfl
        | no => rfl
      | _ => rfl
    | ex _ _ => rfl
    | no => rfl
abbrev SK (X : Cx) (G : GC) (W : WX) (g : Gl) (kws : List Keyword) (as : Es) : Prop := PK X kws (tI G W (RDL G) (evs g as))
theorem sk_nil : SK X G W g [] .nil := ⟨fun pos pins s σ H Q I h => pk_nil.run pos pins s σ H Q I (by
  obtain ⟨F, rho, m, e, r, re, hp⟩ := h
  rw [evs] at hp
  exact hp.here r .nil)⟩
theorem sk_cons {kws : List Keyword} {a : E} {nm : Option Str} {kpos : Pos} (ha : SE X G W g ea a) (hs : SK X G W g kws as) : SK X G W g (⟨nm, ea, kpos⟩ :: kws) (.one a as) := by
  refine ⟨fun pos pins s σ H Q I h => (pk_cons ha hs).run pos pins s σ H Q I ?_⟩
  obtain ⟨F, rho, m, e, r, re, hp⟩ := h
  rw [evs] at hp
  refine tI.mk r re ((Post.bind (R1 := RD1 G) hp).imp fun v H' ⟨F1, rho1, d, m1, x1, r1, rr, hp1⟩ => ?_)
  refine tI.mk r1 (x1.rde r re) ((Post.bind (R1 := RDL G) hp1).imp fun vs H2 ⟨F2, rho2, ds, m2, x2, r2, rr2, hp2⟩ => ?_)
  exact hp2.here r2 (.cons (x2.rd r1 rr) rr2)
/-- how a call with np positional values and keywords named ks is bound -/
def KPat (K : PySem.W.Frag) (fd : FuncData) (ps : List Str) (np : Nat) (ks : List Str) (ar : List Nat) : Prop :=
  ∀ (s : Shared) (us ws as : List Value), K.In s.heap → us.length = np → ws.length = ks.length → arr ar (us ++ ws) = some as → BindsTo s fd ⟨us, ks.zip ws⟩ (ps.zip as)
theorem mapM_vals {vs : List V} {us : List Value} (h : Vals vs us) : ∀ {ar : List Nat} {vs' : List V}, ar.mapM (fun i => vs[i]?) = some vs' → ∃ us', ar.mapM (fun i => us[i]?) = some us' ∧ Vals vs' us'
  | [], _, e => by
    cases e
    exact ⟨[], rfl, .nil⟩
  | i :: ar, _, e => by
    rw [List.mapM_cons] at e
    cases h1 : vs[i]? with
    | none => rw [h1] at e; cases e
    | some v =>
      cases h2 : ar.mapM (fun i => vs[i]?) with
      | none => rw [h1, h2] at e; cases e
      | some r =>
        rw [h1, h2] at e
        cases e
        obtain ⟨u, e1, e2⟩ := h.get h1
        obtain ⟨us', e3, e4⟩ := mapM_vals h h2
        exact ⟨u :: us', by rw [List.mapM_cons, e1, e3]; rfl, .cons e2 e4⟩
theorem arr_vals {vs vs' : List V} {us : List Value} (h : Vals vs us) {ar : List Nat} (e : arr ar vs = some vs') : ∃ us', arr ar us = some us' ∧ Vals vs' us' := by
  cases ar with
  | nil =>
    cases e
    exact ⟨us, rfl, h⟩
  | cons i ar => exact mapM_vals h e
theorem mapM_rds {rho : List Addr} {F : Hp} {ds : List D} {vs : List V} (h : RDs G rho F ds vs) : ∀ {ar : List Nat} {ds' : List D}, ar.mapM (fun i => ds[i]?) = some ds' → ∃ vs', ar.mapM (fun i => vs[i]?) = some vs' ∧ RDs G rho F ds' vs'
  | [], _, e => by
    cases e
    exact ⟨[], rfl, .nil⟩
  | i :: ar, _, e => by
    rw [List.mapM_cons] at e
    cases h1 : ds[i]? with
    | none => rw [h1] at e; cases e
    | some v =>
      cases h2 : ar.mapM (fun i => ds[i]?) with
      | none => rw [h1, h2] at e; cases e
      | some r =>
        rw [h1, h2] at e
        cases e
        obtain ⟨u, e1, e2⟩ := h.get h1
        obtain ⟨us', e3, e4⟩ := mapM_rds h h2
        exact ⟨u :: us', by rw [List.mapM_cons, e1, e3]; rfl, .cons e2 e4⟩
theorem arr_rds {rho : List Addr} {F : Hp} {ds ds' : List D} {vs : List V} (h : RDs G rho F ds vs) {ar : List Nat} (e : arr ar ds = some ds') : ∃ vs', arr ar vs = some vs' ∧ RDs G rho F ds' vs' := by
  cases ar with
  | nil =>
    cases e
    exact ⟨vs, rfl, h⟩
  | cons i ar => exact mapM_rds h e
theorem se_callK {kws : List Keyword} {as2 : Es} {ks : List Str} {ar : List Nat} {np : Nat} (C : CalX X G a fd ps k (g.call c f)) (hk : KPat X.K fd ps np ks ar) (tk : Takes X W) (hr : g.cur.isNone = true → Room k X.A) (hg : L2.Gl X x) (hm : X.mg x = some (.ref a)) (hdb : (x == ("__debug__" : Str)) = false)
    (hnp : ∀ {e m xs m1}, evs g as e m = .ok xs m1 → xs.length = np) (hnk : ∀ {e m xs m1}, evs g as2 e m = .ok xs m1 → xs.length = ks.length)
    (ha : SA X G W g (ea :: es) as) (hkw : SK X G W g kws as2) (he : notStar ea = true) (hall : (backToKw pos (keywordEach kws X.env)).all (·.1.isSome) = true) (hks : (backToKw pos (keywordEach kws X.env)).filterMap (·.1) = ks)
    (hpl : ((backTo pos (starEach (ea :: es) X.env)).any (·.1) || (backToKw pos (keywordEach kws X.env)).any (·.1.isNone)) = false) : SE X G W g (.Call (.Name x p) (ea :: es) kws pos) (.call c f (as.app as2) ar []) := by
  refine ⟨fun pins s σ H Q I h => ?_⟩
  obtain ⟨F, rho, m, e, r, re, hp⟩ := h
  rw [ev] at hp
  obtain ⟨hcur, hp⟩ := Post.ite hp
  rw [evs_app] at hp
  refine wpAny_Call_Name_kw (ld_glob I hg hm ?_ hdb)
  refine PySem.W.callWith_KW (h₀ := X.base) I.ok.mod.kin C.kp hall (thn (ha.run pos pins s σ H (fun vs H1 => ∃ F1 rho1 ds m1, Ext F H rho F1 H1 rho1 ∧ RelM G F1 H1 rho1 m1 ∧ RDs G rho1 F1 ds vs ∧ ds.length = np ∧ RelE G F1 rho1 e σ ∧ Post G W σ (RD1 G) F1 H1 rho1 (((evs g as2 e m1).bind fun ys m2 => .ok (ds ++ ys) m2).bind fun vs m1 => (match arr ar (vs ++ []) with
      | some as => g.call c f as m1
      | none => .no)) Q) I (tI.mk r re ?_)) fun us s1 ⟨vs, H1, I1, r1, F1, rho1, ds, m1, x1, rm1, rr, hl1, re1, hp1⟩ => ?_) hpl (starEach_of he)
  · cases hv : evs g as e m with
    | no => rw [hv] at hp; exact hp.elim
    | ex y m1 => rw [hv] at hp; exact hp
    | ok xs m1 =>
      rw [hv] at hp
      simp only [Res.bind_ok] at hp
      intro vs H' F' rho' x' r' rd'
      exact ⟨F', rho', xs, m1, x', r', rd', hnp hv, x'.rde r re, hp.ext x'⟩
  · refine thn (hkw.run pos pins s1 σ H1 (fun zs H2 => ∃ F2 rho2 es2 m2, Ext F1 H1 rho1 F2 H2 rho2 ∧ RelM G F2 H2 rho2 m2 ∧ RDs G rho2 F2 es2 zs ∧ es2.length = ks.length ∧ Post G W σ (RD1 G) F2 H2 rho2 (match arr ar (ds ++ es2) with
      | some as => g.call c f as m2
      | none => .no) Q) I1 (tI.mk rm1 re1 ?_)) fun ws s2 ⟨zs, H2, I2, rz, F2, rho2, es2, m2, x2, rm2, rr2, hl2, hp2⟩ => ⟨I2.kIn, ?_⟩
    · cases hv : evs g as2 e m1 with
      | no => rw [hv] at hp1; exact hp1.elim
      | ex y m2 => rw [hv] at hp1; exact hp1
      | ok xs m2 =>
        rw [hv] at hp1
        simp only [Res.bind_ok, List.append_nil] at hp1
        intro vs H' F' rho' x' r' rd'
        exact ⟨F', rho', xs, m2, x', r', rd', hnk hv, hp1.ext x'⟩
    · rw [hks]
      cases hv : arr ar (ds ++ es2) with
      | none => rw [hv] at hp2; exact hp2.elim
      | some as' =>
        rw [hv] at hp2
        obtain ⟨vs', e1, e2⟩ := arr_rds ((x2.rds rm1 rr).append rr2) hv
        obtain ⟨us', e3, e4⟩ := arr_vals (r1.append rz) e1
        dsimp only at hp2
        by_cases hl : as'.length = ps.length
        · have b := hk s2 us ws us' I2.kIn (by rw [← r1.length, ← rr.length, hl1]) (by rw [← rz.length, ← rr2.length, hl2]) e3
          refine wpAny_call (codeAny_mono (C.ok.run X.A X.stack s2 H2 ⟨us, ks.zip ws⟩ us' vs' Q (WE W σ) (hr hcur) I2.env0 b e4 ⟨F2, rho2, m2, as', rm2, e2, hl, hp2.sig fun _ _ _ h => h⟩) fun r s' hq => ?_)
          cases r with
          | error er => exact passAt tk σ pins H2 s2 er s' I2 hq
          | ok fl =>
            cases fl with
            | ret u => exact I2.after hq
            | next => exact False.elim hq
            | brk => exact False.elim hq
            | cont => exact False.elim hq
        · rw [C.ar as' m2 hl] at hp2
          exact hp2.elim
end
end IP

/-! IpR -/
set_option Elab.async false
set_option linter.all false
set_option maxRecDepth 100000
set_option maxHeartbeats 4000000
/-! IpR: methods, new instances, raise. -/
namespace IP
open PySem L2 PyProof.Rows
theorem RDf.none {G : GC} {rho : List Addr} {H : Hp} (f : String) : ∀ {xs : List (String × D)} {vs : List (Str × V)}, RDf G rho H xs vs → xs.lookup f = none → vs.lookup (Str.ofString f) = none
  | _, _, .nil, _ => rfl
  | _, _, .cons (f := g) h t, e => by
    by_cases q : f = g
    · subst q
      simp [List.lookup] at e
    · have q1 : (f == g) = false := by simpa using q
      have q2 : (Str.ofString f == Str.ofString g) = false := by
        simpa using fun z => q (ofString_inj z)
      simp only [List.lookup, q1, q2] at e ⊢
      exact RDf.none f t e
/-- what is between an object and its method, read from the tree of the call -/
def MTree (o : Expr) (m : Str) (apos pos : Pos) (args : List Expr) (kws : List Keyword) (env : Env) (pl : Sem Bool) : Prop :=
  eval (.Call (.Attribute o m apos) args kws pos) env = (do
      let ov ← eval o env
      standAt apos.atName
      let (f, first) ← holding [ov] (getMethod ov m pl)
      callWith pos f first (backTo pos (starEach args env)) (backToKw pos (keywordEach kws env)))
section
variable {X : Cx} {G : GC} {W : WX} {g : Gl} {c f : String} {a CC : Addr} {fd : FuncData} {ps : List Str} {k : Nat} {h : List D → Mem → Res D} {ea eo : Expr} {es : List Expr} {as : Es} {o : E} {pos apos : Pos} {pl : Sem Bool}
theorem se_meth (B : Base X G W g) (C : CalX X G a fd ps k (g.call c f)) (hb : Binds X.K fd ps []) (hr : g.cur.isNone = true → Room k X.A) (hC : G.own c = some CC) (hcl : Cls X.K CC) (hm : Meth X.K CC (Str.ofString f) a) (ho : SE X G W g eo o) (ha : SA X G W g (ea :: es) as) (he : notStar ea = true)
    (hpl : (backTo pos (starEach es X.env)).any (·.1) = false) (ht : MTree eo (Str.ofString f) apos pos (ea :: es) [] X.env pl) : SE X G W g (.Call (.Attribute eo (Str.ofString f) apos) (ea :: es) [] pos) (.meth c f o as [] []) := by
  refine ⟨fun pins s σ H Q I h => ?_⟩
  obtain ⟨F, rho, m, e, r, re, hp⟩ := h
  rw [ev] at hp
  obtain ⟨hcur, hp⟩ := Post.ite hp
  refine PySem.W.methodCall_KW (pl := pl) (thn (ho.run pins s σ H _ I (tI.mk r re (Post.bind (R1 := RD1 G) hp))) fun u s1 ⟨x, H1, I1, rx, F1, rho1, d, m1, x1, r1, rr, hp1⟩ => ?_) ht
  dsimp only at hp1
  split at hp1
  · rename_i c' fs ev_
    obtain ⟨hc, hp2⟩ := Post.ite hp1
    simp only [Bool.and_eq_true, beq_iff_eq] at hc
    obtain ⟨rfl, hno⟩ := hc
    obtain ⟨p, C', dx, fvs, rfl, hC', h1, h2⟩ := r1.vwi rr ev_
    rw [hC] at hC'
    cases hC'
    cases rx
    have hl : fvs.lookup (Str.ofString f) = none := RDf.none f h2 (by simpa using hno)
    refine getmeth_ok I1 h1 hcl hm hl ?_
    refine PySem.W.callWith_K (first := [.ref p]) (h₀ := X.base) I.ok.mod.kin hm.kp (thn (ha.run pos pins s1 σ H1 _ I1 (tI.mk r1 (x1.rde r re) (Post.bind (R1 := RDL G) hp2))) fun us s2 ⟨vs, H2, I2, r2, F2, rho2, ds, m2, x2, rm2, rr2, hp3⟩ => ⟨I2.kIn, ?_⟩) (starEach_of he) hpl
    simp only [List.append_nil, arr_nil] at hp3
    exact cal_run (us := .ref p :: us) (vs := .ref p :: vs) C hb B.tk (hr hcur) I2 (.cons rfl r2) rm2 (.cons (x2.rd r1 rr) rr2) hp3
  · exact hp1.elim
theorem se_meth0 (B : Base X G W g) (C : CalX X G a fd ps k (g.call c f)) (hb : Binds X.K fd ps []) (hr : g.cur.isNone = true → Room k X.A) (hC : G.own c = some CC) (hcl : Cls X.K CC) (hm : Meth X.K CC (Str.ofString f) a) (ho : SE X G W g eo o)
    (ht : MTree eo (Str.ofString f) apos pos [] [] X.env pl) : SE X G W g (.Call (.Attribute eo (Str.ofString f) apos) [] [] pos) (.meth c f o .nil [] []) := by
  refine ⟨fun pins s σ H Q I h => ?_⟩
  obtain ⟨F, rho, m, e, r, re, hp⟩ := h
  rw [ev] at hp
  obtain ⟨hcur, hp⟩ := Post.ite hp
  refine PySem.W.methodCall_KW (pl := pl) (thn (ho.run pins s σ H _ I (tI.mk r re (Post.bind (R1 := RD1 G) hp))) fun u s1 ⟨x, H1, I1, rx, F1, rho1, d, m1, x1, r1, rr, hp1⟩ => ?_) ht
  dsimp only at hp1
  split at hp1
  · rename_i c' fs ev_
    obtain ⟨hc, hp2⟩ := Post.ite hp1
    simp only [Bool.and_eq_true, beq_iff_eq] at hc
    obtain ⟨rfl, hno⟩ := hc
    obtain ⟨p, C', dx, fvs, rfl, hC', h1, h2⟩ := r1.vwi rr ev_
    rw [hC] at hC'
    cases hC'
    cases rx
    have hl : fvs.lookup (Str.ofString f) = none := RDf.none f h2 (by simpa using hno)
    refine getmeth_ok I1 h1 hcl hm hl ?_
    rw [evs] at hp2
    exact PySem.W.callWith_K0 (first := [.ref p]) I1.kIn hm.kp (cal_run (us := [.ref p]) (vs := [.ref p]) (ds := [d]) C hb B.tk (hr hcur) I1 (.cons rfl .nil) r1 (.cons rr .nil) hp2)
  · exact hp1.elim

/-! ### new instances -/
theorem run_makeS {pins : List (Addr × Obj)} {σ : L2.St} {H : Hp} {s : Shared} {Q : VK} {us : List Value} {vs : List V} {C f : Addr} {sp : Sp} {E : L2.St → XK} {CXt : CXT} (M : Mk X.K C f) (F : FnOk X.prog X.w X.K X.mg X.base CXt k f fd ps sp) (hr : Room (k + 1) X.A) (hb : Binds X.K fd ps [])
    (hx : PassesAt CXt X σ (E σ)) (I : Inv X pins σ H s) (r : Vals vs us)
    (h : ∀ x dx, H x = none → H dx = none → dx ≠ x → sp (.ref x :: vs) (upd (upd H dx (.own x)) x (.ins C dx [])) (fun v H2 => v = .non ∧ Q (.ref x) H2) (E σ)) :
    wpAny (model X.prog X.w) X.A (call (.ref C) us) (EP X pins σ Q) X.xe s := by
  have hq := h (s.heap.objs.size + 1) s.heap.objs.size (I.hok.fresh (Nat.le_succ _)) (I.hok.fresh (Nat.le_refl _)) (Nat.ne_of_lt (Nat.lt_succ_self _))
  have I2 := Inv.made (C := C) I
  have r2 : Vals (V.ref (s.heap.objs.size + 1) :: vs) (Value.ref (s.heap.objs.size + 1) :: us) := .cons rfl r
  have hl : (Value.ref (s.heap.objs.size + 1) :: us).length = ps.length := by
    have e := r2.length
    rw [F.len _ _ _ _ hq] at e
    exact e.symm
  have b := hb _ (Value.ref (s.heap.objs.size + 1) :: us) I2.kIn (by rw [List.append_nil]; exact hl)
  rw [List.append_nil] at b
  refine wpAny_call (make_map (f := f) I.kIn M.makes M.init (beq_iff_eq.mp M.fn) (codeAny_mono (F.run _ X.stack _ _ ⟨Value.ref (s.heap.objs.size + 1) :: us, []⟩ (Value.ref (s.heap.objs.size + 1) :: us) _ _ (E σ) (hr.make C us [])
    (I2.env0.make C us []) b r2 hq) fun r s' hq' => ?_))
  cases r with
  | error e => exact hx pins _ _ e s' I2 hq'
  | ok fl =>
    cases fl with
    | ret u =>
      obtain ⟨v, H', I3, rv, ev, q3⟩ := I2.after hq'
      subst ev
      exact ⟨rv, ⟨V.ref (s.heap.objs.size + 1), H', I3, rfl, q3⟩⟩
    | next => exact False.elim hq'
    | brk => exact False.elim hq'
    | cont => exact False.elim hq'
/-- the last cell becomes a value -/
theorem RelM.freeze {F0 H0 F H : Hp} {rho0 rho : List Addr} {m0 m : Mem} {p : Addr} {cc : MO} {u : HO} (r0 : RelM G F0 H0 rho0 m0) (r : RelM G F H rho m) (x : Ext F0 H0 rho0 F H rho) (hl : m.length = m0.length + 1) (hp : rho[m0.length]? = some p) (hc : m[m0.length]? = some cc) (hd : cc ≠ .dead)
    (hH : H p = some u) (hb : allB m0.length (m.take m0.length) = true) : RelM G (upd F p u) H rho0 (m.take m0.length) ∧ Ext F0 H0 rho0 (upd F p u) H rho0 ∧ ∀ (k : Nat) (a : Addr), k < m0.length → rho[k]? = some a → rho0[k]? = some a := by
  obtain ⟨q1, q2, q3⟩ := drop_cells r0 r x (by omega) hb
  have hF := r.off _ p cc hp hc hd
  have hn : p ∉ rho0 := fun hin => by
    obtain ⟨j, hj⟩ := List.getElem?_of_mem hin
    obtain ⟨l1, w1⟩ := List.getElem?_eq_some_iff.mp (x.beg j p hj)
    obtain ⟨l2, w2⟩ := List.getElem?_eq_some_iff.mp hp
    have ejk := (List.getElem_inj r.nd).mp (w1.trans w2.symm)
    obtain ⟨l3, _⟩ := List.getElem?_eq_some_iff.mp hj
    rw [← r0.len] at l3
    omega
  have h0 : H0 p = none := x.new p (List.mem_of_getElem? hp) hn
  have gr : Grow F (upd F p u) := Grow.upd hF
  refine ⟨⟨⟨fun {b v} e => ?_⟩, q1.len, q1.nd, fun i b c' h1 h2 => (q1.cel i b c' h1 h2).mono gr (Beg.refl _) fun _ _ e => e, fun i b c' h1 h2 h3 => ?_⟩, ⟨q2.fr.trans gr, Beg.refl _, q2.keep, fun b h n => absurd h n, fun b v e => ?_⟩, q3⟩
  · by_cases hb2 : b = p
    · subst hb2
      rw [upd_same] at e
      cases e
      exact .inl hH
    · rw [upd_ne hb2] at e
      exact q1.sub.at_ e
  · rw [upd_ne fun z => hn (by rw [← z]; exact List.mem_of_getElem? h1)]
    exact q1.off i b c' h1 h2 h3
  · by_cases hb2 : b = p
    · subst hb2
      exact .inr (.inl h0)
    · rw [upd_ne hb2] at e
      exact q2.cl b v e
theorem make_run {mu : Bool} (B : Base X G W g) (C : CalX X G a fd ps k (g.call c "__init__")) (hb : Binds X.K fd ps []) (hr : g.cur.isNone = true → Room (k + 1) X.A) (hC : G.own c = some CC) (M : Mk X.K CC a)
    {pins : List (Addr × Obj)} {σ : L2.St} {H F : Hp} {rho : List Addr} {m : Mem} {s : Shared} {Q : VK} {us : List Value} {vs : List V} {ds : List D}
    (I : Inv X pins σ H s) (r : Vals vs us) (rm : RelM G F H rho m) (rd : RDs G rho F ds vs) (hp : Post G W σ (RD1 G) F H rho (makeG g mu c ds m) Q) : wpAny (model X.prog X.w) X.A (call (.ref CC) us) (EP X pins σ Q) X.xe s := by
  unfold makeG at hp
  obtain ⟨hcur, hp⟩ := Post.ite hp
  refine run_makeS (E := WE W) M C.ok (hr hcur) hb (passAt B.tk σ) I r fun x dx hx hdx hne => ?_
  have rm1 : RelM G F (upd H dx (.own x)) rho m := rm.other (rm.off' hdx) (rm.notin hdx)
  have x1 : Ext F H rho F (upd H dx (.own x)) rho := (Ext.refl _ _ _).other hdx
  have hx1 : upd H dx (.own x) x = none := by rw [upd_ne (Ne.symm hne)]; exact hx
  obtain ⟨rm2, x2⟩ := rm1.cell (o := .ins CC dx []) (c := .ins c []) hx1 ⟨CC, dx, [], hC, upd_same, .nil⟩
  have x12 := x1.trans x2
  have hl : rho.length = m.length := rm.len.symm
  have gref : RD G (rho ++ [x]) F (.ref m.length) (.ref x) := .ref (by rw [← hl]; simp)
  by_cases har : (D.ref m.length :: ds).length = ps.length
  rotate_left
  · rw [C.ar _ _ har] at hp
    exact hp.elim
  refine ⟨F, rho ++ [x], m ++ [.ins c []], .ref m.length :: ds, rm2, .cons gref (x12.rds rm rd), har, ?_⟩
  cases hcall : g.call c "__init__" (.ref m.length :: ds) (m ++ [.ins c []]) with
  | no => rw [hcall] at hp; exact hp.elim
  | ex y m1 =>
    rw [hcall] at hp
    exact fun c dd H' F' rho' x' r' rx => hp c dd H' F' rho' (x12.trans x') r' rx
  | ok d m1 =>
    rw [hcall] at hp
    simp only [Res.bind_ok] at hp
    intro v H' F' rho' x' r' rr
    have xx := x12.trans x'
    have href : rho'[m.length]? = some x := x'.beg _ _ (by rw [← hl]; simp)
    cases d with
    | non =>
      cases rr
      refine ⟨rfl, ?_⟩
      cases mu with
      | true => exact hp _ _ _ _ xx r' (.ref href)
      | false =>
        dsimp only at hp
        rw [if_neg Bool.false_ne_true] at hp
        cases hc : m1[m.length]? with
        | none => rw [hc] at hp; exact hp.elim
        | some cc =>
          rw [hc] at hp
          cases cc with
          | ins c' fs =>
            obtain ⟨hcond, hp4⟩ := Post.ite hp
            simp only [Bool.and_eq_true, decide_eq_true_eq, beq_iff_eq] at hcond
            obtain ⟨rfl, hlen, hu, hba⟩ := hcond
            obtain ⟨C2, dx2, fvs, e0, e1, e2⟩ := r'.cel _ x _ href hc
            obtain ⟨q1, q2, q3⟩ := RelM.freeze rm r' xx hlen href hc (fun z => nomatch z) e1 hba
            have hF' := r'.off _ x _ href hc (fun z => nomatch z)
            exact hp4 _ _ _ _ q2 q1 (.ins e0 upd_same (RDf.mono (Grow.upd hF').sub (Beg.refl _) _ _ (RDf.lt q3 _ _ hu e2)))
          | _ => exact hp.elim
    | _ => exact hp.elim
variable {x : Str} {p : Pos}
theorem se_make {mu : Bool} (B : Base X G W g) (C : CalX X G a fd ps k (g.call c "__init__")) (hb : Binds X.K fd ps []) (hr : g.cur.isNone = true → Room (k + 1) X.A) (hC : G.own c = some CC) (M : Mk X.K CC a) (hg : L2.Gl X x) (hm : X.mg x = some (.ref CC)) (hdb : (x == ("__debug__" : Str)) = false)
    (ha : SA X G W g (ea :: es) as) (he : notStar ea = true) (hpl : (backTo pos (starEach es X.env)).any (·.1) = false) : SE X G W g (.Call (.Name x p) (ea :: es) [] pos) (.make mu c as [] []) := by
  refine ⟨fun pins s σ H Q I h => ?_⟩
  obtain ⟨F, rho, m, e, r, re, hp⟩ := h
  rw [ev] at hp
  obtain ⟨hcur, hp⟩ := Post.ite hp
  refine wpAny_Call_Name_kw (ld_glob I hg hm ?_ hdb)
  refine PySem.W.callWith_K (h₀ := X.base) I.ok.mod.kin M.kp (thn (ha.run pos pins s σ H _ I (tI.mk r re (Post.bind (R1 := RDL G) hp))) fun us s1 ⟨vs, H1, I1, r1, F1, rho1, ds, m1, x1, rm1, rr, hp1⟩ => ⟨I1.kIn, ?_⟩) (starEach_of he) hpl
  simp only [List.append_nil, arr_nil] at hp1
  exact make_run B C hb hr hC M I1 r1 rm1 rr hp1
theorem se_make0 {mu : Bool} (B : Base X G W g) (C : CalX X G a fd ps k (g.call c "__init__")) (hb : Binds X.K fd ps []) (hr : g.cur.isNone = true → Room (k + 1) X.A) (hC : G.own c = some CC) (M : Mk X.K CC a) (hg : L2.Gl X x) (hm : X.mg x = some (.ref CC)) (hdb : (x == ("__debug__" : Str)) = false) :
    SE X G W g (.Call (.Name x p) [] [] pos) (.make mu c .nil [] []) := by
  refine ⟨fun pins s σ H Q I h => ?_⟩
  obtain ⟨F, rho, m, e, r, re, hp⟩ := h
  rw [ev] at hp
  obtain ⟨hcur, hp⟩ := Post.ite hp
  rw [evs] at hp
  refine wpAny_Call_Name_kw (ld_glob I hg hm ?_ hdb)
  exact PySem.W.callWith_K0 I.kIn M.kp (make_run (us := []) (vs := []) (ds := []) B C hb hr hC M I .nil r .nil hp)

/-! ### raise -/
/-- what a call of an exception class leaves -/
def MkR (X : Cx) (CC : Addr) (ns : List String) : Prop :=
  ∀ (pins : List (Addr × Obj)) (s : Shared) (σ : L2.St) (H : Hp) (vs : List V) (us : List Value) (Q : XK), Inv X pins σ H s → Vals vs us → vs.length = ns.length →
    (∀ dd H2, ((ns = [] ∧ dd = none ∧ H2 = H) ∨ ∃ d, dd = some d ∧ H d = none ∧ H2 = upd H d (.xd ((ns.map Str.ofString).zip vs))) → Q (.ref CC) dd H2) → wpAny (model X.prog X.w) X.A (call (.ref CC) us) (MkP X pins σ Q) X.xe s
theorem zip_rdf {rho : List Addr} {F : Hp} : ∀ {ns : List String} {ds : List D} {vs : List V}, RDs G rho F ds vs → RDf G rho F (ns.zip ds) ((ns.map Str.ofString).zip vs)
  | [], _, _, _ => .nil
  | _ :: _, _, _, .nil => .nil
  | _ :: _, _, _, .cons h t => .cons h (zip_rdf t)
variable {xn : String → Option (List String)}
theorem raise_post {D : Ends} {σ : L2.St} {F H : Hp} {rho : List Addr} {m : Mem} {e : Ev} {ds : List IP.D} {vs : List V} {ns : List String} (hcE : G.exa c = some CC) (hx : xn c = some ns) (r : RelM G F H rho m) (re : RelE G F rho e σ) (rd : RDs G rho F ds vs)
    (hp : PostS G W F H rho (match xn c with
    | some ns => if decide (ds.length = ns.length) then .ex ⟨c, ns.zip ds⟩ e m else .no
    | none => .no) D) : vs.length = ns.length ∧ ∀ dd H2, ((ns = [] ∧ dd = none ∧ H2 = H) ∨ ∃ d, dd = some d ∧ H d = none ∧ H2 = upd H d (.xd ((ns.map Str.ofString).zip vs))) → W (.ref CC) dd σ H2 := by
  rw [hx] at hp
  obtain ⟨hl, hp⟩ := PostS.ite hp
  have hl := of_decide_eq_true hl
  refine ⟨by rw [← rd.length]; exact hl, fun dd H2 h => ?_⟩
  rcases h with ⟨h1, h2, h3⟩ | ⟨d, h1, h2, h3⟩
  · subst h2 h3
    refine hp (.ref CC) none σ _ F rho (Ext.refl _ _ _) r re ⟨CC, hcE, rfl, .inl ⟨?_, rfl⟩⟩
    rw [h1]
    rfl
  · subst h1 h3
    obtain ⟨r2, x2⟩ := r.frozen (o := .xd ((ns.map Str.ofString).zip vs)) h2
    exact hp (.ref CC) (some d) σ _ _ rho x2 r2 (x2.rde r re) ⟨CC, hcE, rfl, .inr ⟨d, _, rfl, upd_same, zip_rdf (x2.rds r rd)⟩⟩
theorem ss_raise {ns : List String} {es : List Expr} {cpos : Pos} (B : Base X G W g) (M : MkR X CC ns) (hcE : G.exa c = some CC) (hx : xn c = some ns) (hk : PySem.W.keepIn X.K (.ref CC) = true) (hg : L2.Gl X x) (hm : X.mg x = some (.ref CC)) (hdb : (x == ("__debug__" : Str)) = false)
    (ha : SA X G W g (ea :: es) as) (he : notStar ea = true) (hpl : (backTo cpos (starEach es X.env)).any (·.1) = false) : SS X G W g xn (.Raise (some (.Call (.Name x p) (ea :: es) [] cpos)) none pos) (.rais c as) := by
  by_cases hcur : g.cur.isNone = true
  rotate_left
  · refine ⟨fun pins s σ H D I h => ?_⟩
    obtain ⟨F, rho, m, e, r, re, hp⟩ := h
    rw [evS, if_neg hcur] at hp
    exact hp.elim
  have pm : PMk X (.Call (.Name x p) (ea :: es) [] cpos) (fun σ H Q => tI G W (RDL G) (evs g as) σ H fun vs H1 => vs.length = ns.length ∧ ∀ dd H2, ((ns = [] ∧ dd = none ∧ H2 = H1) ∨ ∃ d, dd = some d ∧ H1 d = none ∧ H2 = upd H1 d (.xd ((ns.map Str.ofString).zip vs))) → Q (.ref CC) dd H2) := by
    intro pins s σ H Q I h
    refine wpAny_Call_Name_kw (ld_glob I hg hm ?_ hdb)
    refine PySem.W.callWith_K (h₀ := X.base) I.ok.mod.kin hk (thn (ha.run cpos pins s σ H _ I h) fun us s1 ⟨vs, H1, I1, r1, hl, q⟩ => ⟨I1.kIn, ?_⟩) (starEach_of he) hpl
    exact M pins s1 σ H1 vs us Q I1 r1 hl q
  refine (ps_raise (B.calm (by simpa using hcur)) B.tk pm).imp fun D σ H h => ?_
  obtain ⟨F, rho, m, e, r, re, hp⟩ := h
  rw [evS, if_pos hcur] at hp
  refine tI.mk r re ((PostS.go (R1 := RDL G) r re hp).imp fun vs H' ⟨F1, rho1, ds, m1, x1, r1, rr, hp1⟩ => ?_)
  exact raise_post hcE hx r1 (x1.rde r re) rr hp1
theorem ss_raise0 {ns : List String} {cpos : Pos} (B : Base X G W g) (M : MkR X CC ns) (hcE : G.exa c = some CC) (hx : xn c = some ns) (hk : PySem.W.keepIn X.K (.ref CC) = true) (hg : L2.Gl X x) (hm : X.mg x = some (.ref CC)) (hdb : (x == ("__debug__" : Str)) = false) :
    SS X G W g xn (.Raise (some (.Call (.Name x p) [] [] cpos)) none pos) (.rais c .nil) := by
  by_cases hcur : g.cur.isNone = true
  rotate_left
  · refine ⟨fun pins s σ H D I h => ?_⟩
    obtain ⟨F, rho, m, e, r, re, hp⟩ := h
    rw [evS, if_neg hcur] at hp
    exact hp.elim
  have pm : PMk X (.Call (.Name x p) [] [] cpos) (fun σ H Q => 0 = ns.length ∧ ∀ dd H2, ((ns = [] ∧ dd = none ∧ H2 = H) ∨ ∃ d, dd = some d ∧ H d = none ∧ H2 = upd H d (.xd ((ns.map Str.ofString).zip []))) → Q (.ref CC) dd H2) := by
    intro pins s σ H Q I h
    refine wpAny_Call_Name_kw (ld_glob I hg hm ?_ hdb)
    exact PySem.W.callWith_K0 I.kIn hk (M pins s σ H [] [] Q I .nil h.1 h.2)
  refine (ps_raise (B.calm (by simpa using hcur)) B.tk pm).imp fun D σ H h => ?_
  obtain ⟨F, rho, m, e, r, re, hp⟩ := h
  rw [evS, if_pos hcur, evs] at hp
  simp only [Res.go_ok] at hp
  exact raise_post (vs := []) hcE hx r re .nil hp
end
end IP

/-! IpS -/
set_option Elab.async false
set_option linter.all false
set_option maxRecDepth 100000
set_option maxHeartbeats 4000000
/-! IpS: the exceptions' classes. -/
namespace IP
open PySem L2 PyProof.Rows
theorem mtree {o : Expr} {m : Str} {apos pos : Pos} {args : List Expr} {kws : List Keyword} {env : Env} (hb : attributeBase o m env (eval o env) = eval o env) (hf : methodCallForm (args.length + kws.length) (backTo pos (starEach args env)) (backToKw pos (keywordEach kws env)) = true) (hl : (apos.endLine == pos.line) = true) :
    MTree o m apos pos args kws env (plainOf o env) := mcall_of hb fun ov => mcall_line hf hl
section
variable {X : Cx} {CD : Addr} {e : Expr} {es : List Expr} {ta : TA} {x : Str} {p1 p2 pos : Pos}
/-- D.__init__(self, ..), D an own class over ValueError without an own __init__ -/
theorem pe_dinit (hg : L2.Gl X x) (hm : X.mg x = some (.ref CD)) (hdb : (x == ("__debug__" : Str)) = false) (rd : ClX.CRead X.K CD (.type "type")) (fc : PySem.W.findCls X.K (.ref CD) (.type "type") "__init__" = some (.val (.builtin "ValueError.__init__"))) (ha : PA X (e :: es) ta)
    (hc : MTree (.Name x p1) "__init__" p2 pos (e :: es) [] X.env (plainOf (.Name x p1) X.env)) (he : starEach (e :: es) X.env = (false, eval e X.env) :: starEach es X.env) (hpl : (backTo pos (starEach es X.env)).any (·.1) = false) :
    PE X (.Call (.Attribute (.Name x p1) "__init__" p2) (e :: es) [] pos) (tVeI X.K ta) := by
  refine ⟨fun pins s σ H Q I h => ?_⟩
  refine PySem.W.methodCall_KW (ld_glob I hg hm ?_ hdb) hc
  refine PySem.W.method_cls I.kIn rd.ga (PySem.W.cls_value I.kIn rd.rd fc (by decide +kernel) ?_)
  show wpAny _ _ (callWith pos (Value.builtin "ValueError.__init__") [] (backTo pos (starEach (e :: es) X.env)) []) _ _ _
  refine PyProof.Rows.callWith_method1 (thn (ha.run pos pins _ σ H _ (I.tok _) h) fun us s1 ⟨vs, H1, I1, r1, a, C, ws, ev, hl, T, ea, q⟩ => ?_) he hpl
  subst ev
  cases r1 with
  | @cons _ u0 _ ur ra rw' =>
    obtain rfl : u0 = Value.ref a := ra
    have hlen : ur.length ≤ sizeLine := by
      rw [← Paired.length rw', sizeLine_eq]
      omega
    exact oinit_ok T I1 ea hlen fun s' J => ⟨.non, H1, J, rfl, q⟩
end
/-- what __init__ of an exception with one field promises -/
def spX1 (K : PySem.W.Frag) (C : Addr) (f : Str) : Sp := fun vs H Q _ => ∃ a v, vs = [.ref a, v] ∧ H a = some (exo a C none) ∧ ∀ dx, H dx = none → dx ≠ a → Q .non (upd (upd H dx (exd dx [(f, v)])) a (exo a C (some dx)))
/-- .. without fields -/
def spX0 (K : PySem.W.Frag) (C : Addr) : Sp := fun vs H Q _ => ∃ a, vs = [.ref a] ∧ H a = some (exo a C none) ∧ Q .non H
section
variable {P : Program} {w : World} {K : PySem.W.Frag} {mg : Str → Option Value} {base : Heap} {xn qual : Str} {params : Arguments} {scope : Scope} {f C CD : Addr} {fd : FuncData} {x self given fl txt : Str} {p1 p2 p3 p4 p5 p6 p7 p8 p9 p10 : Pos} {j : Nat} {CXt : CXT}
theorem init1_ok (F : FunD K xn qual params [.Expr (.Call (.Attribute (.Name x p1) "__init__" p2) [.Name self p3, .Constant (.str txt) j p4] [] p5) p6, .Assign [.Attribute (.Name self p7) fl p8] (.Name given p9) p10] scope [] [] f fd) (S : FnScope [self, given] [self, given] scope)
    (hgl : scope.names.lookup x = some .globalImplicit) (hm : mg x = some (.ref CD)) (hdb : (x == ("__debug__" : Str)) = false) (hs1 : (self == ("__debug__" : Str)) = false) (hs2 : (self == ("__classdict__" : Str)) = false) (hs3 : (given == ("__debug__" : Str)) = false) (hs4 : (given == ("__classdict__" : Str)) = false)
    (rd : ClX.CRead K CD (.type "type")) (fc : PySem.W.findCls K (.ref CD) (.type "type") "__init__" = some (.val (.builtin "ValueError.__init__"))) (T : OexC K C) (hno : PySem.W.findIn K (.ref C) fl = some none) (hl : (p2.endLine == p5.line) = true) :
    FnOk P w K mg base CXt 1 f fd [self, given] (spX1 K C fl) := by
  refine F.ok S (fun vs H Q E ⟨a, v, e, _⟩ => by rw [e]; rfl) fun cdv A outer s H vs Q E hr h => ?_
  have v0 : PE (cxOf CXt P w K mg base [self, given] qual scope f cdv A outer s H E) (.Name self p3) (tVar 0) := pe_var rfl (by
    rcases S.par self List.mem_cons_self with z | z
    · exact .inl z
    · exact .inr (.inl z)) hs1 hs2
  have v0' : PE (cxOf CXt P w K mg base [self, given] qual scope f cdv A outer s H E) (.Name self p7) (tVar 0) := pe_var rfl (by
    rcases S.par self List.mem_cons_self with z | z
    · exact .inl z
    · exact .inr (.inl z)) hs1 hs2
  have v1 : PE (cxOf CXt P w K mg base [self, given] qual scope f cdv A outer s H E) (.Name given p9) (tVar 1) := pe_var rfl (by
    rcases S.par given (List.mem_cons_of_mem _ List.mem_cons_self) with z | z
    · exact .inl z
    · exact .inr (.inl z)) hs3 hs4
  refine ⟨_, pss_cons (ps_expr (pe_dinit hgl hm hdb rd fc (pa_cons v0 (pa_cons pe_str pa_nil)) (mtree rfl rfl hl) rfl rfl) rfl) (pss_one (ps_ost v0' v1 rfl)), ?_⟩
  obtain ⟨a, v, rfl, ea, q⟩ := h
  refine ⟨_, rfl, a, C, [.str txt], rfl, by simp, T, ea, ?_⟩
  refine ⟨_, rfl, _, rfl, a, C, rfl, T, hno, .inl ⟨ea, fun dx h1 h2 => q dx h1 h2⟩⟩
theorem init0_ok (F : FunD K xn qual params [.Expr (.Call (.Attribute (.Name x p1) "__init__" p2) [.Name self p3, .Constant (.str txt) j p4] [] p5) p6] scope [] [] f fd) (S : FnScope [self] [self] scope)
    (hgl : scope.names.lookup x = some .globalImplicit) (hm : mg x = some (.ref CD)) (hdb : (x == ("__debug__" : Str)) = false) (hs1 : (self == ("__debug__" : Str)) = false) (hs2 : (self == ("__classdict__" : Str)) = false)
    (rd : ClX.CRead K CD (.type "type")) (fc : PySem.W.findCls K (.ref CD) (.type "type") "__init__" = some (.val (.builtin "ValueError.__init__"))) (T : OexC K C) (hl : (p2.endLine == p5.line) = true) :
    FnOk P w K mg base CXt 1 f fd [self] (spX0 K C) := by
  refine F.ok S (fun vs H Q E ⟨a, e, _⟩ => by rw [e]; rfl) fun cdv A outer s H vs Q E hr h => ?_
  have v0 : PE (cxOf CXt P w K mg base [self] qual scope f cdv A outer s H E) (.Name self p3) (tVar 0) := pe_var rfl (by
    rcases S.par self List.mem_cons_self with z | z
    · exact .inl z
    · exact .inr (.inl z)) hs1 hs2
  refine ⟨_, pss_one (ps_expr (pe_dinit hgl hm hdb rd fc (pa_cons v0 (pa_cons pe_str pa_nil)) (mtree rfl rfl hl) rfl rfl) rfl), ?_⟩
  obtain ⟨a, rfl, ea, q⟩ := h
  exact ⟨_, rfl, a, C, [.str txt], rfl, by simp, T, ea, q⟩
end
section
variable {X : Cx} {C fI : Addr} {fd : FuncData} {ps : List Str} {k : Nat} {f : String}
theorem cx_false {P : Program} {w : World} {outer : List Env} {H : Hp} {s s' : Shared} {u : Value} (h : CX P w outer H s (fun _ _ _ => False) u s') : False := by
  obtain ⟨_, _, _, _, _, _, _, _, _, _, _, _, z⟩ := h
  exact z
theorem mkr1 (T : OexC X.K C) (iC : PySem.W.findIn X.K (.ref C) "__init__" = some (some (.ref fI))) (tI : PySem.W.typeIn X.K (.ref fI) = some (.type "function")) (F1 : FnOk X.prog X.w X.K X.mg X.base (CX X.prog X.w) k fI fd ps (spX1 X.K C (Str.ofString f))) (hr : Room (k + 1) X.A)
    (hb : Binds X.K fd ps []) (hps : ps.length = 2) : MkR X C [f] := by
  intro pins s σ H vs us Q I r1 hl q
  obtain ⟨v, rfl⟩ : ∃ v, vs = [v] := by
    match vs, hl with
    | [v], _ => exact ⟨v, rfl⟩
  obtain ⟨nm, qn, N, bs, bm, sn, sub, ab, col, dd, k0, k1, k2, k3, k5, hC, hbm⟩ := T.cls
  obtain ⟨hp, g, dr, tk, os⟩ := s
  have hsz : hp.objs.size ≤ hp.objs.size + 1 := Nat.le_succ _
  have hn : H (hp.objs.size + 1) = none := I.hok.fresh hsz
  have kk : ∀ b o, hp.get? b = some o → ((hp.push (PySem.W.kdv_tup us)).push (PySem.HandSPX.excO C hp.objs.size)).get? b = some o := fun b o e => Heap.get?_push_of_some _ (Heap.get?_push_of_some _ e)
  have hget : ((hp.push (PySem.W.kdv_tup us)).push (PySem.HandSPX.excO C hp.objs.size)).get? (hp.objs.size + 1) = some (PySem.HandSPX.excO C hp.objs.size) := by heap_get
  have I2 : Inv X pins σ (upd H (hp.objs.size + 1) (exo (hp.objs.size + 1) C none)) ⟨(hp.push (PySem.W.kdv_tup us)).push (PySem.HandSPX.excO C hp.objs.size), g, dr, tk, os⟩ :=
    I.laid (t' := tk) (a := hp.objs.size + 1) (o := exo (hp.objs.size + 1) C none) (h' := (hp.push (PySem.W.kdv_tup us)).push (PySem.HandSPX.excO C hp.objs.size)) kk hsz (exo_ok hget)
  have r2 : Vals [V.ref (hp.objs.size + 1), v] (Value.ref (hp.objs.size + 1) :: us) := .cons rfl r1
  have hus : us.length ≤ sizeLine := by
    rw [← Paired.length r1, sizeLine_eq]
    simp
  have hq : spX1 X.K C (Str.ofString f) [V.ref (hp.objs.size + 1), v] (upd H (hp.objs.size + 1) (exo (hp.objs.size + 1) C none)) (fun v' H2 => v' = .non ∧ ∃ (d : Addr) (fs : List (Str × V)), H2 (hp.objs.size + 1) = some (exo (hp.objs.size + 1) C (some d)) ∧ H2 d = some (exd d fs) ∧ H d = none ∧ Q (.ref C) (some d) (upd (del H2 (hp.objs.size + 1)) d (.xd fs))) (fun _ _ _ => False) := by
    refine ⟨_, v, rfl, upd_same, fun dx h1 h2 => ⟨rfl, dx, [(Str.ofString f, v)], upd_same, ?_, ?_, ?_⟩⟩
    · rw [upd_ne h2, upd_same]
    · rw [upd_ne h2] at h1
      exact h1
    · have hdx : H dx = none := by
        rw [upd_ne h2] at h1
        exact h1
      refine q (some dx) _ (.inr ⟨dx, rfl, hdx, ?_⟩)
      funext b
      by_cases hb2 : b = dx
      · subst hb2
        rw [upd_same, upd_same]
        rfl
      · rw [upd_ne hb2, upd_ne hb2]
        by_cases hb3 : b = hp.objs.size + 1
        · rw [hb3, del_same]
          exact hn.symm
        · rw [del_ne hb3, upd_ne hb3, upd_ne hb2, upd_ne hb3]
  have b := hb _ (Value.ref (hp.objs.size + 1) :: us) I2.kIn (by rw [List.append_nil, ← r2.length, hps]; rfl)
  rw [List.append_nil] at b
  refine wpAny_call (PySem.HandSPX.call_own F.excBase_ValueError (fun Y => PySem.HandSPX.refsVE_contains Y bm hbm) (I.kIn _ _ hC) (PySem.W.looks_findIn I.kIn iC) (fun self => PySem.W.bind_fn I.kIn self tI) hus
    (codeAny_mono (F1.run _ X.stack _ _ ⟨Value.ref (hp.objs.size + 1) :: us, []⟩ (Value.ref (hp.objs.size + 1) :: us) _ _ (fun _ _ _ => False) (hr.make C us []) (I2.env0.make C us []) b r2 hq) fun r s' hq' => ?_))
  cases r with
  | error er => exact (cx_false hq').elim
  | ok fl =>
    cases fl with
    | ret u =>
      obtain ⟨v', H2, os2, bare2, un2, hok2, rv, ev, d, fs, ea, ed, hd1, q2⟩ := hq'
      subst ev
      obtain ⟨h2, g2, d2, t2, os'⟩ := s'
      exact ⟨rv, mk_end (raises_own T.exC T.tyC) I hsz kk un2 hok2 os2 bare2 ea ed hd1 q2⟩
    | next => exact False.elim hq'
    | brk => exact False.elim hq'
    | cont => exact False.elim hq'
/-- the end of C(): without a dict -/
theorem mk_endN {pins : List (Addr × Obj)} {σ : L2.St} {H1 : Hp} {Q : XK} {hp hp2 h2 : Heap} {g1 g2 : Array GenState} {d1 d2 : Drawn} {t1 t2 : Nat} {os1 os2 : OsState} {a C : Addr} (T : Raises X (.ref C)) (I1 : Inv X pins σ H1 ⟨hp, g1, d1, t1, os1⟩)
    (ha : hp.objs.size ≤ a) (k : ∀ b o, hp.get? b = some o → hp2.get? b = some o) (un : Un (frs X.stack) [] (upd H1 a (exo a C none)) (upd H1 a (exo a C none)) hp2 h2) (hok : HOk X.prog X.w (upd H1 a (exo a C none)) h2) (ho : os2 = os1) (hb : AllBare g2)
    (q : Q (.ref C) none H1) : MkP X pins σ Q (.ref a) ⟨h2, g2, d2, t2, os2⟩ := by
  obtain ⟨t0, hoe⟩ := exo_at hok (upd_same (H := H1) (a := a))
  have hn : H1 a = none := I1.hok.fresh ha
  obtain ⟨G, g1', g2'⟩ := restrict h2 fun b => decide (b ≠ a)
  have gk : ∀ b, b ≠ a → G.get? b = h2.get? b := fun b hb => g1' b (decide_eq_true hb)
  have ge : G.get? a = none := g2' a (by simp)
  have nha : ∀ {b : Addr} {o : Obj}, hp.get? b = some o → b ≠ a := fun {b o} z => Nat.ne_of_lt (Nat.lt_of_lt_of_le (Heap.lt_size z) ha)
  have up : ∀ {b : Addr}, b ≠ a → H1 b = none → upd H1 a (exo a C none) b = none := fun {b} hb n => by rw [upd_ne hb]; exact n
  have U : Un (frs X.stack) [] H1 H1 hp G := {
    keep := fun b o z n hf hx => by
      rw [gk b (nha z)]
      exact un.keep b o (k b o z) (up (nha z) n) hf hx
    slot := fun b o z n hf hx => by
      rw [gk b (nha z)]
      exact un.slot b o (k b o z) (up (nha z) n) hf hx
    free := fun b o z n hx => n
    there := fun b o z hx => by
      rw [gk b (nha z)]
      exact un.there b o (k b o z) hx
    tups := fun b xs z => z
    frzs := fun b o v z => z
    tbls := fun b ps z => ⟨#[], by rw [Array.append_empty]; exact z⟩ }
  have ea : (upd H1 a (exo a C none)) a = some (exo a C none) := upd_same
  have hok3 : HOk X.prog X.w H1 G := fun b o z => by
    have hba : b ≠ a := ne_of_none z hn
    have noa : ∀ {c : Addr}, (upd H1 a (exo a C none)) c = some (.own b) → c ≠ a := fun {c} hc => at_ne ea hc exo_own
    refine (hok b o (by rw [upd_ne hba]; exact z)).stay (fun c v hc y => ?_) (fun c hc => ?_) (fun c xs hc => ?_)
    · have hca : c ≠ a := by
        rcases hc with hc | hc
        · rw [hc]
          exact hba
        · exact noa hc
      rw [gk c hca]
      exact y
    · rw [upd_ne (noa hc)] at hc
      exact hc
    · rw [upd_ne (at_ne ea hc exo_tup)] at hc
      exact hc
  have J : Inv X pins σ H1 ⟨G, g2, d2, t2, os2⟩ := I1.call' (ch := []) ho U hok3 hb (fun b z => absurd z (by simp))
  have kG : ∀ b o, G.get? b = some o → h2.get? b = some o := fun b o z => by
    by_cases hba : b = a
    · rw [hba, ge] at z
      cases z
    · exact (gk b hba).symm.trans z
  exact ⟨a, _, _, ⟨G, g2, d2, t2, os2⟩, H1, .ref C, none, rfl, J, kG, ge, hoe, ⟨rfl, rfl⟩, rfl, rfl, hn, rfl, hb, T, q⟩
theorem mkr0 (T : OexC X.K C) (iC : PySem.W.findIn X.K (.ref C) "__init__" = some (some (.ref fI))) (tI : PySem.W.typeIn X.K (.ref fI) = some (.type "function")) (F1 : FnOk X.prog X.w X.K X.mg X.base (CX X.prog X.w) k fI fd ps (spX0 X.K C)) (hr : Room (k + 1) X.A)
    (hb : Binds X.K fd ps []) (hps : ps.length = 1) : MkR X C [] := by
  intro pins s σ H vs us Q I r1 hl q
  obtain rfl : vs = [] := List.length_eq_zero_iff.mp hl
  cases r1
  obtain ⟨nm, qn, N, bs, bm, sn, sub, ab, col, dd, k0, k1, k2, k3, k5, hC, hbm⟩ := T.cls
  obtain ⟨hp, g, dr, tk, os⟩ := s
  have hsz : hp.objs.size ≤ hp.objs.size + 1 := Nat.le_succ _
  have hn : H (hp.objs.size + 1) = none := I.hok.fresh hsz
  have kk : ∀ b o, hp.get? b = some o → ((hp.push (PySem.W.kdv_tup [])).push (PySem.HandSPX.excO C hp.objs.size)).get? b = some o := fun b o e => Heap.get?_push_of_some _ (Heap.get?_push_of_some _ e)
  have hget : ((hp.push (PySem.W.kdv_tup [])).push (PySem.HandSPX.excO C hp.objs.size)).get? (hp.objs.size + 1) = some (PySem.HandSPX.excO C hp.objs.size) := by heap_get
  have I2 : Inv X pins σ (upd H (hp.objs.size + 1) (exo (hp.objs.size + 1) C none)) ⟨(hp.push (PySem.W.kdv_tup [])).push (PySem.HandSPX.excO C hp.objs.size), g, dr, tk, os⟩ :=
    I.laid (t' := tk) (a := hp.objs.size + 1) (o := exo (hp.objs.size + 1) C none) (h' := (hp.push (PySem.W.kdv_tup [])).push (PySem.HandSPX.excO C hp.objs.size)) kk hsz (exo_ok hget)
  have r2 : Vals [V.ref (hp.objs.size + 1)] [Value.ref (hp.objs.size + 1)] := .cons rfl .nil
  have hq : spX0 X.K C [V.ref (hp.objs.size + 1)] (upd H (hp.objs.size + 1) (exo (hp.objs.size + 1) C none)) (fun v' H2 => v' = .non ∧ H2 = upd H (hp.objs.size + 1) (exo (hp.objs.size + 1) C none)) (fun _ _ _ => False) := ⟨_, rfl, upd_same, rfl, rfl⟩
  have b := hb _ [Value.ref (hp.objs.size + 1)] I2.kIn (by rw [List.append_nil, hps]; rfl)
  rw [List.append_nil] at b
  refine wpAny_call (PySem.HandSPX.call_own F.excBase_ValueError (fun Y => PySem.HandSPX.refsVE_contains Y bm hbm) (I.kIn _ _ hC) (PySem.W.looks_findIn I.kIn iC) (fun self => PySem.W.bind_fn I.kIn self tI) (Nat.zero_le _)
    (codeAny_mono (F1.run _ X.stack _ _ ⟨[Value.ref (hp.objs.size + 1)], []⟩ [Value.ref (hp.objs.size + 1)] _ _ (fun _ _ _ => False) (hr.make C [] []) (I2.env0.make C [] []) b r2 hq) fun r s' hq' => ?_))
  cases r with
  | error er => exact (cx_false hq').elim
  | ok fl =>
    cases fl with
    | ret u =>
      obtain ⟨v', H2, os2, bare2, un2, hok2, rv, ev, eH⟩ := hq'
      subst ev eH
      obtain ⟨h2, g2, d2, t2, os'⟩ := s'
      exact ⟨rv, mk_endN (raises_own T.exC T.tyC) I hsz kk un2 hok2 os2 bare2 (q none H (.inl ⟨rfl, rfl, rfl⟩))⟩
    | next => exact False.elim hq'
    | brk => exact False.elim hq'
    | cont => exact False.elim hq'
end
end IP

/-! IpSa -/
set_option Elab.async false
set_option linter.all false
set_option maxRecDepth 100000
set_option maxHeartbeats 4000000
/-! IpSa: methods and new instances with keywords and defaults. -/
namespace IP
open PySem L2 PyProof.Rows
/-- how a method's call with np positional values, keywords named ks and the defaults dvs is bound -/
def KPatM (K : PySem.W.Frag) (fd : FuncData) (ps : List Str) (np : Nat) (ks : List Str) (ar : List Nat) (dvs : List V) : Prop :=
  ∃ dl : List Value, Vals dvs dl ∧ ∀ (s : Shared) (self : Value) (us ws as : List Value), K.In s.heap → us.length = np → ws.length = ks.length → arr ar (us ++ ws ++ dl) = some as → BindsTo s fd ⟨self :: us, ks.zip ws⟩ (ps.zip (self :: as))
section
variable {X : Cx} {G : GC} {W : WX} {g : Gl} {c f : String} {a CC : Addr} {fd : FuncData} {ps : List Str} {k : Nat} {h : List D → Mem → Res D} {ea eo : Expr} {es : List Expr} {as as2 : Es} {o : E} {pos apos : Pos} {pl : Sem Bool} {kws : List Keyword} {ks : List Str} {ar : List Nat} {np nk : Nat}
/-- positional ones, then keywords, none to begin with -/
theorem kw_args (hnk : ∀ {e m xs m1}, evs g as2 e m = .ok xs m1 → xs.length = nk) (hkw : SK X G W g kws as2) {Kf : List D → Mem → Res D} {e : Ev} {pins : List (Addr × Obj)} {σ : L2.St} {H F : Hp} {rho : List Addr} {m : Mem} {s : Shared} {Q : VK} {γ : Type} {QQ : γ → Shared → Prop} {ff : List Value → Sem γ}
    (I : Inv X pins σ H s) (rm : RelM G F H rho m) (re : RelE G F rho e σ) (hp : Post G W σ (RD1 G) F H rho ((evs g as2 e m).bind Kf) Q)
    (hf : ∀ (ws : List Value) (s2 : Shared) (zs : List V) (H2 F2 : Hp) (rho2 : List Addr) (m2 : Mem) (es2 : List D), Inv X pins σ H2 s2 → Vals zs ws → es2.length = nk → Ext F H rho F2 H2 rho2 → RelM G F2 H2 rho2 m2 → RDs G rho2 F2 es2 zs → Post G W σ (RD1 G) F2 H2 rho2 (Kf es2 m2) Q → wpAny (model X.prog X.w) X.A (ff ws) QQ X.xe s2) :
    wpAny (model X.prog X.w) X.A (evalAll ((backToKw pos (keywordEach kws X.env)).map (·.2))) (fun ws s₂ => X.K.In s₂.heap ∧ wpAny (model X.prog X.w) X.A (ff ws) QQ X.xe s₂) X.xe s := by
  refine thn (hkw.run pos pins s σ H (fun zs H2 => ∃ F2 rho2 es2 m2, Ext F H rho F2 H2 rho2 ∧ RelM G F2 H2 rho2 m2 ∧ RDs G rho2 F2 es2 zs ∧ es2.length = nk ∧ Post G W σ (RD1 G) F2 H2 rho2 (Kf es2 m2) Q) I (tI.mk rm re ?_)) fun ws s2 ⟨zs, H2, I2, rz, F2, rho2, es2, m2, x2, rm2, rr2, hl2, hp2⟩ => ⟨I2.kIn, hf ws s2 zs H2 F2 rho2 m2 es2 I2 rz hl2 x2 rm2 rr2 hp2⟩
  cases hv : evs g as2 e m with
  | no => rw [hv] at hp; exact hp.elim
  | ex y m2 => rw [hv] at hp; exact hp
  | ok xs m2 =>
    rw [hv] at hp
    simp only [Res.bind_ok] at hp
    intro vs H' F' rho' x' r' rd'
    exact ⟨F', rho', xs, m2, x', r', rd', hnk hv, hp.ext x'⟩
/-- positional ones, then keywords -/
theorem pos_args (hnp : ∀ {e m xs m1}, evs g as e m = .ok xs m1 → xs.length = np) (hnk : ∀ {e m xs m1}, evs g as2 e m = .ok xs m1 → xs.length = nk) (ha : SA X G W g es as) (hkw : SK X G W g kws as2) {Kf : List D → Mem → Res D} {e : Ev} {pins : List (Addr × Obj)} {σ : L2.St} {H F : Hp} {rho : List Addr} {m : Mem} {s : Shared} {Q : VK} {γ : Type} {QQ : γ → Shared → Prop} {ff : List Value → List Value → Sem γ}
    (I : Inv X pins σ H s) (rm : RelM G F H rho m) (re : RelE G F rho e σ) (hp : Post G W σ (RD1 G) F H rho ((evs g (as.app as2) e m).bind Kf) Q)
    (hf : ∀ (us ws : List Value) (s2 : Shared) (vs zs : List V) (H2 F2 : Hp) (rho2 : List Addr) (m2 : Mem) (ds es2 : List D), Inv X pins σ H2 s2 → Vals vs us → Vals zs ws → ds.length = np → es2.length = nk → Ext F H rho F2 H2 rho2 → RelM G F2 H2 rho2 m2 → RDs G rho2 F2 ds vs → RDs G rho2 F2 es2 zs → Post G W σ (RD1 G) F2 H2 rho2 (Kf (ds ++ es2) m2) Q →
      wpAny (model X.prog X.w) X.A (ff us ws) QQ X.xe s2) :
    wpAny (model X.prog X.w) X.A (spliced (backTo pos (starEach es X.env))) (fun us s₁ => wpAny (model X.prog X.w) X.A (evalAll ((backToKw pos (keywordEach kws X.env)).map (·.2))) (fun ws s₂ => X.K.In s₂.heap ∧ wpAny (model X.prog X.w) X.A (ff us ws) QQ X.xe s₂) X.xe s₁) X.xe s := by
  rw [evs_app] at hp
  refine thn (ha.run pos pins s σ H (fun vs H1 => ∃ F1 rho1 ds m1, Ext F H rho F1 H1 rho1 ∧ RelM G F1 H1 rho1 m1 ∧ RDs G rho1 F1 ds vs ∧ ds.length = np ∧ RelE G F1 rho1 e σ ∧ Post G W σ (RD1 G) F1 H1 rho1 ((evs g as2 e m1).bind fun ys m2 => Kf (ds ++ ys) m2) Q) I (tI.mk rm re ?_)) fun us s1 ⟨vs, H1, I1, r1, F1, rho1, ds, m1, x1, rm1, rr, hl1, re1, hp1⟩ => ?_
  · cases hv : evs g as e m with
    | no => rw [hv] at hp; exact hp.elim
    | ex y m1 => rw [hv] at hp; exact hp
    | ok xs m1 =>
      rw [hv] at hp
      simp only [Res.bind_ok] at hp
      intro vs H' F' rho' x' r' rd'
      refine ⟨F', rho', xs, m1, x', r', rd', hnp hv, x'.rde rm re, ?_⟩
      have hp' := hp.ext x'
      cases hw : evs g as2 e m1 with
      | no => rw [hw] at hp'; exact hp'.elim
      | ex y m2 => rw [hw] at hp'; exact hp'
      | ok ys m2 => rw [hw] at hp'; exact hp'
  · exact kw_args (Kf := fun ys m2 => Kf (ds ++ ys) m2) hnk hkw I1 rm1 re1 hp1 fun ws s2 zs H2 F2 rho2 m2 es2 I2 rz hl2 x2 rm2 rr2 hp2 => hf us ws s2 vs zs H2 F2 rho2 m2 ds es2 I2 r1 rz hl1 hl2 (x1.trans x2) rm2 (x2.rds rm1 rr) rr2 hp2
/-- the values in the parameters' order -/
theorem arr_all {vs zs dvs : List V} {us ws dl : List Value} {ds es2 dv : List D} {rho : List Addr} {F : Hp} {as' : List D} (r1 : Vals vs us) (rz : Vals zs ws) (rd : Vals dvs dl) (rr : RDs G rho F ds vs) (rr2 : RDs G rho F es2 zs) (rv : RDs G rho F dv dvs) (hv : arr ar (ds ++ es2 ++ dv) = some as') :
    ∃ vs' us', RDs G rho F as' vs' ∧ Vals vs' us' ∧ arr ar (us ++ ws ++ dl) = some us' := by
  obtain ⟨vs', e1, e2⟩ := arr_rds ((rr.append rr2).append rv) hv
  obtain ⟨us', e3, e4⟩ := arr_vals ((r1.append rz).append rd) e1
  exact ⟨vs', us', e2, e4, e3⟩
/-- the call of a method -/
theorem meth_run {dv : List D} {dvs : List V} (C : CalX X G a fd ps k h) (hk : KPatM X.K fd ps np ks ar dvs) (hdv : ∀ rho F, RDs G rho F dv dvs) (tk : Takes X W) (hr : Room k X.A) {pins : List (Addr × Obj)} {σ : L2.St} {H F : Hp} {rho : List Addr} {m : Mem} {s : Shared} {Q : VK} {us ws : List Value} {vs zs : List V} {ds es2 : List D} {x : D} {p : Addr}
    (I : Inv X pins σ H s) (r1 : Vals vs us) (rz : Vals zs ws) (hl1 : ds.length = np) (hl2 : es2.length = ks.length) (rm : RelM G F H rho m) (rx : RD G rho F x (.ref p)) (rr : RDs G rho F ds vs) (rr2 : RDs G rho F es2 zs)
    (hp : Post G W σ (RD1 G) F H rho (match arr ar (ds ++ es2 ++ dv) with
      | some as => h (x :: as) m
      | none => .no) Q) : wpAny (model X.prog X.w) X.A (call (.ref a) (.ref p :: us) (ks.zip ws)) (EP X pins σ Q) X.xe s := by
  obtain ⟨dl, rdl, hb⟩ := hk
  cases hv : arr ar (ds ++ es2 ++ dv) with
  | none => rw [hv] at hp; exact hp.elim
  | some as' =>
    rw [hv] at hp
    dsimp only at hp
    obtain ⟨vs', us', w1, w2, w3⟩ := arr_all r1 rz rdl rr rr2 (hdv rho F) hv
    by_cases hl : (x :: as').length = ps.length
    · have b := hb s (.ref p) us ws us' I.kIn (by rw [← r1.length, ← rr.length, hl1]) (by rw [← rz.length, ← rr2.length, hl2]) w3
      refine wpAny_call (codeAny_mono (C.ok.run X.A X.stack s H ⟨.ref p :: us, ks.zip ws⟩ (.ref p :: us') (.ref p :: vs') Q (WE W σ) hr I.env0 b (.cons rfl w2) ⟨F, rho, m, x :: as', rm, .cons rx w1, hl, hp.sig fun _ _ _ h => h⟩) fun r s' hq => ?_)
      cases r with
      | error er => exact passAt tk σ pins H s er s' I hq
      | ok fl =>
        cases fl with
        | ret u => exact I.after hq
        | next => exact False.elim hq
        | brk => exact False.elim hq
        | cont => exact False.elim hq
    · rw [C.ar _ m hl] at hp
      exact hp.elim
/-- behind the object -/
theorem meth_obj {dv : List D} {dvs : List V} (B : Base X G W g) (C : CalX X G a fd ps k (g.call c f)) (hk : KPatM X.K fd ps np ks ar dvs) (hdv : ∀ rho F, RDs G rho F dv dvs) (hr : g.cur.isNone = true → Room k X.A) (hC : G.own c = some CC) (hcl : Cls X.K CC) (hm : Meth X.K CC (Str.ofString f) a) (ho : SE X G W g eo o) {asx : Es}
    (hks : (backToKw pos (keywordEach kws X.env)).filterMap (·.1) = ks) (ht : MTree eo (Str.ofString f) apos pos es kws X.env pl)
    (fin : ∀ (pins : List (Addr × Obj)) (σ : L2.St) (H1 F1 : Hp) (rho1 : List Addr) (m1 : Mem) (e : Ev) (s1 : Shared) (Q : VK) (p : Addr) (Kf : List D → Mem → Res D), Inv X pins σ H1 s1 → RelM G F1 H1 rho1 m1 → RelE G F1 rho1 e σ → Post G W σ (RD1 G) F1 H1 rho1 ((evs g asx e m1).bind Kf) Q →
      (∀ (us ws : List Value) (s2 : Shared) (vs zs : List V) (H2 F2 : Hp) (rho2 : List Addr) (m2 : Mem) (ds es2 : List D), Inv X pins σ H2 s2 → Vals vs us → Vals zs ws → ds.length = np → es2.length = ks.length → Ext F1 H1 rho1 F2 H2 rho2 → RelM G F2 H2 rho2 m2 → RDs G rho2 F2 ds vs → RDs G rho2 F2 es2 zs → Post G W σ (RD1 G) F2 H2 rho2 (Kf (ds ++ es2) m2) Q →
        wpAny (model X.prog X.w) X.A (call (.ref a) ([.ref p] ++ us) (((backToKw pos (keywordEach kws X.env)).filterMap (·.1)).zip ws)) (EP X pins σ Q) X.xe s2) →
      wpAny (model X.prog X.w) X.A (callWith pos (.ref a) [.ref p] (backTo pos (starEach es X.env)) (backToKw pos (keywordEach kws X.env))) (EP X pins σ Q) X.xe s1) :
    SE X G W g (.Call (.Attribute eo (Str.ofString f) apos) es kws pos) (.meth c f o asx ar dv) := by
  refine ⟨fun pins s σ H Q I h => ?_⟩
  obtain ⟨F, rho, m, e, r, re, hp⟩ := h
  rw [ev] at hp
  obtain ⟨hcur, hp⟩ := Post.ite hp
  refine PySem.W.methodCall_KW (pl := pl) (thn (ho.run pins s σ H _ I (tI.mk r re (Post.bind (R1 := RD1 G) hp))) fun u s1 ⟨x, H1, I1, rx, F1, rho1, d, m1, x1, r1, rr, hp1⟩ => ?_) ht
  dsimp only at hp1
  split at hp1
  · rename_i c' fs ev_
    obtain ⟨hc, hp2⟩ := Post.ite hp1
    simp only [Bool.and_eq_true, beq_iff_eq] at hc
    obtain ⟨rfl, hno⟩ := hc
    obtain ⟨p, C', dx, fvs, rfl, hC', h1, h2⟩ := r1.vwi rr ev_
    rw [hC] at hC'
    cases hC'
    cases rx
    have hl : fvs.lookup (Str.ofString f) = none := RDf.none f h2 (by simpa using hno)
    refine getmeth_ok I1 h1 hcl hm hl ?_
    refine fin pins σ H1 F1 rho1 m1 e s1 Q p _ I1 r1 (x1.rde r re) hp2 fun us ws s2 vs zs H2 F2 rho2 m2 ds es2 I2 rv rz l1 l2 x2 rm2 rr2 rr3 hp3 => ?_
    rw [hks]
    exact meth_run C hk hdv B.tk (hr hcur) I2 rv rz l1 l2 rm2 (x2.rd r1 rr) rr2 rr3 hp3
  · exact hp1.elim
theorem se_methK {dv : List D} {dvs : List V} (B : Base X G W g) (C : CalX X G a fd ps k (g.call c f)) (hk : KPatM X.K fd ps np ks ar dvs) (hdv : ∀ rho F, RDs G rho F dv dvs) (hr : g.cur.isNone = true → Room k X.A) (hC : G.own c = some CC) (hcl : Cls X.K CC) (hm : Meth X.K CC (Str.ofString f) a) (ho : SE X G W g eo o)
    (hnp : ∀ {e m xs m1}, evs g as e m = .ok xs m1 → xs.length = np) (hnk : ∀ {e m xs m1}, evs g as2 e m = .ok xs m1 → xs.length = ks.length) (ha : SA X G W g (ea :: es) as) (hkw : SK X G W g kws as2) (he : notStar ea = true) (hall : (backToKw pos (keywordEach kws X.env)).all (·.1.isSome) = true) (hks : (backToKw pos (keywordEach kws X.env)).filterMap (·.1) = ks)
    (hpl : ((backTo pos (starEach (ea :: es) X.env)).any (·.1) || (backToKw pos (keywordEach kws X.env)).any (·.1.isNone)) = false) (ht : MTree eo (Str.ofString f) apos pos (ea :: es) kws X.env pl) : SE X G W g (.Call (.Attribute eo (Str.ofString f) apos) (ea :: es) kws pos) (.meth c f o (as.app as2) ar dv) :=
  meth_obj B C hk hdv hr hC hcl hm ho hks ht fun pins σ H1 F1 rho1 m1 e s1 Q p Kf I1 r1 re1 hp2 fin =>
    PySem.W.callWith_KW (first := [.ref p]) (h₀ := X.base) I1.ok.mod.kin hm.kp hall (pos_args hnp hnk ha hkw I1 r1 re1 hp2 fin) hpl (starEach_of he)
theorem se_methK0 {dv : List D} {dvs : List V} (B : Base X G W g) (C : CalX X G a fd ps k (g.call c f)) (hk : KPatM X.K fd ps 0 ks ar dvs) (hdv : ∀ rho F, RDs G rho F dv dvs) (hr : g.cur.isNone = true → Room k X.A) (hC : G.own c = some CC) (hcl : Cls X.K CC) (hm : Meth X.K CC (Str.ofString f) a) (ho : SE X G W g eo o)
    (hnk : ∀ {e m xs m1}, evs g as2 e m = .ok xs m1 → xs.length = ks.length) (hkw : SK X G W g kws as2) (hall : (backToKw pos (keywordEach kws X.env)).all (·.1.isSome) = true) (hks : (backToKw pos (keywordEach kws X.env)).filterMap (·.1) = ks)
    (hpl : ((backTo pos (starEach [] X.env)).any (·.1) || (backToKw pos (keywordEach kws X.env)).any (·.1.isNone)) = false) (ht : MTree eo (Str.ofString f) apos pos [] kws X.env pl) : SE X G W g (.Call (.Attribute eo (Str.ofString f) apos) [] kws pos) (.meth c f o as2 ar dv) :=
  meth_obj B C hk hdv hr hC hcl hm ho hks ht fun pins σ H1 F1 rho1 m1 e s1 Q p Kf I1 r1 re1 hp2 fin =>
    PySem.W.callWith_KW0 (first := [.ref p]) (h₀ := X.base) I1.ok.mod.kin hm.kp hall (kw_args hnk hkw I1 r1 re1 hp2 fun ws s2 zs H2 F2 rho2 m2 es2 I2 rz l2 x2 rm2 rr2 hp3 => fin [] ws s2 [] zs H2 F2 rho2 m2 [] es2 I2 .nil rz rfl l2 x2 rm2 .nil rr2 hp3) hpl
/-! ### new instances -/
theorem run_makeK {pins : List (Addr × Obj)} {σ : L2.St} {H : Hp} {s : Shared} {Q : VK} {us ws us' : List Value} {vs' : List V} {C f : Addr} {sp : Sp} {E : L2.St → XK} {CXt : CXT} (M : Mk X.K C f) (F : FnOk X.prog X.w X.K X.mg X.base CXt k f fd ps sp) (hr : Room (k + 1) X.A)
    (hb : ∀ (s : Shared) (self : Value), X.K.In s.heap → BindsTo s fd ⟨self :: us, ks.zip ws⟩ (ps.zip (self :: us'))) (hx : PassesAt CXt X σ (E σ)) (I : Inv X pins σ H s) (r : Vals vs' us')
    (h : ∀ x dx, H x = none → H dx = none → dx ≠ x → sp (.ref x :: vs') (upd (upd H dx (.own x)) x (.ins C dx [])) (fun v H2 => v = .non ∧ Q (.ref x) H2) (E σ)) :
    wpAny (model X.prog X.w) X.A (call (.ref C) us (ks.zip ws)) (EP X pins σ Q) X.xe s := by
  have hq := h (s.heap.objs.size + 1) s.heap.objs.size (I.hok.fresh (Nat.le_succ _)) (I.hok.fresh (Nat.le_refl _)) (Nat.ne_of_lt (Nat.lt_succ_self _))
  have I2 := Inv.made (C := C) I
  have r2 : Vals (V.ref (s.heap.objs.size + 1) :: vs') (Value.ref (s.heap.objs.size + 1) :: us') := .cons rfl r
  have b := hb _ (Value.ref (s.heap.objs.size + 1)) I2.kIn
  refine wpAny_call (make_map (f := f) I.kIn M.makes M.init (beq_iff_eq.mp M.fn) (codeAny_mono (F.run _ X.stack _ _ ⟨Value.ref (s.heap.objs.size + 1) :: us, ks.zip ws⟩ (Value.ref (s.heap.objs.size + 1) :: us') _ _ (E σ) (hr.make C us (ks.zip ws))
    (I2.env0.make C us (ks.zip ws)) b r2 hq) fun r s' hq' => ?_))
  cases r with
  | error e => exact hx pins _ _ e s' I2 hq'
  | ok fl =>
    cases fl with
    | ret u =>
      obtain ⟨v, H', I3, rv, ev, q3⟩ := I2.after hq'
      subst ev
      exact ⟨rv, ⟨V.ref (s.heap.objs.size + 1), H', I3, rfl, q3⟩⟩
    | next => exact False.elim hq'
    | brk => exact False.elim hq'
    | cont => exact False.elim hq'
theorem make_runK {mu : Bool} {us ws us' : List Value} {vs' : List V} {ds : List D} (B : Base X G W g) (C : CalX X G a fd ps k (g.call c "__init__")) (hb : ∀ (s : Shared) (self : Value), X.K.In s.heap → ds.length + 1 = ps.length → BindsTo s fd ⟨self :: us, ks.zip ws⟩ (ps.zip (self :: us'))) (hr : g.cur.isNone = true → Room (k + 1) X.A) (hC : G.own c = some CC) (M : Mk X.K CC a)
    {pins : List (Addr × Obj)} {σ : L2.St} {H F : Hp} {rho : List Addr} {m : Mem} {s : Shared} {Q : VK} 
    (I : Inv X pins σ H s) (r : Vals vs' us') (rm : RelM G F H rho m) (rd : RDs G rho F ds vs') (hp : Post G W σ (RD1 G) F H rho (makeG g mu c ds m) Q) : wpAny (model X.prog X.w) X.A (call (.ref CC) us (ks.zip ws)) (EP X pins σ Q) X.xe s := by
  unfold makeG at hp
  obtain ⟨hcur, hp⟩ := Post.ite hp
  by_cases har : (D.ref m.length :: ds).length = ps.length
  rotate_left
  · rw [C.ar _ _ har] at hp
    exact hp.elim
  refine run_makeK (E := WE W) M C.ok (hr hcur) (fun s self hs => hb s self hs har) (passAt B.tk σ) I r fun x dx hx hdx hne => ?_
  have rm1 : RelM G F (upd H dx (.own x)) rho m := rm.other (rm.off' hdx) (rm.notin hdx)
  have x1 : Ext F H rho F (upd H dx (.own x)) rho := (Ext.refl _ _ _).other hdx
  have hx1 : upd H dx (.own x) x = none := by rw [upd_ne (Ne.symm hne)]; exact hx
  obtain ⟨rm2, x2⟩ := rm1.cell (o := .ins CC dx []) (c := .ins c []) hx1 ⟨CC, dx, [], hC, upd_same, .nil⟩
  have x12 := x1.trans x2
  have hl : rho.length = m.length := rm.len.symm
  have gref : RD G (rho ++ [x]) F (.ref m.length) (.ref x) := .ref (by rw [← hl]; simp)
  refine ⟨F, rho ++ [x], m ++ [.ins c []], .ref m.length :: ds, rm2, .cons gref (x12.rds rm rd), har, ?_⟩
  cases hcall : g.call c "__init__" (.ref m.length :: ds) (m ++ [.ins c []]) with
  | no => rw [hcall] at hp; exact hp.elim
  | ex y m1 =>
    rw [hcall] at hp
    exact fun c dd H' F' rho' x' r' rx => hp c dd H' F' rho' (x12.trans x') r' rx
  | ok d m1 =>
    rw [hcall] at hp
    simp only [Res.bind_ok] at hp
    intro v H' F' rho' x' r' rr
    have xx := x12.trans x'
    have href : rho'[m.length]? = some x := x'.beg _ _ (by rw [← hl]; simp)
    cases d with
    | non =>
      cases rr
      refine ⟨rfl, ?_⟩
      cases mu with
      | true => exact hp _ _ _ _ xx r' (.ref href)
      | false =>
        dsimp only at hp
        rw [if_neg Bool.false_ne_true] at hp
        cases hc : m1[m.length]? with
        | none => rw [hc] at hp; exact hp.elim
        | some cc =>
          rw [hc] at hp
          cases cc with
          | ins c' fs =>
            obtain ⟨hcond, hp4⟩ := Post.ite hp
            simp only [Bool.and_eq_true, decide_eq_true_eq, beq_iff_eq] at hcond
            obtain ⟨rfl, hlen, hu, hba⟩ := hcond
            obtain ⟨C2, dx2, fvs, e0, e1, e2⟩ := r'.cel _ x _ href hc
            obtain ⟨q1, q2, q3⟩ := RelM.freeze rm r' xx hlen href hc (fun z => nomatch z) e1 hba
            have hF' := r'.off _ x _ href hc (fun z => nomatch z)
            exact hp4 _ _ _ _ q2 q1 (.ins e0 upd_same (RDf.mono (Grow.upd hF').sub (Beg.refl _) _ _ (RDf.lt q3 _ _ hu e2)))
          | _ => exact hp.elim
    | _ => exact hp.elim
variable {x : Str} {p : Pos} {mu : Bool}
theorem makek_run {dv : List D} {dvs : List V} (B : Base X G W g) (C : CalX X G a fd ps k (g.call c "__init__")) (hk : KPatM X.K fd ps np ks ar dvs) (hdv : ∀ rho F, RDs G rho F dv dvs) (hr : g.cur.isNone = true → Room (k + 1) X.A) (hC : G.own c = some CC) (M : Mk X.K CC a) {pins : List (Addr × Obj)} {σ : L2.St} {H F : Hp} {rho : List Addr} {m : Mem} {s : Shared} {Q : VK} {us ws : List Value} {vs zs : List V} {ds es2 : List D}
    (I : Inv X pins σ H s) (r1 : Vals vs us) (rz : Vals zs ws) (hl1 : ds.length = np) (hl2 : es2.length = ks.length) (rm : RelM G F H rho m) (rr : RDs G rho F ds vs) (rr2 : RDs G rho F es2 zs)
    (hp : Post G W σ (RD1 G) F H rho (match arr ar (ds ++ es2 ++ dv) with
      | some as => makeG g mu c as m
      | none => .no) Q) : wpAny (model X.prog X.w) X.A (call (.ref CC) us (ks.zip ws)) (EP X pins σ Q) X.xe s := by
  obtain ⟨dl, rdl, hb⟩ := hk
  cases hv : arr ar (ds ++ es2 ++ dv) with
  | none => rw [hv] at hp; exact hp.elim
  | some as' =>
    rw [hv] at hp
    dsimp only at hp
    obtain ⟨vs', us', w1, w2, w3⟩ := arr_all r1 rz rdl rr rr2 (hdv rho F) hv
    exact make_runK B C (fun s self hs _ => hb s self us ws us' hs (by rw [← r1.length, ← rr.length, hl1]) (by rw [← rz.length, ← rr2.length, hl2]) w3) hr hC M I w2 rm w1 hp
theorem se_makeK {dv : List D} {dvs : List V} (B : Base X G W g) (C : CalX X G a fd ps k (g.call c "__init__")) (hk : KPatM X.K fd ps np ks ar dvs) (hdv : ∀ rho F, RDs G rho F dv dvs) (hr : g.cur.isNone = true → Room (k + 1) X.A) (hC : G.own c = some CC) (M : Mk X.K CC a) (hg : L2.Gl X x) (hm : X.mg x = some (.ref CC)) (hdb : (x == ("__debug__" : Str)) = false)
    (hnp : ∀ {e m xs m1}, evs g as e m = .ok xs m1 → xs.length = np) (hnk : ∀ {e m xs m1}, evs g as2 e m = .ok xs m1 → xs.length = ks.length) (ha : SA X G W g (ea :: es) as) (hkw : SK X G W g kws as2) (he : notStar ea = true) (hall : (backToKw pos (keywordEach kws X.env)).all (·.1.isSome) = true) (hks : (backToKw pos (keywordEach kws X.env)).filterMap (·.1) = ks)
    (hpl : ((backTo pos (starEach (ea :: es) X.env)).any (·.1) || (backToKw pos (keywordEach kws X.env)).any (·.1.isNone)) = false) : SE X G W g (.Call (.Name x p) (ea :: es) kws pos) (.make mu c (as.app as2) ar dv) := by
  refine ⟨fun pins s σ H Q I h => ?_⟩
  obtain ⟨F, rho, m, e, r, re, hp⟩ := h
  rw [ev] at hp
  obtain ⟨hcur, hp⟩ := Post.ite hp
  refine wpAny_Call_Name_kw (ld_glob I hg hm ?_ hdb)
  refine PySem.W.callWith_KW (h₀ := X.base) I.ok.mod.kin M.kp hall (pos_args hnp hnk ha hkw I r re hp fun us ws s2 vs zs H2 F2 rho2 m2 ds es2 I2 rv rz l1 l2 x2 rm2 rr2 rr3 hp3 => ?_) hpl (starEach_of he)
  rw [hks]
  exact makek_run B C hk hdv hr hC M I2 rv rz l1 l2 rm2 rr2 rr3 hp3
theorem se_makeK0 {dv : List D} {dvs : List V} (B : Base X G W g) (C : CalX X G a fd ps k (g.call c "__init__")) (hk : KPatM X.K fd ps 0 ks ar dvs) (hdv : ∀ rho F, RDs G rho F dv dvs) (hr : g.cur.isNone = true → Room (k + 1) X.A) (hC : G.own c = some CC) (M : Mk X.K CC a) (hg : L2.Gl X x) (hm : X.mg x = some (.ref CC)) (hdb : (x == ("__debug__" : Str)) = false)
    (hnk : ∀ {e m xs m1}, evs g as2 e m = .ok xs m1 → xs.length = ks.length) (hkw : SK X G W g kws as2) (hall : (backToKw pos (keywordEach kws X.env)).all (·.1.isSome) = true) (hks : (backToKw pos (keywordEach kws X.env)).filterMap (·.1) = ks)
    (hpl : ((backTo pos (starEach [] X.env)).any (·.1) || (backToKw pos (keywordEach kws X.env)).any (·.1.isNone)) = false) : SE X G W g (.Call (.Name x p) [] kws pos) (.make mu c as2 ar dv) := by
  refine ⟨fun pins s σ H Q I h => ?_⟩
  obtain ⟨F, rho, m, e, r, re, hp⟩ := h
  rw [ev] at hp
  obtain ⟨hcur, hp⟩ := Post.ite hp
  refine wpAny_Call_Name_kw (ld_glob I hg hm ?_ hdb)
  refine PySem.W.callWith_KW0 (h₀ := X.base) I.ok.mod.kin M.kp hall (kw_args hnk hkw I r re hp fun ws s2 zs H2 F2 rho2 m2 es2 I2 rz l2 x2 rm2 rr2 hp3 => ?_) hpl
  rw [hks]
  exact makek_run (us := []) (vs := []) (ds := []) B C hk hdv hr hC M I2 .nil rz rfl l2 rm2 .nil rr2 hp3
end
end IP

/-! IpT -/
set_option Elab.async false
set_option linter.all false
set_option maxRecDepth 100000
set_option maxHeartbeats 4000000
/-! IpT: the check that ties my expressions and statements to the text. -/
namespace IP
open PySem L2 PyProof.Rows

/-- what the check knows of the text -/
structure Tb where
  /-- built-in names that the module leaves free -/
  free : List String
  cls : List String
  exs : List (String × List String)
  fns : List String
  mts : List (String × String)
  mks : List String
  pats : List (String × Nat × List String × List Nat)
  flds : List String
  gints : List (String × Int)
  gstrs : List (String × String)
  /-- what except clauses name -/
  hnd : List String
  /-- calls of methods and new instances with keywords, defaults -/
  mpats : List (String × String × Nat × List String × List Nat × List D) := []
  kpats : List (String × Nat × List String × List Nat × List D) := []
  /-- own operators -/
  ops : List (String × String) := []

def okN (x : Str) : Bool := !(x == ("__debug__" : Str)) && !(x == ("__classdict__" : Str))
def visB (sc : Scope) (x : Str) : Bool := match sc.names.lookup x with
  | some .local => true
  | some .cell => true
  | some .free => true
  | _ => false
def lclB (sc : Scope) (x : Str) : Bool := match sc.names.lookup x with
  | some .local => true
  | _ => false
def celB (sc : Scope) (x : Str) : Bool := match sc.names.lookup x with
  | some .cell => true
  | _ => false
def glB (sc : Scope) (x : Str) : Bool := match sc.names.lookup x with
  | some .globalImplicit => true
  | _ => false
def conB (d : D) (e : Expr) : Bool := match d, e with
  | .non, .Constant .none _ _ => true
  | .bl b, .Constant (.bool c) _ _ => b == c
  | .int i, .Constant (.int j) _ _ => i == j
  | .str x, .Constant (.str y) _ _ => decide (x = y)
  | _, _ => false
def gconB (T : Tb) (x : String) (d : D) : Bool := match d with
  | .int i => T.gints.contains (x, i)
  | .str z => T.gstrs.any fun p => p.1 == x && decide (Str.ofString p.2 = z)
  | _ => false
def noStars (es : List Expr) : Bool := es.all notStar
def notComp : Expr → Bool
  | .ListComp _ _ _ _ => false
  | .SetComp _ _ _ _ => false
  | .DictComp _ _ _ _ _ => false
  | _ => true
def clsB (T : Tb) (sc : Scope) (t : Ty) (e : Expr) : Bool := match e with
  | .Name x _ => glB sc x && (okN x && (match t with
    | .bt n => decide (x = Str.ofString n) && (decide (n ∈ btyL) && T.free.contains n)
    | .own c => decide (x = Str.ofString c) && T.cls.contains c))
  | _ => false
def clsL (T : Tb) (sc : Scope) : List Ty → List Expr → Bool
  | [], [] => true
  | t :: ts, e :: es => clsB T sc t e && clsL T sc ts es
  | _, _ => false
/-- targets: fb tells the names that may be stored as cells -/
def tgN (fb : Str → Bool) (sc : Scope) (N : List Str) (i : Nat) (e : Expr) : Bool := match e with
  | .Name x _ => decide (N[i]? = some x) && (lclB sc x || (celB sc x && fb x))
  | _ => false
def tgNs (fb : Str → Bool) (sc : Scope) (N : List Str) : List Nat → List Expr → Bool
  | [], [] => true
  | i :: is, e :: es => tgN fb sc N i e && tgNs fb sc N is es
  | _, _ => false
def tgB (fb : Str → Bool) (sc : Scope) (N : List Str) (tg : Tg) (e : Expr) : Bool := match tg with
  | .one i => tgN fb sc N i e
  | .many is => match e with
    | .Tuple es _ _ => tgNs fb sc N is es
    | _ => false
def ownL (N : List Str) (own : List Nat) : List (Str × Nat) := own.filterMap fun i => (N[i]?).map fun x => (x, i)
def Es.split : Nat → Es → Es × Es
  | 0, s => (.nil, s)
  | n + 1, .one e r => (.one e (r.split n).1, (r.split n).2)
  | n + 1, .star e r => (.star e (r.split n).1, (r.split n).2)
  | _ + 1, .nil => (.nil, .nil)
def isTup : Expr → Bool
  | .Tuple _ _ _ => true
  | _ => false
def notSetE : Expr → Bool
  | .Set _ _ _ => false
  | _ => true

/-- defaults: constants -/
def cstB : D → D → Bool
  | .non, .non => true
  | .bl a, .bl b => a == b
  | .int a, .int b => a == b
  | .str a, .str b => decide (a = b)
  | .tup [], .tup [] => true
  | _, _ => false
def cstsB : List D → List D → Bool
  | [], [] => true
  | a :: as, b :: bs => cstB a b && cstsB as bs
  | _, _ => false
theorem cstB_eq : ∀ {a b : D}, cstB a b = true → a = b := by
  intro a b h
  unfold cstB at h
  split at h
  · rfl
  · rw [eq_of_beq h]
  · rw [eq_of_beq h]
  · rw [of_decide_eq_true h]
  · rfl
  · cases h
theorem cstsB_eq : ∀ {a b : List D}, cstsB a b = true → a = b
  | [], [], _ => rfl
  | a :: as, b :: bs, h => by
    unfold cstsB at h
    rw [Bool.and_eq_true] at h
    rw [cstB_eq h.1, cstsB_eq h.2]
  | [], _ :: _, h => by cases h
  | _ :: _, [], h => by cases h
mutual
def chk (T : Tb) (sc : Scope) (N : List Str) (hs : Option Nat) (md : Bool) : E → Expr → Bool
  | .loc i, e => (match e with
    | .Name x _ => decide (N[i]? = some x) && (visB sc x && okN x)
    | _ => false)
  | .con d, e => conB d e
  | .gcon x d, e => (match e with
    | .Name y _ => decide (y = Str.ofString x) && (glB sc y && (okN y && gconB T x d))
    | _ => false)
  | .bin op a b, e => (match e with
    | .BinOp ea op' eb _ => decide (op' = op) && (chk T sc N hs false a ea && chk T sc N hs false b eb)
    | _ => false)
  | .neg a, e => (match e with
    | .UnaryOp .USub ea _ => chk T sc N hs false a ea
    | _ => false)
  | .nt a, e => (match e with
    | .UnaryOp .Not ea _ => chk T sc N hs md a ea
    | _ => false)
  | .an a b, e => (match e with
    | .BoolOp .And (ea :: eb :: rest) p => chk T sc N hs md a ea && (match rest with
      | [] => chk T sc N hs md b eb
      | _ => chk T sc N hs md b (.BoolOp .And (eb :: rest) p))
    | _ => false)
  | .orr a b, e => (match e with
    | .BoolOp .Or (ea :: eb :: rest) p => chk T sc N hs md a ea && (match rest with
      | [] => chk T sc N hs md b eb
      | _ => chk T sc N hs md b (.BoolOp .Or (eb :: rest) p))
    | _ => false)
  | .cmp op a b, e => (match e with
    | .Compare ea [op'] [eb] _ => decide (op' = op) && (notSet eb && (chk T sc N hs false a ea && chk T sc N hs false b eb))
    | _ => false)
  | .cmp2 op1 op2 a b c, e => (match e with
    | .Compare ea [o1, o2] [eb, ec] _ => (decide (o1 = op1) && decide (o2 = op2)) && (notSet ec && (chk T sc N hs false a ea && (chk T sc N hs false b eb && chk T sc N hs false c ec)))
    | _ => false)
  | .ife c a b, e => (match e with
    | .IfExp ec ea eb _ => !md && (chk T sc N hs true c ec && (chk T sc N hs false a ea && chk T sc N hs false b eb))
    | _ => false)
  | .tup es, e => (match e with
    | .Tuple ees _ _ => chkEs T sc N hs es ees
    | _ => false)
  | .lst mu es, e => (match e with
    | .List ees _ => chkEs T sc N hs es ees
    | _ => false)
  | .dic q mu kvs, e => (match e with
    | .Dict keys values _ => (match q with | .k => true | .t => true) && (decide (keys.length ≤ 15) && chkKv T sc N hs kvs keys values)
    | _ => false)
  | .comp mu elt tg it cnd own, e => (match e with
    | .ListComp eelt [⟨tge, iter, ifs, 0⟩] scope _ => (chkIt T sc N hs it tge iter && (blkC N sc scope (ownL N own) && (decide ((ownL N own).map (·.2) = own) && ((tgL tg).all (own.contains ·) && notSetE iter)))) &&
        (tgB (celB scope) (relS scope sc) N tg tge && (chkO T (relS scope sc) N none cnd ifs && chk T (relS scope sc) N none false elt eelt))
    | _ => false)
  | .comp2 mu elt tg it tg2 it2 cnd own, e => (match e with
    | .ListComp eelt [⟨tge, iter, [], 0⟩, ⟨tge2, iter2, ifs, 0⟩] scope _ => (chkIt T sc N hs it tge iter && (blkC N sc scope (ownL N own) && (decide ((ownL N own).map (·.2) = own) && ((tgL tg).all (own.contains ·) && ((tgL tg2).all (own.contains ·) && (notSetE iter && notSetE iter2)))))) &&
        (tgB (celB scope) (relS scope sc) N tg tge && (tgB (celB scope) (relS scope sc) N tg2 tge2 && (chkIt T (relS scope sc) N none it2 tge2 iter2 && (chkO T (relS scope sc) N none cnd ifs && chk T (relS scope sc) N none false elt eelt))))
    | _ => false)
  | .sub a i, e => (match e with
    | .Subscript ea ei _ => notSlice ei && (chk T sc N hs false a ea && chk T sc N hs false i ei)
    | _ => false)
  | .slc a lo hi, e => (match e with
    | .Subscript ea (.Slice l h none _) _ => chk T sc N hs false a ea && (chkOp T sc N hs lo l && chkOp T sc N hs hi h)
    | _ => false)
  | .rev a, e => (match e with
    | .Subscript ea (.Slice none none (some (.UnaryOp .USub (.Constant (.int 1) _ _) _)) _) _ => chk T sc N hs false a ea
    | _ => false)
  | .att a f, e => (match e with
    | .Attribute ea f' _ => decide (f' = Str.ofString f) && (T.flds.contains f && (baseOk ea && chk T sc N hs false a ea))
    | _ => false)
  | .exf f, e => (match e with
    | .Attribute (.Name n _) f' _ => decide (f' = Str.ofString f) && (okN n && (lclB sc n && (match hs with
      | some i => decide (N[i]? = some n)
      | none => false)))
    | _ => false)
  | .call c f es ar dv, e => (match e with
    | .Call (.Name x _) args kws _ => (c == "" && (dv.isEmpty && (decide (x = Str.ofString f) && (glB sc x && okN x)))) && (match kws with
      | [] => ar.isEmpty && (T.fns.contains f && (noStars args && chkEs T sc N hs es args))
      | kw :: kws => (match args with
        | [] => false
        | a1 :: args => (match es.split (a1 :: args).length with
          | (_, es2) => noStars (a1 :: args) && ((kw :: kws).all (fun k => k.arg.isSome) && (T.pats.any (fun p => p.1 == f && (p.2.1 == (a1 :: args).length && (decide (p.2.2.1.map Str.ofString = (kw :: kws).filterMap (·.arg)) && decide (p.2.2.2 = ar)))) && chkKs T sc N hs es (a1 :: args) (kw :: kws))))))
    | _ => false)
  | .meth c m o es ar dv, e => (match e with
    | .Call (.Attribute eo m' apos) args kws pos => if kws.isEmpty && (ar.isEmpty && dv.isEmpty) then (decide (m' = Str.ofString m) && (T.mts.contains (c, m) && (baseOk eo && (noStars args && (decide (args.length < 29) && apos.endLine == pos.line))))) && (chk T sc N hs false o eo && chkEs T sc N hs es args)
      else (decide (m' = Str.ofString m) && (baseOk eo && (noStars args && (decide (args.length + kws.length < 28) && (apos.endLine == pos.line && (kws.all (fun k => k.arg.isSome) && T.mpats.any (fun p => p.1 == c && (p.2.1 == m && (p.2.2.1 == args.length && (decide (p.2.2.2.1.map Str.ofString = kws.filterMap (·.arg)) && (decide (p.2.2.2.2.1 = ar) && cstsB p.2.2.2.2.2 dv))))))))))) && (chk T sc N hs false o eo && chkKs T sc N hs es args kws)
    | _ => false)
  | .make mu c es ar dv, e => (match e with
    | .Call (.Name x _) args kws _ => if kws.isEmpty && (ar.isEmpty && dv.isEmpty) then (decide (x = Str.ofString c) && (glB sc x && (okN x && (T.mks.contains c && noStars args)))) && chkEs T sc N hs es args
      else (decide (x = Str.ofString c) && (glB sc x && (okN x && (noStars args && (kws.all (fun k => k.arg.isSome) && T.kpats.any (fun p => p.1 == c && (p.2.1 == args.length && (decide (p.2.2.1.map Str.ofString = kws.filterMap (·.arg)) && (decide (p.2.2.2.1 = ar) && cstsB p.2.2.2.2 dv))))))))) && chkKs T sc N hs es args kws
    | _ => false)
  | .bi b es, e => (match e with
    | .Call (.Name x _) (a1 :: args) [] _ => (decide (x = (biName b).1) && (glB sc x && (T.free.any (fun f => decide (Str.ofString f = x)) && noStars (a1 :: args)))) && chkEs T sc N hs es (a1 :: args)
    | _ => false)
  | .seq t a, e => (match e with
    | .Call (.Name x _) [a1] [] _ => (decide (x = (sqName t).1) && (glB sc x && (T.free.any (fun f => decide (Str.ofString f = x)) && notStar a1))) && chk T sc N hs false a a1
    | _ => false)
  | .bm b o a, e => (match e with
    | .Call (.Attribute eo m' apos) [ea] [] pos => (decide (m' = Str.ofString (bmName b)) && (baseOk eo && (notStar ea && apos.endLine == pos.line))) && (chk T sc N hs false o eo && chk T sc N hs false a ea)
    | _ => false)
  | .isi a ts, e => (match e with
    | .Call (.Name x _) [ea, ec] [] _ => (decide (x = Str.ofString "isinstance") && (glB sc x && (T.free.contains "isinstance" && notStar ea))) && ((match ec with
      | .Tuple es _ _ => !ts.isEmpty && (decide (es.length ≤ 100) && clsL T sc ts es)
      | ec => (match ts with
        | [t] => clsB T sc t ec
        | _ => false)) && chk T sc N hs false a ea)
    | _ => false)
  | .fst _, _ => false
  | .frz a, e => (match e with
    | .Dict _ _ _ => chk T sc N hs false a e
    | _ => false)
  | .dup a k v, e => (match e with
    | .Dict [none, some ek] [ea, ew] _ => chk T sc N hs false a ea && (chk T sc N hs false k ek && chk T sc N hs false v ew)
    | _ => false)
def chkEs (T : Tb) (sc : Scope) (N : List Str) (hs : Option Nat) : Es → List Expr → Bool
  | .nil, es => es.isEmpty
  | .one a r, es => (match es with
    | ea :: rest => notStar ea && (chk T sc N hs false a ea && chkEs T sc N hs r rest)
    | [] => false)
  | .star a r, es => (match es with
    | .Starred ea _ :: rest => chk T sc N hs false a ea && chkEs T sc N hs r rest
    | _ => false)
def chkKv (T : Tb) (sc : Scope) (N : List Str) (hs : Option Nat) : Kv → List (Option Expr) → List Expr → Bool
  | .nil, ks, vs => ks.isEmpty && vs.isEmpty
  | .cons k v r, ks, vs => (match ks, vs with
    | some ek :: ks, ev :: vs => chk T sc N hs false k ek && (chk T sc N hs false v ev && chkKv T sc N hs r ks vs)
    | _, _ => false)
/-- positional ones, then keywords -/
def chkKs (T : Tb) (sc : Scope) (N : List Str) (hs : Option Nat) : Es → List Expr → List Keyword → Bool
  | .nil, es, ks => es.isEmpty && ks.isEmpty
  | .one a r, es, ks => (match es with
    | ea :: rest => chk T sc N hs false a ea && chkKs T sc N hs r rest ks
    | [] => (match ks with
      | ⟨_, ea, _⟩ :: rest => chk T sc N hs false a ea && chkKs T sc N hs r [] rest
      | [] => false))
  | .star _ _, _, _ => false
def chkO (T : Tb) (sc : Scope) (N : List Str) (hs : Option Nat) : Oe → List Expr → Bool
  | .non, es => es.isEmpty
  | .som a, es => (match es with
    | [ea] => chk T sc N hs true a ea
    | _ => false)
def chkOp (T : Tb) (sc : Scope) (N : List Str) (hs : Option Nat) : Oe → Option Expr → Bool
  | .non, e => e.isNone
  | .som a, e => (match e with
    | some ea => chk T sc N hs false a ea
    | none => false)
def chkIt (T : Tb) (sc : Scope) (N : List Str) (hs : Option Nat) : It → Expr → Expr → Bool
  | .seq a, _, e => chk T sc N hs false a e
  | .rng1 a, _, e => (match e with
    | .Call (.Name x _) [ea] [] _ => (decide (x = Str.ofString "range") && (glB sc x && (T.free.contains "range" && notStar ea))) && chk T sc N hs false a ea
    | _ => false)
  | .rng2 a b, _, e => (match e with
    | .Call (.Name x _) [ea, eb] [] _ => (decide (x = Str.ofString "range") && (glB sc x && (T.free.contains "range" && (notStar ea && notStar eb)))) && (chk T sc N hs false a ea && chk T sc N hs false b eb)
    | _ => false)
  | .rng3 a b c, _, e => (match e with
    | .Call (.Name x _) [ea, eb, ec] [] _ => (decide (x = Str.ofString "range") && (glB sc x && (T.free.contains "range" && (notStar ea && (notStar eb && notStar ec))))) && (chk T sc N hs false a ea && (chk T sc N hs false b eb && chk T sc N hs false c ec))
    | _ => false)
  | .enum a, tg, e => (match e with
    | .Call (.Name x _) [ea] [] _ => (decide (x = Str.ofString "enumerate") && (glB sc x && (T.free.contains "enumerate" && (notStar ea && isTup tg)))) && chk T sc N hs false a ea
    | _ => false)
  | .zip a b, tg, e => (match e with
    | .Call (.Name x _) [ea, eb] [] _ => (decide (x = Str.ofString "zip") && (glB sc x && (T.free.contains "zip" && (notStar ea && (notStar eb && isTup tg))))) && (chk T sc N hs false a ea && chk T sc N hs false b eb)
    | _ => false)
  | .items _, _, _ => false
  | .vals _, _, _ => false
end
/-- a, b = x, y is stored from the right -/
def swapB (sc : Scope) (x y : Str) (px py : Pos) (ea eb : Expr) : Bool :=
  (lclB sc x && lclB sc y) && ((px.line == py.line && !decide (x = y)) && ((notStar ea && notStar eb) && (!(foldedForSure 8 ea && foldedForSure 8 eb) && !(constantsAlone 8 ea && constantsAlone 8 eb))))
def isNameTo (x : Str) : Expr → Bool
  | .Name y _ => decide (y = x)
  | _ => false
mutual
def chkS (T : Tb) (sc : Scope) (N : List Str) (hs : Option Nat) : S → Stmt → Bool
  | .expr a, s => (match s with
    | .Expr e _ => notComp e && chk T sc N hs false a e
    | _ => false)
  | .set i a, s => (match s with
    | .Assign [.Name x p] e _ => (decide (N[i]? = some x) && ((lclB sc x || celB sc x) && !decide (hs = some i))) && (((notComp e || celB sc x) || (lclB sc x && (p.line == e.pos.line && (match e with
        | .ListComp _ _ scope _ => !(scope.names.any fun (n, k) => n == x && (k == .local || k == .cell))
        | _ => false)))) && chk T sc N hs false a e)
    | _ => false)
  | .unp is a, s => (match s with
    | .Assign [.Tuple es k p] e _ => !isTup e && (tgNs (fun _ => true) sc N is es && chk T sc N hs false a e)
    | _ => false)
  | .par i j a b, s => (match s with
    | .Assign [.Tuple [.Name x px, .Name y py] _ _] (.Tuple [ea, eb] _ _) _ => (decide (N[i]? = some x) && (decide (N[j]? = some y) && (!decide (i = j) && swapB sc x y px py ea eb))) && (chk T sc N hs false a ea && chk T sc N hs false b eb)
    | _ => false)
  | .fld o f a, s => (match s with
    | .Assign [.Attribute eo f' _] e _ => (decide (f' = Str.ofString f) && T.flds.contains f) && (chk T sc N hs false o eo && chk T sc N hs false a e)
    | _ => false)
  | .sub o i a, s => (match s with
    | .Assign [.Subscript eo ei _] e _ => notSlice ei && (chk T sc N hs false o eo && (chk T sc N hs false i ei && chk T sc N hs false a e))
    | _ => false)
  | .app o a, s => (match s with
    | .Expr (.Call (.Attribute eo m p) [ea] [] cpos) _ => (decide (m = Str.ofString "append") && (notStar ea && (baseOk eo && p.endLine == cpos.line))) && (chk T sc N hs false o eo && chk T sc N hs false a ea)
    | _ => false)
  | .clr o, s => (match s with
    | .Expr (.Call (.Attribute eo m p) [] [] cpos) _ => (decide (m = Str.ofString "clear") && (baseOk eo && p.endLine == cpos.line)) && chk T sc N hs false o eo
    | _ => false)
  | .ifs c t u, s => (match s with
    | .If ec t' u' _ => chk T sc N hs true c ec && (chkSs T sc N hs t t' && chkSs T sc N hs u u')
    | _ => false)
  | .for_ tg it b, s => (match s with
    | .For tge ite b' [] _ => (tgB (fun _ => true) sc N tg tge && notSetE ite) && (chkIt T sc N hs it tge ite && chkSs T sc N hs b b')
    | _ => false)
  | .wh c b, s => (match s with
    | .While ec b' [] _ => chk T sc N hs true c ec && chkSs T sc N hs b b'
    | _ => false)
  | .ret a, s => (match s with
    | .Return (some e) _ => chk T sc N hs false a e
    | _ => false)
  | .ret0, s => (match s with
    | .Return none _ => true
    | _ => false)
  | .rais c es, s => (match s with
    | .Raise (some (.Call (.Name x _) args [] _)) none _ => (decide (x = Str.ofString c) && (glB sc x && (okN x && (T.exs.any (fun p => p.1 == c) && noStars args)))) && chkEs T sc N hs es args
    | _ => false)
  | .try_ b hl, s => (match s with
    | .Try b' (h :: hds) [] [] _ => hs.isNone && (chkSs T sc N none b b' && chkH T sc N hl (h :: hds))
    | _ => false)
  | .pass, s => (match s with
    | .Pass _ => true
    | _ => false)
  | .brk, s => (match s with
    | .Break _ => true
    | _ => false)
  | .cnt, s => (match s with
    | .Continue _ => true
    | _ => false)
def chkSs (T : Tb) (sc : Scope) (N : List Str) (hs : Option Nat) : Ss → List Stmt → Bool
  | .nil, ss => ss.isEmpty
  | .cons a r, ss => (match ss with
    | s :: rest => chkS T sc N hs a s && chkSs T sc N hs r rest
    | [] => false)
def chkH (T : Tb) (sc : Scope) (N : List Str) : Hs → List ExceptHandler → Bool
  | .nil, hds => hds.isEmpty
  | .cons c o b r, hds => (match hds with
    | .ExceptHandler (some (.Name x _)) n (b₀ :: suite) _ :: rest => (decide (x = Str.ofString c) && (glB sc x && (okN x && T.hnd.contains c))) && ((match o, n with
      | none, none => true
      | some i, some n => decide (N[i]? = some n) && lclB sc n
      | _, _ => false) && (chkSs T sc N o b (b₀ :: suite) && chkH T sc N r rest))
    | _ => false)
end
end IP

/-! IpTa -/
set_option Elab.async false
set_option linter.all false
set_option maxRecDepth 100000
set_option maxHeartbeats 4000000
/-! IpTa: the operators of one's own classes. -/
namespace IP
open PySem L2 PyProof.Rows
section
variable {prog : Program} {w : World} {A : Around} {E : Value → Shared → Prop} {s : Shared} {K : PySem.W.Frag} {x C f : Addr} {ox : Obj} {od : Option Obj} {b tb : Value}
theorem ifBound_objNe {args : List Value} {Q : Option Value → Shared → Prop} (X : K.In s.heap) (I : PySem.W.InstAt s.heap x ox C od) (hs : PySem.W.findIn K (.ref C) "__ne__" = some (some (.builtin "object.__ne__")))
    (h : wpAny (model prog w) A (call (.builtin "object.__ne__") (.ref x :: args)) (fun v => Q (some v)) E s) : wpAny (model prog w) A (callSpecialIfBound? (.ref x) "__ne__" args) Q E s := by
  simp only [callSpecialIfBound?, bindSpecialIfBound?]
  refine wpAny_holding (wpAny_bind (wpAny_bind (wpAny_bind (I.type.here ((PySem.W.looks_findIn X hs).here ?_)))))
  refine wpAny_bind (wpAny_askSetting (wpAny_ite ?_))
  have fin : wpAny (model prog w) A (call (.builtin "object.__ne__") ([.ref x] ++ args) >>= fun v => pure (some v)) Q E s := wpAny_bind (wpAny_mono h (fun v s' h' => wpAny_pure h') fun _ _ h' => h')
  split
  · exact wpAny_bind (wpAny_of_eq (F.cmp_object.ne.bind _) (wpAny_pure (by exact fin)))
  · exact wpAny_tryCatch (wpAny_bind (wpAny_of_eq (F.cmp_object.ne.bind _) (wpAny_pure (by exact fin))))
theorem entry_objNe (hu : A.units < cLine) (X : K.In s.heap) (I : PySem.W.InstAt s.heap x ox C od) (hs : PySem.W.findIn K (.ref C) "__eq__" = some (some (.ref f))) (hf : PySem.W.isFn K (.ref f) = true) {Q : Fin → Shared → Prop}
    (hcall : wpAny (model prog w) A (call (.ref f) [.ref x, b]) (fun v s' => ∃ r, v = .bool r ∧ Q (.done (.ret (.bool (!r)))) s') E s) :
    wpAny (model prog w) A (Builtin.«object.__ne__» ⟨[.ref x, b], []⟩) Q E s := by
  unfold Builtin.«object.__ne__»
  repeat (first
    | with_reducible refine wpAny_cRoomFor hu ?_
    | (refine wpAny_bind (m := callSpecialIfBound? (.ref x) (Str.ofString "__eq__") [b])
        (PySem.W.ifBound_K X I hs hf (wpAny_mono hcall (fun r s' hr => by
          obtain ⟨b, rfl, hq⟩ := hr
          repeat (first | exact hq | exact wpAny_pure hq | exact wpAny_truthy_bool hq | (refine wpAny_bind (m := truthy (.bool _)) (wpAny_truthy_bool ?_)) | wp_step)) fun _ _ e => e)))
    | wp_step)
theorem call_objNe (hu : A.units + 1 < cLine) (X : K.In s.heap) (I : PySem.W.InstAt s.heap x ox C od) (hm : PySem.W.mroIn K C (.type "object") = some true) (hs : PySem.W.findIn K (.ref C) "__eq__" = some (some (.ref f))) (hf : PySem.W.isFn K (.ref f) = true) {Q : Value → Shared → Prop}
    (hcall : wpAny (model prog w) A.in1 (call (.ref f) [.ref x, b]) (fun v s' => ∃ r, v = .bool r ∧ Q (.bool (!r)) s') E s) : wpAny (model prog w) A (call (.builtin "object.__ne__") [.ref x, b]) Q E s :=
  wpAny_call (codeAny_call_builtin F.cmp_object.ne.plain F.cmpEntry_ne (PySem.W.check_slot F.cmpKind_ne F.cmpSplit_ne (I.type.andThen (PySem.W.looks_mroIn X hm)) (F.cmpArgs_ne _ _) (entry_objNe (A := A.in1) hu X I hs hf hcall)))
/-- x != y by an own __eq__ -/
theorem ne_K {Q : Value → Shared → Prop} (hu : A.units + 1 < cLine) (X : K.In s.heap) (I : PySem.W.InstAt s.heap x ox C od) (hb : PySem.W.Looks (model prog w) s.heap (typeOf b) tb) (hn : PySem.W.notFirst K C tb = true) (hm : PySem.W.mroIn K C (.type "object") = some true)
    (he : PySem.W.findIn K (.ref C) "__ne__" = some (some (.builtin "object.__ne__"))) (hs : PySem.W.findIn K (.ref C) "__eq__" = some (some (.ref f))) (hf : PySem.W.isFn K (.ref f) = true)
    (hcall : wpAny (model prog w) A.in1 (call (.ref f) [.ref x, b]) (fun v s' => ∃ r, v = .bool r ∧ Q (.bool (!r)) s') E s) : wpAny (model prog w) A (richCompare .NotEq (.ref x) b) Q E s := by
  have one : wpAny (model prog w) A (tryCompare (.ref x) "__ne__" b) (fun r s' => ∃ v, r = some v ∧ Q v s') E s := by
    unfold tryCompare
    refine wpAny_bind (ifBound_objNe X I he (call_objNe hu X I hm hs hf (wpAny_mono hcall (fun v s' hv => ?_) fun _ _ e => e)))
    obtain ⟨r, rfl, hq⟩ := hv
    exact ⟨r, rfl, wpAny_pure ⟨_, rfl, hq⟩⟩
  unfold richCompare
  simp only [oneThing_ref]
  refine wpAny_holding (wpAny_bind (wpAny_cRoomFor (Nat.lt_of_succ_lt hu) ?_))
  rw [cmpInfo_NotEq]
  dsimp only
  refine wpAny_bind (I.type.here (wpAny_bind (hb.here ?_)))
  split
  · rename_i q
    have e : PySem.W.subIn K tb (.ref C) = some false := by
      rcases Bool.or_eq_true_iff.mp hn with e | e
      · rw [beq_iff_eq.mp e] at q; simp at q
      · exact beq_iff_eq.mp e
    refine wpAny_bind ((PySem.W.looks_subIn X e).here ?_)
    simp only [Bool.false_eq_true, if_false]
    refine wpAny_bind (wpAny_mono one (fun r s' z => ?_) fun _ _ e => e)
    obtain ⟨v, rfl, hq⟩ := z
    exact wpAny_pure hq
  · refine wpAny_bind (wpAny_pure ?_)
    simp only [Bool.false_eq_true, if_false]
    refine wpAny_bind (wpAny_mono one (fun r s' z => ?_) fun _ _ e => e)
    obtain ⟨v, rfl, hq⟩ := z
    exact wpAny_pure hq
end
end IP

/-! IpU -/
set_option Elab.async false
set_option linter.all false
set_option maxRecDepth 100000
set_option maxHeartbeats 4000000
/-! IpU: the check is sound: expressions. -/
namespace IP
open PySem L2 PyProof.Rows

def dunds : List String := ["__eq__", "__lt__", "__le__", "__add__", "__sub__", "__mul__", "__neg__", "__len__"]
def rName (d : String) : Str := if d == "__add__" then "__radd__" else if d == "__sub__" then "__rsub__" else "__rmul__"
/-- what stands behind an own operator -/
structure OpK (K : PySem.W.Frag) (G : GC) (C : Addr) (d : String) (a : Addr) : Prop where
  at_ : PySem.W.findIn K (.ref C) (Str.ofString d) = some (some (.ref a))
  fn : PySem.W.isFn K (.ref a) = true
  nf : ∀ t ∈ tagL, PySem.W.notFirst K C (.type t) = true
  nfo : ∀ {c' : String} {C' : Addr}, G.own c' = some C' → PySem.W.notFirst K C (.ref C') = true
  self : PySem.W.selfFirst K C = true
  hm : PySem.W.mroIn K C (.type "object") = some true
  ne : PySem.W.findIn K (.ref C) "__ne__" = some (some (.builtin "object.__ne__"))
  ar : d ∈ ["__add__", "__sub__", "__mul__"] → PySem.W.findIn K (.ref C) (rName d) = some none ∧ (∃ fo, PySem.W.findIn K (.type "int") (Str.ofString d) = some fo) ∧ (∃ ro, PySem.W.findIn K (.type "int") (rName d) = some ro) ∧ PySem.W.subIn K (.type "int") (.ref C) = some false
/-- the own operators that are reached -/
def Ops (X : Cx) (G : GC) (g : Gl) : Prop := ∀ {c d : String}, g.has c d = true → ∃ CC a fd ps k, G.own c = some CC ∧ OpK X.K G CC d a ∧ CalX X G a fd ps k (g.call c d) ∧ Binds X.K fd ps [] ∧ Room (k + 1) X.A
theorem ty_tag {G : GC} (Fa : Facts G) {F H : Hp} {rho : List Addr} {m : Mem} (r : RelM G F H rho m) {d : D} {v : V} (h : RD G rho F d v) (hz : nzB (IP.vw m d) = true) : ∃ tag, TyY G.K H v tag ∧ ((∃ a ∈ tagL, tag = .type a) ∨ ∃ c C, G.own c = some C ∧ tag = .ref C) := by
  have gv := r.view h
  have tg : ∀ (a : String), a ∈ tagL → TyY G.K H v (.type a) → ∃ tag, TyY G.K H v tag ∧ ((∃ a ∈ tagL, tag = .type a) ∨ ∃ c C, G.own c = some C ∧ tag = .ref C) := fun a ha ty => ⟨_, ty, .inl ⟨a, ha, rfl⟩⟩
  cases hv : IP.vw m d with
  | non => rw [hv] at gv; cases gv; exact tg "NoneType" (by decide) (.x (.base .non))
  | bl x => rw [hv] at gv; cases gv; exact tg "bool" (by decide) (.x (.base (.bl _)))
  | int x => rw [hv] at gv; cases gv; exact tg "int" (by decide) (.x (.base (.int _)))
  | str x => rw [hv] at gv; cases gv; exact tg "str" (by decide) (.x (.base (.str _)))
  | lst xs =>
    rw [hv] at gv
    cases gv with
    | lst h1 _ => exact tg "list" (by decide) (.x (.base (.lst h1)))
  | tup xs =>
    rw [hv] at gv
    refine tg "tuple" (by decide) ?_
    cases gv with
    | tup h1 _ => exact .x (.base (.tup h1))
    | tupK h1 =>
      rcases h1 (fun _ => none) with z | ⟨o, its, n, e1, e2, _⟩
      · rcases z with z | ⟨o, z⟩ <;> cases z
      · exact .x (.kTuple e1 e2)
  | dic q xs =>
    rw [hv] at gv
    refine tg "dict" (by decide) ?_
    cases gv with
    | dicK h1 _ =>
      rcases h1 with h1 | ⟨o, h1⟩
      · exact .x (.base (.dK h1))
      · exact .x (.fDict h1)
    | dicT h1 _ =>
      rcases h1 with h1 | ⟨o, h1⟩
      · exact .x (.base (.dT h1))
      · exact .fT h1
  | ins c fs =>
    obtain ⟨a, C, dx, fvs, rfl, hC, h1, _⟩ := r.vwi h hv
    exact ⟨_, .x (.base (.ins h1 (Fa.cls hC) (Fa.ha hC) Fa.hn Fa.htk (Fa.hm hC))), .inr ⟨c, C, hC, rfl⟩⟩
  | cls => rw [hv] at hz; cases hz
  | ref => rw [hv] at hz; cases hz
  | scr => rw [hv] at hz; cases hz
/-- what a call hands back, a bool -/
theorem blR_back {G : GC} {W : WX} {σ : L2.St} {F H : Hp} {rho : List Addr} {d : D} {m : Mem} {z : V} {Q : Bool → Hp → Prop} (rd : RD G rho F d z) (hp : Post G W σ REq F H rho (blR d m) Q) : ∃ b, z = .bl b ∧ d = .bl b ∧ Post G W σ REq F H rho (.ok b m) Q := by
  unfold blR at hp
  split at hp
  · cases rd
    exact ⟨_, rfl, rfl, hp⟩
  · exact hp.elim
theorem cal_run1 {X : Cx} {G : GC} {W : WX} {a : Addr} {fd : FuncData} {ps : List Str} {k : Nat} {h : List D → Mem → Res D} (C : CalX X G a fd ps k h) (hb : Binds X.K fd ps []) (tk : Takes X W) (hr : Room k X.A.in1) {pins : List (Addr × Obj)} {σ : L2.St} {H F : Hp} {rho : List Addr} {m : Mem} {s : Shared} {Q : VK} {us : List Value} {vs : List V} {ds : List D}
    (I : Inv X pins σ H s) (r : Vals vs us) (rm : RelM G F H rho m) (rd : RDs G rho F ds vs) (hp : Post G W σ (RD1 G) F H rho (h ds m) Q) : wpAny (model X.prog X.w) X.A.in1 (call (.ref a) us) (EP X pins σ Q) X.xe s := by
  by_cases hl : ds.length = ps.length
  · have sp : spI G ps.length h vs H Q (WE W σ) := ⟨F, rho, m, ds, rm, rd, hl, hp.sig fun _ _ _ h => h⟩
    have hlu : us.length = ps.length := by rw [← r.length]; exact C.ok.len _ _ _ _ sp
    have b := hb s us I.kIn (by rw [List.append_nil]; exact hlu)
    rw [List.append_nil] at b
    refine wpAny_call (codeAny_mono (C.ok.run X.A.in1 X.stack s H ⟨us, []⟩ us vs Q (WE W σ) hr I.env0.in1 b r sp) fun r s' hq => ?_)
    cases r with
    | error e => exact passAt tk σ pins H s e s' I hq
    | ok fl =>
      cases fl with
      | ret u => exact I.after hq
      | next => exact False.elim hq
      | brk => exact False.elim hq
      | cont => exact False.elim hq
  · rw [C.ar ds m hl] at hp
    exact hp.elim
section
variable {X : Cx} {G : GC} {W : WX} {g : Gl}
theorem looks_of {pins : List (Addr × Obj)} {s : Shared} {σ : L2.St} {H F : Hp} {rho : List Addr} {m : Mem} {d : D} {y : V} {u : Value} {C a : Addr} {nm : String} (Fa : Facts G) (hK : X.K = G.K) (I : Inv X pins σ H s) (ry : RelV y u) (r : RelM G F H rho m) (rd : RD G rho F d y) (hz : nzB (IP.vw m d) = true) (o : OpK X.K G C nm a) :
    ∃ tag, PySem.W.Looks (model X.prog X.w) s.heap (typeOf u) tag ∧ PySem.W.notFirst X.K C tag = true := by
  obtain ⟨tag, ty, ht⟩ := ty_tag Fa r rd hz
  rw [← hK] at ty
  obtain ⟨P, Z, p, _⟩ := kit_ofY I ry ty
  refine ⟨tag, Z.ty _ _ I.kIn p, ?_⟩
  rcases ht with ⟨t, h1, rfl⟩ | ⟨c', C', h1, rfl⟩
  · exact o.nf t h1
  · exact o.nfo h1
theorem own_of (B : Base X G W g) (Fa : Facts G) (ops : g.cur.isNone = true → Ops X G g) : Own X G W g where
  cmp := fun {op c fs pins s σ H F rho m dx dy x y v u Q} I rx ry r d1 d2 hv hp => by
    unfold cmpG at hp
    rw [hv] at hp
    obtain ⟨p, CC, ddx, fvs, rfl, hC, h1, _⟩ := r.vwi d1 hv
    cases (show v = Value.ref p from rx)
    obtain ⟨mA, O, _, _, _, _⟩ := ins_get I.hok h1
    obtain ⟨od, J, _⟩ := O.look
    obtain ⟨m0, hF⟩ := I.fr
    have fast : ∀ {op : CmpOp} {nm : String}, (∀ a b, compareOp op a b = richCompare op a b) → (cmpInfo op).2.1 = Str.ofString nm → Post G W σ REq F H rho (if g.has c nm && (g.cur.isNone && nzB (IP.vw m dy)) then (g.call c nm [dx, dy] m).bind blR else .no) Q →
        wpAny (model X.prog X.w) X.A (compareOp op (.ref p) u) (EP X pins σ fun z H' => ∃ k, z = .bl k ∧ Q k H') X.xe s := by
      intro op nm hop hnm hp
      obtain ⟨hc, hp⟩ := Post.ite hp
      simp only [Bool.and_eq_true] at hc
      obtain ⟨hh, hcur, hz⟩ := hc
      obtain ⟨CC', a, fd, ps, k, q1, q2, q3, q4, q5⟩ := ops hcur hh
      rw [hC] at q1
      cases q1
      obtain ⟨tag, L, nf⟩ := looks_of Fa B.hK I ry r d2 hz q2
      rw [hop]
      refine PySem.W.cmp_K (op := op) q5.units0 hF I.ok.mod.kin J L nf (by rw [hnm]; exact q2.at_) q2.fn ?_
      refine wpAny_mono (cal_run q3 q4 B.tk (q5.mono (Nat.le_succ _)) I (.cons rx (.cons ry .nil)) r (.cons d1 (.cons d2 .nil)) (Post.bind (R1 := RD1 G) hp)) (fun w s' z => ?_) fun _ _ x => x
      obtain ⟨z', H', I', rz, F1, rho1, d, m1, x1, r1, rd, hp1⟩ := z
      obtain ⟨b, rfl, rfl, hp2⟩ := blR_back rd hp1
      cases (show w = Value.bool b from rz)
      exact ⟨.bl b, H', I', rfl, b, rfl, hp2.here r1 rfl⟩
    cases op with
    | Is =>
      obtain ⟨b, e, hp2⟩ := Post.opt hp
      simp only [cmpP] at e
      split at e
      · cases d2
        cases e
        exact op_isN pins s σ H _ _ _ u _ I rx ry ⟨rfl, ⟨false, rfl, hp2.here r rfl⟩⟩
      · cases e
    | IsNot =>
      obtain ⟨b, e, hp2⟩ := Post.opt hp
      simp only [cmpP] at e
      split at e
      · cases d2
        cases e
        exact op_notN pins s σ H _ _ _ u _ I rx ry ⟨rfl, ⟨true, rfl, hp2.here r rfl⟩⟩
      · cases e
    | Eq => exact fast (op := .Eq) (fun _ _ => rfl) rfl hp
    | Lt => exact fast (op := .Lt) (fun _ _ => rfl) rfl hp
    | LtE => exact fast (op := .LtE) (fun _ _ => rfl) rfl hp
    | NotEq =>
      obtain ⟨hc, hp⟩ := Post.ite hp
      simp only [Bool.and_eq_true] at hc
      obtain ⟨hh, hcur, hz⟩ := hc
      obtain ⟨CC', a, fd, ps, k, q1, q2, q3, q4, q5⟩ := ops hcur hh
      rw [hC] at q1
      cases q1
      obtain ⟨tag, L, nf⟩ := looks_of Fa B.hK I ry r d2 hz q2
      show wpAny _ _ (richCompare .NotEq (.ref p) u) _ _ _
      refine ne_K (by have := q5.un; omega) I.kIn J L nf q2.hm q2.ne q2.at_ q2.fn ?_
      refine wpAny_mono (cal_run1 q3 q4 B.tk q5.in1 I (.cons rx (.cons ry .nil)) r (.cons d1 (.cons d2 .nil)) (Post.bind (R1 := RD1 G) hp)) (fun w s' z => ?_) fun _ _ x => x
      obtain ⟨z', H', I', rz, F1, rho1, d, m1, x1, r1, rd, hp1⟩ := z
      have hp1 : Post G W σ REq F1 H' rho1 ((blR d m1).bind fun b m2 => .ok (!b) m2) Q := hp1
      have hd : ∃ b, d = .bl b := by
        cases d with
        | bl b => exact ⟨b, rfl⟩
        | _ => exact hp1.elim
      obtain ⟨b, rfl⟩ := hd
      cases rd
      cases (show w = Value.bool b from rz)
      have hp2 : Post G W σ REq F1 H' rho1 (.ok (!b) m1) Q := hp1
      exact ⟨b, rfl, .bl (!b), H', I', rfl, !b, rfl, hp2.here r1 rfl⟩
    | _ => exact hp.elim
  bin := fun {op c fs pins s σ H F rho m dx dy x y v u Q} I rx ry r d1 d2 hv hp => by
    unfold binG at hp
    rw [hv] at hp
    obtain ⟨p, CC, ddx, fvs, rfl, hC, h1, _⟩ := r.vwi d1 hv
    cases (show v = Value.ref p from rx)
    obtain ⟨mA, O, _, _, _, _⟩ := ins_get I.hok h1
    obtain ⟨od, J, _⟩ := O.look
    obtain ⟨m0, hF⟩ := I.fr
    have fast : ∀ {op : Operator} {nm : String}, PySem.dunder op.info.2 = Str.ofString nm → PySem.dunderR op.info.2 = rName nm → nm ∈ ["__add__", "__sub__", "__mul__"] → Post G W σ (RD1 G) F H rho (if g.has c nm && (g.cur.isNone && arB c (IP.vw m dy)) then g.call c nm [dx, dy] m else .no) Q →
        wpAny (model X.prog X.w) X.A (binaryOp op (.ref p) u) (EP X pins σ Q) X.xe s := by
      intro op nm hnm hrn hin hp
      obtain ⟨hc, hp⟩ := Post.ite hp
      simp only [Bool.and_eq_true] at hc
      obtain ⟨hh, hcur, hz⟩ := hc
      obtain ⟨CC', a, fd, ps, k, q1, q2, q3, q4, q5⟩ := ops hcur hh
      rw [hC] at q1
      cases q1
      have run : wpAny (model X.prog X.w) X.A (call (.ref a) [.ref p, u]) (PySem.W.CmpBack (EP X pins σ Q)) X.xe s :=
        wpAny_mono (cal_run q3 q4 B.tk (q5.mono (Nat.le_succ _)) I (.cons rx (.cons ry .nil)) r (.cons d1 (.cons d2 .nil)) hp) (fun w s' z => by
          obtain ⟨z', H', I', rz, hq⟩ := z
          exact SlX.cmpback rz ⟨z', H', I', rz, hq⟩) fun _ _ x => x
      unfold arB at hz
      split at hz
      · rename_i i hy
        have ry2 := r.view d2
        rw [hy] at ry2
        cases ry2
        obtain ⟨t, rfl⟩ := (show ∃ t, u = Value.int i t from ry)
        obtain ⟨w1, ⟨fo, w2⟩, ⟨ro, w3⟩, w4⟩ := q2.ar hin
        exact PySem.W.ksp_binT (T := "int") hF I.ok.mod.kin J rfl q2.self (by rw [hnm]; exact q2.at_) q2.fn (by rw [hrn]; exact w1) (.inl rfl) (by rw [hnm]; exact w2) (by rw [hrn]; exact w3) w4 run
      · rename_i c' fs' hy
        have hcc : c' = c := by simpa using hz
        subst hcc
        obtain ⟨p', C', ddx', fvs', rfl, hC', h1', _⟩ := r.vwi d2 hy
        rw [hC] at hC'
        cases hC'
        cases (show u = Value.ref p' from ry)
        obtain ⟨mA', O', _, _, _, _⟩ := ins_get I.hok h1'
        obtain ⟨od', J', _⟩ := O'.look
        exact PySem.W.binop_K hF I.ok.mod.kin J J'.type q2.self (by rw [hnm]; exact q2.at_) q2.fn run
      · cases hz
    cases op with
    | Add => exact fast (op := .Add) (nm := "__add__") rfl rfl (by decide) hp
    | Sub => exact fast (op := .Sub) (nm := "__sub__") rfl rfl (by decide) hp
    | Mult => exact fast (op := .Mult) (nm := "__mul__") rfl rfl (by decide) hp
    | _ => exact hp.elim
  neg := fun {c fs pins s σ H F rho m dx x v Q} I rx r d1 hv hp => by
    obtain ⟨p, CC, ddx, fvs, rfl, hC, h1, _⟩ := r.vwi d1 hv
    cases (show v = Value.ref p from rx)
    obtain ⟨mA, O, _, _, _, _⟩ := ins_get I.hok h1
    obtain ⟨od, J, _⟩ := O.look
    obtain ⟨m0, hF⟩ := I.fr
    obtain ⟨hc, hp⟩ := Post.ite hp
    simp only [Bool.and_eq_true] at hc
    obtain ⟨hh, hcur⟩ := hc
    obtain ⟨CC', a, fd, ps, k, q1, q2, q3, q4, q5⟩ := ops hcur hh
    rw [hC] at q1
    cases q1
    exact PySem.W.ksp_neg hF I.ok.mod.kin J q2.at_ q2.fn (cal_run q3 q4 B.tk (q5.mono (Nat.le_succ _)) I (.cons rx .nil) r (.cons d1 .nil) hp)
  len := fun {c fs pins s σ H F rho m dx x v Q} hcur I rx r d1 hv hp => by
    obtain ⟨p, CC, ddx, fvs, rfl, hC, h1, _⟩ := r.vwi d1 hv
    cases (show v = Value.ref p from rx)
    obtain ⟨mA, O, _, _, _, _⟩ := ins_get I.hok h1
    obtain ⟨od, J, _⟩ := O.look
    obtain ⟨m0, hF⟩ := I.fr
    unfold biLen at hp
    simp only [hv] at hp
    obtain ⟨hh, hp⟩ := Post.ite hp
    obtain ⟨CC', a, fd, ps, k, q1, q2, q3, q4, q5⟩ := ops hcur hh
    rw [hC] at q1
    cases q1
    refine PySem.W.len_K hF I.ok.mod.kin J q2.at_ q2.fn (wpAny_mono (cal_run1 q3 q4 B.tk q5.in1 I (.cons rx .nil) r (.cons d1 .nil) (Post.bind (R1 := RD1 G) hp)) (fun w s' z => ?_) fun _ _ x => x)
    obtain ⟨z', H', I', rz, F1, rho1, d, m1, x1, r1, rd, hp1⟩ := z
    split at hp1
    · rename_i i
      cases rd
      obtain ⟨t, rfl⟩ := (show ∃ t, w = Value.int i t from rz)
      obtain ⟨hi, hp2⟩ := Post.ite hp1
      simp only [Bool.and_eq_true, decide_eq_true_eq] at hi
      exact ⟨hi, .int i, H', I'.tok _, ⟨_, rfl⟩, hp2.here r1 (.int i)⟩
    · exact hp1.elim
end
/-- an exception class of the text -/
def ExR (P : Program) (w : World) (K : PySem.W.Frag) (mg : Str → Option Value) (base : Heap) (C : Addr) (ns : List String) : Prop := match ns with
  | [f] => ∃ fI fd ps, OexC K C ∧ PySem.W.findIn K (.ref C) "__init__" = some (some (.ref fI)) ∧ PySem.W.typeIn K (.ref fI) = some (.type "function") ∧ FnOk P w K mg base (CX P w) 1 fI fd ps (spX1 K C (Str.ofString f)) ∧ Binds K fd ps [] ∧ ps.length = 2
  | [] => ∃ fI fd ps, OexC K C ∧ PySem.W.findIn K (.ref C) "__init__" = some (some (.ref fI)) ∧ PySem.W.typeIn K (.ref fI) = some (.type "function") ∧ FnOk P w K mg base (CX P w) 1 fI fd ps (spX0 K C) ∧ Binds K fd ps [] ∧ ps.length = 1
  | _ => False
theorem ExR.mk {X : Cx} {C : Addr} {ns : List String} (h : ExR X.prog X.w X.K X.mg X.base C ns) (hr : Room 2 X.A) : MkR X C ns := by
  match ns, h with
  | [f], h =>
    obtain ⟨fI, fd, ps, h1, h2, h3, h4, h5, h6⟩ := h
    exact mkr1 h1 h2 h3 h4 hr h5 h6
  | [], h =>
    obtain ⟨fI, fd, ps, h1, h2, h3, h4, h5, h6⟩ := h
    exact mkr0 h1 h2 h3 h4 hr h5 h6

/-- what may be called -/
structure Cals (X : Cx) (G : GC) (g : Gl) (xn : String → Option (List String)) (T : Tb) : Prop where
  fns : ∀ f ∈ T.fns, ∃ a fd ps k, CalX X G a fd ps k (g.call "" f) ∧ Binds X.K fd ps [] ∧ X.mg (Str.ofString f) = some (.ref a) ∧ Room k X.A
  pats : ∀ p ∈ T.pats, ∃ a fd ps k, CalX X G a fd ps k (g.call "" p.1) ∧ KPat X.K fd ps p.2.1 (p.2.2.1.map Str.ofString) p.2.2.2 ∧ X.mg (Str.ofString p.1) = some (.ref a) ∧ Room k X.A
  mts : ∀ p ∈ T.mts, ∃ CC a fd ps k, G.own p.1 = some CC ∧ Cls X.K CC ∧ Meth X.K CC (Str.ofString p.2) a ∧ CalX X G a fd ps k (g.call p.1 p.2) ∧ Binds X.K fd ps [] ∧ Room k X.A
  mks : ∀ c ∈ T.mks, ∃ CC a fd ps k, G.own c = some CC ∧ Mk X.K CC a ∧ CalX X G a fd ps k (g.call c "__init__") ∧ Binds X.K fd ps [] ∧ X.mg (Str.ofString c) = some (.ref CC) ∧ Room (k + 1) X.A
  mpats : ∀ p ∈ T.mpats, ∃ CC a fd ps k dvs, G.own p.1 = some CC ∧ Cls X.K CC ∧ Meth X.K CC (Str.ofString p.2.1) a ∧ CalX X G a fd ps k (g.call p.1 p.2.1) ∧ KPatM X.K fd ps p.2.2.1 (p.2.2.2.1.map Str.ofString) p.2.2.2.2.1 dvs ∧ (∀ rho F, RDs G rho F p.2.2.2.2.2 dvs) ∧ Room k X.A
  kpats : ∀ p ∈ T.kpats, ∃ CC a fd ps k dvs, G.own p.1 = some CC ∧ Mk X.K CC a ∧ CalX X G a fd ps k (g.call p.1 "__init__") ∧ KPatM X.K fd ps p.2.1 (p.2.2.1.map Str.ofString) p.2.2.2.1 dvs ∧ (∀ rho F, RDs G rho F p.2.2.2.2 dvs) ∧ X.mg (Str.ofString p.1) = some (.ref CC) ∧ Room (k + 1) X.A
  ops : Ops X G g
  exs : ∀ p ∈ T.exs, xn p.1 = some p.2 ∧ ∃ CC, G.exa p.1 = some CC ∧ X.mg (Str.ofString p.1) = some (.ref CC) ∧ PySem.W.keepIn X.K (.ref CC) = true ∧ ExR X.prog X.w X.K X.mg X.base CC p.2
  room2 : Room 2 X.A
/-- where the check speaks -/
structure Cxt (X : Cx) (G : GC) (W : WX) (g : Gl) (xn : String → Option (List String)) (T : Tb) (sc : Scope) (N : List Str) (hs : Option Nat) : Prop where
  B : Base X G W g
  Fa : Facts G
  Fx : FactsX G xn
  hsc : X.env.scope = sc
  hN : X.N = N
  hsl : ∀ s, G.sl = some s → hs = some s.i
  free : ∀ x ∈ T.free, X.mg (Str.ofString x) = none
  cls : ∀ c ∈ T.cls, ∃ C, G.own c = some C ∧ X.mg (Str.ofString c) = some (.ref C)
  att : ∀ f ∈ T.flds, AttF G f
  cal : g.cur.isNone = true → Cals X G g xn T
  hnd : ∀ c ∈ T.hnd, ∃ CC, X.mg (Str.ofString c) = some (.ref CC) ∧ ∀ {cls : String} {C : Addr}, G.exa cls = some C → PySem.W.exmOne X.K (.ref C) (.ref CC) = some (isX cls c)
  gints : ∀ p ∈ T.gints, ∃ t, X.mg (Str.ofString p.1) = some (.int p.2 t)
  gstrs : ∀ p ∈ T.gstrs, ∃ t, X.mg (Str.ofString p.1) = some (.str (Str.ofString p.2) t)
  exf : ∀ {i : Nat} {f : String} {n : Str} {p pos : Pos}, hs = some i → X.N[i]? = some n → X.env.kindOf n = some .local → (n == ("__debug__" : Str)) = false → (n == ("__classdict__" : Str)) = false → SE X G W g (.Attribute (.Name n p) (Str.ofString f) pos) (.exf f)
section
variable {X : Cx} {G : GC} {W : WX} {g : Gl} {xn : String → Option (List String)} {T : Tb} {sc : Scope} {N : List Str} {hs : Option Nat}
theorem Cxt.O (C : Cxt X G W g xn T sc N hs) : Own X G W g := own_of C.B C.Fa fun h => (C.cal h).ops
theorem okN_of {x : Str} (h : okN x = true) : (x == ("__debug__" : Str)) = false ∧ (x == ("__classdict__" : Str)) = false := by
  unfold okN at h
  simpa using h
theorem visB_of (C : Cxt X G W g xn T sc N hs) {x : Str} (h : visB sc x = true) : Vis X.env.scope x := by
  unfold visB at h
  unfold Vis
  rw [C.hsc]
  split at h
  · exact .inl (by assumption)
  · exact .inr (.inl (by assumption))
  · exact .inr (.inr (by assumption))
  · cases h
theorem glB_of (C : Cxt X G W g xn T sc N hs) {x : Str} (h : glB sc x = true) : L2.Gl X x := by
  unfold glB at h
  show X.env.scope.names.lookup x = _
  rw [C.hsc]
  split at h
  · assumption
  · cases h
theorem lclB_of {x : Str} (h : lclB sc x = true) : sc.names.lookup x = some .local := by
  unfold lclB at h
  split at h
  · assumption
  · cases h
theorem celB_of {x : Str} (h : celB sc x = true) : sc.names.lookup x = some .cell := by
  unfold celB at h
  split at h
  · assumption
  · cases h
theorem se_nt {a : E} {ea : Expr} {pos : Pos} (hK : X.K = G.K) (h : SE X G W g ea a) : SE X G W g (.UnaryOp .Not ea pos) (.nt a) := by
  refine (pe_notT h).imp fun σ H Q hq => ?_
  obtain ⟨F, rho, m, e, r, re, hp⟩ := hq
  rw [ev] at hp
  refine tI.mk r re ((Post.bind (R1 := RD1 G) hp).imp fun v H' ⟨F1, rho1, d, m1, x1, r1, rr, hp1⟩ => ?_)
  obtain ⟨d', e1, hp2⟩ := Post.opt hp1
  obtain ⟨b, e2, rfl⟩ := map_some e1
  exact ⟨b, truth_ok hK e2 (r1.view rr), hp2.here r1 (.bl _)⟩
theorem se_bone {a : E} {ea : Expr} {pos : Pos} {op : BoolOp} (h : SE X G W g ea a) : SE X G W g (.BoolOp op [ea] pos) a := ⟨fun pins s σ H Q I q => h.run pins s σ H Q I q⟩
/-- as a value, or as a test -/
def Sd (md : Bool) (X : Cx) (G : GC) (W : WX) (g : Gl) (e : Expr) (a : E) : Prop := match md with
  | true => ST X G W g e a
  | false => SE X G W g e a
theorem Sd.of {md : Bool} {e : Expr} {a : E} (hK : X.K = G.K) (h : SE X G W g e a) (hp : plainT e = true) (he : ∀ e m, evT g a e m = (ev g a e m).bind fun x m1 => opt (truth (vw m1 x)) m1) : Sd md X G W g e a := by
  cases md with
  | true => exact st_val hK h hp he
  | false => exact h
/-- within a comprehension -/
theorem Cxt.blk (C : Cxt X G W g xn T sc N hs) {s : Shared} {H : Hp} {scope : Scope} {cl : List (Str × Addr)} {CA : Addr} {fp : List Addr} (hc : g.cur.isNone = true) : Cxt (X.blk s H scope (compEnvC scope cl CA X.env) fp) G WF g xn T (relS scope sc) N none where
  B := ⟨C.B.hK, C.B.hm, takes_none5, C.B.units, C.B.calm, C.B.nd, C.B.slc⟩
  Fa := C.Fa
  Fx := C.Fx
  hsc := by
    rw [← C.hsc]
    rfl
  hN := C.hN
  hsl := fun s e => by
    rw [C.B.slc hc] at e
    cases e
  free := C.free
  cls := C.cls
  att := C.att
  cal := fun h => ⟨(C.cal h).fns, (C.cal h).pats, (C.cal h).mts, (C.cal h).mks, (C.cal h).mpats, (C.cal h).kpats, (C.cal h).ops, (C.cal h).exs, (C.cal h).room2⟩
  hnd := C.hnd
  gints := C.gints
  gstrs := C.gstrs
  exf := fun e => by cases e
end
end IP

/-! IpV -/
set_option Elab.async false
set_option linter.all false
set_option maxRecDepth 100000
set_option maxHeartbeats 4000000
/-! IpV: the check is sound: expressions. -/
namespace IP
open PySem L2 PyProof.Rows
section
variable {X : Cx} {G : GC} {W : WX} {g : Gl} {xn : String → Option (List String)} {T : Tb} {sc : Scope} {N : List Str} {hs : Option Nat}
theorem conB_of {d : D} {e : Expr} (h : conB d e = true) : SE X G W g e (.con d) ∧ plainT e = true := by
  unfold conB at h
  split at h
  · exact ⟨se_const pe_non fun _ _ => .non, rfl⟩
  · have e1 := eq_of_beq h
    subst e1
    exact ⟨se_const pe_bl fun _ _ => .bl _, rfl⟩
  · have e1 := eq_of_beq h
    subst e1
    exact ⟨se_const pe_int fun _ _ => .int _, rfl⟩
  · have e1 := of_decide_eq_true h
    subst e1
    exact ⟨se_const pe_str fun _ _ => .str _, rfl⟩
  · cases h
theorem noStars_of {es : List Expr} {env : Env} {p : Pos} (h : noStars es = true) : (backTo p (starEach es env)).any (·.1) = false := by
  induction es with
  | nil => rfl
  | cons e es ih =>
    unfold noStars at h
    rw [List.all_cons, Bool.and_eq_true] at h
    rw [starEach_of h.1]
    show (false || (backTo p (starEach es env)).any (·.1)) = false
    rw [ih h.2]
    rfl
theorem clsB_of (C : Cxt X G W g xn T sc N hs) {t : Ty} {e : Expr} (h : clsB T sc t e = true) : ∃ v u, TyV G t v u ∧ PE X e (tC v) ∧ notStar e = true := by
  unfold clsB at h
  split at h
  · rename_i x p
    simp only [Bool.and_eq_true] at h
    obtain ⟨h1, h2, h3⟩ := h
    cases t with
    | bt n =>
      simp only [Bool.and_eq_true, decide_eq_true_eq, List.contains_iff_mem] at h3
      obtain ⟨rfl, h4, h5⟩ := h3
      refine ⟨.ty n, .type n, .bt h4, ?_, rfl⟩
      have hm := C.free n h5
      have hg := glB_of C h1
      unfold btyL at h4
      simp only [List.mem_cons, List.not_mem_nil, or_false] at h4
      rcases h4 with rfl | rfl | rfl | rfl | rfl | rfl
      all_goals exact pe_bltn hg hm (by decide +kernel) rfl (by decide) (by decide)
    | own c =>
      simp only [Bool.and_eq_true, decide_eq_true_eq, List.contains_iff_mem] at h3
      obtain ⟨rfl, h4⟩ := h3
      obtain ⟨CC, e1, e2⟩ := C.cls c h4
      exact ⟨.ref CC, .ref CC, .own e1, pe_glob (glB_of C h1) e2 rfl (okN_of h2).1, rfl⟩
  · cases h
theorem clsL_of (C : Cxt X G W g xn T sc N hs) : ∀ {ts : List Ty} {es : List Expr}, clsL T sc ts es = true → ∃ (cs : List V) (us : List Value), Paired (fun e v => PE X e (tC v) ∧ notStar e = true) es cs ∧ Paired (fun (t : Ty) (c : V × Value) => TyV G t c.1 c.2) ts (cs.zip us) ∧ cs.length = us.length ∧ cs.length = es.length
  | [], [], _ => ⟨[], [], .nil, .nil, rfl, rfl⟩
  | [], _ :: _, h => by cases h
  | _ :: _, [], h => by cases h
  | t :: ts, e :: es, h => by
    simp only [clsL, Bool.and_eq_true] at h
    obtain ⟨v, u, q1, q2, q3⟩ := clsB_of C h.1
    obtain ⟨cs, us, w1, w2, w3, w4⟩ := clsL_of C h.2
    exact ⟨v :: cs, u :: us, .cons ⟨q2, q3⟩ w1, .cons q1 w2, by simp [w3], by simp [w4]⟩
/-- targets -/
theorem tgN_of {X : Cx} {fb : Str → Bool} (hsc : X.env.scope = sc) (hN : X.N = N) (nd : X.N.Nodup) (hf : ∀ x, sc.names.lookup x = some .cell → fb x = true → X.fn x = true) {i : Nat} {e : Expr} (h : tgN fb sc N i e = true) : PG X e (gName i) := by
  unfold tgN at h
  split at h
  · rename_i x p
    simp only [Bool.and_eq_true, Bool.or_eq_true, decide_eq_true_eq] at h
    obtain ⟨h1, h2⟩ := h
    rcases h2 with h2 | ⟨h2, h3⟩
    · have q := lclB_of h2
      rw [← hsc] at q
      exact pg_name nd (hN ▸ h1) (.inl q) (.inr q)
    · have q := celB_of h2
      have q2 := hf x q h3
      rw [← hsc] at q
      exact pg_name nd (hN ▸ h1) (.inr q) (.inl q2)
  · cases h
theorem tgNs_of {X : Cx} {fb : Str → Bool} (hsc : X.env.scope = sc) (hN : X.N = N) (nd : X.N.Nodup) (hf : ∀ x, sc.names.lookup x = some .cell → fb x = true → X.fn x = true) : ∀ {is : List Nat} {es : List Expr}, tgNs fb sc N is es = true →
    PGs X es (gNames is) ∧ (assignEach es X.env).length = is.length ∧ (assignEach es X.env).findIdx? (·.1) = none
  | [], [], _ => ⟨pgs_nil, rfl, rfl⟩
  | [], _ :: _, h => by cases h
  | _ :: _, [], h => by cases h
  | i :: is, e :: es, h => by
    simp only [tgNs, Bool.and_eq_true] at h
    have q := tgN_of hsc hN nd hf h.1
    obtain ⟨w1, w2, w3⟩ := tgNs_of hsc hN nd hf h.2
    have h1 := h.1
    unfold tgN at h1
    split at h1
    · rename_i x p
      have ea : assignEach (.Name x p :: es) X.env = (false, assign (.Name x p) X.env) :: assignEach es X.env := rfl
      refine ⟨pgs_cons q w1 rfl, by rw [ea, List.length_cons, w2, List.length_cons], ?_⟩
      rw [ea, List.findIdx?_cons]
      simp only [Bool.false_eq_true, if_false]
      rw [w3]
      rfl
    · cases h1
theorem tgB_of {X : Cx} {fb : Str → Bool} (hsc : X.env.scope = sc) (hN : X.N = N) (nd : X.N.Nodup) (hc : X.calm = true) (hf : ∀ x, sc.names.lookup x = some .cell → fb x = true → X.fn x = true) {tg : Tg} {e : Expr} (h : tgB fb sc N tg e = true) : PG X e (gOf X.K tg) := by
  cases tg with
  | one i => exact tgN_of hsc hN nd hf h
  | many is =>
    unfold tgB at h
    dsimp only at h
    split at h
    · obtain ⟨w1, w2, w3⟩ := tgNs_of hsc hN nd hf h
      exact pg_sq hc w1 w2 w3
    · cases h
theorem relabel_cell {sc scope : Scope} {x : Str} (h : (scope.names.lookup x == some NameKind.cell) = true) : (scope.names.lookup x == some NameKind.cell) = true := h
theorem notSet_fold {e : Expr} {env : Env} (h : notSetE e = true) : ∀ x, foldedSetIterable e env x = pure x := by
  cases e <;> first | (intro x; rfl) | cases h
theorem Es.split_app : ∀ (n : Nat) (s : Es), (s.split n).1.app (s.split n).2 = s
  | 0, s => rfl
  | n + 1, .one e r => by
    rw [Es.split]
    show Es.one e _ = _
    rw [Es.split_app n r]
  | n + 1, .star e r => by
    rw [Es.split]
    show Es.star e _ = _
    rw [Es.split_app n r]
  | n + 1, .nil => rfl
/-! ### dict displays -/
def trsK (G : GC) (W : WX) (g : Gl) : Kv → List (TE × TE)
  | .nil => []
  | .cons k v r => (tI G W (RD1 G) (ev g k), tI G W (RD1 G) (ev g v)) :: trsK G W g r
def RDP (G : GC) (F : Hp) (rho : List Addr) (ps : List (D × D)) (vs : List (V × V)) : Prop := Paired (fun p q => RD G rho F p.1 q.1 ∧ RD G rho F p.2 q.2) ps vs
theorem pairs_ok {σ : L2.St} : ∀ {kvs : Kv} {F H : Hp} {rho : List Addr} {m : Mem} {e : Ev} {Q : List (V × V) → Hp → Prop}, RelM G F H rho m → RelE G F rho e σ → Post G W σ (RDP G) F H rho (evK g kvs e m) Q → tPairs (trsK G W g kvs) σ H Q
  | .nil, F, H, rho, m, e, Q, r, re, hp => by
    rw [evK] at hp
    exact hp.here r .nil
  | .cons k v kr, F, H, rho, m, e, Q, r, re, hp => by
    rw [evK] at hp
    refine tI.mk r re ((Post.bind (R1 := RD1 G) hp).imp fun x H1 ⟨F1, rho1, d1, m1, x1, r1, rr1, hp1⟩ => ?_)
    have re1 := x1.rde r re
    refine tI.mk r1 re1 ((Post.bind (R1 := RD1 G) hp1).imp fun y H2 ⟨F2, rho2, d2, m2, x2, r2, rr2, hp2⟩ => ?_)
    refine pairs_ok r2 (x2.rde r1 re1) ((Post.bind (R1 := RDP G) hp2).imp fun ps H3 ⟨F3, rho3, ds, m3, x3, r3, rr3, hp3⟩ => ?_)
    exact hp3.here r3 (.cons ⟨x3.rd r2 (x2.rd r1 rr1), x3.rd r2 rr2⟩ rr3)
theorem mergeK_nd : ∀ (more acc : List (Key × V)), ((acc ++ more).map (·.1)).Nodup → mergeK acc more = acc ++ more
  | [], acc, _ => by simp [mergeK]
  | p :: more, acc, h => by
    have hp : (acc.any fun kv => decide (kv.1 = p.1)) = false := by
      rw [List.any_eq_false]
      intro q hq
      have h2 : (acc.map (·.1) ++ (p :: more).map (·.1)).Nodup := by rw [← List.map_append]; exact h
      have h3 := (List.nodup_append.mp h2).2.2 q.1 (List.mem_map.mpr ⟨q, hq, rfl⟩) p.1 (by simp)
      simpa using h3
    have e : putK acc p.1 p.2 = acc ++ [p] := by
      unfold putK
      rw [hp]
      rfl
    show mergeK (putK acc p.1 p.2) more = _
    rw [e, mergeK_nd more (acc ++ [p]) (by simpa using h)]
    simp
theorem keys_of {rho : List Addr} {F : Hp} : ∀ {ps : List (D × D)} {vs : List (V × V)} {ks : List Key}, ps.mapM (fun p => keyD p.1) = some ks → RDP G F rho ps vs → ∃ kvs : List (Key × V), vs = kvs.map (fun kv => (kV kv.1, kv.2)) ∧ kvs.map (·.1) = ks ∧ RDk G rho F ps kvs
  | [], _, ks, e, .nil => by
    cases e
    exact ⟨[], rfl, rfl, .nil⟩
  | (x, d) :: ps, _, ks, e, .cons (b := b) h t => by
    rw [List.mapM_cons] at e
    cases h1 : keyD x with
    | none => simp [h1] at e
    | some k =>
      cases h2 : ps.mapM (fun p => keyD p.1) with
      | none => simp [h1, h2] at e
      | some ks' =>
        simp only [h1, h2, Option.bind_eq_bind, Option.bind_some, Option.pure_def, Option.some.injEq] at e
        subst e
        obtain ⟨kvs, q1, q2, q3⟩ := keys_of h2 t
        obtain ⟨b1, b2⟩ := b
        obtain ⟨g1, g2⟩ := h
        have e3 := keyD_rd h1 g1
        dsimp only at e3 g2
        subst e3
        exact ⟨(k, b2) :: kvs, by rw [q1]; rfl, by rw [List.map_cons, q2], .cons h1 g2 q3⟩
theorem se_dic {keys : List (Option Expr)} {values : List Expr} {kvs : Kv} {mu : Bool} {pos : Pos} (h : PPs X pos keys values (trsK G W g kvs)) (hall : keys.all (·.isSome) = true) (hl : keys.length = values.length) (h15 : keys.length ≤ 15) (hnil : keys = [] → kvs = .nil) : SE X G W g (.Dict keys values pos) (.dic .k mu kvs) := by
  have key : ∀ {σ : L2.St} {H : Hp} {Q : VK}, tI G W (RD1 G) (ev g (.dic .k mu kvs)) σ H Q → ∀ p, H p = none → tPairs (trsK G W g kvs) σ (upd H p (.dK [])) fun ps H2 => H2 p = some (.dK []) ∧ ∃ kvs : List (Key × V), ps = kvs.map (fun kv => (kV kv.1, kv.2)) ∧ kvs.length ≤ 15 ∧ Q (.ref p) (upd H2 p (.dK (mergeK [] kvs))) := by
    intro σ H Q hq p hn
    obtain ⟨F, rho, m, e, r, re, hp⟩ := hq
    rw [ev.eq_def] at hp
    dsimp only at hp
    obtain ⟨_, hp⟩ := Post.ite hp
    obtain ⟨r1, x1⟩ := r.cell (o := .dK []) (c := .dic .k []) hn ⟨[], upd_same, .nil⟩
    have re1 := x1.rde r re
    refine pairs_ok r1 re1 ((Post.bind (R1 := RDP G) (Post.ext hp x1)).imp fun vs H2 ⟨F2, rho2, ps, m2, x2, r2, rr, hp2⟩ => ?_)
    have hrho : rho2[m.length]? = some p := x2.beg _ _ (by rw [r.len]; simp)
    dsimp only at hp2
    split at hp2
    · rename_i hm
      obtain ⟨hc, hp3⟩ := Post.ite hp2
      simp only [Bool.and_eq_true, decide_eq_true_eq] at hc
      obtain ⟨hc1, hc2⟩ := hc
      unfold keysOk at hc2
      split at hc2
      · rename_i ks hks
        have hnd := of_decide_eq_true hc2
        obtain ⟨kvs', q1, q2, q3⟩ := keys_of hks rr
        obtain ⟨k0, e1, e2⟩ := r2.cel _ _ _ hrho hm
        cases e2
        have hlen : kvs'.length ≤ 15 := by
          have a1 := Paired.length rr
          rw [q1, List.length_map] at a1
          omega
        refine ⟨e1, kvs', q1, hlen, ?_⟩
        rw [mergeK_nd kvs' [] (by rw [List.nil_append, q2]; exact hnd), List.nil_append]
        obtain ⟨r3, x3⟩ := r2.write (o := .dK kvs') (c' := .dic .k ps) hrho hm (fun z => nomatch z) ⟨kvs', upd_same, q3⟩
        exact hp3 _ _ _ _ x3 r3 (.ref hrho)
      · cases hc2
    · exact hp2.elim
  cases keys with
  | nil =>
    have hv : values = [] := List.eq_nil_of_length_eq_zero hl.symm
    subst hv
    have := hnil rfl
    subst this
    refine pe_dnewK.imp fun σ H Q hq p hn => ?_
    obtain ⟨_, kvs', q1, _, q2⟩ := key hq p hn
    have : kvs' = [] := by
      cases kvs' with
      | nil => rfl
      | cons _ _ => cases q1
    subst this
    have e : upd (upd H p (.dK [])) p (.dK (mergeK [] [])) = upd H p (.dK []) := by
      funext b
      by_cases hb : b = p
      · rw [hb, upd_same, upd_same]; rfl
      · rw [upd_ne hb]
    rw [e] at q2
    exact q2
  | cons k ks => exact (pe_disp h hall hl (by simp) h15).imp fun σ H Q hq => key hq
/-- {} that tuples are to be keys of -/
theorem se_dicT {mu : Bool} {pos : Pos} : SE X G W g (.Dict [] [] pos) (.dic .t mu .nil) := by
  refine pe_dnewT.imp fun σ H Q hq p hn => ?_
  obtain ⟨F, rho, m, e, r, re, hp⟩ := hq
  rw [ev.eq_def] at hp
  dsimp only at hp
  obtain ⟨_, hp⟩ := Post.ite hp
  dsimp only [Kv.isNil] at hp
  obtain ⟨r1, x1⟩ := r.cell (o := .dT []) (c := .dic .t []) hn ⟨[], upd_same, .nil⟩
  exact hp _ _ _ _ x1 r1 (.ref (by rw [r.len]; simp))
/-- {k: v} whose key is a tuple -/
def tDisT1 (trs : List (TE × TE)) : TE := fun σ H Q => ∀ p, H p = none → tPairs trs σ (upd H p (.dT [])) fun ps H2 => ∃ (b : Addr) (ks : List Key) (v : V), ps = [(.ref b, v)] ∧ H2 p = some (.dT []) ∧ H2 b = some (.tup (ks.map kV)) ∧ Q (.ref p) (upd H2 p (.dT (putK [] ks v)))
theorem pe_disT1 {keys : List (Option Expr)} {values : List Expr} {pos : Pos} {trs : List (TE × TE)} (hu : X.A.units + 1 < cLine) (h : PPs X pos keys values trs) (hall : keys.all (·.isSome) = true) (hl : keys.length = values.length) (h0 : keys ≠ [])
    (h15 : keys.length ≤ 15) : PE X (.Dict keys values pos) (tDisT1 trs) := by
  refine ⟨fun pins s σ H Q I q => ?_⟩
  have hn := I.hok.fresh (Nat.le_refl s.heap.objs.size)
  have I1 := I.laid (a := s.heap.objs.size) (o := .dT []) (h' := s.heap.push { cls := .type "dict", data := .dict #[] }) (t' := s.toks) (fun _ _ q => Heap.get?_push_of_some _ q) (Nat.le_refl _) (dt_empty s.heap I.big)
  refine wpAny_Dict_any hall hl h0 h15 (thn (h.run pins _ σ _ _ I1 (q _ hn)) fun ws s2 ⟨ps, H2, I2, rel, b, ks, v, ep, e, eb, q2⟩ => ?_)
  subst ep
  cases rel with
  | @cons _ y _ ys r t =>
    cases t
    obtain ⟨r1, r2⟩ := r
    obtain ⟨u, w⟩ := y
    cases (show u = Value.ref b from r1)
    obtain ⟨z, hd, xs, rel, dd⟩ := dt_of I2.hok e
    have hz : xs.length ≤ sizeLine := by rw [← Paired.length rel]; exact z
    unfold storeAll
    rw [List.forIn_cons]
    refine wpAny_bind (wpAny_bind (wpAny_dictSet_heap (hsz := hz) (show X.A.units < cLine by omega) (key_of I2.hok eb) dd fun h' dd' hs => wpAny_pure ?_))
    dsimp only
    rw [List.forIn_nil]
    refine wpAny_pure ⟨.ref s.heap.objs.size, _, ?_, rfl, q2⟩
    obtain ⟨q, es, ep, hq, h2, h3, h4, _, h5⟩ := dd'
    have hl : (putK ([] : List (List Key × V)) ks v).length ≤ sizeLine := by
      have := length_putK ([] : List (List Key × V)) ks v
      rw [List.length_nil] at this
      rw [sizeLine_eq]
      omega
    refine d_write I2 (by rw [e]; exact True.intro) hs ⟨q, hq⟩ ⟨hl, hd, _, (rel.put ks eb r2).keeps fun c ys ec => ?_, q, es, ep, hq, h2, h3, h4, h5⟩
    rw [upd_ne (ne_of ec e (fun z => nomatch z))]
    exact ec
theorem se_disT1 {keys : List (Option Expr)} {values : List Expr} {kvs : Kv} {mu : Bool} {pos : Pos} (hu : X.A.units + 1 < cLine) (h : PPs X pos keys values (trsK G W g kvs)) (hall : keys.all (·.isSome) = true) (hl : keys.length = values.length) (h15 : keys.length ≤ 15) (h0 : keys ≠ []) (hk : kvs ≠ .nil) : SE X G W g (.Dict keys values pos) (.dic .t mu kvs) := by
  refine (pe_disT1 hu h hall hl h0 h15).imp fun σ H Q hq p hn => ?_
  obtain ⟨F, rho, m, e, r, re, hp⟩ := hq
  obtain ⟨k0, v0, r0, rfl⟩ : ∃ k v r, kvs = .cons k v r := by
    cases kvs with
    | nil => exact absurd rfl hk
    | cons k v r => exact ⟨k, v, r, rfl⟩
  rw [ev.eq_def] at hp
  dsimp only at hp
  obtain ⟨_, hp⟩ := Post.ite hp
  dsimp only [Kv.isNil] at hp
  obtain ⟨r1, x1⟩ := r.cell (o := .dT []) (c := .dic .t []) hn ⟨[], upd_same, .nil⟩
  have re1 := x1.rde r re
  refine pairs_ok r1 re1 ((Post.bind (R1 := RDP G) (Post.ext hp x1)).imp fun vs H2 ⟨F2, rho2, ps, m2, x2, r2, rr, hp2⟩ => ?_)
  have hrho : rho2[m.length]? = some p := x2.beg _ _ (by rw [r.len]; simp)
  dsimp only at hp2
  split at hp2
  · rename_i q hm
    obtain ⟨hc, hp3⟩ := Post.ite hp2
    cases rr with
    | @cons _ y _ ys rr t =>
      cases t
      obtain ⟨g1, g2⟩ := rr
      obtain ⟨x, d⟩ := q
      obtain ⟨y1, y2⟩ := y
      obtain ⟨kk, hkk⟩ := Option.isSome_iff_exists.mp hc
      dsimp only at g1 g2 hkk
      obtain ⟨b, h5, h6⟩ := keyT_rd hkk g1
      subst h5
      obtain ⟨k1, e1, e2⟩ := r2.cel _ _ _ hrho hm
      cases e2
      refine ⟨b, kk, y2, rfl, e1, r2.sub.get h6 rfl, ?_⟩
      obtain ⟨r3, x3⟩ := r2.write (o := .dT (putK [] kk y2)) (c' := .dic .t [(x, d)]) hrho hm (fun z => nomatch z) ⟨_, upd_same, .cons hkk g2 .nil⟩
      exact hp3 _ _ _ _ x3 r3 (.ref hrho)
  · exact hp2.elim
def Es.len : Es → Nat
  | .nil => 0
  | .one _ r => r.len + 1
  | .star _ r => r.len + 1
def Es.pl : Es → Bool
  | .nil => true
  | .one _ r => r.pl
  | .star _ _ => false
theorem evs_len {e : Ev} : ∀ {s : Es} {m m1 : Mem} {xs : List D}, s.pl = true → evs g s e m = .ok xs m1 → xs.length = s.len
  | .nil, m, m1, xs, _, h => by
    rw [evs] at h
    cases h
    rfl
  | .one a r, m, m1, xs, hp, h => by
    rw [evs] at h
    obtain ⟨x, m2, h1, h2⟩ := res_bind_ok h
    obtain ⟨ys, m3, h3, h4⟩ := res_bind_ok h2
    cases h4
    have := evs_len (s := r) hp h3
    simp [Es.len, this]
  | .star a r, _, _, _, hp, _ => by cases hp
end
end IP

/-! IpVa -/
set_option Elab.async false
set_option linter.all false
set_option maxRecDepth 100000
set_option maxHeartbeats 4000000
/-! IpVa: {**a, k: v}; a new dict that nobody writes to. -/
namespace IP
open PySem L2 PyProof.Rows
section
variable {prog : Program} {w : World} {K : Type} [DecidableEq K] {knd : KeyKind prog w K} {A : Around} {E : Value → Shared → Prop} {s : Shared}
theorem wpAny_dictPut_pairs {d : Addr} {kvs : List (K × Value)} {k : K} {key v : Value} {Q : Unit → Shared → Prop} (hkey : knd.is k key = true) (hm : s.heap.DictOf knd d kvs)
    (hQ : ∀ h', h'.DictOf knd d (stored kvs k v) → Heap.SameBut d s.heap h' → Q () { s with heap := h' })
    (hsz : kvs.length ≤ sizeLine := by size_fits) :
    wpAny (model prog w) A (dictPut d (knd.hash k) key v) Q E s := by
  obtain ⟨o, es, ep, ho, hc, hd, hk, hp, hn⟩ := hm
  have hes : es.size ≤ sizeLine := by
    have e1 := hp.length
    have e2 : es.toList.length = es.size := by simp
    omega
  unfold dictPut
  refine wpAny_bind (wpAny_dictFind_of hkey ho hd hk ?_)
  have hidx : (es.findIdx? fun e => knd.is k e.key) = kvs.findIdx? fun kv => decide (kv.1 = k) := by
    rw [← hp.findIdx k]; obtain ⟨l⟩ := es; simp
  cases hi : es.findIdx? fun e => knd.is k e.key with
  | some i =>
    refine wpAny_updateDict ho hd (hQ _ ⟨_, _, ep, Heap.get?_update_self _ ho (Obj.isFreed_of_dict (Obj.data_mapDict hd _)),
      hc.mapDict _, Obj.data_mapDict hd _, hk.modify _ _, ?_, ?_⟩ (Heap.SameBut.update ..))
    · rw [stored, if_pos (any_of_findIdx_some (hidx ▸ hi))]
      have hl : (es.toList.findIdx? fun e => knd.is k e.key) = some i := by rw [← hi]; obtain ⟨l⟩ := es; simp
      have := hp.modify hn hl v
      obtain ⟨l⟩ := es
      simpa using this
    · rw [stored, if_pos (any_of_findIdx_some (hidx ▸ hi)), keys_map_store]; exact hn
  | none =>
    have hnot : k ∉ kvs.map (·.1) := not_mem_of_findIdx_none (hidx ▸ hi)
    have hany : ¬ (kvs.any fun kv => decide (kv.1 = k)) = true := by
      rw [List.any_eq_true]; rintro ⟨kv, hkv, he⟩
      exact hnot (List.mem_map.mpr ⟨kv, hkv, of_decide_eq_true he⟩)
    refine wpAny_updateDictKeys (hz := hes) ho hd (hQ _ ⟨_, _, ep + 1, Heap.get?_update_self _ ho (Obj.isFreed_of_dict (Obj.data_mapDictKeys hd _)),
      hc.mapDictKeys _, Obj.data_mapDictKeys hd _, hk.push hkey _, ?_, ?_⟩ (Heap.SameBut.update ..))
    · rw [stored, if_neg hany]
      have := hp.append hkey (knd.hash k) v
      obtain ⟨l⟩ := es
      simpa using this
    · rw [stored, if_neg hany, List.map_append, List.nodup_append]
      refine ⟨hn, by simp, ?_⟩
      intro a ha b hb
      simp only [List.map_cons, List.map_nil, List.mem_singleton] at hb
      subst hb
      exact fun e => hnot (e ▸ ha)

theorem not_ref_of {v : Value} (h : carriedByValue v = true) {a : Addr} : v ≠ .ref a := by
  intro e
  rw [e] at h
  cases h
theorem wpAny_mergeMap {d o : Addr} {kvs more : List (K × Value)} {Q : Unit → Shared → Prop} (hdo : d ≠ o) (hoS : (o == sysModules) = false)
    (hd : s.heap.DictOf knd d kvs) (ho : s.heap.DictOf knd o more)
    (hQ : ∀ h', h'.DictOf knd d (merged kvs more) → h'.DictOf knd o more → Heap.SameBut d s.heap h' → Q () { s with heap := h' })
    (hsz : kvs.length + more.length ≤ sizeLine := by size_fits) :
    wpAny (model prog w) A (mergeMapping d (.ref o) false) Q E s := by
  obtain ⟨od, esd, epd, hod, hcd, hdd, hkd, hpd, hnd⟩ := id hd
  obtain ⟨oo, eso, epo, hoo, hco, hdo', hko, hpo, hno⟩ := id ho
  unfold mergeMapping
  refine wpAny_bind (wpAny_isInstance ho.typeIs isSubtype_dict_dict ?_)
  dsimp only
  rw [if_pos rfl]
  refine wpAny_bind (wpAny_specialOf ho.typeIs F.slot_dict_iter.lookup (wpAny_bind (wpAny_pure ?_)))
  simp only [beq_self_eq_true, Bool.false_eq_true, if_false]
  rw [if_neg (by rw [hoS]; exact Bool.false_ne_true)]
  have hlen : more.length = eso.size := by rw [← hpo.length]; simp
  have loop : wpAny (model prog w) A (do
        let l ← dictEntries o
        let epoch ← dictEpoch o
        forIn (List.range l.size) PUnit.unit fun i (_ : PUnit) => (do
          let l ← dictEntries o
          match l[i]? with
            | some e => do
              holding [e.key, e.val] (dictPut d e.hash e.key e.val)
              let ep ← dictEpoch o
              if (ep != epoch) = true then do
                  (unsupported "dict.changed-during-merge" : Sem PUnit)
                  pure (ForInStep.yield PUnit.unit)
                else pure (ForInStep.yield PUnit.unit)
            | _ => do
              (unsupported "dict.changed-during-merge" : Sem PUnit)
              pure (ForInStep.yield PUnit.unit) : Sem (ForInStep PUnit))
        pure ()) Q E s := by
    refine wpAny_bind (wpAny_dictEntries hoo hdo' ?_)
    refine wpAny_bind (wpAny_dictEpoch hoo hdo' ?_)
    refine wpAny_bind ?_
    rw [List.range_eq_range']
    refine wpAny_forIn_list _
      (fun rest _ s' => ∃ h' i, s' = { s with heap := h' } ∧ rest = List.range' i (eso.size - i) ∧ i ≤ eso.size ∧ h'.DictOf knd d (merged kvs (more.take i)) ∧ h'.get? o = some oo ∧ Heap.SameBut d s.heap h')
      _ ?_ ?_ _ _ ⟨s.heap, 0, rfl, by simp, Nat.zero_le _, by simpa [merged] using hd, hoo, Heap.SameBut.refl _ _⟩
    · rintro x rest b s' ⟨h', i, rfl, hr, hi, hd', hoo', hs'⟩
      have hlt : i < eso.size := by
        rcases Nat.lt_or_ge i eso.size with h | h
        · exact h
        · rw [Nat.sub_eq_zero_of_le h] at hr; simp at hr
      obtain ⟨rfl, hrest⟩ : x = i ∧ rest = List.range' (i + 1) (eso.size - (i + 1)) := by
        have e : eso.size - i = (eso.size - (i + 1)) + 1 := by omega
        rw [e, List.range'_succ] at hr
        injection hr with h1 h2
        exact ⟨h1, h2⟩
      refine wpAny_bind (wpAny_dictEntries hoo' hdo' ?_)
      rw [Array.getElem?_eq_getElem hlt]
      obtain ⟨kv, hkv⟩ : ∃ kv, more[x]? = some kv := ⟨more[x]'(by rw [hlen]; exact hlt), List.getElem?_eq_getElem _⟩
      obtain ⟨k, v⟩ := kv
      obtain ⟨hkey, hval⟩ := hpo.get? (e := eso[x]) (by simp [hlt]) hkv
      obtain ⟨k', hkey', hhash⟩ := hko eso[x] (Array.getElem_mem hlt)
      obtain rfl : k' = k := knd.inj _ _ _ hkey' hkey
      show wpAny _ _ (holding [eso[x].key, eso[x].val] (dictPut d eso[x].hash eso[x].key eso[x].val) >>= _) _ _ _
      rw [hhash, hval]
      have hmx : (merged kvs (more.take x)).length ≤ sizeLine := by
        have e1 := merged_length_le kvs (more.take x)
        have e2 : (more.take x).length ≤ more.length := by rw [List.length_take]; omega
        omega
      refine wpAny_bind (wpAny_holding (wpAny_dictPut_pairs (hsz := hmx) hkey hd' fun h'' hd'' hs'' => ?_))
      have hoo'' : h''.get? o = some oo := (hs''.2 o (Ne.symm hdo)).trans hoo'
      refine wpAny_bind (wpAny_dictEpoch hoo'' hdo' ?_)
      rw [if_neg (by simp)]
      exact wpAny_pure ⟨h'', x + 1, rfl, hrest, hlt, by rw [merged_take_succ kvs more x (k', v) hkv]; exact hd'', hoo'', hs'.trans hs''⟩
    · rintro b s' ⟨h', i, rfl, hr, hi, hd', hoo', hs'⟩
      have hin : i = eso.size := by
        rcases Nat.lt_or_ge i eso.size with h | h
        · have e : eso.size - i = (eso.size - (i + 1)) + 1 := by omega
          rw [e, List.range'_succ] at hr; exact nomatch hr
        · exact Nat.le_antisymm hi h
      refine wpAny_pure (hQ h' ?_ ⟨oo, eso, epo, hoo', hco, hdo', hko, hpo, hno⟩ hs')
      rw [hin, ← hlen, List.take_length] at hd'; exact hd'
  refine wpAny_bind (wpAny_dictEntries hod hdd ?_)
  split
  · refine wpAny_bind (wpAny_dictEntries hoo hdo' ?_)
    rw [← Array.forIn_toList]
    refine wpAny_bind (wpAny_of_eq (forIn_yield_id _ fun e he c => ?_) loop)
    obtain ⟨k, hkey, _⟩ := hko e (Array.mem_toList_iff.mp he)
    have hv := knd.byValue k _ hkey
    cases hh : e.key with
    | ref a => exact absurd hh (not_ref_of hv)
    | _ => rfl
  · exact loop
theorem dictDisplay_dup (va k v : Sem Value) : dictDisplay [(none, va), (some k, v)] = (do
      let d ← alloc { cls := .type "dict", data := .dict #[] }
      let m ← holding [.ref d] va
      (((holding [.ref d, m] (mergeMapping d m false)).onRaise fun x => do let _ ← holding [.ref d, m, x] (runValue (.builtin "proto.let_go" {}))).tryCatch fun e => do
        if ← isInstance e (.type "AttributeError") then
          rule "dict.display.not-a-mapping"; raiseError "TypeError" s!"'{← typeNameOf m}' object is not a mapping"
        throw e).onRaise fun x => do let _ ← holding [.ref d, x] (runValue (.builtin "proto.let_go" {}))
      let sub ← holding [.ref d] (subDict [(k, v)])
      (holding [.ref d, .ref sub] (mergeMapping d (.ref sub) false)).onRaise fun x => do let _ ← holding [.ref d, x] (runValue (.builtin "proto.let_go" {}))
      pure (.ref d)) := by
  unfold dictDisplay
  simp [List.forIn_cons]
end
section
variable {prog : Program} {w : World} {A : Around} {E : Value → Shared → Prop} {s : Shared} {env : Env}
/-- {**a, k: v} -/
theorem wpAny_Dict_dup {ea ek ew : Expr} {pos : Pos} {Q : Value → Shared → Prop}
    (h : wpAny (model prog w) A (eval ea env) (fun m s1 => wpAny (model prog w) A (mergeMapping s.heap.objs.size m false) (fun _ s2 =>
      wpAny (model prog w) A (eval ek env) (fun kv s3 => wpAny (model prog w) A (eval ew env) (fun vv s4 => wpAny (model prog w) A (dictSet s2.heap.objs.size kv vv) (fun _ s5 =>
        wpAny (model prog w) A (mergeMapping s.heap.objs.size (.ref s2.heap.objs.size) false) (fun _ s6 => Q (.ref s.heap.objs.size) s6) (fun _ _ => False) s5) E s4) E s3) E
          { s2 with heap := s2.heap.push { cls := .type "dict", data := .dict #[] } }) (fun _ _ => False) s1) E { s with heap := s.heap.push { cls := .type "dict", data := .dict #[] } }) :
    wpAny (model prog w) A (eval (.Dict [none, some ek] [ea, ew] pos) env) Q E s := by
  rw [arm_eval_Dict]
  refine wpAny_bind (wpAny_standAt ?_)
  show wpAny _ _ (dictDisplay [(none, do let x ← eval ea env; standAt pos; pure x), (some (eval ek env), do let x ← eval ew env; standAt pos; pure x)]) _ _ _
  rw [dictDisplay_dup]
  refine wpAny_bind (wpAny_alloc ?_)
  refine wpAny_bind (wpAny_holding (wpAny_bind (wpAny_mono h (fun m s1 h1 => ?_) fun _ _ e => e)))
  refine wpAny_bind (wpAny_standAt (wpAny_pure ?_))
  refine wpAny_bind (wpAny_onRaise (wpAny_tryCatch (wpAny_onRaise (wpAny_holding (wpAny_mono h1 (fun _ s2 h2 => ?_) fun _ _ e => e.elim)))))
  refine wpAny_bind (wpAny_holding ?_)
  refine wpAny_subDict_any (Nat.le_add_left _ _) (evalPairs_cons (wpAny_mono h2 (fun kv s3 h3 => ?_) fun _ _ e => e))
  refine wpAny_bind (wpAny_mono h3 (fun vv s4 h4 => ?_) fun _ _ e => e)
  refine wpAny_bind (wpAny_standAt (wpAny_pure (evalPairs_nil ?_)))
  unfold storeAll
  rw [List.forIn_cons]
  refine wpAny_bind (wpAny_bind (wpAny_mono h4 (fun _ s5 h5 => wpAny_pure ?_) fun _ _ e => e))
  dsimp only
  rw [List.forIn_nil]
  refine wpAny_pure ?_
  exact wpAny_bind (wpAny_onRaise (wpAny_holding (wpAny_mono h5 (fun _ s6 h6 => wpAny_pure h6) fun _ _ e => e.elim)))
end
section
variable {α β γ : Type} {G : GC} {W : WX} {σ : L2.St} {R : Hp → List Addr → α → β → Prop}
theorem Post.bindB {R1 : Hp → List Addr → γ → β → Prop} {F0 H0 F H : Hp} {rho0 rho : List Addr} {δ : Type} {r : Res γ} {k : γ → Mem → Res α} {Rk : Hp → List Addr → α → δ → Prop} {Q : δ → Hp → Prop} (x0 : Ext F0 H0 rho0 F H rho) (h : Post G W σ Rk F0 H0 rho0 (r.bind k) Q) :
    Post G W σ R1 F H rho r (fun v H' => ∃ F' rho' d m', Ext F H rho F' H' rho' ∧ RelM G F' H' rho' m' ∧ R1 F' rho' d v ∧ Post G W σ Rk F0 H0 rho0 (k d m') Q) := by
  cases r with
  | ok d m => exact fun v H' F' rho' x r rr => ⟨F', rho', d, m, x, r, rr, h⟩
  | ex y m => exact fun c dd H' F' rho' x r rx => h c dd H' F' rho' (x0.trans x) r rx
  | no => exact h
end
section
variable {X : Cx} {G : GC} {W : WX} {g : Gl}
/-- {**a, k: v}: p the new dict, q the dict of what is written behind it -/
def tDup (ta tk tv : TE) : TE := fun σ H Q => ∀ p, H p = none → ta σ (upd H p (.dK [])) fun x H1 => ∃ (o : Addr) (kvs : List (Key × V)), x = .ref o ∧ Rd H1 o (.dK kvs) ∧ o ≠ p ∧ H1 p = some (.dK []) ∧
  ∀ q, q ≠ p → H1 q = none → tk σ (upd (upd H1 p (.dK kvs)) q (.dK [])) fun y H2 => tv σ H2 fun z H3 => ∃ (k : Key) (ws : List (Key × V)), y = kV k ∧ H3 p = some (.dK ws) ∧ ws.length < sizeLine ∧ H3 q = some (.dK []) ∧
    Q (.ref p) (upd (upd H3 q (.dK [(k, z)])) p (.dK (putK ws k z)))
theorem pe_dup {ea ek ew : Expr} {ta tk tv : TE} {pos : Pos} (hu : X.A.units + 1 < cLine) (ha : PE X ea ta) (hk : PE X ek tk) (hw : PE X ew tv) : PE X (.Dict [none, some ek] [ea, ew] pos) (tDup ta tk tv) := by
  refine ⟨fun pins s σ H Q I q => ?_⟩
  have hn := I.hok.fresh (Nat.le_refl s.heap.objs.size)
  have I1 := I.laid (a := s.heap.objs.size) (o := .dK []) (h' := s.heap.push { cls := .type "dict", data := .dict #[] }) (t' := s.toks) (fun _ _ q => Heap.get?_push_of_some _ q) (Nat.le_refl _) (dk_empty s.heap I.big)
  refine wpAny_Dict_dup (thn (ha.run pins _ σ _ _ I1 (q _ hn)) fun u s1 ⟨x, H1, I2, rx, o, kvs, ex, e1, hne, ep, q2⟩ => ?_)
  subst ex
  cases (show u = Value.ref o from rx)
  obtain ⟨z0, hd0, vs0, rel0, dd0⟩ := dk_of I2.hok ep
  obtain ⟨z1, hd1, vs1, rel1, dd1⟩ := rd_of I2.hok e1
  cases rel0
  refine wpAny_mergeMap (Ne.symm hne) hd1 dd0 dd1 (hsz := by rw [← Paired.length rel1]; simpa using z1) fun h' a1 a2 hs => ?_
  have hnd : (vs1.map (·.1)).Nodup := by
    obtain ⟨_, _, _, _, _, _, _, _, hn⟩ := dd1
    exact hn
  rw [merged_nil_of_nodup vs1 hnd] at a1
  have hex : ∃ q, h'.get? s.heap.objs.size = some q := by
    obtain ⟨o, _, _, ho, _⟩ := a1
    exact ⟨o, ho⟩
  have I3 := d_write (t' := s1.toks) I2 (by rw [ep]; exact True.intro) hs hex (ob := .dK kvs) (dk_new z1 hd0 rel1 a1)
  have hqp : h'.objs.size ≠ s.heap.objs.size := fun z => by
    obtain ⟨o, _, _, ho, _⟩ := a1
    rw [← z] at ho
    rw [Heap.get?_none_of_le (Nat.le_refl _)] at ho
    cases ho
  have hn2 : upd H1 s.heap.objs.size (.dK kvs) h'.objs.size = none := I3.hok.fresh (Nat.le_refl _)
  have I4 := I3.laid (a := h'.objs.size) (o := .dK []) (h' := h'.push { cls := .type "dict", data := .dict #[] }) (t' := s1.toks) (fun _ _ q => Heap.get?_push_of_some _ q) (Nat.le_refl _) (dk_empty h' I3.big)
  refine thn (hk.run pins _ σ _ _ I4 (q2 _ hqp (by rw [upd_ne hqp] at hn2; exact hn2))) fun kv s3 ⟨y, H2, I5, ry, q3⟩ => ?_
  refine thn (hw.run pins _ σ _ _ I5 q3) fun vv s4 ⟨z, H3, I6, rz, k, ws, ey, ep3, hz3, eq3, q4⟩ => ?_
  subst ey
  obtain ⟨y0, hd2, vs2, rel2, dd2⟩ := dk_of I6.hok eq3
  cases rel2
  refine wpAny_dictSet_pairs (hsz := Nat.zero_le _) (kV_is ry) dd2 fun h5 a5 hs5 => ?_
  have ex5 : ∃ q, h5.get? h'.objs.size = some q := by
    obtain ⟨o, _, _, ho, _⟩ := a5
    exact ⟨o, ho⟩
  have I7 := d_write (t' := s4.toks + 1) I6 (by rw [eq3]; exact True.intro) hs5 ex5 (ob := .dK [(k, z)]) (dk_new (by rw [sizeLine_eq]; simp) hd2 (KV.put (kvs := []) .nil k rz) a5)
  have epw : (upd H3 h'.objs.size (.dK [(k, z)])) s.heap.objs.size = some (.dK ws) := by rw [upd_ne (Ne.symm hqp)]; exact ep3
  have eqw : (upd H3 h'.objs.size (.dK [(k, z)])) h'.objs.size = some (.dK [(k, z)]) := upd_same
  obtain ⟨z6, hd6, vs6, rel6, dd6⟩ := dk_of I7.hok epw
  have hl : (putK ws k z).length ≤ sizeLine := by have := length_putK ws k z; omega
  refine wpAny_mergeMap (Ne.symm hqp) hd2 dd6 a5 (hsz := by
    have := Paired.length rel6
    show vs6.length + 1 ≤ sizeLine
    omega) fun h8 a8 _ hs8 => ?_
  have ex8 : ∃ q, h8.get? s.heap.objs.size = some q := by
    obtain ⟨o, _, _, ho, _⟩ := a8
    exact ⟨o, ho⟩
  exact ⟨.ref s.heap.objs.size, _, d_write (t' := s4.toks + 1) I7 (by rw [epw]; exact True.intro) hs8 ex8 (ob := .dK (putK ws k z)) (dk_new hl hd6 (rel6.put k rz) a8), rfl, q4⟩
variable {a k v : E} {ea ek ew : Expr} {pos : Pos}
theorem se_dup (hu : X.A.units + 1 < cLine) (ha : SE X G W g ea a) (hk : SE X G W g ek k) (hw : SE X G W g ew v) : SE X G W g (.Dict [none, some ek] [ea, ew] pos) (.dup a k v) := by
  refine (pe_dup hu ha hk hw).imp fun σ H Q hq p hn => ?_
  obtain ⟨F, rho, m, e, r, re, hp⟩ := hq
  rw [ev] at hp
  obtain ⟨r1, x1⟩ := r.cell (o := .dK []) (c := .dic .k []) hn ⟨[], upd_same, .nil⟩
  have re1 := x1.rde r re
  refine tI.mk r1 re1 ((Post.bind (R1 := RD1 G) (Post.ext hp x1)).imp fun x H1 ⟨F1, rho1, d1, m1, x2, r2, rr, hp1⟩ => ?_)
  have hrho : rho1[m.length]? = some p := x2.beg _ _ (by rw [r.len]; simp)
  dsimp only at hp1
  split at hp1
  rotate_left
  · exact hp1.elim
  rename_i kvs hv hm
  obtain ⟨hz, hp2⟩ := Post.ite hp1
  simp only [Bool.and_eq_true, decide_eq_true_eq] at hz
  obtain ⟨hz, hnr⟩ := hz
  obtain ⟨k0, e1, e2⟩ := r2.cel _ _ _ hrho hm
  cases e2
  obtain ⟨o, rfl, hat⟩ := r2.vwd rr hv
  cases hat with
  | k h1 h2 =>
    rename_i ks
    have hop : o ≠ p := by
      intro z
      subst z
      cases d1 with
      | ref n =>
        cases rr with
        | ref hh =>
          have hnn : n ≠ m.length := of_decide_eq_true hnr
          obtain ⟨l1, w1⟩ := List.getElem?_eq_some_iff.mp hh
          obtain ⟨l2, w2⟩ := List.getElem?_eq_some_iff.mp hrho
          exact hnn ((List.getElem_inj r2.nd).mp (w1.trans w2.symm))
      | dic q ys =>
        have hF := r2.off _ _ _ hrho hm (fun z => nomatch z)
        cases hv
        cases rr with
        | dicK h3 h4 =>
          rcases h3 with h3 | ⟨_, h3⟩ <;> (rw [hF] at h3; cases h3)
      | _ => cases hv
    refine ⟨o, ks, rfl, h1, hop, e1, fun q hqp hq => ?_⟩
    obtain ⟨r3, x3⟩ := r2.write (o := .dK ks) (c' := .dic .k kvs) hrho hm (fun z => nomatch z) ⟨ks, upd_same, h2⟩
    have hq2 : upd H1 p (.dK ks) q = none := by rw [upd_ne hqp]; exact hq
    have qn : q ∉ rho1 := r3.off' hq2
    have r4 := r3.other (o := .dK []) qn (r3.notin hq2)
    have x4 : Ext F1 (upd H1 p (.dK ks)) rho1 F1 (upd (upd H1 p (.dK ks)) q (.dK [])) rho1 := (Ext.refl _ _ _).other hq2
    have x24 := x2.trans (x3.trans x4)
    have x34 := x3.trans x4
    refine tI.mk r4 (x24.rde r1 re1) ((Post.bindB (R1 := RD1 G) x34 hp2).imp fun y H2 ⟨F2, rho2, d2, m2, x5, r5, rr2, hp3⟩ => ?_)
    refine tI.mk r5 ((x24.trans x5).rde r1 re1) ((Post.bindB (R1 := RD1 G) (x34.trans x5) hp3).imp fun zz H3 ⟨F3, rho3, d3, m3, x6, r6, rr3, hp4⟩ => ?_)
    have hrho3 : rho3[m.length]? = some p := x6.beg _ _ (x5.beg _ _ hrho)
    split at hp4
    rotate_left
    · exact hp4.elim
    rename_i ws hm3
    obtain ⟨hz3, hp5⟩ := Post.ite hp4
    have hz3 := of_decide_eq_true hz3
    cases hpp : putP .k ws d2 d3 with
    | none => rw [hpp] at hp5; exact hp5.elim
    | some ws' =>
      rw [hpp] at hp5
      obtain ⟨wk, g1, g2⟩ := r6.cel _ _ _ hrho3 hm3
      cases hkk : keyD d2 with
      | none => rw [putP, hkk] at hpp; cases hpp
      | some kk =>
        rw [putP, hkk] at hpp
        have hpp := Option.some.inj hpp
        have hy := keyD_rd hkk rr2
        subst hy
        have q0 : upd (upd H1 p (.dK ks)) q (.dK []) q = some (.dK []) := upd_same
        have q2 : H2 q = some (.dK []) := x5.keep _ _ q0 qn
        have qn2 : q ∉ rho2 := fun hin => by
          have := x5.new _ hin qn
          rw [q0] at this
          cases this
        have q3 : H3 q = some (.dK []) := x6.keep _ _ q2 qn2
        have qn3 : q ∉ rho3 := fun hin => by
          have := x6.new _ hin qn2
          rw [q2] at this
          cases this
        have hF1 : F1 q = none := r3.notin hq2
        have hF3 : F3 q = none := by
          cases hh : F3 q with
          | none => rfl
          | some u =>
            rcases (x5.trans x6).cl q u hh with z | z | z
            · rw [hF1] at z; cases z
            · rw [q0] at z; cases z
            · exact absurd z qn
        refine ⟨kk, wk, rfl, g1, by rw [← rdk_len g2]; exact hz3, q3, ?_⟩
        have r7 := r6.other (o := .dK [(kk, zz)]) qn3 hF3
        have x7 : Ext F1 H1 rho1 F3 (upd H3 q (.dK [(kk, zz)])) rho3 := (x34.trans (x5.trans x6)).other hq
        obtain ⟨r8, x8⟩ := r7.write (o := .dK (putK wk kk zz)) (c' := .dic .k ws') hrho3 hm3 (fun z => nomatch z) ⟨_, upd_same, by
          subst hpp
          unfold putK
          dsimp only
          rw [any_rdk g2]
          split
          · exact map_rdk rr3 g2
          · exact app_rdk hkk rr3 g2⟩
        exact hp5 _ _ _ _ (x7.trans x8) r8 (.ref hrho3)
/-- a new dict that nobody writes to -/
theorem se_frz {e0 : Expr} (h : SE X G W g e0 a) : SE X G W g e0 (.frz a) := by
  refine h.imp fun σ H Q hq => ?_
  obtain ⟨F, rho, m, e, r, re, hp⟩ := hq
  rw [ev] at hp
  refine tI.mk r re ((Post.bindB (R1 := RD1 G) (Ext.refl _ _ _) hp).imp fun v H' ⟨F', rho', d, m', x', r', rr, hp1⟩ => ?_)
  cases d with
  | ref n =>
    rw [frzD] at hp1
    obtain ⟨hc, hp2⟩ := Post.ite hp1
    simp only [Bool.and_eq_true, decide_eq_true_eq] at hc
    obtain ⟨rfl, hlen, hba⟩ := hc
    cases rr with
    | @ref _ p href =>
      cases hm : m'[m.length]? with
      | none => rw [hm] at hp2; exact hp2.elim
      | some cc =>
        rw [hm] at hp2
        have hF' := fun z => r'.off _ p _ href hm z
        cases cc with
        | lst xs =>
          obtain ⟨hu, hp3⟩ := Post.ite hp2
          obtain ⟨vs, e1, e2⟩ := r'.cel _ p _ href hm
          obtain ⟨q1, q2, q3⟩ := RelM.freeze r r' x' hlen href hm (fun z => nomatch z) e1 hba
          exact hp3 _ _ _ _ q2 q1 (.lst upd_same (RDs.mono (Grow.upd (hF' fun z => nomatch z)).sub (Beg.refl _) _ _ (RDs.lt q3 _ _ hu e2)))
        | dic q xs =>
          obtain ⟨hu, hp3⟩ := Post.ite hp2
          cases q with
          | k =>
            obtain ⟨vs, e1, e2⟩ := r'.cel _ p _ href hm
            obtain ⟨q1, q2, q3⟩ := RelM.freeze r r' x' hlen href hm (fun z => nomatch z) e1 hba
            exact hp3 _ _ _ _ q2 q1 (.dicK (.inl upd_same) (RDk.mono (Grow.upd (hF' fun z => nomatch z)).sub (Beg.refl _) _ _ (RDk.lt q3 _ _ hu e2)))
          | t =>
            obtain ⟨vs, e1, e2⟩ := r'.cel _ p _ href hm
            obtain ⟨q1, q2, q3⟩ := RelM.freeze r r' x' hlen href hm (fun z => nomatch z) e1 hba
            exact hp3 _ _ _ _ q2 q1 (.dicT (.inl upd_same) (RDt.mono (Grow.upd (hF' fun z => nomatch z)).sub (Beg.refl _) _ _ (RDt.lt q3 _ _ hu e2)))
        | _ => exact hp2.elim
  | _ => exact hp1 _ _ _ _ x' r' rr
end
end IP

/-! IpW -/
set_option Elab.async false
set_option linter.all false
set_option maxRecDepth 100000
set_option maxHeartbeats 8000000
/-! IpW: the check is sound: expressions, all of them. -/
namespace IP
open PySem L2 PyProof.Rows
theorem free_of {X : Cx} {G : GC} {W : WX} {g : Gl} {xn : String → Option (List String)} {T : Tb} {sc : Scope} {N : List Str} {hs : Option Nat} (C : Cxt X G W g xn T sc N hs) {x : Str} (h : (T.free.any fun f => decide (Str.ofString f = x)) = true) : X.mg x = none := by
  obtain ⟨f, h1, h2⟩ := List.any_eq_true.mp h
  have e := of_decide_eq_true h2
  subst e
  exact C.free f h1
theorem kw_isSome {pos : Pos} {env : Env} : ∀ {kws : List Keyword}, kws.all (fun k => k.arg.isSome) = true → (backToKw pos (keywordEach kws env)).all (·.1.isSome) = true ∧ (backToKw pos (keywordEach kws env)).filterMap (·.1) = kws.filterMap (·.arg) ∧ (backToKw pos (keywordEach kws env)).any (·.1.isNone) = false
  | [], _ => ⟨rfl, rfl, rfl⟩
  | ⟨n, e, p⟩ :: kws, h => by
    rw [List.all_cons, Bool.and_eq_true] at h
    obtain ⟨h1, h2, h3⟩ := kw_isSome (pos := pos) (env := env) h.2
    have e1 : backToKw pos (keywordEach (⟨n, e, p⟩ :: kws) env) = (n, do let v ← eval e env; standAt pos; pure v) :: backToKw pos (keywordEach kws env) := rfl
    have hn : n.isSome = true := h.1
    refine ⟨?_, ?_, ?_⟩
    · rw [e1, List.all_cons, h1]
      simp [hn]
    · rw [e1]
      cases n with
      | none => cases hn
      | some n =>
        simp only [List.filterMap_cons, h2]
    · rw [e1, List.any_cons, h3]
      cases n with
      | none => cases hn
      | some n => rfl
theorem methForm {pos : Pos} {env : Env} {args : List Expr} {kws : List Keyword} (h : noStars args = true) (hk : kws.all (fun k => k.arg.isSome) = true) (hl : args.length + kws.length < 29) (hl2 : kws = [] ∨ args.length + kws.length < 28) : methodCallForm (args.length + kws.length) (backTo pos (starEach args env)) (backToKw pos (keywordEach kws env)) = true := by
  have h1 : (backTo pos (starEach args env)).all (fun x => !x.1) = true := by
    have := noStars_of (env := env) (p := pos) h
    rw [List.all_eq_true]
    intro x hx
    have h2 := List.any_eq_false.mp this x hx
    simpa using h2
  unfold methodCallForm
  rw [h1, (kw_isSome (pos := pos) (env := env) hk).1]
  simp only [Bool.true_and]
  refine decide_eq_true ?_
  split <;> omega
theorem kw_len : ∀ {l : List Keyword}, l.all (fun k => k.arg.isSome) = true → l.length = (l.filterMap (·.arg)).length
  | [], _ => rfl
  | q :: l, hl => by
    rw [List.all_cons, Bool.and_eq_true] at hl
    cases hq : q.arg with
    | none => rw [hq] at hl; cases hl.1
    | some n => simp only [List.filterMap_cons, hq, List.length_cons, kw_len hl.2]
theorem pw_of {X : Cx} {op : BoolOp} {es : List Expr} {pos : Pos} {t : TT} (h : PT X (.BoolOp op es pos) t) : PW X (.BoolOp op es pos) t := ⟨fun wh pins s σ H Q I q => h.run pins s σ H Q I q⟩
mutual
theorem chk_ok : ∀ (a : E) {X : Cx} {G : GC} {W : WX} {g : Gl} {xn : String → Option (List String)} {T : Tb} {sc : Scope} {N : List Str} {hs : Option Nat} {md : Bool} {e : Expr}, Cxt X G W g xn T sc N hs → chk T sc N hs md a e = true → Sd md X G W g e a
  | .loc i, X, G, W, g, xn, T, sc, N, hs, md, e, C, h => by
    rw [chk.eq_def] at h; dsimp only at h
    split at h
    · simp only [Bool.and_eq_true, decide_eq_true_eq] at h
      obtain ⟨h1, h2, h3⟩ := h
      exact Sd.of C.B.hK (se_loc (C.hN ▸ h1) (visB_of C h2) (okN_of h3).1 (okN_of h3).2) rfl fun e m => by simp only [evT]
    · cases h
  | .con d, X, G, W, g, xn, T, sc, N, hs, md, e, C, h => by
    rw [chk.eq_def] at h; dsimp only at h
    obtain ⟨q1, q2⟩ := conB_of h
    exact Sd.of C.B.hK q1 q2 fun e m => by simp only [evT]
  | .gcon x d, X, G, W, g, xn, T, sc, N, hs, md, e, C, h => by
    rw [chk.eq_def] at h; dsimp only at h
    split at h
    · simp only [Bool.and_eq_true, decide_eq_true_eq] at h
      obtain ⟨rfl, h2, h3, h4⟩ := h
      refine Sd.of C.B.hK ?_ rfl fun e m => by simp only [evT]
      unfold gconB at h4
      split at h4
      · obtain ⟨t, q⟩ := C.gints _ (by simpa using h4)
        exact se_gcon (pe_glob (v := .int _) (glB_of C h2) q ⟨t, rfl⟩ (okN_of h3).1) fun _ _ => .int _
      · obtain ⟨p, q1, q2⟩ := List.any_eq_true.mp h4
        simp only [Bool.and_eq_true, decide_eq_true_eq, beq_iff_eq] at q2
        obtain ⟨t, q⟩ := C.gstrs p q1
        rw [q2.1, q2.2] at q
        exact se_gcon (pe_glob (v := .str _) (glB_of C h2) q ⟨t, rfl⟩ (okN_of h3).1) fun _ _ => .str _
      · cases h4
    · cases h
  | .bin op a b, X, G, W, g, xn, T, sc, N, hs, md, e, C, h => by
    rw [chk.eq_def] at h; dsimp only at h
    split at h
    · simp only [Bool.and_eq_true, decide_eq_true_eq] at h
      obtain ⟨rfl, h1, h2⟩ := h
      exact Sd.of C.B.hK (se_bin C.B C.O (chk_ok a C h1) (chk_ok b C h2)) rfl fun e m => by simp only [evT]
    · cases h
  | .neg a, X, G, W, g, xn, T, sc, N, hs, md, e, C, h => by
    rw [chk.eq_def] at h; dsimp only at h
    split at h
    · exact Sd.of C.B.hK (se_neg C.O (chk_ok a C h)) rfl fun e m => by simp only [evT]
    · cases h
  | .nt a, X, G, W, g, xn, T, sc, N, hs, md, e, C, h => by
    rw [chk.eq_def] at h; dsimp only at h
    split at h
    · have q := chk_ok a C h
      cases md with
      | true => exact st_not q
      | false => exact se_nt C.B.hK q
    · cases h
  | .an a b, X, G, W, g, xn, T, sc, N, hs, md, e, C, h => by
    rw [chk.eq_def] at h; dsimp only at h
    split at h
    · simp only [Bool.and_eq_true] at h
      obtain ⟨h1, h2⟩ := h
      have q1 := chk_ok a C h1
      split at h2
      · have q2 := chk_ok b C h2
        cases md with
        | true => exact (sw_and q1 (sw_and1 q2)).pt
        | false => exact se_and q1 (se_bone q2)
      · have q2 := chk_ok b C h2
        cases md with
        | true => exact (sw_and q1 (pw_of q2)).pt
        | false => exact se_and q1 q2
    · cases h
  | .orr a b, X, G, W, g, xn, T, sc, N, hs, md, e, C, h => by
    rw [chk.eq_def] at h; dsimp only at h
    split at h
    · simp only [Bool.and_eq_true] at h
      obtain ⟨h1, h2⟩ := h
      have q1 := chk_ok a C h1
      split at h2
      · have q2 := chk_ok b C h2
        cases md with
        | true => exact (sw_or q1 (sw_or1 q2)).pt
        | false => exact se_or q1 (se_bone q2)
      · have q2 := chk_ok b C h2
        cases md with
        | true => exact (sw_or q1 (pw_of q2)).pt
        | false => exact se_or q1 q2
    · cases h
  | .cmp op a b, X, G, W, g, xn, T, sc, N, hs, md, e, C, h => by
    rw [chk.eq_def] at h; dsimp only at h
    split at h
    · simp only [Bool.and_eq_true, decide_eq_true_eq] at h
      obtain ⟨rfl, h1, h2, h3⟩ := h
      cases md with
      | true => exact st_cmp C.B C.O (chk_ok a C h2) (chk_ok b C h3) h1
      | false => exact se_cmp C.B C.O (chk_ok a C h2) (chk_ok b C h3) h1
    · cases h
  | .cmp2 op1 op2 a b c, X, G, W, g, xn, T, sc, N, hs, md, e, C, h => by
    rw [chk.eq_def] at h; dsimp only at h
    split at h
    · simp only [Bool.and_eq_true, decide_eq_true_eq] at h
      obtain ⟨⟨rfl, rfl⟩, h1, h2, h3, h4⟩ := h
      cases md with
      | true => exact st_cmp2 C.B C.O (chk_ok a C h2) (chk_ok b C h3) (chk_ok c C h4) h1
      | false => exact se_cmp2 C.B C.O (chk_ok a C h2) (chk_ok b C h3) (chk_ok c C h4) h1
    · cases h
  | .ife c a b, X, G, W, g, xn, T, sc, N, hs, md, e, C, h => by
    rw [chk.eq_def] at h; dsimp only at h
    split at h
    · simp only [Bool.and_eq_true, Bool.not_eq_true'] at h
      obtain ⟨rfl, h1, h2, h3⟩ := h
      exact se_ife (chk_ok c C h1) (chk_ok a C h2) (chk_ok b C h3)
    · cases h
  | .tup es, X, G, W, g, xn, T, sc, N, hs, md, e, C, h => by
    rw [chk.eq_def] at h; dsimp only at h
    split at h
    · exact Sd.of C.B.hK (se_tup (chkEs_ok es C h)) rfl fun e m => by simp only [evT]
    · cases h
  | .lst mu es, X, G, W, g, xn, T, sc, N, hs, md, e, C, h => by
    rw [chk.eq_def] at h; dsimp only at h
    split at h
    · exact Sd.of C.B.hK (se_lst (chkEs_ok es C h)) rfl fun e m => by simp only [evT]
    · cases h
  | .dic q mu kvs, X, G, W, g, xn, T, sc, N, hs, md, e, C, h => by
    rw [chk.eq_def] at h; dsimp only at h
    split at h
    · simp only [Bool.and_eq_true, decide_eq_true_eq] at h
      obtain ⟨h1, h2, h3⟩ := h
      cases q with
      | t =>
        obtain ⟨q1, q2, q3, q4⟩ := chkKv_ok kvs C h3
        by_cases hn : kvs = .nil
        · subst hn
          rw [chkKv.eq_def] at h3
          dsimp only at h3
          simp only [Bool.and_eq_true, List.isEmpty_iff] at h3
          obtain ⟨rfl, rfl⟩ := h3
          exact Sd.of C.B.hK se_dicT rfl fun e m => by simp only [evT]
        · exact Sd.of C.B.hK (se_disT1 (by have := C.B.units; omega) q1 q2 q3 h2 (fun z => hn (q4 z)) hn) rfl fun e m => by simp only [evT]
      | k =>
        obtain ⟨q1, q2, q3, q4⟩ := chkKv_ok kvs C h3
        exact Sd.of C.B.hK (se_dic q1 q2 q3 h2 q4) rfl fun e m => by simp only [evT]
    · cases h
  | .comp mu elt tg it cnd own, X, G, W, g, xn, T, sc, N, hs, md, e, C, h => by
    rw [chk.eq_def] at h; dsimp only at h
    split at h
    · rename_i eelt tge iter ifs scope p
      simp only [Bool.and_eq_true, decide_eq_true_eq] at h
      obtain ⟨⟨h1, h2, h3, h4, h5⟩, h6, h7, h8⟩ := h
      refine Sd.of C.B.hK ?_ rfl fun e m => by simp only [evT]
      by_cases hcur : g.cur.isNone = true
      rotate_left
      · refine ⟨fun pins s σ H Q I hq => ?_⟩
        obtain ⟨F, rho, m, e, r, re, hp⟩ := hq
        rw [ev, if_neg hcur] at hp
        exact hp.elim
      have hcalm : X.calm = true := C.B.calm (by simpa using hcur)
      have ok : BlkOk X.N X.env.scope scope (ownL N own) := blkOk_by (by rw [C.hN, C.hsc]; exact h2)
      have pe := pe_lc (X := X) (scope := scope) (pos := p) (g := gOf X.K tg) hcalm C.B.nd (chkIt_ok it C h1) ok
        (fun s H CA cl fp => tgB_of (X := X.blk s H scope (compEnvC scope cl CA X.env) fp) (C.blk hcur).hsc C.hN C.B.nd hcalm (fun x h1 h2 => by
          show (scope.names.lookup x == some NameKind.cell) = true
          rw [celB_of h2]
          rfl) h6)
        (fun s H CA cl fp => chkO_ok cnd (C.blk hcur) h7) (fun s H CA cl fp => chk_ok elt (C.blk hcur) h8) (notSet_fold h5)
      rw [h3] at pe
      exact pe.imp fun σ H Q hq => comp_ok C.B.hK C.B.slc (fun i hi => by simpa using List.all_eq_true.mp h4 i hi) hq
    · cases h
  | .comp2 mu elt tg it tg2 it2 cnd own, X, G, W, g, xn, T, sc, N, hs, md, e, C, h => by
    rw [chk.eq_def] at h; dsimp only at h
    split at h
    · rename_i eelt tge iter tge2 iter2 ifs scope p
      simp only [Bool.and_eq_true, decide_eq_true_eq] at h
      obtain ⟨⟨h1, h2, h3, h4, h4', h5, h5'⟩, h6, h6', h7', h7, h8⟩ := h
      refine Sd.of C.B.hK ?_ rfl fun e m => by simp only [evT]
      by_cases hcur : g.cur.isNone = true
      rotate_left
      · refine ⟨fun pins s σ H Q I hq => ?_⟩
        obtain ⟨F, rho, m, e, r, re, hp⟩ := hq
        rw [ev, if_neg hcur] at hp
        exact hp.elim
      have hcalm : X.calm = true := C.B.calm (by simpa using hcur)
      have ok : BlkOk X.N X.env.scope scope (ownL N own) := blkOk_by (by rw [C.hN, C.hsc]; exact h2)
      have hfb : ∀ (s : Shared) (H : Hp) (CA : Addr) (cl : List (Str × Addr)) (fp : List Addr) (x : Str), (relS scope sc).names.lookup x = some .cell → celB scope x = true → (X.blk s H scope (compEnvC scope cl CA X.env) fp).fn x = true := fun s H CA cl fp x h1 h2 => by
        show (scope.names.lookup x == some NameKind.cell) = true
        rw [celB_of h2]
        rfl
      have pe := pe_lc2 (X := X) (scope := scope) (pos := p) (vs1 := tgL tg2) (g := gOf X.K tg) (g1 := gOf X.K tg2) hcalm C.B.nd (chkIt_ok it C h1) ok (fun i hi => by rw [h3]; simpa using List.all_eq_true.mp h4' i hi)
        (fun s H CA cl fp => tgB_of (X := X.blk s H scope (compEnvC scope cl CA X.env) fp) (C.blk hcur).hsc C.hN C.B.nd hcalm (hfb s H CA cl fp) h6) (fun s H CA cl fp => pts_nil)
        (fun s H CA cl fp => chkIt_ok it2 (C.blk hcur) h7') (fun s H CA cl fp => tgB_of (X := X.blk s H scope (compEnvC scope cl CA X.env) fp) (C.blk hcur).hsc C.hN C.B.nd hcalm (hfb s H CA cl fp) h6')
        (fun s H CA cl fp => chkO_ok cnd (C.blk hcur) h7) (fun s H CA cl fp => chk_ok elt (C.blk hcur) h8) (notSet_fold h5) (fun env => notSet_fold h5')
      rw [h3] at pe
      exact pe.imp fun σ H Q hq => comp2_ok C.B.hK C.B.slc (fun i hi => by simpa using List.all_eq_true.mp h4 i hi) hq
    · cases h
  | .sub a i, X, G, W, g, xn, T, sc, N, hs, md, e, C, h => by
    rw [chk.eq_def] at h; dsimp only at h
    split at h
    · simp only [Bool.and_eq_true] at h
      exact Sd.of C.B.hK (se_sub C.B (chk_ok a C h.2.1) (chk_ok i C h.2.2) h.1) rfl fun e m => by simp only [evT]
    · cases h
  | .slc a lo hi, X, G, W, g, xn, T, sc, N, hs, md, e, C, h => by
    rw [chk.eq_def] at h; dsimp only at h
    split at h
    · simp only [Bool.and_eq_true] at h
      exact Sd.of C.B.hK (se_slc C.B (chk_ok a C h.1) (chkOp_ok lo C h.2.1) (chkOp_ok hi C h.2.2)) rfl fun e m => by simp only [evT]
    · cases h
  | .rev a, X, G, W, g, xn, T, sc, N, hs, md, e, C, h => by
    rw [chk.eq_def] at h; dsimp only at h
    split at h
    · exact Sd.of C.B.hK (se_rev (chk_ok a C h)) rfl fun e m => by simp only [evT]
    · cases h
  | .att a f, X, G, W, g, xn, T, sc, N, hs, md, e, C, h => by
    rw [chk.eq_def] at h; dsimp only at h
    split at h
    · simp only [Bool.and_eq_true, decide_eq_true_eq, List.contains_iff_mem] at h
      obtain ⟨rfl, h1, h2, h3⟩ := h
      exact Sd.of C.B.hK (se_att C.B (C.att f h1) (chk_ok a C h3) h2) rfl fun e m => by simp only [evT]
    · cases h
  | .exf f, X, G, W, g, xn, T, sc, N, hs, md, e, C, h => by
    rw [chk.eq_def] at h; dsimp only at h
    split at h
    · simp only [Bool.and_eq_true, decide_eq_true_eq] at h
      obtain ⟨rfl, h1, h2, h3⟩ := h
      cases hs with
      | none => cases h3
      | some i =>
        have h3 := of_decide_eq_true h3
        exact Sd.of C.B.hK (C.exf rfl (C.hN ▸ h3) (by show X.env.scope.names.lookup _ = _; rw [C.hsc]; exact lclB_of h2) (okN_of h1).1 (okN_of h1).2) rfl fun e m => by simp only [evT]
    · cases h
  | .call c f es ar dv, X, G, W, g, xn, T, sc, N, hs, md, e, C, h => by
    rw [chk.eq_def] at h; dsimp only at h
    split at h
    · rename_i x p args kws pos
      simp only [Bool.and_eq_true, decide_eq_true_eq, beq_iff_eq, List.isEmpty_iff] at h
      obtain ⟨⟨rfl, rfl, rfl, h1, h2⟩, h3⟩ := h
      refine Sd.of C.B.hK ?_ rfl fun e m => by simp only [evT]
      by_cases hcur : g.cur.isNone = true
      rotate_left
      · refine ⟨fun pins s σ H Q I hq => ?_⟩
        obtain ⟨F, rho, m, e, r, re, hp⟩ := hq
        rw [ev, if_neg hcur] at hp
        exact hp.elim
      split at h3
      · simp only [Bool.and_eq_true, List.isEmpty_iff, List.contains_iff_mem] at h3
        obtain ⟨rfl, h4, h5, h6⟩ := h3
        obtain ⟨a, fd, ps, k, q1, q2, q3, q4⟩ := (C.cal hcur).fns f h4
        have qa := chkEs_ok es C h6
        cases args with
        | nil =>
          cases es with
          | nil => exact se_call0 q1 q2 C.B.tk (fun _ => q4) (glB_of C h1) q3 (okN_of h2).1
          | one _ _ => rw [chkEs.eq_def] at h6; cases h6
          | star _ _ => rw [chkEs.eq_def] at h6; cases h6
        | cons a1 args =>
          unfold noStars at h5
          rw [List.all_cons, Bool.and_eq_true] at h5
          exact se_call q1 q2 C.B.tk (fun _ => q4) (glB_of C h1) q3 (okN_of h2).1 qa h5.1 (noStars_of h5.2)
      · rename_i kw kws
        split at h3
        · cases h3
        · rename_i a1 args
          simp only [Bool.and_eq_true] at h3
          obtain ⟨h4, h5, h6, h7⟩ := h3
          obtain ⟨p', p1, p2⟩ := List.any_eq_true.mp h6
          simp only [Bool.and_eq_true, beq_iff_eq, decide_eq_true_eq] at p2
          obtain ⟨p2, p3, p4, p5⟩ := p2
          obtain ⟨a, fd, ps, k, q1, q2, q3, q4⟩ := (C.cal hcur).pats p' p1
          rw [p2] at q1 q3
          rw [p3, p4, p5] at q2
          obtain ⟨w1, w2, w3, w4, w5, w6⟩ := chkKs_ok es C h4 h7
          unfold noStars at h4
          rw [List.all_cons, Bool.and_eq_true] at h4
          obtain ⟨k1, k2, k3⟩ := kw_isSome (pos := pos) (env := X.env) h5
          have ee := Es.split_app (a1 :: args).length es
          have := se_callK (c := "") (f := f) (as := (es.split (a1 :: args).length).1) (as2 := (es.split (a1 :: args).length).2) (ks := (kw :: kws).filterMap (·.arg)) (ar := ar) (np := (a1 :: args).length) (p := p) (pos := pos) q1 q2 C.B.tk (fun _ => q4) (glB_of C h1) q3 (okN_of h2).1
            (fun hv => by rw [evs_len w3 hv, w4]) (fun hv => by
              rw [evs_len w5 hv, w6]
              have : ∀ {l : List Keyword}, l.all (fun k => k.arg.isSome) = true → l.length = (l.filterMap (·.arg)).length := by
                intro l
                induction l with
                | nil => intro _; rfl
                | cons q l ih =>
                  intro hl
                  rw [List.all_cons, Bool.and_eq_true] at hl
                  cases hq : q.arg with
                  | none => rw [hq] at hl; cases hl.1
                  | some n => simp only [List.filterMap_cons, hq, List.length_cons, ih hl.2]
              exact this h5) w1 w2 h4.1 k1 k2 (by
              have e1 := noStars_of (env := X.env) (p := pos) (es := a1 :: args) (by unfold noStars; rw [List.all_cons, h4.1]; exact h4.2)
              rw [e1, k3]
              rfl)
          rw [ee] at this
          exact this
    · cases h
  | .meth c m o es ar dv, X, G, W, g, xn, T, sc, N, hs, md, e, C, h => by
    rw [chk.eq_def] at h; dsimp only at h
    split at h
    · rename_i eo m' apos args kws pos
      refine Sd.of C.B.hK ?_ rfl fun e m => by simp only [evT]
      by_cases hcur : g.cur.isNone = true
      rotate_left
      · refine ⟨fun pins s σ H Q I hq => ?_⟩
        obtain ⟨F, rho, m, e, r, re, hp⟩ := hq
        rw [ev, if_neg hcur] at hp
        exact hp.elim
      split at h
      · rename_i hq
        simp only [Bool.and_eq_true, List.isEmpty_iff] at hq
        obtain ⟨rfl, rfl, rfl⟩ := hq
        simp only [Bool.and_eq_true, decide_eq_true_eq, beq_iff_eq, List.isEmpty_iff, List.contains_iff_mem] at h
        obtain ⟨⟨rfl, h1, h2, h3, h4, h5⟩, h6, h7⟩ := h
        obtain ⟨CC, a, fd, ps, k, q1, q2, q3, q4, q5, q6⟩ := (C.cal hcur).mts _ h1
        have qo := chk_ok o C h6
        have qa := chkEs_ok es C h7
        have ht := mtree (o := eo) (m := Str.ofString m) (apos := apos) (pos := pos) (args := args) (kws := []) (env := X.env) (base_of h2) (methForm h3 rfl (by simpa using h4) (.inl rfl)) (by rw [h5]; exact beq_self_eq_true _)
        cases args with
        | nil =>
          cases es with
          | nil => exact se_meth0 C.B q4 q5 (fun _ => q6) q1 q2 q3 qo ht
          | one _ _ => rw [chkEs.eq_def] at h7; cases h7
          | star _ _ => rw [chkEs.eq_def] at h7; cases h7
        | cons a1 args =>
          unfold noStars at h3
          rw [List.all_cons, Bool.and_eq_true] at h3
          exact se_meth C.B q4 q5 (fun _ => q6) q1 q2 q3 qo qa h3.1 (noStars_of h3.2) ht
      · simp only [Bool.and_eq_true, decide_eq_true_eq, beq_iff_eq] at h
        obtain ⟨⟨rfl, h2, h3, h4, h5, h6, h7⟩, h8, h9⟩ := h
        obtain ⟨p', p1, p2⟩ := List.any_eq_true.mp h7
        simp only [Bool.and_eq_true, beq_iff_eq, decide_eq_true_eq] at p2
        obtain ⟨p2, p3, p4, p5, p6, p7⟩ := p2
        have p7 := cstsB_eq p7
        obtain ⟨CC, a, fd, ps, k, dvs, q1, q2, q3, q4, q5, q6, q7⟩ := (C.cal hcur).mpats p' p1
        rw [p2] at q1 q4
        rw [p3] at q3 q4
        rw [p4, p5, p6] at q5
        rw [p7] at q6
        have qo := chk_ok o C h8
        obtain ⟨w1, w2, w3, w4, w5, w6⟩ := chkKs_ok es C h3 h9
        obtain ⟨k1, k2, k3⟩ := kw_isSome (pos := pos) (env := X.env) h6
        have ht := mtree (o := eo) (m := Str.ofString m) (apos := apos) (pos := pos) (args := args) (kws := kws) (env := X.env) (base_of h2) (methForm h3 h6 (by omega) (.inr h4)) (by rw [h5]; exact beq_self_eq_true _)
        have ee := Es.split_app args.length es
        have nk : ∀ {e m xs m1}, evs g (es.split args.length).2 e m = .ok xs m1 → xs.length = (kws.filterMap (·.arg)).length := fun hv => by rw [evs_len w5 hv, w6]; exact kw_len h6
        cases args with
        | nil => exact se_methK0 (as2 := es) C.B q4 q5 q6 (fun _ => q7) q1 q2 q3 qo nk w2 k1 k2 (by rw [k3]; rfl) ht
        | cons a1 args =>
          unfold noStars at h3
          rw [List.all_cons, Bool.and_eq_true] at h3
          have := se_methK (as := (es.split (a1 :: args).length).1) (as2 := (es.split (a1 :: args).length).2) C.B q4 q5 q6 (fun _ => q7) q1 q2 q3 qo (fun hv => by rw [evs_len w3 hv, w4]) nk w1 w2 h3.1 k1 k2 (by
            have e1 := noStars_of (env := X.env) (p := pos) (es := a1 :: args) (by unfold noStars; rw [List.all_cons, h3.1]; exact h3.2)
            rw [e1, k3]
            rfl) ht
          rw [ee] at this
          exact this
    · cases h
  | .make mu c es ar dv, X, G, W, g, xn, T, sc, N, hs, md, e, C, h => by
    rw [chk.eq_def] at h; dsimp only at h
    split at h
    · rename_i x p args kws pos
      refine Sd.of C.B.hK ?_ rfl fun e m => by simp only [evT]
      by_cases hcur : g.cur.isNone = true
      rotate_left
      · refine ⟨fun pins s σ H Q I hq => ?_⟩
        obtain ⟨F, rho, m, e, r, re, hp⟩ := hq
        rw [ev, if_neg hcur] at hp
        exact hp.elim
      split at h
      · rename_i hq
        simp only [Bool.and_eq_true, List.isEmpty_iff] at hq
        obtain ⟨rfl, rfl, rfl⟩ := hq
        simp only [Bool.and_eq_true, decide_eq_true_eq, List.isEmpty_iff, List.contains_iff_mem] at h
        obtain ⟨⟨rfl, h1, h2, h3, h4⟩, h5⟩ := h
        obtain ⟨CC, a, fd, ps, k, q1, q2, q3, q4, q5, q6⟩ := (C.cal hcur).mks _ h3
        have qa := chkEs_ok es C h5
        cases args with
        | nil =>
          cases es with
          | nil => exact se_make0 C.B q3 q4 (fun _ => q6) q1 q2 (glB_of C h1) q5 (okN_of h2).1
          | one _ _ => rw [chkEs.eq_def] at h5; cases h5
          | star _ _ => rw [chkEs.eq_def] at h5; cases h5
        | cons a1 args =>
          unfold noStars at h4
          rw [List.all_cons, Bool.and_eq_true] at h4
          exact se_make C.B q3 q4 (fun _ => q6) q1 q2 (glB_of C h1) q5 (okN_of h2).1 qa h4.1 (noStars_of h4.2)
      · simp only [Bool.and_eq_true, decide_eq_true_eq] at h
        obtain ⟨⟨rfl, h1, h2, h3, h6, h7⟩, h9⟩ := h
        obtain ⟨p', p1, p2⟩ := List.any_eq_true.mp h7
        simp only [Bool.and_eq_true, beq_iff_eq, decide_eq_true_eq] at p2
        obtain ⟨p2, p4, p5, p6, p7⟩ := p2
        have p7 := cstsB_eq p7
        obtain ⟨CC, a, fd, ps, k, dvs, q1, q2, q4, q5, q6, q8, q7⟩ := (C.cal hcur).kpats p' p1
        rw [p2] at q1 q4 q8
        rw [p4, p5, p6] at q5
        rw [p7] at q6
        obtain ⟨w1, w2, w3, w4, w5, w6⟩ := chkKs_ok es C h3 h9
        obtain ⟨k1, k2, k3⟩ := kw_isSome (pos := pos) (env := X.env) h6
        have ee := Es.split_app args.length es
        have nk : ∀ {e m xs m1}, evs g (es.split args.length).2 e m = .ok xs m1 → xs.length = (kws.filterMap (·.arg)).length := fun hv => by rw [evs_len w5 hv, w6]; exact kw_len h6
        cases args with
        | nil => exact se_makeK0 (as2 := es) C.B q4 q5 q6 (fun _ => q7) q1 q2 (glB_of C h1) q8 (okN_of h2).1 nk w2 k1 k2 (by rw [k3]; rfl)
        | cons a1 args =>
          unfold noStars at h3
          rw [List.all_cons, Bool.and_eq_true] at h3
          have := se_makeK (mu := mu) (p := p) (as := (es.split (a1 :: args).length).1) (as2 := (es.split (a1 :: args).length).2) C.B q4 q5 q6 (fun _ => q7) q1 q2 (glB_of C h1) q8 (okN_of h2).1 (fun hv => by rw [evs_len w3 hv, w4]) nk w1 w2 h3.1 k1 k2 (by
            have e1 := noStars_of (env := X.env) (p := pos) (es := a1 :: args) (by unfold noStars; rw [List.all_cons, h3.1]; exact h3.2)
            rw [e1, k3]
            rfl)
          rw [ee] at this
          exact this
    · cases h
  | .bi b es, X, G, W, g, xn, T, sc, N, hs, md, e, C, h => by
    rw [chk.eq_def] at h; dsimp only at h
    split at h
    · simp only [Bool.and_eq_true, decide_eq_true_eq] at h
      obtain ⟨⟨rfl, h1, h2, h3⟩, h4⟩ := h
      unfold noStars at h3
      rw [List.all_cons, Bool.and_eq_true] at h3
      exact Sd.of C.B.hK (se_bi C.B C.O (glB_of C h1) (free_of C h2) (chkEs_ok es C h4) h3.1 (noStars_of h3.2)) rfl fun e m => by simp only [evT]
    · cases h
  | .seq t a, X, G, W, g, xn, T, sc, N, hs, md, e, C, h => by
    rw [chk.eq_def] at h; dsimp only at h
    split at h
    · simp only [Bool.and_eq_true, decide_eq_true_eq] at h
      obtain ⟨⟨rfl, h1, h2, h3⟩, h4⟩ := h
      exact Sd.of C.B.hK (se_seq C.B (glB_of C h1) (free_of C h2) (chk_ok a C h4) h3) rfl fun e m => by simp only [evT]
    · cases h
  | .bm b o a, X, G, W, g, xn, T, sc, N, hs, md, e, C, h => by
    rw [chk.eq_def] at h; dsimp only at h
    split at h
    · simp only [Bool.and_eq_true, decide_eq_true_eq] at h
      obtain ⟨⟨rfl, h1, h2, h3⟩, h4, h5⟩ := h
      cases b with
      | split => exact Sd.of C.B.hK (se_split (chk_ok o C h4) (chk_ok a C h5) h2 (base_of h1) h3) rfl fun e m => by simp only [evT]
      | join => exact Sd.of C.B.hK (se_join C.B.hK (chk_ok o C h4) (chk_ok a C h5) h2 (base_of h1) h3) rfl fun e m => by simp only [evT]
    · cases h
  | .isi a ts, X, G, W, g, xn, T, sc, N, hs, md, e, C, h => by
    rw [chk.eq_def] at h; dsimp only at h
    split at h
    · simp only [Bool.and_eq_true, decide_eq_true_eq, List.contains_iff_mem] at h
      obtain ⟨⟨rfl, h1, h2, h3⟩, h4, h5⟩ := h
      have qa := chk_ok a C h5
      refine Sd.of C.B.hK ?_ rfl fun e m => by simp only [evT]
      split at h4
      · simp only [Bool.and_eq_true, Bool.not_eq_true', decide_eq_true_eq] at h4
        obtain ⟨h6, h7, h8⟩ := h4
        obtain ⟨cs, us, w1, w2, w3, w4⟩ := clsL_of C h8
        exact se_isiT C.Fa C.B (glB_of C h1) (C.free _ h2) qa h3 w1 w2 w3 (fun z => by rw [z] at h6; cases h6) (by rw [w4, sizeLine_eq]; omega)
      · split at h4
        · obtain ⟨v, u, w1, w2, w3⟩ := clsB_of C h4
          exact se_isi C.Fa C.B (glB_of C h1) (C.free _ h2) qa h3 w2 w3 w1
        · cases h4
    · cases h
  | .fst _, X, G, W, g, xn, T, sc, N, hs, md, e, C, h => by
    rw [chk.eq_def] at h; dsimp only at h
    cases h
  | .frz a, X, G, W, g, xn, T, sc, N, hs, md, e, C, h => by
    rw [chk.eq_def] at h; dsimp only at h
    split at h
    · exact Sd.of C.B.hK (se_frz (chk_ok a C h)) rfl fun e m => by simp only [evT]
    · cases h
  | .dup a k v, X, G, W, g, xn, T, sc, N, hs, md, e, C, h => by
    rw [chk.eq_def] at h; dsimp only at h
    split at h
    · simp only [Bool.and_eq_true] at h
      obtain ⟨h1, h2, h3⟩ := h
      exact Sd.of C.B.hK (se_dup (by have := C.B.units; omega) (chk_ok a C h1) (chk_ok k C h2) (chk_ok v C h3)) rfl fun e m => by simp only [evT]
    · cases h
theorem chkEs_ok : ∀ (as : Es) {X : Cx} {G : GC} {W : WX} {g : Gl} {xn : String → Option (List String)} {T : Tb} {sc : Scope} {N : List Str} {hs : Option Nat} {es : List Expr}, Cxt X G W g xn T sc N hs → chkEs T sc N hs as es = true → SA X G W g es as
  | .nil, X, G, W, g, xn, T, sc, N, hs, es, C, h => by
    rw [chkEs.eq_def] at h; dsimp only at h
    have e := List.isEmpty_iff.mp h
    subst e
    exact sa_nil
  | .one a r, X, G, W, g, xn, T, sc, N, hs, es, C, h => by
    rw [chkEs.eq_def] at h; dsimp only at h
    split at h
    · simp only [Bool.and_eq_true] at h
      exact sa_one (chk_ok a C h.2.1) (chkEs_ok r C h.2.2) h.1
    · cases h
  | .star a r, X, G, W, g, xn, T, sc, N, hs, es, C, h => by
    rw [chkEs.eq_def] at h; dsimp only at h
    split at h
    · simp only [Bool.and_eq_true] at h
      exact sa_star C.B.hK (chk_ok a C h.1) (chkEs_ok r C h.2)
    · cases h
theorem chkKv_ok : ∀ (kvs : Kv) {X : Cx} {G : GC} {W : WX} {g : Gl} {xn : String → Option (List String)} {T : Tb} {sc : Scope} {N : List Str} {hs : Option Nat} {keys : List (Option Expr)} {values : List Expr} {pos : Pos}, Cxt X G W g xn T sc N hs → chkKv T sc N hs kvs keys values = true →
    PPs X pos keys values (trsK G W g kvs) ∧ keys.all (·.isSome) = true ∧ keys.length = values.length ∧ (keys = [] → kvs = .nil)
  | .nil, X, G, W, g, xn, T, sc, N, hs, keys, values, pos, C, h => by
    rw [chkKv.eq_def] at h; dsimp only at h
    simp only [Bool.and_eq_true, List.isEmpty_iff] at h
    obtain ⟨rfl, rfl⟩ := h
    exact ⟨pps_nil, rfl, rfl, fun _ => rfl⟩
  | .cons k v r, X, G, W, g, xn, T, sc, N, hs, keys, values, pos, C, h => by
    rw [chkKv.eq_def] at h; dsimp only at h
    split at h
    · simp only [Bool.and_eq_true] at h
      obtain ⟨h1, h2, h3⟩ := h
      obtain ⟨q1, q2, q3, q4⟩ := chkKv_ok r (pos := pos) C h3
      exact ⟨pps_cons (chk_ok k C h1) (chk_ok v C h2) q1, by rw [List.all_cons, q2]; rfl, by rw [List.length_cons, List.length_cons, q3], fun z => by cases z⟩
    · cases h
theorem chkKs_ok : ∀ (as : Es) {X : Cx} {G : GC} {W : WX} {g : Gl} {xn : String → Option (List String)} {T : Tb} {sc : Scope} {N : List Str} {hs : Option Nat} {es : List Expr} {ks : List Keyword}, Cxt X G W g xn T sc N hs → noStars es = true → chkKs T sc N hs as es ks = true →
    SA X G W g es (as.split es.length).1 ∧ SK X G W g ks (as.split es.length).2 ∧ (as.split es.length).1.pl = true ∧ (as.split es.length).1.len = es.length ∧ (as.split es.length).2.pl = true ∧ (as.split es.length).2.len = ks.length
  | .nil, X, G, W, g, xn, T, sc, N, hs, es, ks, C, hn, h => by
    rw [chkKs.eq_def] at h; dsimp only at h
    simp only [Bool.and_eq_true, List.isEmpty_iff] at h
    obtain ⟨rfl, rfl⟩ := h
    exact ⟨sa_nil, sk_nil, rfl, rfl, rfl, rfl⟩
  | .one a r, X, G, W, g, xn, T, sc, N, hs, es, ks, C, hn, h => by
    rw [chkKs.eq_def] at h; dsimp only at h
    split at h
    · rename_i ea rest
      simp only [Bool.and_eq_true] at h
      unfold noStars at hn
      rw [List.all_cons, Bool.and_eq_true] at hn
      obtain ⟨w1, w2, w3, w4, w5, w6⟩ := chkKs_ok r C hn.2 h.2
      refine ⟨?_, ?_, ?_, ?_, ?_, ?_⟩
      · rw [List.length_cons, Es.split]
        exact sa_one (chk_ok a C h.1) w1 hn.1
      · rw [List.length_cons, Es.split]
        exact w2
      · rw [List.length_cons, Es.split]
        exact w3
      · rw [List.length_cons, Es.split]
        show _ + 1 = _
        rw [w4]
      · rw [List.length_cons, Es.split]
        exact w5
      · rw [List.length_cons, Es.split]
        exact w6
    · split at h
      · simp only [Bool.and_eq_true] at h
        obtain ⟨w1, w2, w3, w4, w5, w6⟩ := chkKs_ok r C hn h.2
        refine ⟨sa_nil, ?_, rfl, rfl, w5, ?_⟩
        · exact sk_cons (chk_ok a C h.1) w2
        · show _ + 1 = _
          rw [List.length_cons]
          exact congrArg (· + 1) w6
      · cases h
  | .star a r, X, G, W, g, xn, T, sc, N, hs, es, ks, C, hn, h => by
    rw [chkKs.eq_def] at h; dsimp only at h
    cases h
theorem chkO_ok : ∀ (o : Oe) {X : Cx} {G : GC} {W : WX} {g : Gl} {xn : String → Option (List String)} {T : Tb} {sc : Scope} {N : List Str} {hs : Option Nat} {es : List Expr}, Cxt X G W g xn T sc N hs → chkO T sc N hs o es = true → PTs X es (tI G W REq (evO g o))
  | .non, X, G, W, g, xn, T, sc, N, hs, es, C, h => by
    rw [chkO.eq_def] at h; dsimp only at h
    have e := List.isEmpty_iff.mp h
    subst e
    refine ⟨fun pins s σ H Q I hq => pts_nil.run pins s σ H Q I ?_⟩
    obtain ⟨F, rho, m, e, r, re, hp⟩ := hq
    rw [evO] at hp
    exact hp.here r rfl
  | .som a, X, G, W, g, xn, T, sc, N, hs, es, C, h => by
    rw [chkO.eq_def] at h; dsimp only at h
    split at h
    · refine ⟨fun pins s σ H Q I hq => (pts_one (chk_ok a C h)).run pins s σ H Q I ?_⟩
      obtain ⟨F, rho, m, e, r, re, hp⟩ := hq
      rw [evO] at hp
      exact tI.mk r re hp
    · cases h
theorem chkOp_ok : ∀ (o : Oe) {X : Cx} {G : GC} {W : WX} {g : Gl} {xn : String → Option (List String)} {T : Tb} {sc : Scope} {N : List Str} {hs : Option Nat} {e : Option Expr}, Cxt X G W g xn T sc N hs → chkOp T sc N hs o e = true → PO X e (tI G W REq (evI g o))
  | .non, X, G, W, g, xn, T, sc, N, hs, e, C, h => by
    rw [chkOp.eq_def] at h; dsimp only at h
    cases e with
    | none => exact po_of trivial
    | some _ => cases h
  | .som a, X, G, W, g, xn, T, sc, N, hs, e, C, h => by
    rw [chkOp.eq_def] at h; dsimp only at h
    cases e with
    | none => cases h
    | some ea => exact po_of (l := .som a) (lo := some ea) (chk_ok a C h)
theorem chkIt_ok : ∀ (i : It) {X : Cx} {G : GC} {W : WX} {g : Gl} {xn : String → Option (List String)} {T : Tb} {sc : Scope} {N : List Str} {hs : Option Nat} {tg e : Expr}, Cxt X G W g xn T sc N hs → chkIt T sc N hs i tg e = true → SW X G W g tg e i
  | .seq a, X, G, W, g, xn, T, sc, N, hs, tg, e, C, h => by
    rw [chkIt.eq_def] at h; dsimp only at h
    exact sw_seq C.B (chk_ok a C h)
  | .rng1 a, X, G, W, g, xn, T, sc, N, hs, tg, e, C, h => by
    rw [chkIt.eq_def] at h; dsimp only at h
    split at h
    · simp only [Bool.and_eq_true, decide_eq_true_eq, List.contains_iff_mem] at h
      obtain ⟨⟨rfl, h1, h2, h3⟩, h4⟩ := h
      exact sw_rng1 (glB_of C h1) (C.free _ h2) (chk_ok a C h4) h3
    · cases h
  | .rng2 a b, X, G, W, g, xn, T, sc, N, hs, tg, e, C, h => by
    rw [chkIt.eq_def] at h; dsimp only at h
    split at h
    · simp only [Bool.and_eq_true, decide_eq_true_eq, List.contains_iff_mem] at h
      obtain ⟨⟨rfl, h1, h2, h3, h3'⟩, h4, h5⟩ := h
      exact sw_rng2 (glB_of C h1) (C.free _ h2) (chk_ok a C h4) h3 (chk_ok b C h5) h3'
    · cases h
  | .rng3 a b c, X, G, W, g, xn, T, sc, N, hs, tg, e, C, h => by
    rw [chkIt.eq_def] at h; dsimp only at h
    split at h
    · simp only [Bool.and_eq_true, decide_eq_true_eq, List.contains_iff_mem] at h
      obtain ⟨⟨rfl, h1, h2, h3, h3', h3''⟩, h4, h5, h6⟩ := h
      exact sw_rng3 (glB_of C h1) (C.free _ h2) (chk_ok a C h4) h3 (chk_ok b C h5) h3' (chk_ok c C h6) h3''
    · cases h
  | .enum a, X, G, W, g, xn, T, sc, N, hs, tg, e, C, h => by
    rw [chkIt.eq_def] at h; dsimp only at h
    split at h
    · simp only [Bool.and_eq_true, decide_eq_true_eq, List.contains_iff_mem] at h
      obtain ⟨⟨rfl, h1, h2, h3, h3'⟩, h4⟩ := h
      cases tg with
      | Tuple elts kk tp => exact sw_enum C.B (glB_of C h1) (C.free _ h2) (chk_ok a C h4) h3
      | _ => cases h3'
    · cases h
  | .zip a b, X, G, W, g, xn, T, sc, N, hs, tg, e, C, h => by
    rw [chkIt.eq_def] at h; dsimp only at h
    split at h
    · simp only [Bool.and_eq_true, decide_eq_true_eq, List.contains_iff_mem] at h
      obtain ⟨⟨rfl, h1, h2, h3, h3', h3''⟩, h4, h5⟩ := h
      cases tg with
      | Tuple elts kk tp => exact sw_zip C.B (glB_of C h1) (C.free _ h2) (chk_ok a C h4) h3 (chk_ok b C h5) h3'
      | _ => cases h3''
    · cases h
  | .items _, X, G, W, g, xn, T, sc, N, hs, tg, e, C, h => by
    rw [chkIt.eq_def] at h; dsimp only at h
    cases h
  | .vals _, X, G, W, g, xn, T, sc, N, hs, tg, e, C, h => by
    rw [chkIt.eq_def] at h; dsimp only at h
    cases h
end
end IP

/-! IpX -/
set_option Elab.async false
set_option linter.all false
set_option maxRecDepth 100000
set_option maxHeartbeats 8000000
/-! IpX: the check is sound: statements. -/
namespace IP
open PySem L2 PyProof.Rows
/-- in a def's body (or a suite of it) -/
structure TopC (X : Cx) : Prop where
  hs : X.stack = X.env :: X.outer
  hf : X.env.frame = some X.env.locals
  po : PassesOwn (model X.prog X.w) X.A X.env X.xe
  fn : ∀ x, X.fn x = true
  bk : X.env.blockKind = .function
theorem TopC.tr {X : Cx} (t : TopC X) {pn : List (Addr × Obj)} {xe : Value → Shared → Prop} (po : PassesOwn (model X.prog X.w) X.A X.env xe) : TopC (X.tr pn xe) := ⟨t.hs, t.hf, po, t.fn, t.bk⟩
theorem TopC.suite {X : Cx} (t : TopC X) {a : Addr} {pn : List (Addr × Obj)} : TopC (X.suite a pn) := ⟨t.hs, t.hf, .never, t.fn, t.bk⟩
section
variable {X : Cx} {G : GC} {W : WX} {g : Gl} {xn : String → Option (List String)} {T : Tb} {sc : Scope} {N : List Str} {hs : Option Nat}
theorem Cxt.tr (C : Cxt X G W g xn T sc N none) {W' : WX} {pn : List (Addr × Obj)} {xe : Value → Shared → Prop} (tk : Takes (X.tr pn xe) W') : Cxt (X.tr pn xe) G W' g xn T sc N none where
  B := ⟨C.B.hK, C.B.hm, tk, C.B.units, C.B.calm, C.B.nd, C.B.slc⟩
  Fa := C.Fa
  Fx := C.Fx
  hsc := C.hsc
  hN := C.hN
  hsl := C.hsl
  free := C.free
  cls := C.cls
  att := C.att
  cal := fun h => ⟨(C.cal h).fns, (C.cal h).pats, (C.cal h).mts, (C.cal h).mks, (C.cal h).mpats, (C.cal h).kpats, (C.cal h).ops, (C.cal h).exs, (C.cal h).room2⟩
  hnd := C.hnd
  gints := C.gints
  gstrs := C.gstrs
  exf := fun e => by cases e
theorem Cxt.suite (C : Cxt X G W g xn T sc N none) {a : Addr} {oe : Obj} {cls : Value} {dd : Option Addr} {pn : List (Addr × Obj)} {x : Exc} {o : Option Nat} (hX : XOf G xn x cls) (hz : Zc cls dd oe) (hf : ∃ vs, oe.data = .fields vs) : Cxt (X.suite a ((a, oe) :: pn)) (G.at_ (slOf o a x dd)) WF (g.hot x) xn T sc N o where
  B := ⟨C.B.hK, C.B.hm, takes_none5, C.B.units, fun h => (nomatch h), C.B.nd, fun h => (nomatch h)⟩
  Fa := ⟨C.Fa.cls, C.Fa.ha, C.Fa.hn, C.Fa.htk, C.Fa.hm, C.Fa.kit1, C.Fa.kit2, C.Fa.kit3⟩
  Fx := ⟨C.Fx.xf, C.Fx.no⟩
  hsc := C.hsc
  hN := C.hN
  hsl := fun s e => by
    cases o with
    | none => cases e
    | some i =>
      have e' : (⟨i, a, x, dd⟩ : Sl) = s := Option.some.inj e
      rw [← e']
  free := C.free
  cls := C.cls
  att := fun f h c CC e => C.att f h c CC e
  cal := fun h => (nomatch h)
  hnd := C.hnd
  gints := C.gints
  gstrs := C.gstrs
  exf := fun {i f n p pos} e hN hl h1 h2 => by
    subst e
    exact se_exf C.B.hK C.Fx hN hl h1 h2 hX hz hf
theorem swF {e : Expr} {t : Option Expr} {l : Nat} {env : Env} (h : notComp e = true) : swapsWith e t l env = pure false := by
  cases e <;> first | rfl | cases h
theorem swF_cel {e : Expr} {x : Str} {p : Pos} {l : Nat} {env : Env} (h : env.scope.names.lookup x = some .cell) : swapsWith e (some (.Name x p)) l env = pure false := by
  have kx : env.kindOf x = some .cell := h
  cases e <;> first | rfl | (unfold swapsWith; dsimp only; rw [kx]; simp [show (NameKind.cell == NameKind.local) = false from rfl])
theorem swF_at {e o : Expr} {f : Str} {p : Pos} {l : Nat} {env : Env} : swapsWith e (some (.Attribute o f p)) l env = pure false := by
  cases e <;> rfl
theorem swF_sub {e o i : Expr} {p : Pos} {l : Nat} {env : Env} : swapsWith e (some (.Subscript o i p)) l env = pure false := by
  cases e <;> rfl
theorem swF_tup {e : Expr} {es : List Expr} {k : Nat} {p : Pos} {l : Nat} {env : Env} : swapsWith e (some (.Tuple es k p)) l env = pure false := by
  cases e <;> rfl
theorem ssN_sub {e o i : Expr} {p : Pos} {env : Env} : swappedStores [.Subscript o i p] e env = pure none := by
  cases e <;> rfl
theorem ssN_tup {e : Expr} {es : List Expr} {k : Nat} {p : Pos} {env : Env} (h : isTup e = false) : swappedStores [.Tuple es k p] e env = pure none := by
  cases e <;> first | rfl | cases h
theorem ssS {x y : Str} {px py pt pt2 : Pos} {kt k2 : Nat} {ea eb : Expr} {env : Env} (hb : env.blockKind = .function) (hx : env.scope.names.lookup x = some .local) (hy : env.scope.names.lookup y = some .local) (hl : (px.line == py.line) = true) (hne : ¬ x = y) (ha : notStar ea = true) (hb2 : notStar eb = true)
    (hf : (foldedForSure 8 ea && foldedForSure 8 eb) = false) (hc : (constantsAlone 8 ea && constantsAlone 8 eb) = false) : swappedStores [.Tuple [.Name x px, .Name y py] kt pt] (.Tuple [ea, eb] k2 pt2) env = pure (some [x, y]) := by
  have kx : env.kindOf x = some .local := hx
  have ky : env.kindOf y = some .local := hy
  have hl' : px.line = py.line := eq_of_beq hl
  have hyx : (y == x) = false := by
    have : ¬ y = x := fun z => hne z.symm
    simpa using this
  unfold swappedStores
  dsimp only
  simp only [List.length_cons, List.length_nil, hb, List.any_cons, List.any_nil, List.head?_cons, Option.map_some, Option.getD_some, Expr.pos, List.filterMap_cons, List.filterMap_nil, kx, ky, hl', beq_self_eq_true, Bool.and_self, if_true, Bool.or_false, List.all_cons, List.all_nil, Bool.and_true, hf, hc]
  refine (if_neg (by decide)).trans ((if_neg ?_).trans ((if_neg ?_).trans ((if_neg Bool.false_ne_true).trans (if_neg Bool.false_ne_true))))
  · clear hf hc
    rw [Bool.or_eq_true]
    intro z
    rcases z with z | z
    · cases ea <;> first | exact absurd ha Bool.false_ne_true | cases z
    · cases eb <;> first | exact absurd hb2 Bool.false_ne_true | cases z
  · have e1 : [x, y].eraseDups = [x, y] := by
      simp [List.eraseDups_cons, hyx]
    rw [e1]
    show ¬ ((0 + 1 + 1 != 0 + 1 + 1 || 0 + 1 + 1 != 0 + 1 + 1) = true)
    decide
end
end IP

/-! IpY -/
set_option Elab.async false
set_option linter.all false
set_option maxRecDepth 100000
set_option maxHeartbeats 8000000
/-! IpY: the check is sound: statements, all of them. -/
namespace IP
open PySem L2 PyProof.Rows
theorem sw_one {elt : Expr} {gs : List Comprehension} {scope : Scope} {pos py : Pos} {y : Str} {l : Nat} {env : Env} (hb : env.blockKind = .function) (hy : env.scope.names.lookup y = some .local) (hl : (py.line == pos.line) = true)
    (ha : (scope.names.any fun (n, k) => n == y && (k == .local || k == .cell)) = false) : swapsWith (.ListComp elt gs scope pos) (some (.Name y py)) l env = pure true := by
  have ky : env.kindOf y = some .local := hy
  unfold swapsWith
  simp only [hb, ky, ha, Expr.pos, hl]
  rfl
theorem swS_sub {e o i : Expr} {p : Pos} {l : Nat} {env : Env} : swapsWithSole [.Subscript o i p] e l env = pure false := by
  unfold swapsWithSole
  exact swF_sub
theorem swS_tup {e : Expr} {es : List Expr} {k : Nat} {p : Pos} {l : Nat} {env : Env} : swapsWithSole [.Tuple es k p] e l env = pure false := by
  unfold swapsWithSole
  exact swF_tup
theorem subS {o i : Expr} {p : Pos} {env : Env} (h : notSlice i = true) (v : Value) : assign (.Subscript o i p) env v = (do
      let ov ← holding [v] (eval o env)
      let iv ← holding [v, ov] (eval i env)
      standAt p
      holding [v, ov, iv] (setItem ov iv v)
      release [v, ov, iv] []) := by
  cases i <;> first | rfl | cases h
section
variable {X : Cx} {G : GC} {W : WX} {g : Gl} {xn : String → Option (List String)} {T : Tb} {sc : Scope} {N : List Str} {hs : Option Nat}
/-- x = [.. for .. in ..] -/
theorem set_comp (C : Cxt X G W g xn T sc N hs) (t : TopC X) {i : Nat} {x : Str} {p : Pos} {a : E} {elt : Expr} {gs : List Comprehension} {scope : Scope} {cp pos : Pos} (hi : N[i]? = some x) (hx : lclB sc x = true) (hne : hs ≠ some i)
    (hl : (p.line == cp.line) = true) (hany : (scope.names.any fun (n, k) => n == x && (k == .local || k == .cell)) = false) (h : chk T sc N hs false a (.ListComp elt gs scope cp) = true) :
    SS X G W g xn (.Assign [.Name x p] (.ListComp elt gs scope cp) pos) (.set i a) := by
  have hsl : ∀ s, G.sl = some s → s.i ≠ i := fun s e z => hne (by rw [C.hsl s e, z])
  have hyl : X.env.scope.names.lookup x = some .local := by rw [C.hsc]; exact lclB_of hx
  have hsw := sw_one (elt := elt) (gs := gs) (l := pos.line) t.bk hyl hl hany
  by_cases hcur : g.cur.isNone = true
  rotate_left
  · refine ⟨fun pins s σ H D I hq => ?_⟩
    obtain ⟨F, rho, m, e, r, re, hp⟩ := hq
    rw [evS] at hp
    have : ev g a e m = .no := by
      cases a with
      | comp mu elt tg it cnd own => rw [ev, if_neg hcur]
      | comp2 mu elt tg it tg2 it2 cnd own => rw [ev, if_neg hcur]
      | con d => exfalso; revert h; rw [chk.eq_def]; cases d <;> simp [conB]
      | _ => exfalso; revert h; rw [chk.eq_def]; simp
    rw [this] at hp
    exact hp.elim
  have hcalm : X.calm = true := C.B.calm (by simpa using hcur)
  cases a with
  | comp mu elt tg it cnd own =>
    rw [chk.eq_def] at h; dsimp only at h
    split at h
    · rename_i heq
      cases heq
      simp only [Bool.and_eq_true, decide_eq_true_eq] at h
      obtain ⟨⟨h1, h2, h3, h4, h5⟩, h6, h7, h8⟩ := h
      have ok : BlkOk X.N X.env.scope scope (ownL N own) := blkOk_by (by rw [C.hN, C.hsc]; exact h2)
      have pe := ps_setLc (X := X) (scope := scope) (pos := cp) (spos := pos) (g := gOf X.K tg) hcalm C.B.nd (C.hN ▸ hi) hyl hsw (chkIt_ok it C h1) ok
        (fun s H CA cl fp => tgB_of (X := X.blk s H scope (compEnvC scope cl CA X.env) fp) (C.blk hcur).hsc C.hN C.B.nd hcalm (fun x h1 h2 => by
          show (scope.names.lookup x == some NameKind.cell) = true
          rw [celB_of h2]
          rfl) h6)
        (fun s H CA cl fp => chkO_ok cnd (C.blk hcur) h7) (fun s H CA cl fp => chk_ok elt (C.blk hcur) h8) (notSet_fold h5)
      rw [h3] at pe
      exact pe.imp fun D σ H hq => set_lc hsl (fun hq => comp_ok C.B.hK C.B.slc (fun i hi => by simpa using List.all_eq_true.mp h4 i hi) hq) hq
    · cases h
  | comp2 mu elt tg it tg2 it2 cnd own =>
    rw [chk.eq_def] at h; dsimp only at h
    split at h
    · rename_i heq
      cases heq
      simp only [Bool.and_eq_true, decide_eq_true_eq] at h
      obtain ⟨⟨h1, h2, h3, h4, h4', h5, h5'⟩, h6, h6', h7', h7, h8⟩ := h
      have ok : BlkOk X.N X.env.scope scope (ownL N own) := blkOk_by (by rw [C.hN, C.hsc]; exact h2)
      have hfb : ∀ (s : Shared) (H : Hp) (CA : Addr) (cl : List (Str × Addr)) (fp : List Addr) (x : Str), (relS scope sc).names.lookup x = some .cell → celB scope x = true → (X.blk s H scope (compEnvC scope cl CA X.env) fp).fn x = true := fun s H CA cl fp x h1 h2 => by
        show (scope.names.lookup x == some NameKind.cell) = true
        rw [celB_of h2]
        rfl
      have pe := ps_setLc2 (X := X) (scope := scope) (pos := cp) (spos := pos) (vs1 := tgL tg2) (g := gOf X.K tg) (g1 := gOf X.K tg2) hcalm C.B.nd (C.hN ▸ hi) hyl hsw (chkIt_ok it C h1) ok (fun i hi => by rw [h3]; simpa using List.all_eq_true.mp h4' i hi)
        (fun s H CA cl fp => tgB_of (X := X.blk s H scope (compEnvC scope cl CA X.env) fp) (C.blk hcur).hsc C.hN C.B.nd hcalm (hfb s H CA cl fp) h6) (fun s H CA cl fp => pts_nil)
        (fun s H CA cl fp => chkIt_ok it2 (C.blk hcur) h7') (fun s H CA cl fp => tgB_of (X := X.blk s H scope (compEnvC scope cl CA X.env) fp) (C.blk hcur).hsc C.hN C.B.nd hcalm (hfb s H CA cl fp) h6')
        (fun s H CA cl fp => chkO_ok cnd (C.blk hcur) h7) (fun s H CA cl fp => chk_ok elt (C.blk hcur) h8) (notSet_fold h5) (fun env => notSet_fold h5')
      rw [h3] at pe
      exact pe.imp fun D σ H hq => set_lc hsl (fun hq => comp2_ok C.B.hK C.B.slc (fun i hi => by simpa using List.all_eq_true.mp h4 i hi) hq) hq
    · cases h
  | con d => exfalso; revert h; rw [chk.eq_def]; cases d <;> simp [conB]
  | _ => exfalso; revert h; rw [chk.eq_def]; simp
end
mutual
theorem chkS_ok : ∀ (a : S) {X : Cx} {G : GC} {W : WX} {g : Gl} {xn : String → Option (List String)} {T : Tb} {sc : Scope} {N : List Str} {hs : Option Nat} {st : Stmt}, Cxt X G W g xn T sc N hs → TopC X → chkS T sc N hs a st = true → SS X G W g xn st a
  | .expr a, X, G, W, g, xn, T, sc, N, hs, st, C, t, h => by
    rw [chkS.eq_def] at h; dsimp only at h
    split at h
    · simp only [Bool.and_eq_true] at h
      exact ss_expr (chk_ok a C h.2) (swF h.1)
    · cases h
  | .set i a, X, G, W, g, xn, T, sc, N, hs, st, C, t, h => by
    rw [chkS.eq_def] at h; dsimp only at h
    split at h
    · rename_i x p e pos
      simp only [Bool.and_eq_true, Bool.or_eq_true, decide_eq_true_eq, Bool.not_eq_true', decide_eq_false_iff_not] at h
      obtain ⟨⟨h1, h2, h3⟩, h4, h5⟩ := h
      have hsl : ∀ s, G.sl = some s → s.i ≠ i := fun s e z => h3 (by rw [C.hsl s e, z])
      rcases h4 with h4 | ⟨h4, h6, h7⟩
      · refine ss_set hsl C.B.nd (C.hN ▸ h1) ?_ (.inl (t.fn x)) (chk_ok a C h5) (by
          rcases h4 with h4 | h4
          · exact swF h4
          · exact swF_cel (by rw [C.hsc]; exact celB_of h4))
        rw [C.hsc]
        rcases h2 with h2 | h2
        · exact .inl (lclB_of h2)
        · exact .inr (celB_of h2)
      · split at h7
        · rename_i elt gs scope cp
          rw [Bool.not_eq_true'] at h7
          exact set_comp C t h1 h4 h3 h6 h7 h5
        · cases h7
    · cases h
  | .unp is a, X, G, W, g, xn, T, sc, N, hs, st, C, t, h => by
    rw [chkS.eq_def] at h; dsimp only at h
    split at h
    · rename_i es k p e pos
      simp only [Bool.and_eq_true, Bool.not_eq_true'] at h
      obtain ⟨h1, h2, h3⟩ := h
      by_cases hcur : g.cur.isNone = true
      rotate_left
      · refine ⟨fun pins s σ H D I hq => ?_⟩
        obtain ⟨F, rho, m, e, r, re, hp⟩ := hq
        rw [evS, if_neg hcur] at hp
        exact hp.elim
      have hcalm : X.calm = true := C.B.calm (by simpa using hcur)
      obtain ⟨w1, w2, w3⟩ := tgNs_of C.hsc C.hN C.B.nd (fun x _ _ => t.fn x) h2
      exact ss_unp C.B.hK C.B.slc (pg_sq hcalm w1 w2 w3) (chk_ok a C h3) swS_tup (ssN_tup h1) rfl
    · cases h
  | .par i j a b, X, G, W, g, xn, T, sc, N, hs, st, C, t, h => by
    rw [chkS.eq_def] at h; dsimp only at h
    split at h
    · unfold swapB at h
      simp only [Bool.and_eq_true, decide_eq_true_eq, Bool.not_eq_true', decide_eq_false_iff_not] at h
      obtain ⟨⟨h1, h2, h3, ⟨h4, h5⟩, ⟨h6, h7⟩, ⟨h8, h9⟩, h10, h11⟩, h12, h13⟩ := h
      by_cases hcur : g.cur.isNone = true
      rotate_left
      · refine ⟨fun pins s σ H D I hq => ?_⟩
        obtain ⟨F, rho, m, e, r, re, hp⟩ := hq
        rw [evS, if_neg hcur] at hp
        exact hp.elim
      have hcalm : X.calm = true := C.B.calm (by simpa using hcur)
      have hx := lclB_of h4
      have hy := lclB_of h5
      rw [← C.hsc] at hx hy
      exact ss_par C.B.slc hcalm C.B.nd (C.hN ▸ h1) (C.hN ▸ h2) h3 hx hy (chk_ok a C h12) (chk_ok b C h13) h8 h9 (ssS t.bk hx hy h6 h7 h8 h9 h10 h11) swS_tup
    · cases h
  | .fld o f a, X, G, W, g, xn, T, sc, N, hs, st, C, t, h => by
    rw [chkS.eq_def] at h; dsimp only at h
    split at h
    · simp only [Bool.and_eq_true, decide_eq_true_eq, List.contains_iff_mem] at h
      obtain ⟨⟨rfl, h1⟩, h2, h3⟩ := h
      exact ss_fld C.B.hK (C.att f h1) (chk_ok o C h2) (chk_ok a C h3) swF_at
    · cases h
  | .sub o i a, X, G, W, g, xn, T, sc, N, hs, st, C, t, h => by
    rw [chkS.eq_def] at h; dsimp only at h
    split at h
    · simp only [Bool.and_eq_true] at h
      obtain ⟨h1, h2, h3, h4⟩ := h
      exact ss_sub (by have := C.B.units; omega) (chk_ok o C h2) (chk_ok i C h3) (chk_ok a C h4) (subS h1) swS_sub ssN_sub rfl
    · cases h
  | .app o a, X, G, W, g, xn, T, sc, N, hs, st, C, t, h => by
    rw [chkS.eq_def] at h; dsimp only at h
    split at h
    · simp only [Bool.and_eq_true, decide_eq_true_eq] at h
      obtain ⟨⟨rfl, h1, h2, h3⟩, h4, h5⟩ := h
      exact ss_app (chk_ok o C h4) (chk_ok a C h5) h1 (base_of h2) h3
    · cases h
  | .clr o, X, G, W, g, xn, T, sc, N, hs, st, C, t, h => by
    rw [chkS.eq_def] at h; dsimp only at h
    split at h
    · simp only [Bool.and_eq_true, decide_eq_true_eq] at h
      obtain ⟨⟨rfl, h2, h3⟩, h4⟩ := h
      exact ss_clr (chk_ok o C h4) (base_of h2) h3
    · cases h
  | .ifs c tt u, X, G, W, g, xn, T, sc, N, hs, st, C, t, h => by
    rw [chkS.eq_def] at h; dsimp only at h
    split at h
    · simp only [Bool.and_eq_true] at h
      obtain ⟨h1, h2, h3⟩ := h
      exact ss_if (chk_ok c C h1) (chkSs_ok tt C t h2) (chkSs_ok u C t h3)
    · cases h
  | .for_ tg it b, X, G, W, g, xn, T, sc, N, hs, st, C, t, h => by
    rw [chkS.eq_def] at h; dsimp only at h
    split at h
    · simp only [Bool.and_eq_true] at h
      obtain ⟨⟨h1, h2⟩, h3, h4⟩ := h
      by_cases hcur : g.cur.isNone = true
      rotate_left
      · refine ⟨fun pins s σ H D I hq => ?_⟩
        obtain ⟨F, rho, m, e, r, re, hp⟩ := hq
        rw [evS, if_neg hcur] at hp
        exact hp.elim
      have hcalm : X.calm = true := C.B.calm (by simpa using hcur)
      exact ss_for C.B t.po (tgB_of C.hsc C.hN C.B.nd hcalm (fun x _ _ => t.fn x) h1) (chkIt_ok it C h3) (chkSs_ok b C t h4) (notSet_fold h2)
    · cases h
  | .wh c b, X, G, W, g, xn, T, sc, N, hs, st, C, t, h => by
    rw [chkS.eq_def] at h; dsimp only at h
    split at h
    · simp only [Bool.and_eq_true] at h
      exact ss_while t.po (chk_ok c C h.1) (chkSs_ok b C t h.2)
    · cases h
  | .ret a, X, G, W, g, xn, T, sc, N, hs, st, C, t, h => by
    rw [chkS.eq_def] at h; dsimp only at h
    split at h
    · exact ss_ret (chk_ok a C h)
    · cases h
  | .ret0, X, G, W, g, xn, T, sc, N, hs, st, C, t, h => by
    rw [chkS.eq_def] at h; dsimp only at h
    split at h
    · exact ss_ret0
    · cases h
  | .rais c es, X, G, W, g, xn, T, sc, N, hs, st, C, t, h => by
    rw [chkS.eq_def] at h; dsimp only at h
    split at h
    · rename_i x p args cpos pos
      simp only [Bool.and_eq_true, decide_eq_true_eq] at h
      obtain ⟨⟨rfl, h1, h2, h3, h4⟩, h5⟩ := h
      by_cases hcur : g.cur.isNone = true
      rotate_left
      · refine ⟨fun pins s σ H D I hq => ?_⟩
        obtain ⟨F, rho, m, e, r, re, hp⟩ := hq
        rw [evS, if_neg hcur] at hp
        exact hp.elim
      obtain ⟨q, w1, w2⟩ := List.any_eq_true.mp h3
      obtain ⟨e1, CC, e2, e3, e4, e5⟩ := (C.cal hcur).exs q w1
      have w2 := eq_of_beq w2
      rw [w2] at e1 e2 e3
      have M := ExR.mk e5 (C.cal hcur).room2
      have qa := chkEs_ok es C h5
      cases args with
      | nil =>
        cases es with
        | nil => exact ss_raise0 C.B M e2 e1 e4 (glB_of C h1) e3 (okN_of h2).1
        | one _ _ => rw [chkEs.eq_def] at h5; cases h5
        | star _ _ => rw [chkEs.eq_def] at h5; cases h5
      | cons a1 args =>
        unfold noStars at h4
        rw [List.all_cons, Bool.and_eq_true] at h4
        exact ss_raise C.B M e2 e1 e4 (glB_of C h1) e3 (okN_of h2).1 qa h4.1 (noStars_of h4.2)
    · cases h
  | .try_ b hl, X, G, W, g, xn, T, sc, N, hs, st, C, t, h => by
    rw [chkS.eq_def] at h; dsimp only at h
    split at h
    · simp only [Bool.and_eq_true] at h
      obtain ⟨h1, h2, h3⟩ := h
      cases hs with
      | some i => cases h1
      | none =>
        obtain ⟨l, q1, q2⟩ := chkH_ok hl C t h3
        exact ss_try C.B.slc t.hs t.hf C.B.nd C.B.tk (fun W' pn xe tk po => chkSs_ok b (C.tr tk) (t.tr po) h2) q1 q2
    · cases h
  | .pass, X, G, W, g, xn, T, sc, N, hs, st, C, t, h => by
    rw [chkS.eq_def] at h; dsimp only at h
    split at h
    · exact ss_pass
    · cases h
  | .brk, X, G, W, g, xn, T, sc, N, hs, st, C, t, h => by
    rw [chkS.eq_def] at h; dsimp only at h
    split at h
    · exact ss_brk
    · cases h
  | .cnt, X, G, W, g, xn, T, sc, N, hs, st, C, t, h => by
    rw [chkS.eq_def] at h; dsimp only at h
    split at h
    · exact ss_cnt
    · cases h
theorem chkSs_ok : ∀ (as : Ss) {X : Cx} {G : GC} {W : WX} {g : Gl} {xn : String → Option (List String)} {T : Tb} {sc : Scope} {N : List Str} {hs : Option Nat} {ss : List Stmt}, Cxt X G W g xn T sc N hs → TopC X → chkSs T sc N hs as ss = true → SSs X G W g xn ss as
  | .nil, X, G, W, g, xn, T, sc, N, hs, ss, C, t, h => by
    rw [chkSs.eq_def] at h; dsimp only at h
    have e := List.isEmpty_iff.mp h
    subst e
    exact sss_nil
  | .cons a r, X, G, W, g, xn, T, sc, N, hs, ss, C, t, h => by
    rw [chkSs.eq_def] at h; dsimp only at h
    split at h
    · simp only [Bool.and_eq_true] at h
      exact sss_cons (chkS_ok a C t h.1) (chkSs_ok r C t h.2)
    · cases h
theorem chkH_ok : ∀ (hl : Hs) {X : Cx} {G : GC} {W : WX} {g : Gl} {xn : String → Option (List String)} {T : Tb} {sc : Scope} {N : List Str} {hds : List ExceptHandler}, Cxt X G W g xn T sc N none → TopC X → chkH T sc N hl hds = true → ∃ l, HR X G g xn hds hl l ∧ HdsM X hds l
  | .nil, X, G, W, g, xn, T, sc, N, hds, C, t, h => by
    rw [chkH.eq_def] at h; dsimp only at h
    have e := List.isEmpty_iff.mp h
    subst e
    exact ⟨[], .nil, .nil⟩
  | .cons c o b r, X, G, W, g, xn, T, sc, N, hds, C, t, h => by
    rw [chkH.eq_def] at h; dsimp only at h
    split at h
    · rename_i x p n b0 suite pos rest
      simp only [Bool.and_eq_true, decide_eq_true_eq, List.contains_iff_mem] at h
      obtain ⟨⟨rfl, h1, h2, h3⟩, h4, h5, h6⟩ := h
      obtain ⟨CC, e1, e2⟩ := C.hnd c h3
      obtain ⟨l, q1, q2⟩ := chkH_ok r C t h6
      have nm : Names X (Str.ofString c) (.ref CC) := ⟨glB_of C h1, (okN_of h2).1, .inl e1⟩
      have su : ∀ (a : Addr) (oe : Obj) (cls : Value) (d : Option Addr) (pn : List (Addr × Obj)), Zc cls d oe → (∃ vs, oe.data = .fields vs) → PSs (X.suite a ((a, oe) :: pn)) (b0 :: suite) (tsOf G g xn o b a cls d) := fun a oe cls d pn hz hf =>
        ⟨fun pins s σ H D I hq => by
          obtain ⟨x, hX, ht⟩ := hq
          exact (chkSs_ok b (C.suite hX hz hf) t.suite h5).run pins s σ H D I ht⟩
      refine ⟨(.ref CC, o, tsOf G g xn o b) :: l, .cons e2 q1, ?_⟩
      cases o with
      | none =>
        cases n with
        | none => exact .bare nm su q2
        | some n => cases h4
      | some i =>
        cases n with
        | none => cases h4
        | some n =>
          simp only [Bool.and_eq_true, decide_eq_true_eq] at h4
          exact .as_ nm (C.hN ▸ h4.1) (by show X.env.scope.names.lookup n = _; rw [C.hsc]; exact lclB_of h4.2) su q2
    · cases h
end
end IP

/-! IqA -/
set_option Elab.async false
set_option linter.all false
set_option maxRecDepth 100000
set_option maxHeartbeats 4000000
/-! IqA: what the text's written part says, by one Bool; the Hook. -/
namespace IP
open PySem L2 PyProof.Rows
abbrev gaS (K : PySem.W.Frag) (x : String) : Addr := He.ga K (Str.ofString x)
abbrev maS (K : PySem.W.Frag) (c m : String) : Addr := He.ma K (gaS K c) (Str.ofString m)
def xnT (T : Tb) (c : String) : Option (List String) := T.exs.lookup c
/-- where the classes stand -/
def gcK (T : Tb) (K : PySem.W.Frag) (mg : Str → Option Value) : GC := ⟨K, mg, fun c => if T.cls.contains c then some (gaS K c) else none, fun c => if (T.exs.map (·.1)).contains c then some (gaS K c) else none, none⟩
def eqv (a b : Option (Option Value)) : Bool := He.eqO a b
def oexB (K : PySem.W.Frag) (C : Addr) : Bool := (match K.lookup C with
  | some ⟨.type t, _, .cls cd, sl⟩ => (match cd.mro, sl.toList with
    | .ref C' :: bm, [_, _, _, _, some (.builtin n), _] => t == "type" && (C' == C && (n == "ValueError.__new__" && (!cd.hasDel && (cd.hasDict && PySem.HandSPX.refsVE bm))))
    | _, _ => false)
  | _ => false) && (He.eqO (PySem.W.findIn K (.ref C) "__setattr__") (some (some (.builtin "object.__setattr__"))) &&
    (decide (PySem.W.subIn K (.ref C) (.type "BaseException") = some true) && (decide (PySem.W.typeIn K (.ref C) = some (.type "type")) && PySem.W.keepIn K (.ref C))))
theorem oexB_ok {K : PySem.W.Frag} {C : Addr} (h : oexB K C = true) : OexC K C := by
  unfold oexB at h
  simp only [Bool.and_eq_true, decide_eq_true_eq] at h
  obtain ⟨h0, h1, h2, h3, h4⟩ := h
  refine ⟨?_, He.eqO_ok h1, h2, h3, h4⟩
  split at h0
  · rename_i t dd cd sl ho
    split at h0
    · rename_i C' bm k0 k1 k2 k3 n k5 hm hs
      simp only [Bool.and_eq_true, beq_iff_eq, Bool.not_eq_true'] at h0
      obtain ⟨rfl, rfl, rfl, hdel, hd, hv⟩ := h0
      obtain ⟨nm, bs, mro, ns, qn, hdd, sn, sub, ab, col, del⟩ := cd
      dsimp only at hm hdel hd
      subst hm hdel hd
      have hsl : sl = #[k0, k1, k2, k3, some (.builtin "ValueError.__new__"), k5] := by
        obtain ⟨l⟩ := sl
        simp only at hs
        rw [hs]
      subst hsl
      exact ⟨nm, qn, ns, bs, bm, sn, sub, ab, col, dd, k0, k1, k2, k3, k5, ho, hv⟩
    · cases h0
  · cases h0
/-- an own class's facts -/
def clsK (T : Tb) (K : PySem.W.Frag) (c : String) : Bool :=
  (He.Fa.glo (Str.ofString c)).ok K && ((He.Fa.cls (Str.ofString c)).ok K && (He.eqO (PySem.W.findIn K (.ref (gaS K c)) "__class__") (some (some (.builtin "object.__class__"))) &&
  (decide (PySem.W.mroIn K (gaS K c) (.type "object") = some true) && ((tagL.all fun a => decide (PySem.W.kitOne K (.type a) (.ref (gaS K c)) = some false)) && ((btyL.all fun b => decide (PySem.W.kitOne K (.ref (gaS K c)) (.type b) = some false)) &&
  ((T.cls.all fun c' => decide (PySem.W.kitOne K (.ref (gaS K c')) (.ref (gaS K c)) = some (c == c'))) && (T.flds.all fun f => (He.Fa.noat (Str.ofString c) (Str.ofString f)).ok K)))))))
/-- an exception class's facts -/
def exsK (T : Tb) (K : PySem.W.Frag) (p : String × List String) : Bool :=
  (He.Fa.glo (Str.ofString p.1)).ok K && (xfB K (gaS K p.1) && ((p.2.all fun f => He.eqO (PySem.W.findIn K (.ref (gaS K p.1)) (Str.ofString f)) (some none)) && (oexB K (gaS K p.1) &&
  (He.eqO (PySem.W.findIn K (.ref (gaS K p.1)) "__init__") (some (some (.ref (maS K p.1 "__init__")))) && (decide (PySem.W.typeIn K (.ref (maS K p.1 "__init__")) = some (.type "function")) &&
  (T.hnd.all fun c => decide (PySem.W.exmOne K (.ref (gaS K p.1)) (.ref (gaS K c)) = some (isX p.1 c))))))))
/-- DrawError's -/
def rootK (K : PySem.W.Frag) (d : String) : Bool := (He.Fa.glo (Str.ofString d)).ok K && (PySem.W.readsIn K (gaS K d) (.type "type") && (He.eqO (PySem.W.specialIn K (.ref (gaS K d)) "__getattribute__") (some (some (.builtin "type.__getattribute__"))) &&
  (match PySem.W.findCls K (.ref (gaS K d)) (.type "type") "__init__" with
    | some (.val (.builtin n)) => n == "ValueError.__init__"
    | _ => false)))
/-- an own operator's facts -/
def opB (T : Tb) (K : PySem.W.Frag) (p : String × String) : Bool :=
  T.cls.contains p.1 && (He.eqO (PySem.W.findIn K (.ref (gaS K p.1)) (Str.ofString p.2)) (some (some (.ref (maS K p.1 p.2)))) && (PySem.W.isFn K (.ref (maS K p.1 p.2)) && ((tagL.all fun t => PySem.W.notFirst K (gaS K p.1) (.type t)) &&
  ((T.cls.all fun c' => PySem.W.notFirst K (gaS K p.1) (.ref (gaS K c'))) && (PySem.W.selfFirst K (gaS K p.1) && (decide (PySem.W.mroIn K (gaS K p.1) (.type "object") = some true) &&
  (He.eqO (PySem.W.findIn K (.ref (gaS K p.1)) "__ne__") (some (some (.builtin "object.__ne__"))) && (if ["__add__", "__sub__", "__mul__"].contains p.2 then
    He.eqO (PySem.W.findIn K (.ref (gaS K p.1)) (rName p.2)) (some none) && ((PySem.W.findIn K (.type "int") (Str.ofString p.2)).isSome && ((PySem.W.findIn K (.type "int") (rName p.2)).isSome && decide (PySem.W.subIn K (.type "int") (.ref (gaS K p.1)) = some false))) else true))))))))
def okK2 (T : Tb) (K : PySem.W.Frag) : Bool := (T.ops.all fun p => opB T K p) && ((T.mpats.all fun p => T.cls.contains p.1 && (He.Fa.meth (Str.ofString p.1) (Str.ofString p.2.1)).ok K) && (T.kpats.all fun p => T.cls.contains p.1 && (He.Fa.mkr (Str.ofString p.1)).ok K))
def okK (T : Tb) (root : Option String) (K : PySem.W.Frag) : Bool := okK2 T K && (
  (T.free.all fun x => (He.Fa.free (Str.ofString x)).ok K) && ((T.cls.all fun c => clsK T K c) && ((T.exs.all fun p => exsK T K p) && ((T.hnd.all fun c => (He.Fa.glo (Str.ofString c)).ok K) &&
  ((T.gints.all fun p => (He.Fa.int (Str.ofString p.1) p.2).ok K) && ((T.gstrs.all fun p => (He.Fa.str (Str.ofString p.1) (Str.ofString p.2)).ok K) && ((T.fns.all fun f => (He.Fa.glo (Str.ofString f)).ok K) &&
  ((T.pats.all fun p => (He.Fa.glo (Str.ofString p.1)).ok K) && ((T.mts.all fun p => T.cls.contains p.1 && (He.Fa.meth (Str.ofString p.1) (Str.ofString p.2)).ok K) && ((T.mks.all fun c => T.cls.contains c && (He.Fa.mkr (Str.ofString c)).ok K) &&
  ((match root with | some d => rootK K d | none => true) && (He.eqO (PySem.W.specialIn K (.builtin "object.__class__") "__get__") (some (some (.builtin "getset_descriptor.__get__"))) && decide (PySem.W.takesIn K (.builtin "object.__class__") = some true)))))))))))))
/-- what is said, in words -/
structure Says (T : Tb) (root : Option String) (K : PySem.W.Frag) : Prop where
  free : ∀ x ∈ T.free, (He.Fa.free (Str.ofString x)).ok K = true
  cls : ∀ c ∈ T.cls, clsK T K c = true
  exs : ∀ p ∈ T.exs, exsK T K p = true
  hnd : ∀ c ∈ T.hnd, (He.Fa.glo (Str.ofString c)).ok K = true
  gints : ∀ p ∈ T.gints, (He.Fa.int (Str.ofString p.1) p.2).ok K = true
  gstrs : ∀ p ∈ T.gstrs, (He.Fa.str (Str.ofString p.1) (Str.ofString p.2)).ok K = true
  fns : ∀ f ∈ T.fns, (He.Fa.glo (Str.ofString f)).ok K = true
  pats : ∀ p ∈ T.pats, (He.Fa.glo (Str.ofString p.1)).ok K = true
  mts : ∀ p ∈ T.mts, T.cls.contains p.1 = true ∧ (He.Fa.meth (Str.ofString p.1) (Str.ofString p.2)).ok K = true
  mks : ∀ c ∈ T.mks, T.cls.contains c = true ∧ (He.Fa.mkr (Str.ofString c)).ok K = true
  root : ∀ d, root = some d → rootK K d = true
  hn : PySem.W.specialIn K (.builtin "object.__class__") "__get__" = some (some (.builtin "getset_descriptor.__get__"))
  htk : PySem.W.takesIn K (.builtin "object.__class__") = some true
  ops : ∀ p ∈ T.ops, opB T K p = true
  mpats : ∀ p ∈ T.mpats, T.cls.contains p.1 = true ∧ (He.Fa.meth (Str.ofString p.1) (Str.ofString p.2.1)).ok K = true
  kpats : ∀ p ∈ T.kpats, T.cls.contains p.1 = true ∧ (He.Fa.mkr (Str.ofString p.1)).ok K = true
theorem okK_ok {T : Tb} {root : Option String} {K : PySem.W.Frag} (h : okK T root K = true) : Says T root K := by
  unfold okK okK2 at h
  simp only [Bool.and_eq_true, List.all_eq_true, decide_eq_true_eq] at h
  obtain ⟨⟨z1, z2, z3⟩, h1, h2, h3, h4, h5, h6, h7, h8, h9, h10, h11, h12, h13⟩ := h
  exact ⟨h1, h2, h3, h4, h5, h6, h7, h8, h9, h10, fun d e => by subst e; exact h11, He.eqO_ok h12, h13, z1, z2, z3⟩
section
variable {T : Tb} {root : Option String} {K : PySem.W.Frag} {h : Heap} {mg : Str → Option Value}
theorem own_some {c : String} {C : Addr} (e : (gcK T K mg).own c = some C) : c ∈ T.cls ∧ C = gaS K c := by
  have e : (if T.cls.contains c then some (gaS K c) else none) = some C := e
  split at e
  · rename_i hc
    exact ⟨by simpa using hc, (Option.some.inj e).symm⟩
  · cases e
theorem own_at {c : String} (hc : c ∈ T.cls) : (gcK T K mg).own c = some (gaS K c) := if_pos (by simpa using hc)
theorem exa_some {c : String} {C : Addr} (e : (gcK T K mg).exa c = some C) : ∃ p ∈ T.exs, p.1 = c ∧ C = gaS K c := by
  have e : (if (T.exs.map (·.1)).contains c then some (gaS K c) else none) = some C := e
  split at e
  · rename_i hc
    have hc : c ∈ T.exs.map (·.1) := by simpa using hc
    obtain ⟨p, h1, h2⟩ := List.mem_map.mp hc
    exact ⟨p, h1, h2, (Option.some.inj e).symm⟩
  · cases e
theorem exa_of {p : String × List String} (hp : p ∈ T.exs) : (gcK T K mg).exa p.1 = some (gaS K p.1) := if_pos (List.contains_iff_mem.mpr (List.mem_map.mpr ⟨p, hp, rfl⟩))
theorem clsK_ok {c : String} (e : clsK T K c = true) : (He.Fa.glo (Str.ofString c)).ok K = true ∧ Cls K (gaS K c) ∧ PySem.W.findIn K (.ref (gaS K c)) "__class__" = some (some (.builtin "object.__class__")) ∧ PySem.W.mroIn K (gaS K c) (.type "object") = some true ∧
    (∀ a ∈ tagL, PySem.W.kitOne K (.type a) (.ref (gaS K c)) = some false) ∧ (∀ b ∈ btyL, PySem.W.kitOne K (.ref (gaS K c)) (.type b) = some false) ∧ (∀ c' ∈ T.cls, PySem.W.kitOne K (.ref (gaS K c')) (.ref (gaS K c)) = some (c == c')) ∧ (∀ f ∈ T.flds, NoAttr K (gaS K c) (Str.ofString f)) := by
  unfold clsK at e
  simp only [Bool.and_eq_true, List.all_eq_true, decide_eq_true_eq] at e
  obtain ⟨h1, h2, h3, h4, h5, h6, h7, h8⟩ := e
  exact ⟨h1, He.cls_ok h2, He.eqO_ok h3, h4, h5, h6, h7, fun f hf => He.noat_ok (h8 f hf)⟩
theorem Says.facts (s : Says T root K) : Facts (gcK T K mg) where
  cls := fun e => by obtain ⟨h1, rfl⟩ := own_some e; exact (clsK_ok (s.cls _ h1)).2.1
  ha := fun e => by obtain ⟨h1, rfl⟩ := own_some e; exact (clsK_ok (s.cls _ h1)).2.2.1
  hn := s.hn
  htk := s.htk
  hm := fun e => by obtain ⟨h1, rfl⟩ := own_some e; exact (clsK_ok (s.cls _ h1)).2.2.2.1
  kit1 := fun e ha => by obtain ⟨h1, rfl⟩ := own_some e; exact (clsK_ok (s.cls _ h1)).2.2.2.2.1 _ ha
  kit2 := fun e ha => by obtain ⟨h1, rfl⟩ := own_some e; exact (clsK_ok (s.cls _ h1)).2.2.2.2.2.1 _ ha
  kit3 := fun e e' => by
    obtain ⟨h1, rfl⟩ := own_some e
    obtain ⟨h2, rfl⟩ := own_some e'
    exact (clsK_ok (s.cls _ h1)).2.2.2.2.2.2.1 _ h2
theorem exsK_ok {p : String × List String} (e : exsK T K p = true) : (He.Fa.glo (Str.ofString p.1)).ok K = true ∧ XfC K (gaS K p.1) ∧ (∀ f ∈ p.2, PySem.W.findIn K (.ref (gaS K p.1)) (Str.ofString f) = some none) ∧ OexC K (gaS K p.1) ∧
    PySem.W.findIn K (.ref (gaS K p.1)) "__init__" = some (some (.ref (maS K p.1 "__init__"))) ∧ PySem.W.typeIn K (.ref (maS K p.1 "__init__")) = some (.type "function") ∧ (∀ c ∈ T.hnd, PySem.W.exmOne K (.ref (gaS K p.1)) (.ref (gaS K c)) = some (isX p.1 c)) := by
  unfold exsK at e
  simp only [Bool.and_eq_true, List.all_eq_true, decide_eq_true_eq] at e
  obtain ⟨h1, h2, h3, h4, h5, h6, h7⟩ := e
  exact ⟨h1, xfB_ok h2, fun f hf => He.eqO_ok (h3 f hf), oexB_ok h4, He.eqO_ok h5, h6, h7⟩
theorem lookup_key {l : List (String × List String)} {c : String} {ns : List String} (h : l.lookup c = some ns) : (c, ns) ∈ l := by
  induction l with
  | nil => cases h
  | cons q l ih =>
    obtain ⟨k, v⟩ := q
    by_cases hk : c = k
    · subst hk
      simp [List.lookup] at h
      rw [h]
      exact List.mem_cons_self
    · have hk' : (c == k) = false := by simpa using hk
      simp only [List.lookup, hk'] at h
      exact List.mem_cons_of_mem _ (ih h)
theorem Says.factsX (s : Says T root K) : FactsX (gcK T K mg) (xnT T) where
  xf := fun e => by
    obtain ⟨p, h1, rfl, rfl⟩ := exa_some e
    exact (exsK_ok (s.exs _ h1)).2.1
  no := fun e hx hf => by
    obtain ⟨p, h1, rfl, rfl⟩ := exa_some e
    exact (exsK_ok (s.exs _ (lookup_key hx))).2.2.1 _ hf
theorem Says.opk (s : Says T root K) {c d : String} (h : (c, d) ∈ T.ops) : (gcK T K mg).own c = some (gaS K c) ∧ OpK K (gcK T K mg) (gaS K c) d (maS K c d) := by
  have e := s.ops _ h
  unfold opB at e
  simp only [Bool.and_eq_true, List.all_eq_true, decide_eq_true_eq] at e
  obtain ⟨h1, h2, h3, h4, h5, h6, h7, h8, h9⟩ := e
  refine ⟨own_at (by simpa using h1), He.eqO_ok h2, h3, h4, fun e => by obtain ⟨q1, rfl⟩ := own_some e; exact h5 _ q1, h6, h7, He.eqO_ok h8, fun hd => ?_⟩
  rw [if_pos (by simpa using hd)] at h9
  simp only [Bool.and_eq_true, decide_eq_true_eq] at h9
  obtain ⟨w1, w2, w3, w4⟩ := h9
  obtain ⟨fo, w2⟩ := Option.isSome_iff_exists.mp w2
  obtain ⟨ro, w3⟩ := Option.isSome_iff_exists.mp w3
  exact ⟨He.eqO_ok w1, ⟨fo, w2⟩, ⟨ro, w3⟩, w4⟩
theorem Says.att (s : Says T root K) {f : String} (hf : f ∈ T.flds) : AttF (gcK T K mg) f := fun c C e => by
  obtain ⟨h1, rfl⟩ := own_some e
  have q := clsK_ok (s.cls _ h1)
  exact ⟨q.2.1, q.2.2.2.2.2.2.2 f hf⟩
end

/-! ### the Hook -/
def obsI (T : Tb) (root : Option String) (fn : List He.DefD) (K : PySem.W.Frag) : Bool × He.AlD := (okK T root K, He.obsD [] fn K)
def valI (fn : List He.DefD) : Bool × He.AlD := (true, He.valD fn)
/-- reached ones, a set of bits to know them again -/
def seeA (seen a : Nat) : Bool := Nat.beq (Nat.land (Nat.shiftRight seen a) 1) 1
def newA : List Addr → Nat → List Addr × Nat
  | [], seen => ([], seen)
  | a :: r, seen => match seeA seen a with
    | true => newA r seen
    | false => match newA r (Nat.lor seen (Nat.shiftLeft 1 a)) with
      | (xs, s) => (a :: xs, s)
def growN (g : Addr → Option Obj) : Nat → List Addr → Nat → List Addr
  | 0, front, _ => front
  | n + 1, front, seen => match newA (front.flatMap fun a => match g a with
      | some o => He.refsD o
      | none => []) seen with
    | (xs, s) => front ++ growN g n xs s
def asN (g : Addr → Option Obj) (n : Nat) : List Addr := growN g n [mainGlobals] (Nat.lor (Nat.shiftLeft 1 mainGlobals) (Nat.shiftLeft 1 cStatics))
def hookI (n : Nat) (T : Tb) (root : Option String) (fn : List He.DefD) : PySem.W.Hook where
  α := Bool × He.AlD
  obs := fun s => obsI T root fn (He.frG s.heap.get? (cStatics :: asN s.heap.get? n))
  val := fun _ => valI fn
  says := fun _ h => ∃ K : PySem.W.Frag, K.In h ∧ obsI T root fn K = valI fn
  of := fun _ _ e => ⟨_, He.frG_in, e⟩
  keeps := fun _ _ _ ⟨K, hK, c⟩ k => ⟨K, PySem.W.Frag.In.keeps hK k, c⟩
def obI (n : Nat) (T : Tb) (root : Option String) (fn : List He.DefD) (g : Addr → Option Obj) : Bool × He.AlD := obsI T root fn (He.frG g (cStatics :: asN g n))
theorem obI_eq {n : Nat} {T : Tb} {root : Option String} {fn : List He.DefD} {g : Addr → Option Obj} {s : Shared} (h : ∀ a, g a = s.heap.get? a) : obI n T root fn g = (hookI n T root fn).obs s := by
  have e : g = s.heap.get? := funext h
  rw [e] <;> rfl
theorem obsI_ok {T : Tb} {root : Option String} {fn : List He.DefD} {K : PySem.W.Frag} (h : obsI T root fn K = valI fn) : Says T root K ∧ ∀ d ∈ fn, ∃ fd, FunD K d.name d.qual d.params d.body d.scope (d.dvs K) (d.kws K) (He.fAd K d.at_) fd := by
  have h1 : okK T root K = true := congrArg (fun z : Bool × He.AlD => z.1) h
  have h2 : He.SaysD [] fn K := congrArg (fun z : Bool × He.AlD => z.2) h
  refine ⟨okK_ok h1, fun d hd => ?_⟩
  obtain ⟨i, hi⟩ := List.getElem?_of_mem hd
  exact h2.def_ i hi
end IP

/-! IqB -/
set_option Elab.async false
set_option linter.all false
set_option maxRecDepth 100000
set_option maxHeartbeats 4000000
/-! IqB: the table of defs; levels; every def keeps its promise. -/
namespace IP
open PySem L2 PyProof.Rows
def fnScopeB (N ps : List Str) (sc : Scope) : Bool :=
  (match sc.kind with
    | .function => true
    | _ => false) && (!sc.isCoroutine && (!sc.isGenerator && (decide N.Nodup && (decide (N.take ps.length = ps) && (ps.all (fun x => lclB sc x || celB sc x) && sc.names.all fun y => match y.2 with
    | .free => false
    | _ => true)))))
theorem fnScopeB_ok {N ps : List Str} {sc : Scope} (h : fnScopeB N ps sc = true) : FnScope N ps sc := by
  unfold fnScopeB at h
  simp only [Bool.and_eq_true, List.all_eq_true, decide_eq_true_eq, Bool.not_eq_true', Bool.or_eq_true] at h
  obtain ⟨h1, h2, h3, h4, h5, h6, h7⟩ := h
  refine ⟨?_, h2, h3, h4, h5, fun x hx => ?_, fun y hy z => ?_⟩
  · cases q : sc.kind <;> rw [q] at h1 <;> first | rfl | cases h1
  · rcases h6 x hx with q | q
    · exact .inl (lclB_of q)
    · exact .inr (celB_of q)
  · have := h7 y hy
    rw [z] at this
    cases this
/-- a def of the text: its class ("" for a function), its name, its names (the parameters first), how many parameters, what it does -/
structure Df where
  c : String
  f : String
  N : List Str
  n : Nat
  b : Ss
  d : He.DefD
def Df.ps (x : Df) : List Str := x.N.take x.n
/-- an exception class's __init__ -/
structure Xd where
  c : String
  fls : List String
  d : He.DefD
def Df.key (x : Df) : Str × Option Str := if x.c == "" then (Str.ofString x.f, none) else (Str.ofString x.c, some (Str.ofString x.f))
def Df.okB (T : Tb) (x : Df) : Bool := chkSs T x.d.scope x.N none x.b x.d.body && (fnScopeB x.N x.ps x.d.scope && (decide (x.n ≤ x.N.length) && (x.d.kwd.isEmpty && decide (x.d.at_ = x.key))))
def BindD (d : He.DefD) (ps : List Str) : Prop := ∀ (kV doc pm : Value) (an : Option Addr) (cdv ct : Value) (us : List Value), us.length = ps.length → bindArgs (PySem.W.fnOf d.name d.qual d.params d.body d.scope .none kV doc pm an cdv ct) ⟨us, []⟩ = pure (ps.zip us)
/-- all values are given to a def with defaults -/
def BindF (d : He.DefD) (ps : List Str) : Prop := ∀ (T : Addr) (kV doc pm : Value) (an : Option Addr) (cdv ct : Value) (us its : List Value), us.length = ps.length → its.length = d.dfl.length → ∃ k, bindArgs (PySem.W.fnOf d.name d.qual d.params d.body d.scope (.ref T) kV doc pm an cdv ct) ⟨us, []⟩ = seqItems? (.ref T) >>= k ∧ k (some its.toArray) = pure (ps.zip us)
inductive BindX (d : He.DefD) (ps : List Str) : Prop
  | no : d.dfl = [] → BindD d ps → BindX d ps
  | yes : d.dfl ≠ [] → BindF d ps → BindX d ps
theorem BindX.k {K : PySem.W.Frag} {d : He.DefD} {kws : List (Str × V)} {f : Addr} {fd : FuncData} {ps : List Str} (h : BindX d ps) (F : FunD K d.name d.qual d.params d.body d.scope (d.dvs K) kws f fd) : Binds K fd ps [] := by
  cases h with
  | no e h =>
    have e1 : d.dvs K = [] := by unfold He.DefD.dvs; rw [e]; rfl
    rw [e1] at F
    exact F.bindsN h
  | yes e h =>
    obtain ⟨oc, od, dV, kV, doc, pm, an, cdv, ct, osl, rfl, lk, hcd, hD, hK⟩ := F.ex
    rcases hD with ⟨e1, _⟩ | ⟨_, T, o, its, m, rfl, lT, oT, rT⟩
    · unfold He.DefD.dvs at e1
      exact absurd (List.map_eq_nil_iff.mp e1) e
    · intro s us X hl
      rw [List.append_nil] at hl ⊢
      obtain ⟨k, e1, e2⟩ := h T kV doc pm an cdv ct us its hl (by rw [← rT.length]; unfold He.DefD.dvs; rw [List.length_map])
      refine BindsTo.of_looks fun M => ?_
      rw [e1]
      exact looks_items X lT oT (.of_pure e2)
/-- a method's call with np positional values, keywords named ks, and defaults -/
inductive PatM (d : He.DefD) (ps : List Str) (np : Nat) (ks : List Str) (ar : List Nat) : Prop
  | no : d.dfl = [] → (∀ (kV doc pm : Value) (an : Option Addr) (cdv ct self : Value) (us ws as : List Value), us.length = np → ws.length = ks.length → arr ar (us ++ ws) = some as → bindArgs (PySem.W.fnOf d.name d.qual d.params d.body d.scope .none kV doc pm an cdv ct) ⟨self :: us, ks.zip ws⟩ = pure (ps.zip (self :: as))) → PatM d ps np ks ar
  | yes : d.dfl ≠ [] → (∀ (T : Addr) (kV doc pm : Value) (an : Option Addr) (cdv ct self : Value) (us ws its as : List Value), us.length = np → ws.length = ks.length → its.length = d.dfl.length → arr ar (us ++ ws ++ its) = some as → ∃ k, bindArgs (PySem.W.fnOf d.name d.qual d.params d.body d.scope (.ref T) kV doc pm an cdv ct) ⟨self :: us, ks.zip ws⟩ = seqItems? (.ref T) >>= k ∧ k (some its.toArray) = pure (ps.zip (self :: as))) → PatM d ps np ks ar
theorem PatM.k {K : PySem.W.Frag} {d : He.DefD} {kws : List (Str × V)} {f : Addr} {fd : FuncData} {ps ks : List Str} {np : Nat} {ar : List Nat} (h : PatM d ps np ks ar) (F : FunD K d.name d.qual d.params d.body d.scope (d.dvs K) kws f fd) : KPatM K fd ps np ks ar (d.dvs K) := by
  obtain ⟨oc, od, dV, kV, doc, pm, an, cdv, ct, osl, rfl, lk, hcd, hD, hK⟩ := F.ex
  cases h with
  | no e h =>
    have e1 : d.dvs K = [] := by unfold He.DefD.dvs; rw [e]; rfl
    rcases hD with ⟨_, rfl⟩ | ⟨e2, _⟩
    · rw [e1]
      exact ⟨[], .nil, fun s self us ws as _ h1 h2 h3 => .of_eq (h kV doc pm an cdv ct self us ws as h1 h2 (by rw [List.append_nil] at h3; exact h3))⟩
    · exact absurd e1 e2
  | yes e h =>
    rcases hD with ⟨e1, _⟩ | ⟨_, T, o, its, m, rfl, lT, oT, rT⟩
    · unfold He.DefD.dvs at e1
      exact absurd (List.map_eq_nil_iff.mp e1) e
    · refine ⟨its, rT, fun s self us ws as X h1 h2 h3 => ?_⟩
      obtain ⟨k, e1, e2⟩ := h T kV doc pm an cdv ct self us ws its as h1 h2 (by rw [← rT.length]; unfold He.DefD.dvs; rw [List.length_map]) h3
      refine BindsTo.of_looks fun M => ?_
      rw [e1]
      exact looks_items X lT oT (.of_pure e2)
/-- constants as defaults -/
def dvB : D → He.Dv → Bool
  | .non, .non => true
  | .bl a, .bl b => a == b
  | .int a, .int b => a == b
  | .str a, .str b => decide (a = b)
  | _, _ => false
def dvsB : List D → List He.Dv → Bool
  | [], [] => true
  | a :: as, b :: bs => dvB a b && dvsB as bs
  | _, _ => false
theorem dvsB_ok {G : GC} {K : PySem.W.Frag} {rho : List Addr} {F : Hp} : ∀ {ds : List D} {vs : List He.Dv}, dvsB ds vs = true → RDs G rho F ds (vs.map (He.Dv.v K))
  | [], [], _ => .nil
  | a :: as, b :: bs, h => by
    unfold dvsB at h
    rw [Bool.and_eq_true] at h
    refine .cons ?_ (dvsB_ok h.2)
    have h1 := h.1
    unfold dvB at h1
    split at h1
    · exact .non
    · rw [eq_of_beq h1]; exact .bl _
    · rw [eq_of_beq h1]; exact .int _
    · rw [of_decide_eq_true h1]; exact .str _
    · cases h1
  | [], _ :: _, h => by cases h
  | _ :: _, [], h => by cases h
/-- a call with np positional values and keywords named ks -/
def PatD (d : He.DefD) (ps : List Str) (np : Nat) (ks : List Str) (ar : List Nat) : Prop := ∀ (kV doc pm : Value) (an : Option Addr) (cdv ct : Value) (us ws as : List Value), us.length = np → ws.length = ks.length → arr ar (us ++ ws) = some as → bindArgs (PySem.W.fnOf d.name d.qual d.params d.body d.scope .none kV doc pm an cdv ct) ⟨us, ks.zip ws⟩ = pure (ps.zip as)
theorem PatD.k {K : PySem.W.Frag} {d : He.DefD} {kws : List (Str × V)} {f : Addr} {fd : FuncData} {ps ks : List Str} {np : Nat} {ar : List Nat} (h : PatD d ps np ks ar) (F : FunD K d.name d.qual d.params d.body d.scope [] kws f fd) : KPat K fd ps np ks ar := fun s us ws as _ h1 h2 h3 => by
  obtain ⟨oc, od, dV, kV, doc, pm, an, cdv, ct, osl, rfl, lk, hcd, hD, hK⟩ := F.ex
  rcases hD with ⟨_, rfl⟩ | ⟨e, _⟩
  · exact .of_eq (h kV doc pm an cdv ct us ws as h1 h2 h3)
  · exact absurd rfl e
structure Df.Ok (T : Tb) (x : Df) : Prop where
  b : x.okB T = true
  bind : BindX x.d x.ps
def Xd.okB (root : String) (x : Xd) : Bool := (x.d.dfl.isEmpty && (x.d.kwd.isEmpty && decide (x.d.at_ = (Str.ofString x.c, some ("__init__" : Str))))) && (match x.d.body with
  | [.Expr (.Call (.Attribute (.Name z _) m p2) [.Name self _, .Constant (.str _) _ _] [] p5) _] =>
    decide (m = ("__init__" : Str)) && (decide (z = Str.ofString root) && (decide (x.fls = []) && (okN z && (okN self && (glB x.d.scope z && (fnScopeB [self] [self] x.d.scope && p2.endLine == p5.line))))))
  | [.Expr (.Call (.Attribute (.Name z _) m p2) [.Name self _, .Constant (.str _) _ _] [] p5) _, .Assign [.Attribute (.Name self' _) fl _] (.Name given _) _] =>
    decide (m = ("__init__" : Str)) && (decide (z = Str.ofString root) && (decide (self' = self) && (decide (x.fls.map Str.ofString = [fl]) && (okN z && (okN self && (okN given && (glB x.d.scope z && (fnScopeB [self, given] [self, given] x.d.scope && p2.endLine == p5.line))))))))
  | _ => false)
def Xd.ps (x : Xd) : List Str := match x.d.body with
  | [_, .Assign [.Attribute (.Name self _) _ _] (.Name given _) _] => [self, given]
  | [.Expr (.Call _ [.Name self _, _] _ _) _] => [self]
  | _ => []
structure Xd.Ok (root : String) (x : Xd) : Prop where
  b : x.okB root = true
  bind : BindD x.d x.ps
theorem beq_line {p q : Pos} (h : (p.endLine == q.line) = true) : (p.endLine == q.line) = true := h
theorem xd_ok {P : Program} {w : World} {K : PySem.W.Frag} {mg : Str → Option Value} {base : Heap} {f C : Addr} {fd : FuncData} {CXt : CXT} {root : String} {x : Xd} (o : x.Ok root) (F : FunD K x.d.name x.d.qual x.d.params x.d.body x.d.scope (x.d.dvs K) (x.d.kws K) f fd)
    (hr : rootK K root = true) (hm : mg (Str.ofString root) = some (.ref (gaS K root))) (T : OexC K C) (hno : ∀ fl ∈ x.fls, PySem.W.findIn K (.ref C) (Str.ofString fl) = some none) :
    (x.fls = [] ∧ FnOk P w K mg base CXt 1 f fd x.ps (spX0 K C) ∧ Binds K fd x.ps [] ∧ x.ps.length = 1) ∨ ∃ fl, x.fls = [fl] ∧ FnOk P w K mg base CXt 1 f fd x.ps (spX1 K C (Str.ofString fl)) ∧ Binds K fd x.ps [] ∧ x.ps.length = 2 := by
  obtain ⟨hb, hbind⟩ := o
  obtain ⟨c, fls, at_, name, qual, params, body, scope, dfl, kwd⟩ := x
  unfold Xd.okB at hb
  dsimp only at hb F hno ⊢
  simp only [Bool.and_eq_true, List.isEmpty_iff] at hb
  obtain ⟨⟨rfl, rfl, _⟩, hb⟩ := hb
  unfold rootK at hr
  simp only [Bool.and_eq_true] at hr
  obtain ⟨r1, r2, r3, r4⟩ := hr
  have hfc : PySem.W.findCls K (.ref (gaS K root)) (.type "type") "__init__" = some (.val (.builtin "ValueError.__init__")) := by
    split at r4
    · rename_i n e
      rw [eq_of_beq r4] at e
      exact e
    · cases r4
  split at hb
  · rename_i z p1 m p2 self p3 txt j p4 p5 p6
    simp only [Bool.and_eq_true, decide_eq_true_eq] at hb
    obtain ⟨rfl, rfl, rfl, h1, h2, h4, h5, h6⟩ := hb
    refine .inl ⟨rfl, init0_ok F (fnScopeB_ok h5) ?_ hm (okN_of h1).1 (okN_of h2).1 (okN_of h2).2 ⟨r2, He.eqO_ok r3⟩ hfc T h6, F.bindsN hbind, rfl⟩
    unfold glB at h4
    split at h4
    · assumption
    · cases h4
  · rename_i z p1 m p2 self p3 txt j p4 p5 p6 self' p7 fl p8 given p9 p10
    simp only [Bool.and_eq_true, decide_eq_true_eq] at hb
    obtain ⟨rfl, rfl, rfl, hfl, h1, h2, h3, h4, h5, h6⟩ := hb
    obtain ⟨fl, rfl⟩ : ∃ f, fls = [f] := by
      match fls, hfl with
      | [f], _ => exact ⟨f, rfl⟩
    cases hfl
    refine .inr ⟨fl, rfl, init1_ok F (fnScopeB_ok h5) ?_ hm (okN_of h1).1 (okN_of h2).1 (okN_of h2).2 (okN_of h3).1 (okN_of h3).2 ⟨r2, He.eqO_ok r3⟩ hfc T (hno fl List.mem_cons_self) h6, F.bindsN hbind, rfl⟩
    unfold glB at h4
    split at h4
    · assumption
    · cases h4
  · cases hb

/-! ### levels -/
def look (tab : List Df) (c f : String) : Option Df := tab.find? fun x => x.c == c && x.f == f
def hasT (tab : List Df) (c d : String) : Bool := (look tab c d).isSome && (dunds.contains d && !(c == ""))
noncomputable def callL (tab : List Df) (xn : String → Option (List String)) : Nat → String → String → List D → Mem → Res D
  | 0, _, _, _, _ => .no
  | j + 1, c, f, ds, m => match look tab c f with
    | some x => callD ⟨callL tab xn j, hasT tab, none⟩ xn x.N.length x.n x.b ds m
    | none => .no
noncomputable abbrev glL (tab : List Df) (xn : String → Option (List String)) (j : Nat) : Gl := ⟨callL tab xn j, hasT tab, none⟩
/-- the table is as the text has it -/
structure TabOk (T : Tb) (root : Option String) (tab : List Df) (xs : List Xd) (fn : List He.DefD) : Prop where
  ok : ∀ x ∈ tab, x.Ok T
  ex : ∀ p ∈ T.exs, ∃ r, root = some r ∧ ∃ x ∈ xs, x.c = p.1 ∧ p.2 = x.fls ∧ x.Ok r
  fd : ∀ x ∈ tab, x.d ∈ fn
  fx : ∀ x ∈ xs, x.d ∈ fn
  fns : ∀ f ∈ T.fns, (look tab "" f).isSome = true
  pats : ∀ p ∈ T.pats, ∃ x, look tab "" p.1 = some x ∧ x.d.dfl = [] ∧ PatD x.d x.ps p.2.1 (p.2.2.1.map Str.ofString) p.2.2.2
  mts : ∀ p ∈ T.mts, (look tab p.1 p.2).isSome = true ∧ p.1 ≠ ""
  mks : ∀ c ∈ T.mks, (look tab c "__init__").isSome = true ∧ c ≠ ""
  exn : (T.exs.map (·.1)).Nodup
  ops : ∀ x ∈ tab, dunds.contains x.f = true → x.c ≠ "" → (x.c, x.f) ∈ T.ops
  mpats : ∀ p ∈ T.mpats, ∃ x, look tab p.1 p.2.1 = some x ∧ p.1 ≠ "" ∧ PatM x.d x.ps p.2.2.1 (p.2.2.2.1.map Str.ofString) p.2.2.2.2.1 ∧ dvsB p.2.2.2.2.2 x.d.dfl = true
  kpats : ∀ p ∈ T.kpats, ∃ x, look tab p.1 "__init__" = some x ∧ p.1 ≠ "" ∧ PatM x.d x.ps p.2.1 (p.2.2.1.map Str.ofString) p.2.2.2.1 ∧ dvsB p.2.2.2.2 x.d.dfl = true
theorem look_of {tab : List Df} {c f : String} {x : Df} (h : look tab c f = some x) : x ∈ tab ∧ x.c = c ∧ x.f = f := by
  have h1 := List.mem_of_find?_eq_some h
  have h2 := List.find?_some h
  simp only [Bool.and_eq_true, beq_iff_eq] at h2
  exact ⟨h1, h2⟩
theorem lookup_nd {l : List (String × List String)} (hn : (l.map (·.1)).Nodup) {p : String × List String} (hp : p ∈ l) : l.lookup p.1 = some p.2 := by
  induction l with
  | nil => cases hp
  | cons q l ih =>
    obtain ⟨k, v⟩ := q
    rw [List.map_cons, List.nodup_cons] at hn
    rcases List.mem_cons.mp hp with z | z
    · subst z
      simp [List.lookup]
    · have hk : p.1 ≠ k := fun e => hn.1 (e ▸ List.mem_map.mpr ⟨p, z, rfl⟩)
      have hk' : (p.1 == k) = false := by simpa using hk
      simp only [List.lookup, hk']
      exact ih hn.2 z
section
variable {P : Program} {w : World} {K : PySem.W.Frag} {mg : Str → Option Value} {base h : Heap} {T : Tb} {root : Option String} {tab : List Df} {xs : List Xd} {fn : List He.DefD}
theorem ar_callL {c f : String} {x : Df} (e : look tab c f = some x) (xn : String → Option (List String)) (j : Nat) (le : x.n ≤ x.N.length) : ∀ ds m, ds.length ≠ x.ps.length → callL tab xn j c f ds m = .no := by
  intro ds m hl
  cases j with
  | zero => rfl
  | succ j =>
    rw [callL, e]
    dsimp only
    unfold callD
    have : x.ps.length = x.n := by unfold Df.ps; rw [List.length_take]; omega
    rw [this] at hl
    rw [if_neg hl]
theorem key_addr {x : Df} {c f : String} (e1 : x.c = c) (e2 : x.f = f) : He.fAd K x.key = if c == "" then gaS K f else maS K c f := by
  unfold Df.key
  rw [e1, e2]
  by_cases hc : (c == "") = true
  · rw [if_pos hc, if_pos hc]
    rfl
  · rw [if_neg hc, if_neg hc]
    rfl
/-- every def keeps its promise, at every level -/
theorem lvl (s : Says T root K) (X : K.In h) (GN : h.Ns mainGlobals mg) (t : TabOk T root tab xs fn) (fd_ : ∀ d ∈ fn, ∃ fd, FunD K d.name d.qual d.params d.body d.scope (d.dvs K) (d.kws K) (He.fAd K d.at_) fd) :
    ∀ (j : Nat) (c f : String) (x : Df), look tab c f = some x → ∀ fd, FunD K x.d.name x.d.qual x.d.params x.d.body x.d.scope (x.d.dvs K) (x.d.kws K) (He.fAd K x.d.at_) fd →
      FnOk P w K mg base (CX P w) (2 * j + 1) (He.fAd K x.d.at_) fd x.ps (spI (gcK T K mg) x.ps.length (callL tab (xnT T) j c f))
  | 0, c, f, x, e, fd, F => by
    obtain ⟨hx, _, _⟩ := look_of e
    have ok := (t.ok x hx).b
    unfold Df.okB at ok
    simp only [Bool.and_eq_true] at ok
    refine FnOk.mono (F.ok (k := 0) (fnScopeB_ok ok.2.1) (fun vs H Q E h => spI_len h) fun cdv A outer s H vs Q E hr h => ?_) (Nat.le_refl _)
    obtain ⟨_, _, m, ds, _, _, _, hp⟩ := h
    rw [callL] at hp
    exact hp.elim
  | j + 1, c, f, x, e, fd, F => by
    obtain ⟨hx, _, _⟩ := look_of e
    have ok := (t.ok x hx).b
    unfold Df.okB at ok
    simp only [Bool.and_eq_true, decide_eq_true_eq, List.isEmpty_iff] at ok
    obtain ⟨o1, o2, o3, o5, o6⟩ := ok
    have S := fnScopeB_ok o2
    have hpl : x.ps.length = x.n := by unfold Df.ps; rw [List.length_take]; omega
    have ecall : (callL tab (xnT T) (j + 1) c f) = callD (glL tab (xnT T) j) (xnT T) x.N.length x.n x.b := by
      funext ds m
      rw [callL, e]
    rw [ecall]
    have e2 : 2 * (j + 1) + 1 = (2 * j + 2) + 1 := by omega
    rw [e2]
    have cal : ∀ {c f : String} {y : Df}, look tab c f = some y → ∃ fd, Callee P w K mg base (gcK T K mg) (if c == "" then gaS K f else maS K c f) fd y.ps (2 * j + 1) (callL tab (xnT T) j c f) ∧ Binds K fd y.ps [] ∧ (∀ {np ks ar}, y.d.dfl = [] → PatD y.d y.ps np ks ar → KPat K fd y.ps np ks ar) ∧ (∀ {np ks ar}, PatM y.d y.ps np ks ar → KPatM K fd y.ps np ks ar (y.d.dvs K)) := by
      intro c f y ey
      obtain ⟨hy, hc, hf⟩ := look_of ey
      obtain ⟨fdy, Fy⟩ := fd_ _ (t.fd y hy)
      have oy := (t.ok y hy).b
      unfold Df.okB at oy
      simp only [Bool.and_eq_true, decide_eq_true_eq, List.isEmpty_iff] at oy
      obtain ⟨_, _, o3, o5, o6⟩ := oy
      have IH := lvl s X GN t fd_ j c f y ey fdy Fy
      have ea : He.fAd K y.d.at_ = if c == "" then gaS K f else maS K c f := by rw [o6]; exact key_addr hc hf
      have kp := Fy.kp
      rw [ea] at IH kp
      refine ⟨fdy, ⟨IH, kp, ar_callL ey _ _ o3⟩, ?_⟩
      refine ⟨(t.ok y hy).bind.k Fy, fun e h => ?_, fun h => h.k Fy⟩
      have e1 : y.d.dvs K = [] := by unfold He.DefD.dvs; rw [e]; rfl
      rw [e1] at Fy
      exact h.k Fy
    have glo : ∀ {z : String}, (He.Fa.glo (Str.ofString z)).ok K = true → mg (Str.ofString z) = some (.ref (gaS K z)) := fun q => He.glo_ok X GN q
    rw [hpl]
    refine fn_ok F S hpl rfl fun cdv A outer s1 H E hr => ?_
    have C : Cxt (cxOf (CX P w) P w K mg base x.N x.d.qual x.d.scope (He.fAd K x.d.at_) cdv A outer s1 H E) (gcK T K mg) (fun c d _ H' => E c d H') (glL tab (xnT T) j) (xnT T) T x.d.scope x.N none := {
      B := ⟨rfl, rfl, takes_of rfl rfl rfl rfl, by
        have := hr.un
        show (A.deeper _).units + 70 < cLine
        omega, fun _ => rfl, S.nd, fun _ => rfl⟩
      Fa := s.facts
      Fx := s.factsX
      hsc := rfl
      hN := rfl
      hsl := fun s e => by cases e
      free := fun z hz => He.free_ok X GN (s.free z hz)
      cls := fun c hc => ⟨_, own_at hc, glo (clsK_ok (s.cls c hc)).1⟩
      att := fun f hf => s.att hf
      cal := fun _ => {
        fns := fun f hf => by
          obtain ⟨y, ey⟩ := Option.isSome_iff_exists.mp (t.fns f hf)
          obtain ⟨fdy, q1, q2, _⟩ := cal ey
          exact ⟨_, fdy, _, _, q1, q2, glo (s.fns f hf), hr.mono (by omega)⟩
        pats := fun p hp => by
          obtain ⟨y, ey, pe, pd⟩ := t.pats p hp
          obtain ⟨fdy, q1, q2, q3, q4⟩ := cal ey
          exact ⟨_, fdy, _, _, q1, q3 pe pd, glo (s.pats p hp), hr.mono (by omega)⟩
        mts := fun p hp => by
          obtain ⟨h1, h2⟩ := t.mts p hp
          obtain ⟨y, ey⟩ := Option.isSome_iff_exists.mp h1
          obtain ⟨fdy, q1, q2, _⟩ := cal ey
          have hne : ¬ (p.1 == "") = true := by simpa using h2
          rw [if_neg hne] at q1
          obtain ⟨m1, m2⟩ := s.mts p hp
          have hc : p.1 ∈ T.cls := by simpa using m1
          exact ⟨_, _, fdy, _, _, own_at hc, (clsK_ok (s.cls _ hc)).2.1, He.meth_ok m2, q1, q2, hr.mono (by omega)⟩
        mks := fun c hc => by
          obtain ⟨h1, h2⟩ := t.mks c hc
          obtain ⟨y, ey⟩ := Option.isSome_iff_exists.mp h1
          obtain ⟨fdy, q1, q2, _⟩ := cal ey
          have hne : ¬ (c == "") = true := by simpa using h2
          rw [if_neg hne] at q1
          obtain ⟨m1, m2⟩ := s.mks c hc
          have hc : c ∈ T.cls := by simpa using m1
          exact ⟨_, _, fdy, _, _, own_at hc, He.mkr_ok m2, q1, q2, glo (clsK_ok (s.cls _ hc)).1, hr.mono (by omega)⟩
        mpats := fun p hp => by
          obtain ⟨y, ey, h2, pd, dd⟩ := t.mpats p hp
          obtain ⟨fdy, q1, q2, q3, q4⟩ := cal ey
          have hne : ¬ (p.1 == "") = true := by simpa using h2
          rw [if_neg hne] at q1
          obtain ⟨m1, m2⟩ := s.mpats p hp
          have hc : p.1 ∈ T.cls := by simpa using m1
          exact ⟨_, _, fdy, _, _, _, own_at hc, (clsK_ok (s.cls _ hc)).2.1, He.meth_ok m2, q1, q4 pd, fun rho F => dvsB_ok dd, hr.mono (by omega)⟩
        kpats := fun p hp => by
          obtain ⟨y, ey, h2, pd, dd⟩ := t.kpats p hp
          obtain ⟨fdy, q1, q2, q3, q4⟩ := cal ey
          have hne : ¬ (p.1 == "") = true := by simpa using h2
          rw [if_neg hne] at q1
          obtain ⟨m1, m2⟩ := s.kpats p hp
          have hc : p.1 ∈ T.cls := by simpa using m1
          exact ⟨_, _, fdy, _, _, _, own_at hc, He.mkr_ok m2, q1, q4 pd, fun rho F => dvsB_ok dd, glo (clsK_ok (s.cls _ hc)).1, hr.mono (by omega)⟩
        ops := fun {c d} hh => by
          have hh : hasT tab c d = true := hh
          unfold hasT at hh
          simp only [Bool.and_eq_true, Bool.not_eq_true'] at hh
          obtain ⟨h1, h2, h3⟩ := hh
          obtain ⟨y, ey⟩ := Option.isSome_iff_exists.mp h1
          obtain ⟨hy, hyc, hyf⟩ := look_of ey
          obtain ⟨fdy, q1, q2, _⟩ := cal ey
          have hne : ¬ (c == "") = true := by rw [h3]; exact Bool.false_ne_true
          rw [if_neg hne] at q1
          have hin := t.ops y hy (by rw [hyf]; exact h2) (by rw [hyc]; simpa using h3)
          rw [hyc, hyf] at hin
          obtain ⟨w1, w2⟩ := s.opk (mg := mg) hin
          exact ⟨_, _, fdy, _, _, w1, w2, q1, q2, hr.mono (by omega)⟩
        exs := fun p hp => by
          obtain ⟨r, er, xd, hxd, e1, e2, e3⟩ := t.ex p hp
          have q := exsK_ok (s.exs p hp)
          have rk := s.root r er
          have rg : (He.Fa.glo (Str.ofString r)).ok K = true := by
            unfold rootK at rk
            simp only [Bool.and_eq_true] at rk
            exact rk.1
          refine ⟨lookup_nd t.exn hp, _, exa_of hp, glo q.1, q.2.2.2.1.kC, ?_⟩
          obtain ⟨fdx, Fx⟩ := fd_ _ (t.fx xd hxd)
          have hob := e3.b
          unfold Xd.okB at hob
          simp only [Bool.and_eq_true, decide_eq_true_eq] at hob
          have ea : He.fAd K xd.d.at_ = maS K p.1 "__init__" := by
            rw [hob.1.2.2, e1]
            rfl
          rw [ea] at Fx
          rw [e2]
          have hno : ∀ fl ∈ xd.fls, PySem.W.findIn K (.ref (gaS K p.1)) (Str.ofString fl) = some none := fun fl h => q.2.2.1 fl (by rw [e2]; exact h)
          rcases xd_ok (P := P) (w := w) (base := base) (CXt := CX P w) e3 Fx rk (glo rg) q.2.2.2.1 hno with ⟨e, w1, w2, w3⟩ | ⟨fl, e, w1, w2, w3⟩
          · rw [e]
            exact ⟨_, fdx, _, q.2.2.2.1, q.2.2.2.2.1, q.2.2.2.2.2.1, w1, w2, w3⟩
          · rw [e]
            exact ⟨_, fdx, _, q.2.2.2.1, q.2.2.2.2.1, q.2.2.2.2.2.1, w1, w2, w3⟩
        room2 := hr.mono (by omega) }
      hnd := fun c hc => ⟨_, glo (s.hnd c hc), fun e => by
        obtain ⟨p, h1, rfl, rfl⟩ := exa_some e
        exact (exsK_ok (s.exs p h1)).2.2.2.2.2.2 c hc⟩
      gints := fun p hp => He.int_ok X GN (s.gints p hp)
      gstrs := fun p hp => He.str_ok X GN (s.gstrs p hp)
      exf := fun e => by cases e }
    exact chkSs_ok x.b C ⟨rfl, rfl, passes_of rfl, fun _ => rfl, by
      unfold Env.blockKind
      show (if x.d.scope.kind.isAnnotationScope then ScopeKind.function else x.d.scope.kind) = .function
      rw [S.kind]
      rfl⟩ o1
end
end IP

/-! IqC -/
set_option Elab.async false
set_option linter.all false
set_option maxRecDepth 100000
set_option maxHeartbeats 4000000
/-! IqC: a law's end. -/
namespace IP
open PySem L2 PyProof.Rows
theorem rds_int {G : GC} {rho : List Addr} {F : Hp} : ∀ ns : List Int, RDs G rho F (ns.map D.int) (ns.map V.int)
  | [] => .nil
  | i :: ns => .cons (.int i) (rds_int ns)
theorem walk_I {l : PySem.W.OpenLaw} {n n0 J : Nat} {q : Program} {loose : List Str} {XP : (Str → Option Value) → Heap → Prop} {d : DefRec} {T : Tb} {root : Option String} {tab : List Df} {xs : List Xd} {fn : List He.DefD} {x : Df} {f : String} {p : Str}
    (hn : l.most = some n) (hn2 : n ≤ sizeLine) (hdf : d.params.defaults = []) (hJ : J ≤ 100) (t : TabOk T root tab xs fn) (e : look tab "" f = some x) (hp : x.ps = [p]) (hd : d.name = Str.ofString f) (hf : f ∈ T.fns) (hdfl : x.d.dfl = [])
    (main : ∀ ns : List Int, ns.length ≤ n → (∀ z ∈ ns, Builtin.Int.intBits z ≤ 1048576) → ∃ m, callL tab (xnT T) J "" f [.scr (ns.map D.int)] [] = .ok (.bl true) m) :
    PySem.W.WalkO q loose XP (hookI n0 T root fn).says l.row.toRowW d [] (fun f vs => PySem.call f vs) := by
  refine Att.attach_callB hn hdf fun w s₀ s₁ mg mb fa o pm cd doc a vs ns G Y ho hd2 hcd hmg hobj hints hlen hbits hg => ?_
  obtain ⟨K, KX, c⟩ := Y
  obtain ⟨s, fd_⟩ := obsI_ok c
  obtain ⟨hx, e1, e2⟩ := look_of e
  obtain ⟨fd, F⟩ := fd_ _ (t.fd x hx)
  have ok := (t.ok x hx).b
  unfold Df.okB at ok
  simp only [Bool.and_eq_true, decide_eq_true_eq, List.isEmpty_iff] at ok
  obtain ⟨o1, o2, o3, o5, o6⟩ := ok
  have ea : He.fAd K x.d.at_ = gaS K f := by
    rw [o6, key_addr e1 e2]
    rfl
  have hfa : fa = gaS K f := by
    have q := He.glo_ok KX G.T.g (s.fns f hf)
    rw [hd] at hmg
    have z := hmg.symm.trans q
    exact (Value.ref.injEq _ _).mp (Option.some.inj z)
  subst hfa
  have edv : x.d.dvs K = [] := by unfold He.DefD.dvs; rw [hdfl]; rfl
  have hb : ∀ (s : Shared) (u : Value), BindsTo s fd ⟨[u], []⟩ [(p, u)] := fun s u => by
    have F' := F
    rw [edv] at F'
    have bd : BindD x.d x.ps := by
      cases (t.ok x hx).bind with
      | no _ h => exact h
      | yes e _ => exact absurd hdfl e
    have := F'.bindsA bd s [u] (by rw [hp]; rfl)
    rw [hp] at this
    exact this
  refine law_call (sp := spI (gcK T K mg) x.ps.length (callL tab (xnT T) J "" f)) (x := p) (CX := CX l.prog w) (k := 2 * J + 1) (P := l.prog) (w := w) KX G.T.g G.T.b G.T.builtins G.T.nolimit hg hobj hints (Nat.le_trans hlen hn2) ⟨rfl, by
    have h1 : callerA.depth + 650 < recursionLimit := by decide
    omega, by
    have h1 : callerA.units + 5200 < cLine := by decide
    omega⟩ (fun base hKb hB => ?_) hb (fun H hO hS => ?_) fun H e s' z => cx_false z
  · have := lvl (P := l.prog) (w := w) (base := base) s KX G.T.g t fd_ J "" f x e fd F
    rw [ea, hp] at this
    rw [hp]
    exact this
  · obtain ⟨m, hm⟩ := main ns hlen hbits
    have key : ∀ {D0 : D}, D0 = .scr (ns.map D.int) → RD (gcK T K mg) [] H D0 (.ref a) → spI (gcK T K mg) x.ps.length (callL tab (xnT T) J "" f) [.ref a] H (fun v _ => v = .bl true) fun _ _ _ => False := fun {D0} e0 hD => by
      subst e0
      refine ⟨H, [], [], [.scr (ns.map D.int)], ⟨⟨fun h => .inl h⟩, rfl, List.nodup_nil, fun n a c h => by simp at h, fun n a c h => by simp at h⟩, .cons hD .nil, by rw [hp]; rfl, ?_⟩
      rw [hm]
      intro v H' F' rho' x' r' rr
      cases rr
      rfl
    rcases hS with (hS | ⟨ob, hS⟩) | hS
    · rcases hO a with z | ⟨_, _, z⟩
      · rw [hS] at z; cases z
      · rw [hS] at z; cases z
    · exact key rfl (.scr hS (rds_int ns))
    · exact key rfl (.scrK (fun H' => .inr hS) (rds_int ns))
end IP

/-! IqD -/
set_option Elab.async false
set_option linter.all false
set_option maxRecDepth 100000
set_option maxHeartbeats 4000000
/-! IqD: my own rules of turning: the interpreter by simp; == and in of plain data. -/
namespace IP
open PySem L2

/-! ### only what is evaluated is looked at: what follows hides in an instance -/
class KR (a b : Type) where
  f : a → Mem → Res b
class KG (a : Type) where
  f : a → Mem → Rs
class KS where
  f : Ev → Mem → Rs
def bindK {a b : Type} (r : Res a) [k : KR a b] : Res b := r.bind k.f
def goK {a : Type} (r : Res a) (e : Ev) [k : KG a] : Rs := r.go e k.f
def seqK (r : Rs) [k : KS] : Rs := r.seq k.f
section
variable {a b : Type} {x : a} {e : Ev} {m : Mem} {z : Exc} {d : D}
@[simp] theorem bindK_ok {k : KR a b} : @bindK a b (.ok x m) k = k.f x m := Eq.trans rfl rfl
@[simp] theorem bindK_ex {k : KR a b} : @bindK a b (.ex z m) k = .ex z m := Eq.trans rfl rfl
@[simp] theorem bindK_no {k : KR a b} : @bindK a b .no k = .no := Eq.trans rfl rfl
@[simp] theorem goK_ok {k : KG a} : @goK a (.ok x m) e k = k.f x m := Eq.trans rfl rfl
@[simp] theorem goK_ex {k : KG a} : @goK a (.ex z m) e k = .ex z e m := Eq.trans rfl rfl
@[simp] theorem goK_no {k : KG a} : @goK a .no e k = .no := Eq.trans rfl rfl
@[simp] theorem seqK_nx {k : KS} : @seqK (.nx e m) k = k.f e m := Eq.trans rfl rfl
@[simp] theorem seqK_rt {k : KS} : @seqK (.rt d m) k = .rt d m := Eq.trans rfl rfl
@[simp] theorem seqK_bk {k : KS} : @seqK (.bk e m) k = .bk e m := Eq.trans rfl rfl
@[simp] theorem seqK_ct {k : KS} : @seqK (.ct e m) k = .ct e m := Eq.trans rfl rfl
@[simp] theorem seqK_ex {k : KS} : @seqK (.ex z e m) k = .ex z e m := Eq.trans rfl rfl
@[simp] theorem seqK_no {k : KS} : @seqK .no k = .no := Eq.trans rfl rfl
@[simp ↓] theorem bind_K {r : Res a} {f : a → Mem → Res b} : r.bind f = @bindK a b r ⟨f⟩ := Eq.trans rfl rfl
@[simp ↓] theorem go_K {r : Res a} {f : a → Mem → Rs} : r.go e f = @goK a r e ⟨f⟩ := Eq.trans rfl rfl
@[simp ↓] theorem seq_K {r : Rs} {f : Ev → Mem → Rs} : r.seq f = @seqK r ⟨f⟩ := Eq.trans rfl rfl
end

/-- what is walked -/
noncomputable def cW (w : Wl) (f : D → Mem → Res (List D)) (m : Mem) : Res (List D) := compW w f w.xs m
noncomputable def fW (w : Wl) (f : D → Ev → Mem → Rs) (e : Ev) (m : Mem) : Rs := forW w f w.xs e m
def enW (w : Wl) : Wl := ⟨w.xs.zipIdx.map fun p => .tup [.int (p.2 : Int), p.1], w.ws⟩
def zpW (w z : Wl) : Wl := ⟨List.zipWith (fun p q => .tup [p, q]) w.xs z.xs, w.ws ++ z.ws⟩
/-- over a cell -/
def Wl.at (n : Nat) (xs : List D) : Wl := ⟨xs, [(n, .lst xs)]⟩
@[simp] theorem cW_of {xs : List D} {f : D → Mem → Res (List D)} {m : Mem} : cW (.of xs) f m = compL f xs m := compW_nil xs m
@[simp] theorem fW_of {xs : List D} {f : D → Ev → Mem → Rs} {e : Ev} {m : Mem} : fW (.of xs) f e m = forL f xs e m := forW_nil xs e m
@[simp] theorem enW_of {xs : List D} : enW (.of xs) = .of (xs.zipIdx.map fun p => .tup [.int (p.2 : Int), p.1]) := Eq.trans rfl rfl
@[simp] theorem zpW_of {xs ys : List D} : zpW (.of xs) (.of ys) = .of (List.zipWith (fun p q => .tup [p, q]) xs ys) := Eq.trans rfl rfl
theorem compW_same {w : Wl} {f : D → Mem → Res (List D)} {m : Mem} (hw : w.ok m) : ∀ {ds : List D}, (∀ d ∈ ds, ∃ y, f d m = .ok y m) → compW w f ds m = compL f ds m
  | [], _ => by rw [compW, compL, Wl.gd_pos hw]
  | d :: ds, h => by
    obtain ⟨y, hy⟩ := h d List.mem_cons_self
    rw [compW, compL, Wl.gd_pos hw, hy]
    dsimp only
    rw [compW_same hw fun d hd => h d (List.mem_cons_of_mem _ hd)]
theorem forW_inv {w : Wl} {f : D → Ev → Mem → Rs} (I : Mem → Prop) (hw : ∀ m, I m → w.ok m) : ∀ {ds : List D} {e : Ev} {m : Mem}, (∀ d ∈ ds, ∀ e m e1 m1, I m → (f d e m = .nx e1 m1 ∨ f d e m = .ct e1 m1) → I m1) → I m → forW w f ds e m = forL f ds e m
  | [], e, m, _, hm => by rw [forW, forL, Wl.gd_pos (hw m hm)]
  | d :: ds, e, m, h, hm => by
    have hh := h d List.mem_cons_self e m
    rw [forW, forL, Wl.gd_pos (hw m hm)]
    cases q : f d e m with
    | nx e1 m1 => exact forW_inv I hw (fun d hd => h d (List.mem_cons_of_mem _ hd)) (hh e1 m1 hm (.inl q))
    | ct e1 m1 => exact forW_inv I hw (fun d hd => h d (List.mem_cons_of_mem _ hd)) (hh e1 m1 hm (.inr q))
    | _ => rfl
theorem ok_at {n : Nat} {xs : List D} {m : Mem} (h : m[n]? = some (.lst xs)) : (Wl.at n xs).ok m := ok_one h
theorem cW_at {n : Nat} {xs : List D} {f : D → Mem → Res (List D)} {m : Mem} (h : m[n]? = some (.lst xs)) (hf : ∀ d ∈ xs, ∃ y, f d m = .ok y m) : cW (.at n xs) f m = compL f xs m := compW_same (ok_at h) hf
theorem fW_at {n : Nat} {xs : List D} {f : D → Ev → Mem → Rs} {e : Ev} {m : Mem} (I : Mem → Prop) (hw : ∀ m, I m → m[n]? = some (.lst xs)) (hf : ∀ d ∈ xs, ∀ e m e1 m1, I m → (f d e m = .nx e1 m1 ∨ f d e m = .ct e1 m1) → I m1) (hm : I m) : fW (.at n xs) f e m = forL f xs e m :=
  forW_inv I (fun m h => ok_at (hw m h)) hf hm

/-- a comprehension's turn -/
noncomputable def cmpB (g : Gl) (elt : E) (tg : Tg) (cnd : Oe) (own : List Nat) (e : Ev) : D → Mem → Res (List D) := fun d m2 => match bindT tg d (wipeE e own) with
        | some e1 => (evO g cnd e1 m2).bind fun b m3 => (match b with
          | true => (ev g elt e1 m3).bind fun y m4 => .ok [y] m4
          | false => .ok [] m3)
        | none => .no
/-- the inner turn -/
noncomputable def cmpI (g : Gl) (elt : E) (tg2 : Tg) (cnd : Oe) (e1 : Ev) : D → Mem → Res (List D) := fun d2 m4 => match bindT tg2 d2 (wipeE e1 (tgL tg2)) with
          | some e2 => (evO g cnd e2 m4).bind fun b m5 => (match b with
            | true => (ev g elt e2 m5).bind fun y m6 => .ok [y] m6
            | false => .ok [] m5)
          | none => .no
noncomputable def cmpC (g : Gl) (elt : E) (tg : Tg) (tg2 : Tg) (it2 : It) (cnd : Oe) (own : List Nat) (e : Ev) : D → Mem → Res (List D) := fun d m2 => match bindT tg d (wipeE e own) with
        | some e1 => (evIt g it2 e1 m2).bind fun zs m3 => cW zs (cmpI g elt tg2 cnd e1) m3
        | none => .no
noncomputable def forB (g : Gl) (xn : String → Option (List String)) (tg : Tg) (b : Ss) : D → Ev → Mem → Rs := fun d e1 m2 => match bindT tg d e1 with
    | some e2 => evSs g xn b e2 m2
    | none => .no
section
variable {g : Gl} {e : Ev} {m : Mem} {xn : String → Option (List String)}
@[simp ↓] theorem r_ev_loc {i : Nat} : ev g (.loc i) e m = match e[i]? with | some (some d) => .ok d m | _ => .no := by rw [ev] <;> rfl
@[simp ↓] theorem r_ev_con {d : D} : ev g (.con d) e m = .ok d m := by rw [ev] <;> rfl
@[simp ↓] theorem r_ev_gcon {x : String} {d : D} : ev g (.gcon x d) e m = .ok d m := by rw [ev] <;> rfl
@[simp ↓] theorem r_ev_bin {op : Operator} {a b : E} : ev g (.bin op a b) e m = (ev g a e m).bind fun x m1 => (ev g b e m1).bind fun y m2 => binG g op x y m2 := by rw [ev] <;> rfl
@[simp ↓] theorem r_ev_neg {a : E} : ev g (.neg a) e m = (ev g a e m).bind fun x m1 => (match vw m1 x with
    | .int i => .ok (.int (-i)) m1
    | .ins c _ => if g.has c "__neg__" && g.cur.isNone then g.call c "__neg__" [x] m1 else .no
    | _ => .no) := by rw [ev] <;> rfl
@[simp ↓] theorem r_ev_nt {a : E} : ev g (.nt a) e m = (ev g a e m).bind fun x m1 => opt ((truth (vw m1 x)).map fun b => .bl (!b)) m1 := by rw [ev] <;> rfl
@[simp ↓] theorem r_ev_an {a b : E} : ev g (.an a b) e m = (ev g a e m).bind fun x m1 => (match x with
    | .bl true => ev g b e m1
    | .bl false => .ok (.bl false) m1
    | _ => .no) := by rw [ev] <;> rfl
@[simp ↓] theorem r_ev_orr {a b : E} : ev g (.orr a b) e m = (ev g a e m).bind fun x m1 => (match x with
    | .bl true => .ok (.bl true) m1
    | .bl false => ev g b e m1
    | _ => .no) := by rw [ev] <;> rfl
@[simp ↓] theorem r_ev_cmp {op : CmpOp} {a b : E} : ev g (.cmp op a b) e m = (ev g a e m).bind fun x m1 => (ev g b e m1).bind fun y m2 => (cmpG g op x y m2).bind fun b m3 => .ok (.bl b) m3 := by rw [ev] <;> rfl
@[simp ↓] theorem r_ev_cmp2 {op1 op2 : CmpOp} {a b c : E} : ev g (.cmp2 op1 op2 a b c) e m = (ev g a e m).bind fun x m1 => (ev g b e m1).bind fun y m2 => (cmpG g op1 x y m2).bind fun r m3 => (match r with
    | true => (ev g c e m3).bind fun z m4 => (cmpG g op2 y z m4).bind fun b m5 => .ok (.bl b) m5
    | false => .ok (.bl false) m3) := by rw [ev] <;> rfl
@[simp ↓] theorem r_ev_ife {c a b : E} : ev g (.ife c a b) e m = (evT g c e m).bind fun t m1 => (match t with
    | true => ev g a e m1
    | false => ev g b e m1) := by rw [ev] <;> rfl
@[simp ↓] theorem r_ev_tup {es : Es} : ev g (.tup es) e m = (evs g es e m).bind fun xs m1 => if lenOk xs.length then .ok (.tup xs) m1 else .no := by rw [ev] <;> rfl
@[simp ↓] theorem r_ev_lst {mu : Bool} {es : Es} : ev g (.lst mu es) e m = (evs g es e m).bind fun xs m1 => newL mu xs m1 := by rw [ev] <;> rfl
@[simp ↓] theorem r_ev_dic {mu : Bool} {q : DK} {kvs : Kv} : ev g (.dic q mu kvs) e m = (match q with
    | .k => if mu then (evK g kvs e (m ++ [.dic .k []])).bind fun ps m1 => (match m1[m.length]? with
      | some (.dic .k []) => if decide (ps.length ≤ 15) && keysOk ps then .ok (.ref m.length) (m1.set m.length (.dic .k ps)) else .no
      | _ => .no) else .no
    | .t => if mu then (match kvs.isNil with
      | true => .ok (.ref m.length) (m ++ [.dic .t []])
      | false => (evK g kvs e (m ++ [.dic .t []])).bind fun ps m1 => (match m1[m.length]?, ps with
        | some (.dic .t []), [p] => if (keyT p.1).isSome then .ok (.ref m.length) (m1.set m.length (.dic .t [p])) else .no
        | _, _ => .no)) else .no) := by rw [ev.eq_def] <;> rfl
@[simp ↓] theorem r_cmpB {elt : E} {tg : Tg} {cnd : Oe} {own : List Nat} {d : D} {m2 : Mem} : cmpB g elt tg cnd own e d m2 = match bindT tg d (wipeE e own) with
        | some e1 => (evO g cnd e1 m2).bind fun b m3 => (match b with
          | true => (ev g elt e1 m3).bind fun y m4 => .ok [y] m4
          | false => .ok [] m3)
        | none => .no := Eq.trans rfl rfl
@[simp ↓] theorem r_cmpI {elt : E} {tg2 : Tg} {cnd : Oe} {d2 : D} {m4 : Mem} : cmpI g elt tg2 cnd e d2 m4 = match bindT tg2 d2 (wipeE e (tgL tg2)) with
          | some e2 => (evO g cnd e2 m4).bind fun b m5 => (match b with
            | true => (ev g elt e2 m5).bind fun y m6 => .ok [y] m6
            | false => .ok [] m5)
          | none => .no := Eq.trans rfl rfl
@[simp ↓] theorem r_cmpC {elt : E} {tg tg2 : Tg} {it2 : It} {cnd : Oe} {own : List Nat} {d : D} {m2 : Mem} : cmpC g elt tg tg2 it2 cnd own e d m2 = match bindT tg d (wipeE e own) with
        | some e1 => (evIt g it2 e1 m2).bind fun zs m3 => cW zs (cmpI g elt tg2 cnd e1) m3
        | none => .no := Eq.trans rfl rfl
@[simp ↓] theorem r_forB {tg : Tg} {b : Ss} {d : D} : forB g xn tg b d e m = match bindT tg d e with
    | some e2 => evSs g xn b e2 m
    | none => .no := Eq.trans rfl rfl
@[simp ↓] theorem r_ev_comp {mu : Bool} {elt : E} {tg : Tg} {it : It} {cnd : Oe} {own : List Nat} (hc : g.cur = none) : ev g (.comp mu elt tg it cnd own) e m = (evIt g it e m).bind fun xs m1 =>
      (cW xs (cmpB g elt tg cnd own e) m1).bind fun ys m2 => newL mu ys m2 := by
  rw [ev, hc] <;> rfl
@[simp ↓] theorem r_ev_comp2 {mu : Bool} {elt : E} {tg : Tg} {it : It} {tg2 : Tg} {it2 : It} {cnd : Oe} {own : List Nat} (hc : g.cur = none) : ev g (.comp2 mu elt tg it tg2 it2 cnd own) e m = (evIt g it e m).bind fun xs m1 =>
      (cW xs (cmpC g elt tg tg2 it2 cnd own e) m1).bind fun ys m2 => newL mu ys m2 := by
  rw [ev, hc] <;> rfl
@[simp ↓] theorem r_ev_sub {a i : E} : ev g (.sub a i) e m = (ev g a e m).bind fun x m1 => (ev g i e m1).bind fun y m2 => opt (subP (vw m2 x) y) m2 := by rw [ev] <;> rfl
@[simp ↓] theorem r_ev_slc {a : E} {lo hi : Oe} : ev g (.slc a lo hi) e m = (ev g a e m).bind fun x m1 => (evI g lo e m1).bind fun l m2 => (evI g hi e m2).bind fun h m3 => opt (slcP (vw m3 x) l h) m3 := by rw [ev] <;> rfl
@[simp ↓] theorem r_ev_rev {a : E} : ev g (.rev a) e m = (ev g a e m).bind fun x m1 => (match vw m1 x with
    | .lst xs => .ok (.lst xs.reverse) m1
    | _ => .no) := by rw [ev] <;> rfl
@[simp ↓] theorem r_ev_att {a : E} {f : String} : ev g (.att a f) e m = (ev g a e m).bind fun x m1 => opt (attG x f m1) m1 := by rw [ev] <;> rfl
@[simp ↓] theorem r_ev_exf {f : String} {x : Exc} (hc : g.cur = some x) : ev g (.exf f) e m = opt (x.fs.lookup f) m := by rw [ev, hc]
@[simp ↓] theorem r_ev_call {c f : String} {es : Es} {ar : List Nat} {dv : List D} (hc : g.cur = none) : ev g (.call c f es ar dv) e m = (evs g es e m).bind fun vs m1 => (match arr ar (vs ++ dv) with
    | some as => g.call c f as m1
    | none => .no) := by rw [ev, hc] <;> rfl
@[simp ↓] theorem r_ev_meth {c f : String} {o : E} {es : Es} {ar : List Nat} {dv : List D} (hc : g.cur = none) : ev g (.meth c f o es ar dv) e m = (ev g o e m).bind fun x m1 => (match vw m1 x with
    | .ins c' fs => if c' == c && (fs.lookup f).isNone then (evs g es e m1).bind fun vs m2 => (match arr ar (vs ++ dv) with
      | some as => g.call c f (x :: as) m2
      | none => .no) else .no
    | _ => .no) := by rw [ev, hc] <;> rfl
@[simp ↓] theorem r_ev_make {mu : Bool} {c : String} {es : Es} {ar : List Nat} {dv : List D} (hc : g.cur = none) : ev g (.make mu c es ar dv) e m = (evs g es e m).bind fun vs m1 => (match arr ar (vs ++ dv) with
    | some as => makeG g mu c as m1
    | none => .no) := by rw [ev, hc] <;> rfl
@[simp ↓] theorem r_ev_bi {b : Bi} {es : Es} (hc : g.cur = none) : ev g (.bi b es) e m = (evs g es e m).bind fun vs m1 => biP g b vs m1 := by rw [ev, hc] <;> rfl
@[simp ↓] theorem r_ev_seq {t : Sq} {a : E} (hc : g.cur = none) : ev g (.seq t a) e m = (ev g a e m).bind fun x m1 => sqP t (vw m1 x) m1 := by rw [ev, hc] <;> rfl
@[simp ↓] theorem r_ev_bm {b : Bm} {o a : E} : ev g (.bm b o a) e m = (ev g o e m).bind fun x m1 => (match x with
    | .str z => (ev g a e m1).bind fun y m2 => bmP b z y m2
    | _ => .no) := by rw [ev] <;> rfl
@[simp ↓] theorem r_ev_isi {a : E} {ts : List Ty} : ev g (.isi a ts) e m = (ev g a e m).bind fun x m1 => opt ((isAny m1 x ts).map .bl) m1 := by rw [ev] <;> rfl
@[simp ↓] theorem r_ev_dup {a k v : E} : ev g (.dup a k v) e m = (ev g a e (m ++ [.dic .k []])).bind fun x m1 => (match vw m1 x, m1[m.length]? with
    | .dic .k kvs, some (.dic .k []) => if decide (kvs.length < sizeLine) && nrfD m.length x then (ev g k e (m1.set m.length (.dic .k kvs))).bind fun y m2 => (ev g v e m2).bind fun z m3 => (match m3[m.length]? with
      | some (.dic .k ws) => if decide (ws.length < sizeLine) then (match putP .k ws y z with
        | some ws' => .ok (.ref m.length) (m3.set m.length (.dic .k ws'))
        | none => .no) else .no
      | _ => .no) else .no
    | _, _ => .no) := by rw [ev.eq_def] <;> rfl
@[simp ↓] theorem r_ev_frz {a : E} : ev g (.frz a) e m = (ev g a e m).bind fun x m1 => frzD m.length x m1 := by rw [ev] <;> rfl
@[simp ↓] theorem r_evs_nil : evs g .nil e m = .ok [] m := by rw [evs] <;> rfl
@[simp ↓] theorem r_evs_one {a : E} {r : Es} : evs g (.one a r) e m = (ev g a e m).bind fun x m1 => (evs g r e m1).bind fun xs m2 => .ok (x :: xs) m2 := by rw [evs] <;> rfl
@[simp ↓] theorem r_evs_star {a : E} {r : Es} : evs g (.star a r) e m = (ev g a e m).bind fun x m1 => (match vw m1 x with
    | .lst ys => (evs g r e m1).bind fun xs m2 => .ok (ys ++ xs) m2
    | .tup ys => (evs g r e m1).bind fun xs m2 => .ok (ys ++ xs) m2
    | _ => .no) := by rw [evs] <;> rfl
@[simp ↓] theorem r_evK_nil : evK g .nil e m = .ok [] m := by rw [evK] <;> rfl
@[simp ↓] theorem r_evK_cons {k v : E} {r : Kv} : evK g (.cons k v r) e m = (ev g k e m).bind fun x m1 => (ev g v e m1).bind fun y m2 => (evK g r e m2).bind fun ps m3 => .ok ((x, y) :: ps) m3 := by rw [evK] <;> rfl
@[simp ↓] theorem r_evT_nt {a : E} : evT g (.nt a) e m = (evT g a e m).bind fun b m1 => .ok (!b) m1 := by rw [evT] <;> rfl
@[simp ↓] theorem r_evT_an {a b : E} : evT g (.an a b) e m = (evT g a e m).bind fun t m1 => (match t with
    | true => evT g b e m1
    | false => .ok false m1) := by rw [evT] <;> rfl
@[simp ↓] theorem r_evT_orr {a b : E} : evT g (.orr a b) e m = (evT g a e m).bind fun t m1 => (match t with
    | true => .ok true m1
    | false => evT g b e m1) := by rw [evT] <;> rfl
@[simp ↓] theorem r_evT_cmp {op : CmpOp} {a b : E} : evT g (.cmp op a b) e m = (ev g a e m).bind fun x m1 => (ev g b e m1).bind fun y m2 => cmpG g op x y m2 := by
  rw [evT]
  · rw [r_ev_cmp]
    cases ev g a e m with
    | ok x m1 =>
      dsimp only [Res.bind]
      cases ev g b e m1 with
      | ok y m2 =>
        dsimp only [Res.bind]
        cases cmpG g op x y m2 <;> rfl
      | _ => rfl
    | _ => rfl
  · intro x h; cases h
  · intro x y h; cases h
  · intro x y h; cases h
@[simp ↓] theorem r_evT_cmp2 {op1 op2 : CmpOp} {a b c : E} : evT g (.cmp2 op1 op2 a b c) e m = (ev g (.cmp2 op1 op2 a b c) e m).bind fun x m1 => opt (truth (vw m1 x)) m1 := by
  rw [evT] <;> intros <;> rename_i h <;> cases h
@[simp ↓] theorem r_evT_isi {a : E} {ts : List Ty} : evT g (.isi a ts) e m = (ev g (.isi a ts) e m).bind fun x m1 => opt (truth (vw m1 x)) m1 := by
  rw [evT] <;> intros <;> rename_i h <;> cases h
@[simp ↓] theorem r_evT_seq {t : Sq} {a : E} : evT g (.seq t a) e m = (ev g (.seq t a) e m).bind fun x m1 => opt (truth (vw m1 x)) m1 := by
  rw [evT] <;> intros <;> rename_i h <;> cases h
@[simp ↓] theorem r_evT_call {c f : String} {es : Es} {ar : List Nat} {dv : List D} : evT g (.call c f es ar dv) e m = (ev g (.call c f es ar dv) e m).bind fun x m1 => opt (truth (vw m1 x)) m1 := by
  rw [evT] <;> intros <;> rename_i h <;> cases h
@[simp ↓] theorem r_evT_meth {c f : String} {o : E} {es : Es} {ar : List Nat} {dv : List D} : evT g (.meth c f o es ar dv) e m = (ev g (.meth c f o es ar dv) e m).bind fun x m1 => opt (truth (vw m1 x)) m1 := by
  rw [evT] <;> intros <;> rename_i h <;> cases h
@[simp ↓] theorem r_evT_loc {i : Nat} : evT g (.loc i) e m = (ev g (.loc i) e m).bind fun x m1 => opt (truth (vw m1 x)) m1 := by
  rw [evT] <;> intros <;> rename_i h <;> cases h
@[simp ↓] theorem r_evT_con {d : D} : evT g (.con d) e m = (ev g (.con d) e m).bind fun x m1 => opt (truth (vw m1 x)) m1 := by
  rw [evT] <;> intros <;> rename_i h <;> cases h
@[simp ↓] theorem r_evO_non : evO g .non e m = .ok true m := by rw [evO] <;> rfl
@[simp ↓] theorem r_evO_som {a : E} : evO g (.som a) e m = evT g a e m := by rw [evO] <;> rfl
@[simp ↓] theorem r_evI_non : evI g .non e m = .ok none m := by rw [evI] <;> rfl
@[simp ↓] theorem r_evI_som {a : E} : evI g (.som a) e m = (ev g a e m).bind fun x m1 => (match x with
    | .int i => .ok (some i) m1
    | _ => .no) := by rw [evI] <;> rfl
@[simp ↓] theorem r_evIt_seq {a : E} : evIt g (.seq a) e m = (ev g a e m).bind fun x m1 => opt (walkP m1 x) m1 := by rw [evIt] <;> rfl
@[simp ↓] theorem r_evIt_rng1 {a : E} : evIt g (.rng1 a) e m = (ev g a e m).bind fun x m1 => (match x with
    | .int j => if rngOk j then .ok (.of (rng 0 j.toNat)) m1 else .no
    | _ => .no) := by rw [evIt] <;> rfl
@[simp ↓] theorem r_evIt_rng2 {a b : E} : evIt g (.rng2 a b) e m = (ev g a e m).bind fun x m1 => (ev g b e m1).bind fun y m2 => (match x, y with
    | .int i, .int j => if rngOk i && rngOk j then .ok (.of (rng i (j - i).toNat)) m2 else .no
    | _, _ => .no) := by rw [evIt] <;> rfl
@[simp ↓] theorem r_evIt_enum {a : E} : evIt g (.enum a) e m = (ev g a e m).bind fun x m1 => opt ((seqP m1 x).map enW) m1 := by rw [evIt] <;> rfl
@[simp ↓] theorem r_evIt_zip {a b : E} : evIt g (.zip a b) e m = (ev g a e m).bind fun x m1 => (ev g b e m1).bind fun y m2 => (match seqP m2 x, seqP m2 y with
    | some w, some z => .ok (zpW w z) m2
    | _, _ => .no) := by rw [evIt] <;> rfl
/-! ### statements -/
@[simp ↓] theorem r_evS_expr {a : E} : evS g xn (.expr a) e m = (ev g a e m).go e fun _ m1 => .nx e m1 := by rw [evS] <;> rfl
@[simp ↓] theorem r_evS_set {i : Nat} {a : E} : evS g xn (.set i a) e m = (ev g a e m).go e fun x m1 => .nx (e.set i (some x)) m1 := by rw [evS] <;> rfl
@[simp ↓] theorem r_evS_unp {is : List Nat} {a : E} (hc : g.cur = none) : evS g xn (.unp is a) e m = (ev g a e m).go e fun x m1 => (match bindT (.many is) x e with
    | some e1 => .nx e1 m1
    | none => .no) := by rw [evS, hc] <;> rfl
@[simp ↓] theorem r_evS_par {i j : Nat} {a b : E} (hc : g.cur = none) : evS g xn (.par i j a b) e m = (ev g a e m).go e fun x m1 => (ev g b e m1).go e fun y m2 => .nx ((e.set i (some x)).set j (some y)) m2 := by rw [evS, hc] <;> rfl
@[simp ↓] theorem r_evS_fld {o : E} {f : String} {a : E} : evS g xn (.fld o f a) e m = (ev g a e m).go e fun x m1 => (ev g o e m1).go e fun y m2 => (match y with
    | .ref n => (match m2[n]? with
      | some (.ins c fs) => if decide (fs.length < 1000) then .nx e (m2.set n (.ins c (putD f x fs))) else .no
      | _ => .no)
    | _ => .no) := by rw [evS] <;> rfl
@[simp ↓] theorem r_evS_sub {o i a : E} : evS g xn (.sub o i a) e m = (ev g a e m).go e fun x m1 => (ev g o e m1).go e fun y m2 => (ev g i e m2).go e fun z m3 => (match y with
    | .ref n => (match m3[n]?, z with
      | some (.lst xs), .int k => (match ixN xs.length k with
        | some j => .nx e (m3.set n (.lst (xs.set j x)))
        | none => .no)
      | some (.dic q kvs), z => if decide (kvs.length < sizeLine) then (match putP q kvs z x with
        | some kvs' => .nx e (m3.set n (.dic q kvs'))
        | none => .no) else .no
      | _, _ => .no)
    | _ => .no) := by rw [evS] <;> rfl
@[simp ↓] theorem r_evS_clr {o : E} : evS g xn (.clr o) e m = (ev g o e m).go e fun y m1 => (match y with
    | .ref n => (match m1[n]? with
      | some (.lst _) => .nx e (m1.set n (.lst []))
      | _ => .no)
    | _ => .no) := by rw [evS] <;> rfl
@[simp ↓] theorem r_evS_app {o a : E} : evS g xn (.app o a) e m = (ev g o e m).go e fun y m1 => (match y with
    | .ref n => if isL m1[n]? then (ev g a e m1).go e fun x m2 => (match m2[n]? with
      | some (.lst xs) => if decide (xs.length < sizeLine) then .nx e (m2.set n (.lst (xs ++ [x]))) else .no
      | _ => .no) else .no
    | _ => .no) := by rw [evS] <;> rfl
@[simp ↓] theorem r_evS_ifs {c : E} {t u : Ss} : evS g xn (.ifs c t u) e m = (evT g c e m).go e fun b m1 => (match b with
    | true => evSs g xn t e m1
    | false => evSs g xn u e m1) := by rw [evS] <;> rfl
@[simp ↓] theorem r_evS_for {tg : Tg} {it : It} {b : Ss} (hc : g.cur = none) : evS g xn (.for_ tg it b) e m = (evIt g it e m).go e fun xs m1 => fW xs (forB g xn tg b) e m1 := by rw [evS, hc] <;> rfl
@[simp ↓] theorem r_evS_wh {c : E} {b : Ss} : evS g xn (.wh c b) e m = whL (evT g c) (evSs g xn b) e m := by rw [evS] <;> rfl
@[simp ↓] theorem r_evS_ret {a : E} : evS g xn (.ret a) e m = (ev g a e m).go e fun x m1 => .rt x m1 := by rw [evS] <;> rfl
@[simp ↓] theorem r_evS_ret0 : evS g xn .ret0 e m = .rt .non m := by rw [evS] <;> rfl
@[simp ↓] theorem r_evS_rais {c : String} {es : Es} (hc : g.cur = none) : evS g xn (.rais c es) e m = (evs g es e m).go e fun vs m1 => (match xn c with
    | some ns => if decide (vs.length = ns.length) then .ex ⟨c, ns.zip vs⟩ e m1 else .no
    | none => .no) := by rw [evS, hc] <;> rfl
/-- behind a try's body -/
noncomputable def tryE (g : Gl) (xn : String → Option (List String)) (hs : Hs) (r : Rs) : Rs := match r with
    | .ex x e1 m1 => if xn x.cls = some (x.fs.map (·.1)) then evH g xn hs x e1 m1 else .no
    | r => r
@[simp] theorem tryE_ex {hs : Hs} {x : Exc} : tryE g xn hs (.ex x e m) = if xn x.cls = some (x.fs.map (·.1)) then evH g xn hs x e m else .no := Eq.trans rfl rfl
@[simp] theorem tryE_nx {hs : Hs} : tryE g xn hs (.nx e m) = .nx e m := Eq.trans rfl rfl
@[simp] theorem tryE_rt {hs : Hs} {d : D} : tryE g xn hs (.rt d m) = .rt d m := Eq.trans rfl rfl
@[simp] theorem tryE_bk {hs : Hs} : tryE g xn hs (.bk e m) = .bk e m := Eq.trans rfl rfl
@[simp] theorem tryE_ct {hs : Hs} : tryE g xn hs (.ct e m) = .ct e m := Eq.trans rfl rfl
@[simp ↓] theorem r_evS_try {b : Ss} {hs : Hs} (hc : g.cur = none) : evS g xn (.try_ b hs) e m = tryE g xn hs (evSs g xn b e m) := by rw [evS, hc] <;> rfl
@[simp ↓] theorem r_evS_pass : evS g xn .pass e m = .nx e m := by rw [evS] <;> rfl
@[simp ↓] theorem r_evS_brk : evS g xn .brk e m = .bk e m := by rw [evS] <;> rfl
@[simp ↓] theorem r_evS_cnt : evS g xn .cnt e m = .ct e m := by rw [evS] <;> rfl
@[simp ↓] theorem r_evSs_nil : evSs g xn .nil e m = .nx e m := by rw [evSs] <;> rfl
@[simp ↓] theorem r_evSs_cons {s : S} {r : Ss} : evSs g xn (.cons s r) e m = (evS g xn s e m).seq fun e1 m1 => evSs g xn r e1 m1 := by rw [evSs] <;> rfl
@[simp ↓] theorem r_evH_nil {x : Exc} : evH g xn .nil x e m = .ex x e m := by rw [evH] <;> rfl
@[simp ↓] theorem r_evH_cons {c : String} {slot : Option Nat} {b : Ss} {r : Hs} {x : Exc} : evH g xn (.cons c slot b r) x e m = if isX x.cls c then (match slot with
      | none => unb none (evSs (g.hot x) xn b e m)
      | some i => if i < e.length then unb (some i) (evSs (g.hot x) xn b (e.set i none) m) else .no)
    else evH g xn r x e m := by rw [evH.eq_def] <;> rfl
end
/-- what a def hands back -/
def retR (n : Nat) (r : Rs) : Res D := match r with
    | .nx _ m' => .ok (fin n .non m').1 (fin n .non m').2
    | .rt d m' => .ok (fin n d m').1 (fin n d m').2
    | .ex x _ m' => .ex x (finX n x m')
    | _ => .no
@[simp] theorem retR_nx {n : Nat} {e : Ev} {m : Mem} : retR n (.nx e m) = .ok (fin n .non m).1 (fin n .non m).2 := Eq.trans rfl rfl
@[simp] theorem retR_rt {n : Nat} {d : D} {m : Mem} : retR n (.rt d m) = .ok (fin n d m).1 (fin n d m).2 := Eq.trans rfl rfl
@[simp] theorem retR_ex {n : Nat} {x : Exc} {e : Ev} {m : Mem} : retR n (.ex x e m) = .ex x (finX n x m) := Eq.trans rfl rfl
theorem callD_eq {g : Gl} {xn : String → Option (List String)} {N n : Nat} {b : Ss} {ds : List D} {m : Mem} (h : ds.length = n) : callD g xn N n b ds m = retR m.length (evSs g xn b (e0 N ds) m) := by
  unfold callD retR
  rw [if_pos h] <;> rfl
theorem callL_eq {tab : List Df} {xn : String → Option (List String)} {j : Nat} {c f : String} {x : Df} {ds : List D} {m : Mem} (h : look tab c f = some x) (hn : ds.length = x.n) : callL tab xn (j + 1) c f ds m = retR m.length (evSs (glL tab xn j) xn x.b (e0 x.N.length ds) m) := by
  rw [callL, h]
  exact callD_eq hn
@[simp] theorem fin_le {n : Nat} {d : D} {m : Mem} (h : m.length ≤ n) : fin n d m = (d, m) := by unfold fin; rw [if_pos h]
@[simp] theorem finX_le {n : Nat} {x : Exc} {m : Mem} (h : m.length ≤ n) : finX n x m = m := by unfold finX; rw [if_pos h]

/-! ### comprehensions, loops -/
theorem compL_pure {f : D → Mem → Res (List D)} {m : Mem} (h : D → List D) : ∀ (xs : List D), (∀ d ∈ xs, f d m = .ok (h d) m) → compL f xs m = .ok (xs.flatMap h) m
  | [], _ => rfl
  | d :: ds, hh => by
    rw [compL, hh d List.mem_cons_self]
    dsimp only
    rw [compL_pure h ds fun x hx => hh x (List.mem_cons_of_mem _ hx)]
    simp
/-- over a list that is named -/
theorem compL_map {α : Type} {f : D → Mem → Res (List D)} {m : Mem} {g : α → D} (h : α → List D) : ∀ (xs : List α), (∀ x ∈ xs, f (g x) m = .ok (h x) m) → compL f (xs.map g) m = .ok (xs.flatMap h) m
  | [], _ => rfl
  | d :: ds, hh => by
    rw [List.map_cons, compL, hh d List.mem_cons_self]
    dsimp only
    rw [compL_map h ds fun x hx => hh x (List.mem_cons_of_mem _ hx)]
    simp
theorem flatMap_one {α β : Type} (f : α → β) (xs : List α) : xs.flatMap (fun x => [f x]) = xs.map f := by
  induction xs with
  | nil => rfl
  | cons x xs ih => simp [ih]
theorem flatMap_ite {α β : Type} (f : α → β) (p : α → Bool) (xs : List α) : xs.flatMap (fun x => if p x then [f x] else []) = (xs.filter p).map f := by
  induction xs with
  | nil => rfl
  | cons x xs ih =>
    rw [List.flatMap_cons, ih, List.filter_cons]
    cases p x <;> simp
theorem compL_each {α : Type} {f : D → Mem → Res (List D)} {m : Mem} {g : α → D} (h : α → D) (xs : List α) (hh : ∀ x ∈ xs, f (g x) m = .ok [h x] m) : compL f (xs.map g) m = .ok (xs.map h) m := by
  rw [compL_map (fun x => [h x]) xs hh, flatMap_one]
theorem compL_filter {α : Type} {f : D → Mem → Res (List D)} {m : Mem} {g : α → D} (h : α → D) (p : α → Bool) (xs : List α) (hh : ∀ x ∈ xs, f (g x) m = .ok (if p x then [h x] else []) m) : compL f (xs.map g) m = .ok ((xs.filter p).map h) m := by
  rw [compL_map _ xs hh, flatMap_ite]
theorem forL_inv {f : D → Ev → Mem → Rs} (I : Ev → Mem → Prop) : ∀ (xs : List D), (∀ d ∈ xs, ∀ e m, I e m → ∃ e' m', f d e m = .nx e' m' ∧ I e' m') → ∀ e m, I e m → ∃ e' m', forL f xs e m = .nx e' m' ∧ I e' m'
  | [], _, e, m, h => ⟨e, m, rfl, h⟩
  | d :: ds, hh, e, m, h => by
    obtain ⟨e1, m1, h1, h2⟩ := hh d List.mem_cons_self e m h
    obtain ⟨e2, m2, h3, h4⟩ := forL_inv I ds (fun x hx => hh x (List.mem_cons_of_mem _ hx)) e1 m1 h2
    exact ⟨e2, m2, by rw [forL, h1]; exact h3, h4⟩

/-! ### == and in -/
theorem pys_map {α : Type} {f : α → D} {g : α → PyData} : ∀ {xs : List α}, (∀ x ∈ xs, (f x).py = some (g x)) → D.pys (xs.map f) = some (xs.map g)
  | [], _ => rfl
  | x :: xs, h => by
    rw [List.map_cons, D.pys, h x List.mem_cons_self, pys_map fun y hy => h y (List.mem_cons_of_mem _ hy)]
    rfl
@[simp] theorem py_int (i : Int) : (D.int i).py = some (.int i) := by rw [D.py]
@[simp] theorem py_bl (b : Bool) : (D.bl b).py = some (.bool b) := by rw [D.py]
@[simp] theorem py_non : D.non.py = some .none := by rw [D.py]
@[simp] theorem py_str (x : Str) : (D.str x).py = some (.str x) := by rw [D.py]
@[simp] theorem py_tup (xs : List D) : (D.tup xs).py = (D.pys xs).map .tuple := by rw [D.py]
@[simp] theorem py_lst (xs : List D) : (D.lst xs).py = (D.pys xs).map .list := by rw [D.py]
@[simp] theorem pys_nil : D.pys [] = some [] := by rw [D.pys]
@[simp] theorem pys_cons (x : D) (xs : List D) : D.pys (x :: xs) = (match x.py, D.pys xs with | some a, some r => some (a :: r) | _, _ => none) := by rw [D.pys] <;> rfl
@[simp] theorem pys_ints (o : List Int) : D.pys (o.map .int) = some (o.map .int) := pys_map fun _ _ => py_int _
@[simp] theorem pys_tups (os : List (List Int)) : D.pys (os.map fun o => .tup (o.map .int)) = some (os.map fun o => .tuple (o.map .int)) := pys_map fun o _ => by rw [py_tup, pys_ints] <;> rfl
@[simp] theorem pys_strs (os : List Str) : D.pys (os.map .str) = some (os.map .str) := pys_map fun o _ => py_str _
theorem cla_map {α : Type} {g : α → PyData} : ∀ {xs : List α}, (∀ x ∈ xs, (g x).canLay0 = true) → PyData.canLayAll0 (xs.map g) = true
  | [], _ => rfl
  | x :: xs, h => by
    rw [List.map_cons, PyData.canLayAll0, h x List.mem_cons_self, cla_map fun y hy => h y (List.mem_cons_of_mem _ hy)]
    rfl
theorem dpa_map {α : Type} {g : α → PyData} {k : Nat} : ∀ {xs : List α}, (∀ x ∈ xs, (g x).depth ≤ k) → PyData.depthAll (xs.map g) ≤ k
  | [], _ => Nat.zero_le _
  | x :: xs, h => by
    rw [List.map_cons, PyData.depthAll]
    exact Nat.max_le.mpr ⟨h x List.mem_cons_self, dpa_map fun y hy => h y (List.mem_cons_of_mem _ hy)⟩
theorem eva_map {α : Type} [DecidableEq α] {g : α → PyData} (h : ∀ x y, PyData.eqv (g x) (g y) = decide (x = y)) : ∀ {xs ys : List α}, PyData.eqvAll (xs.map g) (ys.map g) = decide (xs = ys)
  | [], [] => by simp [PyData.eqvAll]
  | [], _ :: _ => by simp [PyData.eqvAll]
  | _ :: _, [] => by simp [PyData.eqvAll]
  | x :: xs, y :: ys => by
    rw [List.map_cons, List.map_cons, PyData.eqvAll, h, eva_map h]
    simp
/-- an encoding: == is = -/
class Enc (α : Type) [DecidableEq α] where
  en : α → D
  pd : α → PyData
  dp : Nat
  py : ∀ x, (en x).py = some (pd x)
  ok : α → Prop
  sh : ∀ x, ok x → (pd x).canLay0 = true
  de : ∀ x, (pd x).depth ≤ dp
  eq : ∀ x y, PyData.eqv (pd x) (pd y) = decide (x = y)
theorem eqB_enc {α : Type} [DecidableEq α] [I : Enc α] (hd : I.dp ≤ 64) (x y : α) (hx : I.ok x) (hy : I.ok y) : eqB (I.en x) (I.en y) = some (decide (x = y)) := by
  unfold eqB
  rw [I.py, I.py]
  dsimp only
  have q : ∀ x, I.ok x → SeqAt.shaped (I.pd x) = true := fun x h => by
    unfold SeqAt.shaped
    rw [I.sh x h]
    simpa using Nat.le_trans (I.de x) hd
  rw [q x hx, q y hy, I.eq]
  rfl
theorem inB_enc {α : Type} [DecidableEq α] [I : Enc α] (hd : I.dp ≤ 63) (x : α) (ys : List α) (hx : I.ok x) (hy : ∀ y ∈ ys, I.ok y) : inB (I.en x) (ys.map I.en) = some (decide (x ∈ ys)) := by
  unfold inB
  rw [I.py, pys_map fun y _ => I.py y]
  dsimp only
  have q : SeqAt.shaped (I.pd x) = true := by
    unfold SeqAt.shaped
    rw [I.sh x hx]
    have := I.de x
    simp
    omega
  have q2 : SeqAt.shaped (.list (ys.map I.pd)) = true := by
    unfold SeqAt.shaped
    have h1 := cla_map (g := I.pd) (xs := ys) fun y h => I.sh y (hy y h)
    have h2 := dpa_map (g := I.pd) (k := 63) (xs := ys) fun y h => Nat.le_trans (I.de y) hd
    rw [PyData.canLay0, h1, PyData.depth]
    simp
    omega
  rw [q, q2]
  simp only [Bool.and_self, if_true, Option.some.injEq, List.any_map]
  rw [Bool.eq_iff_iff]
  simp only [List.any_eq_true, Function.comp, I.eq, decide_eq_true_eq]
  exact ⟨fun ⟨y, h1, h2⟩ => h2 ▸ h1, fun h => ⟨x, h, rfl⟩⟩
instance encInt : Enc Int where
  en := .int
  pd := .int
  dp := 0
  py := fun _ => py_int _
  ok := fun _ => True
  sh := fun _ _ => rfl
  de := fun _ => Nat.le_refl _
  eq := fun x y => by simp [PyData.eqv, BEq.beq]
instance encStr : Enc Str where
  en := .str
  pd := .str
  dp := 0
  py := fun _ => py_str _
  ok := fun x => PyData.strOk x = true
  sh := fun x h => by rw [PyData.canLay0]; exact h
  de := fun _ => Nat.le_refl _
  eq := fun x y => by rw [PyData.eqv]; rfl
/-- as a list -/
@[reducible] def encLst (α : Type) [DecidableEq α] [I : Enc α] : Enc (List α) where
  en := fun xs => .lst (xs.map I.en)
  pd := fun xs => .list (xs.map I.pd)
  dp := I.dp + 1
  py := fun xs => by rw [py_lst, pys_map fun y _ => I.py y] <;> rfl
  ok := fun xs => ∀ x ∈ xs, I.ok x
  sh := fun xs h => by rw [PyData.canLay0]; exact cla_map fun y hy => I.sh y (h y hy)
  de := fun xs => by rw [PyData.depth]; exact Nat.add_le_add_right (dpa_map fun y _ => I.de y) 1
  eq := fun x y => by rw [PyData.eqv]; exact eva_map I.eq
/-- as a tuple -/
@[reducible] def encTup (α : Type) [DecidableEq α] [I : Enc α] : Enc (List α) where
  en := fun xs => .tup (xs.map I.en)
  pd := fun xs => .tuple (xs.map I.pd)
  dp := I.dp + 1
  py := fun xs => by rw [py_tup, pys_map fun y _ => I.py y] <;> rfl
  ok := fun xs => ∀ x ∈ xs, I.ok x
  sh := fun xs h => by rw [PyData.canLay0]; exact cla_map fun y hy => I.sh y (h y hy)
  de := fun xs => by rw [PyData.depth]; exact Nat.add_le_add_right (dpa_map fun y _ => I.de y) 1
  eq := fun x y => by rw [PyData.eqv]; exact eva_map I.eq
/-- an outcome -/
abbrev oD (o : List Int) : D := .tup (o.map .int)
@[simp] theorem eqB_o (a b : List Int) : eqB (oD a) (oD b) = some (decide (a = b)) := eqB_enc (I := encTup Int) (by decide) a b (fun _ _ => trivial) (fun _ _ => trivial)
@[simp] theorem eqB_os (a b : List (List Int)) : eqB (.lst (a.map oD)) (.lst (b.map oD)) = some (decide (a = b)) := eqB_enc (I := @encLst (List Int) _ (encTup Int)) (by decide) a b (fun _ _ _ _ => trivial) (fun _ _ _ _ => trivial)
@[simp] theorem eqB_is (a b : List Int) : eqB (.lst (a.map .int)) (.lst (b.map .int)) = some (decide (a = b)) := eqB_enc (I := encLst Int) (by decide) a b (fun _ _ => trivial) (fun _ _ => trivial)
theorem eqB_ss (a b : List Str) (ha : ∀ x ∈ a, PyData.strOk x = true) (hb : ∀ x ∈ b, PyData.strOk x = true) : eqB (.lst (a.map .str)) (.lst (b.map .str)) = some (decide (a = b)) := eqB_enc (I := encLst Str) (by decide) a b ha hb
@[simp] theorem inB_o (a : List Int) (b : List (List Int)) : inB (oD a) (b.map oD) = some (decide (a ∈ b)) := (inB_enc (I := encTup Int) (by decide) a b (fun _ _ => trivial) (fun _ _ _ _ => trivial)).trans (by congr)
theorem inB_s (a : Str) (b : List Str) (ha : PyData.strOk a = true) (hb : ∀ x ∈ b, PyData.strOk x = true) : inB (.str a) (b.map .str) = some (decide (a ∈ b)) := inB_enc (I := encStr) (by decide) a b ha hb
@[simp] theorem eqB_int (a b : Int) : eqB (.int a) (.int b) = some (decide (a = b)) := eqB_enc (I := encInt) (by decide) a b trivial trivial
/-- the same on both sides -/
theorem eqB_refl {x : D} {a : PyData} (h : x.py = some a) (hs : SeqAt.shaped a = true) : eqB x x = some true := by
  unfold eqB
  rw [h]
  dsimp only
  rw [hs]
  simp [SeqAt.eqv_refl a (SeqAt.canLay_of_shaped hs)]
/-! ### by constructors -/
section
variable {m : Mem} {g : Gl}
@[simp] theorem k_vw_non  : vw m .non = .non := Eq.trans rfl rfl
@[simp] theorem k_vw_bl {b : Bool} : vw m (.bl b) = (.bl b) := Eq.trans rfl rfl
@[simp] theorem k_vw_int {i : Int} : vw m (.int i) = (.int i) := Eq.trans rfl rfl
@[simp] theorem k_vw_str {x : Str} : vw m (.str x) = (.str x) := Eq.trans rfl rfl
@[simp] theorem k_vw_tup {xs : List D} : vw m (.tup xs) = (.tup xs) := Eq.trans rfl rfl
@[simp] theorem k_vw_lst {xs : List D} : vw m (.lst xs) = (.lst xs) := Eq.trans rfl rfl
@[simp] theorem k_vw_dic {q : DK} {kvs : List (D × D)} : vw m (.dic q kvs) = (.dic q kvs) := Eq.trans rfl rfl
@[simp] theorem k_vw_scr {xs : List D} : vw m (.scr xs) = (.scr xs) := Eq.trans rfl rfl
@[simp] theorem k_vw_cls {c : String} : vw m (.cls c) = (.cls c) := Eq.trans rfl rfl
@[simp] theorem k_vw_ins {c : String} {fs : List (String × D)} : vw m (.ins c fs) = (.ins c fs) := Eq.trans rfl rfl
@[simp] theorem k_vw_ref {n : Nat} {xs : List D} (h : m[n]? = some (.lst xs)) : vw m (.ref n) = .lst xs := by unfold vw; dsimp only; rw [h]
theorem k_vw_refd {n : Nat} {q : DK} {kvs : List (D × D)} (h : m[n]? = some (.dic q kvs)) : vw m (.ref n) = .dic q kvs := by unfold vw; dsimp only; rw [h]
theorem k_vw_refi {n : Nat} {c : String} {fs : List (String × D)} (h : m[n]? = some (.ins c fs)) : vw m (.ref n) = .ins c fs := by unfold vw; dsimp only; rw [h]
@[simp] theorem k_cmpG_non  {op : CmpOp} {y : D} : cmpG g op .non y m = opt (cmpP op .non (vw m y)) m := Eq.trans rfl rfl
@[simp] theorem k_binG_non  {op : Operator} {y : D} : binG g op .non y m = opt (binP op .non (vw m y)) m := Eq.trans rfl rfl
@[simp] theorem k_cmpG_bl {b : Bool} {op : CmpOp} {y : D} : cmpG g op (.bl b) y m = opt (cmpP op (.bl b) (vw m y)) m := Eq.trans rfl rfl
@[simp] theorem k_binG_bl {b : Bool} {op : Operator} {y : D} : binG g op (.bl b) y m = opt (binP op (.bl b) (vw m y)) m := Eq.trans rfl rfl
@[simp] theorem k_cmpG_int {i : Int} {op : CmpOp} {y : D} : cmpG g op (.int i) y m = opt (cmpP op (.int i) (vw m y)) m := Eq.trans rfl rfl
@[simp] theorem k_binG_int {i : Int} {op : Operator} {y : D} : binG g op (.int i) y m = opt (binP op (.int i) (vw m y)) m := Eq.trans rfl rfl
@[simp] theorem k_cmpG_str {x : Str} {op : CmpOp} {y : D} : cmpG g op (.str x) y m = opt (cmpP op (.str x) (vw m y)) m := Eq.trans rfl rfl
@[simp] theorem k_binG_str {x : Str} {op : Operator} {y : D} : binG g op (.str x) y m = opt (binP op (.str x) (vw m y)) m := Eq.trans rfl rfl
@[simp] theorem k_cmpG_tup {xs : List D} {op : CmpOp} {y : D} : cmpG g op (.tup xs) y m = opt (cmpP op (.tup xs) (vw m y)) m := Eq.trans rfl rfl
@[simp] theorem k_binG_tup {xs : List D} {op : Operator} {y : D} : binG g op (.tup xs) y m = opt (binP op (.tup xs) (vw m y)) m := Eq.trans rfl rfl
@[simp] theorem k_cmpG_lst {xs : List D} {op : CmpOp} {y : D} : cmpG g op (.lst xs) y m = opt (cmpP op (.lst xs) (vw m y)) m := Eq.trans rfl rfl
@[simp] theorem k_binG_lst {xs : List D} {op : Operator} {y : D} : binG g op (.lst xs) y m = opt (binP op (.lst xs) (vw m y)) m := Eq.trans rfl rfl
@[simp] theorem k_cmpG_dic {q : DK} {kvs : List (D × D)} {op : CmpOp} {y : D} : cmpG g op (.dic q kvs) y m = opt (cmpP op (.dic q kvs) (vw m y)) m := Eq.trans rfl rfl
@[simp] theorem k_binG_dic {q : DK} {kvs : List (D × D)} {op : Operator} {y : D} : binG g op (.dic q kvs) y m = opt (binP op (.dic q kvs) (vw m y)) m := Eq.trans rfl rfl
@[simp] theorem k_cmpG_scr {xs : List D} {op : CmpOp} {y : D} : cmpG g op (.scr xs) y m = opt (cmpP op (.scr xs) (vw m y)) m := Eq.trans rfl rfl
@[simp] theorem k_binG_scr {xs : List D} {op : Operator} {y : D} : binG g op (.scr xs) y m = opt (binP op (.scr xs) (vw m y)) m := Eq.trans rfl rfl
@[simp] theorem k_cmpG_cls {c : String} {op : CmpOp} {y : D} : cmpG g op (.cls c) y m = opt (cmpP op (.cls c) (vw m y)) m := Eq.trans rfl rfl
@[simp] theorem k_binG_cls {c : String} {op : Operator} {y : D} : binG g op (.cls c) y m = opt (binP op (.cls c) (vw m y)) m := Eq.trans rfl rfl
theorem k_cmpG_ref {n : Nat} {xs : List D} {op : CmpOp} {y : D} (h : vw m (.ref n) = .lst xs) : cmpG g op (.ref n) y m = opt (cmpP op (.lst xs) (vw m y)) m := by unfold cmpG; rw [h]
theorem k_cmpG_refd {n : Nat} {q : DK} {kvs : List (D × D)} {op : CmpOp} {y : D} (h : vw m (.ref n) = .dic q kvs) : cmpG g op (.ref n) y m = opt (cmpP op (.dic q kvs) (vw m y)) m := by unfold cmpG; rw [h]
@[simp] theorem k_truth_non  : truth .non = some false := Eq.trans rfl rfl
@[simp] theorem k_truth_bl {b : Bool} : truth (.bl b) = some b := Eq.trans rfl rfl
@[simp] theorem k_truth_int {i : Int} : truth (.int i) = some (i != 0) := Eq.trans rfl rfl
@[simp] theorem k_truth_tup {xs : List D} : truth (.tup xs) = some !xs.isEmpty := Eq.trans rfl rfl
@[simp] theorem k_truth_lst {xs : List D} : truth (.lst xs) = some !xs.isEmpty := Eq.trans rfl rfl
@[simp] theorem k_sqP_listL {xs : List D} : sqP (.list false) (.lst xs) m = .ok (.lst xs) m := Eq.trans rfl rfl
@[simp] theorem k_sqP_listT {xs : List D} : sqP (.list false) (.tup xs) m = .ok (.lst xs) m := Eq.trans rfl rfl
@[simp] theorem k_sqP_listLm {xs : List D} : sqP (.list true) (.lst xs) m = .ok (.ref m.length) (m ++ [.lst xs]) := Eq.trans rfl rfl
@[simp] theorem k_sqP_dic {kvs : List (D × D)} : sqP .dict (.dic .k kvs) m = .ok (.ref m.length) (m ++ [.dic .k kvs]) := Eq.trans rfl rfl
@[simp] theorem k_sqP_tupL {xs : List D} : sqP .tuple (.lst xs) m = .ok (.tup xs) m := Eq.trans rfl rfl
@[simp] theorem k_sqP_tupT {xs : List D} : sqP .tuple (.tup xs) m = .ok (.tup xs) m := Eq.trans rfl rfl
@[simp] theorem k_sqP_all {xs : List D} : sqP .all (.lst xs) m = opt ((bools xs).map fun bs => .bl (bs.all id)) m := Eq.trans rfl rfl
@[simp] theorem k_sqP_any {xs : List D} : sqP .any (.lst xs) m = opt ((bools xs).map fun bs => .bl (bs.any id)) m := Eq.trans rfl rfl
@[simp] theorem k_sqP_sum {xs : List D} : sqP .sum (.lst xs) m = opt ((intsD xs).map fun is => .int is.sum) m := Eq.trans rfl rfl
@[simp] theorem k_bools_map {a : Type} {f : a → Bool} : ∀ {xs : List a}, bools (xs.map fun x => .bl (f x)) = some (xs.map f)
  | [] => rfl
  | x :: xs => by rw [List.map_cons, bools, k_bools_map]; rfl
@[simp] theorem k_bools_nil : bools [] = some [] := Eq.trans rfl rfl
@[simp] theorem k_bools_cons {b : Bool} {xs : List D} : bools (.bl b :: xs) = (bools xs).map (b :: ·) := Eq.trans rfl rfl
@[simp] theorem k_intsD_map : ∀ {xs : List Int}, intsD (xs.map D.int) = some xs
  | [] => rfl
  | x :: xs => by rw [List.map_cons, intsD, k_intsD_map]; rfl
@[simp] theorem k_walkP_lst {xs : List D} : walkP m (.lst xs) = some (.of xs) := Eq.trans rfl rfl
@[simp] theorem k_walkP_tup {xs : List D} : walkP m (.tup xs) = some (.of xs) := Eq.trans rfl rfl
@[simp] theorem k_walkP_str {z : Str} : walkP m (.str z) = some (.of (z.cps.toList.map fun c => .str ⟨#[c]⟩)) := Eq.trans rfl rfl
@[simp] theorem k_walkP_ref {n : Nat} {xs : List D} (h : m[n]? = some (.lst xs)) : walkP m (.ref n) = some (.at n xs) := by unfold walkP; dsimp only; rw [h]; rfl
@[simp] theorem k_seqP_lst {xs : List D} : seqP m (.lst xs) = some (.of xs) := Eq.trans rfl rfl
@[simp] theorem k_seqP_tup {xs : List D} : seqP m (.tup xs) = some (.of xs) := Eq.trans rfl rfl
@[simp] theorem k_seqP_ref {n : Nat} {xs : List D} (h : m[n]? = some (.lst xs)) : seqP m (.ref n) = some (.at n xs) := by unfold seqP; dsimp only; rw [h]; rfl
@[simp] theorem k_eq_ins {c : String} {fs : List (String × D)} {y : D} : cmpG g .Eq (.ins c fs) y m = if g.has c "__eq__" && (g.cur.isNone && nzB (vw m y)) then (g.call c "__eq__" [.ins c fs, y] m).bind blR else .no := Eq.trans rfl rfl
@[simp] theorem k_ne_ins {c : String} {fs : List (String × D)} {y : D} : cmpG g .NotEq (.ins c fs) y m = if g.has c "__eq__" && (g.cur.isNone && nzB (vw m y)) then (g.call c "__eq__" [.ins c fs, y] m).bind fun d m1 => (blR d m1).bind fun b m2 => .ok (!b) m2 else .no := Eq.trans rfl rfl
@[simp] theorem k_lt_ins {c : String} {fs : List (String × D)} {y : D} : cmpG g .Lt (.ins c fs) y m = if g.has c "__lt__" && (g.cur.isNone && nzB (vw m y)) then (g.call c "__lt__" [.ins c fs, y] m).bind blR else .no := Eq.trans rfl rfl
@[simp] theorem k_le_ins {c : String} {fs : List (String × D)} {y : D} : cmpG g .LtE (.ins c fs) y m = if g.has c "__le__" && (g.cur.isNone && nzB (vw m y)) then (g.call c "__le__" [.ins c fs, y] m).bind blR else .no := Eq.trans rfl rfl
@[simp] theorem k_is_ins {c : String} {fs : List (String × D)} {y : D} : cmpG g .Is (.ins c fs) y m = opt (cmpP .Is (.ins c []) y) m := Eq.trans rfl rfl
@[simp] theorem k_isnot_ins {c : String} {fs : List (String × D)} {y : D} : cmpG g .IsNot (.ins c fs) y m = opt (cmpP .IsNot (.ins c []) y) m := Eq.trans rfl rfl
@[simp] theorem k_bin_ins {op : Operator} {c : String} {fs : List (String × D)} {y : D} : binG g op (.ins c fs) y m = (match dunder op with
    | some nm => if g.has c nm && (g.cur.isNone && arB c (vw m y)) then g.call c nm [.ins c fs, y] m else .no
    | none => .no) := Eq.trans rfl rfl
@[simp] theorem k_dunderA : dunder .Add = some "__add__" := Eq.trans rfl rfl
@[simp] theorem k_dunderS : dunder .Sub = some "__sub__" := Eq.trans rfl rfl
@[simp] theorem k_dunderM : dunder .Mult = some "__mul__" := Eq.trans rfl rfl
@[simp] theorem k_blR {b : Bool} : blR (.bl b) m = .ok b m := Eq.trans rfl rfl
@[simp] theorem k_nz_non : nzB .non = true := Eq.trans rfl rfl
@[simp] theorem k_nz_bl {b : Bool} : nzB (.bl b) = true := Eq.trans rfl rfl
@[simp] theorem k_nz_int {i : Int} : nzB (.int i) = true := Eq.trans rfl rfl
@[simp] theorem k_nz_str {x : Str} : nzB (.str x) = true := Eq.trans rfl rfl
@[simp] theorem k_nz_tup {xs : List D} : nzB (.tup xs) = true := Eq.trans rfl rfl
@[simp] theorem k_nz_lst {xs : List D} : nzB (.lst xs) = true := Eq.trans rfl rfl
@[simp] theorem k_nz_dic {q : DK} {kvs : List (D × D)} : nzB (.dic q kvs) = true := Eq.trans rfl rfl
@[simp] theorem k_nz_ins {c : String} {fs : List (String × D)} : nzB (.ins c fs) = true := Eq.trans rfl rfl
@[simp] theorem k_ar_int {c : String} {i : Int} : arB c (.int i) = true := Eq.trans rfl rfl
@[simp] theorem k_ar_ins {c c' : String} {fs : List (String × D)} : arB c (.ins c' fs) = (c' == c) := Eq.trans rfl rfl
@[simp] theorem k_biLen_ins {c : String} {fs : List (String × D)} : biLen g [.ins c fs] m = if g.has c "__len__" then (g.call c "__len__" [.ins c fs] m).bind fun d m1 => (match d with | .int i => if decide (0 ≤ i) && decide (i < 2 ^ 63) then .ok (.int i) m1 else .no | _ => .no) else .no := Eq.trans rfl rfl
@[simp] theorem k_biP_intb {b : Bool} : biP g .int [.bl b] m = .ok (.int (if b then 1 else 0)) m := Eq.trans rfl rfl
@[simp] theorem k_biLen_lst {xs : List D} : biLen g [.lst xs] m = .ok (.int xs.length) m := Eq.trans rfl rfl
@[simp] theorem k_biLen_tup {xs : List D} : biLen g [.tup xs] m = .ok (.int xs.length) m := Eq.trans rfl rfl
@[simp] theorem k_biLen_scr {xs : List D} : biLen g [.scr xs] m = .ok (.int xs.length) m := Eq.trans rfl rfl
@[simp] theorem k_biP_len {vs : List D} : biP g .len vs m = biLen g vs m := Eq.trans rfl rfl
@[simp] theorem k_biP_abs {i : Int} : biP g .abs [.int i] m = .ok (.int (if i < 0 then -i else i)) m := Eq.trans rfl rfl
@[simp] theorem k_biP_int {i : Int} : biP g .int [.int i] m = .ok (.int i) m := Eq.trans rfl rfl
@[simp] theorem k_biP_intS {x : Str} : biP g .int [.str x] m = (match PySem.intText? x with
    | some n => if decide (x.length ≤ 640) then .ok (.int n) m else .no
    | none => .no) := Eq.trans rfl rfl
@[simp] theorem k_biP_str {i : Int} : biP g .str [.int i] m = opt ((intText i).map .str) m := Eq.trans rfl rfl
@[simp] theorem k_bm_split {a b : Str} : bmP .split a (.str b) m = if !(b.length == 0) && decide (a.length + 2 ≤ sizeLine) then .ok (.lst ((Txt.split a b).map .str)) m else .no := Eq.trans rfl rfl
@[simp] theorem k_bm_joinL {a : Str} {xs : List D} : bmP .join a (.lst xs) m = joinR a xs m := Eq.trans rfl rfl
@[simp] theorem k_biP_max {i j : Int} : biP g .max2 [.int i, .int j] m = .ok (.int (if j > i then j else i)) m := Eq.trans rfl rfl
@[simp] theorem k_biP_min {i j : Int} : biP g .min2 [.int i, .int j] m = .ok (.int (if j < i then j else i)) m := Eq.trans rfl rfl
@[simp] theorem k_binP_addI {a b : Int} : binP .Add (.int a) (.int b) = some (.int (a + b)) := Eq.trans rfl rfl
@[simp] theorem k_binP_subI {a b : Int} : binP .Sub (.int a) (.int b) = some (.int (a - b)) := Eq.trans rfl rfl
@[simp] theorem k_binP_mulI {a b : Int} : binP .Mult (.int a) (.int b) = if mulOk a b then some (.int (a * b)) else none := Eq.trans rfl rfl
@[simp] theorem k_binP_modI {a b : Int} : binP .Mod (.int a) (.int b) = if b ≠ 0 then some (.int (a.fmod b)) else none := Eq.trans rfl rfl
@[simp] theorem k_binP_divI {a b : Int} : binP .FloorDiv (.int a) (.int b) = if divOk b then some (.int (a.fdiv b)) else none := Eq.trans rfl rfl
@[simp] theorem k_binP_powI {a b : Int} : binP .Pow (.int a) (.int b) = if powOk a b then some (.int (a ^ b.toNat)) else none := Eq.trans rfl rfl
@[simp] theorem k_binP_addL {a b : List D} : binP .Add (.lst a) (.lst b) = if lenOk (a.length + b.length) then some (.lst (a ++ b)) else none := Eq.trans rfl rfl
@[simp] theorem k_binP_addT {a b : List D} : binP .Add (.tup a) (.tup b) = if lenOk (a.length + b.length) then some (.tup (a ++ b)) else none := Eq.trans rfl rfl
@[simp] theorem k_cmpP_eq {x y : D} : cmpP .Eq x y = eqC x y := Eq.trans rfl rfl
@[simp] theorem k_cmpP_ne {x y : D} : cmpP .NotEq x y = (eqC x y).map not := Eq.trans rfl rfl
@[simp] theorem k_cmpP_ltI {a b : Int} : cmpP .Lt (.int a) (.int b) = some (decide (a < b)) := Eq.trans rfl rfl
@[simp] theorem k_cmpP_gtI {a b : Int} : cmpP .Gt (.int a) (.int b) = some (decide (b < a)) := Eq.trans rfl rfl
@[simp] theorem k_cmpP_leI {a b : Int} : cmpP .LtE (.int a) (.int b) = some (decide (a ≤ b)) := Eq.trans rfl rfl
@[simp] theorem k_cmpP_geI {a b : Int} : cmpP .GtE (.int a) (.int b) = some (decide (b ≤ a)) := Eq.trans rfl rfl
@[simp] theorem k_cmpP_inL {x : D} {ys : List D} : cmpP .In x (.lst ys) = inB x ys := Eq.trans rfl rfl
@[simp] theorem k_cmpP_ninL {x : D} {ys : List D} : cmpP .NotIn x (.lst ys) = (inB x ys).map not := Eq.trans rfl rfl
theorem k_eqC_of {x y : D} {b : Bool} (h : eqB x y = some b) : eqC x y = some b := by unfold eqC; rw [h]
@[simp] theorem k_eqC_int (a b : Int) : eqC (.int a) (.int b) = some (decide (a = b)) := k_eqC_of (eqB_int a b)
@[simp] theorem k_eqC_o (a b : List Int) : eqC (oD a) (oD b) = some (decide (a = b)) := k_eqC_of (eqB_o a b)
@[simp] theorem k_eqC_os (a b : List (List Int)) : eqC (.lst (a.map oD)) (.lst (b.map oD)) = some (decide (a = b)) := k_eqC_of (eqB_os a b)
@[simp] theorem k_eqC_is (a b : List Int) : eqC (.lst (a.map .int)) (.lst (b.map .int)) = some (decide (a = b)) := k_eqC_of (eqB_is a b)
@[simp] theorem k_attG_ins {c f : String} {fs : List (String × D)} : attG (.ins c fs) f m = fs.lookup f := Eq.trans rfl rfl
@[simp] theorem k_arr_nil {a : Type} {vs : List a} : arr [] vs = some vs := Eq.trans rfl rfl
@[simp] theorem k_subP_lst {xs : List D} {i : Int} : subP (.lst xs) (.int i) = atI xs i := Eq.trans rfl rfl
@[simp] theorem k_subP_tup {xs : List D} {i : Int} : subP (.tup xs) (.int i) = atI xs i := Eq.trans rfl rfl
@[simp] theorem k_slcP_lst {xs : List D} {lo hi : Option Int} : slcP (.lst xs) lo hi = some (.lst (cut xs lo hi)) := Eq.trans rfl rfl
@[simp] theorem k_slcP_tup {xs : List D} {lo hi : Option Int} : slcP (.tup xs) lo hi = some (.tup (cut xs lo hi)) := Eq.trans rfl rfl
theorem k_atI_nat {a : Type} {xs : List a} {k : Nat} : atI xs (k : Int) = xs[k]? := by
  unfold atI ixN
  by_cases h : k < xs.length
  · rw [if_pos (by omega), if_pos (by omega)]
    simp
  · rw [if_pos (by omega), if_neg (by omega)]
    simp
    omega
@[simp] theorem k_atI_lit0 {a : Type} {xs : List a} : atI xs 0 = xs[0]? := k_atI_nat (k := 0)
@[simp] theorem k_atI_lit1 {a : Type} {xs : List a} : atI xs 1 = xs[1]? := k_atI_nat (k := 1)
@[simp] theorem k_atI_lit2 {a : Type} {xs : List a} : atI xs 2 = xs[2]? := k_atI_nat (k := 2)
@[simp] theorem k_ixN_lit0 {n : Nat} : ixN n 0 = if 0 < n then some 0 else none := by unfold ixN; simp
@[simp] theorem k_ixN_lit1 {n : Nat} : ixN n 1 = if 1 < n then some 1 else none := by unfold ixN; simp; congr 1; simp; omega
@[simp] theorem k_cut_none {a : Type} {xs : List a} : cut xs none none = xs := by unfold cut HT.sIx; simp
theorem k_cut_to {a : Type} {xs : List a} {k : Nat} : cut xs none (some (k : Int)) = xs.take k := by
  unfold cut
  rw [HT.sIx_none, HT.sIx_nat]
  simp
theorem k_cut_from {a : Type} {xs : List a} {k : Nat} : cut xs (some (k : Int)) none = xs.drop k := by
  unfold cut
  rw [HT.sIx_none, HT.sIx_nat]
  by_cases h : k ≤ xs.length
  · rw [Nat.min_eq_left h, List.take_of_length_le (by simp)]
  · rw [Nat.min_eq_right (by omega), List.drop_of_length_le (Nat.le_refl _), List.drop_of_length_le (by omega)]
    simp
@[simp] theorem k_bindT_one {i : Nat} {d : D} {e : Ev} : bindT (.one i) d e = some (e.set i (some d)) := Eq.trans rfl rfl
@[simp] theorem k_bindT_tup {is : List Nat} {xs : List D} {e : Ev} : bindT (.many is) (.tup xs) e = setAll is xs e := Eq.trans rfl rfl
@[simp] theorem k_setAll_nil {e : Ev} : setAll [] [] e = some e := Eq.trans rfl rfl
@[simp] theorem k_setAll_cons {i : Nat} {is : List Nat} {d : D} {ds : List D} {e : Ev} : setAll (i :: is) (d :: ds) e = setAll is ds (e.set i (some d)) := Eq.trans rfl rfl
@[simp] theorem k_wipeE_nil {e : Ev} : wipeE e [] = e := Eq.trans rfl rfl
@[simp] theorem k_wipeE_cons {e : Ev} {v : Nat} {vs : List Nat} : wipeE e (v :: vs) = (wipeE e vs).set v none := Eq.trans rfl rfl
@[simp] theorem k_newL_false {xs : List D} : newL false xs m = if lenOk xs.length then .ok (.lst xs) m else .no := Eq.trans rfl rfl
@[simp] theorem k_newL_true {xs : List D} : newL true xs m = if lenOk xs.length then .ok (.ref m.length) (m ++ [.lst xs]) else .no := Eq.trans rfl rfl
theorem k_lenOk_of {n : Nat} (h : n ≤ 1000000) : lenOk n = true := by
  unfold lenOk
  have : (1000000 : Nat) ≤ sizeLine := by decide
  simp
  omega
theorem k_fmod_pos {a b : Int} (h : 0 ≤ b) : a.fmod b = a % b := Int.fmod_eq_emod_of_nonneg a h
theorem k_fdiv_pos {a b : Int} (h : 0 ≤ b) : a.fdiv b = a / b := Int.fdiv_eq_ediv_of_nonneg a h
end
section
variable {m : Mem} {a : Type} {g : a → D} {f : D → Mem → Res (List D)}
theorem compK_each (h : a → D) {xs : List a} (hh : ∀ x ∈ xs, f (g x) m = .ok [h x] m) : compL f (xs.map g) m = .ok (xs.map h) m := compL_each h xs hh
theorem compK_filter (h : a → D) (p : a → Bool) {xs : List a} (hh : ∀ x ∈ xs, f (g x) m = .ok (if p x then [h x] else []) m) : compL f (xs.map g) m = .ok ((xs.filter p).map h) m := compL_filter h p xs hh
theorem compK_flat (h : a → List D) {xs : List a} (hh : ∀ x ∈ xs, f (g x) m = .ok (h x) m) : compL f (xs.map g) m = .ok (xs.flatMap h) m := compL_map h xs hh
theorem zip_map {b : Type} {f : b → D} : ∀ {xs : List D} {ys : List b}, List.zipWith (fun p q => D.tup [p, q]) xs (ys.map f) = (List.zip xs ys).map fun p => D.tup [p.1, f p.2]
  | [], _ => by simp
  | _ :: _, [] => by simp
  | x :: xs, y :: ys => by simp [zip_map]
theorem enum_map {b : Type} {f : b → D} {xs : List b} : ((xs.map f).zipIdx.map fun p => D.tup [.int (p.2 : Int), p.1]) = xs.zipIdx.map fun p => D.tup [.int (p.2 : Int), f p.1] := by
  rw [List.zipIdx_map, List.map_map]
  rfl
theorem rng_map {n : Nat} : rng 0 n = (List.range n).map fun (k : Nat) => D.int (k : Int) := by unfold rng; simp
end
end IP

/-! IqE -/
set_option Elab.async false
set_option linter.all false
set_option maxRecDepth 100000
set_option maxHeartbeats 4000000
/-! IqE: more of the same. -/
namespace IP
open PySem L2
@[simp] theorem k_cast {a b : Nat} : ((a : Int) = (b : Int)) = (a = b) := propext ⟨fun h => by omega, fun h => by omega⟩
theorem log2_le {n k : Nat} (h : n < 2 ^ k) (hk : 0 < k) : n.log2 < k := by
  by_cases h0 : n = 0
  · subst h0
    simpa using hk
  · exact (Nat.log2_lt h0).mpr h
theorem mulOk_of {a b : Int} (ha : a.natAbs < 2 ^ 200) (hb : b.natAbs < 2 ^ 200) : mulOk a b = true := by
  have h1 := log2_le ha (by decide)
  have h2 := log2_le hb (by decide)
  unfold mulOk
  simp only [decide_eq_true_eq]
  omega
theorem powOk_of {a b : Int} (ha : a.natAbs < 2 ^ 200) (hb : 0 ≤ b) (hb2 : b ≤ 100) : powOk a b = true := by
  have h1 := log2_le ha (by decide)
  unfold powOk
  simp only [decide_eq_true_eq, Bool.and_eq_true]
  refine ⟨hb, ?_⟩
  have : ((a.natAbs.log2 : Int) + 1) * b ≤ 201 * 100 := Int.mul_le_mul (by omega) hb2 hb (by decide)
  omega
theorem divOk_of {b : Int} (hb : 0 < b) (h : b < 2 ^ 200) : divOk b = true := by
  have h1 := log2_le (n := b.natAbs) (k := 200) (by omega) (by decide)
  unfold divOk
  simp only [decide_eq_true_eq, Bool.and_eq_true]
  omega
theorem rngOk_of {i : Int} (h : 0 ≤ i) (h2 : i ≤ 1000000) : rngOk i = true := by
  unfold rngOk
  simp only [decide_eq_true_eq, Bool.and_eq_true]
  omega
theorem set_same {m : Mem} {r : Nat} {x y : MO} : (m.set r x).set r y = m.set r y := List.set_set ..
theorem set_get {m : Mem} {r : Nat} {x z : MO} (h : m[r]? = some z) : (m.set r x)[r]? = some x := by
  have hr : r < m.length := by
    rcases Nat.lt_or_ge r m.length with h' | h'
    · exact h'
    · rw [List.getElem?_eq_none h'] at h; cases h
  rw [List.getElem?_set_self hr]
@[simp] theorem k_lookup {a k : String} {b : D} {es : List (String × D)} : List.lookup a ((k, b) :: es) = if a = k then some b else es.lookup a := by
  rw [List.lookup]
  by_cases h : a = k
  · simp [h]
  · have : (a == k) = false := by simpa using h
    simp [h, this]
@[simp] theorem k_lookup_nil {a : String} : List.lookup a ([] : List (String × D)) = none := Eq.trans rfl rfl
/-- any plain value -/
def nice : D → Bool
  | .cls _ | .ref _ | .scr _ => false
  | _ => true
def isIn : D → Bool
  | .int _ => true
  | _ => false
@[simp] theorem nice_non  : nice .non = true := by rw [nice] <;> simp
@[simp] theorem isIn_non  : isIn .non = false := Eq.trans rfl rfl
@[simp] theorem nice_bl {b : Bool} : nice (.bl b) = true := by rw [nice] <;> simp
@[simp] theorem isIn_bl {b : Bool} : isIn (.bl b) = false := Eq.trans rfl rfl
@[simp] theorem nice_int {i : Int} : nice (.int i) = true := by rw [nice] <;> simp
@[simp] theorem isIn_int {i : Int} : isIn (.int i) = true := Eq.trans rfl rfl
@[simp] theorem nice_str {x : Str} : nice (.str x) = true := by rw [nice] <;> simp
@[simp] theorem isIn_str {x : Str} : isIn (.str x) = false := Eq.trans rfl rfl
@[simp] theorem nice_tup {xs : List D} : nice (.tup xs) = true := by rw [nice] <;> simp
@[simp] theorem isIn_tup {xs : List D} : isIn (.tup xs) = false := Eq.trans rfl rfl
@[simp] theorem nice_lst {xs : List D} : nice (.lst xs) = true := by rw [nice] <;> simp
@[simp] theorem isIn_lst {xs : List D} : isIn (.lst xs) = false := Eq.trans rfl rfl
@[simp] theorem nice_dic {q : DK} {kvs : List (D × D)} : nice (.dic q kvs) = true := by rw [nice] <;> simp
@[simp] theorem isIn_dic {q : DK} {kvs : List (D × D)} : isIn (.dic q kvs) = false := Eq.trans rfl rfl
@[simp] theorem nice_ins {c : String} {fs : List (String × D)} : nice (.ins c fs) = true := by rw [nice] <;> simp
@[simp] theorem isIn_ins {c : String} {fs : List (String × D)} : isIn (.ins c fs) = false := Eq.trans rfl rfl
@[simp] theorem nice_scr {xs : List D} : nice (.scr xs) = false := by rw [nice] <;> simp
@[simp] theorem isIn_scr {xs : List D} : isIn (.scr xs) = false := Eq.trans rfl rfl
@[simp] theorem nice_cls {c : String} : nice (.cls c) = false := by rw [nice] <;> simp
@[simp] theorem isIn_cls {c : String} : isIn (.cls c) = false := Eq.trans rfl rfl
@[simp] theorem nice_ref {n : Nat} : nice (.ref n) = false := by rw [nice] <;> simp
@[simp] theorem isIn_ref {n : Nat} : isIn (.ref n) = false := Eq.trans rfl rfl
@[simp] theorem forL_nil {f : D → Ev → Mem → Rs} {e : Ev} {m : Mem} : forL f [] e m = .nx e m := Eq.trans rfl rfl
theorem forL_nx {f : D → Ev → Mem → Rs} {d : D} {ds : List D} {e e1 : Ev} {m m1 : Mem} (h : f d e m = .nx e1 m1) : forL f (d :: ds) e m = forL f ds e1 m1 := by rw [forL, h]
theorem forL_ex {f : D → Ev → Mem → Rs} {d : D} {ds : List D} {e e1 : Ev} {m m1 : Mem} {x : Exc} (h : f d e m = .ex x e1 m1) : forL f (d :: ds) e m = .ex x e1 m1 := by rw [forL, h]
theorem forL_rt {f : D → Ev → Mem → Rs} {d : D} {ds : List D} {e : Ev} {m m1 : Mem} {x : D} (h : f d e m = .rt x m1) : forL f (d :: ds) e m = .rt x m1 := by rw [forL, h]
@[simp] theorem k_all_true {a : Type} {xs : List a} : (xs.all fun _ => true) = true := by simp
theorem fin_new {n : Nat} {m : Mem} {c : MO} (h : m.length = n) : fin n (.ref n) (m ++ [c]) = (.ref n, m ++ [c]) := by
  subst h
  have h1 : ¬ (m ++ [c]).length ≤ m.length := by simp
  have h2 : (D.und m.length (.ref m.length) && IP.allB m.length ((m ++ [c]).take m.length)) = false := by
    rw [D.und]
    simp
  unfold fin
  rw [if_neg h1, h2]
  simp
theorem fin_val {n : Nat} {d : D} {m : Mem} (hd : ∀ k, d ≠ .ref k) : fin n d m = (d, m) ∨ fin n d m = (d, m.take n) := by
  unfold fin
  split
  · exact .inl rfl
  · split
    · exact .inr rfl
    · cases d <;> first | exact .inl rfl | exact absurd rfl (hd _)
theorem finX_val {n : Nat} {x : Exc} {m : Mem} : finX n x m = m ∨ finX n x m = m.take n := by
  unfold finX
  split
  · exact .inl rfl
  · split
    · exact .inr rfl
    · exact .inl rfl
@[simp high] theorem k_pow3 {a : Int} : binP .Pow (.int a) (.int 3) = if powOk a 3 then some (.int (a ^ 3)) else none := Eq.trans rfl rfl
@[simp high] theorem k_pow1018 : binP .Pow (.int 10) (.int 18) = some (.int 1000000000000000000) := Eq.trans (by rfl) rfl
theorem set_id {m : Mem} {r : Nat} {x : MO} (h : m[r]? = some x) : m.set r x = m := by
  refine List.ext_getElem? fun i => ?_
  by_cases hi : r = i
  · subst hi
    rw [set_get h, h]
  · rw [List.getElem?_set_ne hi]
/-- pairwise -/
inductive Al {a b : Type} (P : a → b → Prop) : List a → List b → Prop where
  | nil : Al P [] []
  | cons {x : a} {y : b} {xs : List a} {ys : List b} : P x y → Al P xs ys → Al P (x :: xs) (y :: ys)
@[simp] theorem compL_nil {f : D → Mem → Res (List D)} {m : Mem} : compL f [] m = .ok [] m := Eq.trans rfl rfl
theorem compL_ok {f : D → Mem → Res (List D)} {m m1 m2 : Mem} {d : D} {ds y r : List D} (h1 : f d m = .ok y m1) (h2 : compL f ds m1 = .ok r m2) : compL f (d :: ds) m = .ok (y ++ r) m2 := by
  rw [compL, h1]
  dsimp only
  rw [h2]
@[simp] theorem und_int {n : Nat} {i : Int} : D.und n (.int i) = true := by rw [D.und] <;> intros <;> simp_all
@[simp] theorem und_str {n : Nat} {i : Str} : D.und n (.str i) = true := by rw [D.und] <;> intros <;> simp_all
@[simp] theorem und_bl {n : Nat} {i : Bool} : D.und n (.bl i) = true := by rw [D.und] <;> intros <;> simp_all
@[simp] theorem und_non {n : Nat} : D.und n .non = true := by rw [D.und] <;> intros <;> simp_all
@[simp] theorem und_tup {n : Nat} {xs : List D} : D.und n (.tup xs) = D.unds n xs := by rw [D.und]
@[simp] theorem und_lst {n : Nat} {xs : List D} : D.und n (.lst xs) = D.unds n xs := by rw [D.und]
@[simp] theorem unds_nil {n : Nat} : D.unds n [] = true := by rw [D.unds]
@[simp] theorem unds_cons {n : Nat} {x : D} {xs : List D} : D.unds n (x :: xs) = (x.und n && D.unds n xs) := by rw [D.unds]
theorem unds_map {a : Type} {f : a → D} {n : Nat} : ∀ {xs : List a}, (∀ x ∈ xs, (f x).und n = true) → D.unds n (xs.map f) = true
  | [], _ => unds_nil
  | x :: xs, h => by
    rw [List.map_cons, unds_cons, h x List.mem_cons_self, unds_map fun y hy => h y (List.mem_cons_of_mem _ hy)]
    rfl
@[simp] theorem unds_ints {n : Nat} {xs : List Int} : D.unds n (xs.map .int) = true := unds_map fun _ _ => und_int
@[simp] theorem unds_os {n : Nat} {xs : List (List Int)} : D.unds n (xs.map oD) = true := unds_map fun _ _ => by rw [und_tup, unds_ints]
@[simp] theorem unds_strs {n : Nat} {xs : List Str} : D.unds n (xs.map .str) = true := unds_map fun _ _ => und_str
@[simp] theorem unds_app {n : Nat} : ∀ {xs ys : List D}, D.unds n (xs ++ ys) = (D.unds n xs && D.unds n ys)
  | [], ys => by simp
  | x :: xs, ys => by rw [List.cons_append, unds_cons, unds_cons, unds_app, Bool.and_assoc]
@[simp] theorem undF_nil {n : Nat} : D.undF n [] = true := by rw [D.undF]
@[simp] theorem undF_cons {n : Nat} {f : String} {x : D} {xs : List (String × D)} : D.undF n ((f, x) :: xs) = (x.und n && D.undF n xs) := by rw [D.undF]
@[simp] theorem und_ins {n : Nat} {c : String} {xs : List (String × D)} : D.und n (.ins c xs) = D.undF n xs := by rw [D.und]
/-- memory without loose ends -/
def WM (m : Mem) : Prop := allB m.length m = true
theorem allB_iff {n : Nat} : ∀ {m : Mem}, allB n m = true ↔ ∀ c ∈ m, c.und n = true
  | [] => by simp [allB]
  | c :: m => by simp [allB, allB_iff]
mutual
theorem und_mono {n k : Nat} (h : n ≤ k) : ∀ {d : D}, d.und n = true → d.und k = true
  | .ref i, q => by
    rw [D.und] at q ⊢
    simp at q ⊢
    omega
  | .tup xs, q => by rw [D.und] at q ⊢; exact unds_mono h q
  | .lst xs, q => by rw [D.und] at q ⊢; exact unds_mono h q
  | .scr xs, q => by rw [D.und] at q ⊢; exact unds_mono h q
  | .dic _ xs, q => by rw [D.und] at q ⊢; exact undK_mono h q
  | .ins _ xs, q => by rw [D.und] at q ⊢; exact undF_mono h q
  | .non, _ => und_non
  | .bl _, _ => und_bl
  | .int _, _ => und_int
  | .str _, _ => und_str
  | .cls _, _ => by rw [D.und] <;> intros <;> simp_all
theorem unds_mono {n k : Nat} (h : n ≤ k) : ∀ {xs : List D}, D.unds n xs = true → D.unds k xs = true
  | [], _ => unds_nil
  | x :: xs, q => by
    rw [unds_cons, Bool.and_eq_true] at q ⊢
    exact ⟨und_mono h q.1, unds_mono h q.2⟩
theorem undK_mono {n k : Nat} (h : n ≤ k) : ∀ {xs : List (D × D)}, D.undK n xs = true → D.undK k xs = true
  | [], _ => by rw [D.undK]
  | (x, y) :: xs, q => by
    rw [D.undK, Bool.and_eq_true, Bool.and_eq_true] at q ⊢
    exact ⟨und_mono h q.1, und_mono h q.2.1, undK_mono h q.2.2⟩
theorem undF_mono {n k : Nat} (h : n ≤ k) : ∀ {xs : List (String × D)}, D.undF n xs = true → D.undF k xs = true
  | [], _ => by rw [D.undF]
  | (_, y) :: xs, q => by
    rw [D.undF, Bool.and_eq_true] at q ⊢
    exact ⟨und_mono h q.1, undF_mono h q.2⟩
end
theorem moU_mono {n k : Nat} (h : n ≤ k) {c : MO} (q : c.und n = true) : c.und k = true := by
  cases c with
  | lst xs => exact unds_mono h q
  | dic d xs => exact undK_mono h q
  | ins c xs => exact undF_mono h q
  | dead => rfl
theorem WM.app {m : Mem} {c : MO} (h : WM m) (hc : c.und (m.length + 1) = true) : WM (m ++ [c]) := by
  unfold WM at h ⊢
  rw [allB_iff] at h ⊢
  intro x hx
  rw [List.length_append, List.length_singleton]
  rcases List.mem_append.mp hx with q | q
  · exact moU_mono (Nat.le_succ _) (h x q)
  · simp at q
    subst q
    exact hc
theorem WM.set {m : Mem} {c : MO} {r : Nat} (h : WM m) (hc : c.und m.length = true) : WM (m.set r c) := by
  unfold WM at h ⊢
  rw [allB_iff] at h ⊢
  intro x hx
  rw [List.length_set]
  rcases List.mem_or_eq_of_mem_set hx with q | q
  · exact h x q
  · subst q
    exact hc
@[simp] theorem lenOk_0 : lenOk 0 = true := by decide +kernel
@[simp] theorem lenOk_1 : lenOk 1 = true := by decide +kernel
@[simp] theorem lenOk_2 : lenOk 2 = true := by decide +kernel
@[simp] theorem lenOk_3 : lenOk 3 = true := by decide +kernel
@[simp] theorem lenOk_4 : lenOk 4 = true := by decide +kernel
@[simp] theorem lenOk_5 : lenOk 5 = true := by decide +kernel
@[simp] theorem lenOk_6 : lenOk 6 = true := by decide +kernel
@[simp] theorem lenOk_7 : lenOk 7 = true := by decide +kernel
@[simp] theorem lenOk_8 : lenOk 8 = true := by decide +kernel
@[simp] theorem lenOk_9 : lenOk 9 = true := by decide +kernel
@[simp] theorem lenOk_10 : lenOk 10 = true := by decide +kernel
@[simp] theorem lenOk_11 : lenOk 11 = true := by decide +kernel
@[simp] theorem lenOk_12 : lenOk 12 = true := by decide +kernel
@[simp] theorem lenOk_13 : lenOk 13 = true := by decide +kernel
@[simp] theorem lenOk_14 : lenOk 14 = true := by decide +kernel
@[simp] theorem lenOk_15 : lenOk 15 = true := by decide +kernel
@[simp] theorem lenOk_16 : lenOk 16 = true := by decide +kernel
@[simp] theorem lenOk_17 : lenOk 17 = true := by decide +kernel
@[simp] theorem lenOk_18 : lenOk 18 = true := by decide +kernel
@[simp] theorem lenOk_19 : lenOk 19 = true := by decide +kernel
@[simp] theorem lenOk_20 : lenOk 20 = true := by decide +kernel
@[simp] theorem lenOk_21 : lenOk 21 = true := by decide +kernel
@[simp] theorem lenOk_22 : lenOk 22 = true := by decide +kernel
@[simp] theorem lenOk_23 : lenOk 23 = true := by decide +kernel
@[simp] theorem lenOk_24 : lenOk 24 = true := by decide +kernel
@[simp] theorem eqB_os_nil (a : List (List Int)) : eqB (.lst (a.map oD)) (.lst []) = some (decide (a = [])) := eqB_os a []
@[simp] theorem eqC_os_nil (a : List (List Int)) : eqC (.lst (a.map oD)) (.lst []) = some (decide (a = [])) := k_eqC_of (eqB_os_nil a)
@[simp] theorem get_new {m : Mem} {c : MO} : (m ++ [c])[m.length]? = some c := by simp
@[simp] theorem set_new {m : Mem} {c c' : MO} : (m ++ [c]).set m.length c' = m ++ [c'] := by
  rw [List.set_append_right _ _ (Nat.le_refl _)]
  simp
@[simp] theorem hot_cur {g : Gl} {x : Exc} : (g.hot x).cur = some x := Eq.trans rfl rfl
/-- plain, of so many floors -/
def Gd (k : Nat) (d : D) : Prop := ∃ a, d.py = some a ∧ a.canLay0 = true ∧ a.depth ≤ k
theorem Gd.mono {k l : Nat} {d : D} (h : Gd k d) (hl : k ≤ l) : Gd l d := by
  obtain ⟨a, h1, h2, h3⟩ := h
  exact ⟨a, h1, h2, Nat.le_trans h3 hl⟩
theorem Gd.non : Gd 0 .non := ⟨_, py_non, rfl, Nat.le_refl _⟩
theorem Gd.bl {b : Bool} : Gd 0 (.bl b) := ⟨_, py_bl b, rfl, Nat.le_refl _⟩
theorem Gd.int {i : Int} : Gd 0 (.int i) := ⟨_, py_int i, rfl, Nat.le_refl _⟩
theorem Gd.str {x : Str} (h : PyData.strOk x = true) : Gd 0 (.str x) := ⟨_, py_str x, by rw [PyData.canLay0]; exact h, Nat.le_refl _⟩
theorem Gd.pys {k : Nat} : ∀ {xs : List D}, (∀ x ∈ xs, Gd k x) → ∃ as, D.pys xs = some as ∧ PyData.canLayAll0 as = true ∧ PyData.depthAll as ≤ k
  | [], _ => ⟨[], pys_nil, rfl, Nat.zero_le _⟩
  | x :: xs, h => by
    obtain ⟨a, h1, h2, h3⟩ := h x List.mem_cons_self
    obtain ⟨as, h4, h5, h6⟩ := Gd.pys fun y hy => h y (List.mem_cons_of_mem _ hy)
    refine ⟨a :: as, by rw [pys_cons, h1, h4], by rw [PyData.canLayAll0, h2, h5]; rfl, by rw [PyData.depthAll]; exact Nat.max_le.mpr ⟨h3, h6⟩⟩
theorem Gd.lst {k : Nat} {xs : List D} (h : ∀ x ∈ xs, Gd k x) : Gd (k + 1) (.lst xs) := by
  obtain ⟨as, h1, h2, h3⟩ := Gd.pys h
  exact ⟨.list as, by rw [py_lst, h1]; rfl, by rw [PyData.canLay0]; exact h2, by rw [PyData.depth]; omega⟩
theorem Gd.tup {k : Nat} {xs : List D} (h : ∀ x ∈ xs, Gd k x) : Gd (k + 1) (.tup xs) := by
  obtain ⟨as, h1, h2, h3⟩ := Gd.pys h
  exact ⟨.tuple as, by rw [py_tup, h1]; rfl, by rw [PyData.canLay0]; exact h2, by rw [PyData.depth]; omega⟩
theorem Gd.eq {k : Nat} {d : D} (h : Gd k d) (hk : k ≤ 64) : eqB d d = some true := by
  obtain ⟨a, h1, h2, h3⟩ := h
  refine eqB_refl h1 ?_
  unfold SeqAt.shaped
  rw [h2]
  simp
  omega
theorem Gd.o {o : List Int} : Gd 1 (oD o) := Gd.tup fun x hx => by
  obtain ⟨i, _, rfl⟩ := List.mem_map.mp hx
  exact Gd.int
/-- x in a tuple of texts -/
@[simp] theorem inT_s (x : Str) (xs : List Str) : inT (.str x) (xs.map .str) = some (decide (x ∈ xs)) := by
  have h : ∀ xs : List Str, fls (xs.map .str) = some (xs.map .str) := by
    intro xs
    induction xs with
    | nil => rfl
    | cons y ys ih => rw [List.map_cons, fls, ih]; rfl
  unfold inT
  rw [h]
  show some (inV (.str x) (xs.map V.str)) = _
  congr 1
  unfold inV
  rw [Bool.eq_iff_iff, List.any_map, List.any_eq_true, decide_eq_true_eq]
  constructor
  · rintro ⟨y, hy, e⟩
    simp [eqV] at e
    exact e ▸ hy
  · intro hx
    exact ⟨x, hx, by simp [eqV]⟩
@[simp] theorem inU_s (x : Str) (xs : List Str) : inU (.str x) (xs.map .str) = some (decide (x ∈ xs)) := by unfold inU; rw [inT_s]
@[simp] theorem k_inTup {x : D} {ys : List D} : cmpP .In x (.tup ys) = inU x ys := Eq.trans rfl rfl
@[simp] theorem k_ninTup {x : D} {ys : List D} : cmpP .NotIn x (.tup ys) = (inU x ys).map not := Eq.trans rfl rfl
@[simp] theorem k_inStr {c : Nat} {z : Str} : cmpP .In (.str ⟨#[c]⟩) (.str z) = some (decide (c ∈ z.cps.toList)) := Eq.trans rfl rfl
@[simp] theorem k_ninStr {c : Nat} {z : Str} : cmpP .NotIn (.str ⟨#[c]⟩) (.str z) = some (!decide (c ∈ z.cps.toList)) := Eq.trans rfl rfl
theorem fin_ref {n k : Nat} {m cs : Mem} {c : MO} (h : m.length = n) (hW : WM m) (hc : (m ++ cs)[n + k]? = some c) (hu : c.und n = true) : fin n (.ref (n + k)) (m ++ cs) = (.ref n, m ++ [c]) := by
  subst h
  have hl := (List.getElem?_eq_some_iff.mp hc).1
  have h1 : ¬ (m ++ cs).length ≤ m.length := by omega
  have h2 : (m ++ cs).take m.length = m := by simp
  unfold fin
  rw [if_neg h1]
  unfold WM at hW
  rw [D.und]
  simp only [hc, h2, hu, hW]
  simp
theorem fin_plain {n : Nat} {m cs : Mem} {d : D} (h : m.length = n) (hW : WM m) (hd : d.und n = true) : fin n d (m ++ cs) = (d, m) := by
  subst h
  have h2 : (m ++ cs).take m.length = m := by simp
  unfold fin
  unfold WM at hW
  split
  · rename_i h1
    have : cs = [] := by
      rw [List.length_append] at h1
      exact List.length_eq_zero_iff.mp (by omega)
    subst this
    simp
  · rw [h2, hd, hW]
    rfl
@[simp] theorem inU_o (o : List Int) (os : List (List Int)) : inU (oD o) (os.map oD) = some (decide (o ∈ os)) := by
  have h : inT (oD o) (os.map oD) = none := by
    unfold inT
    have : (oD o).fl = none := rfl
    rw [this]
  unfold inU
  rw [h]
  exact inB_o o os
theorem eqJ_self {x : D} {b : Bool} (h : eqJ x x = some b) : b = true := by
  unfold eqJ at h
  split at h
  · split at h
    · cases h; rfl
    · cases h
  · unfold eqB at h
    cases e : x.py with
    | none => rw [e] at h; cases h
    | some p =>
      rw [e] at h
      dsimp only at h
      split at h
      · rename_i hs
        have := eqB_refl e (Bool.and_eq_true_iff.mp hs).1
        unfold eqB at this
        rw [e] at this
        dsimp only at this
        rw [if_pos hs] at this
        cases h
        exact Option.some.inj this
      · cases h
/-- the same thing twice, so many floors -/
def Sm (k : Nat) (x : D) : Prop := eqN k x x = some true
theorem Sm.of {k : Nat} {x : D} (h : eqJ x x = some true) : Sm k x := by
  unfold Sm
  cases k with
  | zero => unfold eqN; exact h
  | succ k => unfold eqN; rw [h]
theorem Sm.rf {k n : Nat} : Sm k (.ref n) := Sm.of (by unfold eqJ; simp)
theorem Sm.gd {k l : Nat} {x : D} (h : Gd l x) (hl : l ≤ 64) : Sm k x := Sm.of (by
  have := h.eq hl
  unfold eqJ
  split
  · obtain ⟨a, ha, _⟩ := h
    rw [D.py] at ha
    cases ha
  · exact this)
theorem eqIs_self {q : D → D → Option Bool} : ∀ {xs : List D}, (∀ x ∈ xs, q x x = some true) → eqIs q xs xs = some true
  | [], _ => rfl
  | x :: xs, h => by rw [eqIs, h x List.mem_cons_self, eqIs_self fun y hy => h y (List.mem_cons_of_mem _ hy)]; rfl
theorem Sm.lst {k : Nat} {xs : List D} (h : ∀ x ∈ xs, Sm k x) : Sm (k + 1) (.lst xs) := by
  unfold Sm
  unfold eqN
  cases e : eqJ (.lst xs) (.lst xs) with
  | some b => have := eqJ_self e; subst this; rfl
  | none => dsimp only; rw [if_pos (eqIs_self h)]
theorem Sm.tup {k : Nat} {xs : List D} (h : ∀ x ∈ xs, Sm k x) : Sm (k + 1) (.tup xs) := by
  unfold Sm
  unfold eqN
  cases e : eqJ (.tup xs) (.tup xs) with
  | some b => have := eqJ_self e; subst this; rfl
  | none => dsimp only; rw [if_pos (eqIs_self h)]
theorem eqC_self {xs : List D} (h : ∀ x ∈ xs, Sm 4 x) : eqC (.lst xs) (.lst xs) = some true := by
  unfold eqC
  cases e : eqB (.lst xs) (.lst xs) with
  | some b =>
    have := eqJ_self (x := .lst xs) (b := b) (by unfold eqJ; exact e)
    subst this
    rfl
  | none => exact eqIs_self h
end IP

/-! Gm -/
set_option linter.all false
/-! Gm: plain mathematics of groups. -/
namespace Gm
abbrev O := List Int
/-- an outcome of the sizes -/
def VO : List Int → O → Prop
  | [], [] => True
  | s :: ss, x :: xs => 0 ≤ x ∧ x < s ∧ VO ss xs
  | _, _ => False
def voB : List Int → O → Bool
  | [], [] => true
  | s :: ss, x :: xs => decide (0 ≤ x) && (decide (x < s) && voB ss xs)
  | _, _ => false
theorem voB_iff : ∀ {ss : List Int} {o : O}, voB ss o = true ↔ VO ss o
  | [], [] => by simp [voB, VO]
  | [], _ :: _ => by simp [voB, VO]
  | _ :: _, [] => by simp [voB, VO]
  | s :: ss, x :: xs => by
    simp only [voB, VO, Bool.and_eq_true, decide_eq_true_eq]
    rw [voB_iff]
theorem VO.len : ∀ {ss : List Int} {o : O}, VO ss o → o.length = ss.length
  | [], [], _ => rfl
  | [], _ :: _, h => h.elim
  | _ :: _, [], h => h.elim
  | _ :: _, _ :: _, h => by simp [VO.len h.2.2]
theorem VO.get : ∀ {ss : List Int} {o : O}, VO ss o → ∀ k, k < ss.length → 0 ≤ o.getD k 0 ∧ o.getD k 0 < ss.getD k 0
  | [], [], _, k, hk => by simp at hk
  | [], _ :: _, h, _, _ => h.elim
  | _ :: _, [], h, _, _ => h.elim
  | s :: ss, x :: xs, h, 0, _ => ⟨h.1, h.2.1⟩
  | s :: ss, x :: xs, h, k + 1, hk => by
    simpa using VO.get h.2.2 k (by simpa using hk)
theorem VO.of : ∀ {ss : List Int} {o : O}, o.length = ss.length → (∀ k, k < ss.length → 0 ≤ o.getD k 0 ∧ o.getD k 0 < ss.getD k 0) → VO ss o
  | [], [], _, _ => trivial
  | [], _ :: _, h, _ => by simp at h
  | _ :: _, [], h, _ => by simp at h
  | s :: ss, x :: xs, h, hk => by
    have h0 := hk 0 (by simp)
    refine ⟨by simpa using h0.1, by simpa using h0.2, VO.of (by simpa using h) fun k q => ?_⟩
    simpa using hk (k + 1) (by simpa using q)
/-- all outcomes, ascending -/
def outsF (fd : List O) (ss : List Int) : List O := ss.foldl (fun fd s => fd.flatMap fun o => (List.range s.toNat).map fun (r : Nat) => o ++ [(r : Int)]) fd
def outs (ss : List Int) : List O := outsF [[]] ss
theorem mem_outsF : ∀ {ss : List Int} {fd : List O} {o : O}, o ∈ outsF fd ss ↔ ∃ p ∈ fd, ∃ q, o = p ++ q ∧ VO ss q
  | [], fd, o => by
    constructor
    · intro h
      exact ⟨o, h, [], by simp, trivial⟩
    · rintro ⟨p, hp, q, rfl, hq⟩
      match q, hq with
      | [], _ => simpa [outsF] using hp
  | s :: ss, fd, o => by
    have e : outsF fd (s :: ss) = outsF (fd.flatMap fun o => (List.range s.toNat).map fun (r : Nat) => o ++ [(r : Int)]) ss := rfl
    rw [e, mem_outsF]
    constructor
    · rintro ⟨p, hp, q, rfl, hq⟩
      obtain ⟨p0, h0, h1⟩ := List.mem_flatMap.mp hp
      obtain ⟨r, hr, rfl⟩ := List.mem_map.mp h1
      have hr := List.mem_range.mp hr
      exact ⟨p0, h0, (r : Int) :: q, by simp, ⟨by omega, by omega, hq⟩⟩
    · rintro ⟨p, hp, q, rfl, hq⟩
      match q, hq with
      | x :: q, hq =>
        refine ⟨p ++ [x], List.mem_flatMap.mpr ⟨p, hp, List.mem_map.mpr ⟨x.toNat, List.mem_range.mpr ?_, ?_⟩⟩, q, by simp, hq.2.2⟩
        · have := hq.1
          have := hq.2.1
          omega
        · have := hq.1
          have : ((x.toNat : Nat) : Int) = x := by omega
          rw [this]
theorem mem_outs {ss : List Int} {o : O} : o ∈ outs ss ↔ VO ss o := by
  unfold outs
  rw [mem_outsF]
  constructor
  · rintro ⟨p, hp, q, rfl, hq⟩
    simp at hp
    subst hp
    exact hq
  · intro h
    exact ⟨[], by simp, o, rfl, h⟩
/-- so many times another one added -/
def addT (t : Int) (ss : List Int) (a b : O) : O := (List.range ss.length).map fun k => (a.getD k 0 + t * b.getD k 0) % ss.getD k 0
abbrev add (ss : List Int) (a b : O) : O := addT 1 ss a b
theorem addT_len {t : Int} {ss : List Int} {a b : O} : (addT t ss a b).length = ss.length := by simp [addT]
theorem addT_get {t : Int} {ss : List Int} {a b : O} {k : Nat} (hk : k < ss.length) : (addT t ss a b).getD k 0 = (a.getD k 0 + t * b.getD k 0) % ss.getD k 0 := by
  unfold addT
  rw [List.getD_eq_getElem?_getD, List.getElem?_map, List.getElem?_range hk]
  rfl
/-- sizes -/
def VS (ss : List Int) : Prop := ss ≠ [] ∧ ss.length ≤ 20 ∧ ∀ s ∈ ss, 2 ≤ s ∧ s ≤ 1000
theorem VS.get {ss : List Int} (h : VS ss) {k : Nat} (hk : k < ss.length) : 2 ≤ ss.getD k 0 ∧ ss.getD k 0 ≤ 1000 := by
  have e : ss.getD k 0 = ss[k] := by rw [List.getD_eq_getElem?_getD, List.getElem?_eq_getElem hk]; rfl
  rw [e]
  exact h.2.2 _ (List.getElem_mem hk)
theorem addT_vo {t : Int} {ss : List Int} {a b : O} (h : VS ss) : VO ss (addT t ss a b) := VO.of addT_len fun k hk => by
  have := h.get hk
  rw [addT_get hk]
  exact ⟨Int.emod_nonneg _ (by omega), Int.emod_lt_of_pos _ (by omega)⟩
theorem get_ext {n : Nat} {a b : O} (ha : a.length = n) (hb : b.length = n) (h : ∀ k, k < n → a.getD k 0 = b.getD k 0) : a = b := by
  refine List.ext_getElem (by rw [ha, hb]) fun k h1 h2 => ?_
  have := h k (ha ▸ h1)
  rw [List.getD_eq_getElem?_getD, List.getD_eq_getElem?_getD, List.getElem?_eq_getElem h1, List.getElem?_eq_getElem h2] at this
  exact this
theorem add_assoc {ss : List Int} (a b c : O) : add ss (add ss a b) c = add ss a (add ss b c) := by
  refine get_ext addT_len addT_len fun k hk => ?_
  rw [addT_get hk, addT_get hk, addT_get hk, addT_get hk]
  simp [Int.add_assoc]
theorem add_comm {ss : List Int} (a b : O) : add ss a b = add ss b a := by
  refine get_ext addT_len addT_len fun k hk => ?_
  rw [addT_get hk, addT_get hk]
  simp [Int.add_comm]
/-- the zero -/
def zero (ss : List Int) : O := ss.map fun _ => 0
theorem zero_get {ss : List Int} {k : Nat} : (zero ss).getD k 0 = 0 := by
  unfold zero
  rw [List.getD_eq_getElem?_getD, List.getElem?_map]
  cases ss[k]? <;> rfl
theorem zero_len {ss : List Int} : (zero ss).length = ss.length := by simp [zero]
theorem VO.mod {ss : List Int} {a : O} (h : VO ss a) {k : Nat} (hk : k < ss.length) : a.getD k 0 % ss.getD k 0 = a.getD k 0 := Int.emod_eq_of_lt (h.get k hk).1 (h.get k hk).2
theorem zero_add {ss : List Int} {a : O} (h : VO ss a) : add ss (zero ss) a = a := by
  refine get_ext addT_len h.len fun k hk => ?_
  rw [addT_get hk, zero_get]
  simpa using h.mod hk
theorem add_zero {ss : List Int} {a : O} (h : VO ss a) : add ss a (zero ss) = a := by rw [add_comm, zero_add h]
theorem VS.pos {ss : List Int} (h : VS ss) : ∀ s ∈ ss, 0 < s := fun s hs => by have := h.2.2 s hs; omega
theorem zero_vo : ∀ {ss : List Int}, (∀ s ∈ ss, 0 < s) → VO ss (zero ss)
  | [], _ => trivial
  | s :: ss, h => ⟨Int.le_refl 0, h s List.mem_cons_self, zero_vo fun x hx => h x (List.mem_cons_of_mem _ hx)⟩
/-- the first outcome is the zero -/
theorem outsF_head : ∀ {ss : List Int} {p : O} {fd : List O}, (∀ s ∈ ss, 0 < s) → ∃ r, outsF (p :: fd) ss = (p ++ zero ss) :: r
  | [], p, fd, _ => ⟨fd, by simp [outsF, zero]⟩
  | s :: ss, p, fd, h => by
    have hs := h s List.mem_cons_self
    obtain ⟨n, hn⟩ : ∃ n, s.toNat = n + 1 := ⟨s.toNat - 1, by omega⟩
    have e : outsF (p :: fd) (s :: ss) = outsF ((p :: fd).flatMap fun o => (List.range s.toNat).map fun (r : Nat) => o ++ [(r : Int)]) ss := rfl
    have e2 : ∃ r, ((p :: fd).flatMap fun o => (List.range s.toNat).map fun (r : Nat) => o ++ [(r : Int)]) = (p ++ [0]) :: r := by
      rw [hn, List.range_succ_eq_map]
      exact ⟨_, by rfl⟩
    obtain ⟨r, e2⟩ := e2
    rw [e, e2]
    obtain ⟨r2, e3⟩ := outsF_head (p := p ++ [0]) (fd := r) fun x hx => h x (List.mem_cons_of_mem _ hx)
    exact ⟨r2, by rw [e3]; simp [zero]⟩
theorem outs_head {ss : List Int} (h : VS ss) : ∃ r, outs ss = zero ss :: r := by
  obtain ⟨r, e⟩ := outsF_head (ss := ss) (p := []) (fd := []) h.pos
  exact ⟨r, e⟩
/-- the sum of a list -/
def sum (ss : List Int) (os : List O) : O := os.foldl (add ss) (zero ss)
theorem foldl_add {ss : List Int} (hs : VS ss) : ∀ (os : List O) (a : O), (∀ o ∈ os, VO ss o) → VO ss a → os.foldl (add ss) a = add ss a (sum ss os)
  | [], a, _, ha => by
    unfold sum
    simp only [List.foldl_nil]
    rw [add_zero ha]
  | o :: os, a, h, ha => by
    have ho := h o List.mem_cons_self
    have h' : ∀ x ∈ os, VO ss x := fun x hx => h x (List.mem_cons_of_mem _ hx)
    rw [List.foldl_cons, foldl_add hs os _ h' (addT_vo hs)]
    have e : sum ss (o :: os) = add ss o (sum ss os) := by
      unfold sum
      rw [List.foldl_cons, zero_add ho, foldl_add hs os o h' ho]
      rfl
    rw [e, add_assoc]
theorem foldl_vo {ss : List Int} (hs : VS ss) : ∀ (os : List O) (a : O), VO ss a → VO ss (os.foldl (add ss) a)
  | [], a, ha => ha
  | o :: os, a, ha => foldl_vo hs os _ (addT_vo hs)
theorem sum_vo {ss : List Int} (hs : VS ss) (os : List O) : VO ss (sum ss os) := foldl_vo hs os _ (zero_vo hs.pos)
theorem sum_cons {ss : List Int} (hs : VS ss) {o : O} {os : List O} (h : ∀ x ∈ o :: os, VO ss x) : sum ss (o :: os) = add ss o (sum ss os) := by
  have ho := h o List.mem_cons_self
  unfold sum
  rw [List.foldl_cons, zero_add ho, foldl_add hs os o (fun x hx => h x (List.mem_cons_of_mem _ hx)) ho]
  rfl
/-- the sums of some of the numbers: as the program makes them -/
def sumsF (ss : List Int) (ns : List O) : List O := ns.foldl (fun fd n => fd ++ fd.map fun o => add ss o n) [zero ss]
/-- choices of places -/
def choicesF (n : Nat) : List (List Nat) := (List.range n).foldl (fun fd k => fd ++ fd.map fun r => r ++ [k]) [[]]
theorem choices_succ (n : Nat) : choicesF (n + 1) = choicesF n ++ (choicesF n).map fun r => r ++ [n] := by
  unfold choicesF
  rw [List.range_succ, List.foldl_append]
  rfl
theorem sum_snoc {ss : List Int} {os : List O} {o : O} : sum ss (os ++ [o]) = add ss (sum ss os) o := by
  unfold sum
  rw [List.foldl_append]
  rfl
theorem choices_lt : ∀ {n : Nat} {r : List Nat}, r ∈ choicesF n → ∀ k ∈ r, k < n
  | 0, r, h, k, hk => by
    simp [choicesF] at h
    subst h
    cases hk
  | n + 1, r, h, k, hk => by
    rw [choices_succ] at h
    rcases List.mem_append.mp h with h | h
    · exact Nat.lt_succ_of_lt (choices_lt h k hk)
    · obtain ⟨r0, h0, rfl⟩ := List.mem_map.mp h
      rcases List.mem_append.mp hk with hk | hk
      · exact Nat.lt_succ_of_lt (choices_lt h0 k hk)
      · simp at hk
        omega
theorem sums_choices {ss : List Int} (ns : List O) : ∀ n, n ≤ ns.length → sumsF ss (ns.take n) = (choicesF n).map fun r => sum ss (r.map fun k => ns.getD k [])
  | 0, _ => by
    rw [List.take_zero]
    rfl
  | n + 1, h => by
    have hn : n < ns.length := h
    rw [choices_succ, List.map_append, ← sums_choices ns n (by omega), List.take_add_one, List.getElem?_eq_getElem hn]
    have e : sumsF ss (ns.take n ++ (some ns[n]).toList) = sumsF ss (ns.take n) ++ (sumsF ss (ns.take n)).map fun o => add ss o ns[n] := by
      unfold sumsF
      rw [List.foldl_append]
      rfl
    rw [e]
    congr 1
    rw [sums_choices ns n (by omega), List.map_map, List.map_map]
    refine List.map_congr_left fun r hr => ?_
    simp only [Function.comp]
    rw [List.map_append, List.map_cons, List.map_nil, sum_snoc]
    rw [List.getD_eq_getElem?_getD, List.getElem?_eq_getElem hn]
    rfl
theorem sumsF_vo {ss : List Int} (hs : VS ss) {ns : List O} : ∀ o ∈ sumsF ss ns, VO ss o := by
  have key : ∀ (ns : List O) (fd : List O), (∀ o ∈ fd, VO ss o) → ∀ o ∈ ns.foldl (fun fd n => fd ++ fd.map fun o => add ss o n) fd, VO ss o := by
    intro ns
    induction ns with
    | nil => intro fd h; exact h
    | cons n ns ih =>
      intro fd h
      rw [List.foldl_cons]
      refine ih _ fun o ho => ?_
      rcases List.mem_append.mp ho with ho | ho
      · exact h o ho
      · obtain ⟨p, _, rfl⟩ := List.mem_map.mp ho
        exact addT_vo hs
  refine key ns _ fun o ho => ?_
  simp at ho
  subst ho
  exact zero_vo hs.pos
/-- the late ones -/
theorem takeWhile_late {α : Type} (p : α → Bool) (xs : List α) : xs.foldl (fun fd x => if p x then fd ++ [x] else []) [] = ((xs.reverse).takeWhile p).reverse := by
  have key : ∀ (xs : List α), (xs.reverse).foldl (fun fd x => if p x then fd ++ [x] else []) [] = (xs.takeWhile p).reverse := by
    intro xs
    induction xs with
    | nil => rfl
    | cons x xs ih =>
      rw [List.reverse_cons, List.foldl_append, ih, List.takeWhile_cons]
      cases h : p x <;> simp [h]
  simpa using key xs.reverse
theorem VO.at : ∀ {ss : List Int} {o : O} {k : Nat} {s : Int}, VO ss o → ss[k]? = some s → ∃ x, o[k]? = some x ∧ 0 ≤ x ∧ x < s
  | [], _, _, _, _, h => by simp at h
  | _ :: _, [], _, _, h, _ => h.elim
  | s :: ss, x :: xs, 0, s', h, e => by
    simp at e
    subst e
    exact ⟨x, rfl, h.1, h.2.1⟩
  | s :: ss, x :: xs, k + 1, s', h, e => by
    obtain ⟨y, h1, h2⟩ := VO.at (k := k) h.2.2 (by simpa using e)
    exact ⟨y, by simpa using h1, h2⟩
theorem VS.at {ss : List Int} (h : VS ss) {k : Nat} {s : Int} (e : ss[k]? = some s) : 2 ≤ s ∧ s ≤ 1000 := h.2.2 s (List.mem_of_getElem? e)
theorem addT_zip {t : Int} {ss : List Int} {a b : O} : addT t ss a b = ss.zipIdx.map fun p => ((a[p.2]?).getD 0 + t * (b[p.2]?).getD 0) % p.1 := by
  refine List.ext_getElem (by simp [addT]) fun k h1 h2 => ?_
  have hk : k < ss.length := by simpa using h2
  simp [addT, hk]
theorem addT_range {t : Int} {ss : List Int} {a b : O} : addT t ss a b = (List.range ss.length).map fun k => ((a[k]?).getD 0 + t * (b[k]?).getD 0) % (ss[k]?).getD 0 := by
  unfold addT
  simp
/-- how many outcomes -/
def prodN : List Int → Nat
  | [] => 1
  | s :: ss => s.toNat * prodN ss
theorem flat_len {fd : List O} {n : Nat} : (fd.flatMap fun o => (List.range n).map fun (r : Nat) => o ++ [(r : Int)]).length = fd.length * n := by
  induction fd with
  | nil => simp
  | cons o fd ih =>
    rw [List.flatMap_cons, List.length_append, ih]
    simp [Nat.add_mul, Nat.add_comm]
theorem outsF_len : ∀ {ss : List Int} {fd : List O}, (outsF fd ss).length = fd.length * prodN ss
  | [], fd => by simp [outsF, prodN]
  | s :: ss, fd => by
    have e : outsF fd (s :: ss) = outsF (fd.flatMap fun o => (List.range s.toNat).map fun (r : Nat) => o ++ [(r : Int)]) ss := rfl
    rw [e, outsF_len, flat_len, prodN, Nat.mul_assoc]
theorem prodN_pos : ∀ {ss : List Int}, (∀ s ∈ ss, 0 < s) → 0 < prodN ss
  | [], _ => Nat.one_pos
  | s :: ss, h => Nat.mul_pos (by have := h s List.mem_cons_self; omega) (prodN_pos fun x hx => h x (List.mem_cons_of_mem _ hx))
theorem outs_len {ss : List Int} : (outs ss).length = prodN ss := by
  unfold outs
  rw [outsF_len]
  simp
end Gm

/-! Ge -/
set_option Elab.async false
set_option linter.all false
set_option maxRecDepth 100000
set_option maxHeartbeats 400000
/-! Ge: groups, draws, names, as data: what the laws' texts share. -/
namespace Gm
open PySem L2 PyProof.Rows IP
theorem forW_nx {w : Wl} {f : D → Ev → Mem → Rs} {d : D} {ds : List D} {e e1 : Ev} {m m1 : Mem} (hw : w.ok m) (h : f d e m = .nx e1 m1) : forW w f (d :: ds) e m = forW w f ds e1 m1 := by rw [forW, Wl.gd_pos hw, h]
theorem forW_ex {w : Wl} {f : D → Ev → Mem → Rs} {d : D} {ds : List D} {e e1 : Ev} {m m1 : Mem} {x : Exc} (hw : w.ok m) (h : f d e m = .ex x e1 m1) : forW w f (d :: ds) e m = .ex x e1 m1 := by rw [forW, Wl.gd_pos hw, h]
theorem forW_rt {w : Wl} {f : D → Ev → Mem → Rs} {d x : D} {ds : List D} {e : Ev} {m m1 : Mem} (hw : w.ok m) (h : f d e m = .rt x m1) : forW w f (d :: ds) e m = .rt x m1 := by rw [forW, Wl.gd_pos hw, h]
theorem forW_end {w : Wl} {f : D → Ev → Mem → Rs} {e : Ev} {m : Mem} (hw : w.ok m) : forW w f [] e m = .nx e m := by rw [forW, Wl.gd_pos hw]
/-- a walk over these -/
structure Wks (m : Mem) (nd : D) (w : Wl) (ds : List D) : Prop where
  wk : walkP m nd = some w
  xs : w.xs = ds
  ok : w.ok m
theorem Wks.lst {m : Mem} {ds : List D} : Wks m (.lst ds) (.of ds) ds := ⟨rfl, rfl, ok_of⟩
theorem Wks.tup {m : Mem} {ds : List D} : Wks m (.tup ds) (.of ds) ds := ⟨rfl, rfl, ok_of⟩
theorem Wks.ref {m : Mem} {n : Nat} {ds : List D} (h : m[n]? = some (.lst ds)) : Wks m (.ref n) (.at n ds) ds := ⟨k_walkP_ref h, rfl, ok_at h⟩
/-- a group -/
@[reducible] def gD (ss : List Int) : D := .ins "Group" [("kept_sizes", .lst (ss.map .int)), ("kept_outcomes", .lst ((outs ss).map oD))]
@[simp] theorem vw_gD {m : Mem} {ss : List Int} : vw m (gD ss) = gD ss := rfl
@[simp] theorem att_s {m : Mem} {ss : List Int} : attG (gD ss) "kept_sizes" m = some (.lst (ss.map .int)) := by simp [attG, gD]
@[simp] theorem att_o {m : Mem} {ss : List Int} : attG (gD ss) "kept_outcomes" m = some (.lst ((outs ss).map oD)) := by simp [attG, gD]
def hasI : List Int → List D → Bool
  | [], [] => true
  | s :: ss, .int x :: xs => decide (0 ≤ x) && decide (x < s) && hasI ss xs
  | _, _ => false
theorem hasI_ints : ∀ {ss : List Int} {o : O}, hasI ss (o.map .int) = true ↔ VO ss o
  | [], [] => by simp [hasI, VO]
  | [], _ :: _ => by simp [hasI, VO]
  | _ :: _, [] => by simp [hasI, VO]
  | s :: ss, x :: xs => by simp [hasI, VO, hasI_ints, and_assoc]
def chkP (p : D × Int) : Bool := match p.1 with
  | .int x => decide (0 ≤ x) && decide (x < p.2)
  | _ => false
theorem hasI_zip : ∀ {ss : List Int} {xs : List D}, xs.length = ss.length → ((List.zip xs ss).map chkP).all id = hasI ss xs
  | [], [], _ => rfl
  | [], _ :: _, h => by simp at h
  | _ :: _, [], h => by simp at h
  | s :: ss, x :: xs, h => by
    have ih := hasI_zip (ss := ss) (xs := xs) (by simpa using h)
    rw [List.zip_cons_cons, List.map_cons, List.all_cons, ih]
    cases x <;> simp [chkP, hasI]
theorem hasI_len : ∀ {ss : List Int} {xs : List D}, xs.length ≠ ss.length → hasI ss xs = false
  | [], [], h => (h rfl).elim
  | [], _ :: _, _ => rfl
  | s :: ss, [], h => by simp [hasI]
  | s :: ss, x :: xs, h => by
    have ih := hasI_len (ss := ss) (xs := xs) (by simpa using h)
    cases x <;> simp [hasI, ih]
theorem nice_ints {o : List Int} : ∀ x ∈ o.map D.int, nice x = true := by
  intro x hx
  obtain ⟨i, _, rfl⟩ := List.mem_map.mp hx
  rfl
/-- a list that holds a value that is no outcome -/
def hasV (ss : List Int) (d : D) : Bool := match d with
  | .tup xs => hasI ss xs
  | _ => false
def niceV (d : D) : Bool := match d with
  | .tup xs => xs.all nice
  | d => nice d
theorem sumsF_len {ss : List Int} {ns : List O} : (sumsF ss ns).length = 2 ^ ns.length := by
  have key : ∀ (ns : List O) (fd : List O), (ns.foldl (fun fd n => fd ++ fd.map fun o => add ss o n) fd).length = fd.length * 2 ^ ns.length := by
    intro ns
    induction ns with
    | nil => intro fd; simp
    | cons n ns ih =>
      intro fd
      rw [List.foldl_cons, ih]
      simp [Nat.pow_succ]
      rw [← Nat.two_mul, Nat.mul_comm 2, Nat.mul_assoc, Nat.mul_comm 2]
  rw [sumsF, key]
  simp
/-- sizes of the laws -/
def VN (ss : List Int) : Prop := VS ss ∧ (outs ss).length ≤ 1000
/-- what some of the numbers lead into an event -/
def rchP (ss : List Int) (ev ns : List O) (here : O) : Bool := (sumsF ss ns).any fun one => decide (add ss here one ∈ ev)
def reachL (ss : List Int) (ev ns : List O) : List O := (outs ss).filter (rchP ss ev ns)
theorem rchP_eq {ss : List Int} {ev ns : List O} {o : O} (hs : VS ss) : (((outs ss).filter fun s => decide (s ∈ sumsF ss ns)).any fun s => decide (add ss o s ∈ (outs ss).filter fun o => decide (o ∈ ev))) = rchP ss ev ns o := by
  unfold rchP
  rw [Bool.eq_iff_iff]
  simp only [List.any_eq_true, List.mem_filter, decide_eq_true_eq]
  constructor
  · rintro ⟨s, ⟨_, h2⟩, _, h4⟩
    exact ⟨s, h2, h4⟩
  · rintro ⟨s, h2, h4⟩
    exact ⟨s, ⟨mem_outs.mpr (sumsF_vo hs s h2), h2⟩, mem_outs.mpr (addT_vo hs), h4⟩
/-- a box, from which N may be drawn -/
def BO (N : Nat) (x : MO) : Prop := ∃ a b c : Int, x = .lst [.int a, .int b, .int c] ∧ 0 ≤ a ∧ 0 ≤ b ∧ b + N ≤ 1000000000 ∧ 0 ≤ c ∧ c ≤ 1000000000
theorem BO.mono {N M : Nat} {x : MO} (h : BO N x) (hm : M ≤ N) : BO M x := by
  obtain ⟨a, b, c, h1, h2, h3, h4, h5⟩ := h
  exact ⟨a, b, c, h1, h2, h3, by omega, h5⟩
theorem get_lt {m : Mem} {r : Nat} {x : MO} (h : m[r]? = some x) : r < m.length := (List.getElem?_eq_some_iff.mp h).1
theorem pow3 {z : Int} (h1 : 0 ≤ z) (h2 : z < 1000000000000000000000000000000000000000000) : powOk z 3 = true := powOk_of (Nat.lt_of_lt_of_le (m := 1000000000000000000000000000000000000000000) (by omega) (by decide +kernel)) (by decide) (by decide)
theorem mul2 {z k : Int} (h1 : 0 ≤ z) (h2 : z < 1000000000000000000000000000000000000000000) (h3 : 0 ≤ k) (h4 : k < 1000000000000000000000000000000000000000000) : mulOk z k = true := mulOk_of (Nat.lt_of_lt_of_le (m := 1000000000000000000000000000000000000000000) (by omega) (by decide +kernel)) (Nat.lt_of_lt_of_le (m := 1000000000000000000000000000000000000000000) (by omega) (by decide +kernel))
/-- 10 ** 18 -/
theorem pow18 : powOk 10 18 = true := by decide +kernel
theorem div64 : divOk 64 = true := by decide +kernel
theorem comp_draw {a : Type} {g : a → D} {f : D → Mem → Res (List D)} {r c : Nat} (P : a → List D → Prop) : ∀ (xs : List a), (∀ x ∈ xs, ∀ m N b, m[r]? = some b → BO (N + c) b → ∃ ys b', P x ys ∧ BO N b' ∧ f (g x) m = .ok ys (m.set r b')) →
    ∀ m N b, m[r]? = some b → BO (N + c * xs.length) b → ∃ (yss : List (List D)) (b' : MO), Al P xs yss ∧ BO N b' ∧ compL f (xs.map g) m = .ok yss.flatten (m.set r b')
  | [], _, m, N, b, hb, ho => ⟨[], b, .nil, ho.mono (by omega), by rw [set_id hb]; rfl⟩
  | x :: xs, h, m, N, b, hb, ho => by
    obtain ⟨ys, b1, p1, o1, e1⟩ := h x List.mem_cons_self m (N + c * xs.length) b hb (by
      have : N + c * (x :: xs).length = N + c * xs.length + c := by rw [List.length_cons, Nat.mul_add]; omega
      rw [← this]
      exact ho)
    obtain ⟨yss, b2, p2, o2, e2⟩ := comp_draw P xs (fun y hy => h y (List.mem_cons_of_mem _ hy)) (m.set r b1) N b1 (set_get hb) o1
    refine ⟨ys :: yss, b2, .cons p1 p2, o2, ?_⟩
    rw [List.map_cons, compL_ok e1 e2, set_same]
    rfl
theorem al_sub {os : List O} {yss : List (List D)} (p : Al (fun o ys => ys = [] ∨ ys = [oD o]) os yss) : ∃ ev : List O, (∀ o ∈ ev, o ∈ os) ∧ ev.length ≤ os.length ∧ yss.flatten = ev.map oD := by
  induction p with
  | nil => exact ⟨[], by simp, by simp, rfl⟩
  | @cons x y xs ys p1 p2 ih =>
    obtain ⟨o, h3, h5, h4⟩ := ih
    rcases p1 with rfl | rfl
    · exact ⟨o, fun z hz => List.mem_cons_of_mem _ (h3 z hz), by simp; omega, by simp [h4]⟩
    · refine ⟨x :: o, fun z hz => ?_, by simpa using h5, by simp [h4]⟩
      rcases List.mem_cons.mp hz with rfl | hz
      · exact List.mem_cons_self
      · exact List.mem_cons_of_mem _ (h3 z hz)
theorem choices_len : ∀ {n : Nat}, (choicesF n).length = 2 ^ n
  | 0 => rfl
  | n + 1 => by
    rw [choices_succ, List.length_append, List.length_map, choices_len, Nat.pow_succ]
    omega
theorem choices_rl : ∀ {n : Nat} {r : List Nat}, r ∈ choicesF n → r.length ≤ n
  | 0, r, h => by
    simp [choicesF] at h
    simp [h]
  | n + 1, r, h => by
    rw [choices_succ] at h
    rcases List.mem_append.mp h with h | h
    · have := choices_rl h
      omega
    · obtain ⟨r0, h0, rfl⟩ := List.mem_map.mp h
      have := choices_rl h0
      simp
      omega
abbrev nD (r : List Nat) : D := .lst (r.map fun (k : Nat) => D.int (k : Int))
def rowS (ss : List Int) (ns : List O) (o : O) (r : List Nat) : O := sum ss (o :: r.map fun k => (ns[k]?).getD [])
theorem rowS_reach {ss : List Int} {ev ns : List O} {o : O} (hs : VS ss) (ho : VO ss o) (hn : ∀ x ∈ ns, VO ss x) : decide (((choicesF ns.length).filter fun r => decide (rowS ss ns o r ∈ ev)).map (rowS ss ns o) = []) = !rchP ss ev ns o := by
  have h1 : ∀ r ∈ choicesF ns.length, rowS ss ns o r = add ss o (sum ss (r.map fun k => ns.getD k [])) := fun r hr => by
    unfold rowS
    have e : (r.map fun k => (ns[k]?).getD []) = r.map fun k => ns.getD k [] := by simp
    rw [e]
    refine sum_cons hs fun x hx => ?_
    rcases List.mem_cons.mp hx with rfl | hx
    · exact ho
    · obtain ⟨k, hk, rfl⟩ := List.mem_map.mp hx
      have := choices_lt hr k hk
      rw [List.getD_eq_getElem?_getD, List.getElem?_eq_getElem this]
      exact hn _ (List.getElem_mem this)
  have h2 := sums_choices (ss := ss) ns ns.length (Nat.le_refl _)
  rw [List.take_length] at h2
  unfold rchP
  rw [h2, Bool.eq_iff_iff]
  simp only [List.map_eq_nil_iff, List.filter_eq_nil_iff, decide_eq_true_eq, Bool.not_eq_true', List.any_map, List.any_eq_false, Function.comp]
  constructor
  · intro h r hr q
    exact h r hr (by rw [h1 r hr]; exact q)
  · intro h r hr q
    exact h r hr (by rw [← h1 r hr]; exact q)
def letters : List Nat := (Str.ofString "abcdefghijklmnopqrstuvwxyz").cps.toList
def isName (x : Str) : Bool := decide (1 ≤ x.length) && (decide (x.length ≤ 8) && x.cps.toList.all fun c => decide (c ∈ letters))
def nmB : D → Bool
  | .str x => isName x
  | _ => false
/-- items of an order: texts or others -/
def ordV (d : D) : Prop := (∃ x : Str, d = .str x ∧ x.length ≤ 1000) ∨ (nice d = true ∧ ∀ x, d ≠ .str x)
theorem nodup_take {xs : List Str} (h : xs.Nodup) {k : Nat} {x : Str} (hk : xs[k]? = some x) : x ∉ xs.take k := by
  intro hx
  obtain ⟨i, hi, e⟩ := List.getElem_of_mem hx
  have hi' : i < k := by simp at hi; omega
  obtain ⟨hk1, hk2⟩ := List.getElem?_eq_some_iff.mp hk
  have : xs[i] = xs[k] := by rw [hk2, ← e]; simp
  exact (List.pairwise_iff_getElem.mp h) i k _ _ hi' this
/-- an order of a law -/
structure OK_ (ns : List Str) : Prop where
  ne : ns ≠ []
  len : ns.length ≤ 1000
  nm : ∀ x ∈ ns, isName x = true ∧ x.length ≤ 1000 ∧ PyData.strOk x = true
  nd : ns.Nodup
/-- a league: a list or a tuple -/
def lgD (b : Bool) (lg : List Str) : D := if b then .tup (lg.map .str) else .lst (lg.map .str)
structure LG (ns lg : List Str) : Prop where
  len : lg.length ≤ 1000
  sub : ∀ x ∈ lg, x ∈ ns
  nd : lg.Nodup
theorem in_league {ns lg : List Str} {b : Bool} {x : Str} (h : OK_ ns) (hg : LG ns lg) (hx : PyData.strOk x = true) : cmpP .In (.str x) (lgD b lg) = some (decide (x ∈ lg)) := by
  cases b
  · simp only [lgD, Bool.false_eq_true, if_false, k_cmpP_inL]
    exact inB_s x lg hx fun y hy => (h.nm y (hg.sub y hy)).2.2
  · simp only [lgD, if_true, k_inTup]
    exact inU_s x lg
def lateF (ns lg : List Str) : List Str := ns.foldl (fun fd x => if decide (x ∈ lg) then fd ++ [x] else []) []
@[simp] theorem vw_lgD {m : Mem} {b : Bool} {lg : List Str} : vw m (lgD b lg) = lgD b lg := by cases b <;> rfl
theorem late_eq {ns lg : List Str} : lateF ns lg.reverse = ((ns.reverse).takeWhile fun x => decide (x ∈ lg)).reverse := by
  unfold lateF
  rw [takeWhile_late]
  simp
def seqD (b : Bool) (xs : List D) : D := if b then .tup xs else .lst xs
def cB (ns : List Str) : D → Bool
  | .str x => decide (x ∈ ns)
  | _ => false
theorem compL_cons {f : D → Mem → Res (List D)} {d : D} {ds : List D} {m : Mem} : compL f (d :: ds) m = match f d m with
    | .ok y m1 => (match compL f ds m1 with
      | .ok r m2 => .ok (y ++ r) m2
      | _ => .no)
    | _ => .no := Eq.trans rfl rfl
theorem inB_one {x : Str} (h : PyData.strOk x = true) : inB (.str x) [.str x] = some true := by
  have := inB_s x [x] h (by simpa using h)
  simpa using this
theorem inB_none {x : Str} (h : PyData.strOk x = true) : inB (.str x) [] = some false := by
  have := inB_s x [] h (by simp)
  simpa using this
theorem al_subG {a : Type} {g : a → D} {os : List a} {yss : List (List D)} (p : Al (fun o ys => ys = [] ∨ ys = [g o]) os yss) : ∃ ev : List a, ev.Sublist os ∧ yss.flatten = ev.map g := by
  induction p with
  | nil => exact ⟨[], List.Sublist.refl _, rfl⟩
  | @cons x y xs ys p1 p2 ih =>
    obtain ⟨o, h3, h4⟩ := ih
    rcases p1 with rfl | rfl
    · exact ⟨o, h3.cons _, by simp [h4]⟩
    · exact ⟨x :: o, h3.cons₂ _, by simp [h4]⟩
theorem set_app {m cs : Mem} {r : Nat} {x : MO} (h : r < m.length) : (m ++ cs).set r x = m.set r x ++ cs := List.set_append_left _ _ h
theorem get_app {m cs : Mem} {r : Nat} {x : MO} (h : m[r]? = some x) : (m ++ cs)[r]? = some x := by
  rw [List.getElem?_append_left (get_lt h)]
  exact h
theorem BO.und {N n : Nat} {x : MO} (h : BO N x) : x.und n = true := by
  obtain ⟨a, b, c, rfl, _⟩ := h
  show D.unds n _ = true
  simp
def okO (ns : List Str) : Bool := !ns.isEmpty && (decide (ns.length ≤ 1000) && ((ns.all fun x => isName x && (decide (x.length ≤ 1000) && PyData.strOk x)) && (decide ns.Nodup && !ns.contains (Str.ofString "zed"))))
theorem okO_ok {ns : List Str} (h : okO ns = true) : OK_ ns ∧ Str.ofString "zed" ∉ ns := by
  unfold okO at h
  simp only [Bool.and_eq_true, Bool.not_eq_true', decide_eq_true_eq, List.all_eq_true] at h
  obtain ⟨h1, h2, h3, h4, h5⟩ := h
  exact ⟨⟨(by intro e; subst e; simp at h1), h2, h3, h4⟩, by simpa using h5⟩
theorem ss_nx {g : IP.Gl} {xn : String → Option (List String)} {s : S} {r : Ss} {e e1 : Ev} {m m1 : Mem} (h : evS g xn s e m = .nx e1 m1) : evSs g xn (.cons s r) e m = evSs g xn r e1 m1 := by
  rw [evSs, h]
  rfl
abbrev tS (x : String) : D := .str (Str.ofString x)
theorem ordV_s {x : Str} (h : x.length ≤ 1000) : ordV (.str x) := .inl ⟨x, rfl, h⟩
theorem eqC_gd {k : Nat} {x : D} (hk : k ≤ 60) (h : Gd k x) {s : Str} (hs : PyData.strOk s = true) : eqC (.lst [.str s, x]) (.lst [.str s, x]) = some true :=
  k_eqC_of ((Gd.lst (k := k) (xs := [.str s, x]) (by intro y hy; simp at hy; rcases hy with rfl | rfl; exact (Gd.str hs).mono (Nat.zero_le _); exact h)).eq (by omega))
theorem eqJ_of {x y : D} {b : Bool} (h : eqB x y = some b) : eqJ x y = some b := by
  unfold eqJ
  split
  · unfold eqB at h
    rw [D.py] at h
    cases h
  · exact h
theorem eqI_ofJ {x y : D} {b : Bool} (h : eqJ x y = some b) : eqI x y = some b := by show eqN 4 x y = _; unfold eqN; rw [h]
theorem eqJ_rf {q : Nat} : eqJ (.ref q) (.ref q) = some true := by unfold eqJ; simp
theorem eqIs_2 {f : D → D → Option Bool} {x y : D} (hx : f x x = some true) (hy : f y y = some true) : eqIs f [x, y] [x, y] = some true := by
  rw [eqIs, eqIs, eqIs, hx, hy]
  rfl
theorem eqB_rf {q : Nat} {x : D} : eqB (.lst [x, .ref q]) (.lst [x, .ref q]) = none := by
  have h2 : (D.ref q).py = none := by rw [D.py]
  have h3 : (D.lst [x, .ref q]).py = none := by
    rw [py_lst, pys_cons, pys_cons, h2]
    cases x.py <;> rfl
  unfold eqB
  rw [h3]
theorem eqC_rf {q : Nat} {s : Str} (hs : PyData.strOk s = true) : eqC (.lst [.str s, .ref q]) (.lst [.str s, .ref q]) = some true := by
  unfold eqC
  rw [eqB_rf]
  exact eqIs_2 (eqI_ofJ (eqJ_of ((Gd.str hs).eq (by decide)))) (eqI_ofJ eqJ_rf)
theorem eqI_rf {q : Nat} {s : Str} (hs : PyData.strOk s = true) : eqI (.lst [.str s, .ref q]) (.lst [.str s, .ref q]) = some true :=
  Sm.lst (k := 3) (by
    intro x hx
    simp at hx
    rcases hx with rfl | rfl
    · exact Sm.gd (Gd.str hs) (by decide)
    · exact Sm.rf)
theorem eqC_rf2 {q : Nat} {s : Str} (hs : PyData.strOk s = true) : eqC (.lst [.lst [.str s, .ref q], .lst [.str s, .ref q]]) (.lst [.lst [.str s, .ref q], .lst [.str s, .ref q]]) = some true := by
  have h3 : (D.lst [.str s, .ref q]).py = none := by
    have h2 : (D.ref q).py = none := by rw [D.py]
    rw [py_lst, pys_cons, pys_cons, h2, py_str]
    rfl
  have h1 : eqB (.lst [.lst [.str s, .ref q], .lst [.str s, .ref q]]) (.lst [.lst [.str s, .ref q], .lst [.str s, .ref q]]) = none := by
    unfold eqB
    rw [py_lst, pys_cons, h3]
    rfl
  unfold eqC
  rw [h1]
  exact eqIs_2 (eqI_rf hs) (eqI_rf hs)
theorem eqC_gd2 {k : Nat} {x : D} (hk : k ≤ 60) (h : Gd k x) {s : Str} (hs : PyData.strOk s = true) : eqC (.lst [.lst [.str s, x], .lst [.str s, x]]) (.lst [.lst [.str s, x], .lst [.str s, x]]) = some true := by
  have g : Gd (k + 1) (.lst [.str s, x]) := Gd.lst (k := k) (xs := [.str s, x]) (by intro y hy; simp at hy; rcases hy with rfl | rfl; exact (Gd.str hs).mono (Nat.zero_le _); exact h)
  exact k_eqC_of ((Gd.lst (k := k + 1) (xs := [.lst [.str s, x], .lst [.str s, x]]) (by intro y hy; simp at hy; subst hy; exact g)).eq (by omega))
def menuS : List (List Int) := [[2], [3], [2, 2], [5], [6], [2, 3], [7], [2, 2, 2], [9], [3, 3], [4, 3], [11]]
theorem menuS_ok : ∀ ss ∈ menuS, VN ss := by
  unfold VN VS menuS
  decide +kernel
def odds2 (ss : List Int) : List D := [.non, .int 5, .lst [.int 0], .tup (ss.map .int), tS "0", .tup (List.replicate ss.length [D.bl true]).flatten]
theorem rep_true : ∀ {n : Nat}, (List.replicate n [D.bl true]).flatten = List.replicate n (D.bl true)
  | 0 => rfl
  | n + 1 => by rw [List.replicate_succ, List.flatten_cons, rep_true]; rfl
theorem odds2_ok {ss : List Int} (hs : VS ss) : ∀ odd ∈ odds2 ss, niceV odd = true ∧ hasV ss odd = false ∧ Gd 3 odd := by
  obtain ⟨s, r, hr⟩ : ∃ s r, ss = s :: r := by
    have := hs.1
    cases ss with
    | nil => exact absurd rfl this
    | cons s r => exact ⟨s, r, rfl⟩
  unfold odds2
  simp only [List.forall_mem_cons]
  refine ⟨⟨rfl, rfl, Gd.non.mono (by decide)⟩, ⟨rfl, rfl, Gd.int.mono (by decide)⟩, ⟨rfl, rfl, (Gd.lst (k := 0) (by intro x hx; simp at hx; subst hx; exact Gd.int)).mono (by decide)⟩,
    ⟨by simp [niceV], by rw [hr]; simp [hasV, hasI], Gd.o.mono (by decide)⟩, ⟨rfl, rfl, (Gd.str (by decide +kernel)).mono (by decide)⟩,
    ⟨by rw [rep_true]; simp [niceV], by rw [rep_true, hr]; simp [hasV, List.replicate_succ, hasI], (Gd.tup (k := 0) (by rw [rep_true]; intro x hx; have := (List.mem_replicate.mp hx).2; subst this; exact Gd.bl)).mono (by decide)⟩, fun _ h => (nomatch h)⟩
theorem reachL_congr {ss : List Int} {ev ev' ns : List O} (h : ∀ o, o ∈ ev' ↔ o ∈ ev) : reachL ss ev' ns = reachL ss ev ns := by
  have : rchP ss ev' ns = rchP ss ev ns := by
    funext o
    unfold rchP
    congr 1
    funext x
    rw [decide_eq_decide]
    exact h _
  unfold reachL
  rw [this]
end Gm

/-! Gf -/
set_option Elab.async false
set_option linter.all false
set_option maxRecDepth 100000
set_option maxHeartbeats 400000
/-! Gf: lists of outcomes, ascending; the best ones. -/
namespace Gm
open PySem L2 PyProof.Rows IP
@[simp] theorem k_atI_last {a : Type} {xs : List a} : atI xs (-1) = xs.getLast? := by
  unfold atI ixN
  rw [if_neg (by decide)]
  cases h : xs with
  | nil => rfl
  | cons x r =>
    rw [if_pos (by simp; omega), List.getLast?_eq_getElem?]
    simp only [Option.bind_some, List.length_cons]
    congr 1
    omega
@[simp] theorem k_le_o {a b : O} : cmpP .LtE (oD a) (oD b) = some (leTup a b) := by
  have h : ∀ {o : O}, intsD (o.map .int) = some o := k_intsD_map
  unfold cmpP
  simp [h]
/-- may be put behind -/
def okR (row : List O) (o : O) : Bool := match row.getLast? with
  | none => true
  | some l => leTup l o
def stepL (os : List O) (rows : List (List O)) : List (List O) := rows.flatMap fun row => (os.filter (okR row)).map fun o => row ++ [o]
def listsF (os : List O) : Nat → List (List O)
  | 0 => [[]]
  | n + 1 => stepL os (listsF os n)
theorem stepL_len {os : List O} : ∀ {rows : List (List O)}, (stepL os rows).length ≤ rows.length * os.length
  | [] => by simp [stepL]
  | r :: rows => by
    have ih := stepL_len (os := os) (rows := rows)
    have e : stepL os (r :: rows) = (os.filter (okR r)).map (fun o => r ++ [o]) ++ stepL os rows := rfl
    rw [e, List.length_append, List.length_map, List.length_cons, Nat.add_mul]
    have := List.length_filter_le (okR r) os
    omega
theorem listsF_len {os : List O} {k : Nat} (hk : os.length ≤ k) : ∀ {n : Nat}, (listsF os n).length ≤ k ^ n
  | 0 => by simp [listsF]
  | n + 1 => by
    have ih := listsF_len (os := os) hk (n := n)
    rw [listsF, Nat.pow_succ]
    exact Nat.le_trans stepL_len (Nat.mul_le_mul ih hk)
theorem listsF_mem {os : List O} : ∀ {n : Nat} {r : List O}, r ∈ listsF os n → r.length = n ∧ ∀ o ∈ r, o ∈ os
  | 0, r, h => by
    simp [listsF] at h
    subst h
    simp
  | n + 1, r, h => by
    rw [listsF, stepL] at h
    obtain ⟨r0, h0, h1⟩ := List.mem_flatMap.mp h
    obtain ⟨o, h2, rfl⟩ := List.mem_map.mp h1
    obtain ⟨q1, q2⟩ := listsF_mem h0
    refine ⟨by simp [q1], fun x hx => ?_⟩
    rcases List.mem_append.mp hx with hx | hx
    · exact q2 x hx
    · simp at hx
      subst hx
      exact (List.mem_filter.mp h2).1
theorem leTup_refl {a : List Int} : leTup a a = true := by
  unfold leTup
  have : ∀ (k i : Nat), Ob.lexAt (fun j => decide (a.getD j 0 = a.getD j 0)) (fun j => decide (a.getD j 0 ≤ a.getD j 0)) (decide (a.length ≤ a.length)) i k = true := by
    intro k
    induction k with
    | zero => intro i; simp [Ob.lexAt]
    | succ k ih => intro i; simp [Ob.lexAt]; simpa using ih (i + 1)
  exact this _ _
theorem listsF_ne {os : List O} (h : os ≠ []) : ∀ {n : Nat}, listsF os n ≠ []
  | 0 => by simp [listsF]
  | n + 1 => by
    have ih := listsF_ne h (n := n)
    obtain ⟨r, hr⟩ := List.exists_mem_of_ne_nil _ ih
    obtain ⟨o, ho, hk⟩ : ∃ o ∈ os, okR r o = true := by
      cases q : r.getLast? with
      | none =>
        obtain ⟨o, ho⟩ := List.exists_mem_of_ne_nil _ h
        exact ⟨o, ho, by unfold okR; rw [q]⟩
      | some l => exact ⟨l, (listsF_mem hr).2 l (List.mem_of_getLast? q), by unfold okR; rw [q]; exact leTup_refl⟩
    exact List.ne_nil_of_mem (a := r ++ [o]) (by
      rw [listsF, stepL]
      exact List.mem_flatMap.mpr ⟨r, hr, List.mem_map.mpr ⟨o, List.mem_filter.mpr ⟨ho, hk⟩, rfl⟩⟩)
/-- the first of the greatest ones -/
def bestF (sz : List O → Int) (rows : List (List O)) (p : List O × Int) : List O × Int := rows.foldl (fun p row => if p.2 < sz row then (row, sz row) else p) p
theorem bestF_ind {sz : List O → Int} (P : List O × Int → Prop) : ∀ (rows : List (List O)) (p : List O × Int), P p → (∀ r ∈ rows, P (r, sz r)) → P (bestF sz rows p)
  | [], p, h, _ => h
  | r :: rows, p, h, h2 => by
    unfold bestF
    rw [List.foldl_cons]
    refine bestF_ind P rows _ ?_ fun x hx => h2 x (List.mem_cons_of_mem _ hx)
    split
    · exact h2 r List.mem_cons_self
    · exact h
theorem bestF_mem {sz : List O → Int} {rows : List (List O)} (hn : rows ≠ []) (hs : ∀ r ∈ rows, 0 ≤ sz r) : (bestF sz rows ([], -1)).1 ∈ rows ∧ (bestF sz rows ([], -1)).2 = sz (bestF sz rows ([], -1)).1 := by
  cases rows with
  | nil => exact absurd rfl hn
  | cons r rows =>
    have h0 := hs r List.mem_cons_self
    unfold bestF
    rw [List.foldl_cons, if_pos (by show (-1 : Int) < sz r; omega)]
    exact bestF_ind (sz := sz) (fun p => p.1 ∈ r :: rows ∧ p.2 = sz p.1) rows (r, sz r) ⟨List.mem_cons_self, rfl⟩ fun x hx => ⟨List.mem_cons_of_mem _ hx, rfl⟩
theorem bestF_congr {sz sz' : List O → Int} : ∀ {rows : List (List O)} {p : List O × Int}, (∀ r ∈ rows, sz r = sz' r) → bestF sz rows p = bestF sz' rows p
  | [], _, _ => rfl
  | r :: rows, p, h => by
    unfold bestF
    rw [List.foldl_cons, List.foldl_cons, h r List.mem_cons_self]
    exact bestF_congr fun x hx => h x (List.mem_cons_of_mem _ hx)
/-! ### rows as cells -/
inductive Rows (b : Nat) (M : Mem) : List (List O) → List D → Prop where
  | nil : Rows b M [] []
  | cons {r : List O} {k : Nat} {rs : List (List O)} {ds : List D} : M[b + k]? = some (.lst (r.map oD)) → Rows b M rs ds → Rows b M (r :: rs) (.ref (b + k) :: ds)
theorem Rows.mono {b : Nat} {M M' : Mem} (h : ∀ (k : Nat) (c : MO), M[k]? = some c → M'[k]? = some c) : ∀ {rs : List (List O)} {ds : List D}, Rows b M rs ds → Rows b M' rs ds
  | _, _, .nil => .nil
  | _, _, .cons q r => .cons (h _ _ q) (Rows.mono h r)
theorem Rows.app {b : Nat} {M cs : Mem} {rs : List (List O)} {ds : List D} (h : Rows b M rs ds) : Rows b (M ++ cs) rs ds := h.mono fun k c q => get_app q
theorem Rows.join {b : Nat} {M : Mem} : ∀ {rs rs' : List (List O)} {ds ds' : List D}, Rows b M rs ds → Rows b M rs' ds' → Rows b M (rs ++ rs') (ds ++ ds')
  | _, _, _, _, .nil, h => h
  | _, _, _, _, .cons q r, h => .cons q (Rows.join r h)
theorem Rows.len {b : Nat} {M : Mem} : ∀ {rs : List (List O)} {ds : List D}, Rows b M rs ds → ds.length = rs.length
  | _, _, .nil => rfl
  | _, _, .cons _ r => by simp [r.len]
theorem Rows.fin {m cs : Mem} {rs : List (List O)} {ds : List D} (h : Rows m.length (m ++ cs) rs ds) : ∃ cs', fin m.length (.lst ds) (m ++ cs) = (.lst ds, m ++ cs') ∧ Rows m.length (m ++ cs') rs ds := by
  cases h with
  | nil =>
    rcases fin_val (n := m.length) (d := .lst []) (m := m ++ cs) (by intro k e; cases e) with q | q
    · exact ⟨cs, q, .nil⟩
    · exact ⟨[], by simpa using q, .nil⟩
  | cons q r =>
    refine ⟨cs, ?_, .cons q r⟩
    unfold IP.fin
    split
    · rfl
    · have e : ∀ {k : Nat} {ds : List D}, D.und m.length (.lst (.ref (m.length + k) :: ds)) = false := fun {k ds} => by
        rw [und_lst, unds_cons, D.und]
        have : ¬ (m.length + k < m.length) := by omega
        simp [this]
      rw [e]
      rfl
/-! ### while -/
theorem whN_mono {c : Ev → Mem → Res Bool} {f : Ev → Mem → Rs} : ∀ {n : Nat} {e : Ev} {m : Mem} {r : Rs}, whN c f n e m = some r → whN c f (n + 1) e m = some r
  | 0, _, _, _, h => by cases h
  | n + 1, e, m, r, h => by
    rw [whN] at h ⊢
    cases hc : c e m with
    | no => rw [hc] at h; exact h
    | ex x m1 => rw [hc] at h; exact h
    | ok t m1 =>
      rw [hc] at h
      cases t with
      | false => exact h
      | true =>
        dsimp only at h ⊢
        cases hf : f e m1 with
        | nx e2 m2 => rw [hf] at h; exact whN_mono h
        | ct e2 m2 => rw [hf] at h; exact whN_mono h
        | _ => rw [hf] at h; exact h
theorem whN_le {c : Ev → Mem → Res Bool} {f : Ev → Mem → Rs} {n k : Nat} {e : Ev} {m : Mem} {r : Rs} (h : whN c f n e m = some r) : whN c f (n + k) e m = some r := by
  induction k with
  | zero => exact h
  | succ k ih => exact whN_mono ih
theorem whL_of {c : Ev → Mem → Res Bool} {f : Ev → Mem → Rs} {n : Nat} {e : Ev} {m : Mem} {r : Rs} (h : whN c f n e m = some r) : whL c f e m = r := by
  unfold whL
  have hx : ∃ n r, whN c f n e m = some r := ⟨n, r, h⟩
  rw [dif_pos hx]
  have h2 := (Classical.choose_spec hx).choose_spec
  have q1 := whN_le (k := Classical.choose hx) h
  have q2 := whN_le (k := n) h2
  rw [Nat.add_comm] at q2
  rw [q1] at q2
  exact (Option.some.inj q2).symm
theorem whL_end {c : Ev → Mem → Res Bool} {f : Ev → Mem → Rs} {e : Ev} {m m1 : Mem} (h : c e m = .ok false m1) : whL c f e m = .nx e m1 := whL_of (n := 1) (by rw [whN, h])
theorem whL_step {c : Ev → Mem → Res Bool} {f : Ev → Mem → Rs} {e e2 : Ev} {m m1 m2 : Mem} (h : c e m = .ok true m1) (h2 : f e m1 = .nx e2 m2) : whL c f e m = whL c f e2 m2 := by
  by_cases q : ∃ n r, whN c f n e2 m2 = some r
  · obtain ⟨n, r, q⟩ := q
    rw [whL_of q, whL_of (n := n + 1) (r := r)]
    rw [whN, h]
    dsimp only
    rw [h2]
    exact q
  · have q2 : ¬ ∃ n r, whN c f n e m = some r := fun ⟨n, r, hn⟩ => by
      cases n with
      | zero => cases hn
      | succ n =>
        rw [whN, h] at hn
        dsimp only at hn
        rw [h2] at hn
        exact q ⟨n, r, hn⟩
    unfold whL
    rw [dif_neg q, dif_neg q2]
/-! ### differences, as keys -/
theorem sub_add {ss : List Int} {o e : O} (ho : VO ss o) : add ss (addT (-1) ss o e) e = o := by
  refine get_ext addT_len ho.len fun k hk => ?_
  rw [addT_get hk, addT_get hk]
  have h := ho.mod hk
  generalize o.getD k 0 = x at *
  generalize e.getD k 0 = y at *
  have : ((x + -1 * y) % ss.getD k 0 + 1 * y) % ss.getD k 0 = x % ss.getD k 0 := by
    rw [Int.emod_add_emod]
    congr 1
    omega
  rw [this, h]
theorem add_sub {ss : List Int} {o e : O} (ho : VO ss o) : addT (-1) ss (add ss o e) e = o := by
  refine get_ext addT_len ho.len fun k hk => ?_
  rw [addT_get hk, addT_get hk]
  have h := ho.mod hk
  generalize o.getD k 0 = x at *
  generalize e.getD k 0 = y at *
  have : ((x + 1 * y) % ss.getD k 0 + -1 * y) % ss.getD k 0 = x % ss.getD k 0 := by
    rw [Int.emod_add_emod]
    congr 1
    omega
  rw [this, h]
theorem outsF_nodup : ∀ {ss : List Int} {fd : List O}, fd.Nodup → (outsF fd ss).Nodup
  | [], fd, h => h
  | s :: ss, fd, h => by
    have e : outsF fd (s :: ss) = outsF (fd.flatMap fun o => (List.range s.toNat).map fun (r : Nat) => o ++ [(r : Int)]) ss := rfl
    rw [e]
    refine outsF_nodup ?_
    unfold List.Nodup
    rw [List.pairwise_flatMap]
    refine ⟨fun a _ => ?_, List.Pairwise.imp (fun hne x hx y hy => ?_) h⟩
    · rw [List.pairwise_map]
      refine List.Pairwise.imp (fun hne q => ?_) List.nodup_range
      have := List.append_cancel_left q
      simp at this
      omega
    · obtain ⟨r, _, rfl⟩ := List.mem_map.mp hx
      obtain ⟨r2, _, rfl⟩ := List.mem_map.mp hy
      intro q
      exact hne (List.append_inj_left' q rfl)
theorem outs_nodup {ss : List Int} : (outs ss).Nodup := outsF_nodup (by simp)
def addK (acc : List O) (o : O) : List O := if o ∈ acc then acc else acc ++ [o]
theorem addK_ok : ∀ (xs acc : List O), acc.Nodup → (xs.foldl addK acc).Nodup ∧ ∀ o, o ∈ xs.foldl addK acc ↔ o ∈ acc ∨ o ∈ xs
  | [], acc, h => ⟨h, fun o => by simp⟩
  | x :: xs, acc, h => by
    have h1 : (addK acc x).Nodup := by
      unfold addK
      split
      · exact h
      · rename_i q
        unfold List.Nodup
        rw [List.pairwise_append]
        refine ⟨h, by simp, fun a ha b hb e => ?_⟩
        simp at hb
        subst hb e
        exact q ha
    obtain ⟨h2, h3⟩ := addK_ok xs (addK acc x) h1
    refine ⟨h2, fun o => ?_⟩
    rw [List.foldl_cons, h3]
    unfold addK
    split
    · rename_i q
      simp only [List.mem_cons]
      constructor
      · rintro (h | h)
        · exact .inl h
        · exact .inr (.inr h)
      · rintro (h | rfl | h)
        · exact .inl h
        · exact .inl q
        · exact .inr h
    · simp only [List.mem_append, List.mem_cons, List.mem_singleton, List.not_mem_nil, or_false]
      constructor
      · rintro ((h | h) | h)
        · exact .inl h
        · exact .inr (.inl h)
        · exact .inr (.inr h)
      · rintro (h | h | h)
        · exact .inl (.inl h)
        · exact .inl (.inr h)
        · exact .inr h
def keysF (ss : List Int) (ends ev acc : List O) : List O := ev.foldl (fun acc o => ends.foldl (fun acc e => addK acc (addT (-1) ss o e)) acc) acc
theorem keysF_flat {ss : List Int} {ends : List O} : ∀ {ev acc : List O}, keysF ss ends ev acc = (ev.flatMap fun o => ends.map fun e => addT (-1) ss o e).foldl addK acc
  | [], acc => rfl
  | o :: ev, acc => by
    have e : keysF ss ends (o :: ev) acc = keysF ss ends ev (ends.foldl (fun acc e => addK acc (addT (-1) ss o e)) acc) := rfl
    rw [e, keysF_flat, List.flatMap_cons, List.foldl_append, List.foldl_map]
theorem keysF_len {ss : List Int} (hs : VS ss) {ev ns : List O} (he : ∀ o ∈ ev, VO ss o) : (keysF ss (sumsF ss ns) ev []).length = (reachL ss ev ns).length := by
  rw [keysF_flat]
  obtain ⟨h1, h2⟩ := addK_ok (ev.flatMap fun o => (sumsF ss ns).map fun e => addT (-1) ss o e) [] (by simp)
  refine (List.perm_ext_iff_of_nodup h1 (outs_nodup.filter _) |>.mpr fun k => ?_).length_eq
  rw [h2]
  simp only [List.not_mem_nil, false_or, List.mem_flatMap, List.mem_map, List.mem_filter, rchP, List.any_eq_true, decide_eq_true_eq]
  constructor
  · rintro ⟨o, ho, e, hes, rfl⟩
    exact ⟨mem_outs.mpr (addT_vo hs), e, hes, by rw [sub_add (he o ho)]; exact ho⟩
  · rintro ⟨hk, e, hes, hin⟩
    exact ⟨_, hin, e, hes, add_sub (mem_outs.mp hk)⟩
theorem nodup_sub_len {xs ys : List O} (h1 : xs.Nodup) (h2 : ys.Nodup) (h : ∀ x ∈ xs, x ∈ ys) : xs.length ≤ ys.length := by
  have p : (ys.filter fun y => decide (y ∈ xs)).Perm xs := (List.perm_ext_iff_of_nodup (h2.filter _) h1).mpr fun a => by
    simp only [List.mem_filter, decide_eq_true_eq]
    exact ⟨fun q => q.2, fun q => ⟨h a q, q⟩⟩
  rw [← p.length_eq]
  exact List.length_filter_le _ _
theorem keysF_le {ss : List Int} (hs : VS ss) {ends ev acc : List O} (ha : acc.Nodup) (hv : ∀ o ∈ acc, VO ss o) : (keysF ss ends ev acc).length ≤ (outs ss).length := by
  rw [keysF_flat]
  obtain ⟨h1, h2⟩ := addK_ok (ev.flatMap fun o => ends.map fun e => addT (-1) ss o e) acc ha
  exact nodup_sub_len h1 outs_nodup fun k hk => by
    rcases (h2 k).mp hk with h | h
    · exact mem_outs.mpr (hv k h)
    · obtain ⟨o, _, h⟩ := List.mem_flatMap.mp h
      obtain ⟨e, _, rfl⟩ := List.mem_map.mp h
      exact mem_outs.mpr (addT_vo hs)
def kvO (o : O) : D × D := (oD o, .bl true)
theorem mapM_keyD : ∀ {o : List Int}, (o.map D.int).mapM keyD = some (o.map Sum.inl)
  | [] => rfl
  | x :: o => by
    rw [List.map_cons, List.mapM_cons, mapM_keyD]
    rfl
theorem keyT_o {o : O} (h : o ≠ []) : keyT (oD o) = some (o.map Sum.inl) := by
  cases o with
  | nil => exact absurd rfl h
  | cons x o => exact mapM_keyD (o := x :: o)
theorem map_inl {a b : O} (h : a.map (Sum.inl : Int → Int ⊕ Str) = b.map Sum.inl) : a = b := by
  induction a generalizing b with
  | nil => cases b with | nil => rfl | cons => cases h
  | cons x a ih =>
    cases b with
    | nil => cases h
    | cons y b =>
      simp only [List.map_cons, List.cons.injEq] at h
      obtain ⟨h1, h2⟩ := h
      cases h1
      rw [ih h2]
theorem putP_t {acc : List O} {o : O} (ho : o ≠ []) (ha : ∀ x ∈ acc, x ≠ []) : putP .t (acc.map kvO) (oD o) (.bl true) = some ((addK acc o).map kvO) := by
  have key : ∀ x ∈ acc, decide (keyT (kvO x).1 = some (o.map Sum.inl)) = decide (x = o) := fun x hx => by
    rw [show (kvO x).1 = oD x from rfl, keyT_o (ha x hx)]
    by_cases q : x = o
    · subst q; simp
    · have : ¬ (x.map (Sum.inl : Int → Int ⊕ Str) = o.map Sum.inl) := fun e => q (map_inl e)
      simp [q, this]
  unfold putP
  dsimp only
  rw [keyT_o ho]
  simp only [Option.map_some, Option.some.injEq]
  have h1 : ((acc.map kvO).any fun p => decide (keyT p.1 = some (o.map Sum.inl))) = decide (o ∈ acc) := by
    rw [List.any_map, Bool.eq_iff_iff, List.any_eq_true, decide_eq_true_eq]
    constructor
    · rintro ⟨x, hx, q⟩
      simp only [Function.comp] at q
      rw [key x hx] at q
      exact of_decide_eq_true q ▸ hx
    · intro h
      refine ⟨o, h, ?_⟩
      simp only [Function.comp]
      rw [key o h]
      simp
  rw [h1]
  unfold addK
  by_cases q : o ∈ acc
  · rw [if_pos (by simpa using q), if_pos q, List.map_map]
    refine List.map_congr_left fun x hx => ?_
    simp only [Function.comp]
    by_cases e : keyT (kvO x).1 = some (o.map Sum.inl)
    · rw [if_pos e]; rfl
    · rw [if_neg e]
  · rw [if_neg (by simpa using q), if_neg q, List.map_append]
    rfl
end Gm

/-! Gt -/
set_option Elab.async false
set_option linter.all false
set_option maxRecDepth 100000
set_option maxHeartbeats 1000000
/-! Gt: texts of outcomes, read and told: plain mathematics. -/
namespace Gm
open PySem L2 PyProof.Rows IP
abbrev tl (x : Str) : List Nat := x.cps.toList
theorem tl_ext {x y : Str} (h : tl x = tl y) : x = y := Str.ext' (Array.toList_inj.mp h)
theorem tl_len (x : Str) : x.length = (tl x).length := by simp [tl, Str.length]
def digB (c : Nat) : Bool := decide (48 ≤ c) && decide (c ≤ 57)
theorem dig_mem {c : Nat} : c ∈ tl (Str.ofString "0123456789") ↔ digB c = true := by
  have e : tl (Str.ofString "0123456789") = [48, 49, 50, 51, 52, 53, 54, 55, 56, 57] := by decide +kernel
  rw [e]
  unfold digB
  simp
  omega
def allDig (cs : List Nat) : Bool := cs.all digB
theorem allDig_iff {cs : List Nat} : allDig cs = true ↔ NumText.AllDigits cs := by
  unfold allDig NumText.AllDigits digB
  simp
def vD (cs : List Nat) : Nat := NumText.digitsVal cs
theorem vD_lt : ∀ (cs : List Nat) (a : Nat), cs.foldl (fun acc c => acc * 10 + (c - 48)) a < (a + 1) * 10 ^ cs.length ∨ ∃ c ∈ cs, 57 < c
  | [], a => .inl (by simp)
  | c :: cs, a => by
    rw [List.foldl_cons]
    rcases vD_lt cs (a * 10 + (c - 48)) with h | ⟨d, hd, h⟩
    · by_cases hc : 57 < c
      · exact .inr ⟨c, List.mem_cons_self, hc⟩
      · left
        refine Nat.lt_of_lt_of_le h ?_
        rw [List.length_cons, Nat.pow_succ, Nat.mul_comm (10 ^ cs.length) 10, ← Nat.mul_assoc]
        exact Nat.mul_le_mul_right _ (by omega)
    · exact .inr ⟨d, List.mem_cons_of_mem _ hd, h⟩
theorem vD_bound {cs : List Nat} (h : allDig cs = true) : vD cs < 10 ^ cs.length := by
  have h := allDig_iff.mp h
  rcases vD_lt cs 0 with q | ⟨c, hc, q⟩
  · unfold vD NumText.digitsVal
    simpa using q
  · have := h c hc
    omega
/-- the text of a number -/
def nT (i : Int) : Str := toString i
/-- what a word tells, as the law reads it -/
def Qv (w : Str) : Option Int := if tl w ≠ [] ∧ allDig (tl w) = true then (if nT (vD (tl w) : Nat) = w then some ((vD (tl w) : Nat) : Int) else none) else none
/-- .. as the program does -/
def Pv (w : Str) : Option Int := match tl w with
  | 45 :: cs => if cs ≠ [] ∧ allDig cs = true then (if nT (-((vD cs : Nat) : Int)) = w then some (-((vD cs : Nat) : Int)) else none) else none
  | _ => Qv w
def oI : Option Int → D
  | some i => .int i
  | none => .non
theorem Pv_of {w : Str} (h : ∀ cs, tl w ≠ 45 :: cs) : Pv w = Qv w := by
  unfold Pv
  split
  · rename_i cs e
    exact absurd e (h cs)
  · rfl
theorem QP {w : Str} {i : Int} (h : Qv w = some i) : Pv w = some i ∧ 0 ≤ i := by
  have h' := h
  unfold Qv at h
  split at h
  · rename_i hd
    split at h
    · cases h
      refine ⟨?_, by omega⟩
      rw [Pv_of fun cs e => ?_, h']
      have := allDig_iff.mp hd.2 45 (by rw [e]; exact List.mem_cons_self)
      omega
    · cases h
  · cases h
theorem tl_zero : tl (nT 0) = [48] := by decide +kernel
theorem PQ {w : Str} {i : Int} (h : Pv w = some i) (h0 : 0 ≤ i) : Qv w = some i := by
  unfold Pv at h
  split at h
  · rename_i cs e
    split at h
    · split at h
      · rename_i hw
        cases h
        have hz : ((vD cs : Nat) : Int) = 0 := by omega
        rw [hz] at hw
        have : tl w = [48] := by rw [← hw]; exact tl_zero
        rw [e] at this
        cases this
      · cases h
    · cases h
  · exact h
instance encOpt : Enc (Option Int) where
  en := oI
  pd := fun o => match o with | some i => .int i | none => .none
  dp := 0
  py := fun o => by cases o <;> first | exact py_non | exact py_int _
  ok := fun _ => True
  sh := fun o _ => by cases o <;> rfl
  de := fun o => by cases o <;> exact Nat.le_refl _
  eq := fun x y => by cases x <;> cases y <;> simp [PyData.eqv, BEq.beq]
theorem inB_opt (os : List (Option Int)) : inB .non (os.map oI) = some (decide (none ∈ os)) := (inB_enc (I := encOpt) (by decide) none os trivial fun _ _ => trivial).trans (by congr)
theorem eqC_s {a b : Str} (ha : PyData.strOk a = true) (hb : PyData.strOk b = true) : eqC (.str a) (.str b) = some (decide (a = b)) := k_eqC_of (eqB_enc (I := encStr) (by decide) a b ha hb)
theorem eqC_ss {a b : List Str} (ha : ∀ x ∈ a, PyData.strOk x = true) (hb : ∀ x ∈ b, PyData.strOk x = true) : eqC (.lst (a.map .str)) (.lst (b.map .str)) = some (decide (a = b)) := k_eqC_of (eqB_ss a b ha hb)
theorem strOk_of {x : Str} (h : ∀ c ∈ tl x, c < 0x110000) : PyData.strOk x = true := by
  unfold PyData.strOk
  rw [← Array.all_toList, List.all_eq_true]
  intro c hc
  exact decide_eq_true (h c hc)
theorem ofStr_ok (s : String) : PyData.strOk (Str.ofString s) = true := by
  refine strOk_of fun c hc => ?_
  have e : tl (Str.ofString s) = s.toList.map Char.toNat := by
    show (Str.ofString s).cps.toList = _
    rw [Str.ofString_eq_toList]
  rw [e] at hc
  obtain ⟨ch, _, rfl⟩ := List.mem_map.mp hc
  have h := ch.valid
  have h2 : ch.toNat = ch.val.toNat := rfl
  rw [h2]
  rcases h with h | ⟨_, h⟩
  · have : ch.val.toNat < 0xd800 := h
    omega
  · exact h
/-- the words of a text -/
def wds (p : Str) : List Str := Txt.split p (Str.ofString ",")
theorem spl_mem {L acc w : List Nat} (h : w ∈ TL.spl [44] 0 acc L) : w.length ≤ acc.length + L.length ∧ ∀ c ∈ w, c ∈ acc ∨ c ∈ L := by
  induction L generalizing acc with
  | nil =>
    rw [TL.spl_nil] at h
    simp at h
    subst h
    exact ⟨by simp, fun c hc => .inl hc⟩
  | cons a L ih =>
    cases hp : TL.pre [44] (a :: L) with
    | true =>
      rw [TL.spl_hit hp] at h
      rcases List.mem_cons.mp h with rfl | h
      · exact ⟨by omega, fun c hc => .inl hc⟩
      · obtain ⟨h1, h2⟩ := ih h
        refine ⟨by simp at h1 ⊢; omega, fun c hc => ?_⟩
        rcases h2 c hc with q | q
        · cases q
        · exact .inr (List.mem_cons_of_mem _ q)
    | false =>
      rw [TL.spl_miss hp] at h
      obtain ⟨h1, h2⟩ := ih h
      refine ⟨by simp at h1 ⊢; omega, fun c hc => ?_⟩
      rcases h2 c hc with q | q
      · rcases List.mem_append.mp q with q | q
        · exact .inl q
        · simp at q
          subst q
          exact .inr List.mem_cons_self
      · exact .inr (List.mem_cons_of_mem _ q)
theorem spl_len {L acc : List Nat} : (TL.spl [44] 0 acc L).length ≤ L.length + 1 := by
  induction L generalizing acc with
  | nil => rw [TL.spl_nil]; simp
  | cons a L ih =>
    cases hp : TL.pre [44] (a :: L) with
    | true =>
      rw [TL.spl_hit hp]
      have := ih (acc := [])
      simp at this ⊢
      omega
    | false =>
      rw [TL.spl_miss hp]
      have := ih (acc := acc ++ [a])
      simp at this ⊢
      omega
theorem wds_tl (p : Str) : (wds p).map tl = TL.spl [44] 0 [] (tl p) := by
  have e : tl (Str.ofString ",") = [44] := by decide +kernel
  have h := TL.split_spl p (Str.ofString ",") (by show tl (Str.ofString ",") ≠ []; rw [e]; simp) (by
    have : Builtin.Str.strKind (Str.ofString ",") = 1 := by decide +kernel
    rw [this]
    unfold Builtin.Str.strKind
    split
    · omega
    · split <;> omega)
  have h2 : TL.tl (Str.ofString ",") = [44] := e
  rw [h2] at h
  exact h
theorem wds_mem {p w : Str} (h : w ∈ wds p) : w.length ≤ p.length ∧ ∀ c ∈ tl w, c ∈ tl p := by
  have h1 : tl w ∈ TL.spl [44] 0 [] (tl p) := by rw [← wds_tl]; exact List.mem_map.mpr ⟨w, h, rfl⟩
  obtain ⟨h2, h3⟩ := spl_mem h1
  rw [tl_len, tl_len]
  refine ⟨by simpa using h2, fun c hc => ?_⟩
  rcases h3 c hc with q | q
  · cases q
  · exact q
theorem wds_len (p : Str) : (wds p).length ≤ p.length + 1 := by
  have h := congrArg List.length (wds_tl p)
  rw [List.length_map] at h
  have := spl_len (L := tl p) (acc := [])
  rw [tl_len]
  omega
end Gm

/-! Gk -/
set_option Elab.async false
set_option linter.all false
set_option maxRecDepth 100000
set_option maxHeartbeats 1000000
/-! Gk: fractions as Rat, ways of a draw gone through backwards: plain mathematics. -/
namespace Gm
open PySem L2 PyProof.Rows IP
/-- a fraction, as the laws tell it -/
abbrev tD (q : Rat) : D := .tup [.int q.num, .int (q.den : Int)]
structure Bd (k : Nat) (q : Rat) : Prop where
  nn : 0 ≤ q.num
  up : q.num < 2 ^ k
  dn : (q.den : Int) < 2 ^ k
theorem num_of {a b : Nat} (hb : 0 < b) : (Rat.divInt a b).num = (a : Int) / (Nat.gcd a b : Nat) := by
  rw [Rat.num_divInt]
  have h1 : Int.sign (b : Int) = 1 := Int.sign_eq_one_of_pos (by omega)
  rw [h1, Int.one_mul, Nat.gcd_comm]
  rfl
theorem den_of {a b : Nat} (hb : 0 < b) : ((Rat.divInt a b).den : Int) = (b : Int) / (Nat.gcd a b : Nat) := by
  rw [Rat.den_divInt]
  have h1 : ¬ ((b : Int) = 0) := by omega
  rw [if_neg h1, Nat.gcd_comm]
  show ((b / Int.gcd b a : Nat) : Int) = _
  rw [Int.natCast_ediv]
  rfl
theorem tD_of {a b : Nat} (hb : 0 < b) : tD (Rat.divInt a b) = .tup [.int ((a : Int) / (Nat.gcd a b : Nat)), .int ((b : Int) / (Nat.gcd a b : Nat))] := by
  unfold tD
  rw [num_of hb, den_of hb]
theorem Bd.of {a b k : Nat} (hb : 0 < b) (h1 : a < 2 ^ k) (h2 : b < 2 ^ k) : Bd k (Rat.divInt a b) := by
  refine ⟨?_, ?_, ?_⟩
  · rw [num_of hb]
    exact Int.ediv_nonneg (by omega) (by omega)
  · rw [num_of hb]
    have : (a : Int) / (Nat.gcd a b : Nat) ≤ a := Int.ediv_le_self _ (by omega)
    have h3 : (a : Int) < ((2 ^ k : Nat) : Int) := by omega
    rw [Int.natCast_pow] at h3
    exact Int.lt_of_le_of_lt this h3
  · rw [den_of hb]
    have : (b : Int) / (Nat.gcd a b : Nat) ≤ b := Int.ediv_le_self _ (by omega)
    have h3 : (b : Int) < ((2 ^ k : Nat) : Int) := by omega
    rw [Int.natCast_pow] at h3
    exact Int.lt_of_le_of_lt this h3
theorem Bd.nat {k : Nat} {q : Rat} (h : Bd k q) : ∃ a : Nat, q.num = a ∧ a < 2 ^ k ∧ q.den < 2 ^ k ∧ 0 < q.den := by
  refine ⟨q.num.toNat, by have := h.nn; omega, ?_, ?_, q.den_pos⟩
  · have h1 := h.up
    have h2 := h.nn
    have : ((2 ^ k : Nat) : Int) = 2 ^ k := by rw [Int.natCast_pow]; rfl
    omega
  · have h1 := h.dn
    have : ((2 ^ k : Nat) : Int) = 2 ^ k := by rw [Int.natCast_pow]; rfl
    omega
theorem add_frac (p q : Rat) : p + q = Rat.divInt (p.num * q.den + q.num * p.den) (p.den * q.den) := by
  have h := Rat.divInt_add_divInt p.num q.num (d₁ := (p.den : Int)) (d₂ := (q.den : Int)) (by have := p.den_pos; omega) (by have := q.den_pos; omega)
  rw [Rat.num_divInt_den, Rat.num_divInt_den] at h
  exact h
theorem mul_frac (p q : Rat) : p * q = Rat.divInt (p.num * q.num) (p.den * q.den) := by
  have h := Rat.divInt_mul_divInt p.num q.num (d₁ := (p.den : Int)) (d₂ := (q.den : Int))
  rw [Rat.num_divInt_den, Rat.num_divInt_den] at h
  exact h
theorem Bd.add {k l : Nat} {p q : Rat} (hp : Bd k p) (hq : Bd l q) : Bd (k + l + 1) (p + q) := by
  obtain ⟨a, ea, ha, hb, hb0⟩ := hp.nat
  obtain ⟨c, ec, hc, hd, hd0⟩ := hq.nat
  rw [add_frac, ea, ec]
  have e : ((a : Int) * q.den + c * p.den) = ((a * q.den + c * p.den : Nat) : Int) := by simp
  have e2 : ((p.den : Int) * q.den) = ((p.den * q.den : Nat) : Int) := by simp
  rw [e, e2]
  have h1 : a * q.den < 2 ^ k * 2 ^ l := Nat.mul_lt_mul'' ha hd
  have h2 : c * p.den < 2 ^ l * 2 ^ k := Nat.mul_lt_mul'' hc hb
  have h3 : p.den * q.den < 2 ^ k * 2 ^ l := Nat.mul_lt_mul'' hb hd
  have h4 : 2 ^ (k + l + 1) = 2 ^ k * 2 ^ l + 2 ^ k * 2 ^ l := by rw [Nat.pow_succ, Nat.pow_add]; omega
  rw [Nat.mul_comm (2 ^ l)] at h2
  exact Bd.of (Nat.mul_pos hb0 hd0) (by omega) (by omega)
theorem Bd.mul {k l : Nat} {p q : Rat} (hp : Bd k p) (hq : Bd l q) : Bd (k + l) (p * q) := by
  obtain ⟨a, ea, ha, hb, hb0⟩ := hp.nat
  obtain ⟨c, ec, hc, hd, hd0⟩ := hq.nat
  rw [mul_frac, ea, ec]
  have e : ((a : Int) * c) = ((a * c : Nat) : Int) := by simp
  have e2 : ((p.den : Int) * q.den) = ((p.den * q.den : Nat) : Int) := by simp
  rw [e, e2]
  exact Bd.of (Nat.mul_pos hb0 hd0) (by rw [Nat.pow_add]; exact Nat.mul_lt_mul'' ha hc) (by rw [Nat.pow_add]; exact Nat.mul_lt_mul'' hb hd)
theorem Bd.mono {k l : Nat} {q : Rat} (h : Bd k q) (hl : k ≤ l) : Bd l q := by
  have : (2 : Int) ^ k ≤ 2 ^ l := by
    have := Nat.pow_le_pow_right (n := 2) (by decide) hl
    have e1 : ((2 ^ k : Nat) : Int) = 2 ^ k := by rw [Int.natCast_pow]; rfl
    have e2 : ((2 ^ l : Nat) : Int) = 2 ^ l := by rw [Int.natCast_pow]; rfl
    omega
  exact ⟨h.nn, Int.lt_of_lt_of_le h.up this, Int.lt_of_lt_of_le h.dn this⟩
theorem Bd.zero {k : Nat} (hk : 0 < k) : Bd k 0 := by
  have : (2 : Int) ^ 1 ≤ 2 ^ k := by
    have := Nat.pow_le_pow_right (n := 2) (by decide) hk
    have e2 : ((2 ^ k : Nat) : Int) = 2 ^ k := by rw [Int.natCast_pow]; rfl
    omega
  exact ⟨Int.le_refl 0, Int.lt_of_lt_of_le (by decide) this, Int.lt_of_lt_of_le (by decide) this⟩
/-! ways -/
def liftS (ss : List Int) (x : O) (F : O → Rat) (o : O) : Rat := if F (add ss o x) < F o then F o else F (add ss o x)
def sumQ (F : O → Rat) (os : List O) : Rat := os.foldl (fun s o => s + F o) 0
def meanF (ss : List Int) (F : O → Rat) : Rat := sumQ F (outs ss) * Rat.divInt 1 (outs ss).length
def valF (ss : List Int) (num : Str → Option O) : List Str → (O → Rat) → O → Rat
  | [], F => F
  | n :: ns, F => valF ss num ns (match num n with | some x => liftS ss x F | none => fun _ => meanF ss F)
theorem valF_app {ss : List Int} {num : Str → Option O} : ∀ (a b : List Str) (F : O → Rat), valF ss num (a ++ b) F = valF ss num b (valF ss num a F)
  | [], _, _ => rfl
  | n :: a, b, F => by
    rw [List.cons_append, valF, valF, valF_app a b]
theorem rchP_snoc {ss : List Int} {ev xs : List O} {x o : O} : rchP ss ev (xs ++ [x]) o = (rchP ss ev xs o || rchP ss ev xs (add ss o x)) := by
  have e : sumsF ss (xs ++ [x]) = sumsF ss xs ++ (sumsF ss xs).map fun o => add ss o x := by
    unfold sumsF
    rw [List.foldl_append]
    rfl
  unfold rchP
  rw [e, List.any_append, List.any_map]
  congr 2
  funext one
  simp only [Function.comp]
  rw [add_assoc, add_comm x one]
theorem add_swap {ss : List Int} (o x y : O) : add ss (add ss o x) y = add ss (add ss o y) x := by rw [add_assoc, add_assoc, add_comm x y]
theorem rchP_cons {ss : List Int} {ev : List O} {x : O} : ∀ (xs : List O) (o : O), rchP ss ev (x :: xs) o = (rchP ss ev xs o || rchP ss ev xs (add ss o x)) := by
  have key : ∀ (n : Nat) (xs : List O), xs.length = n → ∀ o, rchP ss ev (x :: xs) o = (rchP ss ev xs o || rchP ss ev xs (add ss o x)) := by
    intro n
    induction n with
    | zero =>
      intro xs h o
      have := List.eq_nil_of_length_eq_zero h
      subst this
      exact rchP_snoc (xs := [])
    | succ n ih =>
      intro xs h o
      rcases List.eq_nil_or_concat xs with rfl | ⟨ys, y, rfl⟩
      · simp at h
      · rw [List.concat_eq_append] at h ⊢
        have hl : ys.length = n := by simpa using h
        rw [← List.cons_append, rchP_snoc, rchP_snoc, rchP_snoc, ih ys hl, ih ys hl, add_swap o x y]
        cases rchP ss ev ys o <;> cases rchP ss ev ys (add ss o x) <;> cases rchP ss ev ys (add ss o y) <;> rfl
  exact fun xs o => key xs.length xs rfl o
theorem rchP_perm {ss : List Int} {ev : List O} {xs ys : List O} (h : xs.Perm ys) : ∀ o, rchP ss ev xs o = rchP ss ev ys o := by
  induction h with
  | nil => intro o; rfl
  | cons x _ ih => intro o; rw [rchP_cons, rchP_cons, ih, ih]
  | swap x y l =>
    intro o
    rw [rchP_cons, rchP_cons, rchP_cons, rchP_cons, rchP_cons, rchP_cons, add_swap o x y]
    cases rchP ss ev l o <;> cases rchP ss ev l (add ss o x) <;> cases rchP ss ev l (add ss o y) <;> rfl
  | trans _ _ ih1 ih2 => intro o; rw [ih1, ih2]
theorem reachL_perm {ss : List Int} {ev : List O} {xs ys : List O} (h : xs.Perm ys) : reachL ss ev xs = reachL ss ev ys := by
  have : rchP ss ev xs = rchP ss ev ys := funext (rchP_perm h)
  unfold reachL
  rw [this]
def bQ (b : Bool) : Rat := if b then 1 else 0
/-- what is known on the way -/
def StA (ss : List Int) (ev xs : List O) (F : O → Rat) : Prop := ∀ o, VO ss o → F o = bQ (rchP ss ev xs o)
def StB (ss : List Int) (k : Nat) (F : O → Rat) : Prop := ∀ o, VO ss o → F o = Rat.divInt k (outs ss).length
theorem StA.lift {ss : List Int} {ev xs : List O} {F : O → Rat} {x : O} (hs : VS ss) (h : StA ss ev xs F) : StA ss ev (xs ++ [x]) (liftS ss x F) := fun o ho => by
  unfold liftS
  rw [h o ho, h _ (addT_vo hs), rchP_snoc]
  cases rchP ss ev xs o <;> cases rchP ss ev xs (add ss o x) <;> decide
theorem StB.lift {ss : List Int} {k : Nat} {F : O → Rat} {x : O} (hs : VS ss) (h : StB ss k F) : StB ss k (liftS ss x F) := fun o ho => by
  unfold liftS
  rw [h o ho, h _ (addT_vo hs)]
  split <;> rfl
theorem foldl_count {p : O → Bool} : ∀ (l : List O) (s : Rat), l.foldl (fun s o => s + bQ (p o)) s = s + ((l.filter p).length : Nat)
  | [], s => by simp [Rat.add_zero]
  | o :: l, s => by
    rw [List.foldl_cons, foldl_count l, List.filter_cons]
    cases h : p o
    · simp [bQ, Rat.add_zero]
    · simp only [bQ, if_true, List.length_cons]
      have : ((((l.filter p).length + 1 : Nat)) : Rat) = ((l.filter p).length : Nat) + 1 := by
        rw [Rat.natCast_add]
        rfl
      rw [this]
      grind
theorem nat_div (n N : Nat) : ((n : Nat) : Rat) * Rat.divInt 1 N = Rat.divInt n N := by
  have e : ((n : Nat) : Rat) = Rat.divInt n 1 := by
    have := Rat.num_divInt_den ((n : Nat) : Rat)
    rw [Rat.num_natCast, Rat.den_natCast] at this
    exact this.symm
  rw [e, Rat.divInt_mul_divInt]
  simp
theorem foldl_congr {F G : O → Rat} : ∀ {l : List O} {s : Rat}, (∀ o ∈ l, F o = G o) → l.foldl (fun s o => s + F o) s = l.foldl (fun s o => s + G o) s
  | [], _, _ => rfl
  | o :: l, s, h => by rw [List.foldl_cons, List.foldl_cons, h o List.mem_cons_self, foldl_congr fun x hx => h x (List.mem_cons_of_mem _ hx)]
theorem StA.mean {ss : List Int} {ev xs : List O} {F : O → Rat} (h : StA ss ev xs F) : meanF ss F = Rat.divInt (reachL ss ev xs).length (outs ss).length := by
  unfold meanF sumQ
  rw [foldl_congr (G := fun o => bQ (rchP ss ev xs o)) fun o ho => h o (mem_outs.mp ho), foldl_count, Rat.zero_add]
  exact nat_div _ _
theorem foldl_same {c : Rat} : ∀ (l : List O) (s : Rat), l.foldl (fun s _ => s + c) s = s + (l.length : Nat) * c
  | [], s => by simp [Rat.add_zero]
  | o :: l, s => by
    rw [List.foldl_cons, foldl_same l, List.length_cons]
    have : ((l.length + 1 : Nat) : Rat) = (l.length : Nat) + 1 := by
      rw [Rat.natCast_add]
      rfl
    rw [this]
    grind
theorem StB.mean {ss : List Int} {k : Nat} {F : O → Rat} (hs : VS ss) (h : StB ss k F) : meanF ss F = Rat.divInt k (outs ss).length := by
  unfold meanF sumQ
  rw [foldl_congr (G := fun _ => Rat.divInt k (outs ss).length) fun o ho => h o (mem_outs.mp ho), foldl_same, Rat.zero_add]
  obtain ⟨r, hr⟩ := outs_head hs
  have hN : 0 < (outs ss).length := by rw [hr]; simp
  generalize (outs ss).length = N at hN
  have e : ((N : Nat) : Rat) = Rat.divInt N 1 := by
    have := Rat.num_divInt_den ((N : Nat) : Rat)
    rw [Rat.num_natCast, Rat.den_natCast] at this
    exact this.symm
  rw [e, Rat.divInt_mul_divInt, Rat.divInt_mul_divInt]
  have h0 : (N : Int) ≠ 0 := by omega
  have := Rat.divInt_mul_left (n := (k : Int)) (d := (N : Int)) h0
  rw [← this]
  congr 1 <;> simp
end Gm

/-! Gh -/
set_option Elab.async false
set_option linter.all false
set_option maxRecDepth 100000
set_option maxHeartbeats 1000000
/-! Gh: houses as data. -/
namespace Gm
open PySem L2 PyProof.Rows IP
/-- sealed numbers; turns -/
abbrev Se := List (Str × O)
abbrev Tn := List (Str × Str)
def kv (r : Se) : List (D × D) := r.map fun p => (.str p.1, oD p.2)
def tv (tn : Tn) : List D := tn.map fun p => D.tup [.str p.1, .str p.2]
@[reducible] def sD (se : Se) (tn : Tn) : D := .ins "State" [("sealed", .dic .k (kv se)), ("turns", .lst (tv tn))]
@[reducible] def hC (ss : List Int) (od lg : List Str) (xs : List D) (st : List D) : MO :=
  .ins "House" [("space", gD ss), ("persons", .lst (od.map .str)), ("league", .lst (lg.map .str)), ("states", .lst xs), ("steps", .lst st), ("gone", .lst [])]
theorem get_kv {n : Str} : ∀ {r : Se}, getP .k (kv r) (.str n) = some ((r.lookup n).map oD)
  | [] => rfl
  | (a, o) :: r => by
    have ih := get_kv (n := n) (r := r)
    unfold getP at ih ⊢
    dsimp only [keyD] at ih ⊢
    simp only [Option.map_some, Option.some.injEq] at ih ⊢
    unfold kv at ih ⊢
    rw [List.map_cons, List.find?_cons]
    dsimp only [keyD]
    rw [List.lookup_cons]
    by_cases q : a = n
    · subst q
      simp
    · have h1 : (n == a) = false := by simpa using fun e => q e.symm
      have h2 : ¬ ((some (Sum.inr a : Int ⊕ Str)) = some (Sum.inr n)) := fun e => q (by injection e with e; injection e)
      simp only [h1, h2, decide_false]
      exact ih
theorem lookup_none {n : Str} : ∀ {r : Se}, r.lookup n = none ↔ n ∉ r.map (·.1)
  | [] => by simp
  | (a, o) :: r => by
    rw [List.lookup_cons, List.map_cons]
    by_cases q : n = a
    · subst q
      simp
    · have h1 : (n == a) = false := by simpa using q
      rw [h1]
      simp [q, lookup_none (r := r)]
theorem put_kv {n : Str} {o : O} {r : Se} (h : r.lookup n = none) : putP .k (kv r) (.str n) (oD o) = some (kv (r ++ [(n, o)])) := by
  have h1 := lookup_none.mp h
  have h2 : ((kv r).any fun p => decide (keyD p.1 = some (Sum.inr n))) = false := by
    rw [List.any_eq_false]
    intro p hp
    obtain ⟨x, hx, rfl⟩ := List.mem_map.mp hp
    have hne : x.1 ≠ n := fun e => h1 (e ▸ List.mem_map.mpr ⟨x, hx, rfl⟩)
    dsimp only [keyD]
    simpa using hne
  show some (if ((kv r).any fun p => decide (keyD p.1 = some (Sum.inr n))) = true then _ else _) = _
  rw [if_neg (by rw [h2]; exact Bool.false_ne_true)]
  simp [kv]
theorem undK_kv {n : Nat} : ∀ {r : Se}, D.undK n (kv r) = true
  | [] => by unfold kv; rw [List.map_nil, D.undK]
  | (a, o) :: r => by
    have ih := undK_kv (n := n) (r := r)
    unfold kv at ih ⊢
    rw [List.map_cons, D.undK, ih]
    simp
theorem unds_tv {n : Nat} {tn : Tn} : D.unds n (tv tn) = true := unds_map fun _ _ => by simp
@[simp] theorem und_kv {n : Nat} {r : Se} : D.und n (.dic .k (kv r)) = true := by rw [D.und]; exact undK_kv
@[simp] theorem und_tv {n : Nat} {tn : Tn} : D.und n (.lst (tv tn)) = true := by rw [D.und]; exact unds_tv
@[simp] theorem len_kv {r : Se} : (kv r).length = r.length := by simp [kv]
@[simp] theorem len_tv {r : Tn} : (tv r).length = r.length := by simp [tv]
@[simp] theorem und_sD {n : Nat} {se : Se} {tn : Tn} : D.und n (sD se tn) = true := by simp [unds_tv]
section
variable {ss : List Int} {od lg : List Str} {xs st : List D} {m : Mem} {h : Nat}
theorem vw_h (e : m[h]? = some (hC ss od lg xs st)) : vw m (.ref h) = .ins "House" [("space", gD ss), ("persons", .lst (od.map .str)), ("league", .lst (lg.map .str)), ("states", .lst xs), ("steps", .lst st), ("gone", .lst [])] := k_vw_refi e
theorem att_h (e : m[h]? = some (hC ss od lg xs st)) (f : String) : attG (.ref h) f m = List.lookup f [("space", gD ss), ("persons", .lst (od.map .str)), ("league", .lst (lg.map .str)), ("states", .lst xs), ("steps", .lst st), ("gone", .lst [])] := by
  unfold attG
  rw [vw_h e]
end
/-- {**d, x: o} of values -/
theorem ev_dup {g : IP.Gl} {e : Ev} {m : Mem} {a k v : E} {r : Se} {x : Str} {o : O} (ha : ∀ m, ev g a e m = .ok (.dic .k (kv r)) m) (hk : ∀ m, ev g k e m = .ok (.str x) m) (hv : ∀ m, ev g v e m = .ok (oD o) m) (hl : r.lookup x = none) (hz : r.length ≤ 1000) (hW : WM m) :
    ev g (.frz (.dup a k v)) e m = .ok (.dic .k (kv (r ++ [(x, o)]))) m := by
  have hz1 : r.length < sizeLine := by
    have : (1000000 : Nat) ≤ sizeLine := by decide
    omega
  have hz2 : (kv r).length < sizeLine := by rw [len_kv]; exact hz1
  rw [r_ev_frz, r_ev_dup, ha]
  simp only [Res.bind_ok]
  have g1 : (m ++ [MO.dic .k []])[m.length]? = some (.dic .k []) := get_new
  have s1 : ∀ c : MO, (m ++ [MO.dic .k []]).set m.length c = m ++ [c] := fun c => set_new
  have g2 : (m ++ [MO.dic .k (kv r)])[m.length]? = some (.dic .k (kv r)) := get_new
  have s2 : ∀ c : MO, (m ++ [MO.dic .k (kv r)]).set m.length c = m ++ [c] := fun c => set_new
  have v1 : vw (m ++ [MO.dic .k []]) (.dic .k (kv r)) = .dic .k (kv r) := rfl
  have c1 : (decide ((kv r).length < sizeLine) && nrfD m.length (.dic .k (kv r))) = true := by rw [decide_eq_true hz2]; rfl
  rw [v1, g1]
  dsimp only
  rw [if_pos c1, s1, hk]
  simp only [Res.bind_ok]
  rw [hv]
  simp only [Res.bind_ok]
  rw [g2]
  dsimp only
  rw [if_pos (decide_eq_true hz2), put_kv hl]
  dsimp only
  rw [s2]
  unfold frzD
  have g3 : (m ++ [MO.dic .k (kv (r ++ [(x, o)]))])[m.length]? = some (.dic .k (kv (r ++ [(x, o)]))) := get_new
  have ht : (m ++ [MO.dic .k (kv (r ++ [(x, o)]))]).take m.length = m := by simp
  unfold WM at hW
  simp only [Res.bind_ok]
  rw [ht, g3]
  simp [hW, undK_kv]
theorem ev_new {g : IP.Gl} {e : Ev} {m : Mem} (hW : WM m) : ev g (.frz (.dic .k true .nil)) e m = .ok (.dic .k (kv [])) m := by
  unfold WM at hW
  have g1 : (m ++ [MO.dic .k []])[m.length]? = some (.dic .k []) := get_new
  have s1 : ∀ c : MO, (m ++ [MO.dic .k []]).set m.length c = m ++ [c] := fun c => set_new
  have ht : (m ++ [MO.dic .k []]).take m.length = m := by simp
  have h0 : D.undK m.length ([] : List (D × D)) = true := undK_kv (r := [])
  simp [keysOk, kv, frzD, hW, h0]
end Gm

/-! Gi -/
set_option Elab.async false
set_option linter.all false
set_option maxRecDepth 100000
set_option maxHeartbeats 1000000
/-! Gi: what a league can hope: plain. -/
namespace Gm
open PySem L2 PyProof.Rows IP
def hon (lg left : List Str) : Bool := left.any fun x => !decide (x ∈ lg)
def lastL (lg : List Str) : List Str → List Str
  | [] => []
  | x :: r => if hon lg r then lastL lg r else if x ∈ lg then x :: r else r
def hopeC (ss : List Int) (ev : List O) (lg : List Str) (f : Str → O) (here : O) (left : List Str) : Nat :=
  if hon lg left then (reachL ss ev ((lastL lg left).map f)).length else if here ∈ reachL ss ev (left.map f) then (outs ss).length else 0
theorem mem_reachL {ss : List Int} {ev ns : List O} {h : O} : h ∈ reachL ss ev ns ↔ VO ss h ∧ rchP ss ev ns h = true := by
  unfold reachL
  rw [List.mem_filter, mem_outs]
theorem hon_cons {lg : List Str} {x : Str} {r : List Str} : hon lg (x :: r) = (!decide (x ∈ lg) || hon lg r) := by
  unfold hon
  rw [List.any_cons]
theorem lastL_sub {lg : List Str} : ∀ {l : List Str}, ∀ x ∈ lastL lg l, x ∈ l
  | [], x, h => h
  | y :: r, x, h => by
    unfold lastL at h
    split at h
    · exact List.mem_cons_of_mem _ (lastL_sub x h)
    · split at h
      · exact h
      · exact List.mem_cons_of_mem _ h
theorem hopeC_le {ss : List Int} {ev : List O} {lg : List Str} {f : Str → O} {here : O} {left : List Str} : hopeC ss ev lg f here left ≤ (outs ss).length := by
  unfold hopeC
  split
  · exact List.length_filter_le _ _
  · split
    · exact Nat.le_refl _
    · exact Nat.zero_le _
/-- a league's person's turn -/
theorem hopeC_in {ss : List Int} {ev : List O} {lg : List Str} {f : Str → O} {here : O} {x : Str} {r : List Str} (hs : VS ss) (hh : VO ss here) (hx : VO ss (f x)) (hl : x ∈ lg) :
    hopeC ss ev lg f here (x :: r) = if hopeC ss ev lg f (add ss here (f x)) r < hopeC ss ev lg f here r then hopeC ss ev lg f here r else hopeC ss ev lg f (add ss here (f x)) r := by
  unfold hopeC
  rw [hon_cons, lastL]
  by_cases q : hon lg r = true
  · simp [q]
  · have q' : hon lg r = false := by simpa using q
    have v2 : VO ss (add ss here (f x)) := addT_vo hs
    have hp : 0 < (outs ss).length := by
      obtain ⟨r, e⟩ := outs_head hs
      rw [e]
      simp
    simp only [q', hl, decide_true, Bool.not_true, Bool.or_false, Bool.false_eq_true, if_false, List.map_cons]
    by_cases a : rchP ss ev (r.map f) here = true
    · have m1 : here ∈ reachL ss ev (f x :: r.map f) := mem_reachL.mpr ⟨hh, by rw [rchP_cons, a]; rfl⟩
      have m2 : here ∈ reachL ss ev (r.map f) := mem_reachL.mpr ⟨hh, a⟩
      rw [if_pos m1, if_pos m2]
      by_cases w : add ss here (f x) ∈ reachL ss ev (r.map f)
      · rw [if_pos w, if_neg (Nat.lt_irrefl _)]
      · rw [if_neg w, if_pos hp]
    · have m2 : here ∉ reachL ss ev (r.map f) := fun z => a (mem_reachL.mp z).2
      rw [if_neg m2]
      by_cases b : rchP ss ev (r.map f) (add ss here (f x)) = true
      · have m1 : here ∈ reachL ss ev (f x :: r.map f) := mem_reachL.mpr ⟨hh, by rw [rchP_cons, b]; simp⟩
        have m3 : add ss here (f x) ∈ reachL ss ev (r.map f) := mem_reachL.mpr ⟨v2, b⟩
        rw [if_pos m1, if_pos m3, if_neg (by omega)]
      · have m1 : here ∉ reachL ss ev (f x :: r.map f) := fun z => by
          have := (mem_reachL.mp z).2
          rw [rchP_cons] at this
          simp [a, b] at this
        have m3 : add ss here (f x) ∉ reachL ss ev (r.map f) := fun z => b (mem_reachL.mp z).2
        rw [if_neg m1, if_neg m3]
        simp
theorem hopeC_congr {ss : List Int} {ev : List O} {lg : List Str} {f f' : Str → O} {here : O} {r : List Str} (h : ∀ x ∈ r, f x = f' x) : hopeC ss ev lg f here r = hopeC ss ev lg f' here r := by
  unfold hopeC
  have h1 : (lastL lg r).map f = (lastL lg r).map f' := List.map_congr_left fun x hx => h x (lastL_sub x hx)
  have h2 : r.map f = r.map f' := List.map_congr_left h
  rw [h1, h2]
theorem sum_const {a : Type} {xs : List a} {c : Nat} : (xs.map fun _ => c).sum = xs.length * c := by
  induction xs with
  | nil => simp
  | cons x xs ih => rw [List.map_cons, List.sum_cons, ih, List.length_cons, Nat.add_mul]; omega
theorem sum_ite {a : Type} {xs : List a} {p : a → Bool} {c : Nat} : (xs.map fun x => if p x then c else 0).sum = (xs.filter p).length * c := by
  induction xs with
  | nil => simp
  | cons x xs ih =>
    rw [List.map_cons, List.sum_cons, ih, List.filter_cons]
    cases p x <;> simp [Nat.add_mul]
    omega
theorem shift_len {ss : List Int} {here : O} {p : O → Bool} (hs : VS ss) (hh : VO ss here) : ((outs ss).filter fun o => p (add ss here o)).length = ((outs ss).filter p).length := by
  have nd := outs_nodup (ss := ss)
  have n1 : (((outs ss).filter fun o => p (add ss here o)).map (add ss here)).Nodup := by
    unfold List.Nodup
    rw [List.pairwise_map]
    refine List.Pairwise.imp_of_mem (fun {a b} ha hb hne he => hne ?_) (nd.filter _)
    have va := mem_outs.mp (List.mem_filter.mp ha).1
    have vb := mem_outs.mp (List.mem_filter.mp hb).1
    have h1 := add_sub (e := here) va
    have h2 := add_sub (e := here) vb
    rw [add_comm a] at h1
    rw [add_comm b, ← he] at h2
    rw [← h1, ← h2]
  have pm : (((outs ss).filter fun o => p (add ss here o)).map (add ss here)).Perm ((outs ss).filter p) := (List.perm_ext_iff_of_nodup n1 (nd.filter _)).mpr fun a => by
    rw [List.mem_map]
    constructor
    · rintro ⟨o, ho, rfl⟩
      obtain ⟨h1, h2⟩ := List.mem_filter.mp ho
      exact List.mem_filter.mpr ⟨mem_outs.mpr (addT_vo hs), h2⟩
    · intro ha
      obtain ⟨h1, h2⟩ := List.mem_filter.mp ha
      have va := mem_outs.mp h1
      have e : add ss here (addT (-1) ss a here) = a := by rw [add_comm]; exact sub_add va
      exact ⟨addT (-1) ss a here, List.mem_filter.mpr ⟨mem_outs.mpr (addT_vo hs), by rw [e]; exact h2⟩, e⟩
  have := pm.length_eq
  rw [List.length_map] at this
  exact this
/-- an honest person's turn -/
theorem hopeC_out {ss : List Int} {ev : List O} {lg : List Str} {f : Str → O} {g : O → Str → O} {here : O} {x : Str} {r : List Str} (hs : VS ss) (hh : VO ss here) (hl : x ∉ lg) (hg : ∀ o, ∀ y ∈ r, g o y = f y) :
    (outs ss).length * hopeC ss ev lg f here (x :: r) = ((outs ss).map fun o => hopeC ss ev lg (g o) (add ss here o) r).sum := by
  have e1 : ((outs ss).map fun o => hopeC ss ev lg (g o) (add ss here o) r) = (outs ss).map fun o => hopeC ss ev lg f (add ss here o) r := List.map_congr_left fun o _ => hopeC_congr (hg o)
  rw [e1]
  unfold hopeC
  rw [hon_cons, lastL]
  simp only [hl, decide_false, Bool.not_false, Bool.true_or, if_true, if_false]
  by_cases q : hon lg r = true
  · simp only [q, if_true]
    rw [sum_const]
  · have q' : hon lg r = false := by simpa using q
    simp only [q', Bool.false_eq_true, if_false]
    have e2 : ((outs ss).map fun o => if add ss here o ∈ reachL ss ev (r.map f) then (outs ss).length else 0) = (outs ss).map fun o => if rchP ss ev (r.map f) (add ss here o) then (outs ss).length else 0 := List.map_congr_left fun o ho => by
      have v : VO ss (add ss here o) := addT_vo hs
      by_cases a : rchP ss ev (r.map f) (add ss here o) = true
      · rw [if_pos (mem_reachL.mpr ⟨v, a⟩), if_pos a]
      · rw [if_neg (fun z => a (mem_reachL.mp z).2), if_neg a]
    rw [e2, sum_ite, shift_len (p := rchP ss ev (r.map f)) hs hh, Nat.mul_comm]
    rfl
theorem rchP_or {ss : List Int} {e1 e2 e3 ns : List O} {o : O} (h : ∀ x, VO ss x → (x ∈ e3 ↔ x ∈ e1 ∨ x ∈ e2)) (hs : VS ss) : rchP ss e3 ns o = (rchP ss e1 ns o || rchP ss e2 ns o) := by
  unfold rchP
  rw [Bool.eq_iff_iff, Bool.or_eq_true, List.any_eq_true, List.any_eq_true, List.any_eq_true]
  constructor
  · rintro ⟨y, hy, hd⟩
    rcases (h _ (addT_vo hs)).mp (of_decide_eq_true hd) with z | z
    · exact .inl ⟨y, hy, decide_eq_true z⟩
    · exact .inr ⟨y, hy, decide_eq_true z⟩
  · rintro (⟨y, hy, hd⟩ | ⟨y, hy, hd⟩)
    · exact ⟨y, hy, decide_eq_true ((h _ (addT_vo hs)).mpr (.inl (of_decide_eq_true hd)))⟩
    · exact ⟨y, hy, decide_eq_true ((h _ (addT_vo hs)).mpr (.inr (of_decide_eq_true hd)))⟩
theorem filter_or_le {a : Type} {p q r : a → Bool} : ∀ {xs : List a}, (∀ x ∈ xs, r x = (p x || q x)) → (xs.filter r).length ≤ (xs.filter p).length + (xs.filter q).length ∧ (xs.filter p).length ≤ (xs.filter r).length
  | [], _ => by simp
  | x :: xs, h => by
    obtain ⟨h1, h2⟩ := filter_or_le (xs := xs) fun y hy => h y (List.mem_cons_of_mem _ hy)
    have hx := h x List.mem_cons_self
    rw [List.filter_cons, List.filter_cons, List.filter_cons, hx]
    cases p x <;> cases q x <;> simp <;> omega
/-- two events together -/
theorem hopeC_or {ss : List Int} {e1 e2 e3 : List O} {lg : List Str} {f : Str → O} {here : O} {left : List Str} (hs : VS ss) (h : ∀ x, VO ss x → (x ∈ e3 ↔ x ∈ e1 ∨ x ∈ e2)) :
    hopeC ss e3 lg f here left ≤ hopeC ss e1 lg f here left + hopeC ss e2 lg f here left ∧ hopeC ss e1 lg f here left ≤ hopeC ss e3 lg f here left := by
  unfold hopeC
  by_cases q : hon lg left = true
  · rw [if_pos q, if_pos q, if_pos q]
    exact filter_or_le fun x _ => rchP_or h hs
  · rw [if_neg q, if_neg q, if_neg q]
    by_cases v : VO ss here
    · have e := rchP_or (ns := left.map f) (o := here) h hs
      have m : ∀ e, (here ∈ reachL ss e (left.map f)) ↔ rchP ss e (left.map f) here = true := fun e => ⟨fun z => (mem_reachL.mp z).2, fun z => mem_reachL.mpr ⟨v, z⟩⟩
      simp only [m, e]
      cases rchP ss e1 (left.map f) here <;> cases rchP ss e2 (left.map f) here <;> simp
    · have m : ∀ e, here ∉ reachL ss e (left.map f) := fun e z => v (mem_reachL.mp z).1
      simp [m]
theorem hopeC_nil {ss : List Int} {ev : List O} {lg : List Str} {f : Str → O} {here : O} (hs : VS ss) (hh : VO ss here) : hopeC ss ev lg f here [] = if here ∈ ev then (outs ss).length else 0 := by
  unfold hopeC hon
  have e : rchP ss ev [] here = decide (here ∈ ev) := by
    unfold rchP sumsF
    simp [add_zero hh]
  have m : (here ∈ reachL ss ev []) ↔ here ∈ ev := ⟨fun z => by
    have := (mem_reachL.mp z).2
    rw [e] at this
    exact of_decide_eq_true this, fun z => mem_reachL.mpr ⟨hh, by rw [e]; exact decide_eq_true z⟩⟩
  simp [m]
/-- the honest ones' places -/
theorem last_drop {lg : List Str} : ∀ (l : List Str) (k : Nat), ((l.zipIdx k).filter fun p => !decide (p.1 ∈ lg)).map (·.2) = [] ∧ hon lg l = false ∧ lastL lg l = l ∨ ∃ i, (((l.zipIdx k).filter fun p => !decide (p.1 ∈ lg)).map (·.2)).getLast? = some (k + i) ∧ hon lg l = true ∧ lastL lg l = l.drop (i + 1)
  | [], k => .inl ⟨rfl, rfl, rfl⟩
  | x :: r, k => by
    rw [List.zipIdx_cons, List.filter_cons, hon_cons]
    unfold lastL
    rcases last_drop r (k + 1) with ⟨h1, h2, h3⟩ | ⟨i, h1, h2, h3⟩
    · by_cases hx : x ∈ lg
      · left
        simp only [hx, decide_true, Bool.not_true, Bool.false_eq_true, if_false, h2, Bool.false_or, if_true]
        exact ⟨h1, h2, by rw [h2]; rfl⟩
      · right
        refine ⟨0, ?_, ?_, ?_⟩
        · simp [hx, h1]
        · simp [hx]
        · simp [hx, h2]
    · right
      refine ⟨i + 1, ?_, ?_, ?_⟩
      · have e : k + 1 + i = k + (i + 1) := by omega
        rw [e] at h1
        by_cases hx : x ∈ lg
        · simp only [hx, decide_true, Bool.not_true, Bool.false_eq_true, if_false]
          exact h1
        · simp only [hx, decide_false, Bool.not_false, if_true, List.map_cons]
          rw [List.getLast?_cons, h1]
          rfl
      · simp [h2]
      · rw [h2, if_pos rfl, h3]
        rfl
end Gm

/-! K91 -/
set_option Elab.async false
set_option linter.all false
set_option maxRecDepth 100000
set_option maxHeartbeats 4000000
/-! the table of law_k91_whole_hope_from_turn_to_turn, printed by gen.py -/
namespace K91
open PySem L2 PyProof.Rows IP
def top (i : Nat) : Stmt := PySem.Challenge.pw_benddraws_k91_whole_hope_from_turn_to_tu.main.body.getD i (.Pass ⟨0, 0, 0, 0⟩)
def tb : Tb where
  free := ["abs", "all", "any", "bool", "dict", "enumerate", "int", "isinstance", "len", "list", "range", "str", "tuple", "zip"]
  cls := ["Ratio", "Group", "State", "House"]
  exs := [("ByZero", []), ("BadNumber", ["given"]), ("TooEarly", []), ("BadSizes", ["given"]), ("BadOutcome", ["given"]), ("BadEvent", ["given"]), ("BadOrder", ["given"]), ("BadLeague", ["given"]), ("NoPerson", ["given"]), ("NotTheirTurn", ["given"]), ("InUse", ["given"])]
  fns := ["_law_add", "_law_after", "_law_all", "_law_box", "_law_cell", "_law_event", "_law_house", "_law_pick", "_law_sizes", "_law_step_right", "_law_sum", "_law_take", "all_outcomes", "check_league", "check_order", "checked", "divisor_of", "is_integer", "is_name", "law", "parts", "reach", "sums_of", "total"]
  mts := [("Group", "added"), ("Group", "checked"), ("Group", "event"), ("Group", "has"), ("Group", "outcomes"), ("Group", "plus"), ("Group", "total"), ("Group", "zero"), ("House", "check_person"), ("House", "check_sealed"), ("House", "do_step"), ("House", "hope"), ("House", "hope_from"), ("House", "left"), ("House", "refuse"), ("House", "seal"), ("House", "show"), ("House", "state_after"), ("House", "total"), ("House", "turn")]
  mks := ["Group", "House", "Ratio", "State"]
  pats := []
  flds := ["top", "bottom", "kept_sizes", "kept_outcomes", "sealed", "turns", "space", "persons", "league", "states", "steps", "gone"]
  gints := [("MOST_LETTERS", 8)]
  gstrs := [("LETTERS", "abcdefghijklmnopqrstuvwxyz")]
  hnd := []
  mpats := []
  kpats := [("Ratio", 1, [], [0, 1], [(.int 1)])]
  ops := [("Ratio", "__add__"), ("Ratio", "__mul__"), ("Ratio", "__eq__"), ("Ratio", "__lt__"), ("Group", "__len__")]
def d_is_integer : He.DefD := ⟨(Str.ofString "is_integer", none), "is_integer", "is_integer", defArgs (top 16), defBody (top 16), defScope (top 16), [], []⟩
def b_is_integer : Ss :=
  (.cons (.ret (.an (.isi (.loc 0) [.bt "int"]) (.nt (.isi (.loc 0) [.bt "bool"]))))
    .nil)
def x_is_integer : Df := ⟨"", "is_integer", ["value"], 1, b_is_integer, d_is_integer⟩
theorem o_is_integer : x_is_integer.Ok tb := ⟨by decide +kernel, .no rfl fun _ _ _ _ _ _ us hl => match us, hl with | [_], _ => rfl⟩
def d_divisor_of : He.DefD := ⟨(Str.ofString "divisor_of", none), "divisor_of", "divisor_of", defArgs (top 17), defBody (top 17), defScope (top 17), [], []⟩
def b_divisor_of : Ss :=
  (.cons (.wh (.cmp .NotEq (.loc 1) (.con (.int 0))) (.cons (.par 0 1 (.loc 1) (.bin .Mod (.loc 0) (.loc 1)))
    .nil))
    (.cons (.ret (.bi .abs (.one (.loc 0) .nil)))
    .nil))
def x_divisor_of : Df := ⟨"", "divisor_of", ["one", "other"], 2, b_divisor_of, d_divisor_of⟩
theorem o_divisor_of : x_divisor_of.Ok tb := ⟨by decide +kernel, .no rfl fun _ _ _ _ _ _ us hl => match us, hl with | [_, _], _ => rfl⟩
def d_parts : He.DefD := ⟨(Str.ofString "parts", none), "parts", "parts", defArgs (top 18), defBody (top 18), defScope (top 18), [], []⟩
def b_parts : Ss :=
  (.cons (.ifs (.call "" "is_integer" (.one (.loc 0) .nil) [] []) (.cons (.ret (.tup (.one (.loc 0) (.one (.con (.int 1)) .nil))))
    .nil) .nil)
    (.cons (.ret (.ife (.isi (.loc 0) [.own "Ratio"]) (.tup (.one (.att (.loc 0) "top") (.one (.att (.loc 0) "bottom") .nil))) (.con .non)))
    .nil))
def x_parts : Df := ⟨"", "parts", ["given"], 1, b_parts, d_parts⟩
theorem o_parts : x_parts.Ok tb := ⟨by decide +kernel, .no rfl fun _ _ _ _ _ _ us hl => match us, hl with | [_], _ => rfl⟩
def d_checked : He.DefD := ⟨(Str.ofString "checked", none), "checked", "checked", defArgs (top 19), defBody (top 19), defScope (top 19), [], []⟩
def b_checked : Ss :=
  (.cons (.set 1 (.call "" "parts" (.one (.loc 0) .nil) [] []))
    (.cons (.ifs (.cmp .Is (.loc 1) (.con .non)) (.cons (.rais "BadNumber" (.one (.loc 0) .nil))
    .nil) .nil)
    (.cons (.ret (.loc 1))
    .nil)))
def x_checked : Df := ⟨"", "checked", ["given", "found"], 1, b_checked, d_checked⟩
theorem o_checked : x_checked.Ok tb := ⟨by decide +kernel, .no rfl fun _ _ _ _ _ _ us hl => match us, hl with | [_], _ => rfl⟩
def d_Ratio_init : He.DefD := ⟨(Str.ofString "Ratio", some (Str.ofString "__init__")), "__init__", "Ratio.__init__", defArgs (inClass (top 20) 0), defBody (inClass (top 20) 0), defScope (inClass (top 20) 0), [.int 1], []⟩
def b_Ratio_init : Ss :=
  (.cons (.ifs (.cmp .Eq (.loc 2) (.con (.int 0))) (.cons (.rais "ByZero" .nil)
    .nil) .nil)
    (.cons (.set 3 (.ife (.cmp .Gt (.loc 2) (.con (.int 0))) (.call "" "divisor_of" (.one (.loc 1) (.one (.loc 2) .nil)) [] []) (.neg (.call "" "divisor_of" (.one (.loc 1) (.one (.loc 2) .nil)) [] []))))
    (.cons (.fld (.loc 0) "top" (.bin .FloorDiv (.loc 1) (.loc 3)))
    (.cons (.fld (.loc 0) "bottom" (.bin .FloorDiv (.loc 2) (.loc 3)))
    .nil))))
def x_Ratio_init : Df := ⟨"Ratio", "__init__", ["self", "top", "bottom", "divisor"], 3, b_Ratio_init, d_Ratio_init⟩
theorem o_Ratio_init : x_Ratio_init.Ok tb := ⟨by decide +kernel, .yes (by decide +kernel) fun _ _ _ _ _ _ _ us its hl hi => match us, its, hl, hi with | [_, _, _], [_], _, _ => ⟨_, rfl, rfl⟩⟩
def d_Ratio_add : He.DefD := ⟨(Str.ofString "Ratio", some (Str.ofString "__add__")), "__add__", "Ratio.__add__", defArgs (inClass (top 20) 2), defBody (inClass (top 20) 2), defScope (inClass (top 20) 2), [], []⟩
def b_Ratio_add : Ss :=
  (.cons (.unp [2, 3] (.call "" "checked" (.one (.loc 1) .nil) [] []))
    (.cons (.ret (.make false "Ratio" (.one (.bin .Add (.bin .Mult (.att (.loc 0) "top") (.loc 3)) (.bin .Mult (.loc 2) (.att (.loc 0) "bottom"))) (.one (.bin .Mult (.att (.loc 0) "bottom") (.loc 3)) .nil)) [] []))
    .nil))
def x_Ratio_add : Df := ⟨"Ratio", "__add__", ["self", "other", "top", "bottom"], 2, b_Ratio_add, d_Ratio_add⟩
theorem o_Ratio_add : x_Ratio_add.Ok tb := ⟨by decide +kernel, .no rfl fun _ _ _ _ _ _ us hl => match us, hl with | [_, _], _ => rfl⟩
def d_Ratio_mul : He.DefD := ⟨(Str.ofString "Ratio", some (Str.ofString "__mul__")), "__mul__", "Ratio.__mul__", defArgs (inClass (top 20) 4), defBody (inClass (top 20) 4), defScope (inClass (top 20) 4), [], []⟩
def b_Ratio_mul : Ss :=
  (.cons (.unp [2, 3] (.call "" "checked" (.one (.loc 1) .nil) [] []))
    (.cons (.ret (.make false "Ratio" (.one (.bin .Mult (.att (.loc 0) "top") (.loc 2)) (.one (.bin .Mult (.att (.loc 0) "bottom") (.loc 3)) .nil)) [] []))
    .nil))
def x_Ratio_mul : Df := ⟨"Ratio", "__mul__", ["self", "other", "top", "bottom"], 2, b_Ratio_mul, d_Ratio_mul⟩
theorem o_Ratio_mul : x_Ratio_mul.Ok tb := ⟨by decide +kernel, .no rfl fun _ _ _ _ _ _ us hl => match us, hl with | [_, _], _ => rfl⟩
def d_Ratio_eq : He.DefD := ⟨(Str.ofString "Ratio", some (Str.ofString "__eq__")), "__eq__", "Ratio.__eq__", defArgs (inClass (top 20) 6), defBody (inClass (top 20) 6), defScope (inClass (top 20) 6), [], []⟩
def b_Ratio_eq : Ss :=
  (.cons (.ret (.cmp .Eq (.call "" "parts" (.one (.loc 1) .nil) [] []) (.tup (.one (.att (.loc 0) "top") (.one (.att (.loc 0) "bottom") .nil)))))
    .nil)
def x_Ratio_eq : Df := ⟨"Ratio", "__eq__", ["self", "other"], 2, b_Ratio_eq, d_Ratio_eq⟩
theorem o_Ratio_eq : x_Ratio_eq.Ok tb := ⟨by decide +kernel, .no rfl fun _ _ _ _ _ _ us hl => match us, hl with | [_, _], _ => rfl⟩
def d_Ratio_lt : He.DefD := ⟨(Str.ofString "Ratio", some (Str.ofString "__lt__")), "__lt__", "Ratio.__lt__", defArgs (inClass (top 20) 7), defBody (inClass (top 20) 7), defScope (inClass (top 20) 7), [], []⟩
def b_Ratio_lt : Ss :=
  (.cons (.unp [2, 3] (.call "" "checked" (.one (.loc 1) .nil) [] []))
    (.cons (.ret (.cmp .Lt (.bin .Mult (.att (.loc 0) "top") (.loc 3)) (.bin .Mult (.loc 2) (.att (.loc 0) "bottom"))))
    .nil))
def x_Ratio_lt : Df := ⟨"Ratio", "__lt__", ["self", "other", "top", "bottom"], 2, b_Ratio_lt, d_Ratio_lt⟩
theorem o_Ratio_lt : x_Ratio_lt.Ok tb := ⟨by decide +kernel, .no rfl fun _ _ _ _ _ _ us hl => match us, hl with | [_, _], _ => rfl⟩
def d_total : He.DefD := ⟨(Str.ofString "total", none), "total", "total", defArgs (top 22), defBody (top 22), defScope (top 22), [], []⟩
def b_total : Ss :=
  (.cons (.set 1 (.make false "Ratio" (.one (.con (.int 0)) .nil) [0, 1] [((.int 1))]))
    (.cons (.for_ (.one 2) (.seq (.loc 0)) (.cons (.set 1 (.bin .Add (.loc 1) (.loc 2)))
    .nil))
    (.cons (.ret (.loc 1))
    .nil)))
def x_total : Df := ⟨"", "total", ["numbers", "found", "number"], 1, b_total, d_total⟩
theorem o_total : x_total.Ok tb := ⟨by decide +kernel, .no rfl fun _ _ _ _ _ _ us hl => match us, hl with | [_], _ => rfl⟩
def d_all_outcomes : He.DefD := ⟨(Str.ofString "all_outcomes", none), "all_outcomes", "all_outcomes", defArgs (top 24), defBody (top 24), defScope (top 24), [], []⟩
def b_all_outcomes : Ss :=
  (.cons (.set 1 (.lst false (.one (.tup .nil) .nil)))
    (.cons (.for_ (.one 2) (.seq (.loc 0)) (.cons (.set 1 (.comp2 false (.tup (.star (.loc 3) (.one (.loc 4) .nil))) (.one 3) (.seq (.loc 1)) (.one 4) (.rng1 (.loc 2)) .non [3, 4]))
    .nil))
    (.cons (.ret (.loc 1))
    .nil)))
def x_all_outcomes : Df := ⟨"", "all_outcomes", ["sizes", "found", "size", "outcome", "rest"], 1, b_all_outcomes, d_all_outcomes⟩
theorem o_all_outcomes : x_all_outcomes.Ok tb := ⟨by decide +kernel, .no rfl fun _ _ _ _ _ _ us hl => match us, hl with | [_], _ => rfl⟩
def d_Group_init : He.DefD := ⟨(Str.ofString "Group", some (Str.ofString "__init__")), "__init__", "Group.__init__", defArgs (inClass (top 25) 0), defBody (inClass (top 25) 0), defScope (inClass (top 25) 0), [], []⟩
def b_Group_init : Ss :=
  (.cons (.ifs (.orr (.nt (.isi (.loc 1) [.bt "list", .bt "tuple"])) (.cmp .Eq (.bi .len (.one (.loc 1) .nil)) (.con (.int 0)))) (.cons (.rais "BadSizes" (.one (.loc 1) .nil))
    .nil) .nil)
    (.cons (.ifs (.nt (.seq .all (.comp false (.an (.call "" "is_integer" (.one (.loc 2) .nil) [] []) (.cmp .Gt (.loc 2) (.con (.int 1)))) (.one 2) (.seq (.loc 1)) .non [2]))) (.cons (.rais "BadSizes" (.one (.loc 1) .nil))
    .nil) .nil)
    (.cons (.fld (.loc 0) "kept_sizes" (.seq (.list false) (.loc 1)))
    (.cons (.fld (.loc 0) "kept_outcomes" (.call "" "all_outcomes" (.one (.att (.loc 0) "kept_sizes") .nil) [] []))
    .nil))))
def x_Group_init : Df := ⟨"Group", "__init__", ["self", "sizes", "size"], 2, b_Group_init, d_Group_init⟩
theorem o_Group_init : x_Group_init.Ok tb := ⟨by decide +kernel, .no rfl fun _ _ _ _ _ _ us hl => match us, hl with | [_, _], _ => rfl⟩
def d_Group_len : He.DefD := ⟨(Str.ofString "Group", some (Str.ofString "__len__")), "__len__", "Group.__len__", defArgs (inClass (top 25) 2), defBody (inClass (top 25) 2), defScope (inClass (top 25) 2), [], []⟩
def b_Group_len : Ss :=
  (.cons (.ret (.bi .len (.one (.att (.loc 0) "kept_outcomes") .nil)))
    .nil)
def x_Group_len : Df := ⟨"Group", "__len__", ["self"], 1, b_Group_len, d_Group_len⟩
theorem o_Group_len : x_Group_len.Ok tb := ⟨by decide +kernel, .no rfl fun _ _ _ _ _ _ us hl => match us, hl with | [_], _ => rfl⟩
def d_Group_outcomes : He.DefD := ⟨(Str.ofString "Group", some (Str.ofString "outcomes")), "outcomes", "Group.outcomes", defArgs (inClass (top 25) 3), defBody (inClass (top 25) 3), defScope (inClass (top 25) 3), [], []⟩
def b_Group_outcomes : Ss :=
  (.cons (.ret (.seq (.list false) (.att (.loc 0) "kept_outcomes")))
    .nil)
def x_Group_outcomes : Df := ⟨"Group", "outcomes", ["self"], 1, b_Group_outcomes, d_Group_outcomes⟩
theorem o_Group_outcomes : x_Group_outcomes.Ok tb := ⟨by decide +kernel, .no rfl fun _ _ _ _ _ _ us hl => match us, hl with | [_], _ => rfl⟩
def d_Group_zero : He.DefD := ⟨(Str.ofString "Group", some (Str.ofString "zero")), "zero", "Group.zero", defArgs (inClass (top 25) 4), defBody (inClass (top 25) 4), defScope (inClass (top 25) 4), [], []⟩
def b_Group_zero : Ss :=
  (.cons (.ret (.sub (.att (.loc 0) "kept_outcomes") (.con (.int 0))))
    .nil)
def x_Group_zero : Df := ⟨"Group", "zero", ["self"], 1, b_Group_zero, d_Group_zero⟩
theorem o_Group_zero : x_Group_zero.Ok tb := ⟨by decide +kernel, .no rfl fun _ _ _ _ _ _ us hl => match us, hl with | [_], _ => rfl⟩
def d_Group_has : He.DefD := ⟨(Str.ofString "Group", some (Str.ofString "has")), "has", "Group.has", defArgs (inClass (top 25) 6), defBody (inClass (top 25) 6), defScope (inClass (top 25) 6), [], []⟩
def b_Group_has : Ss :=
  (.cons (.ifs (.orr (.nt (.isi (.loc 1) [.bt "tuple"])) (.cmp .NotEq (.bi .len (.one (.loc 1) .nil)) (.bi .len (.one (.att (.loc 0) "kept_sizes") .nil)))) (.cons (.ret (.con (.bl false)))
    .nil) .nil)
    (.cons (.ret (.seq .all (.comp false (.an (.call "" "is_integer" (.one (.loc 2) .nil) [] []) (.cmp2 .LtE .Lt (.con (.int 0)) (.loc 2) (.loc 3))) (.many [2, 3]) (.zip (.loc 1) (.att (.loc 0) "kept_sizes")) .non [2, 3])))
    .nil))
def x_Group_has : Df := ⟨"Group", "has", ["self", "value", "rest", "size"], 2, b_Group_has, d_Group_has⟩
theorem o_Group_has : x_Group_has.Ok tb := ⟨by decide +kernel, .no rfl fun _ _ _ _ _ _ us hl => match us, hl with | [_, _], _ => rfl⟩
def d_Group_checked : He.DefD := ⟨(Str.ofString "Group", some (Str.ofString "checked")), "checked", "Group.checked", defArgs (inClass (top 25) 7), defBody (inClass (top 25) 7), defScope (inClass (top 25) 7), [], []⟩
def b_Group_checked : Ss :=
  (.cons (.ifs (.nt (.meth "Group" "has" (.loc 0) (.one (.loc 1) .nil) [] [])) (.cons (.rais "BadOutcome" (.one (.loc 1) .nil))
    .nil) .nil)
    (.cons (.ret (.loc 1))
    .nil))
def x_Group_checked : Df := ⟨"Group", "checked", ["self", "value"], 2, b_Group_checked, d_Group_checked⟩
theorem o_Group_checked : x_Group_checked.Ok tb := ⟨by decide +kernel, .no rfl fun _ _ _ _ _ _ us hl => match us, hl with | [_, _], _ => rfl⟩
def d_Group_added : He.DefD := ⟨(Str.ofString "Group", some (Str.ofString "added")), "added", "Group.added", defArgs (inClass (top 25) 8), defBody (inClass (top 25) 8), defScope (inClass (top 25) 8), [], []⟩
def b_Group_added : Ss :=
  (.cons (.ret (.seq .tuple (.comp false (.bin .Mod (.bin .Add (.sub (.loc 1) (.loc 4)) (.bin .Mult (.loc 3) (.sub (.loc 2) (.loc 4)))) (.loc 5)) (.many [4, 5]) (.enum (.att (.loc 0) "kept_sizes")) .non [4, 5])))
    .nil)
def x_Group_added : Df := ⟨"Group", "added", ["self", "one", "other", "times", "k", "size"], 4, b_Group_added, d_Group_added⟩
theorem o_Group_added : x_Group_added.Ok tb := ⟨by decide +kernel, .no rfl fun _ _ _ _ _ _ us hl => match us, hl with | [_, _, _, _], _ => rfl⟩
def d_Group_plus : He.DefD := ⟨(Str.ofString "Group", some (Str.ofString "plus")), "plus", "Group.plus", defArgs (inClass (top 25) 9), defBody (inClass (top 25) 9), defScope (inClass (top 25) 9), [], []⟩
def b_Group_plus : Ss :=
  (.cons (.ret (.meth "Group" "added" (.loc 0) (.one (.meth "Group" "checked" (.loc 0) (.one (.loc 1) .nil) [] []) (.one (.meth "Group" "checked" (.loc 0) (.one (.loc 2) .nil) [] []) (.one (.con (.int 1)) .nil))) [] []))
    .nil)
def x_Group_plus : Df := ⟨"Group", "plus", ["self", "one", "other"], 3, b_Group_plus, d_Group_plus⟩
theorem o_Group_plus : x_Group_plus.Ok tb := ⟨by decide +kernel, .no rfl fun _ _ _ _ _ _ us hl => match us, hl with | [_, _, _], _ => rfl⟩
def d_Group_total : He.DefD := ⟨(Str.ofString "Group", some (Str.ofString "total")), "total", "Group.total", defArgs (inClass (top 25) 11), defBody (inClass (top 25) 11), defScope (inClass (top 25) 11), [], []⟩
def b_Group_total : Ss :=
  (.cons (.set 2 (.meth "Group" "zero" (.loc 0) .nil [] []))
    (.cons (.for_ (.one 3) (.seq (.loc 1)) (.cons (.set 2 (.meth "Group" "plus" (.loc 0) (.one (.loc 2) (.one (.loc 3) .nil)) [] []))
    .nil))
    (.cons (.ret (.loc 2))
    .nil)))
def x_Group_total : Df := ⟨"Group", "total", ["self", "outcomes", "found", "outcome"], 2, b_Group_total, d_Group_total⟩
theorem o_Group_total : x_Group_total.Ok tb := ⟨by decide +kernel, .no rfl fun _ _ _ _ _ _ us hl => match us, hl with | [_, _], _ => rfl⟩
def d_Group_event : He.DefD := ⟨(Str.ofString "Group", some (Str.ofString "event")), "event", "Group.event", defArgs (inClass (top 25) 12), defBody (inClass (top 25) 12), defScope (inClass (top 25) 12), [], []⟩
def b_Group_event : Ss :=
  (.cons (.ifs (.orr (.nt (.isi (.loc 1) [.bt "list", .bt "tuple"])) (.nt (.seq .all (.comp false (.meth "Group" "has" (.loc 0) (.one (.loc 2) .nil) [] []) (.one 2) (.seq (.loc 1)) .non [2])))) (.cons (.rais "BadEvent" (.one (.loc 1) .nil))
    .nil) .nil)
    (.cons (.ret (.comp false (.loc 2) (.one 2) (.seq (.att (.loc 0) "kept_outcomes")) (.som (.cmp .In (.loc 2) (.loc 1))) [2]))
    .nil))
def x_Group_event : Df := ⟨"Group", "event", ["self", "outcomes", "outcome"], 2, b_Group_event, d_Group_event⟩
theorem o_Group_event : x_Group_event.Ok tb := ⟨by decide +kernel, .no rfl fun _ _ _ _ _ _ us hl => match us, hl with | [_, _], _ => rfl⟩
def d_is_name : He.DefD := ⟨(Str.ofString "is_name", none), "is_name", "is_name", defArgs (top 29), defBody (top 29), defScope (top 29), [], []⟩
def b_is_name : Ss :=
  (.cons (.ifs (.orr (.nt (.isi (.loc 0) [.bt "str"])) (.nt (.cmp2 .LtE .LtE (.con (.int 1)) (.bi .len (.one (.loc 0) .nil)) (.gcon "MOST_LETTERS" (.int 8))))) (.cons (.ret (.con (.bl false)))
    .nil) .nil)
    (.cons (.ret (.seq .all (.comp false (.cmp .In (.loc 1) (.gcon "LETTERS" (.str (Str.ofString "abcdefghijklmnopqrstuvwxyz")))) (.one 1) (.seq (.loc 0)) .non [1])))
    .nil))
def x_is_name : Df := ⟨"", "is_name", ["value", "letter"], 1, b_is_name, d_is_name⟩
theorem o_is_name : x_is_name.Ok tb := ⟨by decide +kernel, .no rfl fun _ _ _ _ _ _ us hl => match us, hl with | [_], _ => rfl⟩
def d_check_order : He.DefD := ⟨(Str.ofString "check_order", none), "check_order", "check_order", defArgs (top 30), defBody (top 30), defScope (top 30), [], []⟩
def b_check_order : Ss :=
  (.cons (.ifs (.orr (.nt (.isi (.loc 0) [.bt "list", .bt "tuple"])) (.orr (.cmp .Eq (.bi .len (.one (.loc 0) .nil)) (.con (.int 0))) (.nt (.seq .all (.comp false (.call "" "is_name" (.one (.loc 1) .nil) [] []) (.one 1) (.seq (.loc 0)) .non [1]))))) (.cons (.rais "BadOrder" (.one (.loc 0) .nil))
    .nil) .nil)
    (.cons (.ifs (.nt (.seq .all (.comp false (.cmp .NotIn (.loc 1) (.slc (.loc 0) .non (.som (.loc 2)))) (.many [2, 1]) (.enum (.loc 0)) .non [2, 1]))) (.cons (.rais "BadOrder" (.one (.loc 0) .nil))
    .nil) .nil)
    .nil))
def x_check_order : Df := ⟨"", "check_order", ["order", "name", "place"], 1, b_check_order, d_check_order⟩
theorem o_check_order : x_check_order.Ok tb := ⟨by decide +kernel, .no rfl fun _ _ _ _ _ _ us hl => match us, hl with | [_], _ => rfl⟩
def d_check_league : He.DefD := ⟨(Str.ofString "check_league", none), "check_league", "check_league", defArgs (top 32), defBody (top 32), defScope (top 32), [], []⟩
def b_check_league : Ss :=
  (.cons (.ifs (.orr (.nt (.isi (.loc 1) [.bt "list", .bt "tuple"])) (.nt (.seq .all (.comp false (.an (.isi (.loc 2) [.bt "str"]) (.cmp .In (.loc 2) (.loc 0))) (.one 2) (.seq (.loc 1)) .non [2])))) (.cons (.rais "BadLeague" (.one (.loc 1) .nil))
    .nil) .nil)
    (.cons (.ifs (.nt (.seq .all (.comp false (.cmp .NotIn (.loc 2) (.slc (.loc 1) .non (.som (.loc 3)))) (.many [3, 2]) (.enum (.loc 1)) .non [3, 2]))) (.cons (.rais "BadLeague" (.one (.loc 1) .nil))
    .nil) .nil)
    .nil))
def x_check_league : Df := ⟨"", "check_league", ["order", "league", "name", "place"], 2, b_check_league, d_check_league⟩
theorem o_check_league : x_check_league.Ok tb := ⟨by decide +kernel, .no rfl fun _ _ _ _ _ _ us hl => match us, hl with | [_, _], _ => rfl⟩
def d_sums_of : He.DefD := ⟨(Str.ofString "sums_of", none), "sums_of", "sums_of", defArgs (top 33), defBody (top 33), defScope (top 33), [], []⟩
def b_sums_of : Ss :=
  (.cons (.set 2 (.lst false (.one (.meth "Group" "zero" (.loc 0) .nil [] []) .nil)))
    (.cons (.for_ (.one 3) (.seq (.loc 1)) (.cons (.set 2 (.lst false (.star (.loc 2) (.star (.comp false (.meth "Group" "plus" (.loc 0) (.one (.loc 4) (.one (.loc 3) .nil)) [] []) (.one 4) (.seq (.loc 2)) .non [4]) .nil))))
    .nil))
    (.cons (.ret (.meth "Group" "event" (.loc 0) (.one (.loc 2) .nil) [] []))
    .nil)))
def x_sums_of : Df := ⟨"", "sums_of", ["group", "numbers", "found", "number", "one"], 2, b_sums_of, d_sums_of⟩
theorem o_sums_of : x_sums_of.Ok tb := ⟨by decide +kernel, .no rfl fun _ _ _ _ _ _ us hl => match us, hl with | [_, _], _ => rfl⟩
def d_reach : He.DefD := ⟨(Str.ofString "reach", none), "reach", "reach", defArgs (top 34), defBody (top 34), defScope (top 34), [], []⟩
def b_reach : Ss :=
  (.cons (.set 1 (.meth "Group" "event" (.loc 0) (.one (.loc 1) .nil) [] []))
    (.cons (.expr (.meth "Group" "total" (.loc 0) (.one (.loc 2) .nil) [] []))
    (.cons (.set 3 (.call "" "sums_of" (.one (.loc 0) (.one (.loc 2) .nil)) [] []))
    (.cons (.ret (.comp false (.loc 4) (.one 4) (.seq (.meth "Group" "outcomes" (.loc 0) .nil [] [])) (.som (.seq .any (.comp false (.cmp .In (.meth "Group" "plus" (.loc 0) (.one (.loc 4) (.one (.loc 5) .nil)) [] []) (.loc 1)) (.one 5) (.seq (.loc 3)) .non [5]))) [4]))
    .nil))))
def x_reach : Df := ⟨"", "reach", ["group", "event", "numbers", "sums", "here", "one"], 3, b_reach, d_reach⟩
theorem o_reach : x_reach.Ok tb := ⟨by decide +kernel, .no rfl fun _ _ _ _ _ _ us hl => match us, hl with | [_, _, _], _ => rfl⟩
def d_State_init : He.DefD := ⟨(Str.ofString "State", some (Str.ofString "__init__")), "__init__", "State.__init__", defArgs (inClass (top 36) 0), defBody (inClass (top 36) 0), defScope (inClass (top 36) 0), [], []⟩
def b_State_init : Ss :=
  (.cons (.fld (.loc 0) "sealed" (.loc 1))
    (.cons (.fld (.loc 0) "turns" (.loc 2))
    .nil))
def x_State_init : Df := ⟨"State", "__init__", ["self", "sealed", "turns"], 3, b_State_init, d_State_init⟩
theorem o_State_init : x_State_init.Ok tb := ⟨by decide +kernel, .no rfl fun _ _ _ _ _ _ us hl => match us, hl with | [_, _, _], _ => rfl⟩
def d_House_init : He.DefD := ⟨(Str.ofString "House", some (Str.ofString "__init__")), "__init__", "House.__init__", defArgs (inClass (top 38) 0), defBody (inClass (top 38) 0), defScope (inClass (top 38) 0), [], []⟩
def b_House_init : Ss :=
  (.cons (.expr (.call "" "check_order" (.one (.loc 2) .nil) [] []))
    (.cons (.expr (.call "" "check_league" (.one (.loc 2) (.one (.loc 3) .nil)) [] []))
    (.cons (.fld (.loc 0) "space" (.loc 1))
    (.cons (.fld (.loc 0) "persons" (.seq (.list false) (.loc 2)))
    (.cons (.fld (.loc 0) "league" (.seq (.list false) (.loc 3)))
    (.cons (.fld (.loc 0) "states" (.lst false (.one (.make false "State" (.one (.frz (.dic .k true .nil)) (.one (.lst false .nil) .nil)) [] []) .nil)))
    (.cons (.fld (.loc 0) "steps" (.lst false .nil))
    (.cons (.fld (.loc 0) "gone" (.lst false .nil))
    .nil))))))))
def x_House_init : Df := ⟨"House", "__init__", ["self", "group", "order", "league"], 4, b_House_init, d_House_init⟩
theorem o_House_init : x_House_init.Ok tb := ⟨by decide +kernel, .no rfl fun _ _ _ _ _ _ us hl => match us, hl with | [_, _, _, _], _ => rfl⟩
def d_House_check_person : He.DefD := ⟨(Str.ofString "House", some (Str.ofString "check_person")), "check_person", "House.check_person", defArgs (inClass (top 38) 1), defBody (inClass (top 38) 1), defScope (inClass (top 38) 1), [], []⟩
def b_House_check_person : Ss :=
  (.cons (.ifs (.orr (.nt (.isi (.loc 1) [.bt "str"])) (.cmp .NotIn (.loc 1) (.att (.loc 0) "persons"))) (.cons (.rais "NoPerson" (.one (.loc 1) .nil))
    .nil) .nil)
    .nil)
def x_House_check_person : Df := ⟨"House", "check_person", ["self", "person"], 2, b_House_check_person, d_House_check_person⟩
theorem o_House_check_person : x_House_check_person.Ok tb := ⟨by decide +kernel, .no rfl fun _ _ _ _ _ _ us hl => match us, hl with | [_, _], _ => rfl⟩
def d_House_check_sealed : He.DefD := ⟨(Str.ofString "House", some (Str.ofString "check_sealed")), "check_sealed", "House.check_sealed", defArgs (inClass (top 38) 2), defBody (inClass (top 38) 2), defScope (inClass (top 38) 2), [], []⟩
def b_House_check_sealed : Ss :=
  (.cons (.ifs (.cmp .Lt (.bi .len (.one (.att (.sub (.att (.loc 0) "states") (.neg (.con (.int 1)))) "sealed") .nil)) (.bi .len (.one (.att (.loc 0) "persons") .nil))) (.cons (.rais "TooEarly" .nil)
    .nil) .nil)
    .nil)
def x_House_check_sealed : Df := ⟨"House", "check_sealed", ["self"], 1, b_House_check_sealed, d_House_check_sealed⟩
theorem o_House_check_sealed : x_House_check_sealed.Ok tb := ⟨by decide +kernel, .no rfl fun _ _ _ _ _ _ us hl => match us, hl with | [_], _ => rfl⟩
def d_House_state_after : He.DefD := ⟨(Str.ofString "House", some (Str.ofString "state_after")), "state_after", "House.state_after", defArgs (inClass (top 38) 3), defBody (inClass (top 38) 3), defScope (inClass (top 38) 3), [], []⟩
def b_House_state_after : Ss :=
  (.cons (.set 2 (.sub (.att (.loc 0) "states") (.neg (.con (.int 1)))))
    (.cons (.expr (.meth "House" "check_person" (.loc 0) (.one (.sub (.loc 1) (.con (.int 1))) .nil) [] []))
    (.cons (.ifs (.cmp .Eq (.sub (.loc 1) (.con (.int 0))) (.con (.str (Str.ofString "seal")))) (.cons (.expr (.meth "Group" "checked" (.att (.loc 0) "space") (.one (.sub (.loc 1) (.con (.int 2))) .nil) [] []))
    (.cons (.ifs (.cmp .In (.sub (.loc 1) (.con (.int 1))) (.att (.loc 2) "sealed")) (.cons (.rais "InUse" (.one (.sub (.loc 1) (.con (.int 1))) .nil))
    .nil) .nil)
    (.cons (.ret (.make false "State" (.one (.frz (.dup (.att (.loc 2) "sealed") (.sub (.loc 1) (.con (.int 1))) (.sub (.loc 1) (.con (.int 2))))) (.one (.att (.loc 2) "turns") .nil)) [] []))
    .nil))) .nil)
    (.cons (.ifs (.cmp .NotEq (.meth "House" "turn" (.loc 0) .nil [] []) (.sub (.loc 1) (.con (.int 1)))) (.cons (.rais "NotTheirTurn" (.one (.sub (.loc 1) (.con (.int 1))) .nil))
    .nil) .nil)
    (.cons (.ret (.make false "State" (.one (.att (.loc 2) "sealed") (.one (.lst false (.star (.att (.loc 2) "turns") (.one (.tup (.one (.sub (.loc 1) (.con (.int 1))) (.one (.sub (.loc 1) (.con (.int 0))) .nil))) .nil))) .nil)) [] []))
    .nil)))))
def x_House_state_after : Df := ⟨"House", "state_after", ["self", "step", "state"], 2, b_House_state_after, d_House_state_after⟩
theorem o_House_state_after : x_House_state_after.Ok tb := ⟨by decide +kernel, .no rfl fun _ _ _ _ _ _ us hl => match us, hl with | [_, _], _ => rfl⟩
def d_House_do_step : He.DefD := ⟨(Str.ofString "House", some (Str.ofString "do_step")), "do_step", "House.do_step", defArgs (inClass (top 38) 4), defBody (inClass (top 38) 4), defScope (inClass (top 38) 4), [], []⟩
def b_House_do_step : Ss :=
  (.cons (.fld (.loc 0) "states" (.lst false (.star (.att (.loc 0) "states") (.one (.meth "House" "state_after" (.loc 0) (.one (.loc 1) .nil) [] []) .nil))))
    (.cons (.fld (.loc 0) "steps" (.lst false (.star (.att (.loc 0) "steps") (.one (.loc 1) .nil))))
    (.cons (.fld (.loc 0) "gone" (.lst false .nil))
    .nil)))
def x_House_do_step : Df := ⟨"House", "do_step", ["self", "step"], 2, b_House_do_step, d_House_do_step⟩
theorem o_House_do_step : x_House_do_step.Ok tb := ⟨by decide +kernel, .no rfl fun _ _ _ _ _ _ us hl => match us, hl with | [_, _], _ => rfl⟩
def d_House_seal : He.DefD := ⟨(Str.ofString "House", some (Str.ofString "seal")), "seal", "House.seal", defArgs (inClass (top 38) 5), defBody (inClass (top 38) 5), defScope (inClass (top 38) 5), [], []⟩
def b_House_seal : Ss :=
  (.cons (.expr (.meth "House" "do_step" (.loc 0) (.one (.tup (.one (.con (.str (Str.ofString "seal"))) (.one (.loc 1) (.one (.loc 2) .nil)))) .nil) [] []))
    .nil)
def x_House_seal : Df := ⟨"House", "seal", ["self", "person", "number"], 3, b_House_seal, d_House_seal⟩
theorem o_House_seal : x_House_seal.Ok tb := ⟨by decide +kernel, .no rfl fun _ _ _ _ _ _ us hl => match us, hl with | [_, _, _], _ => rfl⟩
def d_House_show : He.DefD := ⟨(Str.ofString "House", some (Str.ofString "show")), "show", "House.show", defArgs (inClass (top 38) 6), defBody (inClass (top 38) 6), defScope (inClass (top 38) 6), [], []⟩
def b_House_show : Ss :=
  (.cons (.expr (.meth "House" "do_step" (.loc 0) (.one (.tup (.one (.con (.str (Str.ofString "show"))) (.one (.loc 1) .nil))) .nil) [] []))
    .nil)
def x_House_show : Df := ⟨"House", "show", ["self", "person"], 2, b_House_show, d_House_show⟩
theorem o_House_show : x_House_show.Ok tb := ⟨by decide +kernel, .no rfl fun _ _ _ _ _ _ us hl => match us, hl with | [_, _], _ => rfl⟩
def d_House_refuse : He.DefD := ⟨(Str.ofString "House", some (Str.ofString "refuse")), "refuse", "House.refuse", defArgs (inClass (top 38) 7), defBody (inClass (top 38) 7), defScope (inClass (top 38) 7), [], []⟩
def b_House_refuse : Ss :=
  (.cons (.expr (.meth "House" "do_step" (.loc 0) (.one (.tup (.one (.con (.str (Str.ofString "refuse"))) (.one (.loc 1) .nil))) .nil) [] []))
    .nil)
def x_House_refuse : Df := ⟨"House", "refuse", ["self", "person"], 2, b_House_refuse, d_House_refuse⟩
theorem o_House_refuse : x_House_refuse.Ok tb := ⟨by decide +kernel, .no rfl fun _ _ _ _ _ _ us hl => match us, hl with | [_, _], _ => rfl⟩
def d_House_turn : He.DefD := ⟨(Str.ofString "House", some (Str.ofString "turn")), "turn", "House.turn", defArgs (inClass (top 38) 9), defBody (inClass (top 38) 9), defScope (inClass (top 38) 9), [], []⟩
def b_House_turn : Ss :=
  (.cons (.expr (.meth "House" "check_sealed" (.loc 0) .nil [] []))
    (.cons (.ret (.sub (.lst false (.star (.att (.loc 0) "persons") (.one (.con (.str (Str.ofString ""))) .nil))) (.bi .len (.one (.att (.sub (.att (.loc 0) "states") (.neg (.con (.int 1)))) "turns") .nil))))
    .nil))
def x_House_turn : Df := ⟨"House", "turn", ["self"], 1, b_House_turn, d_House_turn⟩
theorem o_House_turn : x_House_turn.Ok tb := ⟨by decide +kernel, .no rfl fun _ _ _ _ _ _ us hl => match us, hl with | [_], _ => rfl⟩
def d_House_total : He.DefD := ⟨(Str.ofString "House", some (Str.ofString "total")), "total", "House.total", defArgs (inClass (top 38) 10), defBody (inClass (top 38) 10), defScope (inClass (top 38) 10), [], []⟩
def b_House_total : Ss :=
  (.cons (.set 1 (.sub (.att (.loc 0) "states") (.neg (.con (.int 1)))))
    (.cons (.ret (.meth "Group" "total" (.att (.loc 0) "space") (.one (.comp false (.sub (.att (.loc 1) "sealed") (.loc 2)) (.many [2, 3]) (.seq (.att (.loc 1) "turns")) (.som (.cmp .Eq (.loc 3) (.con (.str (Str.ofString "show"))))) [2, 3]) .nil) [] []))
    .nil))
def x_House_total : Df := ⟨"House", "total", ["self", "state", "person", "kind"], 1, b_House_total, d_House_total⟩
theorem o_House_total : x_House_total.Ok tb := ⟨by decide +kernel, .no rfl fun _ _ _ _ _ _ us hl => match us, hl with | [_], _ => rfl⟩
def d_House_hope_from : He.DefD := ⟨(Str.ofString "House", some (Str.ofString "hope_from")), "hope_from", "House.hope_from", defArgs (inClass (top 38) 13), defBody (inClass (top 38) 13), defScope (inClass (top 38) 13), [], []⟩
def b_House_hope_from : Ss :=
  (.cons (.set 4 (.comp false (.loc 5) (.many [5, 6]) (.enum (.loc 3)) (.som (.cmp .NotIn (.loc 6) (.att (.loc 0) "league"))) [5, 6]))
    (.cons (.set 7 (.ife (.cmp .Gt (.bi .len (.one (.loc 4) .nil)) (.con (.int 0))) (.slc (.loc 3) (.som (.bin .Add (.sub (.loc 4) (.neg (.con (.int 1)))) (.con (.int 1)))) .non) (.loc 3)))
    (.cons (.set 8 (.call "" "reach" (.one (.att (.loc 0) "space") (.one (.loc 1) (.one (.comp false (.sub (.att (.sub (.att (.loc 0) "states") (.neg (.con (.int 1)))) "sealed") (.loc 6)) (.one 6) (.seq (.loc 7)) .non [6]) .nil))) [] []))
    (.cons (.ifs (.cmp .Gt (.bi .len (.one (.loc 4) .nil)) (.con (.int 0))) (.cons (.ret (.make false "Ratio" (.one (.bi .len (.one (.loc 8) .nil)) (.one (.bi .len (.one (.att (.loc 0) "space") .nil)) .nil)) [] []))
    .nil) .nil)
    (.cons (.ret (.make false "Ratio" (.one (.bi .int (.one (.cmp .In (.loc 2) (.loc 8)) .nil)) .nil) [0, 1] [((.int 1))]))
    .nil)))))
def x_House_hope_from : Df := ⟨"House", "hope_from", ["self", "event", "here", "left", "honest", "place", "person", "last", "hopeful"], 4, b_House_hope_from, d_House_hope_from⟩
theorem o_House_hope_from : x_House_hope_from.Ok tb := ⟨by decide +kernel, .no rfl fun _ _ _ _ _ _ us hl => match us, hl with | [_, _, _, _], _ => rfl⟩
def d_House_left : He.DefD := ⟨(Str.ofString "House", some (Str.ofString "left")), "left", "House.left", defArgs (inClass (top 38) 14), defBody (inClass (top 38) 14), defScope (inClass (top 38) 14), [], []⟩
def b_House_left : Ss :=
  (.cons (.ret (.slc (.att (.loc 0) "persons") (.som (.bi .len (.one (.att (.sub (.att (.loc 0) "states") (.neg (.con (.int 1)))) "turns") .nil))) .non))
    .nil)
def x_House_left : Df := ⟨"House", "left", ["self"], 1, b_House_left, d_House_left⟩
theorem o_House_left : x_House_left.Ok tb := ⟨by decide +kernel, .no rfl fun _ _ _ _ _ _ us hl => match us, hl with | [_], _ => rfl⟩
def d_House_hope : He.DefD := ⟨(Str.ofString "House", some (Str.ofString "hope")), "hope", "House.hope", defArgs (inClass (top 38) 15), defBody (inClass (top 38) 15), defScope (inClass (top 38) 15), [], []⟩
def b_House_hope : Ss :=
  (.cons (.set 1 (.meth "Group" "event" (.att (.loc 0) "space") (.one (.loc 1) .nil) [] []))
    (.cons (.expr (.meth "House" "check_sealed" (.loc 0) .nil [] []))
    (.cons (.ret (.meth "House" "hope_from" (.loc 0) (.one (.loc 1) (.one (.meth "House" "total" (.loc 0) .nil [] []) (.one (.meth "House" "left" (.loc 0) .nil [] []) .nil))) [] []))
    .nil)))
def x_House_hope : Df := ⟨"House", "hope", ["self", "event"], 2, b_House_hope, d_House_hope⟩
theorem o_House_hope : x_House_hope.Ok tb := ⟨by decide +kernel, .no rfl fun _ _ _ _ _ _ us hl => match us, hl with | [_, _], _ => rfl⟩
def d_law_cell : He.DefD := ⟨(Str.ofString "_law_cell", none), "_law_cell", "_law_cell", defArgs (top 40), defBody (top 40), defScope (top 40), [], []⟩
def b_law_cell : Ss :=
  (.cons (.ret (.ife (.cmp .Lt (.loc 1) (.bi .len (.one (.loc 0) .nil))) (.sub (.loc 0) (.loc 1)) (.con (.int 0))))
    .nil)
def x_law_cell : Df := ⟨"", "_law_cell", ["_law_script", "_law_k"], 2, b_law_cell, d_law_cell⟩
theorem o_law_cell : x_law_cell.Ok tb := ⟨by decide +kernel, .no rfl fun _ _ _ _ _ _ us hl => match us, hl with | [_, _], _ => rfl⟩
def d_law_box : He.DefD := ⟨(Str.ofString "_law_box", none), "_law_box", "_law_box", defArgs (top 41), defBody (top 41), defScope (top 41), [], []⟩
def b_law_box : Ss :=
  (.cons (.ret (.lst true (.one (.bi .abs (.one (.bi .int (.one (.call "" "_law_cell" (.one (.loc 0) (.one (.loc 1) .nil)) [] []) .nil)) .nil)) (.one (.con (.int 0)) (.one (.bin .Add (.bin .Mult (.con (.int 40503)) (.loc 1)) (.con (.int 911))) .nil)))))
    .nil)
def x_law_box : Df := ⟨"", "_law_box", ["_law_script", "_law_k"], 2, b_law_box, d_law_box⟩
theorem o_law_box : x_law_box.Ok tb := ⟨by decide +kernel, .no rfl fun _ _ _ _ _ _ us hl => match us, hl with | [_, _], _ => rfl⟩
def d_law_take : He.DefD := ⟨(Str.ofString "_law_take", none), "_law_take", "_law_take", defArgs (top 42), defBody (top 42), defScope (top 42), [], []⟩
def b_law_take : Ss :=
  (.cons (.ifs (.cmp .GtE (.sub (.loc 0) (.con (.int 0))) (.bin .Pow (.con (.int 10)) (.con (.int 18)))) (.cons (.set 2 (.bin .Mod (.bi .int (.one (.sub (.loc 0) (.con (.int 0))) .nil)) (.loc 1)))
    (.cons (.sub (.loc 0) (.con (.int 0)) (.bin .FloorDiv (.sub (.loc 0) (.con (.int 0))) (.loc 1)))
    (.cons (.ret (.loc 2))
    .nil))) .nil)
    (.cons (.sub (.loc 0) (.con (.int 1)) (.bin .Add (.sub (.loc 0) (.con (.int 1))) (.con (.int 1))))
    (.cons (.set 3 (.bin .Mod (.bin .Pow (.bi .int (.one (.bin .Add (.bin .Add (.bin .Mult (.bin .Add (.sub (.loc 0) (.con (.int 0))) (.con (.int 7))) (.con (.int 69069))) (.bin .Mult (.sub (.loc 0) (.con (.int 1))) (.con (.int 40692)))) (.sub (.loc 0) (.con (.int 2)))) .nil)) (.con (.int 3))) (.con (.int 2147483647))))
    (.cons (.set 3 (.bin .Mod (.bin .Pow (.bi .int (.one (.bin .Add (.loc 3) (.bin .Mult (.sub (.loc 0) (.con (.int 1))) (.con (.int 17389)))) .nil)) (.con (.int 3))) (.con (.int 2147483399))))
    (.cons (.ret (.bin .Mod (.bi .int (.one (.bin .FloorDiv (.loc 3) (.con (.int 64))) .nil)) (.loc 1)))
    .nil)))))
def x_law_take : Df := ⟨"", "_law_take", ["_law_box_here", "_law_many", "_law_digit", "_law_mixed"], 2, b_law_take, d_law_take⟩
theorem o_law_take : x_law_take.Ok tb := ⟨by decide +kernel, .no rfl fun _ _ _ _ _ _ us hl => match us, hl with | [_, _], _ => rfl⟩
def d_law_sizes : He.DefD := ⟨(Str.ofString "_law_sizes", none), "_law_sizes", "_law_sizes", defArgs (top 43), defBody (top 43), defScope (top 43), [], []⟩
def b_law_sizes : Ss :=
  (.cons (.set 2 (.lst false (.one (.lst false (.one (.con (.int 2)) .nil)) (.one (.lst false (.one (.con (.int 3)) .nil)) (.one (.lst false (.one (.con (.int 2)) (.one (.con (.int 2)) .nil))) (.one (.lst false (.one (.con (.int 5)) .nil)) (.one (.lst false (.one (.con (.int 6)) .nil)) (.one (.lst false (.one (.con (.int 2)) (.one (.con (.int 3)) .nil))) (.one (.lst false (.one (.con (.int 7)) .nil)) (.one (.lst false (.one (.con (.int 2)) (.one (.con (.int 2)) (.one (.con (.int 2)) .nil)))) (.one (.lst false (.one (.con (.int 9)) .nil)) (.one (.lst false (.one (.con (.int 3)) (.one (.con (.int 3)) .nil))) (.one (.lst false (.one (.con (.int 4)) (.one (.con (.int 3)) .nil))) (.one (.lst false (.one (.con (.int 11)) .nil)) .nil))))))))))))))
    (.cons (.ret (.sub (.loc 2) (.call "" "_law_take" (.one (.loc 0) (.one (.loc 1) .nil)) [] [])))
    .nil))
def x_law_sizes : Df := ⟨"", "_law_sizes", ["_law_box_here", "_law_most", "_law_menu"], 2, b_law_sizes, d_law_sizes⟩
theorem o_law_sizes : x_law_sizes.Ok tb := ⟨by decide +kernel, .no rfl fun _ _ _ _ _ _ us hl => match us, hl with | [_, _], _ => rfl⟩
def d_law_all : He.DefD := ⟨(Str.ofString "_law_all", none), "_law_all", "_law_all", defArgs (top 44), defBody (top 44), defScope (top 44), [], []⟩
def b_law_all : Ss :=
  (.cons (.set 1 (.lst false (.one (.tup .nil) .nil)))
    (.cons (.for_ (.one 2) (.seq (.loc 0)) (.cons (.set 3 (.lst false .nil))
    (.cons (.for_ (.one 4) (.seq (.loc 1)) (.cons (.set 3 (.bin .Add (.loc 3) (.comp false (.bin .Add (.loc 4) (.tup (.one (.loc 5) .nil))) (.one 5) (.rng1 (.loc 2)) .non [5])))
    .nil))
    (.cons (.set 1 (.loc 3))
    .nil))))
    (.cons (.ret (.loc 1))
    .nil)))
def x_law_all : Df := ⟨"", "_law_all", ["_law_sizes_here", "_law_found", "_law_size", "_law_more", "_law_outcome", "_law_rest"], 1, b_law_all, d_law_all⟩
theorem o_law_all : x_law_all.Ok tb := ⟨by decide +kernel, .no rfl fun _ _ _ _ _ _ us hl => match us, hl with | [_], _ => rfl⟩
def d_law_add : He.DefD := ⟨(Str.ofString "_law_add", none), "_law_add", "_law_add", defArgs (top 45), defBody (top 45), defScope (top 45), [], []⟩
def b_law_add : Ss :=
  (.cons (.ret (.seq .tuple (.comp false (.bin .Mod (.bi .int (.one (.bin .Add (.sub (.loc 1) (.loc 4)) (.bin .Mult (.loc 3) (.sub (.loc 2) (.loc 4)))) .nil)) (.sub (.loc 0) (.loc 4))) (.one 4) (.rng1 (.bi .len (.one (.loc 0) .nil))) .non [4])))
    .nil)
def x_law_add : Df := ⟨"", "_law_add", ["_law_sizes_here", "_law_one", "_law_other", "_law_times", "_law_k"], 4, b_law_add, d_law_add⟩
theorem o_law_add : x_law_add.Ok tb := ⟨by decide +kernel, .no rfl fun _ _ _ _ _ _ us hl => match us, hl with | [_, _, _, _], _ => rfl⟩
def d_law_pick : He.DefD := ⟨(Str.ofString "_law_pick", none), "_law_pick", "_law_pick", defArgs (top 46), defBody (top 46), defScope (top 46), [], []⟩
def b_law_pick : Ss :=
  (.cons (.ret (.seq .tuple (.comp false (.call "" "_law_take" (.one (.loc 0) (.one (.loc 2) .nil)) [] []) (.one 2) (.seq (.loc 1)) .non [2])))
    .nil)
def x_law_pick : Df := ⟨"", "_law_pick", ["_law_box_here", "_law_sizes_here", "_law_size"], 2, b_law_pick, d_law_pick⟩
theorem o_law_pick : x_law_pick.Ok tb := ⟨by decide +kernel, .no rfl fun _ _ _ _ _ _ us hl => match us, hl with | [_, _], _ => rfl⟩
def d_law_event : He.DefD := ⟨(Str.ofString "_law_event", none), "_law_event", "_law_event", defArgs (top 47), defBody (top 47), defScope (top 47), [], []⟩
def b_law_event : Ss :=
  (.cons (.set 2 (.bin .Add (.con (.int 1)) (.call "" "_law_take" (.one (.loc 0) (.one (.con (.int 4)) .nil)) [] [])))
    (.cons (.ret (.comp false (.loc 3) (.one 3) (.seq (.call "" "_law_all" (.one (.loc 1) .nil) [] [])) (.som (.cmp .Lt (.call "" "_law_take" (.one (.loc 0) (.one (.con (.int 5)) .nil)) [] []) (.loc 2))) [3]))
    .nil))
def x_law_event : Df := ⟨"", "_law_event", ["_law_box_here", "_law_sizes_here", "_law_way", "_law_outcome"], 2, b_law_event, d_law_event⟩
theorem o_law_event : x_law_event.Ok tb := ⟨by decide +kernel, .no rfl fun _ _ _ _ _ _ us hl => match us, hl with | [_, _], _ => rfl⟩
def d_law_sum : He.DefD := ⟨(Str.ofString "_law_sum", none), "_law_sum", "_law_sum", defArgs (top 48), defBody (top 48), defScope (top 48), [], []⟩
def b_law_sum : Ss :=
  (.cons (.set 2 (.seq .tuple (.comp false (.con (.int 0)) (.one 3) (.seq (.loc 0)) .non [3])))
    (.cons (.for_ (.one 4) (.seq (.loc 1)) (.cons (.set 2 (.call "" "_law_add" (.one (.loc 0) (.one (.loc 2) (.one (.loc 4) (.one (.con (.int 1)) .nil)))) [] []))
    .nil))
    (.cons (.ret (.loc 2))
    .nil)))
def x_law_sum : Df := ⟨"", "_law_sum", ["_law_sizes_here", "_law_outcomes", "_law_found", "_law_size", "_law_outcome"], 2, b_law_sum, d_law_sum⟩
theorem o_law_sum : x_law_sum.Ok tb := ⟨by decide +kernel, .no rfl fun _ _ _ _ _ _ us hl => match us, hl with | [_, _], _ => rfl⟩
def d_law_house : He.DefD := ⟨(Str.ofString "_law_house", none), "_law_house", "_law_house", defArgs (top 49), defBody (top 49), defScope (top 49), [], []⟩
def b_law_house : Ss :=
  (.cons (.set 4 (.make true "House" (.one (.make false "Group" (.one (.loc 0) .nil) [] []) (.one (.loc 1) (.one (.loc 2) .nil))) [] []))
    (.cons (.for_ (.one 5) (.seq (.loc 1)) (.cons (.expr (.meth "House" "seal" (.loc 4) (.one (.loc 5) (.one (.sub (.loc 3) (.loc 5)) .nil)) [] []))
    .nil))
    (.cons (.ret (.loc 4))
    .nil)))
def x_law_house : Df := ⟨"", "_law_house", ["_law_sizes_here", "_law_order", "_law_league", "_law_numbers", "_law_house_here", "_law_name"], 4, b_law_house, d_law_house⟩
theorem o_law_house : x_law_house.Ok tb := ⟨by decide +kernel, .no rfl fun _ _ _ _ _ _ us hl => match us, hl with | [_, _, _, _], _ => rfl⟩
def d_law_after : He.DefD := ⟨(Str.ofString "_law_after", none), "_law_after", "_law_after", defArgs (top 50), defBody (top 50), defScope (top 50), [], []⟩
def b_law_after : Ss :=
  (.cons (.set 6 (.call "" "_law_house" (.one (.loc 0) (.one (.loc 1) (.one (.loc 2) (.one (.loc 3) .nil)))) [] []))
    (.cons (.for_ (.many [7, 8]) (.seq (.loc 4)) (.cons (.ifs (.cmp .Eq (.loc 8) (.con (.str (Str.ofString "show")))) (.cons (.expr (.meth "House" "show" (.loc 6) (.one (.loc 7) .nil) [] []))
    .nil) (.cons (.expr (.meth "House" "refuse" (.loc 6) (.one (.loc 7) .nil) [] []))
    .nil))
    .nil))
    (.cons (.ret (.meth "House" "hope" (.loc 6) (.one (.loc 5) .nil) [] []))
    .nil)))
def x_law_after : Df := ⟨"", "_law_after", ["_law_sizes_here", "_law_order", "_law_league", "_law_numbers", "_law_turns", "_law_event_here", "_law_house_here", "_law_name", "_law_kind"], 6, b_law_after, d_law_after⟩
theorem o_law_after : x_law_after.Ok tb := ⟨by decide +kernel, .no rfl fun _ _ _ _ _ _ us hl => match us, hl with | [_, _, _, _, _, _], _ => rfl⟩
def d_law_step_right : He.DefD := ⟨(Str.ofString "_law_step_right", none), "_law_step_right", "_law_step_right", defArgs (top 51), defBody (top 51), defScope (top 51), [], []⟩
def b_law_step_right : Ss :=
  (.cons (.unp [4, 5, 6, 7] (.loc 0))
    (.cons (.set 8 (.call "" "_law_after" (.one (.loc 4) (.one (.loc 5) (.one (.loc 6) (.one (.loc 7) (.one (.loc 1) (.one (.loc 3) .nil)))))) [] []))
    (.cons (.ifs (.cmp .In (.loc 2) (.loc 6)) (.cons (.set 9 (.call "" "_law_after" (.one (.loc 4) (.one (.loc 5) (.one (.loc 6) (.one (.loc 7) (.one (.bin .Add (.loc 1) (.lst false (.one (.tup (.one (.loc 2) (.one (.con (.str (Str.ofString "show"))) .nil))) .nil))) (.one (.loc 3) .nil)))))) [] []))
    (.cons (.set 10 (.call "" "_law_after" (.one (.loc 4) (.one (.loc 5) (.one (.loc 6) (.one (.loc 7) (.one (.bin .Add (.loc 1) (.lst false (.one (.tup (.one (.loc 2) (.one (.con (.str (Str.ofString "refuse"))) .nil))) .nil))) (.one (.loc 3) .nil)))))) [] []))
    (.cons (.ret (.cmp .Eq (.loc 8) (.ife (.cmp .Lt (.loc 9) (.loc 10)) (.loc 10) (.loc 9))))
    .nil))) .nil)
    (.cons (.set 11 (.lst true .nil))
    (.cons (.for_ (.one 12) (.seq (.call "" "_law_all" (.one (.loc 4) .nil) [] [])) (.cons (.set 13 (.seq .dict (.loc 7)))
    (.cons (.sub (.loc 13) (.loc 2) (.loc 12))
    (.cons (.app (.loc 11) (.call "" "_law_after" (.one (.loc 4) (.one (.loc 5) (.one (.loc 6) (.one (.loc 13) (.one (.bin .Add (.loc 1) (.lst false (.one (.tup (.one (.loc 2) (.one (.con (.str (Str.ofString "show"))) .nil))) .nil))) (.one (.loc 3) .nil)))))) [] []))
    .nil))))
    (.cons (.ret (.cmp .Eq (.bin .Mult (.loc 8) (.bi .len (.one (.loc 11) .nil))) (.call "" "total" (.one (.loc 11) .nil) [] [])))
    .nil))))))
def x_law_step_right : Df := ⟨"", "_law_step_right", ["_law_page", "_law_turns", "_law_name", "_law_event_here", "_law_sizes_here", "_law_order", "_law_league", "_law_numbers", "_law_here", "_law_shown", "_law_refused", "_law_rows", "_law_outcome", "_law_other"], 4, b_law_step_right, d_law_step_right⟩
theorem o_law_step_right : x_law_step_right.Ok tb := ⟨by decide +kernel, .no rfl fun _ _ _ _ _ _ us hl => match us, hl with | [_, _, _, _], _ => rfl⟩
def d_law : He.DefD := ⟨(Str.ofString "law", none), "law", "law", defArgs (top 52), defBody (top 52), defScope (top 52), [], []⟩
def b_law : Ss :=
  (.cons (.set 1 (.call "" "_law_box" (.one (.loc 0) (.one (.con (.int 0)) .nil)) [] []))
    (.cons (.set 2 (.call "" "_law_sizes" (.one (.loc 1) (.one (.con (.int 8)) .nil)) [] []))
    (.cons (.set 3 (.slc (.lst false (.one (.con (.str (Str.ofString "kai"))) (.one (.con (.str (Str.ofString "ann"))) (.one (.con (.str (Str.ofString "anna"))) (.one (.con (.str (Str.ofString "bob"))) .nil))))) .non (.som (.bin .Add (.con (.int 1)) (.call "" "_law_take" (.one (.loc 1) (.one (.con (.int 4)) .nil)) [] [])))))
    (.cons (.set 4 (.comp false (.loc 5) (.one 5) (.seq (.loc 3)) (.som (.cmp .Gt (.call "" "_law_take" (.one (.loc 1) (.one (.con (.int 3)) .nil)) [] []) (.con (.int 0)))) [5]))
    (.cons (.set 6 (.dic .k true .nil))
    (.cons (.for_ (.one 5) (.seq (.loc 3)) (.cons (.sub (.loc 6) (.loc 5) (.call "" "_law_pick" (.one (.loc 1) (.one (.loc 2) .nil)) [] []))
    .nil))
    (.cons (.set 7 (.lst false (.one (.loc 2) (.one (.loc 3) (.one (.loc 4) (.one (.loc 6) .nil))))))
    (.cons (.set 8 (.call "" "_law_event" (.one (.loc 1) (.one (.loc 2) .nil)) [] []))
    (.cons (.set 9 (.call "" "_law_event" (.one (.loc 1) (.one (.loc 2) .nil)) [] []))
    (.cons (.set 10 (.meth "Group" "event" (.make false "Group" (.one (.loc 2) .nil) [] []) (.one (.bin .Add (.loc 8) (.loc 9)) .nil) [] []))
    (.cons (.set 11 (.lst false .nil))
    (.cons (.for_ (.one 5) (.seq (.loc 3)) (.cons (.ifs (.nt (.call "" "_law_step_right" (.one (.loc 7) (.one (.loc 11) (.one (.loc 5) (.one (.loc 8) .nil)))) [] [])) (.cons (.ret (.con (.bl false)))
    .nil) .nil)
    (.cons (.set 12 (.comp false (.call "" "_law_after" (.one (.loc 2) (.one (.loc 3) (.one (.loc 4) (.one (.loc 6) (.one (.loc 11) (.one (.loc 13) .nil)))))) [] []) (.one 13) (.seq (.lst false (.one (.loc 8) (.one (.loc 9) (.one (.loc 10) .nil))))) .non [13]))
    (.cons (.ifs (.orr (.cmp .Lt (.sub (.loc 12) (.con (.int 2))) (.sub (.loc 12) (.con (.int 0)))) (.cmp .Lt (.bin .Add (.sub (.loc 12) (.con (.int 0))) (.sub (.loc 12) (.con (.int 1)))) (.sub (.loc 12) (.con (.int 2))))) (.cons (.ret (.con (.bl false)))
    .nil) .nil)
    (.cons (.set 14 (.ife (.an (.cmp .In (.loc 5) (.loc 4)) (.cmp .Eq (.call "" "_law_take" (.one (.loc 1) (.one (.con (.int 2)) .nil)) [] []) (.con (.int 0)))) (.con (.str (Str.ofString "refuse"))) (.con (.str (Str.ofString "show")))))
    (.cons (.set 11 (.bin .Add (.loc 11) (.lst false (.one (.tup (.one (.loc 5) (.one (.loc 14) .nil))) .nil))))
    .nil))))))
    (.cons (.set 15 (.call "" "_law_after" (.one (.loc 2) (.one (.loc 3) (.one (.loc 4) (.one (.loc 6) (.one (.loc 11) (.one (.loc 8) .nil)))))) [] []))
    (.cons (.set 16 (.call "" "_law_sum" (.one (.loc 2) (.one (.comp false (.sub (.loc 6) (.loc 5)) (.many [5, 14]) (.seq (.loc 11)) (.som (.cmp .Eq (.loc 14) (.con (.str (Str.ofString "show"))))) [5, 14]) .nil)) [] []))
    (.cons (.ret (.cmp .Eq (.loc 15) (.make false "Ratio" (.one (.bi .int (.one (.cmp .In (.loc 16) (.loc 8)) .nil)) .nil) [0, 1] [((.int 1))])))
    .nil)))))))))))))))
def x_law : Df := ⟨"", "law", ["_law_script", "_law_box_here", "_law_sizes_here", "_law_order", "_law_league", "_law_name", "_law_numbers", "_law_page", "_law_one", "_law_other", "_law_both", "_law_turns", "_law_hopes", "_law_event_here", "_law_kind", "_law_last", "_law_due"], 1, b_law, d_law⟩
theorem o_law : x_law.Ok tb := ⟨by decide +kernel, .no rfl fun _ _ _ _ _ _ us hl => match us, hl with | [_], _ => rfl⟩
def e_ByZero : Xd := ⟨"ByZero", [], ⟨(Str.ofString "ByZero", some ("__init__" : Str)), "__init__", "ByZero.__init__", defArgs (inClass (top 3) 0), defBody (inClass (top 3) 0), defScope (inClass (top 3) 0), [], []⟩⟩
theorem oe_ByZero : e_ByZero.Ok "DrawError" := ⟨by decide +kernel, fun _ _ _ _ _ _ us hl => match us, hl with | [_], _ => rfl⟩
def e_BadNumber : Xd := ⟨"BadNumber", ["given"], ⟨(Str.ofString "BadNumber", some ("__init__" : Str)), "__init__", "BadNumber.__init__", defArgs (inClass (top 4) 0), defBody (inClass (top 4) 0), defScope (inClass (top 4) 0), [], []⟩⟩
theorem oe_BadNumber : e_BadNumber.Ok "DrawError" := ⟨by decide +kernel, fun _ _ _ _ _ _ us hl => match us, hl with | [_, _], _ => rfl⟩
def e_TooEarly : Xd := ⟨"TooEarly", [], ⟨(Str.ofString "TooEarly", some ("__init__" : Str)), "__init__", "TooEarly.__init__", defArgs (inClass (top 6) 0), defBody (inClass (top 6) 0), defScope (inClass (top 6) 0), [], []⟩⟩
theorem oe_TooEarly : e_TooEarly.Ok "DrawError" := ⟨by decide +kernel, fun _ _ _ _ _ _ us hl => match us, hl with | [_], _ => rfl⟩
def e_BadSizes : Xd := ⟨"BadSizes", ["given"], ⟨(Str.ofString "BadSizes", some ("__init__" : Str)), "__init__", "BadSizes.__init__", defArgs (inClass (top 7) 0), defBody (inClass (top 7) 0), defScope (inClass (top 7) 0), [], []⟩⟩
theorem oe_BadSizes : e_BadSizes.Ok "DrawError" := ⟨by decide +kernel, fun _ _ _ _ _ _ us hl => match us, hl with | [_, _], _ => rfl⟩
def e_BadOutcome : Xd := ⟨"BadOutcome", ["given"], ⟨(Str.ofString "BadOutcome", some ("__init__" : Str)), "__init__", "BadOutcome.__init__", defArgs (inClass (top 8) 0), defBody (inClass (top 8) 0), defScope (inClass (top 8) 0), [], []⟩⟩
theorem oe_BadOutcome : e_BadOutcome.Ok "DrawError" := ⟨by decide +kernel, fun _ _ _ _ _ _ us hl => match us, hl with | [_, _], _ => rfl⟩
def e_BadEvent : Xd := ⟨"BadEvent", ["given"], ⟨(Str.ofString "BadEvent", some ("__init__" : Str)), "__init__", "BadEvent.__init__", defArgs (inClass (top 9) 0), defBody (inClass (top 9) 0), defScope (inClass (top 9) 0), [], []⟩⟩
theorem oe_BadEvent : e_BadEvent.Ok "DrawError" := ⟨by decide +kernel, fun _ _ _ _ _ _ us hl => match us, hl with | [_, _], _ => rfl⟩
def e_BadOrder : Xd := ⟨"BadOrder", ["given"], ⟨(Str.ofString "BadOrder", some ("__init__" : Str)), "__init__", "BadOrder.__init__", defArgs (inClass (top 10) 0), defBody (inClass (top 10) 0), defScope (inClass (top 10) 0), [], []⟩⟩
theorem oe_BadOrder : e_BadOrder.Ok "DrawError" := ⟨by decide +kernel, fun _ _ _ _ _ _ us hl => match us, hl with | [_, _], _ => rfl⟩
def e_BadLeague : Xd := ⟨"BadLeague", ["given"], ⟨(Str.ofString "BadLeague", some ("__init__" : Str)), "__init__", "BadLeague.__init__", defArgs (inClass (top 11) 0), defBody (inClass (top 11) 0), defScope (inClass (top 11) 0), [], []⟩⟩
theorem oe_BadLeague : e_BadLeague.Ok "DrawError" := ⟨by decide +kernel, fun _ _ _ _ _ _ us hl => match us, hl with | [_, _], _ => rfl⟩
def e_NoPerson : Xd := ⟨"NoPerson", ["given"], ⟨(Str.ofString "NoPerson", some ("__init__" : Str)), "__init__", "NoPerson.__init__", defArgs (inClass (top 12) 0), defBody (inClass (top 12) 0), defScope (inClass (top 12) 0), [], []⟩⟩
theorem oe_NoPerson : e_NoPerson.Ok "DrawError" := ⟨by decide +kernel, fun _ _ _ _ _ _ us hl => match us, hl with | [_, _], _ => rfl⟩
def e_NotTheirTurn : Xd := ⟨"NotTheirTurn", ["given"], ⟨(Str.ofString "NotTheirTurn", some ("__init__" : Str)), "__init__", "NotTheirTurn.__init__", defArgs (inClass (top 13) 0), defBody (inClass (top 13) 0), defScope (inClass (top 13) 0), [], []⟩⟩
theorem oe_NotTheirTurn : e_NotTheirTurn.Ok "DrawError" := ⟨by decide +kernel, fun _ _ _ _ _ _ us hl => match us, hl with | [_, _], _ => rfl⟩
def e_InUse : Xd := ⟨"InUse", ["given"], ⟨(Str.ofString "InUse", some ("__init__" : Str)), "__init__", "InUse.__init__", defArgs (inClass (top 14) 0), defBody (inClass (top 14) 0), defScope (inClass (top 14) 0), [], []⟩⟩
theorem oe_InUse : e_InUse.Ok "DrawError" := ⟨by decide +kernel, fun _ _ _ _ _ _ us hl => match us, hl with | [_, _], _ => rfl⟩
theorem pk_0 : PatM d_Ratio_init x_Ratio_init.ps 1 ([].map Str.ofString) [0, 1] := .yes (by decide +kernel) fun _ _ _ _ _ _ _ _ us ws its as h1 h2 h0 h3 => match us, ws, its, h1, h2, h0, h3 with
  | [a0], [], [c0], _, _, _, h3 => by cases h3; exact ⟨_, rfl, rfl⟩
def tab : List Df := [x_is_integer, x_divisor_of, x_parts, x_checked, x_Ratio_init, x_Ratio_add, x_Ratio_mul, x_Ratio_eq, x_Ratio_lt, x_total, x_all_outcomes, x_Group_init, x_Group_len, x_Group_outcomes, x_Group_zero, x_Group_has, x_Group_checked, x_Group_added, x_Group_plus, x_Group_total, x_Group_event, x_is_name, x_check_order, x_check_league, x_sums_of, x_reach, x_State_init, x_House_init, x_House_check_person, x_House_check_sealed, x_House_state_after, x_House_do_step, x_House_seal, x_House_show, x_House_refuse, x_House_turn, x_House_total, x_House_hope_from, x_House_left, x_House_hope, x_law_cell, x_law_box, x_law_take, x_law_sizes, x_law_all, x_law_add, x_law_pick, x_law_event, x_law_sum, x_law_house, x_law_after, x_law_step_right, x_law]
def xs : List Xd := [e_ByZero, e_BadNumber, e_TooEarly, e_BadSizes, e_BadOutcome, e_BadEvent, e_BadOrder, e_BadLeague, e_NoPerson, e_NotTheirTurn, e_InUse]
def fn : List He.DefD := tab.map (·.d) ++ xs.map (·.d)
def rt : Option String := some "DrawError"
theorem t_ok : TabOk tb rt tab xs fn where
  ok := List.forall_mem_cons.mpr ⟨o_is_integer, List.forall_mem_cons.mpr ⟨o_divisor_of, List.forall_mem_cons.mpr ⟨o_parts, List.forall_mem_cons.mpr ⟨o_checked, List.forall_mem_cons.mpr ⟨o_Ratio_init, List.forall_mem_cons.mpr ⟨o_Ratio_add, List.forall_mem_cons.mpr ⟨o_Ratio_mul, List.forall_mem_cons.mpr ⟨o_Ratio_eq, List.forall_mem_cons.mpr ⟨o_Ratio_lt, List.forall_mem_cons.mpr ⟨o_total, List.forall_mem_cons.mpr ⟨o_all_outcomes, List.forall_mem_cons.mpr ⟨o_Group_init, List.forall_mem_cons.mpr ⟨o_Group_len, List.forall_mem_cons.mpr ⟨o_Group_outcomes, List.forall_mem_cons.mpr ⟨o_Group_zero, List.forall_mem_cons.mpr ⟨o_Group_has, List.forall_mem_cons.mpr ⟨o_Group_checked, List.forall_mem_cons.mpr ⟨o_Group_added, List.forall_mem_cons.mpr ⟨o_Group_plus, List.forall_mem_cons.mpr ⟨o_Group_total, List.forall_mem_cons.mpr ⟨o_Group_event, List.forall_mem_cons.mpr ⟨o_is_name, List.forall_mem_cons.mpr ⟨o_check_order, List.forall_mem_cons.mpr ⟨o_check_league, List.forall_mem_cons.mpr ⟨o_sums_of, List.forall_mem_cons.mpr ⟨o_reach, List.forall_mem_cons.mpr ⟨o_State_init, List.forall_mem_cons.mpr ⟨o_House_init, List.forall_mem_cons.mpr ⟨o_House_check_person, List.forall_mem_cons.mpr ⟨o_House_check_sealed, List.forall_mem_cons.mpr ⟨o_House_state_after, List.forall_mem_cons.mpr ⟨o_House_do_step, List.forall_mem_cons.mpr ⟨o_House_seal, List.forall_mem_cons.mpr ⟨o_House_show, List.forall_mem_cons.mpr ⟨o_House_refuse, List.forall_mem_cons.mpr ⟨o_House_turn, List.forall_mem_cons.mpr ⟨o_House_total, List.forall_mem_cons.mpr ⟨o_House_hope_from, List.forall_mem_cons.mpr ⟨o_House_left, List.forall_mem_cons.mpr ⟨o_House_hope, List.forall_mem_cons.mpr ⟨o_law_cell, List.forall_mem_cons.mpr ⟨o_law_box, List.forall_mem_cons.mpr ⟨o_law_take, List.forall_mem_cons.mpr ⟨o_law_sizes, List.forall_mem_cons.mpr ⟨o_law_all, List.forall_mem_cons.mpr ⟨o_law_add, List.forall_mem_cons.mpr ⟨o_law_pick, List.forall_mem_cons.mpr ⟨o_law_event, List.forall_mem_cons.mpr ⟨o_law_sum, List.forall_mem_cons.mpr ⟨o_law_house, List.forall_mem_cons.mpr ⟨o_law_after, List.forall_mem_cons.mpr ⟨o_law_step_right, List.forall_mem_cons.mpr ⟨o_law, fun _ h => (nomatch h)⟩⟩⟩⟩⟩⟩⟩⟩⟩⟩⟩⟩⟩⟩⟩⟩⟩⟩⟩⟩⟩⟩⟩⟩⟩⟩⟩⟩⟩⟩⟩⟩⟩⟩⟩⟩⟩⟩⟩⟩⟩⟩⟩⟩⟩⟩⟩⟩⟩⟩⟩⟩⟩
  ex := List.forall_mem_cons.mpr ⟨⟨_, rfl, e_ByZero, by simp [xs], rfl, rfl, oe_ByZero⟩, List.forall_mem_cons.mpr ⟨⟨_, rfl, e_BadNumber, by simp [xs], rfl, rfl, oe_BadNumber⟩, List.forall_mem_cons.mpr ⟨⟨_, rfl, e_TooEarly, by simp [xs], rfl, rfl, oe_TooEarly⟩, List.forall_mem_cons.mpr ⟨⟨_, rfl, e_BadSizes, by simp [xs], rfl, rfl, oe_BadSizes⟩, List.forall_mem_cons.mpr ⟨⟨_, rfl, e_BadOutcome, by simp [xs], rfl, rfl, oe_BadOutcome⟩, List.forall_mem_cons.mpr ⟨⟨_, rfl, e_BadEvent, by simp [xs], rfl, rfl, oe_BadEvent⟩, List.forall_mem_cons.mpr ⟨⟨_, rfl, e_BadOrder, by simp [xs], rfl, rfl, oe_BadOrder⟩, List.forall_mem_cons.mpr ⟨⟨_, rfl, e_BadLeague, by simp [xs], rfl, rfl, oe_BadLeague⟩, List.forall_mem_cons.mpr ⟨⟨_, rfl, e_NoPerson, by simp [xs], rfl, rfl, oe_NoPerson⟩, List.forall_mem_cons.mpr ⟨⟨_, rfl, e_NotTheirTurn, by simp [xs], rfl, rfl, oe_NotTheirTurn⟩, List.forall_mem_cons.mpr ⟨⟨_, rfl, e_InUse, by simp [xs], rfl, rfl, oe_InUse⟩, fun _ h => (nomatch h)⟩⟩⟩⟩⟩⟩⟩⟩⟩⟩⟩
  fd := fun x h => List.mem_append_left _ (List.mem_map.mpr ⟨x, h, rfl⟩)
  fx := fun x h => List.mem_append_right _ (List.mem_map.mpr ⟨x, h, rfl⟩)
  fns := by decide +kernel
  pats := fun _ h => (nomatch h)
  mts := by decide +kernel
  mks := by decide +kernel
  exn := by decide +kernel
  ops := by decide +kernel
  mpats := fun _ h => (nomatch h)
  kpats := List.forall_mem_cons.mpr ⟨⟨_, rfl, by decide, pk_0, by rfl⟩, fun _ h => (nomatch h)⟩
theorem u_is_integer {j : Nat} {ds : List D} {m : Mem} (h : ds.length = 1) : callL tab (xnT tb) (j + 1) "" "is_integer" ds m = retR m.length (evSs (glL tab (xnT tb) j) (xnT tb) b_is_integer (e0 1 ds) m) := callL_eq (x := x_is_integer) (by rfl) h
theorem u_divisor_of {j : Nat} {ds : List D} {m : Mem} (h : ds.length = 2) : callL tab (xnT tb) (j + 1) "" "divisor_of" ds m = retR m.length (evSs (glL tab (xnT tb) j) (xnT tb) b_divisor_of (e0 2 ds) m) := callL_eq (x := x_divisor_of) (by rfl) h
theorem u_parts {j : Nat} {ds : List D} {m : Mem} (h : ds.length = 1) : callL tab (xnT tb) (j + 1) "" "parts" ds m = retR m.length (evSs (glL tab (xnT tb) j) (xnT tb) b_parts (e0 1 ds) m) := callL_eq (x := x_parts) (by rfl) h
theorem u_checked {j : Nat} {ds : List D} {m : Mem} (h : ds.length = 1) : callL tab (xnT tb) (j + 1) "" "checked" ds m = retR m.length (evSs (glL tab (xnT tb) j) (xnT tb) b_checked (e0 2 ds) m) := callL_eq (x := x_checked) (by rfl) h
theorem u_Ratio_init {j : Nat} {ds : List D} {m : Mem} (h : ds.length = 3) : callL tab (xnT tb) (j + 1) "Ratio" "__init__" ds m = retR m.length (evSs (glL tab (xnT tb) j) (xnT tb) b_Ratio_init (e0 4 ds) m) := callL_eq (x := x_Ratio_init) (by rfl) h
theorem u_Ratio_add {j : Nat} {ds : List D} {m : Mem} (h : ds.length = 2) : callL tab (xnT tb) (j + 1) "Ratio" "__add__" ds m = retR m.length (evSs (glL tab (xnT tb) j) (xnT tb) b_Ratio_add (e0 4 ds) m) := callL_eq (x := x_Ratio_add) (by rfl) h
theorem u_Ratio_mul {j : Nat} {ds : List D} {m : Mem} (h : ds.length = 2) : callL tab (xnT tb) (j + 1) "Ratio" "__mul__" ds m = retR m.length (evSs (glL tab (xnT tb) j) (xnT tb) b_Ratio_mul (e0 4 ds) m) := callL_eq (x := x_Ratio_mul) (by rfl) h
theorem u_Ratio_eq {j : Nat} {ds : List D} {m : Mem} (h : ds.length = 2) : callL tab (xnT tb) (j + 1) "Ratio" "__eq__" ds m = retR m.length (evSs (glL tab (xnT tb) j) (xnT tb) b_Ratio_eq (e0 2 ds) m) := callL_eq (x := x_Ratio_eq) (by rfl) h
theorem u_Ratio_lt {j : Nat} {ds : List D} {m : Mem} (h : ds.length = 2) : callL tab (xnT tb) (j + 1) "Ratio" "__lt__" ds m = retR m.length (evSs (glL tab (xnT tb) j) (xnT tb) b_Ratio_lt (e0 4 ds) m) := callL_eq (x := x_Ratio_lt) (by rfl) h
theorem u_total {j : Nat} {ds : List D} {m : Mem} (h : ds.length = 1) : callL tab (xnT tb) (j + 1) "" "total" ds m = retR m.length (evSs (glL tab (xnT tb) j) (xnT tb) b_total (e0 3 ds) m) := callL_eq (x := x_total) (by rfl) h
theorem u_all_outcomes {j : Nat} {ds : List D} {m : Mem} (h : ds.length = 1) : callL tab (xnT tb) (j + 1) "" "all_outcomes" ds m = retR m.length (evSs (glL tab (xnT tb) j) (xnT tb) b_all_outcomes (e0 5 ds) m) := callL_eq (x := x_all_outcomes) (by rfl) h
theorem u_Group_init {j : Nat} {ds : List D} {m : Mem} (h : ds.length = 2) : callL tab (xnT tb) (j + 1) "Group" "__init__" ds m = retR m.length (evSs (glL tab (xnT tb) j) (xnT tb) b_Group_init (e0 3 ds) m) := callL_eq (x := x_Group_init) (by rfl) h
theorem u_Group_len {j : Nat} {ds : List D} {m : Mem} (h : ds.length = 1) : callL tab (xnT tb) (j + 1) "Group" "__len__" ds m = retR m.length (evSs (glL tab (xnT tb) j) (xnT tb) b_Group_len (e0 1 ds) m) := callL_eq (x := x_Group_len) (by rfl) h
theorem u_Group_outcomes {j : Nat} {ds : List D} {m : Mem} (h : ds.length = 1) : callL tab (xnT tb) (j + 1) "Group" "outcomes" ds m = retR m.length (evSs (glL tab (xnT tb) j) (xnT tb) b_Group_outcomes (e0 1 ds) m) := callL_eq (x := x_Group_outcomes) (by rfl) h
theorem u_Group_zero {j : Nat} {ds : List D} {m : Mem} (h : ds.length = 1) : callL tab (xnT tb) (j + 1) "Group" "zero" ds m = retR m.length (evSs (glL tab (xnT tb) j) (xnT tb) b_Group_zero (e0 1 ds) m) := callL_eq (x := x_Group_zero) (by rfl) h
theorem u_Group_has {j : Nat} {ds : List D} {m : Mem} (h : ds.length = 2) : callL tab (xnT tb) (j + 1) "Group" "has" ds m = retR m.length (evSs (glL tab (xnT tb) j) (xnT tb) b_Group_has (e0 4 ds) m) := callL_eq (x := x_Group_has) (by rfl) h
theorem u_Group_checked {j : Nat} {ds : List D} {m : Mem} (h : ds.length = 2) : callL tab (xnT tb) (j + 1) "Group" "checked" ds m = retR m.length (evSs (glL tab (xnT tb) j) (xnT tb) b_Group_checked (e0 2 ds) m) := callL_eq (x := x_Group_checked) (by rfl) h
theorem u_Group_added {j : Nat} {ds : List D} {m : Mem} (h : ds.length = 4) : callL tab (xnT tb) (j + 1) "Group" "added" ds m = retR m.length (evSs (glL tab (xnT tb) j) (xnT tb) b_Group_added (e0 6 ds) m) := callL_eq (x := x_Group_added) (by rfl) h
theorem u_Group_plus {j : Nat} {ds : List D} {m : Mem} (h : ds.length = 3) : callL tab (xnT tb) (j + 1) "Group" "plus" ds m = retR m.length (evSs (glL tab (xnT tb) j) (xnT tb) b_Group_plus (e0 3 ds) m) := callL_eq (x := x_Group_plus) (by rfl) h
theorem u_Group_total {j : Nat} {ds : List D} {m : Mem} (h : ds.length = 2) : callL tab (xnT tb) (j + 1) "Group" "total" ds m = retR m.length (evSs (glL tab (xnT tb) j) (xnT tb) b_Group_total (e0 4 ds) m) := callL_eq (x := x_Group_total) (by rfl) h
theorem u_Group_event {j : Nat} {ds : List D} {m : Mem} (h : ds.length = 2) : callL tab (xnT tb) (j + 1) "Group" "event" ds m = retR m.length (evSs (glL tab (xnT tb) j) (xnT tb) b_Group_event (e0 3 ds) m) := callL_eq (x := x_Group_event) (by rfl) h
theorem u_is_name {j : Nat} {ds : List D} {m : Mem} (h : ds.length = 1) : callL tab (xnT tb) (j + 1) "" "is_name" ds m = retR m.length (evSs (glL tab (xnT tb) j) (xnT tb) b_is_name (e0 2 ds) m) := callL_eq (x := x_is_name) (by rfl) h
theorem u_check_order {j : Nat} {ds : List D} {m : Mem} (h : ds.length = 1) : callL tab (xnT tb) (j + 1) "" "check_order" ds m = retR m.length (evSs (glL tab (xnT tb) j) (xnT tb) b_check_order (e0 3 ds) m) := callL_eq (x := x_check_order) (by rfl) h
theorem u_check_league {j : Nat} {ds : List D} {m : Mem} (h : ds.length = 2) : callL tab (xnT tb) (j + 1) "" "check_league" ds m = retR m.length (evSs (glL tab (xnT tb) j) (xnT tb) b_check_league (e0 4 ds) m) := callL_eq (x := x_check_league) (by rfl) h
theorem u_sums_of {j : Nat} {ds : List D} {m : Mem} (h : ds.length = 2) : callL tab (xnT tb) (j + 1) "" "sums_of" ds m = retR m.length (evSs (glL tab (xnT tb) j) (xnT tb) b_sums_of (e0 5 ds) m) := callL_eq (x := x_sums_of) (by rfl) h
theorem u_reach {j : Nat} {ds : List D} {m : Mem} (h : ds.length = 3) : callL tab (xnT tb) (j + 1) "" "reach" ds m = retR m.length (evSs (glL tab (xnT tb) j) (xnT tb) b_reach (e0 6 ds) m) := callL_eq (x := x_reach) (by rfl) h
theorem u_State_init {j : Nat} {ds : List D} {m : Mem} (h : ds.length = 3) : callL tab (xnT tb) (j + 1) "State" "__init__" ds m = retR m.length (evSs (glL tab (xnT tb) j) (xnT tb) b_State_init (e0 3 ds) m) := callL_eq (x := x_State_init) (by rfl) h
theorem u_House_init {j : Nat} {ds : List D} {m : Mem} (h : ds.length = 4) : callL tab (xnT tb) (j + 1) "House" "__init__" ds m = retR m.length (evSs (glL tab (xnT tb) j) (xnT tb) b_House_init (e0 4 ds) m) := callL_eq (x := x_House_init) (by rfl) h
theorem u_House_check_person {j : Nat} {ds : List D} {m : Mem} (h : ds.length = 2) : callL tab (xnT tb) (j + 1) "House" "check_person" ds m = retR m.length (evSs (glL tab (xnT tb) j) (xnT tb) b_House_check_person (e0 2 ds) m) := callL_eq (x := x_House_check_person) (by rfl) h
theorem u_House_check_sealed {j : Nat} {ds : List D} {m : Mem} (h : ds.length = 1) : callL tab (xnT tb) (j + 1) "House" "check_sealed" ds m = retR m.length (evSs (glL tab (xnT tb) j) (xnT tb) b_House_check_sealed (e0 1 ds) m) := callL_eq (x := x_House_check_sealed) (by rfl) h
theorem u_House_state_after {j : Nat} {ds : List D} {m : Mem} (h : ds.length = 2) : callL tab (xnT tb) (j + 1) "House" "state_after" ds m = retR m.length (evSs (glL tab (xnT tb) j) (xnT tb) b_House_state_after (e0 3 ds) m) := callL_eq (x := x_House_state_after) (by rfl) h
theorem u_House_do_step {j : Nat} {ds : List D} {m : Mem} (h : ds.length = 2) : callL tab (xnT tb) (j + 1) "House" "do_step" ds m = retR m.length (evSs (glL tab (xnT tb) j) (xnT tb) b_House_do_step (e0 2 ds) m) := callL_eq (x := x_House_do_step) (by rfl) h
theorem u_House_seal {j : Nat} {ds : List D} {m : Mem} (h : ds.length = 3) : callL tab (xnT tb) (j + 1) "House" "seal" ds m = retR m.length (evSs (glL tab (xnT tb) j) (xnT tb) b_House_seal (e0 3 ds) m) := callL_eq (x := x_House_seal) (by rfl) h
theorem u_House_show {j : Nat} {ds : List D} {m : Mem} (h : ds.length = 2) : callL tab (xnT tb) (j + 1) "House" "show" ds m = retR m.length (evSs (glL tab (xnT tb) j) (xnT tb) b_House_show (e0 2 ds) m) := callL_eq (x := x_House_show) (by rfl) h
theorem u_House_refuse {j : Nat} {ds : List D} {m : Mem} (h : ds.length = 2) : callL tab (xnT tb) (j + 1) "House" "refuse" ds m = retR m.length (evSs (glL tab (xnT tb) j) (xnT tb) b_House_refuse (e0 2 ds) m) := callL_eq (x := x_House_refuse) (by rfl) h
theorem u_House_turn {j : Nat} {ds : List D} {m : Mem} (h : ds.length = 1) : callL tab (xnT tb) (j + 1) "House" "turn" ds m = retR m.length (evSs (glL tab (xnT tb) j) (xnT tb) b_House_turn (e0 1 ds) m) := callL_eq (x := x_House_turn) (by rfl) h
theorem u_House_total {j : Nat} {ds : List D} {m : Mem} (h : ds.length = 1) : callL tab (xnT tb) (j + 1) "House" "total" ds m = retR m.length (evSs (glL tab (xnT tb) j) (xnT tb) b_House_total (e0 4 ds) m) := callL_eq (x := x_House_total) (by rfl) h
theorem u_House_hope_from {j : Nat} {ds : List D} {m : Mem} (h : ds.length = 4) : callL tab (xnT tb) (j + 1) "House" "hope_from" ds m = retR m.length (evSs (glL tab (xnT tb) j) (xnT tb) b_House_hope_from (e0 9 ds) m) := callL_eq (x := x_House_hope_from) (by rfl) h
theorem u_House_left {j : Nat} {ds : List D} {m : Mem} (h : ds.length = 1) : callL tab (xnT tb) (j + 1) "House" "left" ds m = retR m.length (evSs (glL tab (xnT tb) j) (xnT tb) b_House_left (e0 1 ds) m) := callL_eq (x := x_House_left) (by rfl) h
theorem u_House_hope {j : Nat} {ds : List D} {m : Mem} (h : ds.length = 2) : callL tab (xnT tb) (j + 1) "House" "hope" ds m = retR m.length (evSs (glL tab (xnT tb) j) (xnT tb) b_House_hope (e0 2 ds) m) := callL_eq (x := x_House_hope) (by rfl) h
theorem u_law_cell {j : Nat} {ds : List D} {m : Mem} (h : ds.length = 2) : callL tab (xnT tb) (j + 1) "" "_law_cell" ds m = retR m.length (evSs (glL tab (xnT tb) j) (xnT tb) b_law_cell (e0 2 ds) m) := callL_eq (x := x_law_cell) (by rfl) h
theorem u_law_box {j : Nat} {ds : List D} {m : Mem} (h : ds.length = 2) : callL tab (xnT tb) (j + 1) "" "_law_box" ds m = retR m.length (evSs (glL tab (xnT tb) j) (xnT tb) b_law_box (e0 2 ds) m) := callL_eq (x := x_law_box) (by rfl) h
theorem u_law_take {j : Nat} {ds : List D} {m : Mem} (h : ds.length = 2) : callL tab (xnT tb) (j + 1) "" "_law_take" ds m = retR m.length (evSs (glL tab (xnT tb) j) (xnT tb) b_law_take (e0 4 ds) m) := callL_eq (x := x_law_take) (by rfl) h
theorem u_law_sizes {j : Nat} {ds : List D} {m : Mem} (h : ds.length = 2) : callL tab (xnT tb) (j + 1) "" "_law_sizes" ds m = retR m.length (evSs (glL tab (xnT tb) j) (xnT tb) b_law_sizes (e0 3 ds) m) := callL_eq (x := x_law_sizes) (by rfl) h
theorem u_law_all {j : Nat} {ds : List D} {m : Mem} (h : ds.length = 1) : callL tab (xnT tb) (j + 1) "" "_law_all" ds m = retR m.length (evSs (glL tab (xnT tb) j) (xnT tb) b_law_all (e0 6 ds) m) := callL_eq (x := x_law_all) (by rfl) h
theorem u_law_add {j : Nat} {ds : List D} {m : Mem} (h : ds.length = 4) : callL tab (xnT tb) (j + 1) "" "_law_add" ds m = retR m.length (evSs (glL tab (xnT tb) j) (xnT tb) b_law_add (e0 5 ds) m) := callL_eq (x := x_law_add) (by rfl) h
theorem u_law_pick {j : Nat} {ds : List D} {m : Mem} (h : ds.length = 2) : callL tab (xnT tb) (j + 1) "" "_law_pick" ds m = retR m.length (evSs (glL tab (xnT tb) j) (xnT tb) b_law_pick (e0 3 ds) m) := callL_eq (x := x_law_pick) (by rfl) h
theorem u_law_event {j : Nat} {ds : List D} {m : Mem} (h : ds.length = 2) : callL tab (xnT tb) (j + 1) "" "_law_event" ds m = retR m.length (evSs (glL tab (xnT tb) j) (xnT tb) b_law_event (e0 4 ds) m) := callL_eq (x := x_law_event) (by rfl) h
theorem u_law_sum {j : Nat} {ds : List D} {m : Mem} (h : ds.length = 2) : callL tab (xnT tb) (j + 1) "" "_law_sum" ds m = retR m.length (evSs (glL tab (xnT tb) j) (xnT tb) b_law_sum (e0 5 ds) m) := callL_eq (x := x_law_sum) (by rfl) h
theorem u_law_house {j : Nat} {ds : List D} {m : Mem} (h : ds.length = 4) : callL tab (xnT tb) (j + 1) "" "_law_house" ds m = retR m.length (evSs (glL tab (xnT tb) j) (xnT tb) b_law_house (e0 6 ds) m) := callL_eq (x := x_law_house) (by rfl) h
theorem u_law_after {j : Nat} {ds : List D} {m : Mem} (h : ds.length = 6) : callL tab (xnT tb) (j + 1) "" "_law_after" ds m = retR m.length (evSs (glL tab (xnT tb) j) (xnT tb) b_law_after (e0 9 ds) m) := callL_eq (x := x_law_after) (by rfl) h
theorem u_law_step_right {j : Nat} {ds : List D} {m : Mem} (h : ds.length = 4) : callL tab (xnT tb) (j + 1) "" "_law_step_right" ds m = retR m.length (evSs (glL tab (xnT tb) j) (xnT tb) b_law_step_right (e0 14 ds) m) := callL_eq (x := x_law_step_right) (by rfl) h
theorem u_law {j : Nat} {ds : List D} {m : Mem} (h : ds.length = 1) : callL tab (xnT tb) (j + 1) "" "law" ds m = retR m.length (evSs (glL tab (xnT tb) j) (xnT tb) b_law (e0 17 ds) m) := callL_eq (x := x_law) (by rfl) h
@[simp] theorem xn_ByZero : xnT tb "ByZero" = some [] := by rfl
@[simp] theorem xn_BadNumber : xnT tb "BadNumber" = some ["given"] := by rfl
@[simp] theorem xn_TooEarly : xnT tb "TooEarly" = some [] := by rfl
@[simp] theorem xn_BadSizes : xnT tb "BadSizes" = some ["given"] := by rfl
@[simp] theorem xn_BadOutcome : xnT tb "BadOutcome" = some ["given"] := by rfl
@[simp] theorem xn_BadEvent : xnT tb "BadEvent" = some ["given"] := by rfl
@[simp] theorem xn_BadOrder : xnT tb "BadOrder" = some ["given"] := by rfl
@[simp] theorem xn_BadLeague : xnT tb "BadLeague" = some ["given"] := by rfl
@[simp] theorem xn_NoPerson : xnT tb "NoPerson" = some ["given"] := by rfl
@[simp] theorem xn_NotTheirTurn : xnT tb "NotTheirTurn" = some ["given"] := by rfl
@[simp] theorem xn_InUse : xnT tb "InUse" = some ["given"] := by rfl
end K91

/-! K91A -/
set_option Elab.async false
set_option linter.all false
set_option maxRecDepth 100000
set_option maxHeartbeats 1000000
namespace K91
open PySem L2 PyProof.Rows IP Gm
@[simp] theorem L_is_integer {j : Nat} {m : Mem} {d : D} (h : nice (vw m d) = true) : callL tab (xnT tb) (j + 1) "" "is_integer" [d] m = .ok (.bl (isIn (vw m d))) m := by
  rw [u_is_integer rfl]
  unfold b_is_integer
  cases e : vw m d <;> simp [e0, e, isAny, isTy, isIn, truth] at h ⊢
theorem L_outcomes {j : Nat} {m : Mem} {ss : List Int} : callL tab (xnT tb) (j + 1) "Group" "outcomes" [gD ss] m = .ok (.lst ((outs ss).map oD)) m := by
  rw [u_Group_outcomes rfl]
  unfold b_Group_outcomes
  simp [e0]
theorem L_zero {j : Nat} {m : Mem} {ss : List Int} (hs : VS ss) : callL tab (xnT tb) (j + 1) "Group" "zero" [gD ss] m = .ok (oD (zero ss)) m := by
  rw [u_Group_zero rfl]
  unfold b_Group_zero
  obtain ⟨r, e⟩ := outs_head hs
  simp [e0, e]
theorem L_has_t {j : Nat} {m : Mem} {ss : List Int} {xs : List D} (hss : ss.length ≤ 1000) (hn : ∀ x ∈ xs, nice x = true) : callL tab (xnT tb) (j + 2) "Group" "has" [gD ss, .tup xs] m = .ok (.bl (hasI ss xs)) m := by
  rw [u_Group_has rfl]
  unfold b_Group_has
  by_cases hl : xs.length = ss.length
  · simp [e0, isAny, isTy, hl]
    rw [zip_map, compK_each fun p => .bl (chkP p)]
    · have h1 : (xs.zip ss).length ≤ 1000000 := by simp; omega
      have h2 : lenOk (min xs.length ss.length) = true := k_lenOk_of (by simpa using h1)
      simp [h2, ← hasI_zip hl]
    · rintro ⟨x, s⟩ hx
      have h1 := hn x (List.of_mem_zip hx).1
      cases x with
      | int i =>
        simp [isIn, chkP]
        by_cases h0 : 0 ≤ i <;> simp [h0]
      | ref => simp [nice] at h1
      | scr => simp [nice] at h1
      | cls => simp [nice] at h1
      | _ => simp [isIn, chkP]
  · simp [e0, isAny, isTy, hl, hasI_len hl]
theorem L_has_n {j : Nat} {m : Mem} {ss : List Int} {d : D} (h : nice (vw m d) = true) (h2 : ∀ xs, vw m d ≠ .tup xs) : callL tab (xnT tb) (j + 2) "Group" "has" [gD ss, d] m = .ok (.bl false) m := by
  rw [u_Group_has rfl]
  unfold b_Group_has
  cases e : vw m d with
  | tup xs => exact absurd e (h2 xs)
  | ref => simp [e] at h
  | scr => simp [e] at h
  | cls => simp [e] at h
  | _ => simp [e0, isAny, isTy, e]
theorem L_has_o {j : Nat} {m : Mem} {ss : List Int} {o : O} (hs : VS ss) (h : VO ss o) : callL tab (xnT tb) (j + 2) "Group" "has" [gD ss, oD o] m = .ok (.bl true) m := by
  rw [L_has_t (by have := hs.2.1; omega) nice_ints, hasI_ints.mpr h]
theorem L_checked {j : Nat} {m : Mem} {ss : List Int} {o : O} (hs : VS ss) (h : VO ss o) : callL tab (xnT tb) (j + 3) "Group" "checked" [gD ss, oD o] m = .ok (oD o) m := by
  rw [u_Group_checked rfl]
  unfold b_Group_checked
  simp [e0, L_has_o hs h]
theorem L_checked_bad {j : Nat} {m : Mem} {ss : List Int} {d : D} (h : callL tab (xnT tb) (j + 2) "Group" "has" [gD ss, d] m = .ok (.bl false) m) : callL tab (xnT tb) (j + 3) "Group" "checked" [gD ss, d] m = .ex ⟨"BadOutcome", [("given", d)]⟩ m := by
  rw [u_Group_checked rfl]
  unfold b_Group_checked
  simp [e0, h]
theorem L_added {j : Nat} {m : Mem} {ss : List Int} {a b : O} {t : Int} (hs : VS ss) (ha : VO ss a) (hb : VO ss b) (ht : t.natAbs ≤ 1) : callL tab (xnT tb) (j + 1) "Group" "added" [gD ss, oD a, oD b, .int t] m = .ok (oD (addT t ss a b)) m := by
  rw [u_Group_added rfl]
  unfold b_Group_added
  simp [e0]
  rw [enum_map, compK_each (g := fun p : Int × Nat => D.tup [.int (p.2 : Int), .int p.1]) fun p => D.int (((a[p.2]?).getD 0 + t * (b[p.2]?).getD 0) % p.1)]
  · have h1 : lenOk ss.length = true := k_lenOk_of (by have := hs.2.1; omega)
    simp [h1, addT_zip]
  · rintro ⟨s, k⟩ hp
    have hk : ss[k]? = some s := by simpa using List.mem_zipIdx_iff_getElem?.mp hp
    obtain ⟨x, hx, x0, x1⟩ := ha.at hk
    obtain ⟨y, hy, y0, y1⟩ := hb.at hk
    have hS := hs.at hk
    have hM : mulOk t y = true := mulOk_of (Nat.lt_of_le_of_lt (m := 1) (by omega) (by decide)) (Nat.lt_of_le_of_lt (m := 1000) (by omega) (by decide))
    have h0 : s ≠ 0 := by omega
    have h2 : ∀ z : Int, z.fmod s = z % s := fun z => k_fmod_pos (by omega)
    simp [e0, k_atI_nat, hx, hy, hM, h0, h2]
theorem L_plus {j : Nat} {m : Mem} {ss : List Int} {a b : O} (hs : VS ss) (ha : VO ss a) (hb : VO ss b) : callL tab (xnT tb) (j + 4) "Group" "plus" [gD ss, oD a, oD b] m = .ok (oD (add ss a b)) m := by
  rw [u_Group_plus rfl]
  unfold b_Group_plus
  simp [e0, L_checked hs ha, L_checked hs hb, L_added hs ha hb]
theorem L_plus_bad {j : Nat} {m : Mem} {ss : List Int} {a : O} {d : D} (hs : VS ss) (ha : VO ss a) (h : callL tab (xnT tb) (j + 2) "Group" "has" [gD ss, d] m = .ok (.bl false) m) : callL tab (xnT tb) (j + 4) "Group" "plus" [gD ss, oD a, d] m = .ex ⟨"BadOutcome", [("given", d)]⟩ m := by
  rw [u_Group_plus rfl]
  unfold b_Group_plus
  simp [e0, L_checked hs ha, L_checked_bad h]
noncomputable abbrev totalB (j : Nat) := forB (glL tab (xnT tb) (j + 4)) (xnT tb) (.one 3) (.cons (.set 2 (.meth "Group" "plus" (.loc 0) (.one (.loc 2) (.one (.loc 3) .nil)) [] [])) .nil)
theorem total_loop {j : Nat} {m : Mem} {ss : List Int} {x : D} {ds : List D} {w : Wl} (hw : w.ok m) (hs : VS ss) : ∀ (os : List O) (a : O) (y : Option D), VO ss a → (∀ o ∈ os, VO ss o) → ∃ z, forW w (totalB j) (os.map oD ++ ds) [some (gD ss), some x, some (oD a), y] m = forW w (totalB j) ds [some (gD ss), some x, some (oD (os.foldl (add ss) a)), z] m
  | [], a, y, _, _ => ⟨y, rfl⟩
  | o :: os, a, y, ha, h => by
    have ho := h o List.mem_cons_self
    obtain ⟨z, e⟩ := total_loop hw hs os (add ss a o) (some (oD o)) (addT_vo hs) fun x hx => h x (List.mem_cons_of_mem _ hx)
    refine ⟨z, ?_⟩
    rw [List.map_cons, List.cons_append, forW_nx hw (e1 := [some (gD ss), some x, some (oD (add ss a o)), some (oD o)]) (m1 := m)]
    · exact e
    · simp [L_plus hs ha ho]
theorem L_total {j : Nat} {m : Mem} {ss : List Int} {nd : D} {os : List O} {w : Wl} (hw : Wks m nd w (os.map oD)) (hs : VS ss) (h : ∀ o ∈ os, VO ss o) : callL tab (xnT tb) (j + 5) "Group" "total" [gD ss, nd] m = .ok (oD (sum ss os)) m := by
  rw [u_Group_total rfl]
  unfold b_Group_total
  obtain ⟨z, e⟩ := total_loop (j := j) (m := m) (x := nd) (ds := []) hw.ok hs os (zero ss) none (zero_vo hs.pos) h
  rw [List.append_nil, forW_end hw.ok] at e
  simp [e0, L_zero hs, hw.wk, fW, hw.xs, e, Gm.sum]
theorem L_total_bad {j : Nat} {m : Mem} {ss : List Int} {nd d : D} {os : List O} {r : List D} {w : Wl} (hw : Wks m nd w (os.map oD ++ d :: r)) (hs : VS ss) (h : ∀ o ∈ os, VO ss o) (hd : callL tab (xnT tb) (j + 2) "Group" "has" [gD ss, d] m = .ok (.bl false) m) : callL tab (xnT tb) (j + 5) "Group" "total" [gD ss, nd] m = .ex ⟨"BadOutcome", [("given", d)]⟩ m := by
  rw [u_Group_total rfl]
  unfold b_Group_total
  obtain ⟨z, e⟩ := total_loop (j := j) (m := m) (x := nd) (ds := d :: r) hw.ok hs os (zero ss) none (zero_vo hs.pos) h
  have hv := foldl_vo hs os _ (zero_vo hs.pos)
  rw [forW_ex hw.ok (e1 := [some (gD ss), some nd, some (oD (os.foldl (add ss) (zero ss))), some d]) (m1 := m) (x := ⟨"BadOutcome", [("given", d)]⟩)] at e
  · simp [e0, L_zero hs, hw.wk, fW, hw.xs, e]
  · simp [L_plus_bad hs hv hd]
theorem L_event {j : Nat} {m : Mem} {ss : List Int} {os : List O} (hs : VS ss) (hl : os.length ≤ 1000000) (h : ∀ o ∈ os, VO ss o) (hN : (outs ss).length ≤ 1000000) : callL tab (xnT tb) (j + 3) "Group" "event" [gD ss, .lst (os.map oD)] m = .ok (.lst (((outs ss).filter fun o => decide (o ∈ os)).map oD)) m := by
  rw [u_Group_event rfl]
  unfold b_Group_event
  have h1 : lenOk os.length = true := k_lenOk_of hl
  have h2 : lenOk ((outs ss).filter fun o => decide (o ∈ os)).length = true := k_lenOk_of (Nat.le_trans (List.length_filter_le _ _) hN)
  simp [e0, isAny, isTy]
  rw [compK_each (g := oD) (fun o => D.bl true) fun o ho => by simp [e0, L_has_o hs (h o ho)]]
  simp [h1, e0]
  rw [compK_filter (g := oD) oD (fun o => decide (o ∈ os)) fun o ho => by by_cases q : o ∈ os <;> simp [e0, q]]
  simp [h2]
theorem L_has_v {j : Nat} {m : Mem} {ss : List Int} {d : D} (hs : VS ss) (h : niceV d = true) : callL tab (xnT tb) (j + 2) "Group" "has" [gD ss, d] m = .ok (.bl (hasV ss d)) m := by
  cases d with
  | tup xs => exact L_has_t (by have := hs.2.1; omega) (by simpa [niceV] using h)
  | ref => simp [niceV] at h
  | scr => simp [niceV] at h
  | cls => simp [niceV] at h
  | _ => exact L_has_n (by simp) (by simp)
theorem L_event_bad {j : Nat} {m : Mem} {ss : List Int} {xs : List D} (hs : VS ss) (hl : xs.length ≤ 1000000) (h : ∀ x ∈ xs, niceV x = true) (hb : xs.all (hasV ss) = false) : callL tab (xnT tb) (j + 3) "Group" "event" [gD ss, .lst xs] m = .ex ⟨"BadEvent", [("given", .lst xs)]⟩ m := by
  rw [u_Group_event rfl]
  unfold b_Group_event
  have h1 : lenOk xs.length = true := k_lenOk_of hl
  have e : compL (cmpB (glL tab (xnT tb) (j + 2)) (.meth "Group" "has" (.loc 0) (.one (.loc 2) .nil) [] []) (.one 2) .non [2] [some (gD ss), some (.lst xs), none]) xs m = .ok (xs.map fun x => .bl (hasV ss x)) m := by
    have q := compK_each (g := fun x : D => x) (f := cmpB (glL tab (xnT tb) (j + 2)) (.meth "Group" "has" (.loc 0) (.one (.loc 2) .nil) [] []) (.one 2) .non [2] [some (gD ss), some (.lst xs), none]) (m := m) (xs := xs) (fun x => .bl (hasV ss x)) fun x hx => by simp [L_has_v hs (h x hx)]
    simpa using q
  simp [e0, isAny, isTy, e, h1, hb]
theorem L_event_no {j : Nat} {m : Mem} {ss : List Int} {d : D} (h : nice (vw m d) = true) (h1 : ∀ xs, vw m d ≠ .lst xs) (h2 : ∀ xs, vw m d ≠ .tup xs) : callL tab (xnT tb) (j + 3) "Group" "event" [gD ss, d] m = .ex ⟨"BadEvent", [("given", d)]⟩ m := by
  rw [u_Group_event rfl]
  unfold b_Group_event
  cases e : vw m d with
  | lst xs => exact absurd e (h1 xs)
  | tup xs => exact absurd e (h2 xs)
  | ref => simp [e] at h
  | scr => simp [e] at h
  | cls => simp [e] at h
  | _ => simp [e0, isAny, isTy, e]
noncomputable abbrev sumsB (j : Nat) := forB (glL tab (xnT tb) (j + 4)) (xnT tb) (.one 3) (.cons (.set 2 (.lst false (.star (.loc 2) (.star (.comp false (.meth "Group" "plus" (.loc 0) (.one (.loc 4) (.one (.loc 3) .nil)) [] []) (.one 4) (.seq (.loc 2)) .non [4]) .nil)))) .nil)
theorem sums_loop {j : Nat} {m : Mem} {ss : List Int} {x : D} {w : Wl} (hw : w.ok m) (hs : VS ss) : ∀ (ns : List O) (fd : List O) (y : Option D), (∀ o ∈ fd, VO ss o) → (∀ o ∈ ns, VO ss o) → fd.length * 2 ^ ns.length ≤ 1000000 → ∃ z, forW w (sumsB j) (ns.map oD) [some (gD ss), some x, some (.lst (fd.map oD)), y, none] m = .nx [some (gD ss), some x, some (.lst ((ns.foldl (fun fd n => fd ++ fd.map fun o => add ss o n) fd).map oD)), z, none] m
  | [], fd, y, _, _, _ => ⟨y, forW_end hw⟩
  | n :: ns, fd, y, hf, hn, hl => by
    have ho := hn n List.mem_cons_self
    have hl2 : (fd ++ fd.map fun o => add ss o n).length * 2 ^ ns.length ≤ 1000000 := by
      simp [Nat.pow_succ] at hl ⊢
      rw [← Nat.two_mul, Nat.mul_comm 2, Nat.mul_assoc, Nat.mul_comm 2]
      exact hl
    have hp : 0 < 2 ^ ns.length := Nat.two_pow_pos _
    have hl3 : fd.length + fd.length ≤ 1000000 := by
      have : (fd ++ fd.map fun o => add ss o n).length ≤ 1000000 := Nat.le_trans (Nat.le_mul_of_pos_right _ hp) hl2
      simpa using this
    obtain ⟨z, e⟩ := sums_loop hw hs ns (fd ++ fd.map fun o => add ss o n) (some (oD n)) (fun o h => by
      rcases List.mem_append.mp h with h | h
      · exact hf o h
      · obtain ⟨p, _, rfl⟩ := List.mem_map.mp h
        exact addT_vo hs) (fun x hx => hn x (List.mem_cons_of_mem _ hx)) hl2
    refine ⟨z, ?_⟩
    rw [List.map_cons, forW_nx hw (e1 := [some (gD ss), some x, some (.lst ((fd ++ fd.map fun o => add ss o n).map oD)), some (oD n), none]) (m1 := m)]
    · exact e
    · simp
      rw [compK_each (g := oD) (fun o => oD (add ss o n)) fun o h => by simp [L_plus hs (hf o h) ho]]
      have h1 : lenOk fd.length = true := k_lenOk_of (by omega)
      have h2 : lenOk (fd.length + fd.length) = true := k_lenOk_of (by omega)
      simp [h1, h2]
theorem L_sums_of {j : Nat} {m : Mem} {ss : List Int} {nd : D} {ns : List O} {w : Wl} (hw : Wks m nd w (ns.map oD)) (hs : VN ss) (h : ∀ o ∈ ns, VO ss o) (hl : ns.length ≤ 10) : callL tab (xnT tb) (j + 5) "" "sums_of" [gD ss, nd] m = .ok (.lst (((outs ss).filter fun o => decide (o ∈ sumsF ss ns)).map oD)) m := by
  rw [u_sums_of rfl]
  unfold b_sums_of
  have hp : 2 ^ ns.length ≤ 1024 := Nat.pow_le_pow_right (n := 2) (by decide) hl
  obtain ⟨z, e⟩ := sums_loop (j := j) (m := m) (x := nd) hw.ok hs.1 ns [zero ss] none (fun o h => by simp at h; subst h; exact zero_vo hs.1.pos) h (by simp; omega)
  have e2 : callL tab (xnT tb) (j + 4) "Group" "event" [gD ss, .lst ((sumsF ss ns).map oD)] m = _ := L_event (j := j + 1) (m := m) (os := sumsF ss ns) hs.1 (by rw [sumsF_len]; omega) (sumsF_vo hs.1) (by have := hs.2; omega)
  have h1 : lenOk 1 = true := by decide
  have e : forW w (sumsB j) (ns.map oD) [some (gD ss), some nd, some (.lst ([zero ss].map oD)), none, none] m = .nx [some (gD ss), some nd, some (.lst ((sumsF ss ns).map oD)), z, none] m := e
  simp at e
  simp [e0, L_zero hs.1, hw.wk, fW, hw.xs, h1, e, e2]
theorem L_cell {j : Nat} {m : Mem} {ns : List Int} {k : Nat} : callL tab (xnT tb) (j + 1) "" "_law_cell" [.scr (ns.map .int), .int (k : Int)] m = .ok (.int ((ns[k]?).getD 0)) m := by
  rw [u_law_cell rfl]
  unfold b_law_cell
  by_cases h : k < ns.length
  · have h' : (k : Int) < ns.length := by omega
    simp [e0, h', h, subP, k_atI_nat]
  · have h' : ¬ (k : Int) < ns.length := by omega
    simp [e0, h', h]
theorem L_box {j : Nat} {m : Mem} {ns : List Int} {k : Nat} (hk : k ≤ 1000) : ∃ x, BO 900000000 x ∧ callL tab (xnT tb) (j + 2) "" "_law_box" [.scr (ns.map .int), .int (k : Int)] m = .ok (.ref m.length) (m ++ [x]) := by
  rw [u_law_box rfl]
  unfold b_law_box
  have h1 : mulOk 40503 (k : Int) = true := mulOk_of (by decide) (Nat.lt_of_le_of_lt (m := 1000) (by omega) (by decide))
  have h2 : lenOk 3 = true := by decide
  refine ⟨.lst [.int (if (ns[k]?).getD 0 < 0 then -(ns[k]?).getD 0 else (ns[k]?).getD 0), .int 0, .int (40503 * k + 911)], ⟨_, _, _, rfl, ?_, by omega, by omega, by omega, by omega⟩, ?_⟩
  · split <;> omega
  · simp [e0, L_cell, h1, h2, fin_new]
theorem L_take {j : Nat} {m : Mem} {r : Nat} {n : Int} {N : Nat} {x : MO} (hx : m[r]? = some x) (hb : BO (N + 1) x) (hn : 0 < n) (hn2 : n ≤ 1000) : ∃ (d : Int) (y : MO), 0 ≤ d ∧ d < n ∧ BO N y ∧ callL tab (xnT tb) (j + 1) "" "_law_take" [.ref r, .int n] m = .ok (.int d) (m.set r y) := by
  obtain ⟨a, b, c, rfl, ha, hb0, hb1, hc0, hc1⟩ := hb
  rw [u_law_take rfl]
  unfold b_law_take
  have hr := get_lt hx
  have hP := pow18
  have hnz : n ≠ 0 := by omega
  have hD : divOk n = true := divOk_of hn (by omega)
  have hm : ∀ z : Int, z.fmod n = z % n := fun z => k_fmod_pos (by omega)
  have hd : ∀ z : Int, z.fdiv n = z / n := fun z => k_fdiv_pos (by omega)
  by_cases h : 1000000000000000000 ≤ a
  · refine ⟨a % n, .lst [.int (a / n), .int b, .int c], Int.emod_nonneg _ (by omega), Int.emod_lt_of_pos _ hn, ⟨_, _, _, rfl, Int.ediv_nonneg ha (by omega), hb0, by omega, hc0, hc1⟩, ?_⟩
    simp [e0, hx, hP, h, hnz, hD, hm, hd, isL]
  · skip
    have q1 := pow3 (z := (a + 7) * 69069 + (b + 1) * 40692 + c) (by omega) (by omega)
    have q2 := mul2 (z := a + 7) (k := 69069) (by omega) (by omega) (by decide) (by decide)
    have q3 := mul2 (z := b + 1) (k := 40692) (by omega) (by omega) (by decide) (by decide)
    have q4 := mul2 (z := b + 1) (k := 17389) (by omega) (by omega) (by decide) (by decide)
    have q5 := div64
    have f1 : ∀ z : Int, z.fmod 2147483647 = z % 2147483647 := fun z => k_fmod_pos (by decide)
    have f2 : ∀ z : Int, z.fmod 2147483399 = z % 2147483399 := fun z => k_fmod_pos (by decide)
    have f3 : ∀ z : Int, z.fdiv 64 = z / 64 := fun z => k_fdiv_pos (by decide)
    have q6 : ∀ z : Int, powOk (z % 2147483647 + (b + 1) * 17389) 3 = true := fun z => pow3 (by omega) (by omega)
    have k1 : (m.set r (.lst [.int a, .int (b + 1), .int c]))[r]? = some (.lst [.int a, .int (b + 1), .int c]) := set_get hx
    refine ⟨(((((a + 7) * 69069 + (b + 1) * 40692 + c) ^ 3 % 2147483647 + (b + 1) * 17389) ^ 3 % 2147483399) / 64) % n, .lst [.int a, .int (b + 1), .int c], Int.emod_nonneg _ (by omega), Int.emod_lt_of_pos _ hn, ⟨_, _, _, rfl, ha, by omega, by omega, hc0, hc1⟩, ?_⟩
    simp [e0, hx, hP, h, hnz, hm, isL, k1, q1, q2, q3, q4, q5, q6, f1, f2, f3]
theorem L_pick {j : Nat} {m : Mem} {r N : Nat} {x : MO} {ss : List Int} (hx : m[r]? = some x) (hs : VS ss) (hb : BO (N + 1 * ss.length) x) : ∃ (o : O) (y : MO), VO ss o ∧ BO N y ∧ callL tab (xnT tb) (j + 2) "" "_law_pick" [.ref r, .lst (ss.map .int)] m = .ok (oD o) (m.set r y) := by
  obtain ⟨yss, b', p, o1, e⟩ := comp_draw (g := D.int) (f := cmpB (glL tab (xnT tb) (j + 1)) (.call "" "_law_take" (.one (.loc 0) (.one (.loc 2) .nil)) [] []) (.one 2) .non [2] [some (.ref r), some (.lst (ss.map .int)), none]) (r := r) (c := 1) (fun s ys => ∃ x : Int, ys = [.int x] ∧ 0 ≤ x ∧ x < s) ss (fun s h m N b hb ho => by
    have := hs.2.2 s h
    obtain ⟨d, y, h1, h2, h3, h4⟩ := L_take (j := j) (n := s) hb ho (by omega) (by omega)
    exact ⟨[.int d], y, ⟨d, rfl, h1, h2⟩, h3, by simp [h4]⟩) m N x hx hb
  have q : ∃ o : O, VO ss o ∧ yss.flatten = o.map .int := by
    clear e hs hb
    induction p with
    | nil => exact ⟨[], trivial, rfl⟩
    | cons p1 p2 ih =>
      obtain ⟨x, rfl, h1, h2⟩ := p1
      obtain ⟨o, h3, h4⟩ := ih
      exact ⟨x :: o, ⟨h1, h2, h3⟩, by simp [h4]⟩
  obtain ⟨o, h1, h2⟩ := q
  refine ⟨o, b', h1, o1, ?_⟩
  rw [u_law_pick rfl]
  unfold b_law_pick
  rw [h2] at e
  have h3 : lenOk o.length = true := k_lenOk_of (by have := h1.len; have := hs.2.1; omega)
  simp [e0, e, h3]
theorem L_law_all {j : Nat} {m : Mem} {ss : List Int} (hs : VN ss) : callL tab (xnT tb) (j + 1) "" "_law_all" [.lst (ss.map .int)] m = .ok (.lst ((outs ss).map oD)) m := by
  rw [u_law_all rfl]
  unfold b_law_all
  have inner : ∀ (s : Int) (sz : D), 0 ≤ s → s ≤ 1000 → ∀ (fd more fd0 : List O) (y : Option D), (∀ o ∈ fd, o.length ≤ 1000) → more.length + fd.length * s.toNat ≤ 1000 → ∃ z,
      forL (forB (glL tab (xnT tb) j) (xnT tb) (.one 4) (.cons (.set 3 (.bin .Add (.loc 3) (.comp false (.bin .Add (.loc 4) (.tup (.one (.loc 5) .nil))) (.one 5) (.rng1 (.loc 2)) .non [5]))) .nil)) (fd.map oD) [some sz, some (.lst (fd0.map oD)), some (.int s), some (.lst (more.map oD)), y, none] m = .nx [some sz, some (.lst (fd0.map oD)), some (.int s), some (.lst ((more ++ fd.flatMap fun o => (List.range s.toNat).map fun (r : Nat) => o ++ [(r : Int)]).map oD)), z, none] m := by
    intro s sz h0 h1 fd
    induction fd with
    | nil => intro more fd0 y _ _; exact ⟨y, by simp⟩
    | cons o fd ih =>
      intro more fd0 y hl hm
      have hl0 := hl o List.mem_cons_self
      have hq : more.length + s.toNat + fd.length * s.toNat ≤ 1000 := by
        rw [List.length_cons, Nat.add_mul] at hm
        omega
      obtain ⟨z, e⟩ := ih (more ++ (List.range s.toNat).map fun (r : Nat) => o ++ [(r : Int)]) fd0 (some (oD o)) (fun x hx => hl x (List.mem_cons_of_mem _ hx)) (by simpa using hq)
      refine ⟨z, ?_⟩
      rw [List.map_cons, forL_nx (e1 := [some sz, some (.lst (fd0.map oD)), some (.int s), some (.lst ((more ++ (List.range s.toNat).map fun (r : Nat) => o ++ [(r : Int)]).map oD)), some (oD o), none]) (m1 := m)]
      · rw [e]
        simp
      · have h2 : rngOk s = true := rngOk_of h0 (by omega)
        have h3 : lenOk (o.length + 1) = true := k_lenOk_of (by omega)
        have h4 : lenOk s.toNat = true := k_lenOk_of (by omega)
        have h5 : lenOk (more.length + s.toNat) = true := k_lenOk_of (by omega)
        have h6 : lenOk 1 = true := by decide
        simp [h2, rng_map]
        rw [compK_each (g := fun (k : Nat) => D.int (k : Int)) (fun (k : Nat) => oD (o ++ [(k : Int)])) fun k hk => by simp [h3, h6]]
        simp [h4, h5]
  have outer : ∀ (ss : List Int) (sz : D) (fd : List O) (a b c : Option D) (L : Nat), (∀ s ∈ ss, 2 ≤ s ∧ s ≤ 1000) → (∀ o ∈ fd, o.length ≤ L) → L + ss.length ≤ 1000 → fd.length * prodN ss ≤ 1000 → ∃ x y z,
      forL (forB (glL tab (xnT tb) j) (xnT tb) (.one 2) (.cons (.set 3 (.lst false .nil))
    (.cons (.for_ (.one 4) (.seq (.loc 1)) (.cons (.set 3 (.bin .Add (.loc 3) (.comp false (.bin .Add (.loc 4) (.tup (.one (.loc 5) .nil))) (.one 5) (.rng1 (.loc 2)) .non [5])))
    .nil))
    (.cons (.set 1 (.loc 3))
    .nil)))) (ss.map .int) [some sz, some (.lst (fd.map oD)), a, b, c, none] m = .nx [some sz, some (.lst ((outsF fd ss).map oD)), x, y, z, none] m := by
    intro ss sz
    induction ss with
    | nil => intro fd a b c L _ _ _ _; exact ⟨a, b, c, rfl⟩
    | cons s ss ih =>
      intro fd a b c L hs hl hL hp
      have h1 := hs s List.mem_cons_self
      have hpp : 0 < prodN ss := prodN_pos fun x hx => by have := hs x (List.mem_cons_of_mem _ hx); omega
      have hp2 : fd.length * s.toNat * prodN ss ≤ 1000 := by rw [Nat.mul_assoc]; exact hp
      have hp3 : fd.length * s.toNat ≤ 1000 := Nat.le_trans (Nat.le_mul_of_pos_right _ hpp) hp2
      obtain ⟨z, e1⟩ := inner s sz (by omega) (by omega) fd [] fd c (fun o h => by have := hl o h; omega) (by simpa using hp3)
      obtain ⟨x', y', z', e2⟩ := ih (fd.flatMap fun o => (List.range s.toNat).map fun (r : Nat) => o ++ [(r : Int)]) (some (.int s)) (some (.lst ((fd.flatMap fun o => (List.range s.toNat).map fun (r : Nat) => o ++ [(r : Int)]).map oD))) z (L + 1) (fun x hx => hs x (List.mem_cons_of_mem _ hx)) (fun o h => by
        obtain ⟨p, h1, h2⟩ := List.mem_flatMap.mp h
        obtain ⟨r, _, rfl⟩ := List.mem_map.mp h2
        have := hl p h1
        simp
        omega) (by rw [List.length_cons] at hL; omega) (by rw [flat_len]; exact hp2)
      refine ⟨x', y', z', ?_⟩
      rw [List.map_cons, forL_nx (e1 := [some sz, some (.lst ((fd.flatMap fun o => (List.range s.toNat).map fun (r : Nat) => o ++ [(r : Int)]).map oD)), some (.int s), some (.lst ((fd.flatMap fun o => (List.range s.toNat).map fun (r : Nat) => o ++ [(r : Int)]).map oD)), z, none]) (m1 := m)]
      · exact e2
      · have h6 : lenOk 0 = true := by decide
        simp at e1
        simp [h6, e1]
  obtain ⟨x, y, z, e⟩ := outer ss (.lst (ss.map .int)) [[]] none none none 0 hs.1.2.2 (by simp) (by have := hs.1.2.1; omega) (by have := hs.2; rw [outs_len] at this; simpa using this)
  have h6 : lenOk 0 = true := by decide
  have h7 : lenOk 1 = true := by decide
  have eo : oD [] = .tup [] := rfl
  simp [eo] at e
  simp [e0, h6, h7, e, outs]
theorem L_law_add {j : Nat} {m : Mem} {ss : List Int} {a b : O} {t : Int} (hs : VS ss) (ha : VO ss a) (hb : VO ss b) (ht : t.natAbs ≤ 1) : callL tab (xnT tb) (j + 1) "" "_law_add" [.lst (ss.map .int), oD a, oD b, .int t] m = .ok (oD (addT t ss a b)) m := by
  rw [u_law_add rfl]
  unfold b_law_add
  have h2 : rngOk (ss.length : Int) = true := rngOk_of (by omega) (by have := hs.2.1; omega)
  have h3 : lenOk ss.length = true := k_lenOk_of (by have := hs.2.1; omega)
  simp [e0, h2, rng_map]
  rw [compK_each (g := fun (k : Nat) => D.int (k : Int)) (fun (k : Nat) => D.int (((a[k]?).getD 0 + t * (b[k]?).getD 0) % (ss[k]?).getD 0)) fun k hk => by
    have hk := List.mem_range.mp hk
    have hk' : ss[k]? = some ss[k] := List.getElem?_eq_getElem hk
    obtain ⟨x, hx, x0, x1⟩ := ha.at hk'
    obtain ⟨y, hy, y0, y1⟩ := hb.at hk'
    have hS := hs.at hk'
    have hM : mulOk t y = true := mulOk_of (Nat.lt_of_le_of_lt (m := 1) (by omega) (by decide)) (Nat.lt_of_le_of_lt (m := 1000) (by omega) (by decide))
    generalize ss[k] = s at hk' hS x1 y1
    have h0 : s ≠ 0 := by omega
    have h2 : ∀ z : Int, z.fmod s = z % s := fun z => k_fmod_pos (by omega)
    simp [k_atI_nat, hk', hx, hy, hM, h0, h2]]
  simp [h3, addT_range]
theorem L_law_sum {j : Nat} {m : Mem} {ss : List Int} {os : List O} (hs : VS ss) (ho : ∀ o ∈ os, VO ss o) : callL tab (xnT tb) (j + 2) "" "_law_sum" [.lst (ss.map .int), .lst (os.map oD)] m = .ok (oD (sum ss os)) m := by
  rw [u_law_sum rfl]
  unfold b_law_sum
  have lp : ∀ (os : List O) (x : D) (a : O) (y : Option D), (∀ o ∈ os, VO ss o) → VO ss a → ∃ z, forL (forB (glL tab (xnT tb) (j + 1)) (xnT tb) (.one 4) (.cons (.set 2 (.call "" "_law_add" (.one (.loc 0) (.one (.loc 2) (.one (.loc 4) (.one (.con (.int 1)) .nil)))) [] [])) .nil)) (os.map oD) [some (.lst (ss.map .int)), some x, some (oD a), none, y] m = .nx [some (.lst (ss.map .int)), some x, some (oD (os.foldl (add ss) a)), none, z] m := by
    intro os x
    induction os with
    | nil => intro a y _ _; exact ⟨y, rfl⟩
    | cons o os ih =>
      intro a y h ha
      obtain ⟨z, e⟩ := ih (add ss a o) (some (oD o)) (fun x hx => h x (List.mem_cons_of_mem _ hx)) (addT_vo hs)
      refine ⟨z, ?_⟩
      rw [List.map_cons, forL_nx (e1 := [some (.lst (ss.map .int)), some x, some (oD (add ss a o)), none, some (oD o)]) (m1 := m)]
      · exact e
      · simp [L_law_add hs ha (h o List.mem_cons_self)]
  obtain ⟨z, e⟩ := lp os (.lst (os.map oD)) (zero ss) none ho (zero_vo hs.pos)
  have h3 : lenOk ss.length = true := k_lenOk_of (by have := hs.2.1; omega)
  have h4 : oD (zero ss) = D.tup (ss.map fun _ => .int 0) := by simp [zero]
  simp [e0]
  rw [compK_each (g := D.int) (fun _ => D.int 0) fun s hs => by simp]
  rw [h4] at e
  simp [e0, h3, e, Gm.sum]
theorem L_law_event {j : Nat} {m : Mem} {r N : Nat} {x : MO} {ss : List Int} (hx : m[r]? = some x) (hs : VN ss) (hb : BO (N + 1001) x) : ∃ (ev : List O) (y : MO), (∀ o ∈ ev, VO ss o) ∧ ev.length ≤ 1000 ∧ BO N y ∧ callL tab (xnT tb) (j + 2) "" "_law_event" [.ref r, .lst (ss.map .int)] m = .ok (.lst (ev.map oD)) (m.set r y) := by
  obtain ⟨d, y0, h1, h2, h3, h4⟩ := L_take (j := j) (n := 4) hx hb (by decide) (by decide)
  have hl := hs.2
  obtain ⟨yss, b', p, o1, e⟩ := comp_draw (g := oD) (f := cmpB (glL tab (xnT tb) (j + 1)) (.loc 3) (.one 3) (.som (.cmp .Lt (.call "" "_law_take" (.one (.loc 0) (.one (.con (.int 5)) .nil)) [] []) (.loc 2))) [3] [some (.ref r), some (.lst (ss.map .int)), some (.int (1 + d)), none]) (r := r) (c := 1) (fun o ys => ys = [] ∨ ys = [oD o]) (outs ss) (fun o h m N b hb ho => by
    obtain ⟨d2, y, h1, h2, h3, h4⟩ := L_take (j := j) (n := 5) hb ho (by omega) (by omega)
    by_cases q : d2 < 1 + d
    · exact ⟨[oD o], y, .inr rfl, h3, by simp [h4, q]⟩
    · exact ⟨[], y, .inl rfl, h3, by simp [h4, q]⟩) (m.set r y0) N y0 (set_get hx) (h3.mono (by omega))
  have q := al_sub p
  obtain ⟨ev, q1, q2, q3⟩ := q
  refine ⟨ev, b', fun o h => mem_outs.mp (q1 o h), by omega, o1, ?_⟩
  rw [u_law_event rfl]
  unfold b_law_event
  rw [q3] at e
  have h5 : lenOk ev.length = true := k_lenOk_of (by omega)
  have ea : ∀ m, callL tab (xnT tb) (j + 1) "" "_law_all" [.lst (ss.map .int)] m = .ok (.lst ((outs ss).map oD)) m := fun m => L_law_all hs
  simp [e0, h4, ea, e, h5, set_same]
theorem L_all_outcomes {j : Nat} {m : Mem} {ss : List Int} (hs : VN ss) : callL tab (xnT tb) (j + 1) "" "all_outcomes" [.lst (ss.map .int)] m = .ok (.lst ((outs ss).map oD)) m := by
  rw [u_all_outcomes rfl]
  unfold b_all_outcomes
  have lp : ∀ (ss : List Int) (sz : D) (fd : List O) (a : Option D) (L : Nat), (∀ s ∈ ss, 2 ≤ s ∧ s ≤ 1000) → (∀ o ∈ fd, o.length ≤ L) → L + ss.length ≤ 1000 → fd.length * prodN ss ≤ 1000 → ∃ x,
      forL (forB (glL tab (xnT tb) j) (xnT tb) (.one 2) (.cons (.set 1 (.comp2 false (.tup (.star (.loc 3) (.one (.loc 4) .nil))) (.one 3) (.seq (.loc 1)) (.one 4) (.rng1 (.loc 2)) .non [3, 4])) .nil)) (ss.map .int) [some sz, some (.lst (fd.map oD)), a, none, none] m = .nx [some sz, some (.lst ((outsF fd ss).map oD)), x, none, none] m := by
    intro ss sz
    induction ss with
    | nil => intro fd a L _ _ _ _; exact ⟨a, rfl⟩
    | cons s ss ih =>
      intro fd a L hs hl hL hp
      have h1 := hs s List.mem_cons_self
      have hpp : 0 < prodN ss := prodN_pos fun x hx => by have := hs x (List.mem_cons_of_mem _ hx); omega
      have hp2 : fd.length * s.toNat * prodN ss ≤ 1000 := by rw [Nat.mul_assoc]; exact hp
      have hp3 : fd.length * s.toNat ≤ 1000 := Nat.le_trans (Nat.le_mul_of_pos_right _ hpp) hp2
      obtain ⟨x', e2⟩ := ih (fd.flatMap fun o => (List.range s.toNat).map fun (r : Nat) => o ++ [(r : Int)]) (some (.int s)) (L + 1) (fun x hx => hs x (List.mem_cons_of_mem _ hx)) (fun o h => by
        obtain ⟨p, h1, h2⟩ := List.mem_flatMap.mp h
        obtain ⟨r, _, rfl⟩ := List.mem_map.mp h2
        have := hl p h1
        simp
        omega) (by rw [List.length_cons] at hL; omega) (by rw [flat_len]; exact hp2)
      refine ⟨x', ?_⟩
      rw [List.map_cons, forL_nx (e1 := [some sz, some (.lst ((fd.flatMap fun o => (List.range s.toNat).map fun (r : Nat) => o ++ [(r : Int)]).map oD)), some (.int s), none, none]) (m1 := m)]
      · exact e2
      · have h2 : rngOk s = true := rngOk_of (by omega) (by omega)
        have h7 : lenOk (fd.flatMap fun o => (List.range s.toNat).map fun (r : Nat) => o ++ [(r : Int)]).length = true := k_lenOk_of (by rw [flat_len]; omega)
        simp
        rw [compK_flat (g := oD) (fun o => (List.range s.toNat).map fun (r : Nat) => oD (o ++ [(r : Int)])) fun o ho => by
          have h3 : lenOk (o.length + 1) = true := k_lenOk_of (by have := hl o ho; rw [List.length_cons] at hL; omega)
          simp [h2, rng_map, tgL]
          rw [compK_each (g := fun (k : Nat) => D.int (k : Int)) (fun (k : Nat) => oD (o ++ [(k : Int)])) fun k hk => by simp [h3, tgL]]]
        have e5 : (fd.flatMap fun o => (List.range s.toNat).map fun (r : Nat) => oD (o ++ [(r : Int)])) = (fd.flatMap fun o => (List.range s.toNat).map fun (r : Nat) => o ++ [(r : Int)]).map oD := by
          rw [List.map_flatMap]
          congr 1
          funext o
          rw [List.map_map]
          rfl
        rw [e5]
        simp only [k_newL_false, List.length_map, h7, bindK_ok, goK_ok, if_true]
        simp
  obtain ⟨x, e⟩ := lp ss (.lst (ss.map .int)) [[]] none 0 hs.1.2.2 (by simp) (by have := hs.1.2.1; omega) (by have := hs.2; rw [outs_len] at this; simpa using this)
  have eo : oD [] = .tup [] := rfl
  simp [eo] at e
  simp [e0, e, outs]
theorem L_Group_init {j r : Nat} {m : Mem} {ss : List Int} (hs : VN ss) (hr : m[r]? = some (.ins "Group" [])) : callL tab (xnT tb) (j + 2) "Group" "__init__" [.ref r, .lst (ss.map .int)] m = .ok .non (m.set r (.ins "Group" [("kept_sizes", .lst (ss.map .int)), ("kept_outcomes", .lst ((outs ss).map oD))])) := by
  rw [u_Group_init rfl]
  unfold b_Group_init
  have hne : ss ≠ [] := hs.1.1
  have hl : lenOk ss.length = true := k_lenOk_of (by have := hs.1.2.1; omega)
  have h0 : ¬ ((ss.length : Int) = 0) := by
    have := List.length_pos_iff.mpr hne
    omega
  simp [e0, isAny, isTy, h0, hne]
  rw [compK_each (g := D.int) (fun _ => D.bl true) fun s h => by
    have := hs.1.2.2 s h
    have h1 : 1 < s := by omega
    simp [L_is_integer, h1]]
  have g1 : (m.set r (.ins "Group" [("kept_sizes", .lst (ss.map .int))]))[r]? = some (.ins "Group" [("kept_sizes", .lst (ss.map .int))]) := set_get hr
  have a1 : attG (.ref r) "kept_sizes" (m.set r (.ins "Group" [("kept_sizes", .lst (ss.map .int))])) = some (.lst (ss.map .int)) := by
    unfold attG
    rw [k_vw_refi g1]
    simp
  have eo : ∀ m, callL tab (xnT tb) (j + 1) "" "all_outcomes" [.lst (ss.map .int)] m = .ok (.lst ((outs ss).map oD)) m := fun m => L_all_outcomes (j := j) hs
  simp [hl, e0, hr, putD, g1, a1, eo, set_same]
theorem L_make {j : Nat} {m : Mem} {ss : List Int} (hs : VN ss) (hW : WM m) : makeG (glL tab (xnT tb) (j + 2)) false "Group" [.lst (ss.map .int)] m = .ok (gD ss) m := by
  unfold makeG
  have h1 : (m ++ [MO.ins "Group" []])[m.length]? = some (.ins "Group" []) := get_new
  have e := L_Group_init (j := j) hs h1
  rw [set_new] at e
  unfold WM at hW
  simp [e, hW]
theorem L_is_name {j : Nat} {m : Mem} {x : Str} (hx : x.length ≤ 1000) : callL tab (xnT tb) (j + 1) "" "is_name" [.str x] m = .ok (.bl (isName x)) m := by
  rw [u_is_name rfl]
  unfold b_is_name
  have h1 : lenOk x.length = true := k_lenOk_of (by omega)
  have h2 : lenOk x.cps.size = true := h1
  have hl : (Str.ofString "abcdefghijklmnopqrstuvwxyz").cps.toList = letters := rfl
  by_cases q1 : 1 ≤ x.length
  · have q1' : (1 : Int) ≤ x.length := by omega
    by_cases q2 : x.length ≤ 8
    · have q2' : (x.length : Int) ≤ 8 := by omega
      simp [e0, isAny, isTy, biLen, h1, q1', q2', walkP]
      rw [compK_each (g := fun c : Nat => D.str ⟨#[c]⟩) (fun c => D.bl (decide (c ∈ letters))) fun c hc => by simp [hl]]
      simp [h2, isName, q1, q2]
    · have q2' : ¬ (x.length : Int) ≤ 8 := by omega
      simp [e0, isAny, isTy, biLen, h1, q1', q2', isName, q2]
  · have q1' : ¬ (1 : Int) ≤ x.length := by omega
    simp [e0, isAny, isTy, biLen, h1, q1', isName, q1]
theorem L_is_name_n {j : Nat} {m : Mem} {d : D} (h : nice d = true) (h2 : ∀ x, d ≠ .str x) : callL tab (xnT tb) (j + 1) "" "is_name" [d] m = .ok (.bl false) m := by
  rw [u_is_name rfl]
  unfold b_is_name
  cases d with
  | str x => exact absurd rfl (h2 x)
  | ref => simp at h
  | scr => simp at h
  | cls => simp at h
  | _ => simp [e0, isAny, isTy]
theorem L_is_name_v {j : Nat} {m : Mem} {d : D} (h : ordV d) : callL tab (xnT tb) (j + 1) "" "is_name" [d] m = .ok (.bl (nmB d)) m := by
  rcases h with ⟨x, rfl, h⟩ | ⟨h1, h2⟩
  · exact L_is_name h
  · rw [L_is_name_n h1 h2]
    cases d <;> first | rfl | exact absurd rfl (h2 _)
theorem order_bad {j : Nat} {m : Mem} {ds : List D} (h : ∀ d ∈ ds, ordV d) (hl : ds.length ≤ 1000) (hb : ds = [] ∨ ds.all nmB = false) : callL tab (xnT tb) (j + 2) "" "check_order" [.lst ds] m = .ex ⟨"BadOrder", [("given", .lst ds)]⟩ m := by
  rw [u_check_order rfl]
  unfold b_check_order
  by_cases h0 : ds = []
  · subst h0
    simp [e0, isAny, isTy]
  · have h1 : ¬ ((ds.length : Int) = 0) := by
      have := List.length_pos_iff.mpr h0
      omega
    have hb' : ds.all nmB = false := hb.resolve_left h0
    have h2 : lenOk ds.length = true := k_lenOk_of (by omega)
    have e := compK_each (g := fun d : D => d) (f := cmpB (glL tab (xnT tb) (j + 1)) (.call "" "is_name" (.one (.loc 1) .nil) [] []) (.one 1) .non [1] [some (.lst ds), none, none]) (m := m) (xs := ds) (fun d => .bl (nmB d)) fun d hd => by simp [L_is_name_v (h d hd)]
    simp at e
    simp [e0, isAny, isTy, h0, e, h2, hb']
theorem order_ok {j : Nat} {m : Mem} {ns : List Str} (h : OK_ ns) : callL tab (xnT tb) (j + 2) "" "check_order" [.lst (ns.map .str)] m = .ok .non m := by
  rw [u_check_order rfl]
  unfold b_check_order
  have h0 := h.ne
  have h1 : ¬ ((ns.length : Int) = 0) := by
    have := List.length_pos_iff.mpr h0
    omega
  have h2 : lenOk ns.length = true := k_lenOk_of (by have := h.len; omega)
  simp [e0, isAny, isTy, h0]
  rw [compK_each (g := D.str) (fun _ => D.bl true) fun x hx => by simp [L_is_name (h.nm x hx).2.1, (h.nm x hx).1]]
  simp [h2, e0]
  rw [enum_map, compK_each (g := fun p : Str × Nat => D.tup [.int (p.2 : Int), .str p.1]) (fun _ => D.bl true) fun p hp => by
    obtain ⟨x, k⟩ := p
    have hk : ns[k]? = some x := by simpa using List.mem_zipIdx_iff_getElem?.mp hp
    have hx := nodup_take h.nd hk
    have hm := List.mem_of_getElem? hk
    have e1 : cut (ns.map D.str) none (some (k : Int)) = (ns.map D.str).take k := k_cut_to
    have e2 : inB (.str x) ((ns.map D.str).take k) = some (decide (x ∈ ns.take k)) := by
      rw [← List.map_take]
      exact inB_s x (ns.take k) (h.nm x hm).2.2 fun y hy => (h.nm y (List.mem_of_mem_take hy)).2.2
    simp [e1, e2, hx]]
  simp [h2]
theorem league_ok {j : Nat} {m : Mem} {ns lg : List Str} {b : Bool} (h : OK_ ns) (hg : LG ns lg) : callL tab (xnT tb) (j + 1) "" "check_league" [.lst (ns.map .str), lgD b lg] m = .ok .non m := by
  rw [u_check_league rfl]
  unfold b_check_league
  have h2 : lenOk lg.length = true := k_lenOk_of (by have := hg.len; omega)
  have hin : ∀ x ∈ lg, inB (.str x) (ns.map .str) = some true := fun x hx => by
    rw [inB_s x ns (h.nm x (hg.sub x hx)).2.2 fun y hy => (h.nm y hy).2.2]
    simp [hg.sub x hx]
  cases b
  · simp only [lgD, Bool.false_eq_true, if_false]
    simp [e0, isAny, isTy]
    rw [compK_each (g := D.str) (fun _ => D.bl true) fun x hx => by simp [isAny, isTy, hin x hx]]
    simp [h2, e0]
    rw [enum_map, compK_each (g := fun p : Str × Nat => D.tup [.int (p.2 : Int), .str p.1]) (fun _ => D.bl true) fun p hp => by
      obtain ⟨x, k⟩ := p
      have hk : lg[k]? = some x := by simpa using List.mem_zipIdx_iff_getElem?.mp hp
      have hx := nodup_take hg.nd hk
      have hm := List.mem_of_getElem? hk
      have e1 : cut (lg.map D.str) none (some (k : Int)) = (lg.map D.str).take k := k_cut_to
      have e2 : inB (.str x) ((lg.map D.str).take k) = some (decide (x ∈ lg.take k)) := by
        rw [← List.map_take]
        exact inB_s x (lg.take k) (h.nm x (hg.sub x hm)).2.2 fun y hy => (h.nm y (hg.sub y (List.mem_of_mem_take hy))).2.2
      simp [e1, e2, hx]]
    simp [h2]
  · simp only [lgD, if_true]
    simp [e0, isAny, isTy]
    rw [compK_each (g := D.str) (fun _ => D.bl true) fun x hx => by simp [isAny, isTy, hin x hx]]
    simp [h2, e0]
    rw [enum_map, compK_each (g := fun p : Str × Nat => D.tup [.int (p.2 : Int), .str p.1]) (fun _ => D.bl true) fun p hp => by
      obtain ⟨x, k⟩ := p
      have hk : lg[k]? = some x := by simpa using List.mem_zipIdx_iff_getElem?.mp hp
      have hx := nodup_take hg.nd hk
      have e1 : cut (lg.map D.str) none (some (k : Int)) = (lg.map D.str).take k := k_cut_to
      have e2 : inU (.str x) ((lg.map D.str).take k) = some (decide (x ∈ lg.take k)) := by
        rw [← List.map_take]
        exact inU_s x (lg.take k)
      simp [e1, e2, hx]]
    simp [h2]
theorem order_no {j : Nat} {m : Mem} {d : D} (h : nice (vw m d) = true) (h1 : ∀ xs, vw m d ≠ .lst xs) (h2 : ∀ xs, vw m d ≠ .tup xs) : callL tab (xnT tb) (j + 2) "" "check_order" [d] m = .ex ⟨"BadOrder", [("given", d)]⟩ m := by
  rw [u_check_order rfl]
  unfold b_check_order
  cases e : vw m d with
  | lst xs => exact absurd e (h1 xs)
  | tup xs => exact absurd e (h2 xs)
  | ref => simp [e] at h
  | scr => simp [e] at h
  | cls => simp [e] at h
  | _ => simp [e0, isAny, isTy, e]
theorem league_no {j : Nat} {m : Mem} {o d : D} (h : nice (vw m d) = true) (h1 : ∀ xs, vw m d ≠ .lst xs) (h2 : ∀ xs, vw m d ≠ .tup xs) : callL tab (xnT tb) (j + 1) "" "check_league" [o, d] m = .ex ⟨"BadLeague", [("given", d)]⟩ m := by
  rw [u_check_league rfl]
  unfold b_check_league
  cases e : vw m d with
  | lst xs => exact absurd e (h1 xs)
  | tup xs => exact absurd e (h2 xs)
  | ref => simp [e] at h
  | scr => simp [e] at h
  | cls => simp [e] at h
  | _ => simp [e0, isAny, isTy, e]
theorem league_bad {j : Nat} {m : Mem} {ns : List Str} {ds : List D} {b : Bool} (h : OK_ ns) (hd : ∀ d ∈ ds, nice d = true ∧ ∀ x, d = .str x → PyData.strOk x = true) (hl : ds.length ≤ 1000) (hb : ds.all (cB ns) = false) : callL tab (xnT tb) (j + 1) "" "check_league" [.lst (ns.map .str), seqD b ds] m = .ex ⟨"BadLeague", [("given", seqD b ds)]⟩ m := by
  rw [u_check_league rfl]
  unfold b_check_league
  have h2 : lenOk ds.length = true := k_lenOk_of (by omega)
  have e : ∀ x : D, compL (cmpB (glL tab (xnT tb) j) (.an (.isi (.loc 2) [.bt "str"]) (.cmp .In (.loc 2) (.loc 0))) (.one 2) .non [2] [some (.lst (ns.map .str)), some x, none, none]) ds m = .ok (ds.map fun d => .bl (cB ns d)) m := fun x => by
    have q := compK_each (g := fun d : D => d) (f := cmpB (glL tab (xnT tb) j) (.an (.isi (.loc 2) [.bt "str"]) (.cmp .In (.loc 2) (.loc 0))) (.one 2) .non [2] [some (.lst (ns.map .str)), some x, none, none]) (m := m) (xs := ds) (fun d => .bl (cB ns d)) fun d hx => by
      obtain ⟨q1, q2⟩ := hd d hx
      cases d with
      | str x =>
        have := inB_s x ns (q2 x rfl) fun y hy => (h.nm y hy).2.2
        simp [isAny, isTy, this, cB]
      | ref => simp at q1
      | scr => simp at q1
      | cls => simp at q1
      | _ => simp [isAny, isTy, cB]
    simpa using q
  cases b
  · simp only [seqD, Bool.false_eq_true, if_false]
    simp [e0, isAny, isTy, e, h2, hb]
  · simp only [seqD, if_true]
    simp [e0, isAny, isTy, e, h2, hb]
theorem league_twice {j : Nat} {m : Mem} {ns : List Str} {x : Str} (h : OK_ ns) (hx : x ∈ ns) : callL tab (xnT tb) (j + 1) "" "check_league" [.lst (ns.map .str), .lst [.str x, .str x]] m = .ex ⟨"BadLeague", [("given", .lst [.str x, .str x])]⟩ m := by
  rw [u_check_league rfl]
  unfold b_check_league
  have hs := (h.nm x hx).2.2
  have hi : inB (.str x) (ns.map .str) = some true := by
    rw [inB_s x ns hs fun y hy => (h.nm y hy).2.2]
    simp [hx]
  have e1 : cut [D.str x, D.str x] none (some 0) = [] := k_cut_to (k := 0)
  have e2 : cut [D.str x, D.str x] none (some 1) = [.str x] := k_cut_to (k := 1)
  simp [e0, isAny, isTy, compL_cons, hi, e1, e2, inB_one hs, inB_none hs]
theorem order_twice {j : Nat} {m : Mem} {x : Str} {b : Bool} (hx : isName x = true) (hs : PyData.strOk x = true) (hl : x.length ≤ 1000) : callL tab (xnT tb) (j + 2) "" "check_order" [seqD b [.str x, .str x]] m = .ex ⟨"BadOrder", [("given", seqD b [.str x, .str x])]⟩ m := by
  rw [u_check_order rfl]
  unfold b_check_order
  have e1 : cut [D.str x, D.str x] none (some 0) = [] := k_cut_to (k := 0)
  have e2 : cut [D.str x, D.str x] none (some 1) = [.str x] := k_cut_to (k := 1)
  have t1 : inU (.str x) [] = some false := by simpa using inU_s x []
  have t2 : inU (.str x) [.str x] = some true := by simpa using inU_s x [x]
  cases b
  · simp only [seqD, Bool.false_eq_true, if_false]
    simp [e0, isAny, isTy, compL_cons, L_is_name hl, hx, e1, e2, inB_one hs, inB_none hs]
  · simp only [seqD, if_true]
    simp [e0, isAny, isTy, compL_cons, L_is_name hl, hx, e1, e2, t1, t2]
theorem L_sizes {j : Nat} {m : Mem} {r N : Nat} {x : MO} (hx : m[r]? = some x) (hb : BO (N + 1) x) : ∃ (ss : List Int) (y : MO), ss ∈ menuS ∧ VN ss ∧ BO N y ∧ callL tab (xnT tb) (j + 2) "" "_law_sizes" [.ref r, .int 12] m = .ok (.lst (ss.map .int)) (m.set r y) := by
  obtain ⟨d, y, d0, d1, b, t⟩ := L_take (j := j) (n := 12) hx hb (by decide) (by decide)
  obtain ⟨k, rfl⟩ : ∃ k : Nat, d = k := ⟨d.toNat, by omega⟩
  have hk : k < menuS.length := by have : menuS.length = 12 := rfl; omega
  have hm : (menuS.map fun ss => D.lst (ss.map .int))[k]? = some (.lst (menuS[k].map .int)) := by
    rw [List.getElem?_map, List.getElem?_eq_getElem hk]
    rfl
  refine ⟨menuS[k], y, List.getElem_mem hk, menuS_ok _ (List.getElem_mem hk), b, ?_⟩
  rw [u_law_sizes rfl]
  unfold b_law_sizes
  rw [ss_nx (e1 := [some (.ref r), some (.int 12), some (.lst (menuS.map fun ss => D.lst (ss.map .int)))]) (m1 := m) (by simp [e0, menuS])]
  generalize (menuS.map fun ss => D.lst (ss.map .int)) = L at hm ⊢
  generalize menuS[k] = ss at hm ⊢
  simp [t, k_atI_nat, hm]

end K91

/-! K91R -/
set_option Elab.async false
set_option linter.all false
set_option maxRecDepth 100000
set_option maxHeartbeats 1000000
namespace K91
open PySem L2 PyProof.Rows IP Gm
theorem div_loop {j : Nat} {m : Mem} : ∀ (b a : Nat), whL (evT (glL tab (xnT tb) j) (.cmp .NotEq (.loc 1) (.con (.int 0)))) (evSs (glL tab (xnT tb) j) (xnT tb) (.cons (.par 0 1 (.loc 1) (.bin .Mod (.loc 0) (.loc 1))) .nil)) [some (.int a), some (.int b)] m = .nx [some (.int (Nat.gcd a b : Nat)), some (.int 0)] m := by
  intro b
  induction b using Nat.strongRecOn with
  | ind b ih =>
    intro a
    by_cases h : b = 0
    · subst h
      rw [whL_end (m1 := m) (by simp)]
      simp
    · have hb : ¬ ((b : Int) = 0) := by omega
      rw [whL_step (e2 := [some (.int b), some (.int (a % b : Nat))]) (m1 := m) (m2 := m) (by simp [h]) (by
        have h2 : ((a : Int)).fmod (b : Int) = ((a % b : Nat) : Int) := by rw [k_fmod_pos (by omega)]; rfl
        simp [h, h2]), ih (a % b) (Nat.mod_lt _ (by omega)) b]
      congr 4
      rw [Nat.gcd_comm b, ← Nat.gcd_rec, Nat.gcd_comm]
theorem L_divisor {j : Nat} {m : Mem} {a b : Nat} : callL tab (xnT tb) (j + 1) "" "divisor_of" [.int a, .int b] m = .ok (.int (Nat.gcd a b : Nat)) m := by
  rw [u_divisor_of rfl]
  unfold b_divisor_of
  have e := div_loop (j := j) (m := m) b a
  have h : ¬ ((Nat.gcd a b : Nat) : Int) < 0 := by omega
  simp [e0, e, h]
abbrev ratD (a b : Nat) : D := .ins "Ratio" [("top", .int ((a : Int) / (Nat.gcd a b : Nat))), ("bottom", .int ((b : Int) / (Nat.gcd a b : Nat)))]
theorem L_Ratio_init {j r : Nat} {m : Mem} {a b : Nat} (hb : 0 < b) (hb2 : b ≤ 1000000) (hr : m[r]? = some (.ins "Ratio" [])) : callL tab (xnT tb) (j + 2) "Ratio" "__init__" [.ref r, .int a, .int b] m = .ok .non (m.set r (.ins "Ratio" [("top", .int ((a : Int) / (Nat.gcd a b : Nat))), ("bottom", .int ((b : Int) / (Nat.gcd a b : Nat)))])) := by
  rw [u_Ratio_init rfl]
  unfold b_Ratio_init
  have h0 : ¬ ((b : Int) = 0) := by omega
  have h1 : (0 : Int) < b := by omega
  have h2 : ¬ (b = 0) := by omega
  have hg : 0 < Nat.gcd a b := Nat.gcd_pos_of_pos_right _ hb
  have hg2 : Nat.gcd a b ≤ b := Nat.gcd_le_right _ hb
  have hD : divOk ((Nat.gcd a b : Nat) : Int) = true := divOk_of (by omega) (Int.lt_of_le_of_lt (b := 1000000) (by omega) (by decide))
  have ed : ∀ m, callL tab (xnT tb) (j + 1) "" "divisor_of" [.int a, .int b] m = .ok (.int (Nat.gcd a b : Nat)) m := fun m => L_divisor (j := j)
  generalize Nat.gcd a b = g at *
  have f1 : ∀ z : Int, z.fdiv (g : Int) = z / (g : Int) := fun z => k_fdiv_pos (by omega)
  have g1 : (m.set r (.ins "Ratio" [("top", .int ((a : Int) / g))]))[r]? = some (.ins "Ratio" [("top", .int ((a : Int) / g))]) := set_get hr
  simp [e0, h0, h1, h2, hb, ed, hD, f1, hr, putD, g1, set_same]
theorem L_ratio {j : Nat} {m : Mem} {a b : Nat} (hb : 0 < b) (hb2 : b ≤ 1000000) (hW : WM m) : makeG (glL tab (xnT tb) (j + 2)) false "Ratio" [.int a, .int b] m = .ok (ratD a b) m := by
  unfold makeG
  have h1 : (m ++ [MO.ins "Ratio" []])[m.length]? = some (.ins "Ratio" []) := get_new
  have e := L_Ratio_init (j := j) (a := a) hb hb2 h1
  rw [set_new] at e
  unfold WM at hW
  simp [e, hW]
theorem L_parts_r {j : Nat} {m : Mem} {x y : D} : callL tab (xnT tb) (j + 2) "" "parts" [.ins "Ratio" [("top", x), ("bottom", y)]] m = .ok (.tup [x, y]) m := by
  rw [u_parts rfl]
  unfold b_parts
  simp [e0, L_is_integer, isAny, isTy]
theorem L_Ratio_eq {j : Nat} {m : Mem} {a b c d : Int} : callL tab (xnT tb) (j + 3) "Ratio" "__eq__" [.ins "Ratio" [("top", .int a), ("bottom", .int b)], .ins "Ratio" [("top", .int c), ("bottom", .int d)]] m = .ok (.bl (decide ([c, d] = [a, b]))) m := by
  rw [u_Ratio_eq rfl]
  unfold b_Ratio_eq
  have h := k_eqC_o [c, d] [a, b]
  simp only [oD, List.map_cons, List.map_nil] at h
  simp [e0, L_parts_r, h]

end K91

/-! K91D -/
set_option Elab.async false
set_option linter.all false
set_option maxRecDepth 100000
set_option maxHeartbeats 1000000
namespace K91
open PySem L2 PyProof.Rows IP Gm
@[simp] theorem biLen_dic {g : IP.Gl} {q : DK} {xs : List (D × D)} {m : Mem} : biLen g [.dic q xs] m = .ok (.int xs.length) m := Eq.trans rfl rfl
section
variable {j h : Nat} {m : Mem} {ss : List Int} {od lg : List Str} {xs st : List D} {se : Se} {tn : Tn}
abbrev At (m : Mem) (h : Nat) (ss : List Int) (od lg : List Str) (xs : List D) (se : Se) (tn : Tn) (st : List D) : Prop := m[h]? = some (hC ss od lg (xs ++ [sD se tn]) st)
theorem L_person (hh : At m h ss od lg xs se tn st) (ho : OK_ od) {x : Str} (hs : PyData.strOk x = true) : callL tab (xnT tb) (j + 1) "House" "check_person" [.ref h, .str x] m = (if x ∈ od then .ok .non m else .ex ⟨"NoPerson", [("given", .str x)]⟩ m) := by
  rw [u_House_check_person rfl]
  unfold b_House_check_person
  have e2 : inB (.str x) (od.map .str) = some (decide (x ∈ od)) := inB_s x od hs fun y hy => (ho.nm y hy).2.2
  by_cases q : x ∈ od <;> simp [e0, isAny, isTy, att_h hh, e2, q]
theorem L_sealed (hh : At m h ss od lg xs se tn st) : callL tab (xnT tb) (j + 1) "House" "check_sealed" [.ref h] m = (if se.length < od.length then .ex ⟨"TooEarly", []⟩ m else .ok .non m) := by
  rw [u_House_check_sealed rfl]
  unfold b_House_check_sealed
  by_cases q : se.length < od.length <;> simp [e0, att_h hh, q]
theorem L_turn (hh : At m h ss od lg xs se tn st) (ho : OK_ od) (hl : tn.length ≤ od.length) : callL tab (xnT tb) (j + 2) "House" "turn" [.ref h] m = (if se.length < od.length then .ex ⟨"TooEarly", []⟩ m else .ok (.str ((od[tn.length]?).getD (Str.ofString ""))) m) := by
  rw [u_House_turn rfl]
  unfold b_House_turn
  have hk : lenOk (od.length + 1) = true := k_lenOk_of (by have := ho.len; omega)
  have ha : atI (od.map D.str ++ [.str (Str.ofString "")]) (tn.length : Int) = some (.str ((od[tn.length]?).getD (Str.ofString ""))) := by
    rw [k_atI_nat]
    by_cases q : tn.length < od.length
    · rw [List.getElem?_append_left (by simpa using q), List.getElem?_map, List.getElem?_eq_getElem q]
      rfl
    · have e : tn.length = od.length := by omega
      rw [List.getElem?_append_right (by simp; omega), e]
      simp
  by_cases q : se.length < od.length <;> simp [e0, vw_h hh, att_h hh, L_sealed (j := j) hh, q, hk, ha]
end
abbrev sh : Str := Str.ofString "show"
abbrev rf : Str := Str.ofString "refuse"
abbrev sl : Str := Str.ofString "seal"
def openL (se : Se) (tn : Tn) : List O := (tn.filter fun p => decide (p.2 = sh)).map fun p => (se.lookup p.1).getD []
structure Ok (ss : List Int) (od : List Str) (se : Se) (tn : Tn) : Prop where
  vo : ∀ q ∈ se, VO ss q.2
  nm : ∀ q ∈ se, q.1 ∈ od
  nd : (se.map (·.1)).Nodup
  tl : tn.length ≤ od.length
  tk : ∀ p ∈ tn, (p.2 = sh ∨ p.2 = rf) ∧ p.1 ∈ od
  full : tn ≠ [] → se.length = od.length
theorem Ok.len {ss : List Int} {od : List Str} {se : Se} {tn : Tn} (k : Ok ss od se tn) : se.length ≤ od.length := by
  have := k.nd.length_le_of_subset (fun x hx => by
    obtain ⟨q, hq, rfl⟩ := List.mem_map.mp hx
    exact k.nm q hq)
  simpa using this
theorem all_in {a : Type} [DecidableEq a] : ∀ {xs ys : List a}, xs.Nodup → (∀ x ∈ xs, x ∈ ys) → xs.length = ys.length → ys.Nodup → ∀ y ∈ ys, y ∈ xs := by
  intro xs ys h1 h2 h3 h4 y hy
  by_cases q : y ∈ xs
  · exact q
  · have h5 : (y :: xs).Nodup := List.nodup_cons.mpr ⟨q, h1⟩
    have h6 := h5.length_le_of_subset (fun z hz => by
      rcases List.mem_cons.mp hz with e | e
      · rw [e]; exact hy
      · exact h2 z e)
    simp at h6
    omega
theorem Ok.has {ss : List Int} {od : List Str} {se : Se} {tn : Tn} (k : Ok ss od se tn) (hn : od.Nodup) {p : Str × Str} (hp : p ∈ tn) : ∃ o, se.lookup p.1 = some o ∧ VO ss o := by
  have hne : tn ≠ [] := fun e => by rw [e] at hp; cases hp
  have hm : p.1 ∈ se.map (·.1) := all_in k.nd (fun x hx => by
    obtain ⟨q, hq, rfl⟩ := List.mem_map.mp hx
    exact k.nm q hq) (by simpa using k.full hne) hn _ (k.tk p hp).2
  cases e : se.lookup p.1 with
  | none => exact absurd hm (lookup_none.mp e)
  | some o => exact ⟨o, rfl, k.vo _ (PySem.mem_of_lookup e)⟩
section
variable {j h : Nat} {m : Mem} {ss : List Int} {od lg : List Str} {xs st : List D} {se : Se} {tn : Tn}
theorem open_vo (k : Ok ss od se tn) (hn : od.Nodup) : ∀ o ∈ openL se tn, VO ss o := by
  intro o ho
  obtain ⟨p, hp, rfl⟩ := List.mem_map.mp ho
  obtain ⟨q, e, hv⟩ := k.has hn (List.mem_filter.mp hp).1
  rw [e]
  exact hv
theorem kind_ok {tn : Tn} (k : Ok ss od se tn) {p : Str × Str} (hp : p ∈ tn) : PyData.strOk p.2 = true := by
  rcases (k.tk p hp).1 with e | e <;> (rw [e]; decide +kernel)
theorem L_htotal (hh : At m h ss od lg xs se tn st) (hs : VS ss) (ho : OK_ od) (k : Ok ss od se tn) : callL tab (xnT tb) (j + 6) "House" "total" [.ref h] m = .ok (oD (sum ss (openL se tn))) m := by
  rw [u_House_total rfl]
  unfold b_House_total
  have hl : ∀ n, n ≤ tn.length → lenOk n = true := fun n hn => k_lenOk_of (by have := ho.len; have := k.tl; omega)
  have hx : tv tn = tn.map fun p => D.tup [.str p.1, .str p.2] := rfl
  have ht := L_total (j := j) (m := m) (Wks.lst (m := m)) hs (open_vo k ho.nd)
  rw [openL, List.map_map] at ht
  simp only [Function.comp_def] at ht
  have hf : (tn.filter fun p => decide (p.2 = sh)).length ≤ tn.length := List.length_filter_le _ _
  simp [e0, att_h hh, hx]
  rw [compK_filter (g := fun p : Str × Str => D.tup [.str p.1, .str p.2]) (fun p => oD ((se.lookup p.1).getD [])) (fun p => decide (p.2 = sh)) fun p hp => by
    obtain ⟨o, e, hv⟩ := k.has ho.nd hp
    have e2 : eqC (.str p.2) (.str (Str.ofString "show")) = some (decide (p.2 = sh)) := eqC_s (kind_ok k hp) (by decide +kernel)
    have e3 : subP (.dic .k (kv se)) (.str p.1) = some (oD o) := by
      show (getP .k (kv se) (.str p.1)).bind id = _
      rw [get_kv, e]
      rfl
    obtain ⟨a, b⟩ := p
    dsimp only at e e2 e3
    by_cases q : b = sh
    · subst q
      simp [e2, e3, e]
    · simp [e2, q]]
  simp [hl _ hf, openL, ht, vw_h hh]
theorem L_State_init {r : Nat} (hr : m[r]? = some (.ins "State" [])) : callL tab (xnT tb) (j + 1) "State" "__init__" [.ref r, .dic .k (kv se), .lst (tv tn)] m = .ok .non (m.set r (.ins "State" [("sealed", .dic .k (kv se)), ("turns", .lst (tv tn))])) := by
  rw [u_State_init rfl]
  unfold b_State_init
  simp [e0, hr, putD, set_same, set_get hr]
theorem L_mkState (hW : WM m) : makeG (glL tab (xnT tb) (j + 1)) false "State" [.dic .k (kv se), .lst (tv tn)] m = .ok (sD se tn) m := by
  unfold makeG
  have h1 : (m ++ [MO.ins "State" []])[m.length]? = some (.ins "State" []) := get_new
  have e := L_State_init (j := j) (se := se) (tn := tn) h1
  rw [set_new] at e
  unfold WM at hW
  simp [e, hW, unds_tv]
end
end K91

/-! K91E -/
set_option Elab.async false
set_option linter.all false
set_option maxRecDepth 100000
set_option maxHeartbeats 1000000
namespace K91
open PySem L2 PyProof.Rows IP Gm
theorem len2 {n : Nat} (h : n ≤ 1000000) : lenOk n = true := k_lenOk_of h
/-- what a step tells -/
abbrev sealT (x : Str) (o : O) : D := .tup [.str sl, .str x, oD o]
abbrev turnT (kd x : Str) : D := .tup [.str kd, .str x]
section
variable {j h : Nat} {m : Mem} {ss : List Int} {od lg : List Str} {xs st : List D} {se : Se} {tn : Tn} {x kd : Str} {o : O}
theorem ksl : eqC (.str sl) (.str (Str.ofString "seal")) = some true := by rw [eqC_s (by decide +kernel) (by decide +kernel)]; simp
theorem nsl (hk : kd = sh ∨ kd = rf) : eqC (.str kd) (.str (Str.ofString "seal")) = some false := by
  rcases hk with e | e <;> (subst e; rw [eqC_s (by decide +kernel) (by decide +kernel)]; decide +kernel)
theorem in_kv : cmpP .In (.str x) (.dic .k (kv se)) = some (se.lookup x).isSome := by
  show (getP .k (kv se) (.str x)).map Option.isSome = _
  rw [get_kv]
  cases se.lookup x <;> rfl
theorem after_seal (hh : At m h ss od lg xs se tn st) (hW : WM m) (hs : VS ss) (ho : OK_ od) (k : Ok ss od se tn) (hx : PyData.strOk x = true) (hv : VO ss o) :
    callL tab (xnT tb) (j + 4) "House" "state_after" [.ref h, sealT x o] m = (if x ∈ od then (if (se.lookup x).isSome then .ex ⟨"InUse", [("given", .str x)]⟩ m else .ok (sD (se ++ [(x, o)]) tn) m) else .ex ⟨"NoPerson", [("given", .str x)]⟩ m) := by
  rw [u_House_state_after rfl]
  unfold b_House_state_after
  have hp := L_person (j := j + 2) hh ho hx
  by_cases q : x ∈ od
  · rw [if_pos q] at hp
    have hc := L_checked (j := j) (m := m) hs hv
    cases e : se.lookup x with
    | some y => simp [e0, att_h hh, vw_h hh, hp, q, ksl, hc, in_kv, e]
    | none =>
      have hd : ∀ {e : Ev}, e[2]? = some (some (sD se tn)) → e[1]? = some (some (sealT x o)) → ev (glL tab (xnT tb) (j + 3)) (.frz (.dup (.att (.loc 2) "sealed") (.sub (.loc 1) (.con (.int 1))) (.sub (.loc 1) (.con (.int 2))))) e m = .ok (.dic .k (kv (se ++ [(x, o)]))) m := fun h2 h1 =>
        ev_dup (fun m => by simp [h2]) (fun m => by simp [h1]) (fun m => by simp [h1]) e (by have := k.len; have := ho.len; omega) hW
      have hm := L_mkState (j := j + 2) (se := se ++ [(x, o)]) (tn := tn) hW
      rw [ss_nx (e1 := [some (.ref h), some (sealT x o), some (sD se tn)]) (m1 := m) (by simp [e0, att_h hh])]
      rw [ss_nx (e1 := [some (.ref h), some (sealT x o), some (sD se tn)]) (m1 := m) (by simp [vw_h hh, hp])]
      have hd2 := hd (e := [some (.ref h), some (sealT x o), some (sD se tn)]) rfl rfl
      simp [q, vw_h hh, att_h hh, ksl, hc, in_kv, e, -r_ev_frz, hd2, hm]
  · rw [if_neg q] at hp
    simp [e0, att_h hh, vw_h hh, hp, q]
theorem after_turn (hh : At m h ss od lg xs se tn st) (hW : WM m) (hs : VS ss) (ho : OK_ od) (k : Ok ss od se tn) (hx : PyData.strOk x = true) (hk : kd = sh ∨ kd = rf) :
    callL tab (xnT tb) (j + 4) "House" "state_after" [.ref h, turnT kd x] m = (if x ∈ od then (if se.length < od.length then .ex ⟨"TooEarly", []⟩ m else if (od[tn.length]?).getD (Str.ofString "") = x then .ok (sD se (tn ++ [(x, kd)])) m else .ex ⟨"NotTheirTurn", [("given", .str x)]⟩ m) else .ex ⟨"NoPerson", [("given", .str x)]⟩ m) := by
  rw [u_House_state_after rfl]
  unfold b_House_state_after
  have hp := L_person (j := j + 2) hh ho hx
  have ht := L_turn (j := j + 1) hh ho k.tl
  by_cases q : x ∈ od
  · rw [if_pos q] at hp
    by_cases r : se.length < od.length
    · simp [e0, att_h hh, vw_h hh, hp, q, nsl hk, ht, r]
    · rw [if_neg r] at ht
      have hg : PyData.strOk ((od[tn.length]?).getD (Str.ofString "")) = true := by
        cases e : od[tn.length]? with
        | none => decide +kernel
        | some y => exact (ho.nm y (List.mem_of_getElem? e)).2.2
      generalize (od[tn.length]?).getD (Str.ofString "") = y at ht hg
      have e1 : eqC (.str y) (.str x) = some (decide (y = x)) := eqC_s hg hx
      have hm := L_mkState (j := j + 2) (se := se) (tn := tn ++ [(x, kd)]) hW
      have hl : lenOk (tn.length + 1) = true := len2 (by have := k.tl; have := ho.len; omega)
      have hx2 : tv tn ++ [D.tup [.str x, .str kd]] = tv (tn ++ [(x, kd)]) := by simp [tv]
      by_cases z : y = x
      · subst z
        simp [e0, att_h hh, vw_h hh, hp, q, nsl hk, ht, r, e1, hl, hx2, hm]
      · simp [e0, att_h hh, vw_h hh, hp, q, nsl hk, ht, r, e1, z]
  · rw [if_neg q] at hp
    simp [e0, att_h hh, vw_h hh, hp, q]
end
end K91

/-! K91F -/
set_option Elab.async false
set_option linter.all false
set_option maxRecDepth 100000
set_option maxHeartbeats 1000000
namespace K91
open PySem L2 PyProof.Rows IP Gm
section
variable {j h : Nat} {m : Mem} {ss : List Int} {od lg : List Str} {xs st : List D} {se se2 : Se} {tn tn2 : Tn} {x kd : Str} {o : O} {stp : D} {ex : Exc}
theorem do_ok (hh : At m h ss od lg xs se tn st) (hxl : xs.length ≤ 1000) (hsl : st.length ≤ 1000) (hs : callL tab (xnT tb) j "House" "state_after" [.ref h, stp] m = .ok (sD se2 tn2) m) :
    callL tab (xnT tb) (j + 1) "House" "do_step" [.ref h, stp] m = .ok .non (m.set h (hC ss od lg (xs ++ [sD se tn] ++ [sD se2 tn2]) (st ++ [stp]))) := by
  rw [u_House_do_step rfl]
  unfold b_House_do_step
  have l1 : lenOk (xs.length + 1 + 1) = true := len2 (by omega)
  have l2 : lenOk (st.length + 1) = true := len2 (by omega)
  have e1 : xs ++ [sD se tn] ++ [sD se2 tn2] = xs ++ [sD se tn, sD se2 tn2] := by simp
  rw [e1]
  rw [ss_nx (e1 := [some (.ref h), some stp]) (m1 := m.set h (hC ss od lg (xs ++ [sD se tn, sD se2 tn2]) st)) (by
    simp [e0, att_h hh, vw_h hh, hs, l1, hh, putD, hC])]
  generalize xs ++ [sD se tn, sD se2 tn2] = ys
  have g1 : (m.set h (hC ss od lg ys st))[h]? = some (hC ss od lg ys st) := set_get hh
  have a1 := att_h g1
  simp only [hC] at a1 g1
  rw [ss_nx (e1 := [some (.ref h), some stp]) (m1 := m.set h (hC ss od lg ys (st ++ [stp]))) (by
    simp [a1, l2, g1, putD, hC, set_same])]
  generalize st ++ [stp] = zs
  have g2 : (m.set h (hC ss od lg ys zs))[h]? = some (hC ss od lg ys zs) := set_get hh
  simp only [hC] at g2
  simp [g2, putD, hC, set_same]
theorem do_bad (hh : At m h ss od lg xs se tn st) (hs : callL tab (xnT tb) j "House" "state_after" [.ref h, stp] m = .ex ex m) : callL tab (xnT tb) (j + 1) "House" "do_step" [.ref h, stp] m = .ex ex m := by
  rw [u_House_do_step rfl]
  unfold b_House_do_step
  simp [e0, att_h hh, vw_h hh, hs]
theorem L_seal_ok (hh : At m h ss od lg xs se tn st) (hxl : xs.length ≤ 1000) (hsl : st.length ≤ 1000) (hW : WM m) (hs : VS ss) (ho : OK_ od) (k : Ok ss od se tn) (hx : PyData.strOk x = true) (hv : VO ss o) (q : x ∈ od) (r : se.lookup x = none) :
    callL tab (xnT tb) (j + 6) "House" "seal" [.ref h, .str x, oD o] m = .ok .non (m.set h (hC ss od lg (xs ++ [sD se tn] ++ [sD (se ++ [(x, o)]) tn]) (st ++ [sealT x o]))) := by
  have e := after_seal (j := j) hh hW hs ho k hx hv
  rw [if_pos q, r] at e
  simp at e
  have d := do_ok hh hxl hsl e
  rw [u_House_seal rfl]
  unfold b_House_seal
  generalize hC ss od lg (xs ++ [sD se tn] ++ [sD (se ++ [(x, o)]) tn]) (st ++ [sealT x o]) = c at d ⊢
  simp [e0, vw_h hh, d]
theorem L_seal_bad (hh : At m h ss od lg xs se tn st) (hW : WM m) (hs : VS ss) (ho : OK_ od) (k : Ok ss od se tn) (hx : PyData.strOk x = true) (hv : VO ss o) (q : x ∉ od ∨ (se.lookup x).isSome = true) :
    callL tab (xnT tb) (j + 6) "House" "seal" [.ref h, .str x, oD o] m = .ex ⟨if x ∈ od then "InUse" else "NoPerson", [("given", .str x)]⟩ m := by
  have e := after_seal (j := j) hh hW hs ho k hx hv
  have d : callL tab (xnT tb) (j + 5) "House" "do_step" [.ref h, sealT x o] m = .ex ⟨if x ∈ od then "InUse" else "NoPerson", [("given", .str x)]⟩ m := by
    by_cases q1 : x ∈ od
    · have q2 := q.resolve_left (fun z => z q1)
      rw [if_pos q1, if_pos q2] at e
      rw [if_pos q1]
      exact do_bad hh e
    · rw [if_neg q1] at e
      rw [if_neg q1]
      exact do_bad hh e
  rw [u_House_seal rfl]
  unfold b_House_seal
  generalize (if x ∈ od then "InUse" else "NoPerson") = c at d ⊢
  simp [e0, vw_h hh, d]
/-- a turn that is taken; what it raises -/
def trn (od : List Str) (se : Se) (tn : Tn) (x : Str) : Option Exc :=
  if x ∈ od then (if se.length < od.length then some ⟨"TooEarly", []⟩ else if (od[tn.length]?).getD (Str.ofString "") = x then none else some ⟨"NotTheirTurn", [("given", .str x)]⟩) else some ⟨"NoPerson", [("given", .str x)]⟩
theorem L_turn_do (hh : At m h ss od lg xs se tn st) (hxl : xs.length ≤ 1000) (hsl : st.length ≤ 1000) (hW : WM m) (hs : VS ss) (ho : OK_ od) (k : Ok ss od se tn) (hx : PyData.strOk x = true) (hk : kd = sh ∨ kd = rf) :
    callL tab (xnT tb) (j + 5) "House" "do_step" [.ref h, turnT kd x] m = (match trn od se tn x with
      | none => .ok .non (m.set h (hC ss od lg (xs ++ [sD se tn] ++ [sD se (tn ++ [(x, kd)])]) (st ++ [turnT kd x])))
      | some e => .ex e m) := by
  have e := after_turn (j := j) hh hW hs ho k hx hk
  unfold trn
  by_cases q1 : x ∈ od
  · rw [if_pos q1] at e ⊢
    by_cases q2 : se.length < od.length
    · rw [if_pos q2] at e ⊢
      exact do_bad hh e
    · rw [if_neg q2] at e ⊢
      by_cases q3 : (od[tn.length]?).getD (Str.ofString "") = x
      · rw [if_pos q3] at e ⊢
        exact do_ok hh hxl hsl e
      · rw [if_neg q3] at e ⊢
        exact do_bad hh e
  · rw [if_neg q1] at e ⊢
    exact do_bad hh e
theorem L_show (hh : At m h ss od lg xs se tn st) (hxl : xs.length ≤ 1000) (hsl : st.length ≤ 1000) (hW : WM m) (hs : VS ss) (ho : OK_ od) (k : Ok ss od se tn) (hx : PyData.strOk x = true) :
    callL tab (xnT tb) (j + 6) "House" "show" [.ref h, .str x] m = (match trn od se tn x with
      | none => .ok .non (m.set h (hC ss od lg (xs ++ [sD se tn] ++ [sD se (tn ++ [(x, sh)])]) (st ++ [turnT sh x])))
      | some e => .ex e m) := by
  have d := L_turn_do (j := j) hh hxl hsl hW hs ho k hx (.inl rfl)
  rw [u_House_show rfl]
  unfold b_House_show
  cases e : trn od se tn x with
  | none =>
    rw [e] at d
    dsimp only at d
    generalize hC ss od lg (xs ++ [sD se tn] ++ [sD se (tn ++ [(x, sh)])]) (st ++ [turnT sh x]) = c at d ⊢
    simp [e0, vw_h hh, d]
  | some ex =>
    rw [e] at d
    dsimp only at d
    simp [e0, vw_h hh, d]
theorem L_refuse (hh : At m h ss od lg xs se tn st) (hxl : xs.length ≤ 1000) (hsl : st.length ≤ 1000) (hW : WM m) (hs : VS ss) (ho : OK_ od) (k : Ok ss od se tn) (hx : PyData.strOk x = true) :
    callL tab (xnT tb) (j + 6) "House" "refuse" [.ref h, .str x] m = (match trn od se tn x with
      | none => .ok .non (m.set h (hC ss od lg (xs ++ [sD se tn] ++ [sD se (tn ++ [(x, rf)])]) (st ++ [turnT rf x])))
      | some e => .ex e m) := by
  have d := L_turn_do (j := j) hh hxl hsl hW hs ho k hx (.inr rfl)
  rw [u_House_refuse rfl]
  unfold b_House_refuse
  cases e : trn od se tn x with
  | none =>
    rw [e] at d
    dsimp only at d
    generalize hC ss od lg (xs ++ [sD se tn] ++ [sD se (tn ++ [(x, rf)])]) (st ++ [turnT rf x]) = c at d ⊢
    simp [e0, vw_h hh, d]
  | some ex =>
    rw [e] at d
    dsimp only at d
    simp [e0, vw_h hh, d]
end
end K91

/-! K91G -/
set_option Elab.async false
set_option linter.all false
set_option maxRecDepth 100000
set_option maxHeartbeats 1000000
namespace K91
open PySem L2 PyProof.Rows IP Gm
theorem L_House_init {j h : Nat} {m : Mem} {ss : List Int} {od lg : List Str} (ho : OK_ od) (hg : LG od lg) (hW : WM m) (hh : m[h]? = some (.ins "House" [])) :
    callL tab (xnT tb) (j + 3) "House" "__init__" [.ref h, gD ss, .lst (od.map .str), .lst (lg.map .str)] m = .ok .non (m.set h (hC ss od lg [sD [] []] [])) := by
  rw [u_House_init rfl]
  unfold b_House_init
  have o1 := order_ok (j := j) (m := m) ho
  have g1 : callL tab (xnT tb) (j + 1 + 1) "" "check_league" [.lst (od.map .str), .lst (lg.map .str)] m = .ok .non m := league_ok (j := j + 1) (m := m) (b := false) ho hg
  have g : ∀ c : MO, (m.set h c)[h]? = some c := fun c => set_get hh
  let E1 : Ev := [some (.ref h), some (gD ss), some (.lst (od.map .str)), some (.lst (lg.map .str))]
  rw [ss_nx (e1 := E1) (m1 := m) (by simp [e0, o1, E1])]
  rw [ss_nx (e1 := E1) (m1 := m) (by simp [g1, E1])]
  rw [ss_nx (e1 := E1) (m1 := m.set h (.ins "House" [("space", gD ss)])) (by simp [hh, putD, E1])]
  rw [ss_nx (e1 := E1) (m1 := m.set h (.ins "House" [("space", gD ss), ("persons", .lst (od.map .str))])) (by simp [g, putD, E1, set_same])]
  rw [ss_nx (e1 := E1) (m1 := m.set h (.ins "House" [("space", gD ss), ("persons", .lst (od.map .str)), ("league", .lst (lg.map .str))])) (by simp [g, putD, E1, set_same])]
  have hW2 : WM (m.set h (.ins "House" [("space", gD ss), ("persons", .lst (od.map .str)), ("league", .lst (lg.map .str))])) := hW.set (by show D.undF _ _ = true; simp)
  have mk := L_mkState (j := j + 1) (se := []) (tn := []) hW2
  have en := fun e => ev_new (g := glL tab (xnT tb) (j + 2)) (e := e) hW2
  have tv0 : tv [] = [] := rfl
  rw [tv0] at mk
  rw [ss_nx (e1 := E1) (m1 := m.set h (.ins "House" [("space", gD ss), ("persons", .lst (od.map .str)), ("league", .lst (lg.map .str)), ("states", .lst [sD [] []])])) (by
    simp [g, putD, E1, -r_ev_frz, en, mk, set_same])]
  simp [g, putD, E1, set_same]
theorem L_mkHouse {j : Nat} {m : Mem} {ss : List Int} {od lg : List Str} (ho : OK_ od) (hg : LG od lg) (hW : WM m) : makeG (glL tab (xnT tb) (j + 3)) true "House" [gD ss, .lst (od.map .str), .lst (lg.map .str)] m = .ok (.ref m.length) (m ++ [hC ss od lg [sD [] []] []]) := by
  have i1 := L_House_init (j := j) (h := m.length) (m := m ++ [.ins "House" []]) (ss := ss) ho hg (hW.app (by show D.undF _ _ = true; simp)) get_new
  rw [set_new] at i1
  unfold makeG
  generalize hC ss od lg [sD [] []] [] = c at i1 ⊢
  simp [i1]
end K91

/-! K91I -/
set_option Elab.async false
set_option linter.all false
set_option maxRecDepth 100000
set_option maxHeartbeats 1000000
namespace K91
open PySem L2 PyProof.Rows IP Gm
theorem L_reach {j : Nat} {m : Mem} {ss : List Int} {nd : D} {ns ev : List O} {w : Wl} (hw : Wks m nd w (ns.map oD)) (hs : VN ss) (h : ∀ o ∈ ns, VO ss o) (hl : ns.length ≤ 10) (he : ∀ o ∈ ev, VO ss o) (hl2 : ev.length ≤ 1000000) : callL tab (xnT tb) (j + 6) "" "reach" [gD ss, .lst (ev.map oD), nd] m = .ok (.lst ((reachL ss ev ns).map oD)) m := by
  rw [u_reach rfl]
  unfold b_reach
  have e1 : callL tab (xnT tb) (j + 5) "Group" "event" [gD ss, .lst (ev.map oD)] m = _ := L_event (j := j + 2) (m := m) (os := ev) hs.1 hl2 he (by have := hs.2; omega)
  have e2 : callL tab (xnT tb) (j + 5) "Group" "total" [gD ss, nd] m = _ := L_total (j := j) (m := m) hw hs.1 h
  have e3 : callL tab (xnT tb) (j + 5) "" "sums_of" [gD ss, nd] m = _ := L_sums_of (j := j) (m := m) hw hs h hl
  have e4 : callL tab (xnT tb) (j + 5) "Group" "outcomes" [gD ss] m = _ := L_outcomes (j := j + 4) (m := m) (ss := ss)
  have h2 : lenOk ((outs ss).filter fun o => decide (o ∈ ev)).length = true := k_lenOk_of (Nat.le_trans (List.length_filter_le _ _) (by have := hs.2; omega))
  have h3 : lenOk ((outs ss).filter fun o => decide (o ∈ sumsF ss ns)).length = true := k_lenOk_of (Nat.le_trans (List.length_filter_le _ _) (by have := hs.2; omega))
  have h4 : lenOk (reachL ss ev ns).length = true := k_lenOk_of (Nat.le_trans (List.length_filter_le _ _) (by have := hs.2; omega))
  simp [e0, e1, e2, e3, e4]
  rw [compK_filter (g := oD) oD (rchP ss ev ns) fun o ho => ?_]
  · have h5 : (outs ss).filter (rchP ss ev ns) = reachL ss ev ns := rfl
    simp [h4, h5]
  · have ho := mem_outs.mp ho
    have e5 : ∀ {s m}, VO ss s → callL tab (xnT tb) (j + 5) "Group" "plus" [gD ss, oD o, oD s] m = .ok (oD (add ss o s)) m := fun hv => L_plus (j := j + 1) hs.1 ho hv
    simp [e0]
    rw [compK_each (g := oD) (fun s => D.bl (decide (add ss o s ∈ (outs ss).filter fun o => decide (o ∈ ev)))) fun s hs' => by
      have hv := mem_outs.mp (List.mem_filter.mp hs').1
      simp [e0, e5 hv]]
    have key := rchP_eq (ss := ss) (ev := ev) (ns := ns) (o := o) hs.1
    simp [h3]
    simp at key
    rw [key]
    cases rchP ss ev ns o <;> simp
theorem reachL_congr2 {ss : List Int} {ev ns : List O} (hs : VS ss) : reachL ss ((outs ss).filter fun o => decide (o ∈ ev)) ns = reachL ss ev ns := by
  unfold reachL
  congr 1
  funext o
  unfold rchP
  congr 1
  funext one
  have hm : add ss o one ∈ outs ss := mem_outs.mpr (addT_vo hs)
  simp [List.mem_filter, hm]
theorem arr01 {a : Type} {x y : a} : arr [0, 1] [x, y] = some [x, y] := rfl
theorem has_len : hasT tab "Group" "__len__" = true := by decide +kernel
theorem outs_pos {ss : List Int} (hs : VS ss) : 0 < (outs ss).length := by
  obtain ⟨r, e⟩ := outs_head hs
  rw [e]
  simp
theorem L_Group_len {j : Nat} {m : Mem} {ss : List Int} : callL tab (xnT tb) (j + 1) "Group" "__len__" [gD ss] m = .ok (.int (outs ss).length) m := by
  rw [u_Group_len rfl]
  unfold b_Group_len
  simp [e0]
def seF (od : List Str) (f : Str → O) : Se := od.map fun x => (x, f x)
theorem look_seF {f : Str → O} {x : Str} : ∀ {od : List Str}, x ∈ od → (seF od f).lookup x = some (f x)
  | y :: od, h => by
    unfold seF
    rw [List.map_cons, List.lookup_cons]
    by_cases q : x = y
    · subst q
      simp
    · have h1 : (x == y) = false := by simpa using q
      rw [h1]
      rcases List.mem_cons.mp h with e | e
      · exact absurd e q
      · exact look_seF (od := od) e
theorem ratD_whole {ss : List Int} (hs : VS ss) {b : Bool} : ratD (if b then 1 else 0) 1 = ratD (if b then (outs ss).length else 0) (outs ss).length := by
  have hp := outs_pos hs
  unfold ratD
  cases b
  · simp
    exact (Int.ediv_self (by omega)).symm
  · simp
    exact (Int.ediv_self (by omega)).symm
section
variable {j h : Nat} {m : Mem} {ss : List Int} {od lg : List Str} {xs st : List D} {tn : Tn} {f : Str → O} {ev : List O} {se : Se}
theorem L_left (hh : At m h ss od lg xs se tn st) : callL tab (xnT tb) (j + 1) "House" "left" [.ref h] m = .ok (.lst ((od.drop tn.length).map .str)) m := by
  rw [u_House_left rfl]
  unfold b_House_left
  have e1 : cut (od.map D.str) (some (tn.length : Int)) none = (od.map D.str).drop tn.length := k_cut_from
  simp [e0, att_h hh, e1]
theorem L_hope_from {left : List Str} {here : O} (hh : At m h ss od lg xs (seF od f) tn st) (hW : WM m) (hs : VN ss) (ho : OK_ od) (hod : od.length ≤ 10) (hg : LG od lg) (hf : ∀ x ∈ od, VO ss (f x)) (he : ∀ o ∈ ev, VO ss o) (hl2 : ev.length ≤ 1000000) (hv : VO ss here)
    (hsub : ∀ x ∈ left, x ∈ od) (hll : left.length ≤ 10) :
    callL tab (xnT tb) (j + 8) "House" "hope_from" [.ref h, .lst (ev.map oD), oD here, .lst (left.map .str)] m = .ok (ratD (hopeC ss ev lg f here left) (outs ss).length) m := by
  rw [u_House_hope_from rfl]
  unfold b_House_hope_from
  obtain ⟨P, hPd⟩ : ∃ P : List Nat, P = ((left.zipIdx 0).filter fun p => !decide (p.1 ∈ lg)).map (·.2) := ⟨_, rfl⟩
  have hPm : ((left.zipIdx 0).filter fun p => !decide (p.1 ∈ lg)).map (fun p => D.int (p.2 : Int)) = P.map fun (n : Nat) => D.int (n : Int) := by
    rw [hPd, List.map_map]
    rfl
  have hP : P.length ≤ left.length := by
    rw [hPd, List.length_map]
    exact Nat.le_trans (List.length_filter_le _ _) (by simp)
  have hlp : lenOk P.length = true := k_lenOk_of (by omega)
  let E (x4 x7 x8 : Option D) : Ev := [some (.ref h), some (.lst (ev.map oD)), some (oD here), some (.lst (left.map .str)), x4, none, none, x7, x8]
  have hN : (outs ss).length ≤ 1000 := hs.2
  have hpos := outs_pos hs.1
  have big : ((outs ss).length : Int) < 9223372036854775808 := by omega
  rw [ss_nx (e1 := E (some (.lst (P.map fun (n : Nat) => D.int (n : Int)))) none none) (m1 := m) (by
    simp [e0]
    rw [enum_map, compK_filter (g := fun p : Str × Nat => D.tup [.int (p.2 : Int), .str p.1]) (fun p => D.int (p.2 : Int)) (fun p => !decide (p.1 ∈ lg)) fun p hp => by
      obtain ⟨x, k⟩ := p
      have hk : left[k]? = some x := by simpa using List.mem_zipIdx_iff_getElem?.mp hp
      have hx := hsub x (List.mem_of_getElem? hk)
      have e2 : inB (.str x) (lg.map .str) = some (decide (x ∈ lg)) := inB_s x lg (ho.nm x hx).2.2 fun y hy => (ho.nm y (hg.sub y hy)).2.2
      by_cases q : x ∈ lg <;> simp [att_h hh, e2, q], hPm]
    simp [hlp, E, e0])]
  have reach_of : ∀ l : List Str, (∀ x ∈ l, x ∈ od) → l.length ≤ 10 → callL tab (xnT tb) (j + 7) "" "reach" [gD ss, .lst (ev.map oD), .lst ((l.map f).map oD)] m = .ok (.lst ((reachL ss ev (l.map f)).map oD)) m := fun l h1 h2 =>
    L_reach (j := j + 1) (Wks.lst (m := m)) hs (fun o ho' => by
      obtain ⟨x, hx, rfl⟩ := List.mem_map.mp ho'
      exact hf x (h1 x hx)) (by simpa using h2) he hl2
  have sub_of : ∀ x ∈ od, subP (.dic .k (kv (seF od f))) (.str x) = some (oD (f x)) := fun x hx => by
    show (getP .k (kv (seF od f)) (.str x)).bind id = _
    rw [get_kv, look_seF hx]
    rfl
  rcases last_drop left 0 with ⟨h1, h2, h3⟩ | ⟨i, h1, h2, h3⟩
  · rw [← hPd] at h1
    have hP0 : P = [] := h1
    have hH : hopeC ss ev lg f here left = if here ∈ reachL ss ev (left.map f) then (outs ss).length else 0 := by unfold hopeC; rw [h2]; simp
    rw [ss_nx (e1 := E (some (.lst [])) (some (.lst (left.map .str))) none) (m1 := m) (by rw [hP0]; simp [E])]
    have rc := reach_of left hsub hll
    rw [List.map_map] at rc
    have hlr : lenOk left.length = true := k_lenOk_of (by omega)
    rw [ss_nx (e1 := E (some (.lst [])) (some (.lst (left.map .str))) (some (.lst ((reachL ss ev (left.map f)).map oD)))) (m1 := m) (by
      simp [E, att_h hh]
      rw [compK_each (g := D.str) (fun x => oD (f x)) fun x hx => by simp [att_h hh, sub_of x (hsub x hx)]]
      simp only [Function.comp_def] at rc
      simp [hlr, rc, att_h hh, E])]
    have hb : inB (oD here) ((reachL ss ev (left.map f)).map oD) = some (decide (here ∈ reachL ss ev (left.map f))) := inB_o _ _
    have mk := L_ratio (j := j + 5) (m := m) (a := if decide (here ∈ reachL ss ev (left.map f)) then 1 else 0) (b := 1) (by decide) (by decide) hW
    rw [ratD_whole hs.1] at mk
    rw [hH]
    by_cases q : here ∈ reachL ss ev (left.map f)
    · simp [q] at mk hb
      simp [E, hb, arr01, mk, q]
    · simp [q] at mk hb
      simp [E, hb, arr01, mk, q]
  · rw [← hPd, Nat.zero_add] at h1
    have hP1 : P.getLast? = some i := h1
    have hne : P ≠ [] := fun e => by rw [e] at hP1; cases hP1
    have hpl : 0 < P.length := List.length_pos_iff.mpr hne
    have hH : hopeC ss ev lg f here left = (reachL ss ev ((lastL lg left).map f)).length := by unfold hopeC; rw [h2]; simp
    have e1 : cut (left.map D.str) (some ((i : Int) + 1)) none = (lastL lg left).map .str := by
      have : ((i : Int) + 1) = ((i + 1 : Nat) : Int) := by omega
      rw [this, k_cut_from, h3, List.map_drop]
    have hgl : (P.map fun (n : Nat) => D.int (n : Int)).getLast? = some (.int i) := by rw [List.getLast?_map, hP1]; rfl
    have hlst : (lastL lg left).length ≤ 10 := by rw [h3, List.length_drop]; omega
    have hsl : ∀ x ∈ lastL lg left, x ∈ od := fun x hx => hsub x (lastL_sub x hx)
    have rc := reach_of (lastL lg left) hsl hlst
    rw [List.map_map] at rc
    simp only [Function.comp_def] at rc
    rw [hH]
    generalize lastL lg left = L at e1 hlst hsl rc
    have hlr : lenOk L.length = true := k_lenOk_of (by omega)
    rw [ss_nx (e1 := E (some (.lst (P.map fun (n : Nat) => D.int (n : Int)))) (some (.lst (L.map .str))) none) (m1 := m) (by
      simp [E, hpl, hgl, e1])]
    rw [ss_nx (e1 := E (some (.lst (P.map fun (n : Nat) => D.int (n : Int)))) (some (.lst (L.map .str))) (some (.lst ((reachL ss ev (L.map f)).map oD)))) (m1 := m) (by
      simp [E, att_h hh]
      rw [compK_each (g := D.str) (fun x => oD (f x)) fun x hx => by simp [att_h hh, sub_of x (hsl x hx)]]
      simp [hlr, rc, att_h hh, E])]
    have mk := L_ratio (j := j + 5) (m := m) (a := (reachL ss ev (L.map f)).length) (b := (outs ss).length) hpos (by omega) hW
    have e3 : callL tab (xnT tb) (j + 7) "Group" "__len__" [gD ss] m = _ := L_Group_len (j := j + 6)
    simp [E, hpl, att_h hh, e3, has_len, big, mk]
end
end K91

/-! K91J -/
set_option Elab.async false
set_option linter.all false
set_option maxRecDepth 100000
set_option maxHeartbeats 1000000
namespace K91
open PySem L2 PyProof.Rows IP Gm
theorem hopeC_cut {ss : List Int} {ev : List O} {lg : List Str} {f : Str → O} {here : O} {left : List Str} (hs : VS ss) : hopeC ss ((outs ss).filter fun o => decide (o ∈ ev)) lg f here left = hopeC ss ev lg f here left := by
  unfold hopeC
  rw [reachL_congr2 hs, reachL_congr2 hs]
section
variable {j h : Nat} {m : Mem} {ss : List Int} {od lg : List Str} {xs st : List D} {tn : Tn} {f : Str → O} {ev : List O}
theorem L_hope (hh : At m h ss od lg xs (seF od f) tn st) (hW : WM m) (hs : VN ss) (ho : OK_ od) (hod : od.length ≤ 10) (hg : LG od lg) (hf : ∀ x ∈ od, VO ss (f x)) (he : ∀ o ∈ ev, VO ss o) (hl2 : ev.length ≤ 1000000) (k : Ok ss od (seF od f) tn) :
    callL tab (xnT tb) (j + 9) "House" "hope" [.ref h, .lst (ev.map oD)] m = .ok (ratD (hopeC ss ev lg f (sum ss (openL (seF od f) tn)) (od.drop tn.length)) (outs ss).length) m := by
  rw [u_House_hope rfl]
  unfold b_House_hope
  have e1 : callL tab (xnT tb) (j + 8) "Group" "event" [gD ss, .lst (ev.map oD)] m = _ := L_event (j := j + 5) (m := m) (os := ev) hs.1 hl2 he (by have := hs.2; omega)
  have e2 := L_sealed (j := j + 7) hh
  have hlen : (seF od f).length = od.length := by simp [seF]
  rw [if_neg (by omega)] at e2
  have e3 := L_htotal (j := j + 2) hh hs.1 ho k
  have e4 := L_left (j := j + 7) hh
  have e5 := L_hope_from (j := j) (ev := (outs ss).filter fun o => decide (o ∈ ev)) (left := od.drop tn.length) hh hW hs ho hod hg hf (fun o h => mem_outs.mp (List.mem_filter.mp h).1) (Nat.le_trans (List.length_filter_le _ _) (by have := hs.2; omega)) (sum_vo hs.1 (openL (seF od f) tn)) (fun x hx => List.mem_of_mem_drop hx) (by rw [List.length_drop]; omega)
  rw [hopeC_cut hs.1] at e5
  generalize ratD (hopeC ss ev lg f (sum ss (openL (seF od f) tn)) (od.drop tn.length)) (outs ss).length = res at e5 ⊢
  generalize sum ss (openL (seF od f) tn) = here at e3 e5
  generalize od.drop tn.length = left at e4 e5
  generalize (outs ss).filter (fun o => decide (o ∈ ev)) = ev' at e1 e5
  simp [e0, att_h hh, vw_h hh, e1, e2, e3, e4, e5]
end
/-! ### Ratios -/
abbrev rr (a b : Nat) : D := .ins "Ratio" [("top", .int a), ("bottom", .int b)]
theorem ratD_rr {a b : Nat} : ratD a b = rr (a / Nat.gcd a b) (b / Nat.gcd a b) := by
  unfold ratD rr
  rw [Int.natCast_ediv, Int.natCast_ediv]
theorem ratD_eq {x y x' y' : Nat} (hy : 0 < y) (hy' : 0 < y') (h : x * y' = x' * y) : ratD x y = ratD x' y' := by
  have e : Rat.divInt (x : Int) (y : Int) = Rat.divInt (x' : Int) (y' : Int) := by
    rw [Rat.divInt_eq_divInt_iff (by omega) (by omega)]
    exact_mod_cast h
  unfold ratD
  rw [← num_of hy, ← den_of hy, ← num_of hy', ← den_of hy', e]
section
variable {j : Nat} {m : Mem} {a b c d n : Nat}
theorem L_chk_r : callL tab (xnT tb) (j + 3) "" "checked" [rr a b] m = .ok (.tup [.int a, .int b]) m := by
  rw [u_checked rfl]
  unfold b_checked
  have h : cmpP .Is (.tup [.int (a : Int), .int (b : Int)]) .non = some false := rfl
  simp [e0, L_parts_r, h]
theorem L_parts_i : callL tab (xnT tb) (j + 2) "" "parts" [.int n] m = .ok (.tup [.int n, .int 1]) m := by
  rw [u_parts rfl]
  unfold b_parts
  simp [e0, L_is_integer]
theorem L_chk_i : callL tab (xnT tb) (j + 3) "" "checked" [.int n] m = .ok (.tup [.int n, .int 1]) m := by
  rw [u_checked rfl]
  unfold b_checked
  have h : cmpP .Is (.tup [.int (n : Int), .int 1]) .non = some false := rfl
  simp [e0, L_parts_i, h]
theorem mulN {x y : Nat} (hx : x ≤ 1000000000) (hy : y ≤ 1000000000) : mulOk (x : Int) (y : Int) = true := mul2 (by omega) (by omega) (by omega) (by omega)
theorem L_add (ha : a ≤ 1000000) (hb : b ≤ 1000000) (hc : c ≤ 1000000) (hd : d ≤ 1000000) (hb0 : 0 < b) (hd0 : 0 < d) (hbd : b * d ≤ 1000000) (hW : WM m) : callL tab (xnT tb) (j + 4) "Ratio" "__add__" [rr a b, rr c d] m = .ok (ratD (a * d + c * b) (b * d)) m := by
  rw [u_Ratio_add rfl]
  unfold b_Ratio_add
  have e := L_ratio (j := j + 1) (m := m) (a := a * d + c * b) (b := b * d) (Nat.mul_pos hb0 hd0) hbd hW
  rw [Int.natCast_add, Int.natCast_mul, Int.natCast_mul, Int.natCast_mul] at e
  simp [e0, L_chk_r, bindT, setAll, mulN (x := a) (y := d) (by omega) (by omega), mulN (x := c) (y := b) (by omega) (by omega), mulN (x := b) (y := d) (by omega) (by omega), e]
theorem L_mul_i (ha : a ≤ 1000000) (hb : b ≤ 1000000) (hn : n ≤ 1000000) (hb0 : 0 < b) (hW : WM m) : callL tab (xnT tb) (j + 4) "Ratio" "__mul__" [rr a b, .int n] m = .ok (ratD (a * n) b) m := by
  rw [u_Ratio_mul rfl]
  unfold b_Ratio_mul
  have e := L_ratio (j := j + 1) (m := m) (a := a * n) (b := b) hb0 hb hW
  rw [Int.natCast_mul] at e
  have h1 : mulOk (b : Int) 1 = true := mulN (x := b) (y := 1) (by omega) (by omega)
  simp [e0, L_chk_i, bindT, setAll, mulN (x := a) (y := n) (by omega) (by omega), h1, e]
theorem L_lt (ha : a ≤ 1000000) (hb : b ≤ 1000000) (hc : c ≤ 1000000) (hd : d ≤ 1000000) : callL tab (xnT tb) (j + 4) "Ratio" "__lt__" [rr a b, rr c d] m = .ok (.bl (decide (a * d < c * b))) m := by
  rw [u_Ratio_lt rfl]
  unfold b_Ratio_lt
  have h : ((a : Int) * d < c * b) ↔ (a * d < c * b) := by
    rw [← Int.natCast_mul, ← Int.natCast_mul]
    omega
  simp [e0, L_chk_r, bindT, setAll, mulN (x := a) (y := d) (by omega) (by omega), mulN (x := c) (y := b) (by omega) (by omega), h]
end
/-! ### parts of one whole -/
section
variable {j : Nat} {m : Mem} {x y N : Nat}
theorem gcdP (hN : 0 < N) : ∃ g n, N = g * n ∧ 0 < g ∧ 0 < n ∧ Nat.gcd x N = g ∧ N / Nat.gcd x N = n ∧ x = g * (x / Nat.gcd x N) := by
  have hg : 0 < Nat.gcd x N := Nat.gcd_pos_of_pos_right _ hN
  obtain ⟨n, hn⟩ := Nat.gcd_dvd_right x N
  refine ⟨Nat.gcd x N, n, hn, hg, ?_, rfl, ?_, ?_⟩
  · cases n with
    | zero => rw [Nat.mul_zero] at hn; omega
    | succ n => omega
  · conv => lhs; lhs; rw [hn]
    exact Nat.mul_div_cancel_left _ hg
  · rw [Nat.mul_div_cancel' (Nat.gcd_dvd_left x N)]
theorem add_part (hN : 0 < N) (hN2 : N ≤ 1000) (hx : x ≤ 1000000) (hy : y ≤ 1000000) (hW : WM m) : callL tab (xnT tb) (j + 4) "Ratio" "__add__" [ratD x N, ratD y N] m = .ok (ratD (x + y) N) m := by
  obtain ⟨g, n, e1, g0, n0, e2, e3, e4⟩ := gcdP (x := x) hN
  obtain ⟨g', n', e1', g0', n0', e2', e3', e4'⟩ := gcdP (x := y) hN
  rw [ratD_rr (a := x), ratD_rr (a := y), e3, e3']
  generalize x / Nat.gcd x N = u at e4
  generalize y / Nat.gcd y N = v at e4'
  have hn : n ≤ N := by rw [e1]; exact Nat.le_mul_of_pos_left _ g0
  have hn' : n' ≤ N := by rw [e1']; exact Nat.le_mul_of_pos_left _ g0'
  have hu : u ≤ x := by rw [e4]; exact Nat.le_mul_of_pos_left _ g0
  have hv : v ≤ y := by rw [e4']; exact Nat.le_mul_of_pos_left _ g0'
  have hnn : n * n' ≤ 1000000 := Nat.le_trans (Nat.mul_le_mul hn hn') (Nat.le_trans (Nat.mul_le_mul hN2 hN2) (by decide))
  rw [L_add (by omega) (by omega) (by omega) (by omega) n0 n0' hnn hW]
  congr 1
  refine ratD_eq (Nat.mul_pos n0 n0') hN ?_
  rw [e4, e4', Nat.add_mul, Nat.add_mul]
  have h1 : u * n' * N = g * u * (n * n') := by rw [e1]; simp only [Nat.mul_comm, Nat.mul_left_comm, Nat.mul_assoc]
  have h2 : v * n * N = g' * v * (n * n') := by rw [e1']; simp only [Nat.mul_comm, Nat.mul_left_comm, Nat.mul_assoc]
  rw [h1, h2]
theorem lt_part (hN : 0 < N) (hN2 : N ≤ 1000) (hx : x ≤ 1000000) (hy : y ≤ 1000000) : callL tab (xnT tb) (j + 4) "Ratio" "__lt__" [ratD x N, ratD y N] m = .ok (.bl (decide (x < y))) m := by
  obtain ⟨g, n, e1, g0, n0, e2, e3, e4⟩ := gcdP (x := x) hN
  obtain ⟨g', n', e1', g0', n0', e2', e3', e4'⟩ := gcdP (x := y) hN
  rw [ratD_rr (a := x), ratD_rr (a := y), e3, e3']
  generalize x / Nat.gcd x N = u at e4
  generalize y / Nat.gcd y N = v at e4'
  have hn : n ≤ N := by rw [e1]; exact Nat.le_mul_of_pos_left _ g0
  have hn' : n' ≤ N := by rw [e1']; exact Nat.le_mul_of_pos_left _ g0'
  have hu : u ≤ x := by rw [e4]; exact Nat.le_mul_of_pos_left _ g0
  have hv : v ≤ y := by rw [e4']; exact Nat.le_mul_of_pos_left _ g0'
  rw [L_lt (by omega) (by omega) (by omega) (by omega)]
  have h1 : u * n' * N = x * (n * n') := by rw [e1, e4]; simp only [Nat.mul_comm, Nat.mul_left_comm, Nat.mul_assoc]
  have h2 : v * n * N = y * (n * n') := by rw [e1', e4']; simp only [Nat.mul_comm, Nat.mul_left_comm, Nat.mul_assoc]
  have h3 : 0 < n * n' := Nat.mul_pos n0 n0'
  have : (u * n' < v * n) ↔ (x < y) := by
    rw [← Nat.mul_lt_mul_right hN, h1, h2, Nat.mul_lt_mul_right h3]
  simp [this]
theorem mul_part (hN : 0 < N) (hN2 : N ≤ 1000) (hx : x ≤ 1000000) (hW : WM m) : callL tab (xnT tb) (j + 4) "Ratio" "__mul__" [ratD x N, .int (N : Int)] m = .ok (ratD (N * x) N) m := by
  obtain ⟨g, n, e1, g0, n0, e2, e3, e4⟩ := gcdP (x := x) hN
  rw [ratD_rr (a := x), e3]
  generalize x / Nat.gcd x N = u at e4
  have hn : n ≤ N := by rw [e1]; exact Nat.le_mul_of_pos_left _ g0
  have hu : u ≤ x := by rw [e4]; exact Nat.le_mul_of_pos_left _ g0
  rw [L_mul_i (by omega) (by omega) (by omega) n0 hW]
  congr 1
  refine ratD_eq n0 hN ?_
  rw [e4, e1]
  simp only [Nat.mul_comm, Nat.mul_left_comm, Nat.mul_assoc]
theorem eq_part : callL tab (xnT tb) (j + 3) "Ratio" "__eq__" [ratD x N, ratD x N] m = .ok (.bl true) m := by
  have := L_Ratio_eq (j := j) (m := m) (a := (x : Int) / (Nat.gcd x N : Nat)) (b := (N : Int) / (Nat.gcd x N : Nat)) (c := (x : Int) / (Nat.gcd x N : Nat)) (d := (N : Int) / (Nat.gcd x N : Nat))
  rw [decide_eq_true rfl] at this
  exact this
end
end K91

/-! K91K -/
set_option Elab.async false
set_option linter.all false
set_option maxRecDepth 100000
set_option maxHeartbeats 1000000
namespace K91
open PySem L2 PyProof.Rows IP Gm
theorem has_add : hasT tab "Ratio" "__add__" = true := by decide +kernel
theorem has_mul : hasT tab "Ratio" "__mul__" = true := by decide +kernel
theorem has_eq : hasT tab "Ratio" "__eq__" = true := by decide +kernel
theorem has_lt : hasT tab "Ratio" "__lt__" = true := by decide +kernel
theorem sum_le {N : Nat} : ∀ {cs : List Nat}, (∀ c ∈ cs, c ≤ N) → cs.sum ≤ cs.length * N
  | [], _ => by simp
  | c :: cs, h => by
    have := sum_le (cs := cs) fun x hx => h x (List.mem_cons_of_mem _ hx)
    have := h c List.mem_cons_self
    rw [List.sum_cons, List.length_cons, Nat.add_mul]
    omega
noncomputable abbrev totB (j : Nat) := forB (glL tab (xnT tb) j) (xnT tb) (.one 2) (.cons (.set 1 (.bin .Add (.loc 1) (.loc 2))) .nil)
theorem tot_loop {j N : Nat} {m : Mem} {nd : D} {w : Wl} (hw : w.ok m) (hN : 0 < N) (hN2 : N ≤ 1000) (hW : WM m) : ∀ (cs : List Nat) (s : Nat) (z : Option D), s + cs.sum ≤ 1000000 →
    ∃ z', forW w (totB (j + 4)) (cs.map fun c => ratD c N) [some nd, some (ratD s N), z] m = .nx [some nd, some (ratD (s + cs.sum) N), z'] m
  | [], s, z, _ => ⟨z, by rw [List.map_nil, forW_end hw]; simp⟩
  | c :: cs, s, z, h => by
    rw [List.sum_cons] at h
    obtain ⟨z', e⟩ := tot_loop (j := j) (nd := nd) hw hN hN2 hW cs (s + c) (some (ratD c N)) (by omega)
    refine ⟨z', ?_⟩
    have a := add_part (j := j) (x := s) (y := c) hN hN2 (by omega) (by omega) hW
    rw [List.map_cons, forW_nx (e1 := [some nd, some (ratD (s + c) N), some (ratD c N)]) (m1 := m) hw]
    · rw [e, List.sum_cons, Nat.add_assoc]
    · unfold ratD at a ⊢
      simp [has_add, a, arB]
theorem L_tot {j N : Nat} {m : Mem} {nd : D} {w : Wl} {cs : List Nat} (hw : Wks m nd w (cs.map fun c => ratD c N)) (hN : 0 < N) (hN2 : N ≤ 1000) (hW : WM m) (hc : ∀ c ∈ cs, c ≤ N) (hl : cs.length ≤ 1000) : callL tab (xnT tb) (j + 5) "" "total" [nd] m = .ok (ratD cs.sum N) m := by
  rw [u_total rfl]
  unfold b_total
  have hs : cs.sum ≤ 1000000 := Nat.le_trans (sum_le hc) (Nat.le_trans (Nat.mul_le_mul hl hN2) (by decide))
  have r0 := L_ratio (j := j + 2) (m := m) (a := 0) (b := 1) (by decide) (by decide) hW
  have r1 : ratD 0 1 = ratD 0 N := ratD_eq (by decide) hN (by simp)
  rw [r1] at r0
  obtain ⟨z', e⟩ := tot_loop (j := j) (nd := nd) hw.ok hN hN2 hW cs 0 none (by omega)
  rw [Nat.zero_add] at e
  have r0' : makeG (glL tab (xnT tb) (j + 4)) false "Ratio" [.int 0, .int 1] m = .ok (ratD 0 N) m := r0
  rw [ss_nx (e1 := [some nd, some (ratD 0 N), none]) (m1 := m) (by simp [e0, arr01, r0'])]
  rw [ss_nx (e1 := [some nd, some (ratD cs.sum N), z']) (m1 := m) (by
    generalize ratD 0 N = r at e ⊢
    generalize ratD cs.sum N = r2 at e ⊢
    simp [hw.wk, fW, hw.xs, e])]
  generalize ratD cs.sum N = r2
  simp
theorem und_hC {ss : List Int} {od lg : List Str} {ys zs : List D} {n : Nat} (h1 : D.unds n ys = true) (h2 : D.unds n zs = true) : (hC ss od lg ys zs).und n = true := by
  show D.undF _ _ = true
  simp [h1, h2]
theorem und_of_WM {m : Mem} {h : Nat} {ss : List Int} {od lg : List Str} {ys zs : List D} (hW : WM m) (e : m[h]? = some (hC ss od lg ys zs)) : D.unds m.length ys = true ∧ D.unds m.length zs = true := by
  have := (allB_iff.mp hW) _ (List.mem_of_getElem? e)
  have : D.undF m.length [("space", gD ss), ("persons", .lst (od.map .str)), ("league", .lst (lg.map .str)), ("states", .lst ys), ("steps", .lst zs), ("gone", .lst [])] = true := this
  simp at this
  exact ⟨this.1, this.2⟩
theorem unds_ext {n : Nat} {xs : List D} {x : D} (h : D.unds n xs = true) (hx : x.und n = true) : D.unds n (xs ++ [x]) = true := by
  rw [unds_app, h]
  simp [hx]
section
variable {m : Mem} {ss : List Int} {od lg : List Str} {f : Str → O} {q : Nat} {se0 : Se}
theorem seF_keys {l : List Str} : (seF l f).map (·.1) = l := by
  unfold seF
  rw [List.map_map]
  exact List.map_id' l
theorem ok_seF {a b : List Str} (ho : OK_ od) (hf : ∀ x ∈ od, VO ss (f x)) (e : od = a ++ b) : Ok ss od (seF a f) [] := by
  refine ⟨fun y hy => ?_, fun y hy => ?_, ?_, by simp, by simp, by simp⟩
  · obtain ⟨x, hx, rfl⟩ := List.mem_map.mp hy
    exact hf x (by rw [e]; exact List.mem_append_left _ hx)
  · obtain ⟨x, hx, rfl⟩ := List.mem_map.mp hy
    rw [e]
    exact List.mem_append_left _ hx
  · rw [seF_keys]
    have := ho.nd
    rw [e, List.nodup_append] at this
    exact this.1
abbrev slB : Ss := (.cons (.expr (.meth "House" "seal" (.loc 4) (.one (.loc 5) (.one (.sub (.loc 3) (.loc 5)) .nil)) [] [])) .nil)
theorem house_loop {j : Nat} (hWm : WM m) (hs : VS ss) (ho : OK_ od) (hod : od.length ≤ 10) (hf : ∀ x ∈ od, VO ss (f x)) (hq : m[q]? = some (.dic .k (kv se0))) (hse : ∀ x ∈ od, se0.lookup x = some (f x)) :
    ∀ (b a : List Str) (xs st : List D) (z : Option D), od = a ++ b → xs.length ≤ a.length → st.length ≤ a.length → WM (m ++ [hC ss od lg (xs ++ [sD (seF a f) []]) st]) →
    ∃ xs' st' z', forL (forB (glL tab (xnT tb) (j + 6)) (xnT tb) (.one 5) slB) (b.map .str) [some (.lst (ss.map .int)), some (.lst (od.map .str)), some (.lst (lg.map .str)), some (.ref q), some (.ref m.length), z] (m ++ [hC ss od lg (xs ++ [sD (seF a f) []]) st]) =
      .nx [some (.lst (ss.map .int)), some (.lst (od.map .str)), some (.lst (lg.map .str)), some (.ref q), some (.ref m.length), z'] (m ++ [hC ss od lg (xs' ++ [sD (seF od f) []]) st']) ∧ xs'.length ≤ od.length ∧ st'.length ≤ od.length ∧ WM (m ++ [hC ss od lg (xs' ++ [sD (seF od f) []]) st'])
  | [], a, xs, st, z, e, h1, h2, hW => by
    rw [List.append_nil] at e
    subst e
    exact ⟨xs, st, z, rfl, h1, h2, hW⟩
  | x :: b, a, xs, st, z, e, h1, h2, hW => by
    have hx : x ∈ od := by rw [e]; simp
    have hal : a.length ≤ od.length := by rw [e]; simp
    have hn : (seF a f).lookup x = none := lookup_none.mpr (by
      rw [seF_keys]
      have := ho.nd
      rw [e, List.nodup_append] at this
      exact fun hm => this.2.2 x hm x List.mem_cons_self rfl)
    have A : At (m ++ [hC ss od lg (xs ++ [sD (seF a f) []]) st]) m.length ss od lg xs (seF a f) [] st := get_new
    have sl := L_seal_ok (j := j) A (by omega) (by omega) hW hs ho (ok_seF ho hf e) (ho.nm x hx).2.2 (hf x hx) hx hn
    have e2 : seF a f ++ [(x, f x)] = seF (a ++ [x]) f := by simp [seF]
    rw [set_new, e2] at sl
    have w := und_of_WM hW A
    rw [List.length_append] at w
    have W2 : WM (m ++ [hC ss od lg (xs ++ [sD (seF a f) []] ++ [sD (seF (a ++ [x]) f) []]) (st ++ [sealT x (f x)])]) := hWm.app (und_hC (unds_ext w.1 (by simp [unds_tv])) (unds_ext w.2 (by simp)))
    obtain ⟨xs', st', z', r1, r2, r3, r4⟩ := house_loop (j := j) hWm hs ho hod hf hq hse b (a ++ [x]) (xs ++ [sD (seF a f) []]) (st ++ [sealT x (f x)]) (some (.str x)) (by rw [e]; simp) (by simp; omega) (by simp; omega) W2
    refine ⟨xs', st', z', ?_, r2, r3, r4⟩
    rw [List.map_cons, forL_nx (e1 := [some (.lst (ss.map .int)), some (.lst (od.map .str)), some (.lst (lg.map .str)), some (.ref q), some (.ref m.length), some (.str x)]) (m1 := m ++ [hC ss od lg (xs ++ [sD (seF a f) []] ++ [sD (seF (a ++ [x]) f) []]) (st ++ [sealT x (f x)])])]
    · exact r1
    · have vq : ∀ c : MO, vw (m ++ [c]) (.ref q) = .dic .k (kv se0) := fun c => k_vw_refd (get_app hq)
      have sq : subP (.dic .k (kv se0)) (.str x) = some (oD (f x)) := by
        show (getP .k (kv se0) (.str x)).bind id = _
        rw [get_kv, hse x hx]
        rfl
      have v := vw_h A
      generalize hC ss od lg (xs ++ [sD (seF a f) []]) st = c1 at sl v ⊢
      generalize hC ss od lg (xs ++ [sD (seF a f) []] ++ [sD (seF (a ++ [x]) f) []]) (st ++ [sealT x (f x)]) = c2 at sl ⊢
      simp [v, vq, sq, sl]
theorem L_law_house {j : Nat} (hWm : WM m) (hs : VN ss) (ho : OK_ od) (hod : od.length ≤ 10) (hg : LG od lg) (hf : ∀ x ∈ od, VO ss (f x)) (hq : m[q]? = some (.dic .k (kv se0))) (hse : ∀ x ∈ od, se0.lookup x = some (f x)) :
    ∃ xs st, xs.length ≤ 10 ∧ st.length ≤ 10 ∧ WM (m ++ [hC ss od lg (xs ++ [sD (seF od f) []]) st]) ∧ callL tab (xnT tb) (j + 7) "" "_law_house" [.lst (ss.map .int), .lst (od.map .str), .lst (lg.map .str), .ref q] m = .ok (.ref m.length) (m ++ [hC ss od lg (xs ++ [sD (seF od f) []]) st]) := by
  have gm := L_make (j := j + 4) (m := m) hs hWm
  have mk := L_mkHouse (j := j + 3) (m := m) (ss := ss) ho hg hWm
  have W1 : WM (m ++ [hC ss od lg ([] ++ [sD (seF [] f) []]) []]) := hWm.app (und_hC (by simp [unds_tv, seF]) (by simp))
  obtain ⟨xs, st, z', r1, r2, r3, r4⟩ := house_loop (j := j) (lg := lg) hWm hs.1 ho hod hf hq hse od [] [] [] none rfl (by simp) (by simp) W1
  refine ⟨xs, st, by omega, by omega, r4, ?_⟩
  rw [u_law_house rfl]
  unfold b_law_house
  have r1' : forL (forB (glL tab (xnT tb) (j + 6)) (xnT tb) (.one 5) slB) (od.map .str) [some (.lst (ss.map .int)), some (.lst (od.map .str)), some (.lst (lg.map .str)), some (.ref q), some (.ref m.length), none] (m ++ [hC ss od lg [sD [] []] []]) = _ := r1
  generalize hC ss od lg [sD [] []] [] = c1 at mk r1' ⊢
  have hfin : ∀ c, fin m.length (.ref m.length) (m ++ [c]) = (.ref m.length, m ++ [c]) := fun c => fin_new rfl
  generalize hC ss od lg (xs ++ [sD (seF od f) []]) st = c2 at r1' ⊢
  rw [ss_nx (e1 := [some (.lst (ss.map .int)), some (.lst (od.map .str)), some (.lst (lg.map .str)), some (.ref q), some (.ref m.length), none]) (m1 := m ++ [c1]) (by simp [e0, gm, mk])]
  rw [ss_nx (e1 := [some (.lst (ss.map .int)), some (.lst (od.map .str)), some (.lst (lg.map .str)), some (.ref q), some (.ref m.length), z']) (m1 := m ++ [c2]) (by simp [r1'])]
  simp [hfin]
/-! ### turns -/
structure Tk (od : List Str) (tn : Tn) : Prop where
  nm : tn.map (·.1) = od.take tn.length
  le : tn.length ≤ od.length
  kd : ∀ p ∈ tn, p.2 = sh ∨ p.2 = rf
theorem Tk.ok {tn : Tn} (k : Tk od tn) (ho : OK_ od) (hf : ∀ x ∈ od, VO ss (f x)) : Ok ss od (seF od f) tn := by
  have h := ok_seF (a := od) (b := []) ho hf (by simp)
  refine ⟨h.vo, h.nm, h.nd, k.le, fun p hp => ⟨k.kd p hp, ?_⟩, fun _ => by simp [seF]⟩
  have : p.1 ∈ tn.map (·.1) := List.mem_map.mpr ⟨p, hp, rfl⟩
  rw [k.nm] at this
  exact List.mem_of_mem_take this
theorem Tk.pre {a b : Tn} (k : Tk od (a ++ b)) : Tk od a := by
  refine ⟨?_, by have := k.le; simp at this; omega, fun p hp => k.kd p (List.mem_append_left _ hp)⟩
  have h := congrArg (List.take a.length) k.nm
  rw [List.map_append, List.take_append_of_le_length (by simp), List.take_take] at h
  have e : min a.length (a ++ b).length = a.length := by simp
  rw [e] at h
  have e2 : (a.map (·.1)).take a.length = a.map (·.1) := List.take_of_length_le (by simp)
  rw [e2] at h
  exact h
theorem Tk.at_ {a b : Tn} {x kd : Str} (k : Tk od (a ++ (x, kd) :: b)) : od[a.length]? = some x := by
  have h := congrArg (fun l => l[a.length]?) k.nm
  rw [List.map_append, List.getElem?_append_right (by simp)] at h
  simp at h
  exact h.symm
abbrev ttB : Ss := (.cons (.ifs (.cmp .Eq (.loc 8) (.con (.str (Str.ofString "show")))) (.cons (.expr (.meth "House" "show" (.loc 6) (.one (.loc 7) .nil) [] []))
    .nil) (.cons (.expr (.meth "House" "refuse" (.loc 6) (.one (.loc 7) .nil) [] []))
    .nil))
    .nil)
theorem after_loop {j : Nat} {x4 x5 : D} (hWm : WM m) (hs : VS ss) (ho : OK_ od) (hod : od.length ≤ 10) (hf : ∀ x ∈ od, VO ss (f x)) :
    ∀ (b a : Tn) (xs st : List D) (z7 z8 : Option D), Tk od (a ++ b) → xs.length ≤ 10 + a.length → st.length ≤ 10 + a.length → WM (m ++ [hC ss od lg (xs ++ [sD (seF od f) a]) st]) →
    ∃ xs' st' z7' z8', forL (forB (glL tab (xnT tb) (j + 6)) (xnT tb) (.many [7, 8]) ttB) (tv b) [some (.lst (ss.map .int)), some (.lst (od.map .str)), some (.lst (lg.map .str)), some (.ref q), some x4, some x5, some (.ref m.length), z7, z8] (m ++ [hC ss od lg (xs ++ [sD (seF od f) a]) st]) =
      .nx [some (.lst (ss.map .int)), some (.lst (od.map .str)), some (.lst (lg.map .str)), some (.ref q), some x4, some x5, some (.ref m.length), z7', z8'] (m ++ [hC ss od lg (xs' ++ [sD (seF od f) (a ++ b)]) st']) ∧ WM (m ++ [hC ss od lg (xs' ++ [sD (seF od f) (a ++ b)]) st'])
  | [], a, xs, st, z7, z8, k, h1, h2, hW => ⟨xs, st, z7, z8, by rw [List.append_nil]; rfl, by rw [List.append_nil]; exact hW⟩
  | (x, kd) :: b, a, xs, st, z7, z8, k, h1, h2, hW => by
    have hle := k.le
    simp at hle
    have hx := k.at_
    have hxm : x ∈ od := List.mem_of_getElem? hx
    have A : At (m ++ [hC ss od lg (xs ++ [sD (seF od f) a]) st]) m.length ss od lg xs (seF od f) a st := get_new
    have ok1 := (k.pre).ok (ss := ss) (f := f) ho hf
    have hlen : (seF od f).length = od.length := by simp [seF]
    have ht : trn od (seF od f) a x = none := by
      unfold trn
      rw [if_pos hxm, if_neg (by omega), if_pos (by rw [hx]; rfl)]
    have w := und_of_WM hW A
    rw [List.length_append] at w
    have hk : kd = sh ∨ kd = rf := k.kd (x, kd) (by simp)
    have W2 : WM (m ++ [hC ss od lg (xs ++ [sD (seF od f) a] ++ [sD (seF od f) (a ++ [(x, kd)])]) (st ++ [turnT kd x])]) := hWm.app (und_hC (unds_ext w.1 (by simp [unds_tv])) (unds_ext w.2 (by simp)))
    have e3 : a ++ [(x, kd)] ++ b = a ++ (x, kd) :: b := by simp
    obtain ⟨xs', st', z7', z8', r1, r2⟩ := after_loop (j := j) (x4 := x4) (x5 := x5) hWm hs ho hod hf b (a ++ [(x, kd)]) (xs ++ [sD (seF od f) a]) (st ++ [turnT kd x]) (some (.str x)) (some (.str kd)) (by rw [e3]; exact k) (by simp; omega) (by simp; omega) W2
    rw [e3] at r1 r2
    refine ⟨xs', st', z7', z8', ?_, r2⟩
    show forL _ (D.tup [.str x, .str kd] :: tv b) _ _ = _
    rw [forL_nx (e1 := [some (.lst (ss.map .int)), some (.lst (od.map .str)), some (.lst (lg.map .str)), some (.ref q), some x4, some x5, some (.ref m.length), some (.str x), some (.str kd)]) (m1 := m ++ [hC ss od lg (xs ++ [sD (seF od f) a] ++ [sD (seF od f) (a ++ [(x, kd)])]) (st ++ [turnT kd x])])]
    · exact r1
    · have hsame : eqC (.str sh) (.str (Str.ofString "show")) = some true := by rw [eqC_s (by decide +kernel) (by decide +kernel)]; simp
      have hdiff : eqC (.str rf) (.str (Str.ofString "show")) = some false := by rw [eqC_s (by decide +kernel) (by decide +kernel)]; decide +kernel
      have v := vw_h A
      rcases hk with e | e
      · subst e
        have c1 := L_show (j := j) A (by omega) (by omega) hW hs ho ok1 (ho.nm x hxm).2.2
        rw [ht] at c1
        dsimp only at c1
        rw [set_new] at c1
        generalize hC ss od lg (xs ++ [sD (seF od f) a]) st = d1 at c1 v ⊢
        generalize hC ss od lg (xs ++ [sD (seF od f) a] ++ [sD (seF od f) (a ++ [(x, sh)])]) (st ++ [turnT sh x]) = d2 at c1 ⊢
        simp [bindT, setAll, hsame, v, c1]
      · subst e
        have c1 := L_refuse (j := j) A (by omega) (by omega) hW hs ho ok1 (ho.nm x hxm).2.2
        rw [ht] at c1
        dsimp only at c1
        rw [set_new] at c1
        generalize hC ss od lg (xs ++ [sD (seF od f) a]) st = d1 at c1 v ⊢
        generalize hC ss od lg (xs ++ [sD (seF od f) a] ++ [sD (seF od f) (a ++ [(x, rf)])]) (st ++ [turnT rf x]) = d2 at c1 ⊢
        simp [bindT, setAll, hdiff, v, c1]
/-- the hope behind some turns -/
abbrev hpD (ss : List Int) (ev : List O) (lg od : List Str) (f : Str → O) (tn : Tn) : D := ratD (hopeC ss ev lg f (sum ss (openL (seF od f) tn)) (od.drop tn.length)) (outs ss).length
theorem L_after {j : Nat} {tn : Tn} {ev : List O} (hWm : WM m) (hs : VN ss) (ho : OK_ od) (hod : od.length ≤ 10) (hg : LG od lg) (hf : ∀ x ∈ od, VO ss (f x)) (hq : m[q]? = some (.dic .k (kv se0))) (hse : ∀ x ∈ od, se0.lookup x = some (f x)) (he : ∀ o ∈ ev, VO ss o) (hl2 : ev.length ≤ 1000000) (k : Tk od tn) :
    callL tab (xnT tb) (j + 10) "" "_law_after" [.lst (ss.map .int), .lst (od.map .str), .lst (lg.map .str), .ref q, .lst (tv tn), .lst (ev.map oD)] m = .ok (hpD ss ev lg od f tn) m := by
  obtain ⟨xs, st, h1, h2, W1, t1⟩ := L_law_house (j := j + 2) hWm hs ho hod hg hf hq hse
  obtain ⟨xs', st', z7, z8, t2, W2⟩ := after_loop (j := j + 3) (q := q) (x4 := .lst (tv tn)) (x5 := .lst (ev.map oD)) hWm hs.1 ho hod hf tn [] xs st none none (by simpa using k) (by simpa using h1) (by simpa using h2) W1
  rw [List.nil_append] at t2 W2
  have A : At (m ++ [hC ss od lg (xs' ++ [sD (seF od f) tn]) st']) m.length ss od lg xs' (seF od f) tn st' := get_new
  have t3 := L_hope (j := j) A W2 hs ho hod hg hf he hl2 (k.ok ho hf)
  have v := vw_h A
  rw [u_law_after rfl]
  unfold b_law_after
  unfold hpD
  have hfin : ∀ r c, D.und m.length r = true → fin m.length r (m ++ [c]) = (r, m) := fun r c hr => fin_plain rfl hWm hr
  have hu : D.und m.length (ratD (hopeC ss ev lg f (sum ss (openL (seF od f) tn)) (od.drop tn.length)) (outs ss).length) = true := by simp
  generalize ratD (hopeC ss ev lg f (sum ss (openL (seF od f) tn)) (od.drop tn.length)) (outs ss).length = res at t3 hu ⊢
  generalize hC ss od lg (xs ++ [sD (seF od f) []]) st = c1 at t1 t2
  generalize hC ss od lg (xs' ++ [sD (seF od f) tn]) st' = c2 at t2 t3 v
  rw [ss_nx (e1 := [some (.lst (ss.map .int)), some (.lst (od.map .str)), some (.lst (lg.map .str)), some (.ref q), some (.lst (tv tn)), some (.lst (ev.map oD)), some (.ref m.length), none, none]) (m1 := m ++ [c1]) (by simp [e0, t1])]
  rw [ss_nx (e1 := [some (.lst (ss.map .int)), some (.lst (od.map .str)), some (.lst (lg.map .str)), some (.ref q), some (.lst (tv tn)), some (.lst (ev.map oD)), some (.ref m.length), z7, z8]) (m1 := m ++ [c2]) (by simp [t2])]
  simp [v, t3, hfin _ _ hu]
end
end K91

/-! K91L -/
set_option Elab.async false
set_option linter.all false
set_option maxRecDepth 100000
set_option maxHeartbeats 1000000
namespace K91
open PySem L2 PyProof.Rows IP Gm
theorem allB_iff' {m : Mem} (h : WM m) : ∀ c ∈ m, c.und m.length = true := IP.allB_iff.mp h
def updS (se : Se) (x : Str) (o : O) : Se := se.map fun p => if p.1 = x then (p.1, o) else p
theorem look_updS {x y : Str} {o : O} : ∀ {se : Se}, (se.lookup x).isSome = true → (updS se x o).lookup y = if y = x then some o else se.lookup y
  | [], h => by cases h
  | (k, v) :: se, h => by
    unfold updS
    rw [List.map_cons, List.lookup_cons, List.lookup_cons]
    rw [List.lookup_cons] at h
    by_cases a : k = x
    · subst a
      rw [if_pos rfl]
      by_cases b : y = k
      · subst b
        simp
      · have hb : (y == k) = false := by simpa using b
        simp only [hb, if_neg b]
        by_cases hs : (se.lookup k).isSome = true
        · have := look_updS (y := y) (o := o) hs
          rw [if_neg b] at this
          exact this
        · have hn : se.lookup k = none := by
            cases e : se.lookup k with
            | none => rfl
            | some z => rw [e] at hs; exact absurd rfl hs
          have hm := lookup_none.mp hn
          have e : se.map (fun p => if p.1 = k then (p.1, o) else p) = se := by
            conv => rhs; rw [← List.map_id' se]
            refine List.map_congr_left fun p hp => ?_
            have hz : ¬ (p.1 = k) := fun z => hm (by rw [← z]; exact List.mem_map.mpr ⟨p, hp, rfl⟩)
            rw [if_neg hz]
          rw [e]
    · have ha : (x == k) = false := by simpa using fun z => a z.symm
      rw [if_neg a]
      rw [ha] at h
      have := look_updS (y := y) (o := o) h
      by_cases b : y = k
      · subst b
        simp [a]
      · have hb : (y == k) = false := by simpa using b
        simp only [hb]
        exact this
theorem put_old {x : Str} {o : O} {se : Se} (h : (se.lookup x).isSome = true) : putP .k (kv se) (.str x) (oD o) = some (kv (updS se x o)) := by
  have h2 : ((kv se).any fun p => decide (keyD p.1 = some (Sum.inr x))) = true := by
    cases e : se.lookup x with
    | none => rw [e] at h; cases h
    | some z =>
      rw [List.any_eq_true]
      exact ⟨(.str x, oD z), List.mem_map.mpr ⟨(x, z), PySem.mem_of_lookup e, rfl⟩, by simp [keyD]⟩
  show some (if ((kv se).any fun p => decide (keyD p.1 = some (Sum.inr x))) = true then (kv se).map (fun p => if keyD p.1 = some (Sum.inr x) then (p.1, oD o) else p) else _) = _
  rw [if_pos h2]
  unfold kv updS
  rw [List.map_map, List.map_map]
  congr 1
  refine List.map_congr_left fun p _ => ?_
  simp only [Function.comp, keyD]
  by_cases q : p.1 = x
  · simp [q]
  · simp [q]
theorem open_snoc_sh {se : Se} {tn : Tn} {x : Str} {o : O} (h : se.lookup x = some o) : openL se (tn ++ [(x, sh)]) = openL se tn ++ [o] := by
  unfold openL
  rw [List.filter_append, List.map_append]
  simp [h]
theorem open_snoc_rf {se : Se} {tn : Tn} {x : Str} : openL se (tn ++ [(x, rf)]) = openL se tn := by
  unfold openL
  have e : decide (rf = sh) = false := by decide +kernel
  rw [List.filter_append, List.map_append]
  simp [e]
theorem open_congr {od : List Str} {f g : Str → O} {tn : Tn} (h : ∀ p ∈ tn, p.1 ∈ od) (hfg : ∀ p ∈ tn, f p.1 = g p.1) : openL (seF od f) tn = openL (seF od g) tn := by
  unfold openL
  refine List.map_congr_left fun p hp => ?_
  have hp := (List.mem_filter.mp hp).1
  rw [look_seF (h p hp), look_seF (h p hp), hfg p hp]
section
variable {j q : Nat} {m : Mem} {ss : List Int} {od lg : List Str} {f : Str → O} {se0 : Se} {tn : Tn} {ev : List O} {x : Str}
theorem Tk.snoc {kd : Str} (k : Tk od tn) (h : od[tn.length]? = some x) (hk : kd = sh ∨ kd = rf) : Tk od (tn ++ [(x, kd)]) := by
  have hl := (List.getElem?_eq_some_iff.mp h).1
  refine ⟨?_, by simp; omega, fun p hp => ?_⟩
  · rw [List.map_append, k.nm, List.length_append]
    show _ = od.take (tn.length + 1)
    rw [List.take_add_one, h]
    rfl
  · rcases List.mem_append.mp hp with e | e
    · exact k.kd p e
    · simp at e
      rw [e]
      exact hk
theorem Tk.sub (k : Tk od tn) : ∀ p ∈ tn, p.1 ∈ od.take tn.length := fun p hp => by
  rw [← k.nm]
  exact List.mem_map.mpr ⟨p, hp, rfl⟩
theorem drop_at (h : od[tn.length]? = some x) : od.drop tn.length = x :: od.drop (tn.length + 1) := by
  obtain ⟨h1, h2⟩ := List.getElem?_eq_some_iff.mp h
  rw [List.drop_eq_getElem_cons h1, h2]
theorem not_before (ho : OK_ od) (h : od[tn.length]? = some x) : x ∉ od.take tn.length ∧ x ∉ od.drop (tn.length + 1) := by
  have nd := ho.nd
  have e : od = od.take tn.length ++ x :: od.drop (tn.length + 1) := by
    rw [← drop_at h, List.take_append_drop]
  rw [e, List.nodup_append] at nd
  exact ⟨fun hm => nd.2.2 x hm x List.mem_cons_self rfl, (List.nodup_cons.mp nd.2.1).1⟩
abbrev pgD (ss : List Int) (od lg : List Str) (q : Nat) : D := .lst [.lst (ss.map .int), .lst (od.map .str), .lst (lg.map .str), .ref q]
theorem step_in (hWm : WM m) (hs : VN ss) (ho : OK_ od) (hod : od.length ≤ 10) (hg : LG od lg) (hf : ∀ x ∈ od, VO ss (f x)) (hq : m[q]? = some (.dic .k (kv se0))) (hse : ∀ x ∈ od, se0.lookup x = some (f x)) (he : ∀ o ∈ ev, VO ss o) (hl2 : ev.length ≤ 1000000) (k : Tk od tn)
    (hx : od[tn.length]? = some x) (hxl : x ∈ lg) : callL tab (xnT tb) (j + 11) "" "_law_step_right" [pgD ss od lg q, .lst (tv tn), .str x, .lst (ev.map oD)] m = .ok (.bl true) m := by
  have hxm := List.mem_of_getElem? hx
  have k1 := k.snoc hx (.inl rfl : sh = sh ∨ sh = rf)
  have k2 := k.snoc hx (.inr rfl : rf = sh ∨ rf = rf)
  have t0 := L_after (j := j) hWm hs ho hod hg hf hq hse he hl2 k
  have t1 := L_after (j := j) hWm hs ho hod hg hf hq hse he hl2 k1
  have t2 := L_after (j := j) hWm hs ho hod hg hf hq hse he hl2 k2
  have e1 : tv tn ++ [D.tup [.str x, .str (Str.ofString "show")]] = tv (tn ++ [(x, sh)]) := by simp [tv]
  have e2 : tv tn ++ [D.tup [.str x, .str (Str.ofString "refuse")]] = tv (tn ++ [(x, rf)]) := by simp [tv]
  have hv := sum_vo hs.1 (openL (seF od f) tn)
  have hc := hopeC_in (ev := ev) (lg := lg) (f := f) (here := sum ss (openL (seF od f) tn)) (x := x) (r := od.drop (tn.length + 1)) hs.1 hv (hf x hxm) hxl
  unfold hpD at t0 t1 t2
  rw [drop_at hx, hc] at t0
  rw [open_snoc_sh (look_seF hxm), sum_snoc] at t1
  rw [open_snoc_rf] at t2
  have n1 : (tn ++ [(x, sh)]).length = tn.length + 1 := by simp
  have n2 : (tn ++ [(x, rf)]).length = tn.length + 1 := by simp
  rw [n1] at t1
  rw [n2] at t2
  have b1 := hopeC_le (ss := ss) (ev := ev) (lg := lg) (f := f) (here := add ss (sum ss (openL (seF od f) tn)) (f x)) (left := od.drop (tn.length + 1))
  have b2 := hopeC_le (ss := ss) (ev := ev) (lg := lg) (f := f) (here := sum ss (openL (seF od f) tn)) (left := od.drop (tn.length + 1))
  generalize hopeC ss ev lg f (add ss (sum ss (openL (seF od f) tn)) (f x)) (od.drop (tn.length + 1)) = c1 at t0 t1 b1
  generalize hopeC ss ev lg f (sum ss (openL (seF od f) tn)) (od.drop (tn.length + 1)) = c2 at t0 t2 b2
  have hpos := outs_pos hs.1
  have hN := hs.2
  generalize (outs ss).length = N at t0 t1 t2 b1 b2 hpos hN
  have lt := lt_part (j := j + 6) (m := m) (x := c1) (y := c2) hpos hN (by omega) (by omega)
  have hin : inB (.str x) (lg.map .str) = some true := by
    rw [inB_s x lg (ho.nm x hxm).2.2 fun y hy => (ho.nm y (hg.sub y hy)).2.2]
    simp [hxl]
  have hl : lenOk (tn.length + 1) = true := k_lenOk_of (by have := k.le; omega)
  rw [u_law_step_right rfl]
  unfold b_law_step_right
  by_cases z : c1 < c2
  · rw [if_pos z] at t0
    rw [decide_eq_true z] at lt
    have eq := eq_part (j := j + 7) (m := m) (x := c2) (N := N)
    unfold ratD at t0 t1 t2 lt eq
    simp [e0, bindT, setAll, t0, t1, t2, e1, e2, hin, hl, lt, eq, has_lt, has_eq]
  · rw [if_neg z] at t0
    rw [decide_eq_false z] at lt
    have eq := eq_part (j := j + 7) (m := m) (x := c1) (N := N)
    unfold ratD at t0 t1 t2 lt eq
    simp [e0, bindT, setAll, t0, t1, t2, e1, e2, hin, hl, lt, eq, has_lt, has_eq]
def updF (f : Str → O) (x : Str) (o : O) : Str → O := fun y => if y = x then o else f y
abbrev rwB : Ss := (.cons (.set 13 (.seq .dict (.loc 7)))
    (.cons (.sub (.loc 13) (.loc 2) (.loc 12))
    (.cons (.app (.loc 11) (.call "" "_law_after" (.one (.loc 4) (.one (.loc 5) (.one (.loc 6) (.one (.loc 13) (.one (.bin .Add (.loc 1) (.lst false (.one (.tup (.one (.loc 2) (.one (.con (.str (Str.ofString "show"))) .nil))) .nil))) (.one (.loc 3) .nil)))))) [] []))
    .nil)))
theorem rows_loop {C : O → Nat} {x8 : D} (hs : VN ss) (ho : OK_ od) (hod : od.length ≤ 10) (hg : LG od lg) (hf : ∀ x ∈ od, VO ss (f x)) (hq : m[q]? = some (.dic .k (kv se0))) (hse : ∀ x ∈ od, se0.lookup x = some (f x)) (he : ∀ o ∈ ev, VO ss o) (hl2 : ev.length ≤ 1000000) (k : Tk od tn)
    (hx : od[tn.length]? = some x) (hsl : se0.length ≤ 1000) (hC : ∀ o, VO ss o → C o = hopeC ss ev lg (updF f x o) (add ss (sum ss (openL (seF od f) tn)) o) (od.drop (tn.length + 1))) :
    ∀ (os ds : List O) (G : Mem) (z12 z13 : Option D), (∀ o ∈ os, VO ss o) → ds.length + os.length ≤ 1000 → WM (m ++ .lst (ds.map fun o => ratD (C o) (outs ss).length) :: G) →
    ∃ G' z12' z13', forL (forB (glL tab (xnT tb) (j + 10)) (xnT tb) (.one 12) rwB) (os.map oD) [some (pgD ss od lg q), some (.lst (tv tn)), some (.str x), some (.lst (ev.map oD)), some (.lst (ss.map .int)), some (.lst (od.map .str)), some (.lst (lg.map .str)), some (.ref q), some x8, none, none, some (.ref m.length), z12, z13] (m ++ .lst (ds.map fun o => ratD (C o) (outs ss).length) :: G) =
      .nx [some (pgD ss od lg q), some (.lst (tv tn)), some (.str x), some (.lst (ev.map oD)), some (.lst (ss.map .int)), some (.lst (od.map .str)), some (.lst (lg.map .str)), some (.ref q), some x8, none, none, some (.ref m.length), z12', z13'] (m ++ .lst ((ds ++ os).map fun o => ratD (C o) (outs ss).length) :: G') ∧ WM (m ++ .lst ((ds ++ os).map fun o => ratD (C o) (outs ss).length) :: G')
  | [], ds, G, z12, z13, _, _, hW => ⟨G, z12, z13, by rw [List.append_nil]; rfl, by rw [List.append_nil]; exact hW⟩
  | o :: os, ds, G, z12, z13, hv, hl, hW => by
    have hxm := List.mem_of_getElem? hx
    have hvo := hv o List.mem_cons_self
    have hso : (se0.lookup x).isSome = true := by rw [hse x hxm]; rfl
    obtain ⟨nb1, nb2⟩ := not_before ho hx
    have hf2 : ∀ y ∈ od, VO ss (updF f x o y) := fun y hy => by
      unfold updF
      split
      · exact hvo
      · exact hf y hy
    have hse2 : ∀ y ∈ od, (updS se0 x o).lookup y = some (updF f x o y) := fun y hy => by
      rw [look_updS hso]
      unfold updF
      split
      · rfl
      · exact hse y hy
    have k1 := k.snoc hx (.inl rfl : sh = sh ∨ sh = rf)
    generalize hR : (ds.map fun o => ratD (C o) (outs ss).length) = R at hW
    have hRl : R.length = ds.length := by rw [← hR]; simp
    generalize hM : m ++ MO.lst R :: G = M at hW
    have q1 : M[q]? = some (.dic .k (kv se0)) := by rw [← hM]; exact get_app hq
    have r1 : M[m.length]? = some (.lst R) := by rw [← hM]; simp
    have hml : m.length < M.length := by rw [← hM]; simp
    have W2 : WM (M ++ [MO.dic .k (kv (updS se0 x o))]) := hW.app (by show D.undK _ _ = true; exact undK_kv)
    have t := L_after (j := j) (q := M.length) (m := M ++ [MO.dic .k (kv (updS se0 x o))]) (tn := tn ++ [(x, sh)]) (ev := ev) W2 hs ho hod hg hf2 get_new hse2 he hl2 k1
    have e1 : tv tn ++ [D.tup [.str x, .str (Str.ofString "show")]] = tv (tn ++ [(x, sh)]) := by simp [tv]
    unfold hpD at t
    have ux : updF f x o x = o := by unfold updF; simp
    have hsubs := k.sub
    have hop : openL (seF od (updF f x o)) tn = openL (seF od f) tn := open_congr (fun p hp => List.mem_of_mem_take (hsubs p hp)) fun p hp => by
      unfold updF
      rw [if_neg fun e => nb1 (by rw [← e]; exact hsubs p hp)]
    have n1 : (tn ++ [(x, sh)]).length = tn.length + 1 := by simp
    rw [open_snoc_sh (look_seF hxm), ux, sum_snoc, hop, n1, ← hC o hvo] at t
    have hlk : lenOk (tn.length + 1) = true := k_lenOk_of (by have := k.le; omega)
    have hz : R.length < sizeLine := by
      have : (1000000 : Nat) ≤ sizeLine := by decide
      simp at hl
      omega
    have hz2 : se0.length < sizeLine := by
      have : (1000000 : Nat) ≤ sizeLine := by decide
      omega
    have hR2 : R ++ [ratD (C o) (outs ss).length] = (ds ++ [o]).map fun o => ratD (C o) (outs ss).length := by rw [← hR]; simp
    have hu : D.und (M.length + 1) (ratD (C o) (outs ss).length) = true := by simp
    have W3 : WM ((M ++ [MO.dic .k (kv (updS se0 x o))]).set m.length (.lst (R ++ [ratD (C o) (outs ss).length]))) := by
      refine W2.set ?_
      have hr := (allB_iff' W2) _ (List.mem_of_getElem? (get_app (cs := [MO.dic .k (kv (updS se0 x o))]) r1))
      have hr : D.unds (M ++ [MO.dic .k (kv (updS se0 x o))]).length R = true := hr
      exact unds_ext hr (by simp)
    have hM3 : (M ++ [MO.dic .k (kv (updS se0 x o))]).set m.length (.lst (R ++ [ratD (C o) (outs ss).length])) = m ++ .lst ((ds ++ [o]).map fun o => ratD (C o) (outs ss).length) :: (G ++ [MO.dic .k (kv (updS se0 x o))]) := by
      rw [hR2, ← hM]
      simp
    rw [hM3] at W3
    obtain ⟨G', z12', z13', s1, s2⟩ := rows_loop (x8 := x8) hs ho hod hg hf hq hse he hl2 k hx hsl hC os (ds ++ [o]) (G ++ [MO.dic .k (kv (updS se0 x o))]) (some (oD o)) (some (.ref M.length)) (fun y hy => hv y (List.mem_cons_of_mem _ hy)) (by simp at hl ⊢; omega) W3
    have e5 : ds ++ [o] ++ os = ds ++ o :: os := by simp
    rw [e5] at s1 s2
    refine ⟨G', z12', z13', ?_, s2⟩
    rw [List.map_cons, forL_nx]
    · exact s1
    · rw [← hM3]
      have vq : vw M (.ref q) = .dic .k (kv se0) := k_vw_refd q1
      have po := put_old (o := o) hso
      have g1 : (M ++ [MO.dic .k (kv se0)])[M.length]? = some (.dic .k (kv se0)) := get_new
      have s1' : ∀ c : MO, (M ++ [MO.dic .k (kv se0)]).set M.length c = M ++ [c] := fun c => set_new
      have r2 : ∀ c : MO, (M ++ [c])[m.length]? = some (.lst R) := fun c => get_app r1
      generalize ratD (C o) (outs ss).length = rd at t ⊢
      generalize updS se0 x o = seN at t po ⊢
      simp [vq, g1, s1', po, hz2, hlk, e1, t, r2, hz, isL]
end
end K91

/-! K91M -/
set_option Elab.async false
set_option linter.all false
set_option maxRecDepth 100000
set_option maxHeartbeats 1000000
namespace K91
open PySem L2 PyProof.Rows IP Gm
section
variable {j q : Nat} {m : Mem} {ss : List Int} {od lg : List Str} {f : Str → O} {se0 : Se} {tn : Tn} {ev : List O} {x : Str}
theorem step_out (hWm : WM m) (hs : VN ss) (ho : OK_ od) (hod : od.length ≤ 10) (hg : LG od lg) (hf : ∀ x ∈ od, VO ss (f x)) (hq : m[q]? = some (.dic .k (kv se0))) (hse : ∀ x ∈ od, se0.lookup x = some (f x)) (he : ∀ o ∈ ev, VO ss o) (hl2 : ev.length ≤ 1000000) (k : Tk od tn)
    (hx : od[tn.length]? = some x) (hsl : se0.length ≤ 1000) (hxl : x ∉ lg) : callL tab (xnT tb) (j + 11) "" "_law_step_right" [pgD ss od lg q, .lst (tv tn), .str x, .lst (ev.map oD)] m = .ok (.bl true) m := by
  have hxm := List.mem_of_getElem? hx
  have t0 := L_after (j := j) hWm hs ho hod hg hf hq hse he hl2 k
  have hv := sum_vo hs.1 (openL (seF od f) tn)
  have hpos := outs_pos hs.1
  have hN := hs.2
  unfold hpD at t0
  rw [drop_at hx] at t0
  let C : O → Nat := fun o => hopeC ss ev lg (updF f x o) (add ss (sum ss (openL (seF od f) tn)) o) (od.drop (tn.length + 1))
  have hout := hopeC_out (ev := ev) (lg := lg) (f := f) (g := updF f x) (here := sum ss (openL (seF od f) tn)) (x := x) (r := od.drop (tn.length + 1)) hs.1 hv hxl (fun o y hy => by
    unfold updF
    rw [if_neg fun e => (not_before ho hx).2 (by rw [← e]; exact hy)])
  have hle0 := hopeC_le (ss := ss) (ev := ev) (lg := lg) (f := f) (here := sum ss (openL (seF od f) tn)) (left := x :: od.drop (tn.length + 1))
  generalize hopeC ss ev lg f (sum ss (openL (seF od f) tn)) (x :: od.drop (tn.length + 1)) = c0 at t0 hout hle0
  have hCle : ∀ c ∈ (outs ss).map C, c ≤ (outs ss).length := fun c hc => by
    obtain ⟨o, _, rfl⟩ := List.mem_map.mp hc
    exact hopeC_le
  have W0 : WM (m ++ [.lst []]) := hWm.app (by show D.unds _ _ = true; simp)
  obtain ⟨G', z12, z13, r1, W1⟩ := rows_loop (j := j) (C := C) (x8 := ratD c0 (outs ss).length) hs ho hod hg hf hq hse he hl2 k hx hsl (fun o _ => rfl) (outs ss) [] [] none none (fun o h => mem_outs.mp h) (by simpa using hN) W0
  rw [List.nil_append] at r1 W1
  have hgl : (m ++ MO.lst ((outs ss).map fun o => ratD (C o) (outs ss).length) :: G')[m.length]? = some (.lst ((outs ss).map fun o => ratD (C o) (outs ss).length)) := by simp
  have hcs : ((outs ss).map C).map (fun c => ratD c (outs ss).length) = (outs ss).map fun o => ratD (C o) (outs ss).length := by rw [List.map_map]; rfl
  have tt := L_tot (j := j + 5) (N := (outs ss).length) (cs := (outs ss).map C) (nd := .ref m.length) (m := m ++ MO.lst ((outs ss).map fun o => ratD (C o) (outs ss).length) :: G') (by rw [hcs]; exact Wks.ref hgl) hpos hN W1 hCle (by simpa using hN)
  have hs2 : ((outs ss).map C).sum = (outs ss).length * c0 := hout.symm
  rw [hs2] at tt
  have mp := mul_part (j := j + 6) (x := c0) hpos hN (by omega) W1
  have ep := eq_part (j := j + 7) (x := (outs ss).length * c0) (N := (outs ss).length) (m := m ++ MO.lst ((outs ss).map fun o => ratD (C o) (outs ss).length) :: G')
  have hlen : ((outs ss).map fun o => ratD (C o) (outs ss).length).length = (outs ss).length := by simp
  have la := L_law_all (j := j + 9) (m := m ++ [.lst []]) hs
  have hfin : fin m.length (.bl true) (m ++ MO.lst ((outs ss).map fun o => ratD (C o) (outs ss).length) :: G') = (.bl true, m) := fin_plain rfl hWm (by simp)
  have hin : inB (.str x) (lg.map .str) = some false := by
    rw [inB_s x lg (ho.nm x hxm).2.2 fun y hy => (ho.nm y (hg.sub y hy)).2.2]
    simp [hxl]
  have r1' : forL (forB (glL tab (xnT tb) (j + 10)) (xnT tb) (.one 12) rwB) ((outs ss).map oD) [some (pgD ss od lg q), some (.lst (tv tn)), some (.str x), some (.lst (ev.map oD)), some (.lst (ss.map .int)), some (.lst (od.map .str)), some (.lst (lg.map .str)), some (.ref q), some (ratD c0 (outs ss).length), none, none, some (.ref m.length), none, none] (m ++ [.lst []]) = _ := r1
  generalize m ++ MO.lst ((outs ss).map fun o => ratD (C o) (outs ss).length) :: G' = M' at r1' tt mp ep hfin hgl
  generalize ((outs ss).map fun o => ratD (C o) (outs ss).length) = RR at hgl hlen
  have u1 : biLen (glL tab (xnT tb) (j + 10)) [.ref m.length] M' = .ok (.int (outs ss).length) M' := by
    unfold biLen
    dsimp only
    rw [k_vw_ref hgl]
    simp [hlen]
  generalize (outs ss).length = N at t0 tt mp ep u1 r1'
  generalize (outs ss).map oD = OO at la r1'
  rw [u_law_step_right rfl]
  unfold b_law_step_right
  rw [ss_nx (e1 := [some (pgD ss od lg q), some (.lst (tv tn)), some (.str x), some (.lst (ev.map oD)), some (.lst (ss.map .int)), some (.lst (od.map .str)), some (.lst (lg.map .str)), some (.ref q), none, none, none, none, none, none]) (m1 := m) (by simp [e0, bindT, setAll])]
  rw [ss_nx (e1 := [some (pgD ss od lg q), some (.lst (tv tn)), some (.str x), some (.lst (ev.map oD)), some (.lst (ss.map .int)), some (.lst (od.map .str)), some (.lst (lg.map .str)), some (.ref q), some (ratD c0 N), none, none, none, none, none]) (m1 := m) (by simp [t0])]
  rw [ss_nx (e1 := [some (pgD ss od lg q), some (.lst (tv tn)), some (.str x), some (.lst (ev.map oD)), some (.lst (ss.map .int)), some (.lst (od.map .str)), some (.lst (lg.map .str)), some (.ref q), some (ratD c0 N), none, none, none, none, none]) (m1 := m) (by simp [hin])]
  rw [ss_nx (e1 := [some (pgD ss od lg q), some (.lst (tv tn)), some (.str x), some (.lst (ev.map oD)), some (.lst (ss.map .int)), some (.lst (od.map .str)), some (.lst (lg.map .str)), some (.ref q), some (ratD c0 N), none, none, some (.ref m.length), none, none]) (m1 := m ++ [.lst []]) (by simp)]
  rw [ss_nx (e1 := [some (pgD ss od lg q), some (.lst (tv tn)), some (.str x), some (.lst (ev.map oD)), some (.lst (ss.map .int)), some (.lst (od.map .str)), some (.lst (lg.map .str)), some (.ref q), some (ratD c0 N), none, none, some (.ref m.length), z12, z13]) (m1 := M') (by simp [la, r1'])]
  generalize N * c0 = p at mp ep tt
  unfold ratD at mp ep tt ⊢
  simp [u1, has_mul, arB, mp, tt, has_eq, ep, hfin]
end
end K91

/-! K91N -/
set_option Elab.async false
set_option linter.all false
set_option maxRecDepth 100000
set_option maxHeartbeats 1000000
namespace K91
open PySem L2 PyProof.Rows IP Gm
def base : List Str := ["kai", "ann", "anna", "bob"].map Str.ofString
theorem base_ok : ∀ k, k < 4 → OK_ (base.take (1 + k)) ∧ (base.take (1 + k)).length ≤ 4 := by
  have : (List.range 4).all (fun k => okO (base.take (1 + k)) && decide ((base.take (1 + k)).length ≤ 4)) = true := by decide +kernel
  intro k hk
  have := List.all_eq_true.mp this k (List.mem_range.mpr hk)
  simp only [Bool.and_eq_true, decide_eq_true_eq] at this
  exact ⟨(okO_ok this.1).1, this.2⟩
theorem L_sizes8 {j : Nat} {m : Mem} {r N : Nat} {x : MO} (hx : m[r]? = some x) (hb : BO (N + 1) x) : ∃ (ss : List Int) (y : MO), VN ss ∧ BO N y ∧ callL tab (xnT tb) (j + 2) "" "_law_sizes" [.ref r, .int 8] m = .ok (.lst (ss.map .int)) (m.set r y) := by
  obtain ⟨d, y, d0, d1, b, t⟩ := L_take (j := j) (n := 8) hx hb (by decide) (by decide)
  obtain ⟨k, rfl⟩ : ∃ k : Nat, d = k := ⟨d.toNat, by omega⟩
  have hk : k < menuS.length := by have : menuS.length = 12 := rfl; omega
  have hm : (menuS.map fun ss => D.lst (ss.map .int))[k]? = some (.lst (menuS[k].map .int)) := by
    rw [List.getElem?_map, List.getElem?_eq_getElem hk]
    rfl
  refine ⟨menuS[k], y, menuS_ok _ (List.getElem_mem hk), b, ?_⟩
  rw [u_law_sizes rfl]
  unfold b_law_sizes
  rw [ss_nx (e1 := [some (.ref r), some (.int 8), some (.lst (menuS.map fun ss => D.lst (ss.map .int)))]) (m1 := m) (by simp [e0, menuS])]
  generalize (menuS.map fun ss => D.lst (ss.map .int)) = L at hm ⊢
  generalize menuS[k] = ss at hm ⊢
  simp [t, k_atI_nat, hm]
section
variable {ns ss : List Int} {od lg : List Str}
abbrev nmB : Ss := (.cons (.sub (.loc 6) (.loc 5) (.call "" "_law_pick" (.one (.loc 1) (.one (.loc 2) .nil)) [] [])) .nil)
abbrev E6 (ns ss : List Int) (od lg : List Str) (z5 : Option D) : Ev := [some (.scr (ns.map .int)), some (.ref 0), some (.lst (ss.map .int)), some (.lst (od.map .str)), some (.lst (lg.map .str)), z5, some (.ref 1), none, none, none, none, none, none, none, none, none, none]
theorem nums_loop {j N : Nat} (hs : VS ss) (ho : OK_ od) (hod : od.length ≤ 10) : ∀ (b a : List Str) (y : MO) (se : Se) (z5 : Option D), od = a ++ b → se.map (·.1) = a → (∀ p ∈ se, VO ss p.2) → BO (N + 20 * b.length) y →
    ∃ se' y' z5', forL (forB (glL tab (xnT tb) (j + 2)) (xnT tb) (.one 5) nmB) (b.map .str) (E6 ns ss od lg z5) [y, .dic .k (kv se)] = .nx (E6 ns ss od lg z5') [y', .dic .k (kv se')] ∧ se'.map (·.1) = od ∧ (∀ p ∈ se', VO ss p.2) ∧ BO N y'
  | [], a, y, se, z5, e, h1, h2, hb => ⟨se, y, z5, rfl, by rw [h1, e, List.append_nil], h2, hb.mono (by omega)⟩
  | x :: b, a, y, se, z5, e, h1, h2, hb => by
    have hl : ss.length ≤ 20 := hs.2.1
    have hx : x ∈ od := by rw [e]; simp
    have hal : a.length ≤ od.length := by rw [e]; simp
    have hn : se.lookup x = none := lookup_none.mpr (by
      rw [h1]
      have := ho.nd
      rw [e, List.nodup_append] at this
      exact fun hm => this.2.2 x hm x List.mem_cons_self rfl)
    have hlen : se.length = a.length := by rw [← h1]; simp
    have hb' : BO (N + 20 * b.length + 1 * ss.length) y := hb.mono (by rw [List.length_cons]; omega)
    obtain ⟨o, y', v, b', t⟩ := L_pick (j := j) (m := [y, .dic .k (kv se)]) (r := 0) (N := N + 20 * b.length) rfl hs hb'
    obtain ⟨se', y2, z5', r1, r2, r3, r4⟩ := nums_loop (j := j) hs ho hod b (a ++ [x]) y' (se ++ [(x, o)]) (some (.str x)) (by rw [e]; simp) (by rw [List.map_append, h1]; rfl) (fun p hp => by
      rcases List.mem_append.mp hp with z | z
      · exact h2 p z
      · simp at z; rw [z]; exact v) b'
    refine ⟨se', y2, z5', ?_, r2, r3, r4⟩
    rw [List.map_cons, forL_nx]
    · exact r1
    · have hz : se.length < sizeLine := by
        have : (1000000 : Nat) ≤ sizeLine := by decide
        omega
      have pk := put_kv (o := o) hn
      simp at t
      simp [t, hz, pk]
abbrev kdE : E := (.ife (.an (.cmp .In (.loc 5) (.loc 4)) (.cmp .Eq (.call "" "_law_take" (.one (.loc 1) (.one (.con (.int 2)) .nil)) [] []) (.con (.int 0)))) (.con (.str (Str.ofString "refuse"))) (.con (.str (Str.ofString "show"))))
abbrev goB : Ss := (.cons (.ifs (.nt (.call "" "_law_step_right" (.one (.loc 7) (.one (.loc 11) (.one (.loc 5) (.one (.loc 8) .nil)))) [] [])) (.cons (.ret (.con (.bl false)))
    .nil) .nil)
    (.cons (.set 12 (.comp false (.call "" "_law_after" (.one (.loc 2) (.one (.loc 3) (.one (.loc 4) (.one (.loc 6) (.one (.loc 11) (.one (.loc 13) .nil)))))) [] []) (.one 13) (.seq (.lst false (.one (.loc 8) (.one (.loc 9) (.one (.loc 10) .nil))))) .non [13]))
    (.cons (.ifs (.orr (.cmp .Lt (.sub (.loc 12) (.con (.int 2))) (.sub (.loc 12) (.con (.int 0)))) (.cmp .Lt (.bin .Add (.sub (.loc 12) (.con (.int 0))) (.sub (.loc 12) (.con (.int 1)))) (.sub (.loc 12) (.con (.int 2))))) (.cons (.ret (.con (.bl false)))
    .nil) .nil)
    (.cons (.set 14 kdE)
    (.cons (.set 11 (.bin .Add (.loc 11) (.lst false (.one (.tup (.one (.loc 5) (.one (.loc 14) .nil))) .nil))))
    .nil)))))
abbrev EV (ns ss : List Int) (od lg : List Str) (e1 e2 e3 : List O) (tn : Tn) (z5 z12 z13 z14 : Option D) : Ev := [some (.scr (ns.map .int)), some (.ref 0), some (.lst (ss.map .int)), some (.lst (od.map .str)), some (.lst (lg.map .str)), z5, some (.ref 1), some (pgD ss od lg 1), some (.lst (e1.map oD)), some (.lst (e2.map oD)), some (.lst (e3.map oD)), some (.lst (tv tn)), z12, z13, z14, none, none]
theorem go_turn {j N : Nat} {e1 e2 e3 : List O} {se : Se} {f : Str → O} {tn : Tn} {x : Str} {y : MO} {z5 z12 z13 z14 : Option D} (hs : VN ss) (ho : OK_ od) (hod : od.length ≤ 10) (hg : LG od lg) (hf : ∀ x ∈ od, VO ss (f x)) (hse : ∀ x ∈ od, se.lookup x = some (f x)) (hsl : se.length ≤ 1000)
    (h1 : ∀ o ∈ e1, VO ss o) (h2 : ∀ o ∈ e2, VO ss o) (h3 : ∀ o ∈ e3, VO ss o) (l1 : e1.length ≤ 1000000) (l2 : e2.length ≤ 1000000) (l3 : e3.length ≤ 1000000) (hor : ∀ x, VO ss x → (x ∈ e3 ↔ x ∈ e1 ∨ x ∈ e2))
    (k : Tk od tn) (hx : od[tn.length]? = some x) (hb : BO (N + 1) y) : ∃ kd y' z12' z14', (kd = sh ∨ kd = rf) ∧ BO N y' ∧
      forB (glL tab (xnT tb) (j + 12)) (xnT tb) (.one 5) goB (.str x) (EV ns ss od lg e1 e2 e3 tn z5 z12 z13 z14) [y, .dic .k (kv se)] = .nx (EV ns ss od lg e1 e2 e3 (tn ++ [(x, kd)]) (some (.str x)) z12' z13 z14') [y', .dic .k (kv se)] := by
  have hxm := List.mem_of_getElem? hx
  have hW : WM [y, .dic .k (kv se)] := ((show WM ([] ++ [y]) from (show WM [] from rfl).app hb.und).app (c := .dic .k (kv se)) (by show D.undK _ _ = true; exact undK_kv))
  have st : callL tab (xnT tb) (j + 12) "" "_law_step_right" [pgD ss od lg 1, .lst (tv tn), .str x, .lst (e1.map oD)] [y, .dic .k (kv se)] = .ok (.bl true) [y, .dic .k (kv se)] := by
    by_cases q : x ∈ lg
    · exact step_in (j := j + 1) hW hs ho hod hg hf rfl hse h1 l1 k hx q
    · exact step_out (j := j + 1) hW hs ho hod hg hf rfl hse h1 l1 k hx hsl q
  have af : ∀ ev, ev ∈ [e1, e2, e3] → callL tab (xnT tb) (j + 12) "" "_law_after" [.lst (ss.map .int), .lst (od.map .str), .lst (lg.map .str), .ref 1, .lst (tv tn), .lst (ev.map oD)] [y, .dic .k (kv se)] = .ok (hpD ss ev lg od f tn) [y, .dic .k (kv se)] := fun ev hev => by
    simp at hev
    rcases hev with e | e | e <;> subst e
    · exact L_after (j := j + 2) hW hs ho hod hg hf rfl hse h1 l1 k
    · exact L_after (j := j + 2) hW hs ho hod hg hf rfl hse h2 l2 k
    · exact L_after (j := j + 2) hW hs ho hod hg hf rfl hse h3 l3 k
  obtain ⟨m1, m2⟩ := hopeC_or (lg := lg) (f := f) (here := sum ss (openL (seF od f) tn)) (left := od.drop tn.length) hs.1 hor
  have hpos := outs_pos hs.1
  have hN := hs.2
  have b1 := hopeC_le (ss := ss) (ev := e1) (lg := lg) (f := f) (here := sum ss (openL (seF od f) tn)) (left := od.drop tn.length)
  have b2 := hopeC_le (ss := ss) (ev := e2) (lg := lg) (f := f) (here := sum ss (openL (seF od f) tn)) (left := od.drop tn.length)
  have b3 := hopeC_le (ss := ss) (ev := e3) (lg := lg) (f := f) (here := sum ss (openL (seF od f) tn)) (left := od.drop tn.length)
  have lt1 := lt_part (j := j + 8) (m := [y, .dic .k (kv se)]) (x := hopeC ss e3 lg f (sum ss (openL (seF od f) tn)) (od.drop tn.length)) (y := hopeC ss e1 lg f (sum ss (openL (seF od f) tn)) (od.drop tn.length)) hpos hN (by omega) (by omega)
  have ad := add_part (j := j + 8) (m := [y, .dic .k (kv se)]) (x := hopeC ss e1 lg f (sum ss (openL (seF od f) tn)) (od.drop tn.length)) (y := hopeC ss e2 lg f (sum ss (openL (seF od f) tn)) (od.drop tn.length)) hpos hN (by omega) (by omega) hW
  have lt2 := lt_part (j := j + 8) (m := [y, .dic .k (kv se)]) (x := hopeC ss e1 lg f (sum ss (openL (seF od f) tn)) (od.drop tn.length) + hopeC ss e2 lg f (sum ss (openL (seF od f) tn)) (od.drop tn.length)) (y := hopeC ss e3 lg f (sum ss (openL (seF od f) tn)) (od.drop tn.length)) hpos hN (by omega) (by omega)
  rw [decide_eq_false (by omega)] at lt1 lt2
  have hin : inB (.str x) (lg.map .str) = some (decide (x ∈ lg)) := inB_s x lg (ho.nm x hxm).2.2 fun y hy => (ho.nm y (hg.sub y hy)).2.2
  have hlk : lenOk (tn.length + 1) = true := k_lenOk_of (by have := k.le; omega)
  have htv : ∀ kd, tv tn ++ [D.tup [.str x, .str kd]] = tv (tn ++ [(x, kd)]) := fun kd => by simp [tv]
  obtain ⟨d, y', d0, d1, b', t⟩ := L_take (j := j + 11) (m := [y, .dic .k (kv se)]) (r := 0) (n := 2) rfl hb (by decide) (by decide)
  have hset : ([y, .dic .k (kv se)] : Mem).set 0 y' = [y', .dic .k (kv se)] := rfl
  rw [hset] at t
  have hcmp : compL (cmpB (glL tab (xnT tb) (j + 12)) (.call "" "_law_after" (.one (.loc 2) (.one (.loc 3) (.one (.loc 4) (.one (.loc 6) (.one (.loc 11) (.one (.loc 13) .nil)))))) [] []) (.one 13) .non [13] (EV ns ss od lg e1 e2 e3 tn (some (.str x)) z12 z13 z14)) ([e1, e2, e3].map fun ev : List O => D.lst (ev.map oD)) [y, .dic .k (kv se)] = .ok ([e1, e2, e3].map fun ev => hpD ss ev lg od f tn) [y, .dic .k (kv se)] := compK_each (g := fun ev : List O => D.lst (ev.map oD)) (fun ev => hpD ss ev lg od f tn) fun ev hev => by
    have a := af ev hev
    generalize hpD ss ev lg od f tn = r at a ⊢
    simp [a]
  unfold hpD at hcmp
  simp only [List.map_cons, List.map_nil] at hcmp
  generalize hopeC ss e1 lg f (sum ss (openL (seF od f) tn)) (od.drop tn.length) = c1 at lt1 lt2 ad hcmp
  generalize hopeC ss e2 lg f (sum ss (openL (seF od f) tn)) (od.drop tn.length) = c2 at lt2 ad hcmp
  generalize hopeC ss e3 lg f (sum ss (openL (seF od f) tn)) (od.drop tn.length) = c3 at lt1 lt2 hcmp
  generalize (outs ss).length = M at lt1 lt2 ad hcmp
  have l3 : lenOk 3 = true := by decide
  have fin14 : ∀ (kd : Str) (y2 : MO), evS (glL tab (xnT tb) (j + 12)) (xnT tb) (.set 14 kdE) (EV ns ss od lg e1 e2 e3 tn (some (.str x)) (some (.lst [ratD c1 M, ratD c2 M, ratD c3 M])) z13 z14) [y, .dic .k (kv se)] = .nx (EV ns ss od lg e1 e2 e3 tn (some (.str x)) (some (.lst [ratD c1 M, ratD c2 M, ratD c3 M])) z13 (some (.str kd))) [y2, .dic .k (kv se)] →
      forB (glL tab (xnT tb) (j + 12)) (xnT tb) (.one 5) goB (.str x) (EV ns ss od lg e1 e2 e3 tn z5 z12 z13 z14) [y, .dic .k (kv se)] = .nx (EV ns ss od lg e1 e2 e3 (tn ++ [(x, kd)]) (some (.str x)) (some (.lst [ratD c1 M, ratD c2 M, ratD c3 M])) z13 (some (.str kd))) [y2, .dic .k (kv se)] := fun kd y2 h14 => by
    rw [show forB (glL tab (xnT tb) (j + 12)) (xnT tb) (.one 5) goB (.str x) (EV ns ss od lg e1 e2 e3 tn z5 z12 z13 z14) [y, .dic .k (kv se)] = evSs (glL tab (xnT tb) (j + 12)) (xnT tb) goB (EV ns ss od lg e1 e2 e3 tn (some (.str x)) z12 z13 z14) [y, .dic .k (kv se)] from rfl]
    rw [ss_nx (e1 := EV ns ss od lg e1 e2 e3 tn (some (.str x)) z12 z13 z14) (m1 := [y, .dic .k (kv se)]) (by simp [st])]
    rw [ss_nx (e1 := EV ns ss od lg e1 e2 e3 tn (some (.str x)) (some (.lst [ratD c1 M, ratD c2 M, ratD c3 M])) z13 z14) (m1 := [y, .dic .k (kv se)]) (by simp [l3, hcmp])]
    rw [ss_nx (e1 := EV ns ss od lg e1 e2 e3 tn (some (.str x)) (some (.lst [ratD c1 M, ratD c2 M, ratD c3 M])) z13 z14) (m1 := [y, .dic .k (kv se)]) (by
      generalize c1 + c2 = c12 at ad lt2
      unfold ratD at lt1 lt2 ad ⊢
      simp [has_lt, has_add, arB, lt1, ad, lt2])]
    rw [ss_nx h14]
    simp [hlk, htv]
  by_cases q : x ∈ lg
  · by_cases z : d = 0
    · refine ⟨rf, y', _, _, .inr rfl, b', fin14 rf y' ?_⟩
      simp [hin, q, t, z]
    · refine ⟨sh, y', _, _, .inl rfl, b', fin14 sh y' ?_⟩
      simp [hin, q, t, z]
  · refine ⟨sh, y, _, _, .inl rfl, hb.mono (by omega), fin14 sh y ?_⟩
    simp [hin, q]
theorem go_loop {j N : Nat} {e1 e2 e3 : List O} {se : Se} {f : Str → O} (hs : VN ss) (ho : OK_ od) (hod : od.length ≤ 10) (hg : LG od lg) (hf : ∀ x ∈ od, VO ss (f x)) (hse : ∀ x ∈ od, se.lookup x = some (f x)) (hsl : se.length ≤ 1000)
    (h1 : ∀ o ∈ e1, VO ss o) (h2 : ∀ o ∈ e2, VO ss o) (h3 : ∀ o ∈ e3, VO ss o) (l1 : e1.length ≤ 1000000) (l2 : e2.length ≤ 1000000) (l3 : e3.length ≤ 1000000) (hor : ∀ x, VO ss x → (x ∈ e3 ↔ x ∈ e1 ∨ x ∈ e2)) :
    ∀ (b : List Str) (tn : Tn) (y : MO) (z5 z12 z13 z14 : Option D), od.drop tn.length = b → Tk od tn → BO (N + b.length) y →
    ∃ tn' y' z5' z12' z14', Tk od tn' ∧ tn'.length = od.length ∧ BO N y' ∧ forL (forB (glL tab (xnT tb) (j + 12)) (xnT tb) (.one 5) goB) (b.map .str) (EV ns ss od lg e1 e2 e3 tn z5 z12 z13 z14) [y, .dic .k (kv se)] = .nx (EV ns ss od lg e1 e2 e3 tn' z5' z12' z13 z14') [y', .dic .k (kv se)]
  | [], tn, y, z5, z12, z13, z14, e, k, hb => by
    refine ⟨tn, y, z5, z12, z14, k, ?_, hb.mono (by omega), rfl⟩
    have := congrArg List.length e
    rw [List.length_drop] at this
    have := k.le
    simp at *
    omega
  | x :: b, tn, y, z5, z12, z13, z14, e, k, hb => by
    have hx : od[tn.length]? = some x := by
      have : (od.drop tn.length)[0]? = some x := by rw [e]; rfl
      rw [List.getElem?_drop] at this
      exact this
    obtain ⟨kd, y', z12', z14', hk, b', t⟩ := go_turn (j := j) (ns := ns) (N := N + b.length) (z5 := z5) (z12 := z12) (z13 := z13) (z14 := z14) hs ho hod hg hf hse hsl h1 h2 h3 l1 l2 l3 hor k hx (hb.mono (by rw [List.length_cons]; omega))
    have k2 := k.snoc hx hk
    have e2 : od.drop (tn ++ [(x, kd)]).length = b := by
      rw [List.length_append]
      show od.drop (tn.length + 1) = b
      have := drop_at hx
      rw [e] at this
      exact (List.cons.inj this).2.symm
    obtain ⟨tn', y2, w5, w12, w14, r1, r2, r3, r4⟩ := go_loop (j := j) (N := N) hs ho hod hg hf hse hsl h1 h2 h3 l1 l2 l3 hor b (tn ++ [(x, kd)]) y' (some (.str x)) z12' z13 z14' e2 k2 b'
    refine ⟨tn', y2, w5, w12, w14, r1, r2, r3, ?_⟩
    rw [List.map_cons, forL_nx t]
    exact r4
end
end K91

/-! K91P -/
set_option Elab.async false
set_option linter.all false
set_option maxRecDepth 100000
set_option maxHeartbeats 2000000
namespace K91
open PySem L2 PyProof.Rows IP Gm
abbrev W17 (ns : List Int) (z2 z3 z4 z5 z6 z7 z8 z9 z10 z11 : Option D) : Ev := [some (.scr (ns.map .int)), some (.ref 0), z2, z3, z4, z5, z6, z7, z8, z9, z10, z11, none, none, none, none, none]
theorem main (ns : List Int) (hl : ns.length ≤ 63) (hz : ∀ z ∈ ns, Builtin.Int.intBits z ≤ 1048576) : ∃ m, callL tab (xnT tb) 40 "" "law" [.scr (ns.map D.int)] [] = .ok (.bl true) m := by
  obtain ⟨x0, bx, t0⟩ := L_box (j := 37) (m := []) (ns := ns) (k := 0) (by decide)
  obtain ⟨ss, y0, hs, by0, t1⟩ := L_sizes8 (j := 37) (r := 0) (m := [x0]) (N := 10000) rfl (bx.mono (by decide))
  have s1 : ∀ a b : MO, ([a] : Mem).set 0 b = [b] := fun _ _ => rfl
  rw [s1] at t1
  obtain ⟨d, y1, d0, d1, by1, t2⟩ := L_take (j := 38) (m := [y0]) (r := 0) (n := 4) rfl (by0.mono (by decide) : BO (9999 + 1) y0) (by decide) (by decide)
  rw [s1] at t2
  obtain ⟨k, rfl⟩ : ∃ k : Nat, d = k := ⟨d.toNat, by omega⟩
  obtain ⟨ho, hod4⟩ := base_ok k (by omega)
  have hcut : cut (base.map D.str) none (some (1 + (k : Int))) = (base.take (1 + k)).map .str := by
    have : (1 + (k : Int)) = ((1 + k : Nat) : Int) := by omega
    rw [this, k_cut_to, List.map_take]
  generalize base.take (1 + k) = od at ho hod4 hcut
  have hod : od.length ≤ 10 := by omega
  have e17 : ∀ {z2 z3 : Option D}, True := fun {_ _} => trivial
  obtain ⟨yss, y2, p, by2, ec⟩ := comp_draw (g := D.str) (f := cmpB (glL tab (xnT tb) 39) (.loc 5) (.one 5) (.som (.cmp .Gt (.call "" "_law_take" (.one (.loc 1) (.one (.con (.int 3)) .nil)) [] []) (.con (.int 0)))) [5] [some (.scr (ns.map .int)), some (.ref 0), some (.lst (ss.map .int)), some (.lst (od.map .str)), none, none, none, none, none, none, none, none, none, none, none, none, none]) (r := 0) (c := 1) (fun o ys => ys = [] ∨ ys = [D.str o]) od (fun o h m N b hb ho => by
    obtain ⟨d2, y, h1, h2, h3, h4⟩ := L_take (j := 38) (n := 3) hb ho (by omega) (by omega)
    by_cases q : 0 < d2
    · exact ⟨[.str o], y, .inr rfl, h3, by simp [h4, q]⟩
    · exact ⟨[], y, .inl rfl, h3, by simp [h4, q]⟩) [y1] 9000 y1 rfl (by1.mono (by omega))
  rw [s1] at ec
  obtain ⟨lg, hsub, q3⟩ := al_subG p
  rw [q3] at ec
  have hlg : lg.length ≤ od.length := hsub.length_le
  have hg : LG od lg := ⟨by omega, fun x hx => hsub.subset hx, ho.nd.sublist hsub⟩
  have hll : lenOk lg.length = true := k_lenOk_of (by omega)
  obtain ⟨se, y3, z5, t3, hse1, hse2, by3⟩ := nums_loop (ns := ns) (lg := lg) (j := 37) (N := 8000) hs.1 ho hod od [] y2 [] none rfl rfl (by simp) (by2.mono (by omega))
  have s2 : ∀ a b c : MO, ([a, c] : Mem).set 0 b = [b, c] := fun _ _ _ => rfl
  obtain ⟨e1, y4, h1, l1, by4, t4⟩ := L_law_event (j := 37) (m := [y3, .dic .k (kv se)]) (r := 0) (N := 5000) rfl hs (by3.mono (by decide))
  rw [s2] at t4
  obtain ⟨e2, y5, h2, l2, by5, t5⟩ := L_law_event (j := 37) (m := [y4, .dic .k (kv se)]) (r := 0) (N := 3000) rfl hs (by4.mono (by decide))
  rw [s2] at t5
  have hW5 : WM [y5, .dic .k (kv se)] := ((show WM ([] ++ [y5]) from (show WM [] from rfl).app by5.und).app (c := .dic .k (kv se)) (by show D.undK _ _ = true; exact undK_kv))
  have t6 := L_make (j := 37) (m := [y5, .dic .k (kv se)]) hs hW5
  have t7 : callL tab (xnT tb) 39 "Group" "event" [gD ss, .lst ((e1 ++ e2).map oD)] [y5, .dic .k (kv se)] = _ := L_event (j := 36) (m := [y5, .dic .k (kv se)]) (os := e1 ++ e2) hs.1 (by simp; omega) (fun o h => by
    rcases List.mem_append.mp h with z | z
    · exact h1 o z
    · exact h2 o z) (by have := hs.2; omega)
  let f : Str → O := fun x => (se.lookup x).getD []
  have hlook : ∀ x ∈ od, se.lookup x = some (f x) := fun x hx => by
    cases e : se.lookup x with
    | none => exact absurd (by rw [hse1]; exact hx) (lookup_none.mp e)
    | some o => simp [f, e]
  have hf : ∀ x ∈ od, VO ss (f x) := fun x hx => hse2 _ (PySem.mem_of_lookup (hlook x hx))
  have hsl : se.length ≤ 1000 := by
    have : (se.map (·.1)).length = od.length := by rw [hse1]
    rw [List.length_map] at this
    omega
  have hor : ∀ x, VO ss x → (x ∈ ((outs ss).filter fun o => decide (o ∈ e1 ++ e2)) ↔ x ∈ e1 ∨ x ∈ e2) := fun x hx => by
    rw [List.mem_filter, decide_eq_true_eq, List.mem_append]
    exact ⟨fun z => z.2, fun z => ⟨mem_outs.mpr hx, z⟩⟩
  have h3 : ∀ o ∈ ((outs ss).filter fun o => decide (o ∈ e1 ++ e2)), VO ss o := fun o h => mem_outs.mp (List.mem_filter.mp h).1
  have l3 : ((outs ss).filter fun o => decide (o ∈ e1 ++ e2)).length ≤ 1000000 := Nat.le_trans (List.length_filter_le _ _) (by have := hs.2; omega)
  generalize ((outs ss).filter fun o => decide (o ∈ e1 ++ e2)) = e3 at t7 hor h3 l3
  have k0 : Tk od [] := ⟨by simp, by simp, by simp⟩
  obtain ⟨tn, y6, w5, w12, w14, k1, hk1, by6, t8⟩ := go_loop (j := 27) (ns := ns) (N := 100) (f := f) (se := se) (lg := lg) (e1 := e1) (e2 := e2) (e3 := e3) hs ho hod hg hf hlook hsl h1 h2 h3 (by omega) (by omega) l3 hor od [] y5 z5 none none none (by simp) k0 (by5.mono (by omega))
  have hW6 : WM [y6, .dic .k (kv se)] := ((show WM ([] ++ [y6]) from (show WM [] from rfl).app by6.und).app (c := .dic .k (kv se)) (by show D.undK _ _ = true; exact undK_kv))
  have t9 := L_after (j := 29) (q := 1) (tn := tn) (ev := e1) hW6 hs ho hod hg hf rfl hlook h1 (by omega) k1
  unfold hpD at t9
  have hopen : openL (seF od f) tn = openL se tn := by
    unfold openL
    refine List.map_congr_left fun p hp => ?_
    have hp' : p.1 ∈ od := List.mem_of_mem_take (k1.sub p (List.mem_filter.mp hp).1)
    rw [look_seF hp', hlook _ hp']
  have hv := sum_vo hs.1 (openL se tn)
  rw [hk1, List.drop_length, hopen, hopeC_nil hs.1 hv] at t9
  have ok := k1.ok (ss := ss) (f := f) ho hf
  have hvo : ∀ o ∈ openL se tn, VO ss o := by rw [← hopen]; exact open_vo ok ho.nd
  have t10 := L_law_sum (j := 37) (m := [y6, .dic .k (kv se)]) hs.1 hvo
  have mk := L_ratio (j := 37) (m := [y6, .dic .k (kv se)]) (a := if decide (sum ss (openL se tn) ∈ e1) then 1 else 0) (b := 1) (by decide) (by decide) hW6
  rw [ratD_whole hs.1] at mk
  have hin : inB (oD (sum ss (openL se tn))) (e1.map oD) = some (decide (sum ss (openL se tn) ∈ e1)) := inB_o _ _
  rw [openL, List.map_map] at t10
  simp only [Function.comp_def] at t10
  have hopd : (tn.filter fun p => decide (p.2 = sh)).map (fun p => (se.lookup p.1).getD []) = openL se tn := rfl
  rw [hopd] at t10
  generalize sum ss (openL se tn) = due at t9 t10 mk hin
  have ltn : tn.length ≤ 10 := by omega
  have hf2 : (tn.filter fun p => decide (p.2 = sh)).length ≤ tn.length := List.length_filter_le _ _
  have hlf : lenOk (tn.filter fun p => decide (p.2 = sh)).length = true := k_lenOk_of (by omega)
  have hbase : [D.str (Str.ofString "kai"), .str (Str.ofString "ann"), .str (Str.ofString "anna"), .str (Str.ofString "bob")] = base.map D.str := rfl
  have hf0 : ∀ m : Mem, (fin 0 (.bl true) m).1 = .bl true := fun m => by rcases fin_val (n := 0) (d := .bl true) (m := m) (fun _ h => nomatch h) with h | h <;> rw [h]
  refine ⟨(fin 0 (.bl true) [y6, .dic .k (kv se)]).2, ?_⟩
  have g0 : ([] : Mem).length = 0 := rfl
  rw [u_law rfl]
  unfold b_law
  rw [ss_nx (e1 := W17 ns none none none none none none none none none none) (m1 := [x0]) (by
    have t0' := t0
    simp at t0'
    simp [e0, t0'])]
  rw [ss_nx (e1 := W17 ns (some (.lst (ss.map .int))) none none none none none none none none none) (m1 := [y0]) (by simp [t1])]
  rw [ss_nx (e1 := W17 ns (some (.lst (ss.map .int))) (some (.lst (od.map .str))) none none none none none none none none) (m1 := [y1]) (by
    have h4 : lenOk base.length = true := by decide
    simp [hbase, t2, hcut, h4])]
  rw [ss_nx (e1 := W17 ns (some (.lst (ss.map .int))) (some (.lst (od.map .str))) (some (.lst (lg.map .str))) none none none none none none none) (m1 := [y2]) (by simp [ec, hll])]
  rw [ss_nx (e1 := W17 ns (some (.lst (ss.map .int))) (some (.lst (od.map .str))) (some (.lst (lg.map .str))) none (some (.ref 1)) none none none none none) (m1 := [y2, .dic .k []]) (by simp [keysOk])]
  have t3' : forL (forB (glL tab (xnT tb) 39) (xnT tb) (.one 5) nmB) (od.map .str) (E6 ns ss od lg none) [y2, .dic .k []] = _ := t3
  rw [ss_nx (e1 := W17 ns (some (.lst (ss.map .int))) (some (.lst (od.map .str))) (some (.lst (lg.map .str))) z5 (some (.ref 1)) none none none none none) (m1 := [y3, .dic .k (kv se)]) (by simp [t3'])]
  rw [ss_nx (e1 := W17 ns (some (.lst (ss.map .int))) (some (.lst (od.map .str))) (some (.lst (lg.map .str))) z5 (some (.ref 1)) (some (pgD ss od lg 1)) none none none none) (m1 := [y3, .dic .k (kv se)]) (by
    have h4 : lenOk 4 = true := by decide
    simp [h4])]
  rw [ss_nx (e1 := W17 ns (some (.lst (ss.map .int))) (some (.lst (od.map .str))) (some (.lst (lg.map .str))) z5 (some (.ref 1)) (some (pgD ss od lg 1)) (some (.lst (e1.map oD))) none none none) (m1 := [y4, .dic .k (kv se)]) (by simp [t4])]
  rw [ss_nx (e1 := W17 ns (some (.lst (ss.map .int))) (some (.lst (od.map .str))) (some (.lst (lg.map .str))) z5 (some (.ref 1)) (some (pgD ss od lg 1)) (some (.lst (e1.map oD))) (some (.lst (e2.map oD))) none none) (m1 := [y5, .dic .k (kv se)]) (by simp [t5])]
  rw [List.map_append] at t7
  have h12 : lenOk (e1.length + e2.length) = true := k_lenOk_of (by omega)
  rw [ss_nx (e1 := W17 ns (some (.lst (ss.map .int))) (some (.lst (od.map .str))) (some (.lst (lg.map .str))) z5 (some (.ref 1)) (some (pgD ss od lg 1)) (some (.lst (e1.map oD))) (some (.lst (e2.map oD))) (some (.lst (e3.map oD))) none) (m1 := [y5, .dic .k (kv se)]) (by simp [t6, t7, h12])]
  rw [ss_nx (e1 := EV ns ss od lg e1 e2 e3 [] z5 none none none) (m1 := [y5, .dic .k (kv se)]) (by simp [tv])]
  rw [ss_nx (e1 := EV ns ss od lg e1 e2 e3 tn w5 w12 none w14) (m1 := [y6, .dic .k (kv se)]) (by
    simp
    exact t8)]
  let EL (z15 z16 : Option D) : Ev := [some (.scr (ns.map .int)), some (.ref 0), some (.lst (ss.map .int)), some (.lst (od.map .str)), some (.lst (lg.map .str)), w5, some (.ref 1), some (pgD ss od lg 1), some (.lst (e1.map oD)), some (.lst (e2.map oD)), some (.lst (e3.map oD)), some (.lst (tv tn)), w12, none, w14, z15, z16]
  rw [ss_nx (e1 := EL (some (ratD (if due ∈ e1 then (outs ss).length else 0) (outs ss).length)) none) (m1 := [y6, .dic .k (kv se)]) (by
    generalize ratD (if due ∈ e1 then (outs ss).length else 0) (outs ss).length = r at t9 ⊢
    simp [t9, EL])]
  rw [ss_nx (e1 := EL (some (ratD (if due ∈ e1 then (outs ss).length else 0) (outs ss).length)) (some (oD due))) (m1 := [y6, .dic .k (kv se)]) (by
    generalize ratD (if due ∈ e1 then (outs ss).length else 0) (outs ss).length = r
    have hx : tv tn = tn.map fun p => D.tup [.str p.1, .str p.2] := rfl
    simp [EL, hx]
    rw [compK_filter (g := fun p : Str × Str => D.tup [.str p.1, .str p.2]) (fun p => oD ((se.lookup p.1).getD [])) (fun p => decide (p.2 = sh)) fun p hp => by
      have hp' : p.1 ∈ od := List.mem_of_mem_take (k1.sub p hp)
      have e := hlook _ hp'
      have e2 : eqC (.str p.2) (.str (Str.ofString "show")) = some (decide (p.2 = sh)) := eqC_s (kind_ok ok hp) (by decide +kernel)
      have e3 : subP (.dic .k (kv se)) (.str p.1) = some (oD (f p.1)) := by
        show (getP .k (kv se) (.str p.1)).bind id = _
        rw [get_kv, e]
        rfl
      obtain ⟨a, b⟩ := p
      dsimp only at e e2 e3
      by_cases q : b = sh
      · subst q
        have v1 : vw [y6, .dic .k (kv se)] (.ref 1) = .dic .k (kv se) := k_vw_refd rfl
        simp [e2, e3, e, v1]
      · simp [e2, q]]
    simp [hlf, t10, EL, hx])]
  have ep := eq_part (j := 36) (x := if due ∈ e1 then (outs ss).length else 0) (N := (outs ss).length) (m := [y6, .dic .k (kv se)])
  have mk' : makeG (glL tab (xnT tb) 39) false "Ratio" [.int (if due ∈ e1 then 1 else 0), .int 1] [y6, .dic .k (kv se)] = .ok (ratD (if due ∈ e1 then (outs ss).length else 0) (outs ss).length) [y6, .dic .k (kv se)] := by
    by_cases q : due ∈ e1
    · simp [q] at mk ⊢
      exact mk
    · simp [q] at mk ⊢
      exact mk
  generalize (if due ∈ e1 then (outs ss).length else 0) = cN at ep mk' ⊢
  generalize (outs ss).length = N at ep mk' ⊢
  unfold ratD at ep mk' ⊢
  simp [EL, hin, arr01, mk', has_eq, ep, hf0]
end K91

/-! K91H -/
set_option Elab.async false
set_option linter.all false
set_option maxRecDepth 100000
set_option maxHeartbeats 0
namespace K91
open PySem PySem.W PySem.Calls L2 PyProof.Rows IP
abbrev Rr : PySem.W.OpenRow := PySem.W.OpenLaw.row PySem.Challenge.rw_benddraws_k91_whole_hope_from_turn_to_tu
abbrev qq : Program := PySem.W.view Rr.prog [52]
abbrev hk : PySem.W.Hook := hookI 5 tb rt fn
def ob (s : PySem.W.SharedT) : Bool × He.AlD := obI 5 tb rt fn (HandSHeadRun.getT s)
theorem ob_eq (s : PySem.W.SharedT) : ob s = hk.obs s.abs := obI_eq (HandSHeadRun.getT_eq s)
def loose0 : List Str := [Str.ofString "_wall", Str.ofString "__name__", Str.ofString "DrawError", Str.ofString "ByZero", Str.ofString "BadNumber", Str.ofString "BadText", Str.ofString "TooEarly", Str.ofString "BadSizes", Str.ofString "BadOutcome", Str.ofString "BadEvent", Str.ofString "BadOrder", Str.ofString "BadLeague", Str.ofString "NoPerson", Str.ofString "NotTheirTurn", Str.ofString "InUse", Str.ofString "is_integer", Str.ofString "divisor_of", Str.ofString "parts", Str.ofString "checked", Str.ofString "Ratio", Str.ofString "integer_of", Str.ofString "total", Str.ofString "all_outcomes", Str.ofString "Group", Str.ofString "LETTERS", Str.ofString "MOST_LETTERS", Str.ofString "is_name", Str.ofString "check_order", Str.ofString "check_league", Str.ofString "sums_of", Str.ofString "reach", Str.ofString "State", Str.ofString "step_of", Str.ofString "House", Str.ofString "_law_cell"]
def loose1 : List Str := [Str.ofString "_law_box", Str.ofString "_law_take", Str.ofString "_law_sizes", Str.ofString "_law_all", Str.ofString "_law_add", Str.ofString "_law_pick", Str.ofString "_law_event", Str.ofString "_law_sum", Str.ofString "_law_house", Str.ofString "_law_after", Str.ofString "_law_step_right"]
def loose : List Str := loose0 ++ loose1
def okA (T : Tb) (K : PySem.W.Frag) : Bool := (T.free.all fun x => (He.Fa.free (Str.ofString x)).ok K) && ((T.cls.all fun c => clsK T K c) && ((T.exs.all fun p => exsK T K p) && (T.hnd.all fun c => (He.Fa.glo (Str.ofString c)).ok K)))
def okB (T : Tb) (root : Option String) (K : PySem.W.Frag) : Bool := (T.gints.all fun p => (He.Fa.int (Str.ofString p.1) p.2).ok K) && ((T.gstrs.all fun p => (He.Fa.str (Str.ofString p.1) (Str.ofString p.2)).ok K) && ((T.fns.all fun f => (He.Fa.glo (Str.ofString f)).ok K) &&
  ((T.pats.all fun p => (He.Fa.glo (Str.ofString p.1)).ok K) && ((T.mts.all fun p => T.cls.contains p.1 && (He.Fa.meth (Str.ofString p.1) (Str.ofString p.2)).ok K) && ((T.mks.all fun c => T.cls.contains c && (He.Fa.mkr (Str.ofString c)).ok K) &&
  ((match root with | some d => rootK K d | none => true) && (He.eqO (PySem.W.specialIn K (.builtin "object.__class__") "__get__") (some (some (.builtin "getset_descriptor.__get__"))) && decide (PySem.W.takesIn K (.builtin "object.__class__") = some true))))))))
theorem okK_parts {T : Tb} {root : Option String} {K : PySem.W.Frag} : okK T root K = ((okK2 T K && okA T K) && okB T root K) := by
  unfold okK okA okB
  simp only [Bool.and_assoc] <;> rfl
def kk (s : PySem.W.SharedT) : PySem.W.Frag := He.frG (HandSHeadRun.getT s) (cStatics :: asN (HandSHeadRun.getT s) 5)
theorem four {α β γ : Type} {o : Option α} {f : α → β} {g : α → γ} {p r : α → Bool} {h : α → Bool × He.AlD} {a : β} {b : γ} {c : Bool × He.AlD} (h1 : o.map (fun s => (f s, g s)) = some (a, b)) (h2 : o.map p = some true) (h4 : o.map r = some true) (hc : c.1 = true) (he : ∀ s, (h s).1 = (p s && r s))
    (h5 : o.map (fun s => (h s).2) = some c.2) : o.map (fun s => (f s, g s, h s)) = some (a, b, c) := by
  cases o with
  | none => cases h1
  | some s =>
    rw [Option.map_some] at h1 h2 h4 h5 ⊢
    have e := Option.some.inj h1
    have e2 : (h s).1 = c.1 := by rw [he, Option.some.inj h2, Option.some.inj h4, hc]; rfl
    rw [show f s = a from congrArg Prod.fst e, show g s = b from congrArg Prod.snd e, show h s = c from Prod.ext e2 (Option.some.inj h5)]
noncomputable abbrev rn (w : World) (os : OsState) := HandSHeadRun.endF (HandSHeadRun.stepQ (HandSHeadRun.denQ HandSHeadRun.tabQ) Rr.prog w) 8000 Rr.prog w os
theorem run1 (w : World) (os : OsState) : (rn w os).map (fun s => (HandSHeadRun.looksF Rr.prog (boot_heap w.params) s.abs, HandSHeadRun.seenQ qq loose (importedModules Rr.prog.main.body) (fun s => xlAt qq [] s && recOk Rr.toRowW.records s) s.abs)) = some (true, openGood qq loose) := by
  kernel_rfl
theorem run2 (w : World) (os : OsState) : (rn w os).map (fun s => okK2 tb (kk s) && okA tb (kk s)) = some true := by
  kernel_rfl
theorem run3 (w : World) (os : OsState) : (rn w os).map (fun s => okB tb rt (kk s)) = some true := by
  kernel_rfl
theorem run4 (w : World) (os : OsState) : (rn w os).map (fun s => (ob s).2) = some (valI fn).2 := by
  kernel_rfl
theorem run (w : World) : HandSHeadRun.RunEq Rr qq hk ob 8000 loose w := fun os => four (c := valI fn) (run1 w os) (run2 w os) (run3 w os) rfl (fun s => okK_parts (T := tb) (root := rt) (K := kk s)) (run4 w os)
end K91

/-! K91Z -/
open PySem PySem.W PySem.Calls PyProof.Rows IP
set_option maxRecDepth 100000 in
set_option maxHeartbeats 0 in
theorem PySem.Challenge.cw_benddraws_k91_whole_hope_from_turn_to_tu_holds : PySem.Challenge.rw_benddraws_k91_whole_hope_from_turn_to_tu.Holds := by
  w_on; o_law
  refine HandSHeadRun.head_any (r := K91.Rr) (q := K91.qq) (H := K91.hk) (ob := K91.ob) (M := 8000) (loose := K91.loose) (d := HandSHeadRun.topDef K91.Rr.prog 52) (kwd := []) K91.ob_eq
    (by kernel_rfl) (fun s => by kernel_rfl) K91.run (by kernel_rfl) (by kernel_rfl) (by kernel_rfl) (by rfl) (by first | assumption | decide +kernel) (by decide +kernel) ⟨rfl, rfl, rfl, rfl, rfl, by decide +kernel⟩ ?hw ?hc
  case hw => w_witness2
  case hc => exact walk_I (l := PySem.Challenge.rw_benddraws_k91_whole_hope_from_turn_to_tu) (n := 63) (J := 40) (x := K91.x_law) (f := "law") rfl (by decide) (by kernel_rfl) (by decide) K91.t_ok (by rfl) (by rfl) (by kernel_rfl) (by decide) rfl K91.main

