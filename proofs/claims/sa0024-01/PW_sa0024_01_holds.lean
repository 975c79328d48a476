import PyProof.Rows.All
import Wide.All
import OpenK.AllK
import Wide.FinOn
import Lean
import PySem.Challenge.RW_sa0024_01
set_option Elab.async false
open PySem PySem.W PyProof.Rows
namespace Mine
set_option maxRecDepth 100000 in
set_option maxHeartbeats 8000000 in
open_top hd for PySem.Challenge.rw_sa0024_01
end Mine
/-! M1: plain values, a small language of expressions and statements, its evaluator; no program in sight -/
section
set_option autoImplicit false
namespace Mine
open PySem

inductive PV where
  | none
  | bool (b : Bool)
  | int (i : Int)
  | str (s : List Nat)
  | tup (l : List PV)
  | lst (l : List PV)
  | rng (n : Int)
  | ref (k : Nat)
  | exn (sp : Int)

inductive PO where
  | lst (l : List PV)
  | inst (c : Nat) (l : List (Nat × PV))
  | tab (l : List Nat)
abbrev Store := List PO
structure PX where
  cls : Nat
  spot : Option Int

inductive R (α : Type) where
  | ok (a : α) (σ : Store)
  | exc (x : PX) (σ : Store)
abbrev Loc := List (Nat × PV)

def bnd {α β : Type} (m : Option (R α)) (f : α → Store → Option (R β)) : Option (R β) := match m with
  | .none => .none
  | some (.ok a σ) => f a σ
  | some (.exc x σ) => some (.exc x σ)
def rok {α : Type} (o : Option α) (σ : Store) : Option (R α) := match o with
  | .none => .none
  | some a => some (.ok a σ)

inductive Bi where
  | len | int | str | range | max | tuple | list
  deriving DecidableEq

inductive CE where
  | loc (x : Nat) | glo (x : Nat)
  | cnone | cbool (b : Bool) | cint (i : Int) | cstr (s : List Nat)
  | neg (a : CE) | not (a : CE)
  | bin (op : Operator) (a b : CE)
  | cmp (op : CmpOp) (a b : CE)
  | cmpNil (op : CmpOp) (a : CE)
  | bop (isAnd : Bool) (l : List CE)
  | ite (t b o : CE)
  | tup (l : List CE) | lst (l : List CE)
  | sub (a i : CE)
  | slice (a : CE) (lo hi : Option CE)
  | call (f : Nat) (args : List CE)
  | bi (b : Bi) (args : List CE)
  | meth (o : CE) (m : Nat) (args : List CE)
  | mdig (o : CE) | mjoin (o a : CE) | mapp (o a : CE) | mpop (o : CE)
  | attr (o : CE) (a : Nat)
  | fstr (pre : List Nat) (e : CE)
  | fstrs (e : CE) (post : List Nat)
  | comp (elt : CE) (vars : List Nat) (tt : Bool) (fv : List Nat) (it : CE) (cond : Option CE)
  | heard (i : Nat) (fv : List Nat) (e : CE)

inductive CS where
  | asg (x : Nat) (e : CE)
  | asgT (xs : List Nat) (e : CE)
  | seta (o : CE) (a : Nat) (e : CE)
  | seti (o i e : CE)
  | exp (e : CE)
  | ret (e : CE)
  | iff (t : CE) (b o : List CS)
  | forr (vars : List Nat) (tt : Bool) (it : CE) (body : List CS)
  | whil (t : CE) (body : List CS)
  | rais (cls : Nat) (args : List CE)
  | tryy (body : List CS) (cls name : Nat) (e : CE)

/-- what a text knows of the rest -/
structure Sig where
  q : Bool
  top : Bool
  kn : Nat → Bool
  km : Nat → Nat → Bool
  glo : Nat → Option PV
  fn : Nat → List PV → Store → Option (R PV)
  meth : Nat → Nat → Nat → List PV → Store → Option (R PV)
  kx : Nat → Bool
  exc : Nat → List PV → Option PX
def Sig.quiet (Φ : Sig) : Sig := { Φ with q := true }
def Sig.low (Φ : Sig) : Sig := { Φ with top := false }

def lk (ρ : Loc) (x : Nat) : Option PV := match ρ with
  | [] => .none
  | (y, v) :: r => if y = x then some v else lk r x
def setL (ρ : Loc) (x : Nat) (v : PV) : Loc := match ρ with
  | [] => [(x, v)]
  | (y, u) :: r => if y = x then (x, v) :: r else (y, u) :: setL r x v
def setLs (ρ : Loc) : List Nat → List PV → Option Loc
  | [], [] => some ρ
  | x :: xs, v :: vs => setLs (setL ρ x v) xs vs
  | _, _ => .none
/-- a loop's target takes an item -/
def takeV (ρ : Loc) (xs : List Nat) (tt : Bool) (v : PV) : Option Loc := match tt, v with
  | true, .tup l => setLs ρ xs l
  | false, v => setLs ρ xs [v]
  | _, _ => .none
def capture (ρ : Loc) : List Nat → Option Loc
  | [] => some []
  | x :: xs => match lk ρ x, capture ρ xs with
    | some v, some r => some ((x, v) :: r)
    | _, _ => .none

/-- the digits of a number, as signs -/
def digs (i : Int) : List Nat := (toString i).toList.map Char.toNat
def isDig (c : Nat) : Bool := Nat.ble 48 c && Nat.ble c 57
def numOf (l : List Nat) : Nat := l.foldl (fun n c => n * 10 + (c - 48)) 0

def SZ : Nat := 100000
def IB : Nat := 4294967296

def eqvs (f : PV → PV → Option Bool) : List PV → List PV → Option Bool
  | [], [] => some true
  | [], _ :: _ => some false
  | _ :: _, [] => some false
  | a :: as, b :: bs => match f a b with
    | .none => .none
    | some e => match eqvs f as bs with
      | .none => .none
      | some es => some (e && es)
/-- equal, where both are known and of a kind -/
def eqvN : Nat → PV → PV → Option Bool
  | 0, _, _ => .none
  | n + 1, a, b => match a, b with
    | .none, .none => some true
    | .bool a, .bool b => some (a == b)
    | .int a, .int b => some (a == b)
    | .str a, .str b => some (a == b)
    | .tup a, .tup b => eqvs (eqvN n) a b
    | _, _ => .none
def eqv (a b : PV) : Option Bool := eqvN 40 a b
def isNil (σ : Store) (v : PV) : Option Bool := match v with
  | .lst l => some l.isEmpty
  | .ref k => match σ[k]? with
    | some (.lst l) => some l.isEmpty
    | _ => .none
  | _ => .none
def noneIn : List PV → Option Bool
  | [] => some false
  | .none :: r => (noneIn r).map fun _ => true
  | .int _ :: r => noneIn r
  | _ :: _ => .none

def binop (op : Operator) (a b : PV) : Option PV := match op, a, b with
  | .Add, .int x, .int y => some (.int (x + y))
  | .Add, .str x, .str y => if x.length + y.length ≤ SZ then some (.str (x ++ y)) else .none
  | .Add, .tup x, .tup y => if x.length + y.length ≤ SZ then some (.tup (x ++ y)) else .none
  | .Sub, .int x, .int y => some (.int (x - y))
  | .Mult, .int x, .int y => if x.natAbs < IB ∧ y.natAbs < IB then some (.int (x * y)) else .none
  | .Mult, .str [c], .int y => if 0 ≤ y ∧ y ≤ SZ then some (.str (List.replicate y.toNat c)) else .none
  | .Mod, .int x, .int y => if 0 < y then some (.int (x.fmod y)) else .none
  | _, _, _ => .none
def negop : PV → Option PV
  | .int x => some (.int (-x))
  | _ => .none
def inStr (x y : List Nat) : Option Bool := match x with
  | [c] => some (y.contains c)
  | _ => .none
def cmpop (op : CmpOp) (a b : PV) : Option Bool := match op with
  | .Eq => eqv a b
  | .NotEq => (eqv a b).map not
  | .Lt => (match a, b with | .int x, .int y => some (decide (x < y)) | _, _ => .none)
  | .LtE => (match a, b with | .int x, .int y => some (decide (x ≤ y)) | _, _ => .none)
  | .Gt => (match a, b with | .int x, .int y => some (decide (y < x)) | _, _ => .none)
  | .GtE => (match a, b with | .int x, .int y => some (decide (y ≤ x)) | _, _ => .none)
  | .Is => (match a, b with
    | .none, .none => some true
    | .int _, .none => some false
    | _, _ => .none)
  | .IsNot => (match a, b with
    | .none, .none => some false
    | .int _, .none => some true
    | _, _ => .none)
  | .In => (match a, b with
    | .str x, .str y => inStr x y
    | .none, .lst l => noneIn l
    | _, _ => .none)
  | .NotIn => (match a, b with
    | .str x, .str y => (inStr x y).map not
    | _, _ => .none)

def seqAt (l : List PV) (i : Int) : Option PV := if 0 ≤ i ∧ l.length ≤ SZ then l[i.toNat]? else .none
def subop (σ : Store) (v i : PV) : Option PV := match v, i with
  | .tup l, .int i => seqAt l i
  | .lst l, .int i => seqAt l i
  | .str l, .int i => if 0 ≤ i ∧ l.length ≤ SZ then (l[i.toNat]?).map fun c => .str [c] else .none
  | .ref k, .int i => (match σ[k]? with
    | some (.lst l) => seqAt l i
    | _ => .none)
  | _, _ => .none
/-- a slice's end: nought or more -/
def bound (d : Nat) : Option PV → Option Nat
  | .none => some d
  | some (.int i) => if 0 ≤ i ∧ i ≤ SZ then some i.toNat else .none
  | some _ => .none
def cut {α : Type} (l : List α) (lo hi : Nat) : List α := (l.take hi).drop lo
def sliceop (v : PV) (lo hi : Option PV) : Option PV := match v with
  | .str l => if l.length ≤ SZ then (match bound 0 lo, bound l.length hi with | some a, some b => some (.str (cut l a b)) | _, _ => .none) else .none
  | .tup l => if l.length ≤ SZ then (match lo, hi with | some (.int i), .none => if 1 ≤ i ∧ i ≤ l.length then some (.tup (l.drop i.toNat)) else .none | _, _ => .none) else .none
  | .lst l => if l.length ≤ SZ then (match lo, hi with | .none, some (.int i) => if 0 ≤ i ∧ i ≤ SZ then some (.lst (l.take i.toNat)) else .none | _, _ => .none) else .none
  | _ => .none

def strsOf : List PV → Option (List (List Nat))
  | [] => some []
  | .str s :: r => (strsOf r).map (s :: ·)
  | _ :: _ => .none
def biop (b : Bi) (args : List PV) (σ : Store) : Option PV := match b, args with
  | .len, [.str l] => if l.length ≤ SZ then some (.int l.length) else .none
  | .len, [.tup l] => if l.length ≤ SZ then some (.int l.length) else .none
  | .len, [.lst l] => if l.length ≤ SZ then some (.int l.length) else .none
  | .len, [.ref k] => (match σ[k]? with
    | some (.lst l) => if l.length ≤ SZ then some (.int l.length) else .none
    | _ => .none)
  | .int, [.str l] => if l ≠ [] ∧ l.length ≤ 18 ∧ l.all isDig = true then some (.int (numOf l)) else .none
  | .str, [.int i] => if i.natAbs < 1000000000000000000 then some (.str (digs i)) else .none
  | .range, [.int i] => if i.natAbs ≤ SZ then some (.rng i) else .none
  | .max, [.int a, .int b] => some (.int (if a < b then b else a))
  | .tuple, [.lst l] => if l.length ≤ SZ then some (.tup l) else .none
  | .list, [.lst l] => if l.length ≤ SZ then some (.lst l) else .none
  | _, _ => .none
def attrop (σ : Store) (v : PV) (a : Nat) (spot : Nat) : Option PV := match v with
  | .ref k => (match σ[k]? with
    | some (.inst c l) => if c = 6 then lk l a else .none
    | _ => .none)
  | .exn i => if a = spot then some (.int i) else .none
  | _ => .none
/-- the i-th item of what is walked; none: it is walked to its end -/
def itemAt (σ : Store) (tt : Bool) (v : PV) (i : Nat) : Option (Option PV) := match v with
  | .str l => if tt = true then .none else some ((l[i]?).map fun c => .str [c])
  | .tup l => if tt = true then .none else some l[i]?
  | .lst l => some l[i]?
  | .rng n => if tt = true ∨ SZ < n.natAbs then .none else some (if (i : Int) < n then some (.int i) else .none)
  | .ref k => (match σ[k]? with
    | some (.lst l) => some l[i]?
    | _ => .none)
  | _ => .none
def truth : PV → Option Bool
  | .bool b => some b
  | _ => .none

def spotName : Nat := 0
def heardLimit : Nat := 3
def heardTerm : Nat := 4
/-- what _law_heard makes of what it asks -/
def heardOf (told limit term : List Nat) : Option (R PV) → Option (R PV)
  | some (.ok v σ) => some (.ok (.tup [.str told, v]) σ)
  | some (.exc x σ) => if x.cls = heardLimit then some (.ok (.tup [.str limit, .none]) σ) else if x.cls = heardTerm then some (.ok (.tup [.str term, .none]) σ) else .none
  | .none => .none
def sTold : List Nat := [116, 111, 108, 100]
def sLimit : List Nat := [108, 105, 109, 105, 116]
def sTerm : List Nat := [116, 101, 114, 109]

mutual
def ev (Φ : Sig) : Nat → CE → Loc → Store → Option (R PV)
  | 0, _, _, _ => .none
  | _ + 1, .loc x, ρ, σ => rok (lk ρ x) σ
  | _ + 1, .glo x, _, σ => rok (Φ.glo x) σ
  | _ + 1, .cnone, _, σ => some (.ok .none σ)
  | _ + 1, .cbool b, _, σ => some (.ok (.bool b) σ)
  | _ + 1, .cint i, _, σ => some (.ok (.int i) σ)
  | _ + 1, .cstr s, _, σ => some (.ok (.str s) σ)
  | n + 1, .neg a, ρ, σ => bnd (ev Φ n a ρ σ) fun v σ => rok (negop v) σ
  | n + 1, .not a, ρ, σ => bnd (ev Φ n a ρ σ) fun v σ => rok ((truth v).map fun b => .bool (!b)) σ
  | n + 1, .bin op a b, ρ, σ => bnd (ev Φ n a ρ σ) fun v σ => bnd (ev Φ n b ρ σ) fun u σ => rok (binop op v u) σ
  | n + 1, .cmp op a b, ρ, σ => bnd (ev Φ n a ρ σ) fun v σ => bnd (ev Φ n b ρ σ) fun u σ => rok ((cmpop op v u).map .bool) σ
  | n + 1, .cmpNil op a, ρ, σ => bnd (ev Φ n a ρ σ) fun v σ => rok (match op with
    | .Eq => (isNil σ v).map .bool
    | _ => .none) σ
  | n + 1, .bop c l, ρ, σ => evB Φ n c l ρ σ
  | n + 1, .ite t b o, ρ, σ => bnd (evT Φ n t ρ σ) fun c σ => if c = true then ev Φ n b ρ σ else ev Φ n o ρ σ
  | n + 1, .tup l, ρ, σ => bnd (evs Φ n l ρ σ) fun vs σ => if vs.length ≤ SZ then some (.ok (.tup vs) σ) else .none
  | n + 1, .lst l, ρ, σ => if Φ.q = true then .none else bnd (evs Φ n l ρ σ) fun vs σ => if vs.length ≤ SZ then some (.ok (.ref σ.length) (σ ++ [.lst vs])) else .none
  | n + 1, .sub a i, ρ, σ => bnd (ev Φ n a ρ σ) fun v σ => bnd (ev Φ n i ρ σ) fun u σ => rok (subop σ v u) σ
  | n + 1, .slice a lo hi, ρ, σ => bnd (ev Φ n a ρ σ) fun v σ => bnd (evO Φ n lo ρ σ) fun x σ => bnd (evO Φ n hi ρ σ) fun y σ => rok (sliceop v x y) σ
  | n + 1, .call f args, ρ, σ => if Φ.q = true ∨ Φ.kn f = false then .none else bnd (evs Φ n args ρ σ) fun vs σ => Φ.fn f vs σ
  | n + 1, .bi b args, ρ, σ => if Φ.q = true ∧ b = .max then .none else bnd (evs Φ n args ρ σ) fun vs σ => rok (biop b vs σ) σ
  | n + 1, .meth o m args, ρ, σ => if Φ.q = true then .none else bnd (ev Φ n o ρ σ) fun v σ => match v with
    | .ref k => match σ[k]? with
      | some (.inst c l) => if (lk l m).isSome = true ∨ Φ.km c m = false then .none else bnd (evs Φ n args ρ σ) fun vs σ => Φ.meth c m k vs σ
      | _ => .none
    | _ => .none
  | n + 1, .mdig o, ρ, σ => bnd (ev Φ n o ρ σ) fun v σ => match v with
    | .str l => if l.all (fun c => Nat.blt c 128) = true then some (.ok (.bool (!l.isEmpty && l.all isDig)) σ) else .none
    | _ => .none
  | n + 1, .mjoin o a, ρ, σ => bnd (ev Φ n o ρ σ) fun v σ => match v with
    | .str [] => bnd (ev Φ n a ρ σ) fun u σ => match u with
      | .lst l => match strsOf l with
        | some ss => if ss.length ≤ SZ ∧ ss.flatten.length ≤ SZ then some (.ok (.str ss.flatten) σ) else .none
        | .none => .none
      | _ => .none
    | _ => .none
  | n + 1, .mapp o a, ρ, σ => if Φ.q = true then .none else bnd (ev Φ n o ρ σ) fun v σ => match v with
    | .ref k => match σ[k]? with
      | some (.lst _) => bnd (ev Φ n a ρ σ) fun u σ => match σ[k]? with
        | some (.lst l) => if l.length ≤ SZ then some (.ok .none (σ.set k (.lst (l ++ [u])))) else .none
        | _ => .none
      | _ => .none
    | _ => .none
  | n + 1, .mpop o, ρ, σ => if Φ.q = true then .none else bnd (ev Φ n o ρ σ) fun v σ => match v with
    | .ref k => match σ[k]? with
      | some (.lst l) => if l.length ≤ SZ then (match l.getLast? with
        | some u => some (.ok u (σ.set k (.lst l.dropLast)))
        | .none => .none) else .none
      | _ => .none
    | _ => .none
  | n + 1, .attr o a, ρ, σ => bnd (ev Φ n o ρ σ) fun v σ => rok (attrop σ v a spotName) σ
  | n + 1, .fstr pre e, ρ, σ => bnd (ev Φ n e ρ σ) fun v σ => match v with
    | .int i => if i.natAbs < 1000000000000000000 ∧ pre.length ≤ 1000 then some (.ok (.str (pre ++ digs i)) σ) else .none
    | _ => .none
  | n + 1, .fstrs e post, ρ, σ => bnd (ev Φ n e ρ σ) fun v σ => match v with
    | .str l => if l.length ≤ SZ then some (.ok (.str (l ++ post)) σ) else .none
    | _ => .none
  | n + 1, .comp elt xs tt fv it c, ρ, σ => if Φ.q = true then .none else bnd (ev Φ n it ρ σ) fun src σ => match capture ρ fv with
    | some ρ' => bnd (evC Φ n elt xs tt c src 0 ρ' [] σ) fun l σ => some (.ok (.lst l) σ)
    | .none => .none
  | n + 1, .heard i fv e, ρ, σ => if Φ.q = true ∨ Φ.top = false then .none else match capture ρ fv, σ[0]? with
    | some ρ', some (PO.tab l) => if l.contains i = true then .none else heardOf sTold sLimit sTerm (ev Φ.low n e ρ' (σ.set 0 (.tab (i :: l))))
    | _, _ => .none
def evT (Φ : Sig) : Nat → CE → Loc → Store → Option (R Bool)
  | 0, _, _, _ => .none
  | n + 1, .not a, ρ, σ => bnd (evT Φ n a ρ σ) fun b σ => some (.ok (!b) σ)
  | n + 1, .bop c l, ρ, σ => evTs Φ n c l ρ σ
  | n + 1, .ite t b o, ρ, σ => bnd (evT Φ n t ρ σ) fun c σ => if c = true then evT Φ n b ρ σ else evT Φ n o ρ σ
  | n + 1, e, ρ, σ => bnd (ev Φ n e ρ σ) fun v σ => rok (truth v) σ
def evTs (Φ : Sig) : Nat → Bool → List CE → Loc → Store → Option (R Bool)
  | 0, _, _, _, _ => .none
  | _ + 1, c, [], _, σ => some (.ok c σ)
  | n + 1, c, x :: r, ρ, σ => bnd (evT Φ n x ρ σ) fun b σ => if b = c then evTs Φ n c r ρ σ else some (.ok b σ)
def evB (Φ : Sig) : Nat → Bool → List CE → Loc → Store → Option (R PV)
  | 0, _, _, _, _ => .none
  | _ + 1, _, [], _, _ => .none
  | n + 1, _, [x], ρ, σ => ev Φ n x ρ σ
  | n + 1, c, x :: r, ρ, σ => bnd (ev Φ n x ρ σ) fun v σ => match truth v with
    | some b => if b = c then evB Φ n c r ρ σ else some (.ok v σ)
    | .none => .none
def evs (Φ : Sig) : Nat → List CE → Loc → Store → Option (R (List PV))
  | 0, _, _, _ => .none
  | _ + 1, [], _, σ => some (.ok [] σ)
  | n + 1, x :: r, ρ, σ => bnd (ev Φ n x ρ σ) fun v σ => bnd (evs Φ n r ρ σ) fun vs σ => some (.ok (v :: vs) σ)
def evO (Φ : Sig) : Nat → Option CE → Loc → Store → Option (R (Option PV))
  | 0, _, _, _ => .none
  | _ + 1, .none, _, σ => some (.ok .none σ)
  | n + 1, some x, ρ, σ => bnd (ev Φ n x ρ σ) fun v σ => some (.ok (some v) σ)
/-- a comprehension's turns, from the i-th item on -/
def evC (Φ : Sig) : Nat → CE → List Nat → Bool → Option CE → PV → Nat → Loc → List PV → Store → Option (R (List PV))
  | 0, _, _, _, _, _, _, _, _, _ => .none
  | n + 1, elt, xs, tt, c, src, i, ρ, acc, σ => match itemAt σ tt src i with
    | .none => .none
    | some .none => some (.ok acc σ)
    | some (some v) => match takeV ρ xs tt v with
      | .none => .none
      | some ρ => bnd (match c with
          | .none => some (.ok true σ)
          | some c => evT Φ n c ρ σ) fun b σ =>
        if b = true then bnd (ev Φ n elt ρ σ) fun u σ => if acc.length < SZ then evC Φ n elt xs tt c src (i + 1) ρ (acc ++ [u]) σ else .none
        else evC Φ n elt xs tt c src (i + 1) ρ acc σ
end

inductive RS where
  | nxt (ρ : Loc) (σ : Store)
  | ret (v : PV) (ρ : Loc) (σ : Store)
  | exc (x : PX) (ρ : Loc) (σ : Store)
def bndE {α : Type} (ρ : Loc) (m : Option (R α)) (f : α → Store → Option RS) : Option RS := match m with
  | .none => .none
  | some (.ok a σ) => f a σ
  | some (.exc x σ) => some (.exc x ρ σ)
def setLst (σ : Store) (k : Nat) (i : Int) (v : PV) : Option Store := match σ[k]? with
  | some (.lst l) => if 0 ≤ i ∧ i.toNat < l.length ∧ l.length ≤ SZ then some (σ.set k (.lst (l.set i.toNat v))) else .none
  | _ => .none
def setAtt (σ : Store) (k : Nat) (a : Nat) (v : PV) : Option Store := match σ[k]? with
  | some (.inst c l) => if c = 6 ∧ l.length < 90 then some (σ.set k (.inst c (setL l a v))) else .none
  | _ => .none

mutual
def ex (Φ : Sig) : Nat → CS → Loc → Store → Option RS
  | 0, _, _, _ => .none
  | n + 1, .asg x e, ρ, σ => if Φ.q = true then .none else bndE ρ (ev Φ n e ρ σ) fun v σ => some (.nxt (setL ρ x v) σ)
  | n + 1, .asgT xs e, ρ, σ => if Φ.q = true then .none else bndE ρ (ev Φ n e ρ σ) fun v σ => match v with
    | .tup l => (setLs ρ xs l).map fun ρ' => .nxt ρ' σ
    | _ => .none
  | n + 1, .seta o a e, ρ, σ => if Φ.q = true then .none else bndE ρ (ev Φ n e ρ σ) fun v σ => bndE ρ (ev Φ n o ρ σ) fun u σ => match u with
    | .ref k => (setAtt σ k a v).map fun σ => .nxt ρ σ
    | _ => .none
  | n + 1, .seti o i e, ρ, σ => if Φ.q = true then .none else bndE ρ (ev Φ n e ρ σ) fun v σ => bndE ρ (ev Φ n o ρ σ) fun u σ => bndE ρ (ev Φ n i ρ σ) fun j σ => match u, j with
    | .ref k, .int j => (setLst σ k j v).map fun σ => .nxt ρ σ
    | _, _ => .none
  | n + 1, .exp e, ρ, σ => if Φ.q = true then .none else bndE ρ (ev Φ n e ρ σ) fun v σ => match v with
    | .none => some (.nxt ρ σ)
    | .str _ => some (.nxt ρ σ)
    | .int _ => some (.nxt ρ σ)
    | _ => .none
  | n + 1, .ret e, ρ, σ => bndE ρ (ev Φ n e ρ σ) fun v σ => some (.ret v ρ σ)
  | n + 1, .iff t b o, ρ, σ => bndE ρ (evT Φ n t ρ σ) fun c σ => if c = true then exs Φ n b ρ σ else exs Φ n o ρ σ
  | n + 1, .forr xs tt it body, ρ, σ => if Φ.q = true then .none else bndE ρ (ev Φ n it ρ σ) fun src σ => exF Φ n xs tt src 0 body ρ σ
  | n + 1, .whil t body, ρ, σ => if Φ.q = true then .none else exW Φ n t body ρ σ
  | n + 1, .rais c args, ρ, σ => if Φ.q = true ∨ Φ.kx c = false then .none else bndE ρ (evs Φ n args ρ σ) fun vs σ => match Φ.exc c vs with
    | some x => some (.exc x ρ σ)
    | .none => .none
  | n + 1, .tryy body c y e, ρ, σ => if Φ.q = true ∨ Φ.kx c = false then .none else match exs Φ n body ρ σ with
    | some (.exc x ρ σ) => if x.cls = c then (match x.spot with
        | some i => (match ev Φ.quiet n e (setL ρ y (.exn i)) σ with
          | some (.ok (.bool b) σ) => some (.ret (.bool b) [] σ)
          | _ => .none)
        | .none => .none) else .none
    | r => r
def exs (Φ : Sig) : Nat → List CS → Loc → Store → Option RS
  | 0, _, _, _ => .none
  | _ + 1, [], ρ, σ => some (.nxt ρ σ)
  | n + 1, s :: r, ρ, σ => match ex Φ n s ρ σ with
    | some (.nxt ρ σ) => exs Φ n r ρ σ
    | r => r
def exF (Φ : Sig) : Nat → List Nat → Bool → PV → Nat → List CS → Loc → Store → Option RS
  | 0, _, _, _, _, _, _, _ => .none
  | n + 1, xs, tt, src, i, body, ρ, σ => match itemAt σ tt src i with
    | .none => .none
    | some .none => some (.nxt ρ σ)
    | some (some v) => match takeV ρ xs tt v with
      | .none => .none
      | some ρ => match exs Φ n body ρ σ with
        | some (.nxt ρ σ) => exF Φ n xs tt src (i + 1) body ρ σ
        | r => r
def exW (Φ : Sig) : Nat → CE → List CS → Loc → Store → Option RS
  | 0, _, _, _, _ => .none
  | n + 1, t, body, ρ, σ => bndE ρ (evT Φ n t ρ σ) fun c σ => if c = true then (match exs Φ n body ρ σ with
      | some (.nxt ρ σ) => exW Φ n t body ρ σ
      | r => r) else some (.nxt ρ σ)
end
def resOf : RS → R PV
  | .nxt _ σ => .ok .none σ
  | .ret v _ σ => .ok v σ
  | .exc x _ σ => .exc x σ
def newOf (n : Nat) : R PV → Option (R PV)
  | .ok .none σ => some (.ok (.ref n) σ)
  | .exc x σ => some (.exc x σ)
  | _ => none
end Mine
end
/-! L1: the evaluator, with more fuel -/
section
set_option autoImplicit false
set_option linter.unusedVariables false
set_option linter.unusedSimpArgs false
namespace Mine
open PySem

structure Le {α : Type} (x y : Option α) : Prop where
  imp : ∀ r, x = some r → y = some r
theorem Le.refl {α : Type} (x : Option α) : Le x x := ⟨fun _ h => h⟩
theorem Le.none {α : Type} (x : Option α) : Le .none x := ⟨fun _ h => by cases h⟩
theorem bnd_le {α β : Type} {m m' : Option (R α)} {f f' : α → Store → Option (R β)} (h : Le m m') (hf : ∀ a σ, Le (f a σ) (f' a σ)) : Le (bnd m f) (bnd m' f') := by
  refine ⟨fun r e => ?_⟩
  match m, h with
  | .none, _ => cases e
  | some (.ok a σ), h => rw [h.imp _ rfl]; exact (hf a σ).imp r e
  | some (.exc x σ), h => rw [h.imp _ rfl]; exact e
theorem bndE_le {α : Type} {ρ : Loc} {m m' : Option (R α)} {f f' : α → Store → Option RS} (h : Le m m') (hf : ∀ a σ, Le (f a σ) (f' a σ)) : Le (bndE ρ m f) (bndE ρ m' f') := by
  refine ⟨fun r e => ?_⟩
  match m, h with
  | .none, _ => cases e
  | some (.ok a σ), h => rw [h.imp _ rfl]; exact (hf a σ).imp r e
  | some (.exc x σ), h => rw [h.imp _ rfl]; exact e
theorem ite_le {α : Type} {c : Prop} [Decidable c] {x x' y y' : Option α} (h : Le x x') (h' : Le y y') : Le (if c then x else y) (if c then x' else y') := by
  split
  · exact h
  · exact h'
theorem heardOf_le {a b c : List Nat} {m m' : Option (R PV)} (h : Le m m') : Le (heardOf a b c m) (heardOf a b c m') := by
  refine ⟨fun r e => ?_⟩
  match m, h with
  | .none, _ => cases e
  | some (.ok v σ), h => rw [h.imp _ rfl]; exact e
  | some (.exc x σ), h => rw [h.imp _ rfl]; exact e
def nextOf (m : Option RS) (f : Loc → Store → Option RS) : Option RS := match m with
  | some (.nxt ρ σ) => f ρ σ
  | r => r
theorem nextOf_le {m m' : Option RS} {f f' : Loc → Store → Option RS} (h : Le m m') (hf : ∀ a σ, Le (f a σ) (f' a σ)) : Le (nextOf m f) (nextOf m' f') := by
  refine ⟨fun r e => ?_⟩
  match m, h with
  | .none, _ => cases e
  | some (.nxt ρ σ), h => rw [h.imp _ rfl]; exact (hf _ _).imp r e
  | some (.exc x ρ σ), h => rw [h.imp _ rfl]; exact e
  | some (.ret x ρ σ), h => rw [h.imp _ rfl]; exact e
def excOf (m : Option RS) (f : PX → Loc → Store → Option RS) : Option RS := match m with
  | some (.exc x ρ σ) => f x ρ σ
  | r => r
theorem excOf_le {m m' : Option RS} {f f' : PX → Loc → Store → Option RS} (h : Le m m') (hf : ∀ x a σ, Le (f x a σ) (f' x a σ)) : Le (excOf m f) (excOf m' f') := by
  refine ⟨fun r e => ?_⟩
  match m, h with
  | .none, _ => cases e
  | some (.nxt ρ σ), h => rw [h.imp _ rfl]; exact e
  | some (.exc x ρ σ), h => rw [h.imp _ rfl]; exact (hf _ _ _).imp r e
  | some (.ret x ρ σ), h => rw [h.imp _ rfl]; exact e
def caughtOf (m : Option (R PV)) : Option RS := match m with
  | some (.ok (.bool b) σ) => some (.ret (.bool b) [] σ)
  | _ => .none
theorem caughtOf_le {m m' : Option (R PV)} (h : Le m m') : Le (caughtOf m) (caughtOf m') := by
  refine ⟨fun r e => ?_⟩
  match m, h with
  | .none, _ => cases e
  | some (.ok v σ), h => rw [h.imp _ rfl]; exact e
  | some (.exc x σ), h => rw [h.imp _ rfl]; exact e

structure Up (n : Nat) : Prop where
  ev : ∀ Φ e ρ σ, Le (ev Φ n e ρ σ) (ev Φ (n + 1) e ρ σ)
  evT : ∀ Φ e ρ σ, Le (evT Φ n e ρ σ) (evT Φ (n + 1) e ρ σ)
  evTs : ∀ Φ c e ρ σ, Le (evTs Φ n c e ρ σ) (evTs Φ (n + 1) c e ρ σ)
  evB : ∀ Φ c e ρ σ, Le (evB Φ n c e ρ σ) (evB Φ (n + 1) c e ρ σ)
  evs : ∀ Φ e ρ σ, Le (evs Φ n e ρ σ) (evs Φ (n + 1) e ρ σ)
  evO : ∀ Φ e ρ σ, Le (evO Φ n e ρ σ) (evO Φ (n + 1) e ρ σ)
  evC : ∀ Φ elt xs tt c src i ρ acc σ, Le (evC Φ n elt xs tt c src i ρ acc σ) (evC Φ (n + 1) elt xs tt c src i ρ acc σ)

theorem up_ev {n : Nat} (U : Up n) (Φ : Sig) (e : CE) (ρ : Loc) (σ : Store) : Le (ev Φ (n + 1) e ρ σ) (ev Φ (n + 1 + 1) e ρ σ) := by
  cases e with
  | loc x => exact Le.refl _
  | glo x => exact Le.refl _
  | cnone => exact Le.refl _
  | cbool b => exact Le.refl _
  | cint b => exact Le.refl _
  | cstr b => exact Le.refl _
  | neg a => exact bnd_le (U.ev ..) fun _ _ => Le.refl _
  | not a => exact bnd_le (U.ev ..) fun _ _ => Le.refl _
  | bin op a b => exact bnd_le (U.ev ..) fun _ _ => bnd_le (U.ev ..) fun _ _ => Le.refl _
  | cmp op a b => exact bnd_le (U.ev ..) fun _ _ => bnd_le (U.ev ..) fun _ _ => Le.refl _
  | cmpNil op a => exact bnd_le (U.ev ..) fun _ _ => Le.refl _
  | bop c l => exact U.evB ..
  | ite t b o => exact bnd_le (U.evT ..) fun _ _ => ite_le (U.ev ..) (U.ev ..)
  | tup l => exact bnd_le (U.evs ..) fun _ _ => Le.refl _
  | lst l => exact ite_le (Le.refl _) (bnd_le (U.evs ..) fun _ _ => Le.refl _)
  | sub a b => exact bnd_le (U.ev ..) fun _ _ => bnd_le (U.ev ..) fun _ _ => Le.refl _
  | slice a lo hi => exact bnd_le (U.ev ..) fun _ _ => bnd_le (U.evO ..) fun _ _ => bnd_le (U.evO ..) fun _ _ => Le.refl _
  | call f l => exact ite_le (Le.refl _) (bnd_le (U.evs ..) fun _ _ => Le.refl _)
  | bi b l => exact ite_le (Le.refl _) (bnd_le (U.evs ..) fun _ _ => Le.refl _)
  | meth o m l =>
    refine ite_le (Le.refl _) (bnd_le (U.ev ..) fun v σ' => ?_)
    cases v <;> try exact Le.refl _
    rename_i k
    dsimp only
    rcases σ'[k]? with _ | (_ | _ | _) <;> try exact Le.refl _
    exact ite_le (Le.refl _) (bnd_le (U.evs ..) fun _ _ => Le.refl _)
  | mdig a => exact bnd_le (U.ev ..) fun _ _ => Le.refl _
  | mjoin a b =>
    refine bnd_le (U.ev ..) fun v σ' => ?_
    cases v <;> try exact Le.refl _
    rename_i l
    cases l
    · exact bnd_le (U.ev ..) fun _ _ => Le.refl _
    · exact Le.refl _
  | mapp a b =>
    refine ite_le (Le.refl _) (bnd_le (U.ev ..) fun v σ' => ?_)
    cases v <;> try exact Le.refl _
    rename_i k
    dsimp only
    rcases σ'[k]? with _ | (_ | _ | _) <;> try exact Le.refl _
    exact bnd_le (U.ev ..) fun _ _ => Le.refl _
  | mpop a => exact ite_le (Le.refl _) (bnd_le (U.ev ..) fun _ _ => Le.refl _)
  | attr a b => exact bnd_le (U.ev ..) fun _ _ => Le.refl _
  | fstr a b => exact bnd_le (U.ev ..) fun _ _ => Le.refl _
  | fstrs a b => exact bnd_le (U.ev ..) fun _ _ => Le.refl _
  | comp elt xs tt fv it c =>
    refine ite_le (Le.refl _) (bnd_le (U.ev ..) fun v σ' => ?_)
    rcases capture ρ fv with _ | ρ' <;> try exact Le.refl _
    exact bnd_le (U.evC ..) fun _ _ => Le.refl _
  | heard i fv e =>
    refine ite_le (Le.refl _) ?_
    rcases capture ρ fv with _ | ρ' <;> try exact Le.refl _
    rcases σ[0]? with _ | (_ | _ | l) <;> try exact Le.refl _
    exact ite_le (Le.refl _) (heardOf_le (U.ev ..))
theorem up_all : ∀ n, Up n
  | 0 => ⟨fun _ _ _ _ => Le.none _, fun _ _ _ _ => Le.none _, fun _ _ _ _ _ => Le.none _, fun _ _ _ _ _ => Le.none _, fun _ _ _ _ => Le.none _, fun _ _ _ _ => Le.none _, fun _ _ _ _ _ _ _ _ _ _ => Le.none _⟩
  | n + 1 => by
    have U := up_all n
    refine ⟨fun Φ e ρ σ => up_ev U Φ e ρ σ, fun Φ e ρ σ => ?_, fun Φ c e ρ σ => ?_, fun Φ c e ρ σ => ?_, fun Φ e ρ σ => ?_, fun Φ e ρ σ => ?_, fun Φ elt xs tt c src i ρ acc σ => ?_⟩
    · cases e
      case not a => exact bnd_le (U.evT ..) fun _ _ => Le.refl _
      case bop c l => exact U.evTs ..
      case ite t b o => exact bnd_le (U.evT ..) fun _ _ => ite_le (U.evT ..) (U.evT ..)
      all_goals exact bnd_le (U.ev ..) fun _ _ => Le.refl _
    · cases e with
      | nil => exact Le.refl _
      | cons x r => exact bnd_le (U.evT ..) fun _ _ => ite_le (U.evTs ..) (Le.refl _)
    · match e with
      | [] => exact Le.refl _
      | [x] => exact U.ev ..
      | x :: y :: r =>
        refine bnd_le (U.ev ..) fun v σ' => ?_
        rcases truth v with _ | b
        · exact Le.refl _
        · exact ite_le (U.evB ..) (Le.refl _)
    · cases e with
      | nil => exact Le.refl _
      | cons x r => exact bnd_le (U.ev ..) fun _ _ => bnd_le (U.evs ..) fun _ _ => Le.refl _
    · cases e with
      | none => exact Le.refl _
      | some x => exact bnd_le (U.ev ..) fun _ _ => Le.refl _
    · simp only [evC]
      rcases itemAt σ tt src i with _ | (_ | v) <;> try exact Le.refl _
      dsimp only
      rcases takeV ρ xs tt v with _ | ρ <;> try exact Le.refl _
      dsimp only
      refine bnd_le ?_ fun b σ => ite_le (bnd_le (U.ev ..) fun _ _ => ite_le (U.evC ..) (Le.refl _)) (U.evC ..)
      cases c with
      | none => exact Le.refl _
      | some c => exact U.evT ..
structure UpS (n : Nat) : Prop where
  ex : ∀ Φ e ρ σ, Le (ex Φ n e ρ σ) (ex Φ (n + 1) e ρ σ)
  exs : ∀ Φ e ρ σ, Le (exs Φ n e ρ σ) (exs Φ (n + 1) e ρ σ)
  exF : ∀ Φ xs tt src i b ρ σ, Le (exF Φ n xs tt src i b ρ σ) (exF Φ (n + 1) xs tt src i b ρ σ)
  exW : ∀ Φ t b ρ σ, Le (exW Φ n t b ρ σ) (exW Φ (n + 1) t b ρ σ)
theorem up_ex {n : Nat} (U : UpS n) (Φ : Sig) (e : CS) (ρ : Loc) (σ : Store) : Le (ex Φ (n + 1) e ρ σ) (ex Φ (n + 1 + 1) e ρ σ) := by
  have V := up_all n
  cases e with
  | asg x e => exact ite_le (Le.refl _) (bndE_le (V.ev ..) fun _ _ => Le.refl _)
  | asgT x e => exact ite_le (Le.refl _) (bndE_le (V.ev ..) fun _ _ => Le.refl _)
  | seta o a e => exact ite_le (Le.refl _) (bndE_le (V.ev ..) fun _ _ => bndE_le (V.ev ..) fun _ _ => Le.refl _)
  | seti o i e => exact ite_le (Le.refl _) (bndE_le (V.ev ..) fun _ _ => bndE_le (V.ev ..) fun _ _ => bndE_le (V.ev ..) fun _ _ => Le.refl _)
  | exp e => exact ite_le (Le.refl _) (bndE_le (V.ev ..) fun _ _ => Le.refl _)
  | ret e => exact bndE_le (V.ev ..) fun _ _ => Le.refl _
  | iff t b o => exact bndE_le (V.evT ..) fun _ _ => ite_le (U.exs ..) (U.exs ..)
  | forr xs tt it b => exact ite_le (Le.refl _) (bndE_le (V.ev ..) fun _ _ => U.exF ..)
  | whil t b => exact ite_le (Le.refl _) (U.exW ..)
  | rais c l => exact ite_le (Le.refl _) (bndE_le (V.evs ..) fun _ _ => Le.refl _)
  | tryy b c y e =>
    refine ite_le (Le.refl _) (excOf_le (U.exs ..) fun x ρ σ => ite_le ?_ (Le.refl _))
    rcases x.spot with _ | i
    · exact Le.refl _
    · exact caughtOf_le (V.ev ..)
theorem up_exs : ∀ n, UpS n
  | 0 => ⟨fun _ _ _ _ => Le.none _, fun _ _ _ _ => Le.none _, fun _ _ _ _ _ _ _ _ => Le.none _, fun _ _ _ _ _ => Le.none _⟩
  | n + 1 => by
    have U := up_exs n
    have V := up_all n
    refine ⟨fun Φ e ρ σ => up_ex U Φ e ρ σ, fun Φ e ρ σ => ?_, fun Φ xs tt src i b ρ σ => ?_, fun Φ t b ρ σ => ?_⟩
    · cases e with
      | nil => exact Le.refl _
      | cons x r => exact nextOf_le (U.ex ..) fun _ _ => U.exs ..
    · simp only [exF]
      rcases itemAt σ tt src i with _ | (_ | v) <;> try exact Le.refl _
      dsimp only
      rcases takeV ρ xs tt v with _ | ρ <;> try exact Le.refl _
      exact nextOf_le (U.exs ..) fun _ _ => U.exF ..
    · exact bndE_le (V.evT ..) fun _ _ => ite_le (nextOf_le (U.exs ..) fun _ _ => U.exW ..) (Le.refl _)
end Mine
end
/-! L2: the evaluator without fuel -/
section
set_option autoImplicit false
set_option linter.unusedVariables false
set_option linter.unusedSimpArgs false
namespace Mine
open PySem

structure Lim {α : Type} (f : Nat → Option α) (x : Option α) : Prop where
  mo : ∀ n, Le (f n) (f (n + 1))
  is : ∀ r, x = some r ↔ ∃ n, f n = some r
section
variable {α β : Type}
theorem le_of_mo {f : Nat → Option α} (h : ∀ n, Le (f n) (f (n + 1))) {r : α} {n : Nat} (e : f n = some r) : ∀ m, n ≤ m → f m = some r := by
  intro m hm
  obtain ⟨d, rfl⟩ := Nat.exists_eq_add_of_le hm
  induction d with
  | zero => exact e
  | succ d ih => exact (h _).imp _ (ih (by omega))
theorem Lim.unique {f : Nat → Option α} {x y : Option α} (a : Lim f x) (b : Lim f y) : x = y := by
  apply Option.ext
  intro r
  rw [a.is, b.is]
theorem Lim.const (x : Option α) : Lim (fun _ => x) x := ⟨fun _ => Le.refl _, fun r => ⟨fun h => ⟨0, h⟩, fun ⟨_, h⟩ => h⟩⟩
theorem Lim.shift {f : Nat → Option α} {x : Option α} (a : Lim f x) : Lim (fun n => f (n + 1)) x :=
  ⟨fun n => a.mo (n + 1), fun r => (a.is r).trans ⟨fun ⟨n, h⟩ => ⟨n, (a.mo n).imp _ h⟩, fun ⟨n, h⟩ => ⟨n + 1, h⟩⟩⟩
theorem Lim.ite {c : Prop} [Decidable c] {f g : Nat → Option α} {x y : Option α} (a : Lim f x) (b : Lim g y) : Lim (fun n => if c then f n else g n) (if c then x else y) := by
  by_cases h : c
  · simp only [if_pos h]; exact a
  · simp only [if_neg h]; exact b
theorem Lim.bnd {m : Nat → Option (R α)} {x : Option (R α)} {f : Nat → α → Store → Option (R β)} {g : α → Store → Option (R β)} (a : Lim m x) (b : ∀ v σ, Lim (fun n => f n v σ) (g v σ)) : Lim (fun n => bnd (m n) (f n)) (bnd x g) := by
  refine ⟨fun n => bnd_le (a.mo n) fun v σ => (b v σ).mo n, fun r => ⟨fun h => ?_, fun ⟨n, h⟩ => ?_⟩⟩
  · match x, a, h with
    | some (.ok v σ), a, h =>
      obtain ⟨n, hn⟩ := (a.is _).mp rfl
      obtain ⟨n', hn'⟩ := ((b v σ).is r).mp h
      refine ⟨max n n', ?_⟩
      rw [le_of_mo a.mo hn _ (Nat.le_max_left n n')]
      exact le_of_mo (b v σ).mo hn' _ (Nat.le_max_right n n')
    | some (.exc v σ), a, h =>
      obtain ⟨n, hn⟩ := (a.is _).mp rfl
      exact ⟨n, by rw [hn]; exact h⟩
  · cases z : m n with
    | none => rw [z] at h; cases h
    | some q =>
      have hx := (a.is q).mpr ⟨n, z⟩
      rw [z] at h
      rw [hx]
      match q, h with
      | .ok v σ, h => exact ((b v σ).is r).mpr ⟨n, h⟩
      | .exc v σ, h => exact h
theorem Lim.bndE {ρ : Loc} {m : Nat → Option (R α)} {x : Option (R α)} {f : Nat → α → Store → Option RS} {g : α → Store → Option RS} (a : Lim m x) (b : ∀ v σ, Lim (fun n => f n v σ) (g v σ)) : Lim (fun n => bndE ρ (m n) (f n)) (bndE ρ x g) := by
  refine ⟨fun n => bndE_le (a.mo n) fun v σ => (b v σ).mo n, fun r => ⟨fun h => ?_, fun ⟨n, h⟩ => ?_⟩⟩
  · match x, a, h with
    | some (.ok v σ), a, h =>
      obtain ⟨n, hn⟩ := (a.is _).mp rfl
      obtain ⟨n', hn'⟩ := ((b v σ).is r).mp h
      refine ⟨max n n', ?_⟩
      rw [le_of_mo a.mo hn _ (Nat.le_max_left n n')]
      exact le_of_mo (b v σ).mo hn' _ (Nat.le_max_right n n')
    | some (.exc v σ), a, h =>
      obtain ⟨n, hn⟩ := (a.is _).mp rfl
      exact ⟨n, by rw [hn]; exact h⟩
  · cases z : m n with
    | none => rw [z] at h; cases h
    | some q =>
      have hx := (a.is q).mpr ⟨n, z⟩
      rw [z] at h
      rw [hx]
      match q, h with
      | .ok v σ, h => exact ((b v σ).is r).mpr ⟨n, h⟩
      | .exc v σ, h => exact h
theorem Lim.next {m : Nat → Option RS} {x : Option RS} {f : Nat → Loc → Store → Option RS} {g : Loc → Store → Option RS} (a : Lim m x) (b : ∀ v σ, Lim (fun n => f n v σ) (g v σ)) : Lim (fun n => nextOf (m n) (f n)) (nextOf x g) := by
  refine ⟨fun n => nextOf_le (a.mo n) fun v σ => (b v σ).mo n, fun r => ⟨fun h => ?_, fun ⟨n, h⟩ => ?_⟩⟩
  · match x, a, h with
    | some (.nxt v σ), a, h =>
      obtain ⟨n, hn⟩ := (a.is _).mp rfl
      obtain ⟨n', hn'⟩ := ((b v σ).is r).mp h
      refine ⟨max n n', ?_⟩
      rw [le_of_mo a.mo hn _ (Nat.le_max_left n n')]
      exact le_of_mo (b v σ).mo hn' _ (Nat.le_max_right n n')
    | some (.exc v _ σ), a, h =>
      obtain ⟨n, hn⟩ := (a.is _).mp rfl
      exact ⟨n, by rw [hn]; exact h⟩
    | some (.ret v _ σ), a, h =>
      obtain ⟨n, hn⟩ := (a.is _).mp rfl
      exact ⟨n, by rw [hn]; exact h⟩
  · cases z : m n with
    | none => rw [z] at h; cases h
    | some q =>
      have hx := (a.is q).mpr ⟨n, z⟩
      rw [z] at h
      rw [hx]
      match q, h with
      | .nxt v σ, h => exact ((b v σ).is r).mpr ⟨n, h⟩
      | .exc v _ σ, h => exact h
      | .ret v _ σ, h => exact h
theorem Lim.excOf {m : Nat → Option RS} {x : Option RS} {f : Nat → PX → Loc → Store → Option RS} {g : PX → Loc → Store → Option RS} (a : Lim m x) (b : ∀ x v σ, Lim (fun n => f n x v σ) (g x v σ)) : Lim (fun n => excOf (m n) (f n)) (excOf x g) := by
  refine ⟨fun n => excOf_le (a.mo n) fun x v σ => (b x v σ).mo n, fun r => ⟨fun h => ?_, fun ⟨n, h⟩ => ?_⟩⟩
  · match x, a, h with
    | some (.exc x v σ), a, h =>
      obtain ⟨n, hn⟩ := (a.is _).mp rfl
      obtain ⟨n', hn'⟩ := ((b x v σ).is r).mp h
      refine ⟨max n n', ?_⟩
      rw [le_of_mo a.mo hn _ (Nat.le_max_left n n')]
      exact le_of_mo (b x v σ).mo hn' _ (Nat.le_max_right n n')
    | some (.nxt v σ), a, h =>
      obtain ⟨n, hn⟩ := (a.is _).mp rfl
      exact ⟨n, by rw [hn]; exact h⟩
    | some (.ret v _ σ), a, h =>
      obtain ⟨n, hn⟩ := (a.is _).mp rfl
      exact ⟨n, by rw [hn]; exact h⟩
  · cases z : m n with
    | none => rw [z] at h; cases h
    | some q =>
      have hx := (a.is q).mpr ⟨n, z⟩
      rw [z] at h
      rw [hx]
      match q, h with
      | .exc x v σ, h => exact ((b x v σ).is r).mpr ⟨n, h⟩
      | .nxt v σ, h => exact h
      | .ret v _ σ, h => exact h
theorem Lim.through {m : Nat → Option α} {x : Option α} {F : Option α → Option β} (a : Lim m x) (hF : F none = none) : Lim (fun n => F (m n)) (F x) := by
  refine ⟨fun n => ⟨fun r h => ?_⟩, fun r => ⟨fun h => ?_, fun ⟨n, h⟩ => ?_⟩⟩
  · cases z : m n with
    | none => rw [z, hF] at h; cases h
    | some q => rw [(a.mo n).imp _ z, ← z]; exact h
  · cases z : x with
    | none => rw [z, hF] at h; cases h
    | some q =>
      obtain ⟨n, hn⟩ := (a.is q).mp z
      exact ⟨n, by rw [hn, ← z]; exact h⟩
  · cases z : m n with
    | none => rw [z, hF] at h; cases h
    | some q => rw [(a.is q).mpr ⟨n, z⟩, ← z]; exact h
open Classical in
noncomputable def lim (f : Nat → Option α) : Option α := if h : ∃ r n, f n = some r then some h.choose else none
theorem lim_is {f : Nat → Option α} (h : ∀ n, Le (f n) (f (n + 1))) : Lim f (lim f) := by
  refine ⟨h, fun r => ?_⟩
  unfold lim
  split
  · rename_i q
    obtain ⟨n, hn⟩ := q.choose_spec
    constructor
    · intro e
      rw [← Option.some.inj e]
      exact ⟨n, hn⟩
    · rintro ⟨m, hm⟩
      have h1 := le_of_mo h hn _ (Nat.le_max_left n m)
      have h2 := le_of_mo h hm _ (Nat.le_max_right n m)
      rw [h1] at h2
      exact h2
  · rename_i q
    constructor
    · intro e
      cases e
    · rintro ⟨n, e⟩
      exact absurd ⟨r, n, e⟩ q

end

noncomputable def EV (Φ : Sig) (e : CE) (ρ : Loc) (σ : Store) := lim fun n => ev Φ n e ρ σ
noncomputable def ET (Φ : Sig) (e : CE) (ρ : Loc) (σ : Store) := lim fun n => evT Φ n e ρ σ
noncomputable def ETs (Φ : Sig) (c : Bool) (e : List CE) (ρ : Loc) (σ : Store) := lim fun n => evTs Φ n c e ρ σ
noncomputable def EB (Φ : Sig) (c : Bool) (e : List CE) (ρ : Loc) (σ : Store) := lim fun n => evB Φ n c e ρ σ
noncomputable def EVs (Φ : Sig) (e : List CE) (ρ : Loc) (σ : Store) := lim fun n => evs Φ n e ρ σ
noncomputable def EO (Φ : Sig) (e : Option CE) (ρ : Loc) (σ : Store) := lim fun n => evO Φ n e ρ σ
noncomputable def EC (Φ : Sig) (elt : CE) (xs : List Nat) (tt : Bool) (c : Option CE) (src : PV) (i : Nat) (ρ : Loc) (acc : List PV) (σ : Store) := lim fun n => evC Φ n elt xs tt c src i ρ acc σ
noncomputable def EX (Φ : Sig) (e : CS) (ρ : Loc) (σ : Store) := lim fun n => ex Φ n e ρ σ
noncomputable def EXs (Φ : Sig) (e : List CS) (ρ : Loc) (σ : Store) := lim fun n => exs Φ n e ρ σ
noncomputable def EF (Φ : Sig) (xs : List Nat) (tt : Bool) (src : PV) (i : Nat) (b : List CS) (ρ : Loc) (σ : Store) := lim fun n => exF Φ n xs tt src i b ρ σ
noncomputable def EW (Φ : Sig) (t : CE) (b : List CS) (ρ : Loc) (σ : Store) := lim fun n => exW Φ n t b ρ σ
section
variable {Φ : Sig} {ρ : Loc} {σ : Store}
theorem lEV {e : CE} : Lim (fun n => ev Φ n e ρ σ) (EV Φ e ρ σ) := lim_is fun n => (up_all n).ev ..
theorem lET {e : CE} : Lim (fun n => evT Φ n e ρ σ) (ET Φ e ρ σ) := lim_is fun n => (up_all n).evT ..
theorem lETs {c : Bool} {e : List CE} : Lim (fun n => evTs Φ n c e ρ σ) (ETs Φ c e ρ σ) := lim_is fun n => (up_all n).evTs ..
theorem lEB {c : Bool} {e : List CE} : Lim (fun n => evB Φ n c e ρ σ) (EB Φ c e ρ σ) := lim_is fun n => (up_all n).evB ..
theorem lEVs {e : List CE} : Lim (fun n => evs Φ n e ρ σ) (EVs Φ e ρ σ) := lim_is fun n => (up_all n).evs ..
theorem lEO {e : Option CE} : Lim (fun n => evO Φ n e ρ σ) (EO Φ e ρ σ) := lim_is fun n => (up_all n).evO ..
theorem lEC {elt : CE} {xs : List Nat} {tt : Bool} {c : Option CE} {src : PV} {i : Nat} {acc : List PV} : Lim (fun n => evC Φ n elt xs tt c src i ρ acc σ) (EC Φ elt xs tt c src i ρ acc σ) := lim_is fun n => (up_all n).evC ..
theorem lEX {e : CS} : Lim (fun n => ex Φ n e ρ σ) (EX Φ e ρ σ) := lim_is fun n => (up_exs n).ex ..
theorem lEXs {e : List CS} : Lim (fun n => exs Φ n e ρ σ) (EXs Φ e ρ σ) := lim_is fun n => (up_exs n).exs ..
theorem lEF {xs : List Nat} {tt : Bool} {src : PV} {i : Nat} {b : List CS} : Lim (fun n => exF Φ n xs tt src i b ρ σ) (EF Φ xs tt src i b ρ σ) := lim_is fun n => (up_exs n).exF ..
theorem lEW {t : CE} {b : List CS} : Lim (fun n => exW Φ n t b ρ σ) (EW Φ t b ρ σ) := lim_is fun n => (up_exs n).exW ..

theorem EV_loc {x : Nat} : EV Φ (.loc x) ρ σ = rok (lk ρ x) σ := lEV.shift.unique (Lim.const _)
theorem EV_glo {x : Nat} : EV Φ (.glo x) ρ σ = rok (Φ.glo x) σ := lEV.shift.unique (Lim.const _)
theorem EV_cnone : EV Φ .cnone ρ σ = some (.ok .none σ) := lEV.shift.unique (Lim.const _)
theorem EV_cbool {b : Bool} : EV Φ (.cbool b) ρ σ = some (.ok (.bool b) σ) := lEV.shift.unique (Lim.const _)
theorem EV_cint {i : Int} : EV Φ (.cint i) ρ σ = some (.ok (.int i) σ) := lEV.shift.unique (Lim.const _)
theorem EV_cstr {s : List Nat} : EV Φ (.cstr s) ρ σ = some (.ok (.str s) σ) := lEV.shift.unique (Lim.const _)
theorem EV_neg {a : CE} : EV Φ (.neg a) ρ σ = bnd (EV Φ a ρ σ) fun v σ => rok (negop v) σ := lEV.shift.unique (Lim.bnd lEV fun _ _ => Lim.const _)
theorem EV_not {a : CE} : EV Φ (.not a) ρ σ = bnd (EV Φ a ρ σ) fun v σ => rok ((truth v).map fun b => .bool (!b)) σ := lEV.shift.unique (Lim.bnd lEV fun _ _ => Lim.const _)
theorem EV_bin {op : Operator} {a b : CE} : EV Φ (.bin op a b) ρ σ = bnd (EV Φ a ρ σ) fun v σ => bnd (EV Φ b ρ σ) fun u σ => rok (binop op v u) σ := lEV.shift.unique (Lim.bnd lEV fun _ _ => Lim.bnd lEV fun _ _ => Lim.const _)
theorem EV_cmp {op : CmpOp} {a b : CE} : EV Φ (.cmp op a b) ρ σ = bnd (EV Φ a ρ σ) fun v σ => bnd (EV Φ b ρ σ) fun u σ => rok ((cmpop op v u).map .bool) σ := lEV.shift.unique (Lim.bnd lEV fun _ _ => Lim.bnd lEV fun _ _ => Lim.const _)
theorem EV_cmpNil {a : CE} : EV Φ (.cmpNil .Eq a) ρ σ = bnd (EV Φ a ρ σ) fun v σ => rok ((isNil σ v).map .bool) σ := lEV.shift.unique (Lim.bnd lEV fun _ _ => Lim.const _)
theorem EV_bop {c : Bool} {l : List CE} : EV Φ (.bop c l) ρ σ = EB Φ c l ρ σ := lEV.shift.unique lEB
theorem EV_ite {t b o : CE} : EV Φ (.ite t b o) ρ σ = bnd (ET Φ t ρ σ) fun c σ => if c = true then EV Φ b ρ σ else EV Φ o ρ σ := lEV.shift.unique (Lim.bnd lET fun _ _ => Lim.ite lEV lEV)
theorem EV_tup {l : List CE} : EV Φ (.tup l) ρ σ = bnd (EVs Φ l ρ σ) fun vs σ => if vs.length ≤ SZ then some (.ok (.tup vs) σ) else .none := lEV.shift.unique (Lim.bnd lEVs fun _ _ => Lim.const _)
theorem EV_lst {l : List CE} : EV Φ (.lst l) ρ σ = if Φ.q = true then .none else bnd (EVs Φ l ρ σ) fun vs σ => if vs.length ≤ SZ then some (.ok (.ref σ.length) (σ ++ [.lst vs])) else .none := lEV.shift.unique (Lim.ite (Lim.const _) (Lim.bnd lEVs fun _ _ => Lim.const _))
theorem EV_sub {a b : CE} : EV Φ (.sub a b) ρ σ = bnd (EV Φ a ρ σ) fun v σ => bnd (EV Φ b ρ σ) fun u σ => rok (subop σ v u) σ := lEV.shift.unique (Lim.bnd lEV fun _ _ => Lim.bnd lEV fun _ _ => Lim.const _)
theorem EV_slice {a : CE} {lo hi : Option CE} : EV Φ (.slice a lo hi) ρ σ = bnd (EV Φ a ρ σ) fun v σ => bnd (EO Φ lo ρ σ) fun x σ => bnd (EO Φ hi ρ σ) fun y σ => rok (sliceop v x y) σ := lEV.shift.unique (Lim.bnd lEV fun _ _ => Lim.bnd lEO fun _ _ => Lim.bnd lEO fun _ _ => Lim.const _)
theorem EV_call {f : Nat} {l : List CE} : EV Φ (.call f l) ρ σ = if Φ.q = true ∨ Φ.kn f = false then .none else bnd (EVs Φ l ρ σ) fun vs σ => Φ.fn f vs σ := lEV.shift.unique (Lim.ite (Lim.const _) (Lim.bnd lEVs fun _ _ => Lim.const _))
theorem EV_bi {b : Bi} {l : List CE} : EV Φ (.bi b l) ρ σ = if Φ.q = true ∧ b = .max then .none else bnd (EVs Φ l ρ σ) fun vs σ => rok (biop b vs σ) σ := lEV.shift.unique (Lim.ite (Lim.const _) (Lim.bnd lEVs fun _ _ => Lim.const _))
theorem EV_meth {o : CE} {m : Nat} {l : List CE} : EV Φ (.meth o m l) ρ σ = if Φ.q = true then .none else bnd (EV Φ o ρ σ) fun v σ => match v with
    | .ref k => match σ[k]? with
      | some (.inst c a) => if (lk a m).isSome = true ∨ Φ.km c m = false then .none else bnd (EVs Φ l ρ σ) fun vs σ => Φ.meth c m k vs σ
      | _ => .none
    | _ => .none := by
  refine lEV.shift.unique (Lim.ite (Lim.const _) (Lim.bnd lEV fun v σ' => ?_))
  cases v <;> try exact Lim.const _
  rename_i k
  dsimp only
  rcases σ'[k]? with _ | (_ | _ | _) <;> try exact Lim.const _
  exact Lim.ite (Lim.const _) (Lim.bnd lEVs fun _ _ => Lim.const _)
theorem EV_mdig {o : CE} : EV Φ (.mdig o) ρ σ = bnd (EV Φ o ρ σ) fun v σ => match v with
    | .str l => if l.all (fun c => Nat.blt c 128) = true then some (.ok (.bool (!l.isEmpty && l.all isDig)) σ) else .none
    | _ => .none := lEV.shift.unique (Lim.bnd lEV fun _ _ => Lim.const _)
theorem EV_mjoin {o a : CE} : EV Φ (.mjoin o a) ρ σ = bnd (EV Φ o ρ σ) fun v σ => match v with
    | .str [] => bnd (EV Φ a ρ σ) fun u σ => match u with
      | .lst l => match strsOf l with
        | some ss => if ss.length ≤ SZ ∧ ss.flatten.length ≤ SZ then some (.ok (.str ss.flatten) σ) else .none
        | .none => .none
      | _ => .none
    | _ => .none := by
  refine lEV.shift.unique (Lim.bnd lEV fun v σ' => ?_)
  cases v <;> try exact Lim.const _
  rename_i l
  cases l
  · exact Lim.bnd lEV fun _ _ => Lim.const _
  · exact Lim.const _
theorem EV_mapp {o a : CE} : EV Φ (.mapp o a) ρ σ = if Φ.q = true then .none else bnd (EV Φ o ρ σ) fun v σ => match v with
    | .ref k => match σ[k]? with
      | some (.lst _) => bnd (EV Φ a ρ σ) fun u σ => match σ[k]? with
        | some (.lst l) => if l.length ≤ SZ then some (.ok .none (σ.set k (.lst (l ++ [u])))) else .none
        | _ => .none
      | _ => .none
    | _ => .none := by
  refine lEV.shift.unique (Lim.ite (Lim.const _) (Lim.bnd lEV fun v σ' => ?_))
  cases v <;> try exact Lim.const _
  rename_i k
  dsimp only
  rcases σ'[k]? with _ | (_ | _ | _) <;> try exact Lim.const _
  exact Lim.bnd lEV fun _ _ => Lim.const _
theorem EV_mpop {o : CE} : EV Φ (.mpop o) ρ σ = if Φ.q = true then .none else bnd (EV Φ o ρ σ) fun v σ => match v with
    | .ref k => match σ[k]? with
      | some (.lst l) => if l.length ≤ SZ then (match l.getLast? with
        | some u => some (.ok u (σ.set k (.lst l.dropLast)))
        | .none => .none) else .none
      | _ => .none
    | _ => .none := lEV.shift.unique (Lim.ite (Lim.const _) (Lim.bnd lEV fun _ _ => Lim.const _))
theorem EV_attr {o : CE} {a : Nat} : EV Φ (.attr o a) ρ σ = bnd (EV Φ o ρ σ) fun v σ => rok (attrop σ v a spotName) σ := lEV.shift.unique (Lim.bnd lEV fun _ _ => Lim.const _)
theorem EV_fstr {pre : List Nat} {e : CE} : EV Φ (.fstr pre e) ρ σ = bnd (EV Φ e ρ σ) fun v σ => match v with
    | .int i => if i.natAbs < 1000000000000000000 ∧ pre.length ≤ 1000 then some (.ok (.str (pre ++ digs i)) σ) else .none
    | _ => .none := lEV.shift.unique (Lim.bnd lEV fun _ _ => Lim.const _)
theorem EV_fstrs {post : List Nat} {e : CE} : EV Φ (.fstrs e post) ρ σ = bnd (EV Φ e ρ σ) fun v σ => match v with
    | .str l => if l.length ≤ SZ then some (.ok (.str (l ++ post)) σ) else .none
    | _ => .none := lEV.shift.unique (Lim.bnd lEV fun _ _ => Lim.const _)
theorem EV_comp {elt : CE} {xs fv : List Nat} {tt : Bool} {it : CE} {c : Option CE} : EV Φ (.comp elt xs tt fv it c) ρ σ = if Φ.q = true then .none else bnd (EV Φ it ρ σ) fun src σ => match capture ρ fv with
    | some ρ' => bnd (EC Φ elt xs tt c src 0 ρ' [] σ) fun l σ => some (.ok (.lst l) σ)
    | .none => .none := by
  refine lEV.shift.unique (Lim.ite (Lim.const _) (Lim.bnd lEV fun v σ' => ?_))
  rcases capture ρ fv with _ | ρ' <;> try exact Lim.const _
  exact Lim.bnd lEC fun _ _ => Lim.const _
theorem EV_heard {i : Nat} {fv : List Nat} {e : CE} : EV Φ (.heard i fv e) ρ σ = if Φ.q = true ∨ Φ.top = false then .none else match capture ρ fv, σ[0]? with
    | some ρ', some (PO.tab l) => if l.contains i = true then .none else heardOf sTold sLimit sTerm (EV Φ.low e ρ' (σ.set 0 (.tab (i :: l))))
    | _, _ => .none := by
  refine lEV.shift.unique (Lim.ite (Lim.const _) ?_)
  rcases capture ρ fv with _ | ρ' <;> try exact Lim.const _
  rcases σ[0]? with _ | (_ | _ | l) <;> try exact Lim.const _
  exact Lim.ite (Lim.const _) (Lim.through (F := heardOf sTold sLimit sTerm) lEV rfl)
theorem ET_not {a : CE} : ET Φ (.not a) ρ σ = bnd (ET Φ a ρ σ) fun b σ => some (.ok (!b) σ) := lET.shift.unique (Lim.bnd lET fun _ _ => Lim.const _)
theorem ET_bop {c : Bool} {l : List CE} : ET Φ (.bop c l) ρ σ = ETs Φ c l ρ σ := lET.shift.unique lETs
theorem ET_ite {t b o : CE} : ET Φ (.ite t b o) ρ σ = bnd (ET Φ t ρ σ) fun c σ => if c = true then ET Φ b ρ σ else ET Φ o ρ σ := lET.shift.unique (Lim.bnd lET fun _ _ => Lim.ite lET lET)
theorem ET_cmp {op : CmpOp} {a b : CE} : ET Φ (.cmp op a b) ρ σ = bnd (EV Φ (.cmp op a b) ρ σ) fun v σ => rok (truth v) σ := lET.shift.unique (Lim.bnd lEV fun _ _ => Lim.const _)
theorem ET_cmpNil {op : CmpOp} {a : CE} : ET Φ (.cmpNil op a) ρ σ = bnd (EV Φ (.cmpNil op a) ρ σ) fun v σ => rok (truth v) σ := lET.shift.unique (Lim.bnd lEV fun _ _ => Lim.const _)
theorem ET_loc {x : Nat} : ET Φ (.loc x) ρ σ = bnd (EV Φ (.loc x) ρ σ) fun v σ => rok (truth v) σ := lET.shift.unique (Lim.bnd lEV fun _ _ => Lim.const _)
theorem ET_call {f : Nat} {l : List CE} : ET Φ (.call f l) ρ σ = bnd (EV Φ (.call f l) ρ σ) fun v σ => rok (truth v) σ := lET.shift.unique (Lim.bnd lEV fun _ _ => Lim.const _)
theorem ET_mdig {o : CE} : ET Φ (.mdig o) ρ σ = bnd (EV Φ (.mdig o) ρ σ) fun v σ => rok (truth v) σ := lET.shift.unique (Lim.bnd lEV fun _ _ => Lim.const _)
theorem ETs_nil {c : Bool} : ETs Φ c [] ρ σ = some (.ok c σ) := lETs.shift.unique (Lim.const _)
theorem ETs_cons {c : Bool} {x : CE} {r : List CE} : ETs Φ c (x :: r) ρ σ = bnd (ET Φ x ρ σ) fun b σ => if b = c then ETs Φ c r ρ σ else some (.ok b σ) := lETs.shift.unique (Lim.bnd lET fun _ _ => Lim.ite lETs (Lim.const _))
theorem EB_one {c : Bool} {x : CE} : EB Φ c [x] ρ σ = EV Φ x ρ σ := lEB.shift.unique lEV
theorem EB_cons {c : Bool} {x y : CE} {r : List CE} : EB Φ c (x :: y :: r) ρ σ = bnd (EV Φ x ρ σ) fun v σ => match truth v with
    | some b => if b = c then EB Φ c (y :: r) ρ σ else some (.ok v σ)
    | .none => .none := by
  refine lEB.shift.unique (Lim.bnd lEV fun v σ' => ?_)
  rcases truth v with _ | b
  · exact Lim.const _
  · exact Lim.ite lEB (Lim.const _)
theorem EVs_nil : EVs Φ [] ρ σ = some (.ok [] σ) := lEVs.shift.unique (Lim.const _)
theorem EVs_cons {x : CE} {r : List CE} : EVs Φ (x :: r) ρ σ = bnd (EV Φ x ρ σ) fun v σ => bnd (EVs Φ r ρ σ) fun vs σ => some (.ok (v :: vs) σ) := lEVs.shift.unique (Lim.bnd lEV fun _ _ => Lim.bnd lEVs fun _ _ => Lim.const _)
theorem EO_none : EO Φ none ρ σ = some (.ok .none σ) := lEO.shift.unique (Lim.const _)
theorem EO_some {x : CE} : EO Φ (some x) ρ σ = bnd (EV Φ x ρ σ) fun v σ => some (.ok (some v) σ) := lEO.shift.unique (Lim.bnd lEV fun _ _ => Lim.const _)
noncomputable def condOf (Φ : Sig) (c : Option CE) (ρ : Loc) (σ : Store) : Option (R Bool) := match c with
  | .none => some (.ok true σ)
  | some c => ET Φ c ρ σ
theorem EC_eq {elt : CE} {xs : List Nat} {tt : Bool} {c : Option CE} {src : PV} {i : Nat} {acc : List PV} : EC Φ elt xs tt c src i ρ acc σ = match itemAt σ tt src i with
    | .none => .none
    | some .none => some (.ok acc σ)
    | some (some v) => match takeV ρ xs tt v with
      | .none => .none
      | some ρ => bnd (condOf Φ c ρ σ) fun b σ =>
        if b = true then bnd (EV Φ elt ρ σ) fun u σ => if acc.length < SZ then EC Φ elt xs tt c src (i + 1) ρ (acc ++ [u]) σ else .none
        else EC Φ elt xs tt c src (i + 1) ρ acc σ := by
  refine lEC.shift.unique ?_
  simp only [evC]
  rcases itemAt σ tt src i with _ | (_ | v) <;> try exact Lim.const _
  dsimp only
  rcases takeV ρ xs tt v with _ | ρ <;> try exact Lim.const _
  dsimp only
  refine Lim.bnd ?_ fun _ _ => Lim.ite (Lim.bnd lEV fun _ _ => Lim.ite lEC (Lim.const _)) lEC
  cases c with
  | none => exact Lim.const _
  | some c => exact lET

theorem EX_asg {x : Nat} {e : CE} : EX Φ (.asg x e) ρ σ = if Φ.q = true then .none else bndE ρ (EV Φ e ρ σ) fun v σ => some (.nxt (setL ρ x v) σ) := lEX.shift.unique (Lim.ite (Lim.const _) (Lim.bndE lEV fun _ _ => Lim.const _))
theorem EX_asgT {xs : List Nat} {e : CE} : EX Φ (.asgT xs e) ρ σ = if Φ.q = true then .none else bndE ρ (EV Φ e ρ σ) fun v σ => match v with
    | .tup l => (setLs ρ xs l).map fun ρ' => .nxt ρ' σ
    | _ => .none := lEX.shift.unique (Lim.ite (Lim.const _) (Lim.bndE lEV fun _ _ => Lim.const _))
theorem EX_seta {o : CE} {a : Nat} {e : CE} : EX Φ (.seta o a e) ρ σ = if Φ.q = true then .none else bndE ρ (EV Φ e ρ σ) fun v σ => bndE ρ (EV Φ o ρ σ) fun u σ => match u with
    | .ref k => (setAtt σ k a v).map fun σ => .nxt ρ σ
    | _ => .none := lEX.shift.unique (Lim.ite (Lim.const _) (Lim.bndE lEV fun _ _ => Lim.bndE lEV fun _ _ => Lim.const _))
theorem EX_seti {o i e : CE} : EX Φ (.seti o i e) ρ σ = if Φ.q = true then .none else bndE ρ (EV Φ e ρ σ) fun v σ => bndE ρ (EV Φ o ρ σ) fun u σ => bndE ρ (EV Φ i ρ σ) fun j σ => match u, j with
    | .ref k, .int j => (setLst σ k j v).map fun σ => .nxt ρ σ
    | _, _ => .none := lEX.shift.unique (Lim.ite (Lim.const _) (Lim.bndE lEV fun _ _ => Lim.bndE lEV fun _ _ => Lim.bndE lEV fun _ _ => Lim.const _))
theorem EX_exp {e : CE} : EX Φ (.exp e) ρ σ = if Φ.q = true then .none else bndE ρ (EV Φ e ρ σ) fun v σ => match v with
    | .none => some (.nxt ρ σ)
    | .str _ => some (.nxt ρ σ)
    | .int _ => some (.nxt ρ σ)
    | _ => .none := lEX.shift.unique (Lim.ite (Lim.const _) (Lim.bndE lEV fun _ _ => Lim.const _))
theorem EX_ret {e : CE} : EX Φ (.ret e) ρ σ = bndE ρ (EV Φ e ρ σ) fun v σ => some (.ret v ρ σ) := lEX.shift.unique (Lim.bndE lEV fun _ _ => Lim.const _)
theorem EX_iff {t : CE} {b o : List CS} : EX Φ (.iff t b o) ρ σ = bndE ρ (ET Φ t ρ σ) fun c σ => if c = true then EXs Φ b ρ σ else EXs Φ o ρ σ := lEX.shift.unique (Lim.bndE lET fun _ _ => Lim.ite lEXs lEXs)
theorem EX_forr {xs : List Nat} {tt : Bool} {it : CE} {b : List CS} : EX Φ (.forr xs tt it b) ρ σ = if Φ.q = true then .none else bndE ρ (EV Φ it ρ σ) fun src σ => EF Φ xs tt src 0 b ρ σ := lEX.shift.unique (Lim.ite (Lim.const _) (Lim.bndE lEV fun _ _ => lEF))
theorem EX_whil {t : CE} {b : List CS} : EX Φ (.whil t b) ρ σ = if Φ.q = true then .none else EW Φ t b ρ σ := lEX.shift.unique (Lim.ite (Lim.const _) lEW)
theorem EX_rais {c : Nat} {l : List CE} : EX Φ (.rais c l) ρ σ = if Φ.q = true ∨ Φ.kx c = false then .none else bndE ρ (EVs Φ l ρ σ) fun vs σ => match Φ.exc c vs with
    | some x => some (.exc x ρ σ)
    | .none => .none := lEX.shift.unique (Lim.ite (Lim.const _) (Lim.bndE lEVs fun _ _ => Lim.const _))
theorem EX_tryy {b : List CS} {c y : Nat} {e : CE} : EX Φ (.tryy b c y e) ρ σ = if Φ.q = true ∨ Φ.kx c = false then .none else excOf (EXs Φ b ρ σ) fun x ρ σ => if x.cls = c then (match x.spot with
        | some i => caughtOf (EV Φ.quiet e (setL ρ y (.exn i)) σ)
        | .none => .none) else .none := by
  refine lEX.shift.unique (Lim.ite (Lim.const _) (Lim.excOf lEXs fun x ρ σ => Lim.ite ?_ (Lim.const _)))
  rcases x.spot with _ | i
  · exact Lim.const _
  · exact Lim.through (F := caughtOf) lEV rfl
theorem EXs_nil : EXs Φ [] ρ σ = some (.nxt ρ σ) := lEXs.shift.unique (Lim.const _)
theorem EXs_cons {s : CS} {r : List CS} : EXs Φ (s :: r) ρ σ = nextOf (EX Φ s ρ σ) fun ρ σ => EXs Φ r ρ σ := lEXs.shift.unique (Lim.next lEX fun _ _ => lEXs)
theorem EF_eq {xs : List Nat} {tt : Bool} {src : PV} {i : Nat} {b : List CS} : EF Φ xs tt src i b ρ σ = match itemAt σ tt src i with
    | .none => .none
    | some .none => some (.nxt ρ σ)
    | some (some v) => match takeV ρ xs tt v with
      | .none => .none
      | some ρ => nextOf (EXs Φ b ρ σ) fun ρ σ => EF Φ xs tt src (i + 1) b ρ σ := by
  refine lEF.shift.unique ?_
  simp only [exF]
  rcases itemAt σ tt src i with _ | (_ | v) <;> try exact Lim.const _
  dsimp only
  rcases takeV ρ xs tt v with _ | ρ <;> try exact Lim.const _
  exact Lim.next lEXs fun _ _ => lEF
theorem EW_eq {t : CE} {b : List CS} : EW Φ t b ρ σ = bndE ρ (ET Φ t ρ σ) fun c σ => if c = true then nextOf (EXs Φ b ρ σ) (fun ρ σ => EW Φ t b ρ σ) else some (.nxt ρ σ) := lEW.shift.unique (Lim.bndE lET fun _ _ => Lim.ite (Lim.next lEXs fun _ _ => lEW) (Lim.const _))
theorem EXs_some {e : List CS} {r : RS} (h : EXs Φ e ρ σ = some r) : ∃ n, exs Φ n e ρ σ = some r := (lEXs.is r).mp h
theorem bnd_okL {α β : Type} {v : α} {f : α → Store → Option (R β)} : bnd (some (.ok v σ)) f = f v σ := rfl
theorem bnd_exc {α β : Type} {x : PX} {f : α → Store → Option (R β)} : bnd (some (.exc x σ)) f = some (.exc x σ) := rfl
theorem bndE_okL {α : Type} {v : α} {f : α → Store → Option RS} : bndE ρ (some (.ok v σ)) f = f v σ := rfl
theorem bndE_exc {α : Type} {x : PX} {f : α → Store → Option RS} : bndE ρ (some (.exc x σ)) f = some (.exc x ρ σ) := rfl
theorem rok_someL {α : Type} {v : α} : rok (some v) σ = some (.ok v σ) := rfl
theorem nextOf_nxt {f : Loc → Store → Option RS} : nextOf (some (.nxt ρ σ)) f = f ρ σ := rfl
theorem nextOf_ret {v : PV} {f : Loc → Store → Option RS} : nextOf (some (.ret v ρ σ)) f = some (.ret v ρ σ) := rfl
theorem nextOf_exc {x : PX} {f : Loc → Store → Option RS} : nextOf (some (.exc x ρ σ)) f = some (.exc x ρ σ) := rfl
theorem excOf_nxt {f : PX → Loc → Store → Option RS} : excOf (some (.nxt ρ σ)) f = some (.nxt ρ σ) := rfl
theorem excOf_exc {x : PX} {f : PX → Loc → Store → Option RS} : excOf (some (.exc x ρ σ)) f = f x ρ σ := rfl
end
end Mine
end
/-! P1: the program's functions as little terms (printed by gen.py) -/
section
set_option autoImplicit false
set_option maxRecDepth 100000
namespace Mine
open PySem
def nmTbl : List Str := [("spot" : Str), ("text" : Str), ("around" : Str), ("LimitFault" : Str), ("TermFault" : Str), ("TextFault" : Str), ("NameReader" : Str), ("__init__" : Str), ("self" : Str), ("what" : Str), ("told" : Str), ("signs" : Str), ("is_row_of" : Str), ("sign" : Str), ("begin" : Str), ("figures_behind" : Str), ("rest" : Str), ("FIGURES" : Str), ("figures" : Str), ("number_by" : Str), ("t" : Str), ("index_of" : Str), ("index" : Str), ("variable" : Str), ("MOST_INDEX" : Str), ("below" : Str), ("by" : Str), ("moved_within" : Str), ("part" : Str), ("shifted" : Str), ("depth" : Str), ("is_closed_below" : Str), ("is_closed" : Str), ("want" : Str), ("name" : Str), ("LETTERS" : Str), ("leaf" : Str), ("term" : Str), ("found" : Str), ("left" : Str), ("of_names" : Str), ("reader" : Str), ("MOST_DEPTH" : Str), ("feed" : Str), ("many" : Str), ("_law_dip" : Str), ("_law_figures" : Str), ("wide" : Str), ("_law_widths" : Str), ("ahead" : Str), ("deep" : Str), ("leaves" : Str), ("_law_term" : Str), ("way" : Str), ("_law_heard" : Str), ("ask" : Str), ("rows" : Str), ("_law_late" : Str), ("late" : Str), ("numbers" : Str), ("_law_indexed" : Str), ("kid" : Str), ("_law_is_read" : Str), ("k" : Str), ("fault" : Str), ("due" : Str), ("script" : Str), ("law" : Str), ("word" : Str), ("is_long" : Str), ("row" : Str)]
def nmOf (i : Nat) : Str := match nmTbl[i]? with
  | some s => s
  | none => ⟨Array.replicate (i + 1) 33⟩
def f_is_row_of : List Nat × List CS := ([1, 11],
  [.ret (.bop true [(.cmp .NotEq (.loc 1) (.cstr [])), (.cmpNil .Eq (.comp (.loc 13) [13] false [11] (.loc 1) (some (.cmp .NotIn (.loc 13) (.loc 11)))))])])
def f_figures_behind : List Nat × List CS := ([1, 14],
  [.asg 16 (.slice (.loc 1) (some (.bi .len [(.loc 14)])) .none), .iff (.bop false [(.cmp .NotEq (.slice (.loc 1) .none (some (.bi .len [(.loc 14)]))) (.loc 14)), (.not (.call 12 [(.loc 16), (.glo 17)])), (.bop true [(.cmp .Eq (.sub (.loc 16) (.cint 0)) (.cstr [48])), (.cmp .NotEq (.loc 16) (.cstr [48]))])]) [.ret (.cstr [])] [], .ret (.loc 16)])
def f_number_by : List Nat × List CS := ([18],
  [.iff (.cmp .Gt (.bi .len [(.loc 18)]) (.cint 9)) [.rais 3 [(.cstr [97, 110, 32, 105, 110, 100, 101, 120, 32, 104, 97, 115, 32, 97, 116, 32, 109, 111, 115, 116, 32, 110, 105, 110, 101, 32, 102, 105, 103, 117, 114, 101, 115])]] [], .ret (.bi .int [(.loc 18)])])
def f_index_of : List Nat × List CS := ([20],
  [.asg 18 (.ite (.cmp .Eq (.bi .len [(.loc 20)]) (.cint 1)) (.call 15 [(.sub (.loc 20) (.cint 0)), (.cstr [118, 97, 114])]) (.cstr [])), .ret (.ite (.cmp .Eq (.loc 18) (.cstr [])) (.neg (.cint 1)) (.call 19 [(.loc 18)]))])
def f_variable : List Nat × List CS := ([22],
  [.iff (.cmp .Lt (.loc 22) (.cint 0)) [.rais 4 [(.cstr [97, 32, 118, 97, 114, 105, 97, 98, 108, 101, 32, 104, 97, 115, 32, 110, 111, 32, 105, 110, 100, 101, 120, 32, 98, 101, 108, 111, 119, 32, 48])]] [], .iff (.cmp .Gt (.loc 22) (.glo 24)) [.rais 3 [(.cstr [97, 110, 32, 105, 110, 100, 101, 120, 32, 104, 97, 115, 32, 97, 116, 32, 109, 111, 115, 116, 32, 110, 105, 110, 101, 32, 102, 105, 103, 117, 114, 101, 115])]] [], .ret (.tup [(.fstr [118, 97, 114] (.loc 22))])])
def f_below : List Nat × List CS := ([20],
  [.ret (.ite (.bop true [(.cmp .Eq (.sub (.loc 20) (.cint 0)) (.cstr [108, 97, 109])), (.cmp .Eq (.bi .len [(.loc 20)]) (.cint 2))]) (.cint 1) (.cint 0))])
def f_moved_within : List Nat × List CS := ([20, 26, 14, 2],
  [.asg 22 (.call 21 [(.loc 20)]), .iff (.cmp .GtE (.loc 22) (.bi .max [(.bin .Add (.loc 14) (.loc 2)), (.cint 0)])) [.iff (.cmp .Lt (.bin .Add (.loc 22) (.loc 26)) (.loc 2)) [.rais 4 [(.cstr [97, 32, 118, 97, 114, 105, 97, 98, 108, 101, 32, 104, 97, 115, 32, 110, 111, 32, 105, 110, 100, 101, 120, 32, 98, 101, 108, 111, 119, 32, 48])]] [], .ret (.call 23 [(.bin .Add (.loc 22) (.loc 26))])] [], .ret (.bin .Add (.tup [(.sub (.loc 20) (.cint 0))]) (.bi .tuple [(.comp (.call 27 [(.loc 28), (.loc 26), (.loc 14), (.bin .Add (.loc 2) (.call 25 [(.loc 20)]))]) [28] false [26, 14, 2, 20] (.slice (.loc 20) (some (.cint 1)) .none) .none)]))])
def f_shifted : List Nat × List CS := ([20, 26, 14],
  [.ret (.call 27 [(.loc 20), (.loc 26), (.loc 14), (.cint 0)])])
def f_is_closed_below : List Nat × List CS := ([20, 30],
  [.asg 22 (.call 21 [(.loc 20)]), .iff (.cmp .GtE (.loc 22) (.cint 0)) [.ret (.cmp .Lt (.loc 22) (.loc 30))] [], .ret (.cmpNil .Eq (.comp (.loc 28) [28] false [30, 20] (.slice (.loc 20) (some (.cint 1)) .none) (some (.not (.call 31 [(.loc 28), (.bin .Add (.loc 30) (.call 25 [(.loc 20)]))])))))])
def f_is_closed : List Nat × List CS := ([20],
  [.ret (.call 31 [(.loc 20), (.cint 0)])])
def r_init : List Nat × List CS := ([8, 1],
  [.seta (.loc 8) 1 (.loc 1), .seta (.loc 8) 0 (.cint 0), .seta (.loc 8) 2 (.lst [])])
def r_sign : List Nat × List CS := ([8],
  [.whil (.cmp .Eq (.slice (.attr (.loc 8) 1) (some (.attr (.loc 8) 0)) (some (.bin .Add (.attr (.loc 8) 0) (.cint 1)))) (.cstr [32])) [.seta (.loc 8) 0 (.bin .Add (.attr (.loc 8) 0) (.cint 1))], .ret (.slice (.attr (.loc 8) 1) (some (.attr (.loc 8) 0)) (some (.bin .Add (.attr (.loc 8) 0) (.cint 1))))])
def r_want : List Nat × List CS := ([8, 13],
  [.iff (.cmp .NotEq (.meth (.loc 8) 13 []) (.loc 13)) [.rais 5 [(.fstrs (.loc 13) [32, 105, 115, 32, 119, 97, 110, 116, 101, 100]), (.attr (.loc 8) 0)]] [], .seta (.loc 8) 0 (.bin .Add (.attr (.loc 8) 0) (.cint 1))])
def r_name : List Nat × List CS := ([8],
  [.exp (.meth (.loc 8) 13 []), .asg 14 (.attr (.loc 8) 0), .whil (.bop true [(.cmp .Lt (.attr (.loc 8) 0) (.bi .len [(.attr (.loc 8) 1)])), (.cmp .In (.sub (.attr (.loc 8) 1) (.attr (.loc 8) 0)) (.bin .Add (.glo 35) (.glo 17)))]) [.seta (.loc 8) 0 (.bin .Add (.attr (.loc 8) 0) (.cint 1))], .iff (.cmp .Eq (.attr (.loc 8) 0) (.loc 14)) [.rais 5 [(.cstr [97, 32, 110, 97, 109, 101, 32, 105, 115, 32, 119, 97, 110, 116, 101, 100]), (.loc 14)]] [], .ret (.slice (.attr (.loc 8) 1) (some (.loc 14)) (some (.attr (.loc 8) 0)))])
def r_leaf : List Nat × List CS := ([8],
  [.asg 34 (.meth (.loc 8) 34 []), .forr [22] false (.bi .range [(.bi .len [(.attr (.loc 8) 2)])]) [.iff (.cmp .Eq (.sub (.attr (.loc 8) 2) (.bin .Sub (.bin .Sub (.bi .len [(.attr (.loc 8) 2)]) (.cint 1)) (.loc 22))) (.loc 34)) [.ret (.call 23 [(.loc 22)])] []], .iff (.cmp .NotEq (.call 15 [(.loc 34), (.cstr [118, 97, 114])]) (.cstr [])) [.rais 5 [(.cstr [97, 32, 108, 101, 97, 102, 32, 105, 115, 32, 99, 97, 108, 108, 101, 100, 32, 108, 105, 107, 101, 32, 97, 32, 118, 97, 114, 105, 97, 98, 108, 101]), (.bin .Sub (.attr (.loc 8) 0) (.bi .len [(.loc 34)]))]] [], .asg 18 (.call 15 [(.loc 34), (.cstr [121])]), .iff (.bop false [(.cmp .Gt (.bi .len [(.loc 18)]) (.cint 9)), (.bop true [(.cmp .NotEq (.loc 18) (.cstr [])), (.cmp .Gt (.bin .Add (.call 19 [(.loc 18)]) (.bi .len [(.attr (.loc 8) 2)])) (.glo 24))])]) [.rais 5 [(.cstr [97, 110, 32, 105, 110, 100, 101, 120, 32, 104, 97, 115, 32, 97, 116, 32, 109, 111, 115, 116, 32, 110, 105, 110, 101, 32, 102, 105, 103, 117, 114, 101, 115]), (.bin .Sub (.attr (.loc 8) 0) (.bi .len [(.loc 34)]))]] [], .ret (.ite (.cmp .Eq (.loc 18) (.cstr [])) (.tup [(.loc 34)]) (.call 23 [(.bin .Add (.call 19 [(.loc 18)]) (.bi .len [(.attr (.loc 8) 2)]))]))])
def r_term : List Nat × List CS := ([8, 30],
  [.iff (.cmp .Eq (.loc 30) (.cint 0)) [.rais 5 [(.cstr [116, 111, 111, 32, 100, 101, 101, 112]), (.attr (.loc 8) 0)]] [], .asg 13 (.meth (.loc 8) 13 []), .iff (.cmp .Eq (.loc 13) (.cstr [92])) [.exp (.meth (.loc 8) 33 [(.loc 13)]), .exp (.mapp (.attr (.loc 8) 2) (.meth (.loc 8) 34 [])), .exp (.meth (.loc 8) 33 [(.cstr [46])]), .asg 38 (.tup [(.cstr [108, 97, 109]), (.meth (.loc 8) 37 [(.bin .Sub (.loc 30) (.cint 1))])]), .exp (.mpop (.attr (.loc 8) 2)), .ret (.loc 38)] [], .iff (.cmp .NotEq (.loc 13) (.cstr [40])) [.ret (.meth (.loc 8) 36 [])] [], .exp (.meth (.loc 8) 33 [(.cstr [40])]), .asg 39 (.meth (.loc 8) 37 [(.bin .Sub (.loc 30) (.cint 1))]), .asg 38 (.tup [(.cstr [97, 112, 112]), (.loc 39), (.meth (.loc 8) 37 [(.bin .Sub (.loc 30) (.cint 1))])]), .exp (.meth (.loc 8) 33 [(.cstr [41])]), .ret (.loc 38)])
def f_of_names : List Nat × List CS := ([1],
  [.asg 41 (.call 6 [(.loc 1)]), .asg 38 (.meth (.loc 41) 37 [(.glo 42)]), .iff (.cmp .NotEq (.meth (.loc 41) 13 []) (.cstr [])) [.rais 5 [(.cstr [116, 104, 101, 32, 116, 101, 120, 116, 32, 103, 111, 101, 115, 32, 111, 110, 32, 98, 101, 104, 105, 110, 100, 32, 105, 116, 115, 32, 116, 101, 114, 109]), (.attr (.loc 41) 0)]] [], .ret (.loc 38)])
def f_law_dip : List Nat × List CS := ([43, 44],
  [.asg 0 (.sub (.loc 43) (.cint 1)), .seti (.loc 43) (.cint 1) (.bin .Add (.loc 0) (.cint 1)), .iff (.cmp .Lt (.loc 0) (.bi .len [(.sub (.loc 43) (.cint 0))])) [.ret (.bin .Mod (.sub (.sub (.loc 43) (.cint 0)) (.loc 0)) (.loc 44))] [], .ret (.bin .Mod (.bin .Mod (.bin .Add (.bin .Add (.bin .Mult (.bin .Mult (.cint 7) (.loc 0)) (.loc 0)) (.bin .Mult (.cint 5) (.loc 0))) (.bi .len [(.sub (.loc 43) (.cint 0))])) (.cint 107)) (.loc 44))])
def f_law_figures : List Nat × List CS := ([43],
  [.asg 47 (.sub (.glo 48) (.call 45 [(.loc 43), (.cint 12)])), .asgT [49, 16] (.tup [(.call 45 [(.loc 43), (.cint 9)]), (.call 45 [(.loc 43), (.cint 3)])]), .iff (.cmp .Eq (.loc 47) (.cint 1)) [.ret (.tup [(.bi .str [(.loc 49)]), (.loc 49)])] [], .asg 18 (.bin .Add (.bi .str [(.bin .Add (.cint 1) (.loc 49))]) (.bin .Mult (.sub (.tup [(.cstr [48]), (.cstr [57]), (.cstr [53])]) (.loc 16)) (.bin .Sub (.loc 47) (.cint 1)))), .ret (.tup [(.loc 18), (.ite (.cmp .Lt (.loc 47) (.cint 10)) (.bi .int [(.loc 18)]) .cnone)])])
def f_law_term : List Nat × List CS := ([43, 50, 2, 51],
  [.asg 53 (.ite (.cmp .Gt (.loc 50) (.cint 0)) (.call 45 [(.loc 43), (.cint 5)]) (.call 45 [(.loc 43), (.cint 2)])), .iff (.bop true [(.cmp .Eq (.loc 53) (.cint 0)), (.cmp .Lt (.bi .len [(.loc 51)]) (.cint 4))]) [.asgT [18, 22] (.call 46 [(.loc 43)]), .exp (.mapp (.loc 51) (.tup [(.loc 22), (.loc 2)])), .ret (.tup [(.bin .Add (.cstr [118, 97, 114]) (.loc 18))])] [], .iff (.cmp .Lt (.loc 53) (.cint 2)) [.ret (.sub (.tup [(.tup [(.cstr [97])]), (.tup [(.cstr [118, 97, 114])]), (.tup [(.cstr [118, 97, 114, 48, 49])]), (.tup [(.cstr [118, 97, 114, 45, 49])]), (.tup [(.cstr [118, 97, 114, 105, 97, 98, 108, 101])]), (.tup [(.cstr [118, 97, 114, 50, 120])])]) (.call 45 [(.loc 43), (.cint 6)]))] [], .iff (.cmp .Lt (.loc 53) (.cint 4)) [.ret (.tup [(.cstr [108, 97, 109]), (.call 52 [(.loc 43), (.bin .Sub (.loc 50) (.cint 1)), (.bin .Add (.loc 2) (.cint 1)), (.loc 51)])])] [], .asg 39 (.call 52 [(.loc 43), (.bin .Sub (.loc 50) (.cint 1)), (.loc 2), (.loc 51)]), .ret (.tup [(.cstr [97, 112, 112]), (.loc 39), (.call 52 [(.loc 43), (.bin .Sub (.loc 50) (.cint 1)), (.loc 2), (.loc 51)])])])
def f_law_late : List Nat × List CS := ([56, 26, 14],
  [.asg 38 (.lst []), .forr [22, 2] true (.loc 56) [.iff (.cmp .Is (.loc 22) .cnone) [.ret (.tup [(.cstr [108, 105, 109, 105, 116]), .cnone])] [], .asg 58 (.ite (.cmp .GtE (.loc 22) (.bin .Add (.loc 14) (.loc 2))) (.bin .Add (.loc 22) (.loc 26)) (.loc 22)), .iff (.bop true [(.cmp .GtE (.loc 22) (.bin .Add (.loc 14) (.loc 2))), (.cmp .Lt (.loc 58) (.loc 2))]) [.ret (.tup [(.cstr [116, 101, 114, 109]), .cnone])] [], .iff (.cmp .Gt (.loc 58) (.cint 999999999)) [.ret (.tup [(.cstr [108, 105, 109, 105, 116]), .cnone])] [], .exp (.mapp (.loc 38) (.loc 58))], .ret (.tup [(.cstr [116, 111, 108, 100]), (.loc 38)])])
def f_law_indexed : List Nat × List CS := ([20, 38, 59],
  [.iff (.bop true [(.cmp .Eq (.bi .len [(.loc 20)]) (.cint 1)), (.cmp .Eq (.slice (.sub (.loc 20) (.cint 0)) .none (some (.cint 3))) (.cstr [118, 97, 114])), (.mdig (.slice (.sub (.loc 20) (.cint 0)) (some (.cint 3)) .none)), (.bop false [(.cmp .NotEq (.sub (.sub (.loc 20) (.cint 0)) (.cint 3)) (.cstr [48])), (.cmp .Eq (.sub (.loc 20) (.cint 0)) (.cstr [118, 97, 114, 48]))])]) [.exp (.mapp (.loc 38) (.cint 0)), .ret (.tup [(.bin .Add (.cstr [118, 97, 114]) (.bi .str [(.sub (.loc 59) (.bin .Sub (.bi .len [(.loc 38)]) (.cint 1)))]))])] [], .ret (.bin .Add (.tup [(.sub (.loc 20) (.cint 0))]) (.bi .tuple [(.comp (.call 60 [(.loc 61), (.loc 38), (.loc 59)]) [61] false [38, 59] (.slice (.loc 20) (some (.cint 1)) .none) .none)]))])
def f_law_is_read : List Nat × List CS := ([43],
  [.asgT [18, 22] (.call 46 [(.loc 43)]), .asg 44 (.call 45 [(.loc 43), (.cint 4)]), .asg 49 (.mjoin (.cstr []) (.comp (.bin .Add (.bin .Add (.cstr [92]) (.sub (.cstr [97, 98, 99]) (.loc 63))) (.cstr [46])) [63] false [] (.bi .range [(.loc 44)]) .none)), .tryy [.asg 10 (.call 40 [(.bin .Add (.bin .Add (.loc 49) (.cstr [121])) (.loc 18))])] 5 64 (.bop true [(.cmp .Eq (.attr (.loc 64) 0) (.bi .len [(.loc 49)])), (.bop false [(.cmp .Is (.loc 22) .cnone), (.cmp .Gt (.bin .Add (.loc 22) (.loc 44)) (.cint 999999999))])]), .asg 65 (.ite (.cmp .Is (.loc 22) .cnone) (.tup []) (.tup [(.bin .Add (.cstr [118, 97, 114]) (.bi .str [(.bin .Add (.loc 22) (.loc 44))]))])), .forr [63] false (.bi .range [(.loc 44)]) [.asg 65 (.tup [(.cstr [108, 97, 109]), (.loc 65)])], .ret (.bop true [(.cmp .IsNot (.loc 22) .cnone), (.cmp .Eq (.loc 10) (.loc 65))])])
def f_law : List Nat × List CS := ([66],
  [.asgT [43, 56] (.tup [(.lst [(.bi .list [(.slice (.loc 66) .none (some (.cint 40)))]), (.cint 0)]), (.lst [])]), .asg 20 (.call 52 [(.loc 43), (.cint 3), (.cint 0), (.loc 56)]), .asgT [26, 14] (.tup [(.sub (.tup [(.cint 0), (.cint 1), (.cint 7), (.cint 999999990), (.neg (.cint 1)), (.neg (.cint 3))]) (.call 45 [(.loc 43), (.cint 6)])), (.call 45 [(.loc 43), (.cint 3)])]), .asgT [68, 59] (.call 57 [(.loc 56), (.loc 26), (.loc 14)]), .asg 10 (.heard 195 [20, 26, 14] (.call 29 [(.loc 20), (.loc 26), (.loc 14)])), .iff (.bop false [(.cmp .NotEq (.sub (.loc 10) (.cint 0)) (.loc 68)), (.bop true [(.cmp .Eq (.loc 68) (.cstr [116, 111, 108, 100])), (.cmp .NotEq (.sub (.loc 10) (.cint 1)) (.call 60 [(.loc 20), (.lst []), (.loc 59)]))])]) [.ret (.cbool false)] [], .asg 69 (.cmp .In .cnone (.comp (.loc 22) [22, 2] true [] (.loc 56) .none)), .asg 65 (.cmpNil .Eq (.comp (.loc 70) [70] false [] (.loc 56) (some (.bop false [(.cmp .Is (.sub (.loc 70) (.cint 0)) .cnone), (.cmp .GtE (.sub (.loc 70) (.cint 0)) (.sub (.loc 70) (.cint 1)))])))), .ret (.bop true [(.cmp .Eq (.heard 200 [20] (.call 32 [(.loc 20)])) (.ite (.loc 69) (.tup [(.cstr [108, 105, 109, 105, 116]), .cnone]) (.tup [(.cstr [116, 111, 108, 100]), (.loc 65)]))), (.call 62 [(.loc 43)])])])

end Mine
end
/-! L3: the program's functions, level by level -/
section
set_option autoImplicit false
namespace Mine
open PySem

def fnTab : Nat → Option (List Nat × List CS)
  | 12 => some f_is_row_of
  | 15 => some f_figures_behind
  | 19 => some f_number_by
  | 21 => some f_index_of
  | 23 => some f_variable
  | 25 => some f_below
  | 27 => some f_moved_within
  | 29 => some f_shifted
  | 31 => some f_is_closed_below
  | 32 => some f_is_closed
  | 40 => some f_of_names
  | 45 => some f_law_dip
  | 46 => some f_law_figures
  | 52 => some f_law_term
  | 57 => some f_law_late
  | 60 => some f_law_indexed
  | 62 => some f_law_is_read
  | _ => none
def mtTab : Nat → Option (List Nat × List CS)
  | 13 => some r_sign
  | 33 => some r_want
  | 34 => some r_name
  | 36 => some r_leaf
  | 37 => some r_term
  | _ => none
def excTab : Nat → List PV → Option PX
  | 3, [_] => some ⟨3, none⟩
  | 4, [_] => some ⟨4, none⟩
  | 5, [_, .int i] => some ⟨5, some i⟩
  | _, _ => none
noncomputable def runFn (Φ : Sig) (f : List Nat × List CS) (args : List PV) (σ : Store) : Option (R PV) :=
  if args.length = f.1.length then (EXs Φ f.2 (f.1.zip args) σ).map resOf else none
/-- what the functions do, to a depth of k calls -/
noncomputable def lev (glo : Nat → Option PV) : Nat → Sig
  | 0 => { q := false, top := false, kn := fun _ => false, km := fun _ _ => false, glo := glo, fn := fun _ _ _ => none, meth := fun _ _ _ _ _ => none, kx := fun _ => false, exc := fun _ _ => none }
  | k + 1 => {
    q := false
    top := false
    kn := fun f => f == 6 || (fnTab f).isSome
    km := fun c m => c == 6 && (mtTab m).isSome
    glo := glo
    fn := fun f args σ => if f = 6 then (runFn (lev glo k) r_init (.ref σ.length :: args) (σ ++ [.inst 6 []])).bind (newOf σ.length) else
      match fnTab f with
      | some d => runFn (lev glo k) d args σ
      | none => none
    meth := fun c m j args σ => match mtTab m with
      | some d => runFn (lev glo k) d (.ref j :: args) σ
      | none => none
    kx := fun c => (c == 3 || c == 4 || c == 5) && Nat.ble 2 (k + 1)
    exc := excTab }
def Sig.law (Φ : Sig) : Sig := { Φ with top := true }
def gloT : Nat → Option PV
  | 17 => some (.str [48, 49, 50, 51, 52, 53, 54, 55, 56, 57])
  | 24 => some (.int 999999999)
  | 35 => some (.str [97, 98, 99, 100, 101, 102, 103, 104, 105, 106, 107, 108, 109, 110, 111, 112, 113, 114, 115, 116, 117, 118, 119, 120, 121, 122, 65, 66, 67, 68, 69, 70, 71, 72, 73, 74, 75, 76, 77, 78, 79, 80, 81, 82, 83, 84, 85, 86, 87, 88, 89, 90])
  | 42 => some (.int 40)
  | 48 => some (.tup [.int 1, .int 1, .int 2, .int 3, .int 8, .int 9, .int 9, .int 9, .int 10, .int 10, .int 12, .int 4310])
  | _ => none
end Mine
end
/-! M2: how a heap bears plain values; what an evaluation leaves as it was -/
section
set_option autoImplicit false
namespace Mine
open PySem PySem.W PyProof.Rows

structure LO where
  a : Addr
  d : Addr
/-- the store's places, and the places that no value names -/
structure Lo where
  l : List LO
  hid : List Addr
instance : HAppend Lo (List LO) Lo := ⟨fun L T => ⟨L.l ++ T, L.hid⟩⟩
def Lo.nil : Lo := ⟨[], []⟩
theorem Lo.l_append (L : Lo) (T : List LO) : (L ++ T).l = L.l ++ T := rfl
theorem Lo.hid_append (L : Lo) (T : List LO) : (L ++ T).hid = L.hid := rfl
theorem Lo.append_nil (L : Lo) : L ++ ([] : List LO) = L := by
  show Lo.mk (L.l ++ []) L.hid = L
  rw [List.append_nil]
theorem Lo.append_assoc (L : Lo) (S T : List LO) : L ++ S ++ T = L ++ (S ++ T) := by
  show Lo.mk (L.l ++ S ++ T) L.hid = Lo.mk (L.l ++ (S ++ T)) L.hid
  rw [List.append_assoc]
def ownT (T : List LO) : List Addr := T.flatMap fun p => [p.a, p.d]
def own (L : Lo) : List Addr := L.hid ++ ownT L.l

theorem own_append (L : Lo) (T : List LO) : own (L ++ T) = own L ++ ownT T := by simp [own, ownT, Lo.l_append, Lo.hid_append]


/-- an object as it was, a dict's slots apart -/
def Slt (h h' : Heap) (b : Addr) : Prop := ∀ o, h.get? b = some o → ∃ sl, h'.get? b = some { o with slots := sl } ∧ ((∀ es n, o.data ≠ .dict es n) → sl = o.slots)

theorem Slt.refl (h : Heap) (b : Addr) : Slt h h b := fun o e => ⟨o.slots, e, fun _ => rfl⟩
theorem Slt.of_eq {h h' : Heap} {b : Addr} (e : h'.get? b = h.get? b) : Slt h h' b := fun o q => ⟨o.slots, e.trans q, fun _ => rfl⟩
theorem Slt.of_some {h h' : Heap} {b : Addr} (e : ∀ o, h.get? b = some o → h'.get? b = some o) : Slt h h' b := fun o q => ⟨o.slots, e o q, fun _ => rfl⟩
theorem Slt.trans {h h₁ h₂ : Heap} {b : Addr} (x : Slt h h₁ b) (y : Slt h₁ h₂ b) : Slt h h₂ b := fun o e => by
  obtain ⟨sl, e₁, k₁⟩ := x o e
  obtain ⟨sl', e₂, k₂⟩ := y _ e₁
  exact ⟨sl', e₂, fun hd => (k₂ hd).trans (k₁ hd)⟩
theorem Slt.exact {h h' : Heap} {b : Addr} {o : Obj} (x : Slt h h' b) (e : h.get? b = some o) (hd : ∀ es n, o.data ≠ .dict es n) : h'.get? b = some o := by
  obtain ⟨sl, e₁, k₁⟩ := x o e
  obtain rfl := k₁ hd
  exact e₁
theorem Slt.tup {h h' : Heap} {a : Addr} {vs : Array Value} (k : Slt h h' a) (x : IsTup h a vs) : IsTup h' a vs := by
  obtain ⟨o, ho, hc, n, hd⟩ := x
  obtain ⟨sl, e, _⟩ := k o ho
  exact ⟨_, e, hc, n, hd⟩
theorem Slt.list {h h' : Heap} {a : Addr} {vs : Array Value} (k : Slt h h' a) (x : h.IsList a vs) : h'.IsList a vs := by
  obtain ⟨o, ho, hc, n, hd⟩ := x
  obtain ⟨sl, e, _⟩ := k o ho
  exact ⟨_, e, hc, n, hd⟩
theorem Slt.cell {h h' : Heap} {a : Addr} {v : Option Value} (k : Slt h h' a) (x : h.IsCell a v) : h'.IsCell a v := by
  obtain ⟨o, ho, hd⟩ := x
  obtain ⟨sl, e, _⟩ := k o ho
  exact ⟨_, e, hd⟩
theorem Slt.ns {h h' : Heap} {a : Addr} {m : Str → Option Value} (k : Slt h h' a) (x : h.Ns a m) : h'.Ns a m := by
  obtain ⟨o, es, ep, ho, hd, r⟩ := x
  obtain ⟨sl, e, _⟩ := k o ho
  exact ⟨_, es, ep, e, hd, r⟩

def textFaultA : Addr := 69
def spotStr : Str := Str.ofString "spot"
def rngObj (n : Int) (t u w : Tok) : Obj := { cls := .type "range", dict := none, data := .fields #[.int 0 t, .int n u, .int 1 w], slots := #[] }
/-- a caught TextFault with its place -/
def IsExn (h : Heap) (e d : Addr) (i : Int) : Prop := ∃ vs od es n t, h.get? e = some { cls := .ref textFaultA, dict := some d, data := .fields vs } ∧ h.get? d = some od ∧ od.cls = .type "dict" ∧ od.data = .dict (List.toArray es) n ∧ getL spotStr es = some (some (.int i t))

mutual
/-- q: a suite behind except is walked, where a caught exception may be bound -/
def RelV (q : Bool) (L : Lo) (h : Heap) : Value → PV → Prop
  | v, .none => v = .none
  | v, .bool b => v = .bool b
  | v, .int i => ∃ t, v = .int i t
  | v, .str l => ∃ t, v = .str ⟨l.toArray⟩ t
  | v, .tup l => ∃ a vs, v = .ref a ∧ a ∉ own L ∧ IsTup h a vs ∧ RelVs q L h vs.toList l
  | v, .lst l => ∃ a vs, v = .ref a ∧ a ∉ own L ∧ h.IsList a vs ∧ RelVs q L h vs.toList l
  | v, .rng n => ∃ a t u w, v = .ref a ∧ a ∉ own L ∧ h.get? a = some (rngObj n t u w)
  | v, .ref k => ∃ p, L.l[k]? = some p ∧ v = .ref p.a
  | v, .exn i => q = true ∧ ∃ e d, v = .ref e ∧ e ∉ own L ∧ d ∉ own L ∧ IsExn h e d i
def RelVs (q : Bool) (L : Lo) (h : Heap) : List Value → List PV → Prop
  | [], [] => True
  | v :: vs, p :: ps => RelV q L h v p ∧ RelVs q L h vs ps
  | [], _ :: _ => False
  | _ :: _, [] => False
end
theorem RelVs.length {q : Bool} {L : Lo} {h : Heap} : ∀ {vs : List Value} {ps : List PV}, RelVs q L h vs ps → vs.length = ps.length
  | [], [], _ => rfl
  | _ :: _, _ :: _, x => by
    simp only [RelVs] at x
    simp [RelVs.length x.2]
  | [], _ :: _, x => by simp [RelVs] at x
  | _ :: _, [], x => by simp [RelVs] at x
theorem RelVs.get {q : Bool} {L : Lo} {h : Heap} : ∀ {vs : List Value} {ps : List PV}, RelVs q L h vs ps → ∀ {i : Nat} {p : PV}, ps[i]? = some p → ∃ v, vs[i]? = some v ∧ RelV q L h v p
  | [], [], _, _, _, e => by simp at e
  | v :: _, p :: _, x, 0, _, e => by
    simp only [RelVs] at x
    simp only [List.getElem?_cons_zero, Option.some.injEq] at e
    subst e
    exact ⟨v, by simp, x.1⟩
  | _ :: vs, _ :: ps, x, i + 1, _, e => by
    simp only [RelVs] at x
    simp only [List.getElem?_cons_succ] at e ⊢
    exact RelVs.get x.2 e
  | [], _ :: _, x, _, _, _ => by simp [RelVs] at x
  | _ :: _, [], x, _, _, _ => by simp [RelVs] at x
theorem RelVs.append {q : Bool} {L : Lo} {h : Heap} : ∀ {vs : List Value} {ps : List PV} {us : List Value} {qs : List PV}, RelVs q L h vs ps → RelVs q L h us qs → RelVs q L h (vs ++ us) (ps ++ qs)
  | [], [], _, _, _, y => y
  | _ :: _, _ :: _, _, _, x, y => by
    simp only [RelVs] at x
    simp only [List.cons_append, RelVs]
    exact ⟨x.1, RelVs.append x.2 y⟩
  | [], _ :: _, _, _, x, _ => by simp [RelVs] at x
  | _ :: _, [], _, _, x, _ => by simp [RelVs] at x
theorem RelVs.set {q : Bool} {L : Lo} {h : Heap} : ∀ {vs : List Value} {ps : List PV}, RelVs q L h vs ps → ∀ {i : Nat} {v : Value} {p : PV}, RelV q L h v p → RelVs q L h (vs.set i v) (ps.set i p)
  | [], [], _, _, _, _, _ => by simp [RelVs]
  | _ :: _, _ :: _, x, 0, _, _, y => by
    simp only [RelVs] at x
    simp only [List.set_cons_zero, RelVs]
    exact ⟨y, x.2⟩
  | _ :: _, _ :: _, x, _ + 1, _, _, y => by
    simp only [RelVs] at x
    simp only [List.set_cons_succ, RelVs]
    exact ⟨x.1, RelVs.set x.2 y⟩
  | [], _ :: _, x, _, _, _, _ => by simp [RelVs] at x
  | _ :: _, [], x, _, _, _, _ => by simp [RelVs] at x
theorem RelVs.take {q : Bool} {L : Lo} {h : Heap} : ∀ {vs : List Value} {ps : List PV}, RelVs q L h vs ps → ∀ (n : Nat), RelVs q L h (vs.take n) (ps.take n)
  | [], [], _, _ => by simp [RelVs]
  | _ :: _, _ :: _, _, 0 => by simp [RelVs]
  | _ :: _, _ :: _, x, n + 1 => by
    simp only [RelVs] at x
    simp only [List.take_succ_cons, RelVs]
    exact ⟨x.1, RelVs.take x.2 n⟩
  | [], _ :: _, x, _ => by simp [RelVs] at x
  | _ :: _, [], x, _ => by simp [RelVs] at x
theorem RelVs.drop {q : Bool} {L : Lo} {h : Heap} : ∀ {vs : List Value} {ps : List PV}, RelVs q L h vs ps → ∀ (n : Nat), RelVs q L h (vs.drop n) (ps.drop n)
  | [], [], _, _ => by simp [RelVs]
  | _ :: _, _ :: _, x, 0 => by simpa [RelVs] using x
  | _ :: _, _ :: _, x, n + 1 => by
    simp only [RelVs] at x
    simp only [List.drop_succ_cons]
    exact RelVs.drop x.2 n
  | [], _ :: _, x, _ => by simp [RelVs] at x
  | _ :: _, [], x, _ => by simp [RelVs] at x

/-- the objects that an evaluation may turn: the store's, and the frame's -/
structure Aft (fa : List Addr) (L : Lo) (h : Heap) (L' : Lo) (h' : Heap) : Prop where
  pre : ∃ T : List LO, L' = L ++ T ∧ ∀ a ∈ ownT T, h.get? a = none
  kept : ∀ b, b ∉ ownT L.l → b ∉ fa → Slt h h' b
theorem Aft.keeps {fa : List Addr} {L L' : Lo} {h h' : Heap} (x : Aft fa L h L' h') : ∀ b, b ∉ own L → b ∉ fa → Slt h h' b := fun b hb hf => x.kept b (fun z => hb (List.mem_append_right _ z)) hf
theorem Aft.refl (fa : List Addr) (L : Lo) (h : Heap) : Aft fa L h L h := ⟨⟨[], L.append_nil.symm, fun _ q => by simp [ownT] at q⟩, fun b _ _ => .refl h b⟩

section
variable {L L' : Lo} {h h' : Heap}
/-- what keeps a value: its own objects stay -/
theorem own_pre {T : List LO} {a : Addr} (hn : a ∉ own L) (hT : ∀ a ∈ ownT T, h.get? a = none) {o : Obj} (ho : h.get? a = some o) : a ∉ own (L ++ T) := by
  rw [own_append, List.mem_append]
  rintro (q | q)
  · exact hn q
  · rw [hT a q] at ho; cases ho
end
theorem own_off {L L' : Lo} {h : Heap} {a : Addr} (hn : a ∉ own L) (hT : ∀ a ∈ own L', a ∈ own L ∨ h.get? a = none) {o : Obj} (ho : h.get? a = some o) : a ∉ own L' := fun q => by
  rcases hT a q with q | q
  · exact hn q
  · rw [ho] at q; cases q
mutual
theorem RelV.move {q : Bool} {L L' : Lo} {h h' : Heap} (hT : ∀ a ∈ own L', a ∈ own L ∨ h.get? a = none) (hP : ∀ (i : Nat) (p : LO), L.l[i]? = some p → L'.l[i]? = some p) (k : ∀ b o, h.get? b = some o → (∃ x n, o.data = .seq x n) ∨ (∃ n t u w, o = rngObj n t u w) → b ∉ own L → Slt h h' b)
    (kq : q = true → ∀ b, b ∉ own L → Slt h h' b) :
    ∀ {v : Value} {p : PV}, RelV q L h v p → RelV q L' h' v p
  | _, .none, x => x
  | _, .bool _, x => x
  | _, .int _, x => x
  | _, .str _, x => x
  | _, .tup l, x => by
    simp only [RelV] at x ⊢
    obtain ⟨a, vs, rfl, ha, ht, hr⟩ := x
    have ht' := ht
    obtain ⟨o, ho, hc, n, hd⟩ := ht'
    exact ⟨a, vs, rfl, own_off ha hT ho, (k a o ho (.inl ⟨_, _, hd⟩) ha).tup ht, RelVs.move hT hP k kq hr⟩
  | _, .lst l, x => by
    simp only [RelV] at x ⊢
    obtain ⟨a, vs, rfl, ha, ht, hr⟩ := x
    have ht' := ht
    obtain ⟨o, ho, hc, n, hd⟩ := ht'
    exact ⟨a, vs, rfl, own_off ha hT ho, (k a o ho (.inl ⟨_, _, hd⟩) ha).list ht, RelVs.move hT hP k kq hr⟩
  | _, .rng n, x => by
    simp only [RelV] at x ⊢
    obtain ⟨a, t, u, w, rfl, ha, ho⟩ := x
    exact ⟨a, t, u, w, rfl, own_off ha hT ho, (k a _ ho (.inr ⟨_, _, _, _, rfl⟩) ha).exact ho (fun _ _ q => by cases q)⟩
  | _, .ref j, x => by
    simp only [RelV] at x ⊢
    obtain ⟨p, hp, rfl⟩ := x
    exact ⟨p, hP _ _ hp, rfl⟩
  | _, .exn i, x => by
    simp only [RelV] at x ⊢
    obtain ⟨hq, e, d, rfl, he, hd, vs, od, es, n, t, h1, h2, h3, h4, h5⟩ := x
    refine ⟨hq, e, d, rfl, own_off he hT h1, own_off hd hT h2, ?_⟩
    obtain ⟨sl, e2, _⟩ := kq hq d hd od h2
    exact ⟨vs, _, es, n, t, (kq hq e he).exact h1 (fun _ _ q => by cases q), e2, h3, h4, h5⟩
theorem RelVs.move {q : Bool} {L L' : Lo} {h h' : Heap} (hT : ∀ a ∈ own L', a ∈ own L ∨ h.get? a = none) (hP : ∀ (i : Nat) (p : LO), L.l[i]? = some p → L'.l[i]? = some p) (k : ∀ b o, h.get? b = some o → (∃ x n, o.data = .seq x n) ∨ (∃ n t u w, o = rngObj n t u w) → b ∉ own L → Slt h h' b)
    (kq : q = true → ∀ b, b ∉ own L → Slt h h' b) :
    ∀ {vs : List Value} {ps : List PV}, RelVs q L h vs ps → RelVs q L' h' vs ps
  | [], [], _ => by simp [RelVs]
  | _ :: _, _ :: _, x => by
    simp only [RelVs] at x ⊢
    exact ⟨RelV.move hT hP k kq x.1, RelVs.move hT hP k kq x.2⟩
  | [], _ :: _, x => by simp [RelVs] at x
  | _ :: _, [], x => by simp [RelVs] at x
end
theorem own_grow {L : Lo} {h : Heap} {T : List LO} (hT : ∀ a ∈ ownT T, h.get? a = none) : ∀ a ∈ own (L ++ T), a ∈ own L ∨ h.get? a = none := fun a q => by
  rw [own_append, List.mem_append] at q
  exact q.imp id (hT a)
theorem own_preT {L : Lo} {h : Heap} {T : List LO} {a : Addr} (hn : a ∉ ownT L.l) (hT : ∀ a ∈ ownT T, h.get? a = none) {o : Obj} (ho : h.get? a = some o) : a ∉ ownT (L ++ T).l := by
  rw [Lo.l_append, show ownT (L.l ++ T) = ownT L.l ++ ownT T by simp [ownT], List.mem_append]
  rintro (q | q)
  · exact hn q
  · rw [hT a q] at ho; cases ho
theorem pre_grow {L : Lo} {T : List LO} : ∀ (i : Nat) (p : LO), L.l[i]? = some p → (L ++ T).l[i]? = some p := fun i p e => by
  rw [Lo.l_append, List.getElem?_append_left (List.getElem?_eq_some_iff.mp e).1]; exact e
theorem RelV.keep {q : Bool} {L : Lo} {h h' : Heap} {T : List LO} (hT : ∀ a ∈ ownT T, h.get? a = none) (k : ∀ b o, h.get? b = some o → (∃ x n, o.data = .seq x n) ∨ (∃ n t u w, o = rngObj n t u w) → b ∉ own L → Slt h h' b)
    (kq : q = true → ∀ b, b ∉ own L → Slt h h' b) {v : Value} {p : PV} (r : RelV q L h v p) : RelV q (L ++ T) h' v p := RelV.move (own_grow hT) pre_grow k kq r
theorem RelVs.keep {q : Bool} {L : Lo} {h h' : Heap} {T : List LO} (hT : ∀ a ∈ ownT T, h.get? a = none) (k : ∀ b o, h.get? b = some o → (∃ x n, o.data = .seq x n) ∨ (∃ n t u w, o = rngObj n t u w) → b ∉ own L → Slt h h' b)
    (kq : q = true → ∀ b, b ∉ own L → Slt h h' b) {v : List Value} {p : List PV} (r : RelVs q L h v p) : RelVs q (L ++ T) h' v p := RelVs.move (own_grow hT) pre_grow k kq r
mutual
theorem RelV.quiet {q : Bool} {L : Lo} {h : Heap} : ∀ {v : Value} {p : PV}, RelV q L h v p → RelV true L h v p
  | _, .none, x => x
  | _, .bool _, x => x
  | _, .int _, x => x
  | _, .str _, x => x
  | _, .tup l, x => by
    simp only [RelV] at x ⊢
    obtain ⟨a, vs, e, ha, ht, hr⟩ := x
    exact ⟨a, vs, e, ha, ht, RelVs.quiet hr⟩
  | _, .lst l, x => by
    simp only [RelV] at x ⊢
    obtain ⟨a, vs, e, ha, ht, hr⟩ := x
    exact ⟨a, vs, e, ha, ht, RelVs.quiet hr⟩
  | _, .rng n, x => x
  | _, .ref j, x => x
  | _, .exn i, x => by
    simp only [RelV] at x ⊢
    exact ⟨trivial, x.2⟩
theorem RelVs.quiet {q : Bool} {L : Lo} {h : Heap} : ∀ {vs : List Value} {ps : List PV}, RelVs q L h vs ps → RelVs true L h vs ps
  | [], [], _ => by simp [RelVs]
  | _ :: _, _ :: _, x => by
    simp only [RelVs] at x ⊢
    exact ⟨RelV.quiet x.1, RelVs.quiet x.2⟩
  | [], _ :: _, x => by simp [RelVs] at x
  | _ :: _, [], x => by simp [RelVs] at x
end

/-- a frame's places: its dict and its cells -/
def FaOk (h : Heap) (fa : List Addr) : Prop := ∀ b ∈ fa, ∀ o, h.get? b = some o → (∃ es n, o.data = .dict es n) ∨ ∃ v, o.data = .cell v
theorem FaOk.nil (h : Heap) : FaOk h [] := fun _ q => by cases q
theorem Aft.rel {q : Bool} {fa : List Addr} {L L' : Lo} {h h' : Heap} (x : Aft fa L h L' h') (hf : FaOk h fa) (hq : q = true → fa = []) {v : Value} {p : PV} (r : RelV q L h v p) : RelV q L' h' v p := by
  have k := x.keeps
  obtain ⟨⟨T, rfl, hT⟩, _⟩ := x
  refine RelV.keep hT (fun b o ho hk hb => k b hb fun hm => ?_) (fun e b hb => k b hb (by rw [hq e]; exact fun z => by cases z)) r
  rcases hf b hm o ho with ⟨es, n, z⟩ | ⟨v, z⟩
  · rcases hk with ⟨_, _, y⟩ | ⟨_, _, _, _, rfl⟩ <;> first | (rw [z] at y; cases y; done) | (cases z; done)
  · rcases hk with ⟨_, _, y⟩ | ⟨_, _, _, _, rfl⟩ <;> first | (rw [z] at y; cases y; done) | (cases z; done)
theorem Aft.rels {q : Bool} {fa : List Addr} {L L' : Lo} {h h' : Heap} (x : Aft fa L h L' h') (hf : FaOk h fa) (hq : q = true → fa = []) {vs : List Value} {ps : List PV} (r : RelVs q L h vs ps) : RelVs q L' h' vs ps := by
  have k := x.keeps
  obtain ⟨⟨T, rfl, hT⟩, _⟩ := x
  refine RelVs.keep hT (fun b o ho hk hb => k b hb fun hm => ?_) (fun e b hb => k b hb (by rw [hq e]; exact fun z => by cases z)) r
  rcases hf b hm o ho with ⟨es, n, z⟩ | ⟨v, z⟩
  · rcases hk with ⟨_, _, y⟩ | ⟨_, _, _, _, rfl⟩ <;> first | (rw [z] at y; cases y; done) | (cases z; done)
  · rcases hk with ⟨_, _, y⟩ | ⟨_, _, _, _, rfl⟩ <;> first | (rw [z] at y; cases y; done) | (cases z; done)
end Mine
end
/-! M3: the store's layout, a frame's names, the state between two steps -/
section
set_option autoImplicit false
namespace Mine
open PySem PySem.W PyProof.Rows

/-- the world that a text runs in -/
structure Wd where
  tab : Addr
  lc : Addr
  prog : Program
  w : World
  b0 : Heap
  nm : Nat → Str
  cls : Nat → Addr
  mg : Str → Option Value
  mb : Str → Option Value

def KA (h h' : Heap) : Prop := ∀ b o, h.get? b = some o → h'.get? b = some o
theorem KA.refl (h : Heap) : KA h h := fun _ _ e => e
theorem KA.trans {h h₁ h₂ : Heap} (x : KA h h₁) (y : KA h₁ h₂) : KA h h₂ := fun b o e => y b o (x b o e)
theorem KA.push (h : Heap) (o : Obj) : KA h (h.push o) := fun _ _ e => Heap.get?_push_of_some _ e
theorem KA.slt {h h' : Heap} (x : KA h h') (b : Addr) : Slt h h' b := .of_some (x b)
theorem KA.aft {h h' : Heap} (x : KA h h') (fa : List Addr) (L : Lo) : Aft fa L h L h' := ⟨⟨[], L.append_nil.symm, fun _ q => by simp [ownT] at q⟩, fun b _ _ => x.slt b⟩
theorem fresh_none (h : Heap) : h.get? h.objs.size = none := by
  cases e : h.get? h.objs.size with
  | none => rfl
  | some o => exact absurd (Heap.lt_size e) (Nat.lt_irrefl _)

/-- a record's entries bear its fields -/
def Ents (W : Wd) (q : Bool) (L : Lo) (h : Heap) : List DictEntry → List (Nat × PV) → Prop
  | [], [] => True
  | e :: es, (x, p) :: l => (∃ t, e.key = .str (W.nm x) t) ∧ RelV q L h e.val p ∧ Ents W q L h es l
  | [], _ :: _ => False
  | _ :: _, [] => False

def LayO (W : Wd) (q : Bool) (L : Lo) (h : Heap) (p : LO) : PO → Prop
  | .lst l => p.d = p.a ∧ ∃ vs, h.PlainList p.a vs ∧ RelVs q L h vs.toList l
  | .inst c l => p.a ≠ p.d ∧ h.get? p.a = some (instObj (W.cls c) p.d) ∧ ∃ es n, h.get? p.d = some (dictOf es n) ∧ es.length ≤ 100 ∧ Ents W q L h es l
  | .tab l => p.d = p.a ∧ p.a = W.tab ∧ ∃ ps, h.get? p.a = some (tabObj ps) ∧ TriplesOk ps.toList ∧ ∀ pos : Pos, pos.line ∉ l → codeAmong pos ps.toList = none

structure Lay (W : Wd) (q : Bool) (L : Lo) (σ : Store) (h : Heap) : Prop where
  len : L.l.length = σ.length
  apart : ∀ (i j : Nat) (p r : LO), L.l[i]? = some p → L.l[j]? = some r → i ≠ j → p.a ≠ r.a ∧ p.a ≠ r.d ∧ p.d ≠ r.a ∧ p.d ≠ r.d
  objs : ∀ (i : Nat) (p : LO) (o : PO), L.l[i]? = some p → σ[i]? = some o → LayO W q L h p o
  hidden : ∀ a ∈ L.hid, (∃ o, h.get? a = some o) ∧ ∀ (i : Nat) (p : LO), L.l[i]? = some p → p.a ≠ a ∧ p.d ≠ a

theorem Ents.keep {W : Wd} {q : Bool} {L L' : Lo} {h h' : Heap} (k : ∀ {v : Value} {p : PV}, RelV q L h v p → RelV q L' h' v p) : ∀ {es : List DictEntry} {l : List (Nat × PV)}, Ents W q L h es l → Ents W q L' h' es l
  | [], [], _ => by simp [Ents]
  | _ :: _, (_, _) :: _, x => by
    simp only [Ents] at x ⊢
    exact ⟨x.1, k x.2.1, Ents.keep k x.2.2⟩
  | [], _ :: _, x => by simp [Ents] at x
  | _ :: _, [], x => by simp [Ents] at x

theorem mem_own {L : Lo} {i : Nat} {p : LO} (e : L.l[i]? = some p) : p.a ∈ own L ∧ p.d ∈ own L := by
  have hm : p ∈ L.l := List.mem_of_getElem? e
  constructor <;> exact List.mem_append_right _ (List.mem_flatMap.mpr ⟨p, hm, by simp⟩)
theorem mem_ownT {L : Lo} {i : Nat} {p : LO} (e : L.l[i]? = some p) : p.a ∈ ownT L.l ∧ p.d ∈ ownT L.l := by
  have hm : p ∈ L.l := List.mem_of_getElem? e
  constructor <;> exact List.mem_flatMap.mpr ⟨p, hm, by simp⟩
theorem own_mem {L : List LO} {a : Addr} (h : a ∈ ownT L) : ∃ (i : Nat) (p : LO), L[i]? = some p ∧ (a = p.a ∨ a = p.d) := by
  obtain ⟨p, hp, ha⟩ := List.mem_flatMap.mp h
  obtain ⟨i, hi, e⟩ := List.getElem_of_mem hp
  refine ⟨i, p, by rw [List.getElem?_eq_getElem hi, e], ?_⟩
  simpa using ha
theorem LayO.live {W : Wd} {q : Bool} {L : Lo} {h : Heap} {p : LO} {o : PO} (x : LayO W q L h p o) : (∃ oa, h.get? p.a = some oa) ∧ ∃ od, h.get? p.d = some od := by
  cases o with
  | lst l =>
    obtain ⟨e, vs, ⟨n, ho⟩, _⟩ := x
    exact ⟨⟨_, ho⟩, _, e ▸ ho⟩
  | inst c l =>
    obtain ⟨_, h1, es, n, h2, _⟩ := x
    exact ⟨⟨_, h1⟩, _, h2⟩
  | tab l =>
    obtain ⟨e, _, ps, h1, _⟩ := x
    exact ⟨⟨_, h1⟩, _, e ▸ h1⟩
theorem Lay.live {W : Wd} {q : Bool} {L : Lo} {σ : Store} {h : Heap} (x : Lay W q L σ h) {a : Addr} (ha : a ∈ own L) : ∃ o, h.get? a = some o := by
  rcases List.mem_append.mp ha with ha | ha
  · exact (x.hidden a ha).1
  obtain ⟨i, p, e, z⟩ := own_mem ha
  have hi : i < L.l.length := (List.getElem?_eq_some_iff.mp e).1
  rw [x.len] at hi
  obtain ⟨y1, y2⟩ := (x.objs i p σ[i] e (List.getElem?_eq_getElem hi)).live
  rcases z with rfl | rfl
  · exact y1
  · exact y2
theorem LayO.keep {W : Wd} {q : Bool} {L L' : Lo} {h h' : Heap} {p : LO} {o : PO} (x : LayO W q L h p o) (k : ∀ {v : Value} {p : PV}, RelV q L h v p → RelV q L' h' v p)
    (ks : ∀ {vs : List Value} {ps : List PV}, RelVs q L h vs ps → RelVs q L' h' vs ps) (ka : ∀ o, h.get? p.a = some o → h'.get? p.a = some o) (kd : ∀ o, h.get? p.d = some o → h'.get? p.d = some o) : LayO W q L' h' p o := by
  cases o with
  | lst l =>
    obtain ⟨e, vs, hl, r⟩ := x
    obtain ⟨n, ho⟩ := hl
    exact ⟨e, vs, ⟨n, ka _ ho⟩, ks r⟩
  | inst c l =>
    obtain ⟨e, h1, es, n, h2, hn, r⟩ := x
    exact ⟨e, ka _ h1, es, n, kd _ h2, hn, r.keep k⟩
  | tab l =>
    obtain ⟨e, e2, ps, h1, r⟩ := x
    exact ⟨e, e2, ps, ka _ h1, r⟩

/-- where a name's value lies -/
def NameAt (env : Env) (h : Heap) (x : Str) (v : Value) : Prop :=
  (env.kindOf x = some .local ∧ ∃ m, h.Ns env.locals m ∧ m x = some v) ∨
  ((env.kindOf x = some .cell ∨ env.kindOf x = some .free) ∧ ∃ c, env.cells.lookup x = some c ∧ h.IsCell c (some v))
def faOf (env : Env) : List Addr := env.locals :: (env.cells.filter fun p => env.cells.lookup p.1 == some p.2).map (·.2)
theorem cell_mem {env : Env} {x : Str} {c : Addr} (hc : env.cells.lookup x = some c) : c ∈ faOf env :=
  List.mem_cons_of_mem _ (List.mem_map.mpr ⟨_, List.mem_filter.mpr ⟨mem_of_lookup hc, by simp [hc]⟩, rfl⟩)
theorem faOf_cell {env : Env} {b : Addr} (hb : b ∈ (env.cells.filter fun p => env.cells.lookup p.1 == some p.2).map (·.2)) : ∃ y, env.cells.lookup y = some b := by
  obtain ⟨⟨n, c⟩, hm, rfl⟩ := List.mem_map.mp hb
  exact ⟨n, by simpa using (List.mem_filter.mp hm).2⟩

structure EnvRel (W : Wd) (q : Bool) (env : Env) (ρ : Loc) (L : Lo) (h : Heap) : Prop where
  kind : env.scope.kind = .function
  globals : env.globals = mainGlobals
  builtins : env.builtins = builtinsNs
  ns : ∃ m, h.Ns env.locals m
  names : ∀ x pv, lk ρ x = some pv → ∃ v, NameAt env h (W.nm x) v ∧ RelV q L h v pv
  cells : ∀ y c, env.cells.lookup y = some c → ∃ v, h.IsCell c v
  apart : ∀ y z c, env.cells.lookup y = some c → env.cells.lookup z = some c → y = z
  off : ∀ b ∈ faOf env, b ∉ own L
  low : ∀ b ∈ faOf env, ∃ o, h.get? b = some o ∧ ((∃ es n, o.data = .dict es n) ∨ ∃ v, o.data = .cell v)
  fresh : ∀ b ∈ faOf env, W.b0.get? b = none
  have_ : ∀ y, env.kindOf y = some .cell → ∃ c, env.cells.lookup y = some c

theorem NameAt.keep {env : Env} {h h' : Heap} {x : Str} {v : Value} (k : ∀ b ∈ faOf env, Slt h h' b) (n : NameAt env h x v) : NameAt env h' x v := by
  rcases n with ⟨hk, m, hn, hm⟩ | ⟨hk, c, hc, hv⟩
  · exact .inl ⟨hk, m, (k _ (List.mem_cons_self ..)).ns hn, hm⟩
  · refine .inr ⟨hk, c, hc, (k c ?_).cell hv⟩
    exact cell_mem hc

/-- the frames on the stack: each one's dict lies there, is no store's, no base's -/
def FrOk (b0 : Heap) (L : Lo) (h : Heap) (fs : List Env) : Prop :=
  ∀ env ∈ fs, env.scope.kind ≠ .module ∧ ∃ F o, env.frame = some F ∧ b0.get? F = none ∧ F ∉ own L ∧ h.get? F = some o ∧ ∃ es n, o.data = .dict es n
theorem FrOk.keep {b0 : Heap} {L : Lo} {T : List LO} {h h' : Heap} {fs : List Env} (x : FrOk b0 L h fs) (hT : ∀ a ∈ ownT T, h.get? a = none) (k : ∀ F o, h.get? F = some o → (∃ es n, o.data = .dict es n) → F ∉ own L → ∃ o', h'.get? F = some o' ∧ ∃ es n, o'.data = .dict es n) : FrOk b0 (L ++ T) h' fs := by
  intro env he
  obtain ⟨hk, F, o, h1, h2, h3, h4, h5⟩ := x env he
  obtain ⟨o', e', d'⟩ := k F o h4 h5 h3
  exact ⟨hk, F, o', h1, h2, own_pre h3 hT h4, e', d'⟩
theorem FrOk.fun {b0 : Heap} {L : Lo} {h : Heap} : ∀ {fs : List Env}, FrOk b0 L h fs → h.FunFrames b0 fs
  | [], _ => trivial
  | env :: r, x => by
    obtain ⟨hk, F, o, h1, h2, h3, h4, es, n, h5⟩ := x env (List.mem_cons_self ..)
    exact ⟨hk, ⟨F, o, h1, h2, h4, fun vs e => by rw [h5] at e; cases e⟩, FrOk.fun fun e he => x e (List.mem_cons_of_mem _ he)⟩

/-- the state between two steps, the frame at hand apart -/
structure St (W : Wd) (q : Bool) (fs : List Env) (L : Lo) (σ : Store) (h : Heap) : Prop where
  base : W.b0.StaysIn h
  offb : ∀ a ∈ own L, W.b0.get? a = none
  lay : Lay W q L σ h
  fr : FrOk W.b0 L h fs

theorem FaOk.ofEnv {W : Wd} {q : Bool} {env : Env} {ρ : Loc} {L : Lo} {h : Heap} (x : EnvRel W q env ρ L h) : FaOk h (faOf env) := by
  intro b hb o ho
  obtain ⟨o', ho', z⟩ := x.low b hb
  rw [ho] at ho'; cases ho'
  exact z

section
variable {W : Wd} {q : Bool} {env : Env} {fs : List Env} {ρ : Loc} {L : Lo} {σ : Store} {h h' : Heap}
theorem KA.rel (k : KA h h') {v : Value} {p : PV} (r : RelV q L h v p) : RelV q L h' v p := (k.aft [] L).rel (.nil h) (fun _ => rfl) r
theorem KA.rels (k : KA h h') {vs : List Value} {ps : List PV} (r : RelVs q L h vs ps) : RelVs q L h' vs ps := (k.aft [] L).rels (.nil h) (fun _ => rfl) r
theorem Lay.ka (x : Lay W q L σ h) (k : KA h h') : Lay W q L σ h' :=
  ⟨x.len, x.apart, fun i p o e e' => (x.objs i p o e e').keep k.rel k.rels (k _) (k _), fun a ha => ⟨let ⟨o, e⟩ := (x.hidden a ha).1; ⟨o, k a o e⟩, (x.hidden a ha).2⟩⟩
theorem EnvRel.ka (x : EnvRel W q env ρ L h) (k : KA h h') : EnvRel W q env ρ L h' where
  kind := x.kind
  globals := x.globals
  builtins := x.builtins
  ns := let ⟨m, hm⟩ := x.ns; ⟨m, (k.slt _).ns hm⟩
  names := fun y pv e => let ⟨v, a, b⟩ := x.names y pv e; ⟨v, a.keep fun b _ => k.slt b, k.rel b⟩
  cells := fun y c e => let ⟨v, hv⟩ := x.cells y c e; ⟨v, (k.slt _).cell hv⟩
  apart := x.apart
  off := x.off
  low := fun b hb => let ⟨o, ho, z⟩ := x.low b hb; ⟨o, k b o ho, z⟩
  fresh := x.fresh
  have_ := x.have_
theorem FrOk.ka {b0 : Heap} (x : FrOk b0 L h fs) (k : KA h h') : FrOk b0 L h' fs := by
  have := x.keep (T := []) (h' := h') (fun _ q => by simp [ownT] at q) fun F o e d _ => ⟨o, k F o e, d⟩
  rwa [Lo.append_nil] at this
/-- everything stays: the state is the state -/
theorem St.ka (x : St W q fs L σ h) (k : KA h h') : St W q fs L σ h' :=
  ⟨fun b o e => k b o (x.base b o e), x.offb, x.lay.ka k, x.fr.ka k⟩
/-- an expression's turn keeps the frame -/
theorem EnvRel.aft {L' : Lo} (x : EnvRel W q env ρ L h) (k : Aft [] L h L' h') : EnvRel W q env ρ L' h' where
  kind := x.kind
  globals := x.globals
  builtins := x.builtins
  ns := let ⟨m, hm⟩ := x.ns; ⟨m, (k.keeps _ (x.off _ (List.mem_cons_self ..)) (fun z => by cases z)).ns hm⟩
  names := fun y pv e => let ⟨v, a, b⟩ := x.names y pv e; ⟨v, a.keep fun b hb => k.keeps b (x.off b hb) (fun z => by cases z), k.rel (.nil h) (fun _ => rfl) b⟩
  cells := fun y c e => let ⟨v, hv⟩ := x.cells y c e; ⟨v, (k.keeps c (x.off c (cell_mem e)) (fun z => by cases z)).cell hv⟩
  apart := x.apart
  off := fun b hb => by
    obtain ⟨⟨T, rfl, hT⟩, _⟩ := k
    obtain ⟨o, ho, _⟩ := x.low b hb
    exact own_pre (x.off b hb) hT ho
  low := fun b hb => by
    obtain ⟨o, ho, z⟩ := x.low b hb
    obtain ⟨sl, e, _⟩ := k.keeps b (x.off b hb) (fun z => by cases z) o ho
    exact ⟨_, e, z⟩
  fresh := x.fresh
  have_ := x.have_
theorem FrOk.aft {b0 : Heap} {L' : Lo} (x : FrOk b0 L h fs) (k : Aft [] L h L' h') : FrOk b0 L' h' fs := by
  have kk := k.keeps
  obtain ⟨⟨T, rfl, hT⟩, _⟩ := k
  exact x.keep hT fun F o e d hF => by
    obtain ⟨sl, e', _⟩ := kk F hF (fun z => by cases z) o e
    exact ⟨_, e', d⟩
end
theorem Aft.trans {W : Wd} {q : Bool} {σ₁ : Store} {fa : List Addr} {L L₁ L₂ : Lo} {h h₁ h₂ : Heap} (x : Aft fa L h L₁ h₁) (y : Aft fa L₁ h₁ L₂ h₂) (l : Lay W q L₁ σ₁ h₁) (hfa : ∀ b ∈ fa, ∃ o, h₁.get? b = some o) : Aft fa L h L₂ h₂ := by
  obtain ⟨⟨T, rfl, hT⟩, k⟩ := x
  obtain ⟨⟨T', rfl, hT'⟩, k'⟩ := y
  refine ⟨⟨T ++ T', by rw [Lo.append_assoc], fun a ha => ?_⟩, fun b hb hf o e => ?_⟩
  · rw [show ownT (T ++ T') = ownT T ++ ownT T' by simp [ownT], List.mem_append] at ha
    rcases ha with ha | ha
    · exact hT a ha
    · have h1 := hT' a ha
      cases e : h.get? a with
      | none => rfl
      | some o =>
        exfalso
        by_cases ho : a ∈ own (L ++ T)
        · obtain ⟨o', e'⟩ := l.live ho
          rw [h1] at e'; cases e'
        · rw [own_append, List.mem_append, not_or] at ho
          by_cases hf : a ∈ fa
          · obtain ⟨o', e'⟩ := hfa a hf
            rw [h1] at e'; cases e'
          · obtain ⟨sl, e', _⟩ := k a (fun z => ho.1 (List.mem_append_right _ z)) hf o e
            rw [h1] at e'; cases e'
  · exact ((k b hb hf).trans (k' b (own_preT hb hT e) hf)) o e
end Mine
end
/-! M4: an exception in flight, and how a frame notes it -/
section
set_option autoImplicit false
namespace Mine
open PySem PySem.W PyProof.Rows

/-- an exception of the text's own, made since h0; m: some frame has noted it -/
structure ExcAt (W : Wd) (h0 : Heap) (L : Lo) (h : Heap) (e : Addr) (x : PX) (m : Bool) : Prop where
  new : h0.get? e = none
  offb : W.b0.get? e = none
  off : e ∉ own L
  obj : ∃ vs d, h.get? e = some { cls := .ref (W.cls x.cls), dict := some d, data := .fields vs } ∧ 1 < vs.size ∧
    ((m = false ∧ vs[1]? = some .none) ∨ ∃ T ts oT, vs[1]? = some (.ref T) ∧ T ≠ e ∧ h0.get? T = none ∧ W.b0.get? T = none ∧ T ∉ own L ∧ h.get? T = some oT ∧ oT.cls = .type "traceback" ∧ oT.data = .fields ts ∧ 3 < ts.size) ∧
    h0.get? d = none ∧ d ∉ own L ∧ W.b0.get? d = none ∧
    ∀ i, x.spot = some i → W.cls x.cls = textFaultA ∧ ∃ od es n t, h.get? d = some od ∧ od.cls = .type "dict" ∧ od.data = .dict (List.toArray es) n ∧ getL spotStr es = some (some (.int i t))

/-- what the noting of e may turn: e, its traceback's head, the frames' slots -/
structure Nt (fs : List Env) (e : Addr) (h h' : Heap) : Prop where
  keep : ∀ b o, h.get? b = some o → b ≠ e → (∀ oe vs, h.get? e = some oe → oe.data = .fields vs → vs[1]? ≠ some (.ref b)) → b ∉ fs.filterMap (·.frame) → h'.get? b = some o
  frame : ∀ b o, h.get? b = some o → b ≠ e → (∀ oe vs, h.get? e = some oe → oe.data = .fields vs → vs[1]? ≠ some (.ref b)) → ∃ sl, h'.get? b = some { o with slots := sl } 

theorem FrOk.notFields {b0 : Heap} {L : Lo} {h : Heap} {fs : List Env} (fr : FrOk b0 L h fs) {b : Addr} (hb : b ∈ fs.filterMap (·.frame)) : (∃ o, h.get? b = some o ∧ ∃ es n, o.data = .dict es n) ∧ b0.get? b = none ∧ b ∉ own L := by
  obtain ⟨env, he, hF⟩ := List.mem_filterMap.mp hb
  obtain ⟨hk, F, o, h1, h2, h3, h4, h5⟩ := fr env he
  rw [h1] at hF
  obtain rfl := Option.some.inj hF
  exact ⟨⟨o, h4, h5⟩, h2, h3⟩

section
variable {M : Model} {A : Around} {E : Value → Shared → Prop} {s : Shared}
theorem frameOf_at {base : Heap} {env e0 : Env} {rest : List Env} {F : Addr} {Q : Value → Shared → Prop} (hfr : A.frames = some (e0 :: rest)) (he : e0.frame = env.frame) (hl : s.heap.FunFrames base (e0 :: rest))
    (hf : env.frame = some F) (h : ∀ h', Heap.SlotsOnly ((e0 :: rest).filterMap (·.frame)) s.heap h' → Q (.ref F) { s with heap := h' }) : wpAny M A (PySem.frameOf env) Q E s := by
  unfold PySem.frameOf
  refine wpAny_bind (wpAny_frameEnvs hfr ?_)
  have hdw : ((e0 :: rest).dropWhile fun x => x.frame != env.frame) = e0 :: rest := by simp [List.dropWhile, he]
  rw [hdw]
  unfold frameObject
  refine wpAny_bind (wpAny_bind (wpAny_readyFrames_fun hl fun h₁ hs₁ => wpAny_pure ?_))
  rw [he, hf]
  exact wpAny_pure (h h₁ hs₁)
end

theorem Obj.mapFields_is {c : Value} {d : Option Addr} {vs : Array Value} (f : Array Value → Array Value) : Obj.mapFields f { cls := c, dict := d, data := .fields vs } = { cls := c, dict := d, data := .fields (f vs) } := rfl

section
variable {M : Model} {A : Around} {E : Value → Shared → Prop} {s : Shared} {W : Wd}
/-- the new entry is laid ahead of the head -/
theorem entry_ok {env e0 : Env} {rest : List Env} {F : Addr} {h0 : Heap} {L : Lo} {e : Addr} {x : PX} {m : Bool} {head : Value} {hadNext : Bool} {Q : Unit → Shared → Prop}
    (hA : A.frames = some (e0 :: rest)) (he : e0.frame = env.frame) (hF : env.frame = some F) (fr : FrOk W.b0 L s.heap (e0 :: rest)) (hb : W.b0.StaysIn s.heap)
    (hz : ∀ b o, h0.get? b = some o → ∃ o', s.heap.get? b = some o') (hl : ∀ a ∈ own L, ∃ o, s.heap.get? a = some o) (X : ExcAt W h0 L s.heap e x m)
    (h : ∀ h', Nt (e0 :: rest) e s.heap h' → ExcAt W h0 L h' e x true → Q () { s with heap := h' }) :
    wpAny M A (do let a ← PySem.frameOf env; let pl ← entryPlaceOf F hadNext; let b ← EntryCells.newEntry head a .none (rawInt F) .none pl; setField (.ref e) 1 b) Q E s := by
  obtain ⟨x1, x2, x3, vs, d, ho, hsz, htb, hd1, hd2, hd3, hsp⟩ := X
  have hene : e ∉ (e0 :: rest).filterMap (·.frame) := fun hm => by
    obtain ⟨⟨o, q, es, n, w⟩, _⟩ := fr.notFields hm
    rw [ho] at q; cases q; cases w
  refine wpAny_bind (frameOf_at hA he fr.fun hF fun h₁ hs₁ => ?_)
  refine wpAny_bind (wpAny_entryPlaceOf fun pl hpl => ?_)
  unfold EntryCells.newEntry newFields
  refine wpAny_bind (wpAny_newObj_type ?_ (hpl.sizeOk5 _ _ _ _ _))
  have he₁ : h₁.get? e = some _ := (hs₁.2.1 e hene).trans ho
  have he₂ := Heap.get?_push_of_some (h := h₁) { cls := .type "traceback", dict := none, data := .fields ([head, .ref F, .none, rawInt F, .none] ++ (if pl.isEmpty then List.replicate 6 Value.none else pl)).toArray } he₁
  refine wpAny_setField he₂ rfl hsz ?_
  have hT0 : s.heap.get? h₁.objs.size = none := by rw [hs₁.1]; exact fresh_none _
  have hTe : h₁.objs.size ≠ e := fun q => by rw [q, ho] at hT0; cases hT0
  have keep : ∀ b o, b ≠ e → h₁.get? b = some o →
      ((h₁.push { cls := .type "traceback", dict := none, data := .fields ([head, .ref F, .none, rawInt F, .none] ++ (if pl.isEmpty then List.replicate 6 Value.none else pl)).toArray }).update e (Obj.mapFields (·.setIfInBounds 1 (Value.ref h₁.objs.size)))).get? b = some o := fun b o hbe hb => by
    rw [Heap.get?_update_other _ _ (Ne.symm hbe)]
    exact Heap.get?_push_of_some _ hb
  have frm : ∀ b o, s.heap.get? b = some o → b ≠ e → ∃ sl, ((h₁.push { cls := .type "traceback", dict := none, data := .fields ([head, .ref F, .none, rawInt F, .none] ++ (if pl.isEmpty then List.replicate 6 Value.none else pl)).toArray }).update e (Obj.mapFields (·.setIfInBounds 1 (Value.ref h₁.objs.size)))).get? b = some { o with slots := sl } := fun b o hbo hbe => by
    obtain ⟨sl, q⟩ := hs₁.2.2 b o hbo
    exact ⟨sl, keep b _ hbe q⟩
  refine h _ ⟨fun b o hbo hbe _ hbf => ?_, fun b o hbo hbe _ => frm b o hbo hbe⟩ ⟨x1, x2, x3, ?_⟩
  · have q := (hs₁.2.1 b hbf).trans hbo
    exact keep b o hbe q
  · refine ⟨_, d, (Heap.get?_update_self _ he₂ (Obj.isFreed_of_fields (Obj.data_mapFields rfl _))).trans (by rw [Obj.mapFields_is]), ?_, .inr ⟨h₁.objs.size, ([head, .ref F, .none, rawInt F, .none] ++ (if pl.isEmpty then List.replicate 6 Value.none else pl)).toArray, { cls := .type "traceback", dict := none, data := .fields ([head, .ref F, .none, rawInt F, .none] ++ (if pl.isEmpty then List.replicate 6 Value.none else pl)).toArray }, ?_, hTe, ?_, ?_, ?_, ?_, rfl, rfl, ?_⟩, hd1, hd2, hd3, ?_⟩
    · simpa using hsz
    · simp [hsz]
    · cases q : h0.get? h₁.objs.size with
      | none => rfl
      | some o => obtain ⟨o', q'⟩ := hz _ _ q; rw [hT0] at q'; cases q'
    · cases q : W.b0.get? h₁.objs.size with
      | none => rfl
      | some o => have q' := hb _ _ q; rw [hT0] at q'; cases q'
    · intro q
      obtain ⟨o', q'⟩ := hl _ q
      rw [hT0] at q'; cases q'
    · rw [Heap.get?_update_other _ _ (Ne.symm hTe)]
      exact Heap.get?_push_size h₁ rfl
    · simp only [List.size_toArray, List.length_append, List.length_cons, List.length_nil]; omega
    · intro i hi
      obtain ⟨hc, od', es, n, t, g1, g2, g3, g4⟩ := hsp i hi
      refine ⟨hc, ?_⟩
      have q : d ≠ e := fun q => by rw [q, ho] at g1; cases g1; cases g3
      obtain ⟨sl, q'⟩ := frm d od' g1 q
      exact ⟨_, es, n, t, q', g2, g3, g4⟩
end

theorem Nt.trans {fs : List Env} {e : Addr} {h h₁ h₂ : Heap} (x : Nt fs e h h₁) (y : Nt fs e h₁ h₂) (hs : ∀ oe vs, h.get? e = some oe → oe.data = .fields vs → h₁.get? e = some oe) (hex : ∃ oe vs, h.get? e = some oe ∧ oe.data = .fields vs) : Nt fs e h h₂ := by
  obtain ⟨oe, vs, e1, e2⟩ := hex
  have e3 := hs oe vs e1 e2
  refine ⟨fun b o hb hne hT hf => y.keep b o (x.keep b o hb hne hT hf) hne (fun oe' vs' q1 q2 => ?_) hf, fun b o hb hne hT => ?_⟩
  · rw [e3] at q1; cases q1
    rw [e2] at q2; cases q2
    exact hT oe vs e1 e2
  · obtain ⟨sl, q⟩ := x.frame b o hb hne hT
    obtain ⟨sl', q'⟩ := y.frame b _ q hne (fun oe' vs' q1 q2 => by
      rw [e3] at q1; cases q1
      rw [e2] at q2; cases q2
      exact hT oe vs e1 e2)
    exact ⟨sl', q'⟩
theorem Nt.refl (fs : List Env) (e : Addr) (h : Heap) : Nt fs e h h := ⟨fun _ _ hb _ _ _ => hb, fun _ o hb _ _ => ⟨o.slots, hb⟩⟩

section
variable {M : Model} {A : Around} {E : Value → Shared → Prop} {s : Shared} {W : Wd}
/-- the head of the traceback is turned at its fourth place -/
theorem touch_ok {fs : List Env} {h0 : Heap} {L : Lo} {e T : Addr} {x : PX} {m : Bool} {v : Value} {oe : Obj} {vs : Array Value} {Q : Unit → Shared → Prop} (X : ExcAt W h0 L s.heap e x m) (ho : s.heap.get? e = some oe) (hd : oe.data = .fields vs) (hv : vs[1]? = some (.ref T))
    (h : ∀ h', Nt fs e s.heap h' → ExcAt W h0 L h' e x m → h'.get? e = s.heap.get? e → Q () { s with heap := h' }) : wpAny M A (setField (.ref T) 3 v) Q E s := by
  obtain ⟨x1, x2, x3, vs', d, ho', hsz, htb, hd1, hd2, hd3, hsp⟩ := X
  rw [ho'] at ho
  obtain rfl := Option.some.inj ho
  obtain rfl : vs' = vs := by cases hd; rfl
  rcases htb with ⟨_, q⟩ | ⟨T', ts, oT, q, t1, t2, t3, t4, t5, t6, t7, t8⟩
  · rw [hv] at q; cases q
  rw [hv] at q
  obtain rfl : T = T' := by injection q with q; injection q
  refine wpAny_setField t5 t7 t8 ?_
  have oth : ∀ b, b ≠ T → (s.heap.update T (Obj.mapFields (·.setIfInBounds 3 v))).get? b = s.heap.get? b := fun b hb => Heap.get?_update_other _ _ (Ne.symm hb)
  have hT' : (s.heap.update T (Obj.mapFields (·.setIfInBounds 3 v))).get? T = some (Obj.mapFields (·.setIfInBounds 3 v) oT) := Heap.get?_update_self _ t5 (Obj.isFreed_of_fields (Obj.data_mapFields t7 _))
  have nT : ∀ b, (∀ oe vs, s.heap.get? e = some oe → oe.data = .fields vs → vs[1]? ≠ some (.ref b)) → b ≠ T := fun b hb z => hb _ _ ho' rfl (z ▸ hv)
  refine h _ ⟨fun b o hb _ hT _ => (oth b (nT b hT)).trans hb, fun b o hb _ hT => ⟨o.slots, (oth b (nT b hT)).trans hb⟩⟩ ⟨x1, x2, x3, vs', d, (oth e (Ne.symm t1)).trans ho', hsz, .inr ⟨T, _, _, hv, t1, t2, t3, t4, hT', (Obj.cls_mapFields _ _).trans t6, Obj.data_mapFields t7 _, by simpa using t8⟩, hd1, hd2, hd3, fun i hi => ?_⟩ (oth e (Ne.symm t1))
  · obtain ⟨hc, od', es, n, t, g1, g2, g3, g4⟩ := hsp i hi
    refine ⟨hc, od', es, n, t, (oth d fun z => ?_).trans g1, g2, g3, g4⟩
    rw [z, t5] at g1; cases g1
    rw [t7] at g3; cases g3
theorem ExcAt.tb {h0 : Heap} {L : Lo} {h : Heap} {e : Addr} {x : PX} {m : Bool} (X : ExcAt W h0 L h e x m) : ∃ oe vs v, h.get? e = some oe ∧ oe.data = .fields vs ∧ vs[1]? = some v ∧ ((m = false ∧ v = .none) ∨ ∃ T, v = .ref T) := by
  obtain ⟨x1, x2, x3, vs, d, ho, hsz, htb, _⟩ := X
  rcases htb with ⟨q, q'⟩ | ⟨T, ts, oT, q, _⟩
  · exact ⟨_, vs, .none, ho, rfl, q', .inl ⟨q, rfl⟩⟩
  · exact ⟨_, vs, .ref T, ho, rfl, q, .inr ⟨T, rfl⟩⟩
theorem flight_ok {fs : List Env} {h0 : Heap} {L : Lo} {e : Addr} {x : PX} {m : Bool} {fr : Option Addr} {Q : Unit → Shared → Prop} (X : ExcAt W h0 L s.heap e x m)
    (h : ∀ h', Nt fs e s.heap h' → ExcAt W h0 L h' e x m → Q () { s with heap := h' }) : wpAny M A (setFlight (.ref e) fr) Q E s := by
  obtain ⟨oe, vs, v, ho, hd, hv, z⟩ := X.tb
  unfold setFlight
  refine wpAny_bind (wpAny_field ho hd hv ?_)
  rcases z with ⟨_, rfl⟩ | ⟨T, rfl⟩
  · rw [if_neg (by simp)]
    exact wpAny_pure (h s.heap (.refl ..) X)
  · rw [if_pos (by simp)]
    exact touch_ok X ho hd hv fun h' n X' _ => h h' n X'
theorem note_ok {env e0 : Env} {rest : List Env} {F : Addr} {h0 : Heap} {L : Lo} {e : Addr} {x : PX} {m : Bool} {Q : Unit → Shared → Prop}
    (hA : A.frames = some (e0 :: rest)) (he : e0.frame = env.frame) (hF : env.frame = some F) (fr : FrOk W.b0 L s.heap (e0 :: rest)) (hb : W.b0.StaysIn s.heap)
    (hz : ∀ b o, h0.get? b = some o → ∃ o', s.heap.get? b = some o') (hl : ∀ a ∈ own L, ∃ o, s.heap.get? a = some o) (X : ExcAt W h0 L s.heap e x m)
    (h : ∀ h', Nt (e0 :: rest) e s.heap h' → ExcAt W h0 L h' e x true → Q () { s with heap := h' }) : wpAny M A (noteFrame (.ref e) env) Q E s := by
  obtain ⟨oe, vs, v, ho, hd, hv, z⟩ := X.tb
  unfold noteFrame
  rw [hF]
  refine wpAny_bind (wpAny_field ho hd hv ?_)
  rcases z with ⟨_, rfl⟩ | ⟨T, rfl⟩
  · have e1 : (Value.none != Value.none) = false := by decide
    simp only [e1, Bool.false_eq_true, if_false]
    exact entry_ok hA he hF fr hb hz hl X h
  · have e1 : (Value.ref T != Value.none) = true := by simp
    simp only [e1, if_true]
    have X0 := X
    obtain ⟨x1, x2, x3, vs', d, ho', hsz, htb, hd1, hd2, hd3, hsp⟩ := X0
    rw [ho'] at ho
    obtain rfl := Option.some.inj ho
    obtain rfl : vs' = vs := by cases hd; rfl
    rcases htb with ⟨_, q⟩ | ⟨T', ts, oT, q, t1, t2, t3, t4, t5, t6, t7, t8⟩
    · rw [hv] at q; cases q
    rw [hv] at q
    obtain rfl : T = T' := by injection q with q; injection q
    refine wpAny_bind (wpAny_field t5 t7 (Array.getElem?_eq_getElem t8) ?_)
    split
    · exact wpAny_pure (h s.heap (.refl ..) ⟨x1, x2, x3, vs', d, ho', hsz, .inr ⟨T, ts, oT, hv, t1, t2, t3, t4, t5, t6, t7, t8⟩, hd1, hd2, hd3, hsp⟩)
    · refine wpAny_bind (touch_ok (fs := e0 :: rest) X ho' rfl hv fun h₁ n₁ X₁ e₁ => ?_)
      have nF : ∀ b, (∃ o, s.heap.get? b = some o ∧ ∃ es n, o.data = .dict es n) → b ≠ e ∧ ∀ oe vs, s.heap.get? e = some oe → oe.data = .fields vs → vs[1]? ≠ some (.ref b) := fun b ⟨o, hb, es, n, hdd⟩ => by
        refine ⟨fun z => ?_, fun oe vs q1 q2 q3 => ?_⟩
        · rw [z, ho'] at hb; cases hb; cases hdd
        · rw [ho'] at q1; cases q1
          cases q2
          rw [hv] at q3
          obtain rfl : T = b := by injection q3 with q; injection q
          rw [t5] at hb; cases hb
          rw [t7] at hdd; cases hdd
      have nB : ∀ b o, (∀ a, W.b0.get? a = some o → True) → s.heap.get? b = some o → b ≠ e → b ≠ T → h₁.get? b = some o ∨ b ∈ (e0 :: rest).filterMap (·.frame) := fun b o _ hb h1 h2 => by
        by_cases hf : b ∈ (e0 :: rest).filterMap (·.frame)
        · exact .inr hf
        · refine .inl (n₁.keep b o hb h1 (fun oe vs q1 q2 q3 => ?_) hf)
          rw [ho'] at q1; cases q1
          cases q2
          rw [hv] at q3
          exact h2 (by injection q3 with q; injection q with q; exact q.symm)
      have ex : ∀ b o, s.heap.get? b = some o → ∃ o', h₁.get? b = some o' := fun b o hb => by
        by_cases h1 : b = e
        · exact ⟨_, h1 ▸ e₁.trans ho'⟩
        · by_cases h2 : b = T
          · obtain ⟨y1, y2, y3, vs2, d2, yo, _, ytb, _⟩ := X₁
            rw [e₁, ho'] at yo; cases yo
            rcases ytb with ⟨_, q⟩ | ⟨T2, _, oT2, q, _, _, _, _, w, _⟩
            · rw [hv] at q; cases q
            · rw [hv] at q
              obtain rfl : T = T2 := by injection q with q; injection q
              exact ⟨_, h2 ▸ w⟩
          · obtain ⟨sl, q⟩ := n₁.frame b o hb h1 (fun oe vs q1 q2 q3 => by
              rw [ho'] at q1; cases q1
              cases q2
              rw [hv] at q3
              exact h2 (by injection q3 with q; injection q with q; exact q.symm))
            exact ⟨_, q⟩
      refine entry_ok (s := { s with heap := h₁ }) hA he hF ?_ ?_ ?_ ?_ X₁ fun h' n' X' => h h' (n₁.trans n' (fun oe vs q1 _ => e₁.trans q1) ⟨_, _, ho', rfl⟩) X'
      · have := fr.keep (T := []) (h' := h₁) (fun _ q => by simp [ownT] at q) fun F o q1 q2 q3 => by
          obtain ⟨a, b⟩ := nF F ⟨o, q1, q2⟩
          obtain ⟨sl, q⟩ := n₁.frame F o q1 a b
          exact ⟨_, q, q2⟩
        rwa [Lo.append_nil] at this
      · intro b o hbo
        have q := hb b o hbo
        have h1 : b ≠ e := fun z => by rw [z, x2] at hbo; cases hbo
        have h2 : b ≠ T := fun z => by rw [z, t3] at hbo; cases hbo
        rcases nB b o (fun _ _ => trivial) q h1 h2 with r | r
        · exact r
        · rw [(fr.notFields r).2.1] at hbo; cases hbo
      · intro b o hbo
        obtain ⟨o', q⟩ := hz b o hbo
        exact ex b o' q
      · intro a ha
        obtain ⟨o, q⟩ := hl a ha
        exact ex a o q
end
end Mine
end
/-! M5: the operators and built-ins, each upon values that plain values tell -/
section
set_option autoImplicit false
namespace Mine
open PySem PySem.W PyProof.Rows

/-- what a step that keeps all hands on -/
abbrev Kp (q : Bool) (L : Lo) (s : Shared) (p : PV) (Q : Value → Shared → Prop) : Prop := ∀ v h' tk, KA s.heap h' → RelV q L h' v p → Q v { s with heap := h', toks := tk }

theorem strAppend (x y : List Nat) : (⟨x.toArray⟩ : Str) ++ ⟨y.toArray⟩ = ⟨(x ++ y).toArray⟩ := by
  apply Str.ext'
  simp [Str.cps_append]
theorem strLen (x : List Nat) : (⟨x.toArray⟩ : Str).length = x.length := by simp [Str.length]
theorem own_fresh {W : Wd} {q : Bool} {L : Lo} {σ : Store} {h : Heap} (l : Lay W q L σ h) : h.objs.size ∉ own L := fun m => by
  obtain ⟨o, e⟩ := l.live m
  rw [fresh_none] at e; cases e

theorem foldlAppend (c : Nat) : ∀ (n : Nat) (acc : Array Nat), (List.replicate n #[c]).foldl (· ++ ·) acc = acc ++ (List.replicate n c).toArray
  | 0, acc => by simp
  | n + 1, acc => by
    rw [List.replicate_succ, List.foldl_cons, foldlAppend c n]
    apply Array.ext'
    simp [List.replicate_succ]
theorem mulText (c : Nat) {y : Int} (hy : 0 ≤ y) : Txt.mul ⟨[c].toArray⟩ y = ⟨(List.replicate y.toNat c).toArray⟩ := by
  unfold Txt.mul
  split
  · have : y.toNat = 0 := by omega
    rw [this]; rfl
  · split
    · rename_i h1 h2
      have h3 : y = 1 := by simpa [Str.length] using h2
      subst h3; rfl
    · rw [foldlAppend]
      simp

theorem eqvs_all {f : PV → PV → Option Bool} : ∀ {as bs : List PV} {r : Bool}, eqvs f as bs = some r → ∃ e : Nat → Bool, (∀ j a b, as[j]? = some a → bs[j]? = some b → f a b = some (e j)) ∧ r = ((List.range (min as.length bs.length)).all e && as.length == bs.length)
  | [], [], r, h => by
    simp only [eqvs, Option.some.injEq] at h
    subst h
    exact ⟨fun _ => true, by simp, by simp⟩
  | [], b :: bs, r, h => by
    simp only [eqvs, Option.some.injEq] at h
    subst h
    exact ⟨fun _ => true, by simp, by simp⟩
  | a :: as, [], r, h => by
    simp only [eqvs, Option.some.injEq] at h
    subst h
    exact ⟨fun _ => true, by simp, by simp⟩
  | a :: as, b :: bs, r, h => by
    simp only [eqvs] at h
    split at h
    · cases h
    · rename_i e0 h0
      split at h
      · cases h
      · rename_i es hs
        cases h
        obtain ⟨e, h1, h2⟩ := eqvs_all hs
        refine ⟨fun j => match j with | 0 => e0 | j + 1 => e j, fun j x y hx hy => ?_, ?_⟩
        · cases j with
          | zero =>
            simp only [List.getElem?_cons_zero, Option.some.injEq] at hx hy
            subst hx hy
            exact h0
          | succ j =>
            simp only [List.getElem?_cons_succ] at hx hy
            exact h1 j x y hx hy
        · rw [h2]
          simp only [List.length_cons, Nat.succ_min_succ, Nat.add_min_add_right, List.range_succ_eq_map, List.all_cons, List.all_map, Bool.and_assoc]
          congr 1
          congr 1
          simp [Nat.succ_inj]
/-- one object is told by two plain values: they are equal, where that is known -/
theorem eqv_same : ∀ (n : Nat) {q : Bool} {L : Lo} {h : Heap} {v : Value} {a b : PV} {r : Bool}, RelV q L h v a → RelV q L h v b → eqvN n a b = some r → r = true := by
  intro n
  induction n with
  | zero => intro q L h v a b r _ _ e; cases e
  | succ n ih =>
    intro q L h v a b r ra rb e
    unfold eqvN at e
    split at e
    · cases e; rfl
    · cases e
      rename_i x y
      have h1 : v = .bool x := ra
      have h2 : v = .bool y := rb
      rw [h1] at h2; cases h2; simp
    · cases e
      obtain ⟨t, h1⟩ := ra
      obtain ⟨u, h2⟩ := rb
      rw [h1] at h2; cases h2; simp
    · cases e
      obtain ⟨t, h1⟩ := ra
      obtain ⟨u, h2⟩ := rb
      rw [h1] at h2
      injection h2 with h2 h3
      injection h2 with h2
      have := congrArg Array.toList h2
      simp only [List.toList_toArray] at this
      subst this; simp
    · simp only [RelV] at ra rb
      obtain ⟨t, vs, rfl, _, ht, hl⟩ := ra
      obtain ⟨u, ws, h2, _, hu, hl2⟩ := rb
      cases h2
      obtain ⟨o, ho, _, m, hd⟩ := ht
      obtain ⟨o', ho', _, m', hd'⟩ := hu
      rw [ho] at ho'; cases ho'
      rw [hd] at hd'; cases hd'
      obtain ⟨f, h1, rfl⟩ := eqvs_all e
      have hlen := hl.length.symm.trans hl2.length
      rw [hlen, Nat.min_self, Bool.and_eq_true]
      refine ⟨List.all_eq_true.mpr fun j hj => ?_, by simp⟩
      rw [List.mem_range] at hj
      obtain ⟨va, e1, r1⟩ := hl.get (List.getElem?_eq_getElem (by rw [hlen]; exact hj))
      obtain ⟨vb, e2, r2⟩ := hl2.get (List.getElem?_eq_getElem hj)
      rw [e1] at e2; cases e2
      exact ih r1 r2 (h1 j _ _ (List.getElem?_eq_getElem (by rw [hlen]; exact hj)) (List.getElem?_eq_getElem hj))
    · cases e
theorem strEq (x y : List Nat) : ((⟨x.toArray⟩ : Str) == ⟨y.toArray⟩) = (x == y) := by
  rw [Bool.eq_iff_iff]
  simp
open SeqAt in
theorem eqv_at : ∀ (n : Nat) {A : Around} {s : Shared} {q : Bool} {L : Lo} {va vb : Value} {a b : PV} {r : Bool}, RelV q L s.heap va a → RelV q L s.heap vb b → eqvN n a b = some r → A.units + n < cLine →
    RcAt A s va vb r ∧ EqAt A s va vb r ∧ RcNeAt A s va vb (!r) := by
  intro n
  induction n with
  | zero => intro A s q L va vb a b r _ _ e; cases e
  | succ n ih =>
    intro A s q L va vb a b r ra rb e hu
    have ra0 := ra
    have rb0 := rb
    have e0 := e
    unfold eqvN at e
    split at e
    · cases e
      have h1 : va = .none := ra
      have h2 : vb = .none := rb
      subst h1 h2
      exact ⟨RcAt.none_none, EqAt.same _, RcNeAt.none_none⟩
    · cases e
      have h1 : va = .bool _ := ra
      have h2 : vb = .bool _ := rb
      subst h1 h2
      exact ⟨RcAt.bool_bool _ _, EqAt.bool_bool _ _, RcNeAt.bool_bool _ _⟩
    · cases e
      obtain ⟨t, rfl⟩ := ra
      obtain ⟨u, rfl⟩ := rb
      exact ⟨RcAt.int_int _ _ _ _, EqAt.int_int _ _ _ _, RcNeAt.int_int _ _ _ _⟩
    · cases e
      obtain ⟨t, rfl⟩ := ra
      obtain ⟨u, rfl⟩ := rb
      rw [← strEq]
      exact ⟨RcAt.str_str _ _ _ _, EqAt.str_str _ _ _ _, RcNeAt.str_str _ _ _ _⟩
    · rename_i as bs
      simp only [RelV] at ra rb
      obtain ⟨t, vs, rfl, _, ht, hl⟩ := ra
      obtain ⟨u, ws, rfl, _, hw, hl2⟩ := rb
      obtain ⟨f, h1, h2⟩ := eqvs_all e
      have l1 := hl.length
      have l2 := hl2.length
      have he : ∀ j (g1 : j < vs.size) (g2 : j < ws.size), EqAt A.in1 s vs[j] ws[j] (f j) := fun j g1 g2 => by
        have g1' : j < vs.toList.length := by simpa using g1
        have g2' : j < ws.toList.length := by simpa using g2
        obtain ⟨v1, e1, r1⟩ := hl.get (List.getElem?_eq_getElem (by rw [← l1]; exact g1'))
        obtain ⟨v2, e2, r2⟩ := hl2.get (List.getElem?_eq_getElem (by rw [← l2]; exact g2'))
        have q1 : vs[j] = v1 := by simpa [g1] using e1
        have q2 : ws[j] = v2 := by simpa [g2] using e2
        rw [q1, q2]
        exact (ih (A := A.in1) r1 r2 (h1 j _ _ (List.getElem?_eq_getElem (by rw [← l1]; exact g1')) (List.getElem?_eq_getElem (by rw [← l2]; exact g2'))) (by simp only [Around.in1_units]; omega)).2.1
      have l1' : vs.size = as.length := by simpa using l1
      have l2' : ws.size = bs.length := by simpa using l2
      rw [← l1', ← l2'] at h2
      have rc : RcAt A s (.ref t) (.ref u) r := by
        rw [h2]
        exact RcAt.tuples ht hw (by omega) he
      refine ⟨rc, ?_, ?_⟩
      · by_cases htu : t = u
        · subst htu
          rw [eqv_same (n + 1) ra0 rb0 e0]
          exact EqAt.same _
        · exact EqAt.of_refs htu rc
      · rw [h2]
        exact RcNeAt.tuples ht hw (by omega) he
    · cases e

section
variable {prog : Program} {w : World} {A : Around} {E : Value → Shared → Prop} {s : Shared} {W : Wd} {q : Bool} {L : Lo} {σ : Store} {Q : Value → Shared → Prop} {va vb : Value} {a b p : PV}

theorem mulOk_small {x y : Int} (hx : x.natAbs < IB) : IntMulOk x y := by
  unfold IB at hx
  mul_fits

theorem tupAdd_ok {t u : Addr} {vs ws : List Value} (ht : IsTup s.heap t vs.toArray) (hu : IsTup s.heap u ws.toArray) (hsz : vs.length + ws.length ≤ sizeLine)
    (h : ∀ r h', KA s.heap h' → IsTup h' r (vs ++ ws).toArray → (r = t ∨ r = u ∨ r = s.heap.objs.size) → Q (.ref r) { s with heap := h' }) : wpAny (model prog w) A (binaryOp .Add (.ref t) (.ref u)) Q E s := by
  obtain ⟨⟨c1, d1, x1, l1⟩, ho, hc, n, hd⟩ := id ht
  obtain ⟨⟨c2, d2, x2, l2⟩, ho2, hc2, n2, hd2⟩ := id hu
  simp only at hc hd hc2 hd2
  subst hc hd hc2 hd2
  by_cases hv : vs = []
  · refine concat_meets ⟨_, ho, rfl⟩ ⟨_, ho2, rfl⟩ noFill_tuple_add seq_tuple_add PySem.F.slot_tuple_add PySem.F.entry_tuple_add (PySem.F.args_tuple_add_2 _ _)
      (tuple_addW0 t u vs.toArray ws.toArray n n2 d1 d2 l1 l2 (by simp [hv])) ⟨ho, ho2, ?_⟩
    exact h u s.heap (.refl _) (by rw [hv, List.nil_append]; exact hu) (.inr (.inl rfl))
  · by_cases hw : ws = []
    · refine concat_meets ⟨_, ho, rfl⟩ ⟨_, ho2, rfl⟩ noFill_tuple_add seq_tuple_add PySem.F.slot_tuple_add PySem.F.entry_tuple_add (PySem.F.args_tuple_add_2 _ _)
        (tuple_addW1 t u vs.toArray ws.toArray n n2 d1 d2 l1 l2 (by simpa using hv) (by simp [hw])) ⟨ho, ho2, ?_⟩
      exact h t s.heap (.refl _) (by rw [hw, List.append_nil]; exact ht) (.inl rfl)
    · refine concat_meets ⟨_, ho, rfl⟩ ⟨_, ho2, rfl⟩ noFill_tuple_add seq_tuple_add PySem.F.slot_tuple_add PySem.F.entry_tuple_add (PySem.F.args_tuple_add_2 _ _)
        (tuple_addW2 t u vs.toArray ws.toArray n n2 d1 d2 l1 l2 (by simpa using hv) (by simpa using hw) (by rw [List.size_toArray, List.size_toArray]; exact hsz)) ⟨ho, ho2, ?_⟩
      refine h s.heap.objs.size _ (KA.push _ _) ⟨_, Heap.get?_push_size _ rfl, rfl, 0, ?_⟩ (.inr (.inr rfl))
      simp

theorem binop_ok {op : Operator} (hr : binop op a b = some p) (lay : Lay W q L σ s.heap) (ra : RelV q L s.heap va a) (rb : RelV q L s.heap vb b) (h : Kp q L s p Q) : wpAny (model prog w) A (binaryOp op va vb) Q E s := by
  unfold binop at hr
  split at hr
  · cases hr
    obtain ⟨t, rfl⟩ := ra; obtain ⟨u, rfl⟩ := rb
    exact add_int (h _ s.heap _ (.refl _) ⟨_, rfl⟩)
  · rename_i x y
    split at hr
    · rename_i hz
      cases hr
      obtain ⟨t, rfl⟩ := ra; obtain ⟨u, rfl⟩ := rb
      refine add_str (fun t' tk => h _ s.heap tk (.refl _) ⟨t', ?_⟩) (by rw [strLen, strLen, sizeLine_eq]; unfold SZ at hz; omega)
      rw [strAppend]
    · cases hr
  · rename_i x y
    split at hr
    · rename_i hz
      cases hr
      simp only [RelV] at ra rb
      obtain ⟨t, vs, rfl, ho, ht, hl⟩ := ra
      obtain ⟨u, ws, rfl, ho2, hu, hl2⟩ := rb
      refine tupAdd_ok (vs := vs.toList) (ws := ws.toList) ht hu ?_ fun r h' k hr hr' => h _ h' _ k ?_
      · rw [hl.length, hl2.length, sizeLine_eq]; unfold SZ at hz; omega
      · simp only [RelV]
        refine ⟨r, _, rfl, ?_, hr, ?_⟩
        · rcases hr' with rfl | rfl | rfl
          · exact ho
          · exact ho2
          · exact own_fresh lay
        · exact (k.rels hl).append (k.rels hl2)
    · cases hr
  · cases hr
    obtain ⟨t, rfl⟩ := ra; obtain ⟨u, rfl⟩ := rb
    exact sub_int (h _ s.heap _ (.refl _) ⟨_, rfl⟩)
  · split at hr
    · rename_i hz
      cases hr
      obtain ⟨t, rfl⟩ := ra; obtain ⟨u, rfl⟩ := rb
      exact mul_int (h _ s.heap _ (.refl _) ⟨_, rfl⟩) (mulOk_small hz.1)
    · cases hr
  · rename_i c y
    split at hr
    · rename_i hz
      cases hr
      obtain ⟨t, rfl⟩ := ra; obtain ⟨u, rfl⟩ := rb
      unfold SZ at hz
      refine SB.mul ⟨?_, ?_, ?_⟩ (fun t' k => h _ s.heap k (.refl _) ⟨t', ?_⟩)
      · rw [decide_eq_false (by omega), decide_eq_false (by omega)]; rfl
      · intro h1 _
        rw [strLen]
        have : (2 ^ 63 - 1 : Int) / y ≥ 1 := by
          have := Int.le_ediv_of_mul_le (c := y) (a := 1) (b := 2 ^ 63 - 1) (by omega) (by omega)
          omega
        simp only [List.length_cons, List.length_nil]
        omega
      · intro _ _
        rw [strLen]
        unfold Builtin.Str.tooLong
        simp only [List.length_cons, List.length_nil, sizeLine_eq]
        exact decide_eq_false (by omega)
      · rw [mulText c hz.1]
    · cases hr
  · split at hr
    · rename_i hz
      cases hr
      obtain ⟨t, rfl⟩ := ra; obtain ⟨u, rfl⟩ := rb
      exact mod_int' (by omega) (h _ s.heap _ (.refl _) ⟨_, rfl⟩)
    · cases hr
  · cases hr

theorem eq_ok {r : Bool} (hr : eqv a b = some r) (ra : RelV q L s.heap va a) (rb : RelV q L s.heap vb b) (hu : A.units + 40 < cLine) (h : Q (.bool r) s) : wpAny (model prog w) A (compareOp .Eq va vb) Q E s :=
  (eqv_at 40 ra rb hr hu).1 prog w E Q h
theorem ne_ok {r : Bool} (hr : eqv a b = some r) (ra : RelV q L s.heap va a) (rb : RelV q L s.heap vb b) (hu : A.units + 40 < cLine) (h : Q (.bool (!r)) s) : wpAny (model prog w) A (compareOp .NotEq va vb) Q E s :=
  (eqv_at 40 ra rb hr hu).2.2 prog w E Q h
def isNone (v : Value) : Bool := match v with
  | .none => true
  | _ => false
theorem noneIn_any {A : Around} {q : Bool} {L : Lo} {s : Shared} : ∀ {vs : List Value} {l : List PV} {r : Bool}, RelVs q L s.heap vs l → noneIn l = some r → (∀ v ∈ vs, SeqAt.EqAt A s v .none (isNone v)) ∧ vs.any isNone = r
  | [], [], r, _, h => by
    simp only [noneIn, Option.some.injEq] at h
    subst h
    exact ⟨fun _ q => (by cases q), rfl⟩
  | v :: vs, .none :: l, r, x, h => by
    simp only [noneIn, Option.map_eq_some_iff] at h
    obtain ⟨r', h, rfl⟩ := h
    simp only [RelVs] at x
    have h1 : v = .none := x.1
    subst h1
    obtain ⟨h2, _⟩ := noneIn_any x.2 h
    refine ⟨fun v hv => ?_, by simp [isNone]⟩
    rcases List.mem_cons.mp hv with rfl | hv
    · exact SeqAt.EqAt.same _
    · exact h2 v hv
  | v :: vs, .int i :: l, r, x, h => by
    simp only [noneIn] at h
    simp only [RelVs] at x
    obtain ⟨⟨t, h1⟩, x2⟩ := x
    subst h1
    obtain ⟨h2, h3⟩ := noneIn_any x2 h
    refine ⟨fun v hv => ?_, by simp [isNone, h3]⟩
    rcases List.mem_cons.mp hv with rfl | hv
    · exact SeqAt.EqAt.int_none _ _
    · exact h2 v hv
  | _ :: _, .bool _ :: _, _, _, h => by simp [noneIn] at h
  | _ :: _, .str _ :: _, _, _, h => by simp [noneIn] at h
  | _ :: _, .tup _ :: _, _, _, h => by simp [noneIn] at h
  | _ :: _, .lst _ :: _, _, _, h => by simp [noneIn] at h
  | _ :: _, .rng _ :: _, _, _, h => by simp [noneIn] at h
  | _ :: _, .ref _ :: _, _, _, h => by simp [noneIn] at h
  | _ :: _, .exn _ :: _, _, _, h => by simp [noneIn] at h
  | [], _ :: _, _, x, _ => by simp [RelVs] at x
  | _ :: _, [], _, x, _ => by simp [RelVs] at x
theorem cmpop_ok {op : CmpOp} {r : Bool} (hr : cmpop op a b = some r) (ra : RelV q L s.heap va a) (rb : RelV q L s.heap vb b) (hu : A.units + 40 < cLine) (h : Q (.bool r) s) : wpAny (model prog w) A (compareOp op va vb) Q E s := by
  unfold cmpop at hr
  cases op with
  | Eq => exact eq_ok hr ra rb hu h
  | NotEq =>
    obtain ⟨r', e, rfl⟩ := Option.map_eq_some_iff.mp hr
    exact ne_ok e ra rb hu h
  | Lt =>
    simp only at hr
    split at hr
    · cases hr
      obtain ⟨t, rfl⟩ := ra
      obtain ⟨u, rfl⟩ := rb
      exact lt_int h
    · cases hr
  | LtE =>
    simp only at hr
    split at hr
    · cases hr
      obtain ⟨t, rfl⟩ := ra
      obtain ⟨u, rfl⟩ := rb
      exact le_int h
    · cases hr
  | Gt =>
    simp only at hr
    split at hr
    · cases hr
      obtain ⟨t, rfl⟩ := ra
      obtain ⟨u, rfl⟩ := rb
      exact gt_int h
    · cases hr
  | GtE =>
    simp only at hr
    split at hr
    · cases hr
      obtain ⟨t, rfl⟩ := ra
      obtain ⟨u, rfl⟩ := rb
      exact ge_int h
    · cases hr
  | Is =>
    simp only at hr
    split at hr
    · cases hr
      have h1 : va = .none := ra
      have h2 : vb = .none := rb
      subst h1 h2
      exact is_none h
    · cases hr
      obtain ⟨t, rfl⟩ := ra
      have h2 : vb = .none := rb
      subst h2
      exact is_none h
    · cases hr
  | IsNot =>
    simp only at hr
    split at hr
    · cases hr
      have h1 : va = .none := ra
      have h2 : vb = .none := rb
      subst h1 h2
      exact isNot_none h
    · cases hr
      obtain ⟨t, rfl⟩ := ra
      have h2 : vb = .none := rb
      subst h2
      exact isNot_none h
    · cases hr
  | In =>
    simp only at hr
    split at hr
    · rename_i x y
      unfold inStr at hr
      split at hr
      · cases hr
        obtain ⟨t, rfl⟩ := ra
        obtain ⟨u, rfl⟩ := rb
        refine SB.contains ?_
        unfold Txt.contains
        rw [StrLaws.found_one]
        simpa [List.contains_eq_mem] using h
      · cases hr
    · have h1 : va = .none := ra
      subst h1
      simp only [RelV] at rb
      obtain ⟨u, ws, rfl, _, hw, hl⟩ := rb
      obtain ⟨h2, h3⟩ := noneIn_any (A := A.in1) hl hr
      refine SeqAt.in_listAt isNone hw (fun y hy => h2 y (by simpa using hy)) ?_
      rw [← Array.any_toList, h3]
      exact h
    · cases hr
  | NotIn =>
    simp only at hr
    split at hr
    · rename_i x y
      obtain ⟨r', e, rfl⟩ := Option.map_eq_some_iff.mp hr
      unfold inStr at e
      split at e
      · cases e
        obtain ⟨t, rfl⟩ := ra
        obtain ⟨u, rfl⟩ := rb
        refine SB.notContains ?_
        unfold Txt.contains
        rw [StrLaws.found_one]
        simpa [List.contains_eq_mem] using h
      · cases e
    · cases hr

theorem neg_ok (hr : negop a = some p) (ra : RelV q L s.heap va a) (h : Kp q L s p Q) : wpAny (model prog w) A (unaryOp .USub va) Q E s := by
  unfold negop at hr
  split at hr
  · cases hr
    obtain ⟨t, rfl⟩ := ra
    exact neg_int (h _ s.heap _ (.refl _) ⟨_, rfl⟩)
  · cases hr
theorem isNil_ok {r : Bool} (hr : isNil σ a = some r) (lay : Lay W q L σ s.heap) (ra : RelV q L s.heap va a) {b : Addr} (hb : s.heap.IsList b #[]) (hu : A.units + 40 < cLine) (h : Q (.bool r) s) : wpAny (model prog w) A (compareOp .Eq va (.ref b)) Q E s := by
  have key : ∀ t vs (l : List PV), s.heap.IsList t vs → RelVs q L s.heap vs.toList l → Q (.bool l.isEmpty) s → wpAny (model prog w) A (compareOp .Eq (.ref t) (.ref b)) Q E s := fun t vs l ht hl hq => by
    have l1 := hl.length
    have l1' : vs.size = l.length := by simpa using l1
    by_cases hz : vs.size = 0
    · refine SeqAt.RcAt.lists (e := fun _ => true) ht hb (by simpa using hz) (by omega) (fun j h1 _ => by omega) prog w E Q ?_
      have : l = [] := List.length_eq_zero_iff.mp (by omega)
      subst this
      have e : ((List.range vs.size).all fun _ => true) = true := by simp
      rw [e]
      exact hq
    · refine SeqAt.RcAt.lists_lengths ht hb (by simpa using hz) (by omega) prog w E Q ?_
      have : l.isEmpty = false := by
        cases l with
        | nil => rw [List.length_nil] at l1'; exact absurd l1' hz
        | cons => rfl
      rw [this] at hq
      exact hq
  cases a <;> first | (cases hr; done) | skip
  case lst l =>
    cases hr
    simp only [RelV] at ra
    obtain ⟨t, vs, rfl, _, ht, hl⟩ := ra
    exact key t vs _ ht hl h
  case ref k =>
    simp only [isNil] at hr
    cases hk : σ[k]? with
    | none => rw [hk] at hr; cases hr
    | some o =>
      rw [hk] at hr
      cases o with
      | inst => cases hr
      | tab => cases hr
      | lst l =>
        cases hr
        simp only [RelV] at ra
        obtain ⟨p, hp, rfl⟩ := ra
        obtain ⟨_, vs, ht, hl⟩ := lay.objs k p _ hp hk
        replace ht := ht.isList
        exact key p.a vs _ ht hl h

theorem seqAt_some {l : List PV} {i : Int} (h : seqAt l i = some p) : 0 ≤ i ∧ l.length ≤ SZ ∧ l[i.toNat]? = some p := by
  unfold seqAt at h
  split at h
  · rename_i z; exact ⟨z.1, z.2, h⟩
  · cases h
theorem seqIndex_of {i : Int} {n : Nat} (h0 : 0 ≤ i) (h1 : i.toNat < n) : seqIndex? i n = some i.toNat := by
  unfold seqIndex?
  have e : ¬ i < 0 := by omega
  simp only [e, if_false]
  rw [if_pos]
  simp only [Bool.and_eq_true, decide_eq_true_eq]
  omega
theorem notSlice_sub {slice : Expr} (hns : ∀ l u st p, slice ≠ .Slice l u st p) (o i : Value) : subscripted slice false o i = operate [o, i] (getItem o i) := by
  cases slice <;> first | rfl | exact absurd rfl (hns _ _ _ _)
theorem sub_ok {value slice : Expr} (hns : ∀ l u st p, slice ≠ .Slice l u st p) (hr : subop σ a b = some p) (lay : Lay W q L σ s.heap) (ra : RelV q L s.heap va a) (rb : RelV q L s.heap vb b) (h : Kp q L s p Q) :
    wpAny (model prog w) A (subscriptTail value slice va vb) Q E s := by
  have hl : ∀ {t : Addr} {vs : Array Value} {l : List PV} {i : Int} {u : Tok}, s.heap.IsList t vs → RelVs q L s.heap vs.toList l → seqAt l i = some p → wpAny (model prog w) A (subscriptTail value slice (.ref t) (.int i u)) Q E s := fun {t vs l i u} ht hl hq => by
    obtain ⟨h0, hz, hx⟩ := seqAt_some hq
    obtain ⟨v, e, r⟩ := hl.get hx
    have hlt : i.toNat < l.length := (List.getElem?_eq_some_iff.mp hx).1
    unfold SZ at hz
    exact tail_any ht.typeIs PySem.F.slot_list_getitem.lookup (wpAny_getItem_list ht h0 (by omega) (by simpa using e) (h v s.heap s.toks (.refl _) r)) (notSlice_sub hns _ _)
  unfold subop at hr
  split at hr
  · rename_i l i
    simp only [RelV] at ra
    obtain ⟨t, vs, rfl, _, ht, hl'⟩ := ra
    obtain ⟨u, rfl⟩ := rb
    obtain ⟨h0, hz, hx⟩ := seqAt_some hr
    obtain ⟨v, e, r⟩ := hl'.get hx
    have hlt : i.toNat < l.length := (List.getElem?_eq_some_iff.mp hx).1
    have hlen : vs.size = l.length := by simpa using hl'.length
    unfold SZ at hz
    refine tail_any (T := "tuple") (let ⟨o, ho, hc, _⟩ := ht; ⟨o, ho, hc⟩) PySem.F.slot_tuple_getitem.lookup (getItem_tuple ht (by omega) (by omega) (seqIndex_of h0 (by omega)) (by simpa using e) (h v s.heap s.toks (.refl _) r)) (notSlice_sub hns _ _)
  · simp only [RelV] at ra
    obtain ⟨t, vs, rfl, _, ht, hl'⟩ := ra
    obtain ⟨u, rfl⟩ := rb
    exact hl ht hl' hr
  · rename_i l i
    split at hr
    · rename_i z
      obtain ⟨c, hc, rfl⟩ := Option.map_eq_some_iff.mp hr
      obtain ⟨t, rfl⟩ := ra
      obtain ⟨u, rfl⟩ := rb
      have hlt : i.toNat < l.length := (List.getElem?_eq_some_iff.mp hc).1
      have hz := z.2
      unfold SZ at hz
      refine tail_any (T := "str") rfl PySem.F.slot_str_getitem.lookup (getItem_str (c := c) ?_ ?_ (h _ s.heap _ (.refl _) ⟨_, rfl⟩)) (notSlice_sub hns _ _)
      · rw [decide_eq_false (by omega), decide_eq_false (by omega)]; rfl
      · rw [strLen, seqIndex_of z.1 hlt]
        simpa using hc
    · cases hr
  · rename_i k i
    cases hk : σ[k]? with
    | none => rw [hk] at hr; cases hr
    | some o =>
      rw [hk] at hr
      cases o with
      | inst => cases hr
      | tab => cases hr
      | lst l =>
        simp only [RelV] at ra
        obtain ⟨p', hp, rfl⟩ := ra
        obtain ⟨u, rfl⟩ := rb
        obtain ⟨_, vs, ht, hl'⟩ := lay.objs k p' _ hp hk
        replace ht := ht.isList
        exact hl ht hl' hr
  · cases hr

/-- what an end of a slice is told by -/
def RelO (q : Bool) (L : Lo) (h : Heap) (v : Value) : Option PV → Prop
  | .none => v = .none
  | some p => RelV q L h v p
theorem cutIdx {α : Type} (xs : Array α) (a b : Nat) : ((List.range (b - a)).map (a + ·)).filterMap (xs[·]?) = (xs.toList.take b).drop a := by
  rw [pick_run, List.drop_take]
theorem clip_cut {α : Type} (l : List α) (a b : Nat) : (l.take (min b l.length)).drop (min a l.length) = (l.take b).drop a := by
  apply List.ext_getElem?
  intro i
  simp only [List.getElem?_drop, List.getElem?_take]
  by_cases h1 : a ≤ l.length
  · rw [Nat.min_eq_left h1]
    by_cases h2 : a + i < b
    · by_cases h3 : a + i < l.length
      · rw [if_pos (by omega), if_pos h2]
      · rw [if_neg (by omega), if_pos h2, List.getElem?_eq_none (by omega)]
    · rw [if_neg (by omega), if_neg h2]
  · rw [Nat.min_eq_right (by omega)]
    rw [if_neg (by omega)]
    split
    · rw [List.getElem?_eq_none (by omega)]
    · rfl
theorem strIdx {n : Nat} {lo hi : Option Int} {a b : Nat} (ha : lo = some (a : Int) ∨ (lo = .none ∧ a = 0)) (hb : hi = some (b : Int) ∨ (hi = .none ∧ b = n)) :
    Builtin.Str.strSliceIndices lo hi 1 n = (List.range (min b n - min a n)).map (min a n + ·) := by
  rw [← sliceRange_one]
  unfold Builtin.Str.strSliceIndices
  simp only
  have z1 : (1 : Int) > 0 := by decide
  rw [if_pos z1, if_pos z1]
  congr 1
  · rcases ha with rfl | ⟨rfl, rfl⟩
    · simp only [z1, if_true]
      rw [if_neg (by omega)]
      omega
    · simp
  · rcases hb with rfl | ⟨rfl, rfl⟩
    · simp only [z1, if_true]
      rw [if_neg (by omega)]
      omega
    · simp
theorem bound_some {d : Nat} {o : Option PV} {r : Nat} (h : bound d o = some r) : (o = .none ∧ r = d) ∨ ∃ i : Int, o = some (.int i) ∧ 0 ≤ i ∧ i ≤ SZ ∧ r = i.toNat := by
  unfold bound at h
  split at h
  · cases h; exact .inl ⟨rfl, rfl⟩
  · split at h
    · rename_i i z
      cases h; exact .inr ⟨i, rfl, z.1, z.2, rfl⟩
    · cases h
  · cases h
theorem part_of {v : Value} {o : Option PV} {d r : Nat} (hv : RelO q L s.heap v o) (h : bound d o = some r) : ∃ p : Option (Int × Tok), partValue p = v ∧ (p.map (·.1) = some (r : Int) ∨ (p.map (·.1) = .none ∧ r = d)) := by
  rcases bound_some h with ⟨rfl, rfl⟩ | ⟨i, rfl, h0, _, rfl⟩
  · have : v = .none := hv
    subst this
    exact ⟨.none, rfl, .inr ⟨rfl, rfl⟩⟩
  · obtain ⟨t, rfl⟩ := hv
    exact ⟨some (i, t), rfl, .inl (by simp only [Option.map_some]; congr 1; omega)⟩
theorem slice_ok {value : Expr} {lo hi : Option Expr} {pos : Pos} {vl vu : Value} {ol ou : Option PV} {sl : Addr} (hr : sliceop a ol ou = some p) (lay : Lay W q L σ s.heap) (ra : RelV q L s.heap va a)
    (hl : RelO q L s.heap vl ol) (hu : RelO q L s.heap vu ou) (hs : s.heap.IsSliceOf sl vl vu .none) (h : Kp q L s p Q) : wpAny (model prog w) A (subscriptTail value (.Slice lo hi none pos) va (.ref sl)) Q E s := by
  unfold sliceop at hr
  split at hr
  · rename_i l
    split at hr
    · rename_i hz
      split at hr
      · rename_i x y hx hy
        cases hr
        obtain ⟨t, rfl⟩ := ra
        obtain ⟨pl, rfl, h1⟩ := part_of hl hx
        obtain ⟨pu, rfl, h2⟩ := part_of hu hy
        have key := strIdx (n := l.length) h1 h2
        have h0 : (((Option.none : Option (Int × Tok)).map (·.1)).getD 1 == 0) = false := rfl
        refine tail_any (ops := [.ref sl, .str ⟨l.toArray⟩ t]) (T := "str") rfl PySem.F.slot_str_getitem.lookup (wpAny_getItem_str_slice (st := none) hs h0 ?_) rfl
        unfold sliceMade slicePicked
        rw [strLen]
        simp only [Option.map_none, Option.getD_none, key]
        split
        · rename_i hc
          refine h _ s.heap s.toks (.refl _) ⟨t, ?_⟩
          have hlen : min y l.length - min x l.length = l.length := by simpa using hc
          have : cut l x y = l := by
            unfold cut
            rw [← clip_cut]
            by_cases hz : l.length = 0
            · have : l = [] := List.length_eq_zero_iff.mp hz
              subst this; simp
            · rw [show min x l.length = 0 by omega, show min y l.length = l.length by omega]
              simp
          rw [this]
        · have e : (List.filterMap (fun i => (⟨l.toArray⟩ : Str).cps[i]?) (List.map (fun i => min x l.length + i) (List.range (min y l.length - min x l.length)))) = cut l x y := by
            rw [cutIdx]
            exact clip_cut l x y
          rw [e]
          refine ⟨?_, h _ s.heap _ (.refl _) ⟨_, rfl⟩⟩
          rw [strLen, sizeLine_eq]
          unfold cut
          unfold SZ at hz
          simp only [List.length_drop, List.length_take]
          omega
      · cases hr
    · cases hr
  · rename_i l
    split at hr
    · rename_i hz
      split at hr
      · rename_i i
        split at hr
        · rename_i hi
          cases hr
          have e : i = ((i.toNat : Nat) : Int) := by omega
          obtain ⟨u, rfl⟩ := hl
          have : vu = .none := hu
          subst this
          simp only [RelV] at ra
          obtain ⟨t, vs, rfl, ho, ht, hrl⟩ := ra
          have hlen : vs.size = l.length := by simpa using hrl.length
          unfold SZ at hz
          rw [e] at hs
          refine tail_any (ops := [.ref sl, .ref t]) (T := "tuple") (let ⟨o, ho, hc, _⟩ := ht; ⟨o, ho, hc⟩) PySem.F.slot_tuple_getitem.lookup (getItem_tuple_from ht hs (by omega) (by omega) ?_ (by rw [sizeLine_eq]; omega)) rfl
          refine h _ _ s.toks (KA.push _ _) ?_
          simp only [RelV]
          refine ⟨_, _, rfl, own_fresh lay, ⟨_, Heap.get?_push_size _ rfl, rfl, 0, rfl⟩, ?_⟩
          exact (KA.push _ _).rels (hrl.drop _)
        · cases hr
      · cases hr
    · cases hr
  · rename_i l
    split at hr
    · rename_i hz
      split at hr
      · rename_i i
        split at hr
        · rename_i hi
          cases hr
          obtain ⟨u, rfl⟩ := hu
          have : vl = .none := hl
          subst this
          simp only [RelV] at ra
          obtain ⟨t, vs, rfl, ho, ht, hrl⟩ := ra
          have hlen : vs.size = l.length := by simpa using hrl.length
          unfold SZ at hz
          refine tail_any (ops := [.ref sl, .ref t]) ht.typeIs PySem.F.slot_list_getitem.lookup (wpAny_getItem_list_slice ht hs .none (.int i u) .none (by simp) ?_ (by rw [sizeLine_eq]; omega)) rfl
          refine h _ _ s.toks (KA.push _ _) ?_
          have e2 : slicePick vs none (some i) none = (List.take i.toNat vs.toList).toArray := by
            have := slicePick_upto' vs i.toNat
            rwa [Int.toNat_of_nonneg hi.1] at this
          rw [e2]
          simp only [RelV]
          refine ⟨_, _, rfl, own_fresh lay, ⟨_, Heap.get?_push_size _ rfl, rfl, 0, rfl⟩, ?_⟩
          have := (KA.push s.heap { cls := .type "list", data := .seq (List.take i.toNat vs.toList).toArray }).rels (hrl.take i.toNat)
          simpa using this
        · cases hr
      · cases hr
    · cases hr
  · cases hr

theorem digs_str (i : Int) : (Str.ofString (toString i)) = ⟨(digs i).toArray⟩ := by
  unfold Str.ofString digs
  rw [cpsOfBytes_string]
theorem isDig_iff {c : Nat} : isDig c = true ↔ 48 ≤ c ∧ c ≤ 57 := by
  unfold isDig
  rw [Bool.and_eq_true, Nat.ble_eq, Nat.ble_eq]
theorem numText {l : List Nat} (h0 : l ≠ []) (h1 : l.length ≤ 18) (h2 : l.all isDig = true) : PySem.intText? ⟨l.toArray⟩ = some ((numOf l : Nat) : Int) := by
  have := intText_digits (x := ⟨l.toArray⟩) (fun c hc => isDig_iff.mp (List.all_eq_true.mp h2 c (by simpa using hc))) (by simpa using h0) (by rw [strLen]; omega)
  simpa [numOf, NumText.digitsVal] using this
theorem log_small {i : Int} (h : i.natAbs < 1000000000000000000) : i.natAbs.log2 < 1920 := by
  by_cases z : i.natAbs = 0
  · rw [z]; decide
  · rw [Nat.log2_lt z]
    exact Nat.lt_of_lt_of_le h (Nat.le_of_lt (by decide +kernel))
theorem lenSeq_ok {t : Addr} {vs : Array Value} {l : List PV} (ht : s.heap.IsList t vs ∨ IsTup s.heap t vs) (hl : RelVs q L s.heap vs.toList l) (hz : l.length ≤ SZ) (h : Kp q L s (.int l.length) Q) :
    wpAny (model prog w) A (call (.builtin "len") [.ref t]) Q E s := by
  have hlen : vs.size = l.length := by simpa using hl.length
  unfold SZ at hz
  rcases ht with ht | ht
  · exact len_list ht (by omega) (h _ s.heap _ (.refl _) ⟨_, by rw [hlen]⟩)
  · exact PyProof.Rows.len_tuple ht (by omega) (h _ s.heap _ (.refl _) ⟨_, by rw [hlen]⟩)

def biVal : Bi → Value
  | .len => .builtin "len"
  | .int => .type "int"
  | .str => .type "str"
  | .range => .type "range"
  | .max => .builtin "max"
  | .tuple => .type "tuple"
  | .list => .type "list"
theorem bi_ok {b : Bi} {args : List PV} {vs : List Value} (hr : biop b args σ = some p) (lay : Lay W q L σ s.heap) (ra : RelVs q L s.heap vs args) (hh : b = .max → A.handled = none) (h : Kp q L s p Q) : wpAny (model prog w) A (call (biVal b) vs) Q E s := by
  have one : ∀ {a : PV}, RelVs q L s.heap vs [a] → ∃ v, vs = [v] ∧ RelV q L s.heap v a := fun {a} x => by
    have l1 := x.length
    match vs, l1, x with
    | [v], _, x => exact ⟨v, rfl, by simpa only [RelVs, and_true] using x⟩
  have two : ∀ {a b : PV}, RelVs q L s.heap vs [a, b] → ∃ v u, vs = [v, u] ∧ RelV q L s.heap v a ∧ RelV q L s.heap u b := fun {a b} x => by
    have l1 := x.length
    match vs, l1, x with
    | [v, u], _, x => exact ⟨v, u, rfl, by simpa only [RelVs, and_true] using x⟩
  unfold biop at hr
  split at hr
  · split at hr
    · rename_i hz
      cases hr
      obtain ⟨v, rfl, t, rfl⟩ := one ra
      unfold SZ at hz
      exact len_str (by rw [strLen]; omega) (h _ s.heap _ (.refl _) ⟨_, by rw [strLen]⟩)
    · cases hr
  · split at hr
    · rename_i hz
      cases hr
      obtain ⟨v, rfl, r⟩ := one ra
      simp only [RelV] at r
      obtain ⟨t, ws, rfl, _, ht, hl⟩ := r
      exact lenSeq_ok (.inr ht) hl hz h
    · cases hr
  · split at hr
    · rename_i hz
      cases hr
      obtain ⟨v, rfl, r⟩ := one ra
      simp only [RelV] at r
      obtain ⟨t, ws, rfl, _, ht, hl⟩ := r
      exact lenSeq_ok (.inl ht) hl hz h
    · cases hr
  · rename_i k
    cases hk : σ[k]? with
    | none => rw [hk] at hr; cases hr
    | some o =>
      rw [hk] at hr
      cases o with
      | inst => cases hr
      | tab => cases hr
      | lst l =>
        simp only at hr
        split at hr
        · rename_i hz
          cases hr
          obtain ⟨v, rfl, r⟩ := one ra
          simp only [RelV] at r
          obtain ⟨p', hp, rfl⟩ := r
          obtain ⟨_, ws, ht, hl⟩ := lay.objs k p' _ hp hk
          replace ht := ht.isList
          exact lenSeq_ok (.inl ht) hl hz h
        · cases hr
  · split at hr
    · rename_i hz
      cases hr
      obtain ⟨v, rfl, t, rfl⟩ := one ra
      exact KIN.call_text (numText hz.1 hz.2.1 hz.2.2) (by rw [strLen]; omega) (h _ s.heap _ (.refl _) ⟨_, rfl⟩)
    · cases hr
  · split at hr
    · rename_i hz
      cases hr
      obtain ⟨v, rfl, t, rfl⟩ := one ra
      exact P.str_of_int (log_small hz) (h _ s.heap _ (.refl _) ⟨_, by rw [← digs_str]⟩)
    · cases hr
  · split at hr
    · rename_i hz
      cases hr
      obtain ⟨v, rfl, t, rfl⟩ := one ra
      refine call_range_1 (h _ _ _ (KA.push _ _) ?_)
      simp only [RelV]
      exact ⟨_, _, _, _, rfl, own_fresh lay, Heap.get?_push_size _ rfl⟩
    · cases hr
  · cases hr
    obtain ⟨v, u, rfl, ⟨t, rfl⟩, ⟨t', rfl⟩⟩ := two ra
    refine max_two_ints (hh rfl) fun h' tk k => h _ h' tk k ?_
    split <;> exact ⟨_, rfl⟩
  · split at hr
    · rename_i hz
      cases hr
      obtain ⟨v, rfl, r⟩ := one ra
      simp only [RelV] at r
      obtain ⟨t, ws, rfl, _, ht, hl⟩ := r
      have hlen := hl.length
      rw [Array.length_toList] at hlen
      unfold SZ at hz
      refine call_tuple_list ht (fun h' k => h _ _ s.toks (KA.trans k (KA.push _ _)) ?_) (by rw [sizeLine_eq]; omega)
      simp only [RelV]
      exact ⟨_, _, rfl, own_fresh (lay.ka k), ⟨_, Heap.get?_push_size _ rfl, rfl, 0, rfl⟩, (KA.trans k (KA.push _ _)).rels hl⟩
    · cases hr
  · split at hr
    · rename_i hz
      cases hr
      obtain ⟨v, rfl, r⟩ := one ra
      simp only [RelV] at r
      obtain ⟨t, ws, rfl, _, ht, hl⟩ := r
      obtain ⟨o, ho, hc, n, hd⟩ := ht
      have hlen := hl.length
      rw [Array.length_toList] at hlen
      unfold SZ at hz
      refine call_list_seq t (.inl rfl) ho hc hd (fun h' c' k hD => h _ h' s.toks k ?_) (by rw [sizeLine_eq]; omega)
      simp only [RelV]
      exact ⟨_, _, rfl, own_fresh lay, ⟨_, hD, rfl, c', rfl⟩, KA.rels k hl⟩
    · cases hr
  · cases hr
end
end Mine
end
/-! M6: which term a little expression stands for; what it is to be sound; the plain steps -/
section
set_option autoImplicit false
set_option linter.unusedVariables false
set_option linter.unusedSimpArgs false
namespace Mine
open PySem PySem.W PyProof.Rows

def biName : Bi → Str
  | .len => "len"
  | .int => "int"
  | .str => "str"
  | .range => "range"
  | .max => "max"
  | .tuple => "tuple"
  | .list => "list"

def chkL (f : CE → Expr → Bool) : List CE → List Expr → Bool
  | [], [] => true
  | c :: cs, e :: es => f c e && chkL f cs es
  | _, _ => false
def chkO (f : CE → Expr → Bool) : Option CE → Option Expr → Bool
  | .none, .none => true
  | some c, some e => f c e
  | _, _ => false
def notCall : Expr → Bool
  | .Call (.Name _ _) [] [] _ => false
  | _ => true
def dbg : Str := "__debug__"
/-- a loop's target -/
def chkT (nm : Nat → Str) (kd : Str → Option NameKind) : List Nat → Bool → Expr → Bool
  | [x], false, .Name id _ => id == nm x && kd id == some .local
  | xs, true, .Tuple es _ _ => chkL (fun c e => match c, e with
      | .loc x, .Name id _ => id == nm x && kd id == some .local
      | _, _ => false) (xs.map .loc) es
  | _, _, _ => false
/-- the names' kinds within a comprehension -/
def kdIn (kd : Str → Option NameKind) (sc : Scope) (x : Str) : Option NameKind := match sc.names.lookup x with
  | some .free => if kd x == some .cell then some .cell else some .free
  | r => r
def freeOk (nm : Nat → Str) (kd : Str → Option NameKind) (fv : List Nat) (sc : Scope) : Bool :=
  sc.kind == .function && fv.all (fun x => sc.names.lookup (nm x) == some .free && kd (nm x) == some .cell) &&
  sc.names.all (fun y => match y.2 with
    | .local => sc.names.lookup y.1 == some .local
    | .free => fv.any (fun x => nm x == y.1) && sc.names.lookup y.1 == some .free
    | .globalImplicit => true
    | _ => false)

/-- the little expression stands for the term -/
def chk (nm : Nat → Str) : Nat → (Str → Option NameKind) → CE → Expr → Bool
  | 0, _, _, _ => false
  | m + 1, kd, ce, e => match ce with
    | .loc x => (match e with | .Name id _ => id == nm x && !(id == dbg) | _ => false)
    | .glo x => (match e with | .Name id _ => id == nm x && kd id == some .globalImplicit && !(id == dbg) | _ => false)
    | .cnone => (match e with | .Constant .none _ _ => true | _ => false)
    | .cbool b => (match e with | .Constant (.bool c) _ _ => b == c | _ => false)
    | .cint i => (match e with | .Constant (.int j) _ _ => i == j | _ => false)
    | .cstr l => (match e with | .Constant (.str x) _ _ => x == ⟨l.toArray⟩ | _ => false)
    | .neg a => (match e with | .UnaryOp .USub x _ => chk nm m kd a x | _ => false)
    | .not a => (match e with | .UnaryOp .Not x _ => chk nm m kd a x | _ => false)
    | .bin op a b => (match e with | .BinOp l o r _ => o == op && chk nm m kd a l && chk nm m kd b r | _ => false)
    | .cmp op a b => (match e with | .Compare l [o] [r] _ => o == op && chk nm m kd a l && chk nm m kd b r | _ => false)
    | .cmpNil op a => (match e with | .Compare l [o] [.List [] _] _ => o == op && chk nm m kd a l | _ => false)
    | .bop c l => (match e with | .BoolOp op es _ => (op == .And) == c && chkL (chk nm m kd) l es | _ => false)
    | .ite t b o => (match e with | .IfExp x y z _ => chk nm m kd t x && chk nm m kd b y && chk nm m kd o z | _ => false)
    | .tup l => (match e with | .Tuple es _ _ => chkL (chk nm m kd) l es | _ => false)
    | .lst l => (match e with | .List es _ => chkL (chk nm m kd) l es | _ => false)
    | .sub a i => (match e with | .Subscript v x _ => chk nm m kd a v && chk nm m kd i x | _ => false)
    | .slice a lo hi => (match e with | .Subscript v (.Slice l u none _) _ => chk nm m kd a v && chkO (chk nm m kd) lo l && chkO (chk nm m kd) hi u | _ => false)
    | .call f args => (match e with | .Call (.Name id _) es [] _ => id == nm f && kd id == some .globalImplicit && !(id == dbg) && chkL (chk nm m kd) args es | _ => false)
    | .bi b args => (match e with | .Call (.Name id _) es [] _ => id == biName b && kd id == some .globalImplicit && !(id == dbg) && chkL (chk nm m kd) args es | _ => false)
    | .meth o f args => (match e with | .Call (.Attribute v a ap) es [] pos => a == nm f && notCall v && ap.endLine == pos.line && decide (es.length < 20) && chk nm m kd o v && chkL (chk nm m kd) args es | _ => false)
    | .mdig o => (match e with | .Call (.Attribute v a ap) [] [] pos => a == ("isdigit" : Str) && notCall v && ap.endLine == pos.line && chk nm m kd o v | _ => false)
    | .mjoin o x => (match e with | .Call (.Attribute v a ap) [y] [] pos => a == ("join" : Str) && notCall v && ap.endLine == pos.line && chk nm m kd o v && chk nm m kd x y | _ => false)
    | .mapp o x => (match e with | .Call (.Attribute v a ap) [y] [] pos => a == ("append" : Str) && notCall v && ap.endLine == pos.line && chk nm m kd o v && chk nm m kd x y | _ => false)
    | .mpop o => (match e with | .Call (.Attribute v a ap) [] [] pos => a == ("pop" : Str) && notCall v && ap.endLine == pos.line && chk nm m kd o v | _ => false)
    | .attr o x => (match e with | .Attribute (.Name vi vp) a _ => a == nm x && decide (x < 3) && chk nm m kd o (.Name vi vp) | _ => false)
    | .fstr pre x => (match e with | .JoinedStr [.Constant (.str y) _ _, .FormattedValue v c none _] _ => y == ⟨pre.toArray⟩ && c == -1 && decide (pre.length ≤ 1000) && chk nm m kd x v | _ => false)
    | .fstrs x post => (match e with | .JoinedStr [.FormattedValue v c none _, .Constant (.str y) _ _] _ => y == ⟨post.toArray⟩ && c == -1 && decide (post.length ≤ 1000) && chk nm m kd x v | _ => false)
    | .comp elt xs tt fv it c => (match e with
      | .ListComp x [⟨tg, iter, ifs, 0⟩] sc _ => chk nm m kd it iter && freeOk nm kd fv sc && chkT nm (kdIn kd sc) xs tt tg && chk nm m (kdIn kd sc) elt x &&
          (match c, ifs with
            | .none, [] => true
            | some c, [t] => chk nm m (kdIn kd sc) c t
            | _, _ => false)
      | _ => false)
    | .heard i fv x => (match e with
      | .Call (.Name id _) [.Lambda ⟨[], [], none, [], [], none, []⟩ b sc lp] [] _ => lp.line == i && id == ("_law_heard" : Str) && kd id == some .globalImplicit && !(id == dbg) && sc.isGenerator == false && sc.isCoroutine == false &&
          freeOk nm kd fv sc && chk nm m (fun y => sc.names.lookup y) x b
      | _ => false)

/-- what stands around: the stack's frames, room for k more -/
structure Ar (A : Around) (env : Env) (fs : List Env) (k : Nat) : Prop where
  frames : A.frames = some fs
  top : ∃ e0 rest, fs = e0 :: rest ∧ e0.frame = env.frame
  frame : ∃ F, env.frame = some F
  depth : A.depth + k < recursionLimit
  units : A.units + 16 * k + 64 < cLine

structure At (W : Wd) (Φ : Sig) (k : Nat) (A : Around) (en : Env) (fs : List Env) (ρ : Loc) (L : Lo) (σ : Store) (s : Shared) : Prop where
  ar : Ar A en fs k
  hq : Φ.q = false → A.handled = none
  env : EnvRel W Φ.q en ρ L s.heap
  st : St W Φ.q fs L σ s.heap
  code_ : Φ.top = true → en.code = .ref W.lc

section
variable {α β γ : Type} {W : Wd} {q : Bool} {fs : List Env}
def Post (W : Wd) (q : Bool) (fs : List Env) (Rel : Lo → Heap → β → α → Prop) (L : Lo) (s : Shared) (r : R α) (Q : β → Shared → Prop) (E : Value → Shared → Prop) : Prop := match r with
  | .ok a σ' => ∀ v L' h' tk, St W q fs L' σ' h' → Aft [] L s.heap L' h' → Rel L' h' v a → Q v { s with heap := h', toks := tk }
  | .exc x σ' => ∀ e L' h' tk, St W q fs L' σ' h' → Aft [] L s.heap L' h' → ExcAt W s.heap L' h' e x false → E (.ref e) { s with heap := h', toks := tk }
/-- the tree does what the evaluator says -/
def Snd (W : Wd) (q : Bool) (fs : List Env) (A : Around) (t : Sem β) (m : Option (R α)) (Rel : Lo → Heap → β → α → Prop) (L : Lo) (s : Shared) : Prop :=
  ∀ r Q E, m = some r → Post W q fs Rel L s r Q E → wpAny (model W.prog W.w) A t Q E s

theorem ExcAt.back {h0 h1 : Heap} {L : Lo} {h : Heap} {e : Addr} {x : PX} {m : Bool} (X : ExcAt W h1 L h e x m) (k : ∀ a, h1.get? a = none → h0.get? a = none) : ExcAt W h0 L h e x m := by
  obtain ⟨x1, x2, x3, vs, d, ho, hsz, htb, hd1, hd2, hd3, hsp⟩ := X
  refine ⟨k e x1, x2, x3, vs, d, ho, hsz, ?_, k d hd1, hd2, hd3, hsp⟩
  rcases htb with q | ⟨T, ts, oT, q, t1, t2, t3⟩
  · exact .inl q
  · exact .inr ⟨T, ts, oT, q, t1, k T t2, t3⟩
theorem Aft.none_back {σ : Store} {L L' : Lo} {h h' : Heap} (x : Aft [] L h L' h') (l : Lay W q L' σ h') {a : Addr} (e : h'.get? a = none) : h.get? a = none := by
  cases z : h.get? a with
  | none => rfl
  | some o =>
    exfalso
    by_cases ho : a ∈ own L
    · obtain ⟨⟨T, rfl, _⟩, _⟩ := x
      obtain ⟨o', e'⟩ := l.live (by rw [own_append]; exact List.mem_append_left _ ho)
      rw [e] at e'; cases e'
    · obtain ⟨sl, e', _⟩ := x.keeps a ho (fun z => by cases z) o z
      rw [e] at e'; cases e'
theorem Aft.trans0 {σ₁ : Store} {L L₁ L₂ : Lo} {h h₁ h₂ : Heap} (x : Aft [] L h L₁ h₁) (y : Aft [] L₁ h₁ L₂ h₂) (l : Lay W q L₁ σ₁ h₁) : Aft [] L h L₂ h₂ := x.trans y l fun _ z => by cases z
theorem Post.next {Rel : Lo → Heap → β → α → Prop} {L L₁ : Lo} {σ₁ : Store} {s : Shared} {h₁ : Heap} {tk : Nat} {r : R α} {Q : β → Shared → Prop} {E : Value → Shared → Prop} (P : Post W q fs Rel L s r Q E) (st : St W q fs L₁ σ₁ h₁) (a : Aft [] L s.heap L₁ h₁) :
    Post W q fs Rel L₁ { s with heap := h₁, toks := tk } r Q E := by
  cases r with
  | ok v σ' => exact fun v L' h' tk' st' a' r' => P v L' h' tk' st' (a.trans0 a' st.lay) r'
  | exc x σ' => exact fun e L' h' tk' st' a' X => P e L' h' tk' st' (a.trans0 a' st.lay) (X.back fun _ z => a.none_back st.lay z)
theorem At.next {Φ : Sig} {k : Nat} {A : Around} {env : Env} {ρ : Loc} {L L₁ : Lo} {σ σ₁ : Store} {s : Shared} {h₁ : Heap} {tk : Nat} (x : At W Φ k A env fs ρ L σ s) (st : St W Φ.q fs L₁ σ₁ h₁) (a : Aft [] L s.heap L₁ h₁) : At W Φ k A env fs ρ L₁ σ₁ { s with heap := h₁, toks := tk } :=
  ⟨x.ar, x.hq, x.env.aft a, st, x.code_⟩

theorem bnd_ok {δ : Type} {Rel₁ : Lo → Heap → β → α → Prop} {Rel : Lo → Heap → δ → γ → Prop} {A : Around} {t : Sem β} {m : Option (R α)} {f : α → Store → Option (R γ)} {r : R γ} {L : Lo} {s : Shared} {K : β → Shared → Prop} {Q : δ → Shared → Prop} {E : Value → Shared → Prop}
    (hb : bnd m f = some r) (H : Snd W q fs A t m Rel₁ L s) (P : Post W q fs Rel L s r Q E)
    (hk : ∀ a σ₁ v L₁ h₁ tk, f a σ₁ = some r → St W q fs L₁ σ₁ h₁ → Aft [] L s.heap L₁ h₁ → Rel₁ L₁ h₁ v a → Post W q fs Rel L₁ { s with heap := h₁, toks := tk } r Q E → K v { s with heap := h₁, toks := tk }) : wpAny (model W.prog W.w) A t K E s := by
  unfold bnd at hb
  split at hb
  · cases hb
  · rename_i a σ₁
    exact H _ K E rfl fun v L₁ h₁ tk st af rel => hk a σ₁ v L₁ h₁ tk hb st af rel (P.next st af)
  · rename_i x σ₁
    cases hb
    exact H _ K E rfl P
theorem rok_some {o : Option α} {σ : Store} {r : R α} (h : rok o σ = some r) : ∃ a, o = some a ∧ r = .ok a σ := by
  unfold rok at h
  split at h
  · cases h
  · cases h; exact ⟨_, rfl, rfl⟩
/-- a step that keeps all ends as the evaluator ends -/
theorem Post.kp {L : Lo} {σ : Store} {s : Shared} {p : PV} {Q : Value → Shared → Prop} {E : Value → Shared → Prop} (st : St W q fs L σ s.heap) (P : Post W q fs (RelV q) L s (.ok p σ) Q E) : Kp q L s p Q :=
  fun v h' tk k r => P v L h' tk (st.ka k) (k.aft [] L) r
theorem Post.at {L : Lo} {σ : Store} {s : Shared} {p : PV} {v : Value} {tk : Nat} {Q : Value → Shared → Prop} {E : Value → Shared → Prop} (st : St W q fs L σ s.heap) (P : Post W q fs (RelV q) L s (.ok p σ) Q E) (r : RelV q L s.heap v p) : Q v { s with heap := s.heap, toks := tk } :=
  P v L s.heap tk st (.refl [] L s.heap) r
end

theorem kind_none {k : Option NameKind} (h : (k == some NameKind.globalImplicit) = true) : k = some .globalImplicit := by simpa using h
end Mine
end
/-! M7: the plain expressions are sound -/
section
set_option autoImplicit false
set_option linter.unusedVariables false
set_option linter.unusedSimpArgs false
namespace Mine
open PySem PySem.W PyProof.Rows

structure WOk (W : Wd) : Prop where
  inj : ∀ x y, W.nm x = W.nm y → x = y
  nodict : ∀ x, (W.nm x == ("__classdict__" : Str)) = false
  g : W.b0.Ns mainGlobals W.mg
  b : W.b0.Ns builtinsNs W.mb
  nolimit : W.b0.NoLimit
  bi : ∀ b : Bi, W.mg (biName b) = none ∧ W.mb (biName b) = some (biVal b)
  spot : W.nm spotName = spotStr

/-- the global tables that the evaluator is told of -/
def GloOk (W : Wd) (Φ : Sig) : Prop := ∀ x p, Φ.glo x = some p → ∃ v, W.mg (W.nm x) = some v ∧ RelV false Lo.nil W.b0 v p

structure SE (W : Wd) (Φ : Sig) (k n : Nat) : Prop where
  e : ∀ {m A env fs ρ L σ s ce x}, chk W.nm m env.kindOf ce x = true → At W Φ k A env fs ρ L σ s → Snd W Φ.q fs A (eval x env) (ev Φ n ce ρ σ) (RelV Φ.q) L s
  t : ∀ {m A env fs ρ L σ s ce x}, chk W.nm m env.kindOf ce x = true → At W Φ k A env fs ρ L σ s → Snd W Φ.q fs A (isTrue x env (eval x env)) (evT Φ n ce ρ σ) (fun _ _ (b : Bool) (b' : Bool) => b = b') L s
  ts : ∀ {m A env fs ρ L σ s c l xs}, chkL (chk W.nm m env.kindOf) l xs = true → At W Φ k A env fs ρ L σ s → Snd W Φ.q fs A (allTrue (if c = true then .And else .Or) xs env) (evTs Φ n c l ρ σ) (fun _ _ (b : Bool) (b' : Bool) => b = b') L s
  b : ∀ {m A env fs ρ L σ s c l xs pos}, chkL (chk W.nm m env.kindOf) l xs = true → At W Φ k A env fs ρ L σ s → Snd W Φ.q fs A (boolOp pos (if c = true then .And else .Or) (evalEach xs env)) (evB Φ n c l ρ σ) (RelV Φ.q) L s
  es : ∀ {m A env fs ρ L σ s l xs pos}, chkL (chk W.nm m env.kindOf) l xs = true → At W Φ k A env fs ρ L σ s → Snd W Φ.q fs A (spliced (backTo pos (starEach xs env))) (evs Φ n l ρ σ) (RelVs Φ.q) L s
  o : ∀ {m A env fs ρ L σ s c x}, chkO (chk W.nm m env.kindOf) c x = true → At W Φ k A env fs ρ L σ s → Snd W Φ.q fs A (evalPart x env) (evO Φ n c ρ σ) (RelO Φ.q) L s

theorem relV_base {W : Wd} {q : Bool} {L : Lo} {h : Heap} (hb : W.b0.StaysIn h) (hL : ∀ a ∈ own L, W.b0.get? a = none) : ∀ {v : Value} {p : PV}, RelV false Lo.nil W.b0 v p → RelV q L h v p := by
  intro v p r
  have := RelV.move (q := false) (L := Lo.nil) (L' := L) (h := W.b0) (h' := h) (fun a ha => .inr (hL a ha)) (fun i p e => by simp [Lo.nil] at e) (fun b o ho _ _ => .of_some (hb b)) (fun z => by cases z) r
  cases q
  · exact this
  · exact this.quiet

section
variable {W : Wd} {Φ : Sig} {k n m : Nat} {A : Around} {env : Env} {fs : List Env} {ρ : Loc} {L : Lo} {σ : Store} {s : Shared} {x : Expr}

theorem chk_notStar {kd : Str → Option NameKind} {ce : CE} (h : chk W.nm m kd ce x = true) : starEach [x] env = [(false, eval x env)] := by
  cases m with
  | zero => cases h
  | succ m => cases x <;> first | rfl | (cases ce <;> cases h)
theorem chk_notSlice {kd : Str → Option NameKind} {ce : CE} (h : chk W.nm m kd ce x = true) (l u st : Option Expr) (p : Pos) : x ≠ .Slice l u st p := by
  rintro rfl
  cases m with
  | zero => cases h
  | succ m => cases ce <;> cases h
theorem chk_marks {kd : Str → Option NameKind} {ce : CE} {op : CmpOp} (h : chk W.nm m kd ce x = true) : behindInMarks op x = false := by
  cases m with
  | zero => cases h
  | succ m => cases x <;> first | rfl | (cases ce <;> cases h)

theorem name_ok (wok : WOk W) {i : Nat} {pv : PV} (a : At W Φ k A env fs ρ L σ s) (hl : lk ρ i = some pv) {Q : Value → Shared → Prop} {E : Value → Shared → Prop}
    (h : ∀ v, RelV Φ.q L s.heap v pv → Q v s) : wpAny (model W.prog W.w) A (loadName env (W.nm i)) Q E s := by
  obtain ⟨v, hn, r⟩ := a.env.names i pv hl
  rcases hn with ⟨hk, m', hm, hv⟩ | ⟨hk, c, hc, hv⟩
  · exact wpAny_loadName_local a.env.kind hk hm hv (h v r)
  · rcases hk with hk | hk
    · exact wpAny_loadName_cell a.env.kind hk hc hv (h v r)
    · exact wpAny_loadName_free a.env.kind hk hc hv (h v r) (wok.nodict i)
theorem glob_ok (wok : WOk W) {y : Str} {v : Value} (a : At W Φ k A env fs ρ L σ s) (hk : env.kindOf y = some .globalImplicit) (hv : W.mg y = some v) {Q : Value → Shared → Prop} {E : Value → Shared → Prop}
    (h : Q v s) : wpAny (model W.prog W.w) A (loadName env y) Q E s :=
  ks_loadName_global a.env.kind hk (Calls.loadGlobal_global (by rw [a.env.globals]; exact wok.g.keeps a.st.base) hv h)
theorem built_ok (wok : WOk W) {b : Bi} (a : At W Φ k A env fs ρ L σ s) (hk : env.kindOf (biName b) = some .globalImplicit) {Q : Value → Shared → Prop} {E : Value → Shared → Prop}
    (h : Q (biVal b) s) : wpAny (model W.prog W.w) A (loadName env (biName b)) Q E s :=
  ks_loadName_global a.env.kind hk (Calls.loadGlobal_builtin (by rw [a.env.globals]; exact wok.g.keeps a.st.base) (wok.bi b).1 (by rw [a.env.builtins]; exact wok.b.keeps a.st.base) (wok.bi b).2 h)

theorem se_loc (wok : WOk W) {i : Nat} (h : chk W.nm (m + 1) env.kindOf (.loc i) x = true) (a : At W Φ k A env fs ρ L σ s) : Snd W Φ.q fs A (eval x env) (ev Φ (n + 1) (.loc i) ρ σ) (RelV Φ.q) L s := by
  intro r Q E hr P
  cases x <;> try (cases h; done)
  rename_i id pos
  simp only [chk, Bool.and_eq_true, Bool.not_eq_true', beq_iff_eq] at h
  obtain ⟨rfl, hd⟩ := h
  unfold ev at hr
  obtain ⟨p, hp, rfl⟩ := rok_some hr
  exact wpAny_Name (name_ok wok a hp fun v r => P.at a.st r) hd
theorem se_glo (wok : WOk W) (gok : GloOk W Φ) {i : Nat} (h : chk W.nm (m + 1) env.kindOf (.glo i) x = true) (a : At W Φ k A env fs ρ L σ s) : Snd W Φ.q fs A (eval x env) (ev Φ (n + 1) (.glo i) ρ σ) (RelV Φ.q) L s := by
  intro r Q E hr P
  cases x <;> try (cases h; done)
  rename_i id pos
  simp only [chk, Bool.and_eq_true, Bool.not_eq_true', beq_iff_eq] at h
  obtain ⟨⟨rfl, hk⟩, hd⟩ := h
  unfold ev at hr
  obtain ⟨p, hp, rfl⟩ := rok_some hr
  obtain ⟨v, hv, r⟩ := gok i p hp
  exact wpAny_Name (glob_ok wok a hk hv (P.at a.st (relV_base a.st.base a.st.offb r))) hd
theorem se_cnone (h : chk W.nm (m + 1) env.kindOf .cnone x = true) (a : At W Φ k A env fs ρ L σ s) : Snd W Φ.q fs A (eval x env) (ev Φ (n + 1) .cnone ρ σ) (RelV Φ.q) L s := by
  intro r Q E hr P
  cases x <;> try (cases h; done)
  rename_i c _ _
  cases c <;> try (cases h; done)
  cases hr
  exact wpAny_Constant_none (P.at a.st rfl)
theorem se_cbool {b : Bool} (h : chk W.nm (m + 1) env.kindOf (.cbool b) x = true) (a : At W Φ k A env fs ρ L σ s) : Snd W Φ.q fs A (eval x env) (ev Φ (n + 1) (.cbool b) ρ σ) (RelV Φ.q) L s := by
  intro r Q E hr P
  cases x <;> try (cases h; done)
  rename_i c _ _
  cases c <;> try (cases h; done)
  simp only [chk, beq_iff_eq] at h
  subst h
  cases hr
  exact wpAny_Constant_bool (P.at a.st rfl)
theorem se_cint {i : Int} (h : chk W.nm (m + 1) env.kindOf (.cint i) x = true) (a : At W Φ k A env fs ρ L σ s) : Snd W Φ.q fs A (eval x env) (ev Φ (n + 1) (.cint i) ρ σ) (RelV Φ.q) L s := by
  intro r Q E hr P
  cases x <;> try (cases h; done)
  rename_i c _ _
  cases c <;> try (cases h; done)
  simp only [chk, beq_iff_eq] at h
  subst h
  cases hr
  exact wpAny_Constant_int (P.at a.st ⟨_, rfl⟩)
theorem se_cstr {l : List Nat} (h : chk W.nm (m + 1) env.kindOf (.cstr l) x = true) (a : At W Φ k A env fs ρ L σ s) : Snd W Φ.q fs A (eval x env) (ev Φ (n + 1) (.cstr l) ρ σ) (RelV Φ.q) L s := by
  intro r Q E hr P
  cases x <;> try (cases h; done)
  rename_i c _ _
  cases c <;> try (cases h; done)
  simp only [chk, beq_iff_eq] at h
  subst h
  cases hr
  exact wpAny_Constant_str (P.at a.st ⟨_, rfl⟩)
theorem se_neg (ih : SE W Φ k n) {c : CE} (h : chk W.nm (m + 1) env.kindOf (.neg c) x = true) (a : At W Φ k A env fs ρ L σ s) : Snd W Φ.q fs A (eval x env) (ev Φ (n + 1) (.neg c) ρ σ) (RelV Φ.q) L s := by
  intro r Q E hr P
  cases x <;> try (cases h; done)
  rename_i op y pos
  cases op <;> try (cases h; done)
  unfold ev at hr
  refine wpAny_UnaryOp (bnd_ok hr (ih.e h a) P fun p σ₁ v L₁ h₁ tk hf st af rel P₁ => ?_)
  obtain ⟨p', hp, rfl⟩ := rok_some hf
  exact neg_ok hp rel (P₁.kp st)
theorem se_not (ih : SE W Φ k n) {c : CE} (h : chk W.nm (m + 1) env.kindOf (.not c) x = true) (a : At W Φ k A env fs ρ L σ s) : Snd W Φ.q fs A (eval x env) (ev Φ (n + 1) (.not c) ρ σ) (RelV Φ.q) L s := by
  intro r Q E hr P
  cases x <;> try (cases h; done)
  rename_i op y pos
  cases op <;> try (cases h; done)
  unfold ev at hr
  refine wpAny_UnaryOp (bnd_ok hr (ih.e h a) P fun p σ₁ v L₁ h₁ tk hf st af rel P₁ => ?_)
  obtain ⟨p', hp, rfl⟩ := rok_some hf
  obtain ⟨b, hb, rfl⟩ := Option.map_eq_some_iff.mp hp
  cases p <;> try (cases hb; done)
  cases hb
  have : v = .bool _ := rel
  subst this
  exact not_value (wpAny_truthy_bool (P₁.at st rfl))
theorem se_bin (ih : SE W Φ k n) {op : Operator} {c d : CE} (h : chk W.nm (m + 1) env.kindOf (.bin op c d) x = true) (a : At W Φ k A env fs ρ L σ s) : Snd W Φ.q fs A (eval x env) (ev Φ (n + 1) (.bin op c d) ρ σ) (RelV Φ.q) L s := by
  intro r Q E hr P
  cases x <;> try (cases h; done)
  rename_i l o rr pos
  simp only [chk, Bool.and_eq_true, beq_iff_eq] at h
  obtain ⟨⟨rfl, h1⟩, h2⟩ := h
  unfold ev at hr
  refine wpAny_BinOp (bnd_ok hr (ih.e h1 a) P fun p σ₁ v L₁ h₁ tk hf st af rel P₁ => ?_)
  refine bnd_ok hf (ih.e h2 (a.next st af)) P₁ fun p' σ₂ u L₂ h₂ tk₂ hf₂ st₂ af₂ rel₂ P₂ => ?_
  obtain ⟨pr, hp, rfl⟩ := rok_some hf₂
  exact binop_ok hp st₂.lay (af₂.rel (.nil _) (fun _ => rfl) rel) rel₂ (P₂.kp st₂)
theorem units_ok (a : Ar A env fs k) : A.units + 40 < cLine := by have := a.units; omega
theorem se_cmp (ih : SE W Φ k n) {op : CmpOp} {c d : CE} (h : chk W.nm (m + 1) env.kindOf (.cmp op c d) x = true) (a : At W Φ k A env fs ρ L σ s) : Snd W Φ.q fs A (eval x env) (ev Φ (n + 1) (.cmp op c d) ρ σ) (RelV Φ.q) L s := by
  intro r Q E hr P
  cases x <;> try (cases h; done)
  rename_i l ops rs pos
  match ops, rs, h with
  | [o], [rr], h =>
    simp only [chk, Bool.and_eq_true, beq_iff_eq] at h
    obtain ⟨⟨rfl, h1⟩, h2⟩ := h
    unfold ev at hr
    refine wpAny_Compare1 (bnd_ok hr (ih.e h1 a) P fun p σ₁ v L₁ h₁ tk hf st af rel P₁ => ?_) (chk_marks h2)
    refine bnd_ok hf (ih.e h2 (a.next st af)) P₁ fun p' σ₂ u L₂ h₂ tk₂ hf₂ st₂ af₂ rel₂ P₂ => ?_
    obtain ⟨pr, hp, rfl⟩ := rok_some hf₂
    obtain ⟨b, hb, rfl⟩ := Option.map_eq_some_iff.mp hp
    exact cmpop_ok hb (af₂.rel (.nil _) (fun _ => rfl) rel) rel₂ (units_ok a.ar) (P₂.at st₂ rfl)
  | [], _, h => cases h
  | _ :: _ :: _, _, h => cases h
  | [_], [], h => cases h
  | [_], _ :: _ :: _, h => cases h
theorem se_cmpNil (ih : SE W Φ k n) {op : CmpOp} {c : CE} (h : chk W.nm (m + 1) env.kindOf (.cmpNil op c) x = true) (a : At W Φ k A env fs ρ L σ s) : Snd W Φ.q fs A (eval x env) (ev Φ (n + 1) (.cmpNil op c) ρ σ) (RelV Φ.q) L s := by
  intro r Q E hr P
  cases x <;> try (cases h; done)
  rename_i l ops rs pos
  match ops, rs, h with
  | [o], [.List [] lp], h =>
    simp only [chk, Bool.and_eq_true, beq_iff_eq] at h
    obtain ⟨rfl, h1⟩ := h
    unfold ev at hr
    refine wpAny_Compare1 (bnd_ok hr (ih.e h1 a) P fun p σ₁ v L₁ h₁ tk hf st af rel P₁ => ?_) rfl
    obtain ⟨pr, hp, rfl⟩ := rok_some hf
    refine wpAny_List (wpAny_items_nil ⟨by simp, ?_⟩)
    cases o <;> try (cases hp; done)
    obtain ⟨b, hb, rfl⟩ := Option.map_eq_some_iff.mp hp
    have k1 : KA h₁ (h₁.push { cls := .type "list", data := .seq [].toArray }) := KA.push _ _
    refine isNil_ok (b := h₁.objs.size) hb (st.lay.ka k1) (k1.rel rel) ⟨_, Heap.get?_push_size _ rfl, rfl, 0, rfl⟩ (units_ok a.ar) ?_
    exact P₁ _ L₁ _ _ (st.ka k1) (k1.aft [] L₁) rfl
theorem se_ite (ih : SE W Φ k n) {t b o : CE} (h : chk W.nm (m + 1) env.kindOf (.ite t b o) x = true) (a : At W Φ k A env fs ρ L σ s) : Snd W Φ.q fs A (eval x env) (ev Φ (n + 1) (.ite t b o) ρ σ) (RelV Φ.q) L s := by
  intro r Q E hr P
  cases x <;> try (cases h; done)
  simp only [chk, Bool.and_eq_true] at h
  obtain ⟨⟨h1, h2⟩, h3⟩ := h
  unfold ev at hr
  refine wpAny_IfExp (bnd_ok hr (ih.t h1 a) P fun p σ₁ v L₁ h₁ tk hf st af rel P₁ => ?_)
  have : v = p := rel
  subst this
  cases v
  · exact ih.e h3 (a.next st af) r Q E hf P₁
  · exact ih.e h2 (a.next st af) r Q E hf P₁
theorem se_tup (ih : SE W Φ k n) {l : List CE} (h : chk W.nm (m + 1) env.kindOf (.tup l) x = true) (a : At W Φ k A env fs ρ L σ s) : Snd W Φ.q fs A (eval x env) (ev Φ (n + 1) (.tup l) ρ σ) (RelV Φ.q) L s := by
  intro r Q E hr P
  cases x <;> try (cases h; done)
  unfold ev at hr
  refine wpAny_Tuple (bnd_ok hr (ih.es h a) P fun ps σ₁ vs L₁ h₁ tk hf st af rel P₁ => ?_)
  split at hf
  · rename_i hz
    cases hf
    unfold SZ at hz
    refine ⟨by rw [rel.length, sizeLine_eq]; omega, ?_⟩
    have k1 : KA h₁ (h₁.push { cls := .type "tuple", data := .seq vs.toArray }) := KA.push _ _
    refine P₁ _ L₁ _ _ (st.ka k1) (k1.aft [] L₁) ?_
    simp only [RelV]
    exact ⟨_, _, rfl, own_fresh st.lay, ⟨_, Heap.get?_push_size _ rfl, rfl, 0, rfl⟩, k1.rels rel⟩
  · cases hf
theorem se_sub (ih : SE W Φ k n) {c d : CE} (h : chk W.nm (m + 1) env.kindOf (.sub c d) x = true) (a : At W Φ k A env fs ρ L σ s) : Snd W Φ.q fs A (eval x env) (ev Φ (n + 1) (.sub c d) ρ σ) (RelV Φ.q) L s := by
  intro r Q E hr P
  cases x <;> try (cases h; done)
  simp only [chk, Bool.and_eq_true] at h
  obtain ⟨h1, h2⟩ := h
  unfold ev at hr
  refine Subscript_ (bnd_ok hr (ih.e h1 a) P fun p σ₁ v L₁ h₁ tk hf st af rel P₁ => ?_)
  refine bnd_ok hf (ih.e h2 (a.next st af)) P₁ fun p' σ₂ u L₂ h₂ tk₂ hf₂ st₂ af₂ rel₂ P₂ => ?_
  obtain ⟨pr, hp, rfl⟩ := rok_some hf₂
  exact sub_ok (chk_notSlice h2) hp st₂.lay (af₂.rel (.nil _) (fun _ => rfl) rel) rel₂ (P₂.kp st₂)
theorem se_slice (ih : SE W Φ k n) {c : CE} {lo hi : Option CE} (h : chk W.nm (m + 1) env.kindOf (.slice c lo hi) x = true) (a : At W Φ k A env fs ρ L σ s) : Snd W Φ.q fs A (eval x env) (ev Φ (n + 1) (.slice c lo hi) ρ σ) (RelV Φ.q) L s := by
  intro r Q E hr P
  cases x <;> try (cases h; done)
  rename_i v sl pos
  cases sl <;> try (cases h; done)
  rename_i l u st0 p0
  cases st0 <;> try (cases h; done)
  simp only [chk, Bool.and_eq_true] at h
  obtain ⟨⟨h1, h2⟩, h3⟩ := h
  unfold ev at hr
  refine Subscript_ (bnd_ok hr (ih.e h1 a) P fun p σ₁ v L₁ h₁ tk hf st af rel P₁ => wpAny_Slice ?_)
  refine bnd_ok hf (ih.o h2 (a.next st af)) P₁ fun ol σ₂ vl L₂ h₂ tk₂ hf₂ st₂ af₂ rel₂ P₂ => ?_
  refine bnd_ok hf₂ (ih.o h3 ((a.next st af).next st₂ af₂)) P₂ fun ou σ₃ vu L₃ h₃ tk₃ hf₃ st₃ af₃ rel₃ P₃ => ?_
  obtain ⟨pr, hp, rfl⟩ := rok_some hf₃
  show wpAny _ _ (pure Value.none) _ _ _
  refine wpAny_pure ?_
  have k1 : KA h₃ (h₃.push { cls := .type "slice", data := .fields #[vl, vu, .none] }) := KA.push _ _
  have relO : ∀ {L L' : Lo} {h h' : Heap} {v : Value} {o : Option PV}, Aft [] L h L' h' → RelO Φ.q L h v o → RelO Φ.q L' h' v o := fun {L L' h h' v o} af r => by
    cases o with
    | none => exact r
    | some p => exact af.rel (.nil _) (fun _ => rfl) r
  refine slice_ok hp (st₃.lay.ka k1) (k1.rel (af₃.rel (.nil _) (fun _ => rfl) (af₂.rel (.nil _) (fun _ => rfl) rel))) (relO (k1.aft [] L₃) (relO af₃ rel₂)) (relO (k1.aft [] L₃) rel₃) ⟨_, Heap.get?_push_size _ rfl, rfl, rfl⟩ ?_
  exact (P₃.next (tk := tk₃) (st₃.ka k1) (k1.aft [] L₃)).kp (st₃.ka k1)

theorem st_ext {q : Bool} {h h' : Heap} {p : LO} {o : PO} (x : St W q fs L σ h) (k : KA h h') (h1 : h.get? p.a = none) (h2 : h.get? p.d = none) (lo : LayO W q (L ++ [p]) h' p o) : St W q fs (L ++ [p]) (σ ++ [o]) h' ∧ Aft [] L h (L ++ [p]) h' := by
  have hT : ∀ a ∈ ownT [p], h.get? a = none := fun a ha => by
    obtain ⟨i, r, e, z⟩ := own_mem ha
    have : r = p := by
      cases i with
      | zero => simpa using e.symm
      | succ i => simp at e
    subst this
    rcases z with rfl | rfl <;> assumption
  have af : Aft [] L h (L ++ [p]) h' := ⟨⟨[p], rfl, hT⟩, fun b _ _ => k.slt b⟩
  have rl : ∀ {v : Value} {p' : PV}, RelV q L h v p' → RelV q (L ++ [p]) h' v p' := fun r => af.rel (.nil _) (fun _ => rfl) r
  have rls : ∀ {vs : List Value} {ps : List PV}, RelVs q L h vs ps → RelVs q (L ++ [p]) h' vs ps := fun r => af.rels (.nil _) (fun _ => rfl) r
  refine ⟨⟨fun b o e => k b o (x.base b o e), fun a ha => ?_, ⟨by rw [Lo.l_append]; simp [x.lay.len], ?_, ?_, ?_⟩, x.fr.aft af⟩, af⟩
  · rw [own_append, List.mem_append] at ha
    rcases ha with ha | ha
    · exact x.offb a ha
    · cases e : W.b0.get? a with
      | none => rfl
      | some o' => have := x.base a o' e; rw [hT a ha] at this; cases this
  · have key : ∀ (i : Nat) (r : LO), L.l[i]? = some r → p.a ≠ r.a ∧ p.a ≠ r.d ∧ p.d ≠ r.a ∧ p.d ≠ r.d := fun i r e => by
      obtain ⟨o1, e1⟩ := x.lay.live (mem_own e).1
      obtain ⟨o2, e2⟩ := x.lay.live (mem_own e).2
      refine ⟨fun z => ?_, fun z => ?_, fun z => ?_, fun z => ?_⟩
      · rw [← z, h1] at e1; cases e1
      · rw [← z, h1] at e2; cases e2
      · rw [← z, h2] at e1; cases e1
      · rw [← z, h2] at e2; cases e2
    intro i j p' r e1 e2 hne
    rw [Lo.l_append, List.getElem?_append] at e1 e2
    by_cases hi : i < L.l.length
    · rw [if_pos hi] at e1
      by_cases hj : j < L.l.length
      · rw [if_pos hj] at e2
        exact x.lay.apart i j p' r e1 e2 hne
      · rw [if_neg hj] at e2
        have : r = p := by
          cases q : j - L.l.length with
          | zero => rw [q] at e2; simpa using e2.symm
          | succ => rw [q] at e2; simp at e2
        subst this
        obtain ⟨a, b, c, d⟩ := key i p' e1
        exact ⟨a.symm, c.symm, b.symm, d.symm⟩
    · rw [if_neg hi] at e1
      have : p' = p := by
        cases q : i - L.l.length with
        | zero => rw [q] at e1; simpa using e1.symm
        | succ => rw [q] at e1; simp at e1
      subst this
      by_cases hj : j < L.l.length
      · rw [if_pos hj] at e2
        exact key j r e2
      · exfalso
        rw [if_neg hj] at e2
        have q1 : i - L.l.length = 0 := by
          cases q : i - L.l.length with
          | zero => rfl
          | succ => rw [q] at e1; simp at e1
        have q2 : j - L.l.length = 0 := by
          cases q : j - L.l.length with
          | zero => rfl
          | succ => rw [q] at e2; simp at e2
        omega
  · intro i p' o' e1 e2
    rw [Lo.l_append, List.getElem?_append] at e1
    rw [List.getElem?_append] at e2
    by_cases hi : i < L.l.length
    · rw [if_pos hi] at e1
      rw [if_pos (by rw [← x.lay.len]; exact hi)] at e2
      exact (x.lay.objs i p' o' e1 e2).keep rl rls (k _) (k _)
    · rw [if_neg hi] at e1
      rw [if_neg (by rw [← x.lay.len]; exact hi)] at e2
      have q1 : i - L.l.length = 0 := by
        cases q : i - L.l.length with
        | zero => rfl
        | succ => rw [q] at e1; simp at e1
      rw [q1] at e1
      rw [← x.lay.len, q1] at e2
      simp only [List.getElem?_cons_zero, Option.some.injEq] at e1 e2
      subst e1 e2
      exact lo
  · intro a ha
    obtain ⟨⟨o', e'⟩, hh⟩ := x.lay.hidden a ha
    refine ⟨⟨o', k a o' e'⟩, fun i r e => ?_⟩
    rw [Lo.l_append, List.getElem?_append] at e
    split at e
    · exact hh i r e
    · have : r = p := by
        rename_i hi
        cases q : i - L.l.length with
        | zero => rw [q] at e; simpa using e.symm
        | succ => rw [q] at e; simp at e
      subst this
      exact ⟨fun z => (by rw [z, e'] at h1; cases h1), fun z => (by rw [z, e'] at h2; cases h2)⟩
theorem se_lst (ih : SE W Φ k n) {l : List CE} (h : chk W.nm (m + 1) env.kindOf (.lst l) x = true) (a : At W Φ k A env fs ρ L σ s) : Snd W Φ.q fs A (eval x env) (ev Φ (n + 1) (.lst l) ρ σ) (RelV Φ.q) L s := by
  intro r Q E hr P
  cases x <;> try (cases h; done)
  unfold ev at hr
  split at hr
  · cases hr
  refine wpAny_List (bnd_ok hr (ih.es h a) P fun ps σ₁ vs L₁ h₁ tk hf st af rel P₁ => ?_)
  split at hf
  · rename_i hz
    cases hf
    unfold SZ at hz
    refine ⟨by rw [rel.length, sizeLine_eq]; omega, ?_⟩
    have k1 : KA h₁ (h₁.push { cls := .type "list", data := .seq vs.toArray }) := KA.push _ _
    have n1 := fresh_none h₁
    obtain ⟨st', af'⟩ := st_ext (p := ⟨h₁.objs.size, h₁.objs.size⟩) (o := .lst ps) st k1 n1 n1 ⟨rfl, vs.toArray, ⟨0, Heap.get?_push_size _ rfl⟩, by
      have af0 : Aft [] L₁ h₁ (L₁ ++ [(⟨h₁.objs.size, h₁.objs.size⟩ : LO)]) (h₁.push { cls := .type "list", data := .seq vs.toArray }) := ⟨⟨_, rfl, fun a ha => by
        have : a = h₁.objs.size := by simpa [ownT] using ha
        rw [this]; exact n1⟩, fun b _ _ => k1.slt b⟩
      exact af0.rels (.nil _) (fun _ => rfl) rel⟩
    refine P₁ _ _ _ _ st' af' ?_
    simp only [RelV]
    exact ⟨⟨h₁.objs.size, h₁.objs.size⟩, by rw [← st.lay.len, Lo.l_append]; simp, rfl⟩
  · cases hf
theorem se_es (ih : SE W Φ k n) {l : List CE} {xs : List Expr} {pos : Pos} (h : chkL (chk W.nm m env.kindOf) l xs = true) (a : At W Φ k A env fs ρ L σ s) : Snd W Φ.q fs A (spliced (backTo pos (starEach xs env))) (evs Φ (n + 1) l ρ σ) (RelVs Φ.q) L s := by
  intro r Q E hr P
  match l, xs, h with
  | [], [], _ =>
    unfold evs at hr
    cases hr
    exact wpAny_items_nil (P _ L s.heap s.toks a.st (.refl _ _ _) (by simp [RelVs]))
  | c :: l, x :: xs, h =>
    simp only [chkL, Bool.and_eq_true] at h
    unfold evs at hr
    have hst : starEach (x :: xs) env = (false, eval x env) :: starEach xs env := by
      have := chk_notStar (env := env) h.1
      cases x <;> first | rfl | (cases this; done)
    refine wpAny_items_cons (bnd_ok hr (ih.e h.1 a) P fun p σ₁ v L₁ h₁ tk hf st af rel P₁ => ?_) hst
    refine bnd_ok hf (ih.es h.2 (a.next st af)) P₁ fun ps σ₂ vs L₂ h₂ tk₂ hf₂ st₂ af₂ rel₂ P₂ => ?_
    cases hf₂
    refine P₂ _ L₂ h₂ tk₂ st₂ (.refl _ _ _) ?_
    simp only [RelVs]
    exact ⟨af₂.rel (.nil _) (fun _ => rfl) rel, rel₂⟩
theorem se_o (ih : SE W Φ k n) {c : Option CE} {y : Option Expr} (h : chkO (chk W.nm m env.kindOf) c y = true) (a : At W Φ k A env fs ρ L σ s) : Snd W Φ.q fs A (evalPart y env) (evO Φ (n + 1) c ρ σ) (RelO Φ.q) L s := by
  intro r Q E hr P
  match c, y, h with
  | .none, .none, _ =>
    unfold evO at hr
    cases hr
    exact wpAny_pure (P _ L s.heap s.toks a.st (.refl _ _ _) rfl)
  | some c, some y, h =>
    unfold evO at hr
    show wpAny _ _ (eval y env) _ _ _
    refine bnd_ok hr (ih.e h a) P fun p σ₁ v L₁ h₁ tk hf st af rel P₁ => ?_
    cases hf
    exact P₁ v L₁ h₁ tk st (.refl _ _ _) rel
theorem se_ts (ih : SE W Φ k n) {c : Bool} {l : List CE} {xs : List Expr} (h : chkL (chk W.nm m env.kindOf) l xs = true) (a : At W Φ k A env fs ρ L σ s) :
    Snd W Φ.q fs A (allTrue (if c = true then .And else .Or) xs env) (evTs Φ (n + 1) c l ρ σ) (fun _ _ (b : Bool) (b' : Bool) => b = b') L s := by
  intro r Q E hr P
  match l, xs, h with
  | [], [], _ =>
    unfold evTs at hr
    cases hr
    cases c
    · exact wpAny_allTrue_Or_nil (P _ L s.heap s.toks a.st (.refl _ _ _) rfl)
    · exact wpAny_allTrue_And_nil (P _ L s.heap s.toks a.st (.refl _ _ _) rfl)
  | d :: l, x :: xs, h =>
    simp only [chkL, Bool.and_eq_true] at h
    unfold evTs at hr
    cases c
    · refine wpAny_allTrue_Or_cons (bnd_ok hr (ih.t h.1 a) P fun b σ₁ v L₁ h₁ tk hf st af rel P₁ => ?_)
      have : v = b := rel
      subst this
      cases v
      · have := ih.ts (c := false) h.2 (a.next (tk := tk) st af)
        exact this r Q E hf P₁
      · cases hf
        exact P₁ _ L₁ h₁ tk st (.refl _ _ _) rfl
    · refine wpAny_allTrue_And_cons (bnd_ok hr (ih.t h.1 a) P fun b σ₁ v L₁ h₁ tk hf st af rel P₁ => ?_)
      have : v = b := rel
      subst this
      cases v
      · cases hf
        exact P₁ _ L₁ h₁ tk st (.refl _ _ _) rfl
      · have := ih.ts (c := true) h.2 (a.next (tk := tk) st af)
        exact this r Q E hf P₁
theorem truth_some {p : PV} {b : Bool} (h : truth p = some b) : p = .bool b := by
  cases p <;> cases h
  rfl
theorem se_b (ih : SE W Φ k n) {c : Bool} {l : List CE} {xs : List Expr} {pos : Pos} (h : chkL (chk W.nm m env.kindOf) l xs = true) (a : At W Φ k A env fs ρ L σ s) :
    Snd W Φ.q fs A (boolOp pos (if c = true then .And else .Or) (evalEach xs env)) (evB Φ (n + 1) c l ρ σ) (RelV Φ.q) L s := by
  intro r Q E hr P
  match l, xs, h with
  | [], [], _ => unfold evB at hr; cases hr
  | [d], [x], h =>
    simp only [chkL, Bool.and_eq_true] at h
    unfold evB at hr
    exact ih.e h.1 a r Q E hr P
  | [_], _ :: _ :: _, h => simp [chkL] at h
  | _ :: _ :: _, [_], h => simp [chkL] at h
  | d :: d2 :: l, x :: x2 :: xs, h =>
    have h0 := h
    simp only [chkL, Bool.and_eq_true] at h
    unfold evB at hr
    show wpAny _ _ (do let v ← eval x env; standAt pos; let t ← holding [v] (truthy v); match (if c = true then BoolOp.And else .Or), t with | .And, false | .Or, true => pure v | _, _ => boolOp pos (if c = true then BoolOp.And else .Or) (evalEach (x2 :: xs) env)) _ _ _
    refine wpAny_bind (bnd_ok hr (ih.e h.1 a) P fun p σ₁ v L₁ h₁ tk hf st af rel P₁ => ?_)
    refine wpAny_bind (wpAny_standAt ?_)
    split at hf
    · rename_i b hb
      obtain rfl := truth_some hb
      have : v = .bool b := rel
      subst this
      refine wpAny_bind (wpAny_holding (wpAny_truthy_bool ?_))
      have nx := ih.b (c := c) (pos := pos) (l := d2 :: l) (xs := x2 :: xs) (by simp only [chkL, Bool.and_eq_true]; exact h.2) (a.next (tk := tk) st af)
      cases c <;> cases b
      · exact nx r Q E hf P₁
      · cases hf
        exact wpAny_pure (P₁ _ L₁ h₁ tk st (.refl _ _ _) rfl)
      · cases hf
        exact wpAny_pure (P₁ _ L₁ h₁ tk st (.refl _ _ _) rfl)
      · exact nx r Q E hf P₁
    · cases hf
theorem se_bop (ih : SE W Φ k n) {c : Bool} {l : List CE} (h : chk W.nm (m + 1) env.kindOf (.bop c l) x = true) (a : At W Φ k A env fs ρ L σ s) : Snd W Φ.q fs A (eval x env) (ev Φ (n + 1) (.bop c l) ρ σ) (RelV Φ.q) L s := by
  intro r Q E hr P
  cases x <;> try (cases h; done)
  rename_i op es pos
  simp only [chk, Bool.and_eq_true, beq_iff_eq] at h
  unfold ev at hr
  have := ih.b (c := c) (pos := pos) h.2 a r Q E hr P
  cases c <;> cases op <;> first | exact this | (have := h.1; simp at this)
theorem se_t (ih : SE W Φ k n) {c : CE} (h : chk W.nm m env.kindOf c x = true) (a : At W Φ k A env fs ρ L σ s) : Snd W Φ.q fs A (isTrue x env (eval x env)) (evT Φ (n + 1) c ρ σ) (fun _ _ (b : Bool) (b' : Bool) => b = b') L s := by
  have other : (evT Φ (n + 1) c ρ σ = bnd (ev Φ n c ρ σ) fun v σ => rok (truth v) σ) → (∀ whole, isTrue x env whole = (do let v ← whole; standAt x.pos; holding [v] (truthy v))) → Snd W Φ.q fs A (isTrue x env (eval x env)) (evT Φ (n + 1) c ρ σ) (fun _ _ (b : Bool) (b' : Bool) => b = b') L s := fun he hi r Q E hr P => by
    rw [he] at hr
    refine wpAny_isTrue_value (bnd_ok hr (ih.e h a) P fun p σ₁ v L₁ h₁ tk hf st af rel P₁ => ?_) (hi _)
    obtain ⟨b, hb, rfl⟩ := rok_some hf
    obtain rfl := truth_some hb
    have : v = .bool b := rel
    subst this
    exact wpAny_truthy_bool (P₁ _ L₁ h₁ tk st (.refl _ _ _) rfl)
  cases m with
  | zero => cases h
  | succ m =>
  have cmpCase : (∀ whole, isTrue x env whole = eval x env >>= fun c => holding [c] (truthy c)) → (evT Φ (n + 1) c ρ σ = bnd (ev Φ n c ρ σ) fun v σ => rok (truth v) σ) → Snd W Φ.q fs A (isTrue x env (eval x env)) (evT Φ (n + 1) c ρ σ) (fun _ _ (b : Bool) (b' : Bool) => b = b') L s := fun hi he r Q E hr P => by
    rw [he] at hr
    rw [hi]
    refine wpAny_bind (bnd_ok hr (ih.e h a) P fun p σ₁ v L₁ h₁ tk hf st af rel P₁ => ?_)
    obtain ⟨b, hb, rfl⟩ := rok_some hf
    obtain rfl := truth_some hb
    have : v = .bool b := rel
    subst this
    exact wpAny_holding (wpAny_truthy_bool (P₁ _ L₁ h₁ tk st (.refl _ _ _) rfl))
  cases c with
  | not d =>
    intro r Q E hr P
    cases x <;> try (cases h; done)
    rename_i op y pos
    cases op <;> try (cases h; done)
    unfold evT at hr
    refine wpAny_isTrue_Not (bnd_ok hr (ih.t (m := m) h a) P fun p σ₁ v L₁ h₁ tk hf st af rel P₁ => ?_)
    cases hf
    exact P₁ _ L₁ h₁ tk st (.refl _ _ _) (by have : v = p := rel; rw [this])
  | bop b l =>
    intro r Q E hr P
    cases x <;> try (cases h; done)
    rename_i op es pos
    simp only [chk, Bool.and_eq_true, beq_iff_eq] at h
    unfold evT at hr
    have := ih.ts (c := b) h.2 a r Q E hr P
    refine wpAny_isTrue_BoolOp ?_
    cases b <;> cases op <;> first | exact this | (have := h.1; simp at this)
  | ite t b o =>
    intro r Q E hr P
    cases x <;> try (cases h; done)
    simp only [chk, Bool.and_eq_true] at h
    obtain ⟨⟨h1, h2⟩, h3⟩ := h
    unfold evT at hr
    rw [arm_isTrue_IfExp]
    refine wpAny_bind (bnd_ok hr (ih.t h1 a) P fun p σ₁ v L₁ h₁ tk hf st af rel P₁ => ?_)
    have : v = p := rel
    subst this
    cases v
    · exact ih.t h3 (a.next st af) r Q E hf P₁
    · exact ih.t h2 (a.next st af) r Q E hf P₁
  | cmp op c d =>
    cases x <;> try (cases h; done)
    rename_i l ops rs pos
    match ops, rs, h with
    | [o], [rr], h =>
      have h' := h
      simp only [chk, Bool.and_eq_true, beq_iff_eq] at h'
      refine cmpCase (fun whole => ?_) rfl
      rw [isTrue_Compare1, eval_Compare1]
      simp only [bind_assoc]
    | [], _, h => cases h
    | _ :: _ :: _, _, h => cases h
    | [_], [], h => cases h
    | [_], _ :: _ :: _, h => cases h
  | cmpNil op c =>
    cases x <;> try (cases h; done)
    rename_i l ops rs pos
    match ops, rs, h with
    | [o], [.List [] lp], h =>
      refine cmpCase (fun whole => ?_) rfl
      rw [isTrue_Compare1, eval_Compare1]
      simp only [bind_assoc]
  | neg d =>
    cases x <;> try (cases h; done)
    rename_i op y pos
    cases op <;> try (cases h; done)
    exact other rfl (fun _ => rfl)
  | _ => exact other rfl (fun whole => by cases x <;> first | rfl | (cases h; done))
end
end Mine
end
/-! M7b: a field of an exception's own dict is read -/
section
set_option autoImplicit false
set_option linter.unusedVariables false
set_option linter.unusedSimpArgs false
set_option maxRecDepth 100000
namespace Mine
open PySem PySem.W PySem.Calls PyProof.Rows
section
variable {prog : Program} {w : World} {A : Around} {E : Value → Shared → Prop} {s : Shared} {K : Frag} {x C : Addr} {ox : Obj} {od : Option Obj} {name : Str} {expr : Bool} {Q : Value → Shared → Prop}
theorem exn_check {M : Model} {nameV : Value} {Q : Unit → Shared → Prop} (X : K.In s.heap) (I : InstAt s.heap x ox C od) (hb : mroIn K C (.type "BaseException") = some true) (hq : Q () s) :
    wpAny M A (checkBuiltinCall "BaseException.__getattribute__" ⟨[.ref x, nameV], []⟩) Q E s := by
  have hk : builtinKind "BaseException.__getattribute__" = some .slot := by decide +kernel
  have hsplit : splitId "BaseException.__getattribute__" = some ("BaseException", "__getattribute__") := by decide +kernel
  have ha := F.args_bexc_ga (.ref x) nameV
  have L0 := I.type (M := M)
  have L1 := looks_mroIn (M := M) X hb
  have L2 : Looks M s.heap (isInstance (.ref x) (.type "BaseException")) true := L0.andThen L1
  simp only [checkBuiltinCall, hk, hsplit]
  refine wpAny_bind (L2.here ?_)
  repeat wp_step
  exact hq
theorem exn_get {v : Value} (X : K.In s.heap) (I : InstAt s.heap x ox C od) (hga : findIn K (.ref C) "__getattribute__" = some (some (.builtin "BaseException.__getattribute__"))) (hgt : findIn K (.ref C) "__getattr__" = some none) (hb : mroIn K C (.type "BaseException") = some true)
    (hf : findObj K C od name = some (.value v)) (hh : handedIn v = true) (h : Q v { s with toks := s.toks + 1 }) : wpAny (model prog w) A (getAttr (.ref x) name expr) Q E s := by
  have L0 := I.type (M := model prog w)
  have L1 := looks_findIn (M := model prog w) X hga
  have L2 := looks_findIn (M := model prog w) X hgt
  have L3 := looks_find (M := model prog w) X I hf
  have hx2 : (Value.builtin "BaseException.__getattribute__" == Value.builtin "object.__getattribute__") = false := by decide +kernel
  have hx1 : (onTheHeap (Value.ref C) && Value.builtin "BaseException.__getattribute__" == Value.builtin "object.__getattribute__") = false := by rw [hx2]; rfl
  have hx0 : (expr && onTheHeap (Value.builtin "BaseException.__getattribute__")) = false := by cases expr <;> rfl
  have f3 := PySem.F.attrBase_Exception.ga.bind (.ref x)
  obtain ⟨hp, g, d, t, os⟩ := s
  unfold getAttr getAttrBy
  refine wpAny_bind (wpAny_mkText (wpAny_holding (wpAny_bind (L0.at (wpAny_bind (L1.at ?_))))))
  dsimp only
  rw [hx1]
  simp only [Bool.false_eq_true, if_false]
  unfold getAttrByItsOwn hookBefore
  refine wpAny_bind ?_
  show wpAny _ _ (typeLookup (.ref C) "__getattr__") _ _ _
  refine L2.at ?_
  refine wpAny_bind (wpAny_attempt (wpAny_holding ?_))
  unfold callGetattribute
  rw [hx0]
  simp only [Bool.false_eq_true, if_false]
  unfold boundAndCalled
  rw [f3]
  refine wpAny_bind (wpAny_pure ?_)
  refine wpAny_call (codeAny_call_builtin PySem.F.attrBase_Exception.ga.plain F.entry_bexc_ga (exn_check (s := ⟨hp, g, d, t + 1, os⟩) X I hb ?_))
  unfold Builtin.«object.__getattribute__»
  refine wpAny_bind (wpAny_pure (wpAny_bind (wpAny_pure (wpAny_bind (L0.at (wpAny_bind (L3.at ?_)))))))
  refine wpAny_pure ?_
  show wpAny _ _ (handedOut v) _ _ _
  rw [handedOut_of hh]; exact wpAny_pure h
end
end Mine
end
/-! M8: calls, methods, fields -/
section
set_option autoImplicit false
set_option linter.unusedVariables false
set_option linter.unusedSimpArgs false
namespace Mine
open PySem PySem.W PyProof.Rows

structure WK (W : Wd) (K : Frag) : Prop extends WOk W where
  kin : K.In W.b0
  att : ∀ c x, c = 6 → x < 3 → plainGet K (W.cls c) (W.nm x) = true ∧ hasDictIn K (W.cls c) = true ∧ ∃ attr, findIn K (.ref (W.cls c)) (W.nm x) = some attr ∧ noGet K attr = true
  fault : findIn K (.ref textFaultA) "__getattribute__" = some (some (.builtin "BaseException.__getattribute__")) ∧ findIn K (.ref textFaultA) "__getattr__" = some none ∧ mroIn K textFaultA (.type "BaseException") = some true ∧
    hasDictIn K textFaultA = true ∧ ∃ attr, findIn K (.ref textFaultA) (W.nm spotName) = some attr ∧ noGet K attr = true

def CallOk (W : Wd) (k : Nat) (f : Value) (args : List PV) (σ : Store) (r : R PV) : Prop :=
  ∀ A env fs s L vs Q E, Ar A env fs k → A.handled = none → St W false fs L σ s.heap → RelVs false L s.heap vs args → Post W false fs (RelV false) L s r Q E → wpAny (model W.prog W.w) A (call f vs) Q E s
structure SigOk (W : Wd) (K : Frag) (Φ : Sig) (k : Nat) : Prop where
  glo : GloOk W Φ
  kn : ∀ f, Φ.kn f = true → ∃ v, W.mg (W.nm f) = some v ∧ keepIn K v = true ∧ ∀ args σ r, Φ.fn f args σ = some r → CallOk W k v args σ r
  km : ∀ c m, Φ.km c m = true → ∃ f, findIn K (.ref (W.cls c)) (W.nm m) = some (some (.ref f)) ∧ isFn K (.ref f) = true ∧ keepIn K (.ref f) = true ∧ plainGet K (W.cls c) (W.nm m) = true ∧
    ∀ j args σ r, Φ.meth c m j args σ = some r → CallOk W k (.ref f) (.ref j :: args) σ r

section
variable {M : Model} {A : Around} {E : Value → Shared → Prop} {s : Shared}
theorem evalArgs_of {f : Value} {l : List (Bool × Sem Value)} {Q : Args → Shared → Prop} (hp : l.any (·.1) = false) (h : wpAny M A (spliced l) (fun vs s' => Q ⟨vs, []⟩ s') E s) : wpAny M A (evalArgs f true l []) Q E s := by
  cases l with
  | nil =>
    unfold evalArgs
    show wpAny M A (spliced [] >>= _) Q E s
    refine wpAny_bind (wpAny_mono h (fun vs s' h' => ?_) fun _ _ x => x)
    refine wpAny_holding ?_
    exact wpAny_bind (wpAny_pure (wpAny_bind (wpAny_pure (wpAny_pure h'))))
  | cons p r =>
    obtain ⟨b, x⟩ := p
    cases b
    · exact Calls.evalArgs_plain h
    · simp at hp
theorem base_of {o : Expr} {a : Str} {env : Env} {whole : Sem Value} (h : notCall o = true) : attributeBase o a env whole = whole := by
  unfold attributeBase
  split
  · cases h
  · rfl
end

section
variable {W : Wd} {K : Frag} {Φ : Sig} {k n m : Nat} {A : Around} {env : Env} {fs : List Env} {ρ : Loc} {L : Lo} {σ : Store} {s : Shared} {x : Expr}

theorem chkL_star {kd : Str → Option NameKind} {pos : Pos} : ∀ {l : List CE} {es : List Expr}, chkL (chk W.nm m kd) l es = true → (backTo pos (starEach es env)).any (·.1) = false
  | [], [], _ => rfl
  | c :: l, e :: es, h => by
    simp only [chkL, Bool.and_eq_true] at h
    have hst : starEach (e :: es) env = (false, eval e env) :: starEach es env := by
      have := chk_notStar (env := env) h.1
      cases e <;> first | rfl | (cases this; done)
    rw [hst]
    have := chkL_star (pos := pos) h.2
    simpa [backTo] using this
  | [], _ :: _, h => by cases h
  | _ :: _, [], h => by cases h

/-- a call's arguments are told, then the call is made -/
theorem args_ok (ih : SE W Φ k n) {l : List CE} {es : List Expr} {pos : Pos} {f : Value} {first : List Value} {g : List PV → Store → Option (R PV)} {r : R PV} {Q : Value → Shared → Prop} {E : Value → Shared → Prop}
    (h : chkL (chk W.nm m env.kindOf) l es = true) (a : At W Φ k A env fs ρ L σ s) (hk : ∀ h, W.b0.StaysIn h → ∃ k, (k = Keeper.frame ∨ k = Keeper.machine ∨ k = Keeper.boundFrame) ∧ Looks (model W.prog W.w) h (keeperOf f) k)
    (hr : bnd (evs Φ n l ρ σ) g = some r) (P : Post W Φ.q fs (RelV Φ.q) L s r Q E)
    (hc : ∀ ps σ₁ vs L₁ h₁ tk, g ps σ₁ = some r → St W Φ.q fs L₁ σ₁ h₁ → Aft [] L s.heap L₁ h₁ → RelVs Φ.q L₁ h₁ vs ps → Post W Φ.q fs (RelV Φ.q) L₁ { s with heap := h₁, toks := tk } r Q E →
      wpAny (model W.prog W.w) A (call f (first ++ vs)) Q E { s with heap := h₁, toks := tk }) :
    wpAny (model W.prog W.w) A (callWith pos f first (backTo pos (starEach es env)) []) Q E s := by
  refine callWith_of (P := fun h => W.b0.StaysIn h) (by rw [chkL_star h]; rfl) hk ?_
  refine evalArgs_of (chkL_star h) (bnd_ok hr (ih.es h a) P fun ps σ₁ vs L₁ h₁ tk hf st af rel P₁ => ⟨st.base, hc ps σ₁ vs L₁ h₁ tk hf st af rel P₁⟩)

theorem keeps_bi (b : Bi) (M : Model) (h : Heap) : ∃ k, (k = Keeper.frame ∨ k = Keeper.machine ∨ k = Keeper.boundFrame) ∧ Looks M h (keeperOf (biVal b)) k :=
  ⟨.machine, .inr (.inl rfl), .of_pure (by cases b <;> rfl)⟩

theorem se_bi (wok : WOk W) (ih : SE W Φ k n) {b : Bi} {l : List CE} (h : chk W.nm (m + 1) env.kindOf (.bi b l) x = true) (a : At W Φ k A env fs ρ L σ s) : Snd W Φ.q fs A (eval x env) (ev Φ (n + 1) (.bi b l) ρ σ) (RelV Φ.q) L s := by
  intro r Q E hr P
  simp only [chk] at h
  split at h
  · rename_i id p es pos
    simp only [Bool.and_eq_true, Bool.not_eq_true', beq_iff_eq] at h
    obtain ⟨⟨⟨rfl, hk⟩, hd⟩, hl⟩ := h
    unfold ev at hr
    split at hr
    · cases hr
    rename_i hq
    rw [arm_eval_Call_Name']
    refine wpAny_bind (wpAny_Name (built_ok wok a hk ?_) hd)
    refine args_ok ih hl a (fun h _ => keeps_bi b _ h) hr P fun ps σ₁ vs L₁ h₁ tk hf st af rel P₁ => ?_
    obtain ⟨p', hp, rfl⟩ := rok_some hf
    refine bi_ok hp st.lay rel (fun e => a.hq ?_) (P₁.kp st)
    cases hqq : Φ.q with
    | false => rfl
    | true => exact absurd ⟨hqq, e⟩ hq
  · cases h

theorem q_false {b : Bool} (h : ¬ b = true) : b = false := by cases b <;> simp at h ⊢
theorem se_call (wk : WK W K) (so : SigOk W K Φ k) (ih : SE W Φ k n) {f : Nat} {l : List CE} (h : chk W.nm (m + 1) env.kindOf (.call f l) x = true) (a : At W Φ k A env fs ρ L σ s) : Snd W Φ.q fs A (eval x env) (ev Φ (n + 1) (.call f l) ρ σ) (RelV Φ.q) L s := by
  intro r Q E hr P
  simp only [chk] at h
  split at h
  · rename_i id p es pos
    simp only [Bool.and_eq_true, Bool.not_eq_true', beq_iff_eq] at h
    obtain ⟨⟨⟨rfl, hk⟩, hd⟩, hl⟩ := h
    unfold ev at hr
    split at hr
    · cases hr
    rename_i hq
    rw [not_or] at hq
    have hq' := q_false hq.1
    have hkn : Φ.kn f = true := by simpa using hq.2
    obtain ⟨v, hv, hkeep, hcall⟩ := so.kn f hkn
    rw [arm_eval_Call_Name']
    refine wpAny_bind (wpAny_Name (glob_ok wk.toWOk a hk hv ?_) hd)
    refine args_ok ih hl a (fun h hb => keeps_K hkeep h (wk.kin.keeps hb)) hr P fun ps σ₁ vs L₁ h₁ tk hf st af rel P₁ => ?_
    rw [hq'] at st rel P₁
    exact hcall ps σ₁ r hf A env fs _ L₁ vs Q E a.ar (a.hq hq') st rel P₁
  · cases h

/-- a record's entries, by name -/
theorem ents_keys {q : Bool} {L : Lo} {h : Heap} : ∀ {es : List DictEntry} {l : List (Nat × PV)}, Ents W q L h es l → es.any (·.refKey) = false
  | [], [], _ => rfl
  | e :: es, (x, p) :: l, H => by
    simp only [Ents] at H
    obtain ⟨⟨t, ht⟩, _, hr⟩ := H
    rw [List.any_cons, ents_keys hr]
    unfold DictEntry.refKey
    rw [ht]; rfl
  | [], _ :: _, H => by simp [Ents] at H
  | _ :: _, [], H => by simp [Ents] at H
theorem ents_get (wok : WOk W) {q : Bool} {L : Lo} {h : Heap} : ∀ {es : List DictEntry} {l : List (Nat × PV)}, Ents W q L h es l → ∀ x, (∀ p, lk l x = some p → ∃ v, getL (W.nm x) es = some (some v) ∧ RelV q L h v p) ∧ (lk l x = none → getL (W.nm x) es = some none)
  | [], [], _, x => ⟨fun p e => by simp [lk] at e, fun _ => rfl⟩
  | e :: es, (y, p) :: l, H, x => by
    have hk := ents_keys H
    simp only [Ents] at H
    obtain ⟨⟨t, ht⟩, hv, hr⟩ := H
    have ih := ents_get wok hr x
    have hk' := ents_keys hr
    by_cases e1 : y = x
    · subst e1
      refine ⟨fun p' e2 => ?_, fun e2 => ?_⟩
      · simp only [lk, if_true, Option.some.injEq] at e2
        subst e2
        refine ⟨e.val, ?_, hv⟩
        unfold getL
        rw [List.find?_cons_of_pos (by rw [ht]; simp [Value.isStr])]
      · simp [lk] at e2
    · have e3 : e.key.isStr (W.nm x) = false := by
        rw [ht]
        simp only [Value.isStr, beq_eq_false_iff_ne, ne_eq]
        exact fun z => e1 (wok.inj _ _ z)
      have e4 : getL (W.nm x) (e :: es) = getL (W.nm x) es := by
        unfold getL
        rw [List.find?_cons_of_neg (by rw [e3]; simp), hk, hk']
      rw [e4]
      simp only [lk, if_neg e1]
      exact ih
  | [], _ :: _, H, _ => by simp [Ents] at H
  | _ :: _, [], H, _ => by simp [Ents] at H
theorem rel_handed {q : Bool} {L : Lo} {h : Heap} {v : Value} {p : PV} (r : RelV q L h v p) : handedIn v = true := by
  cases p <;> simp only [RelV] at r
  case none => subst r; rfl
  case bool => subst r; rfl
  case int => obtain ⟨t, rfl⟩ := r; rfl
  case str => obtain ⟨t, rfl⟩ := r; rfl
  case tup => obtain ⟨a, vs, rfl, _⟩ := r; rfl
  case lst => obtain ⟨a, vs, rfl, _⟩ := r; rfl
  case rng => obtain ⟨a, t, u, w, rfl, _⟩ := r; rfl
  case ref => obtain ⟨p, _, rfl⟩ := r; rfl
  case exn => obtain ⟨_, e, d, rfl, _⟩ := r; rfl

theorem se_attr (wk : WK W K) (ih : SE W Φ k n) {c : CE} {y : Nat} (h : chk W.nm (m + 1) env.kindOf (.attr c y) x = true) (a : At W Φ k A env fs ρ L σ s) : Snd W Φ.q fs A (eval x env) (ev Φ (n + 1) (.attr c y) ρ σ) (RelV Φ.q) L s := by
  intro r Q E hr P
  simp only [chk] at h
  split at h
  · rename_i vi vp at_ pos
    simp only [Bool.and_eq_true, beq_iff_eq, decide_eq_true_eq] at h
    obtain ⟨⟨rfl, hy⟩, hc⟩ := h
    unfold ev at hr
    rw [arm_eval_Attribute]
    refine wpAny_bind ?_
    rw [base_of rfl]
    refine bnd_ok hr (ih.e hc a) P fun p σ₁ v L₁ h₁ tk hf st af rel P₁ => ?_
    refine wpAny_bind (wpAny_standAt (wpAny_bind (wpAny_holding ?_)))
    obtain ⟨p', hp, rfl⟩ := rok_some hf
    have fin : ∀ v', RelV Φ.q L₁ h₁ v' p' → wpAny (model W.prog W.w) A (letTemporaryGo (Expr.Name vi vp) v v' >>= fun _ => pure v') Q E { s with heap := h₁, toks := tk + 1 } := fun v' rv => by
      refine wpAny_bind (wpAny_pure (wpAny_pure ?_))
      exact P₁ v' L₁ h₁ (tk + 1) st (.refl _ _ _) rv
    unfold attrop at hp
    split at hp
    · rename_i j
      simp only [RelV] at rel
      obtain ⟨pl, hpl, rfl⟩ := rel
      split at hp
      · rename_i cc l hs
        split at hp
        case isFalse => cases hp
        rename_i hcc
        obtain ⟨_, ho, es, en, hd, _, hen⟩ := st.lay.objs j pl _ hpl hs
        obtain ⟨v', hg, rv⟩ := (ents_get wk.toWOk hen y).1 p' hp
        obtain ⟨h1, h2, attr, h3, h4⟩ := wk.att cc y hcc hy
        refine get_value (s := { s with heap := h₁, toks := tk }) (wk.kin.keeps st.base) (ox := instObj (W.cls cc) pl.d) (od := some (dictOf es en)) ⟨ho, rfl, rfl, hd⟩ (plainGet_of h1).1 (findObj_own h2 h3 h4 ?_) (rel_handed rv) (fin v' rv)
        rw [lookIn_dict]; exact hg
      · cases hp
    · rename_i i
      split at hp
      · rename_i hsp
        cases hp
        simp only [RelV] at rel
        obtain ⟨hq, e, d, rfl, he, hd, vs, od, es, en, t, g1, g2, g3, g4, g5⟩ := rel
        obtain ⟨f1, f2, f3, h2, attr, h3, h4⟩ := wk.fault
        rw [hsp]
        refine exn_get (s := { s with heap := h₁, toks := tk }) (wk.kin.keeps st.base) (ox := { cls := .ref textFaultA, dict := some d, data := .fields vs }) (od := some od) ⟨g1, rfl, rfl, g2⟩ f1 f2 f3 (findObj_own (v := .int i t) h2 h3 h4 ?_) rfl (fin _ ⟨t, rfl⟩)
        rw [wk.spot]
        unfold lookIn
        rw [g4]
        exact g5
      · cases hp
    · cases hp
  · cases h

theorem meth_walk {o : Expr} {name : Str} {apos pos : Pos} {args : List Expr} {Q : Value → Shared → Prop} {E : Value → Shared → Prop} {M : Model}
    (hb : notCall o = true) (hline : (apos.endLine == pos.line) = true) (hn : args.length < 20) (hp : (backTo pos (starEach args env)).any (·.1) = false)
    (h : wpAny M A (eval o env) (fun ov s₁ => ∀ pl, wpAny M A (getMethod ov name pl) (fun f s₂ => wpAny M A (callWith pos f.1 f.2 (backTo pos (starEach args env)) []) Q E s₂) E s₁) E s) :
    wpAny M A (eval (.Call (.Attribute o name apos) args [] pos) env) Q E s := by
  rw [arm_eval_Call]
  refine wpAny_bind ?_
  rw [base_of hb]
  refine wpAny_mono h (fun ov s₁ h₁ => ?_) fun _ _ e => e
  refine wpAny_bind (wpAny_standAt ?_)
  have hform : methodCallForm (args.length + ([] : List Keyword).length) (backTo pos (starEach args env)) (backToKw pos (keywordEach [] env)) = true := by
    unfold methodCallForm
    have h1 : (backTo pos (starEach args env)).all (fun x => !x.1) = true := by
      rw [List.all_eq_not_any_not]
      simpa using hp
    rw [h1]
    simp [backToKw, keywordEach]
    omega
  have hpos : methodCallPos true o env apos pos = pure pos := by unfold methodCallPos; simp [hline]
  unfold methodCall
  rw [hform]
  unfold calleeOf
  rw [if_pos rfl]
  refine wpAny_bind (wpAny_holding (wpAny_mono (h₁ _) (fun f s₂ h₂ => ?_) fun _ _ e => e))
  exact wpAny_bind (wpAny_of_eq hpos h₂)

theorem se_meth (wk : WK W K) (so : SigOk W K Φ k) (ih : SE W Φ k n) {c : CE} {y : Nat} {l : List CE} (h : chk W.nm (m + 1) env.kindOf (.meth c y l) x = true) (a : At W Φ k A env fs ρ L σ s) : Snd W Φ.q fs A (eval x env) (ev Φ (n + 1) (.meth c y l) ρ σ) (RelV Φ.q) L s := by
  intro r Q E hr P
  simp only [chk] at h
  split at h
  · rename_i v a_ ap es pos
    simp only [Bool.and_eq_true, beq_iff_eq, decide_eq_true_eq] at h
    obtain ⟨⟨⟨⟨⟨rfl, hb⟩, hline⟩, hn⟩, hc⟩, hl⟩ := h
    unfold ev at hr
    split at hr
    · cases hr
    rename_i hq
    have hq' := q_false hq
    refine meth_walk hb (beq_iff_eq.mpr hline) hn (chkL_star hl) (bnd_ok hr (ih.e hc a) P fun p σ₁ v₁ L₁ h₁ tk hf st af rel P₁ pl => ?_)
    split at hf
    · rename_i j
      split at hf
      · rename_i cc at_ hs
        split at hf
        · cases hf
        rename_i hno
        rw [not_or] at hno
        have hkm : Φ.km cc y = true := by simpa using hno.2
        have hsl : lk at_ y = none := by
          cases z : lk at_ y with
          | none => rfl
          | some _ => exact absurd (by rw [z]; rfl) hno.1
        simp only [RelV] at rel
        obtain ⟨pl', hpl, rfl⟩ := rel
        obtain ⟨_, ho, ens, en, hd, _, hen⟩ := st.lay.objs j pl' _ hpl hs
        obtain ⟨f, f1, f2, f3, f4, f5⟩ := so.km cc y hkm
        have hg := (ents_get wk.toWOk hen y).2 hsl
        refine method_fn (s := { s with heap := h₁, toks := tk }) (wk.kin.keeps st.base) (ox := instObj (W.cls cc) pl'.d) (od := some (dictOf ens en)) ⟨ho, rfl, rfl, hd⟩ (plainGet_of f4).1 (plainGet_of f4).2 f1 (beq_iff_eq.mp f2) (by show (lookIn _ (dictOf ens en)).map _ = _; rw [lookIn_dict, hg]; rfl) ?_
        refine args_ok ih hl (a.next st af) (fun h hb => keeps_K f3 h (wk.kin.keeps hb)) hf P₁ fun ps σ₂ vs L₂ h₂ tk₂ hf₂ st₂ af₂ rel₂ P₂ => ?_
        rw [hq'] at st₂ rel₂ P₂
        refine f5 j ps σ₂ r hf₂ A env fs _ L₂ (.ref pl'.a :: vs) Q E a.ar (a.hq hq') st₂ ?_ P₂
        simp only [RelVs, RelV]
        refine ⟨⟨pl', ?_, rfl⟩, rel₂⟩
        obtain ⟨⟨T, rfl, _⟩, _⟩ := af₂
        rw [Lo.l_append, List.getElem?_append_left (List.getElem?_eq_some_iff.mp hpl).1]
        exact hpl
      · cases hf
    · cases hf
  · cases h

theorem ascii_digit {c : Nat} (h : c < 128) : Unicode.isDigit c = isDig c := by
  have : ∀ c : Fin 128, Unicode.isDigit c.val = isDig c.val := by decide +kernel
  exact this ⟨c, h⟩
theorem digit_txt {l : List Nat} (h : l.all (fun c => Nat.blt c 128) = true) : Txt.isdigit ⟨l.toArray⟩ = (!l.isEmpty && l.all isDig) := by
  unfold Txt.isdigit
  have e : (⟨l.toArray⟩ : Str).cps.all Unicode.isDigit = l.all isDig := by
    show l.toArray.all Unicode.isDigit = _
    rw [List.all_toArray]
    apply Bool.eq_iff_iff.mpr
    simp only [List.all_eq_true]
    exact ⟨fun z c hc => (ascii_digit (by simpa using List.all_eq_true.mp h c hc)) ▸ z c hc, fun z c hc => (ascii_digit (by simpa using List.all_eq_true.mp h c hc)).symm ▸ z c hc⟩
  rw [e]
  cases l <;> simp [Str.length]

theorem se_mdig (ih : SE W Φ k n) {c : CE} (h : chk W.nm (m + 1) env.kindOf (.mdig c) x = true) (a : At W Φ k A env fs ρ L σ s) : Snd W Φ.q fs A (eval x env) (ev Φ (n + 1) (.mdig c) ρ σ) (RelV Φ.q) L s := by
  intro r Q E hr P
  simp only [chk] at h
  split at h
  · rename_i v a_ ap pos
    simp only [Bool.and_eq_true, beq_iff_eq] at h
    obtain ⟨⟨⟨rfl, hb⟩, hline⟩, hc⟩ := h
    unfold ev at hr
    refine Call_method0 (base_of hb) (beq_iff_eq.mpr hline) (bnd_ok hr (ih.e hc a) P fun p σ₁ v₁ L₁ h₁ tk hf st af rel P₁ => ?_)
    split at hf
    · rename_i l
      split at hf
      · rename_i hz
        cases hf
        obtain ⟨t, rfl⟩ := rel
        refine SB.isdigit ?_
        rw [digit_txt hz]
        exact P₁ _ L₁ h₁ tk st (.refl _ _ _) rfl
      · cases hf
    · cases hf
  · cases h

theorem upd_keep {h : Heap} {a : Addr} {f : Obj → Obj} : ∀ b o, b ≠ a → h.get? b = some o → (h.update a f).get? b = some o := fun b o hb e => by
  rw [Heap.get?_update_other _ _ (Ne.symm hb)]; exact e
/-- an owned object is turned -/
theorem st_upd {q : Bool} {h h' : Heap} {p : LO} {o o' : PO} {j : Nat} (x : St W q fs L σ h) (hp : L.l[j]? = some p) (k : ∀ b o, b ≠ p.a → b ≠ p.d → h.get? b = some o → h'.get? b = some o)
    (lo : (∀ {v : Value} {pv : PV}, RelV q L h v pv → RelV q L h' v pv) → (∀ {vs : List Value} {ps : List PV}, RelVs q L h vs ps → RelVs q L h' vs ps) → LayO W q L h' p o') : St W q fs L (σ.set j o') h' ∧ Aft [] L h L h' := by
  have hm := mem_own hp
  have hmT := mem_ownT hp
  have kk : ∀ b, b ∉ ownT L.l → Slt h h' b := fun b hb => .of_some fun o e => k b o (fun z => hb (z ▸ hmT.1)) (fun z => hb (z ▸ hmT.2)) e
  have af : Aft [] L h L h' := ⟨⟨[], L.append_nil.symm, fun _ z => by simp [ownT] at z⟩, fun b hb _ => kk b hb⟩
  have rl : ∀ {v : Value} {pv : PV}, RelV q L h v pv → RelV q L h' v pv := fun r => af.rel (.nil _) (fun _ => rfl) r
  have rls : ∀ {vs : List Value} {ps : List PV}, RelVs q L h vs ps → RelVs q L h' vs ps := fun r => af.rels (.nil _) (fun _ => rfl) r
  refine ⟨⟨fun b o e => k b o (fun z => ?_) (fun z => ?_) (x.base b o e), x.offb, ⟨?_, x.lay.apart, fun i pi oi e1 e2 => ?_, fun a ha => ?_⟩, ?_⟩, af⟩
  · rw [z, x.offb _ hm.1] at e; cases e
  · rw [z, x.offb _ hm.2] at e; cases e
  · rw [List.length_set]; exact x.lay.len
  · by_cases hij : i = j
    · subst hij
      rw [hp] at e1; cases e1
      rw [List.getElem?_set_self (by
        have := (List.getElem?_eq_some_iff.mp hp).1
        rw [x.lay.len] at this; exact this)] at e2
      cases e2
      exact lo rl rls
    · rw [List.getElem?_set_ne (Ne.symm hij)] at e2
      obtain ⟨a1, a2, a3, a4⟩ := x.lay.apart i j pi p e1 hp hij
      exact (x.lay.objs i pi oi e1 e2).keep rl rls (fun o => k _ o a1 a2) (fun o => k _ o a3 a4)
  · obtain ⟨⟨o', e'⟩, hh⟩ := x.lay.hidden a ha
    obtain ⟨h1, h2⟩ := hh j p hp
    exact ⟨⟨o', k a o' h1.symm h2.symm e'⟩, hh⟩
  · exact x.fr.aft af

theorem list_typeIs {l : Addr} {vs : Array Value} (hl : s.heap.PlainList l vs) : s.TypeIs (.ref l) "list" := let ⟨_, ho⟩ := hl; ⟨_, ho, rfl⟩

theorem join_empty : ∀ ss : List (List Nat), Txt.join ⟨([] : List Nat).toArray⟩ (ss.map fun s => (⟨s.toArray⟩ : Str)) = ⟨ss.flatten.toArray⟩ := by
  intro ss
  unfold Txt.join
  rw [StrLaws.glued_eq_join]
  have : ∀ ss : List (List Nat), Str.join ⟨([] : List Nat).toArray⟩ (ss.map fun s => (⟨s.toArray⟩ : Str)) = ⟨ss.flatten.toArray⟩ := by
    intro ss
    induction ss with
    | nil => rfl
    | cons s r ih =>
      cases r with
      | nil => simp [Str.join]
      | cons s' r' =>
        have e : ∀ (a b : Str) (r : List Str) (sep : Str), Str.join sep (a :: b :: r) = a ++ sep ++ Str.join sep (b :: r) := fun _ _ _ _ => rfl
        rw [List.map_cons, List.map_cons, e]
        rw [List.map_cons] at ih
        rw [ih, strAppend, strAppend]
        simp
  exact this ss
theorem strsOf_are {q : Bool} {h : Heap} : ∀ {l : List PV} {vs : List Value} {ss : List (List Nat)}, strsOf l = some ss → RelVs q L h vs l → StrsAre vs (ss.map fun s => (⟨s.toArray⟩ : Str))
  | [], [], ss, e, _ => by
    simp only [strsOf, Option.some.injEq] at e
    subst e
    exact .nil
  | p :: l, v :: vs, ss, e, r => by
    simp only [RelVs] at r
    cases p <;> simp only [strsOf] at e <;> try (cases e; done)
    obtain ⟨ss', e', rfl⟩ := Option.map_eq_some_iff.mp e
    obtain ⟨t, rfl⟩ := r.1
    exact .cons _ t (strsOf_are e' r.2)
  | [], _ :: _, _, _, r => by simp [RelVs] at r
  | _ :: _, [], _, _, r => by simp [RelVs] at r

theorem se_mjoin (ih : SE W Φ k n) {c d : CE} (h : chk W.nm (m + 1) env.kindOf (.mjoin c d) x = true) (a : At W Φ k A env fs ρ L σ s) : Snd W Φ.q fs A (eval x env) (ev Φ (n + 1) (.mjoin c d) ρ σ) (RelV Φ.q) L s := by
  intro r Q E hr P
  simp only [chk] at h
  split at h
  · rename_i v a_ ap y pos
    simp only [Bool.and_eq_true, beq_iff_eq] at h
    obtain ⟨⟨⟨⟨rfl, hb⟩, hline⟩, hc⟩, hd⟩ := h
    unfold ev at hr
    have hst := chk_notStar (env := env) hd
    refine Call_method1 (base_of hb) hst (beq_iff_eq.mpr hline) (bnd_ok hr (ih.e hc a) P fun p σ₁ v₁ L₁ h₁ tk hf st af rel P₁ => ?_)
    split at hf
    · obtain ⟨t, rfl⟩ := rel
      refine ⟨"str", "str.join", F.plainAttrs_str, F.slot_str_join, F.type_str_join, rfl, fun b hb => (by cases hb), ?_⟩
      refine callWith_of (P := fun _ => True) rfl (fun h _ => ⟨.machine, .inr (.inl rfl), .of_pure rfl⟩) ?_
      refine Calls.evalArgs_plain (Calls.spliced_cons (bnd_ok hf (ih.e hd (a.next st af)) P₁ fun p₂ σ₂ v₂ L₂ h₂ tk₂ hf₂ st₂ af₂ rel₂ P₂ => Calls.spliced_nil ⟨trivial, ?_⟩))
      split at hf₂
      · rename_i l
        split at hf₂
        · rename_i ss hss
          split at hf₂
          · rename_i hz
            cases hf₂
            simp only [RelV] at rel₂
            obtain ⟨b, vs, rfl, _, hb, hrel⟩ := rel₂
            refine join_list hb (strsOf_are hss hrel) ?_ fun t' k => ?_
            · have e : ((ss.map fun s => (⟨s.toArray⟩ : Str)).map (·.length)).sum = ss.flatten.length := by
                rw [List.length_flatten, List.map_map]
                congr 1 <;> (apply List.map_congr_left; intro s _; simp [strLen])
              rw [e, strLen]
              unfold SZ at hz
              have := hz.2
              simp only [List.length_nil, Nat.mul_zero, Nat.add_zero]
              omega
            · rw [join_empty]
              exact P₂ _ L₂ h₂ k st₂ (.refl _ _ _) ⟨_, rfl⟩
          · cases hf₂
        · cases hf₂
      · cases hf₂
    · cases hf
  · cases h
theorem se_mapp (ih : SE W Φ k n) {c d : CE} (h : chk W.nm (m + 1) env.kindOf (.mapp c d) x = true) (a : At W Φ k A env fs ρ L σ s) : Snd W Φ.q fs A (eval x env) (ev Φ (n + 1) (.mapp c d) ρ σ) (RelV Φ.q) L s := by
  intro r Q E hr P
  simp only [chk] at h
  split at h
  · rename_i v a_ ap y pos
    simp only [Bool.and_eq_true, beq_iff_eq] at h
    obtain ⟨⟨⟨⟨rfl, hb⟩, hline⟩, hc⟩, hd⟩ := h
    unfold ev at hr
    split at hr
    · cases hr
    have hst := chk_notStar (env := env) hd
    refine Call_method1 (base_of hb) hst (beq_iff_eq.mpr hline) (bnd_ok hr (ih.e hc a) P fun p σ₁ v₁ L₁ h₁ tk hf st af rel P₁ => ?_)
    split at hf
    · rename_i j
      split at hf
      · rename_i l0 hs
        simp only [RelV] at rel
        obtain ⟨pl, hpl, rfl⟩ := rel
        obtain ⟨hda, vs, hl, hrel⟩ := st.lay.objs j pl _ hpl hs
        refine ⟨"list", "list.append", F.plainAttrs_list, F.slot_list_append, F.type_list_append, list_typeIs (s := { s with heap := h₁, toks := tk }) hl, fun b hb => ?_, ?_⟩
        · cases hb
          obtain ⟨_, ho⟩ := hl
          exact ⟨_, ho, rfl⟩
        · refine PySem.P.append_list (bnd_ok hf (ih.e hd (a.next st af)) P₁ fun p₂ σ₂ v₂ L₂ h₂ tk₂ hf₂ st₂ af₂ rel₂ P₂ => ?_)
          split at hf₂
          · rename_i l hs₂
            split at hf₂
            · rename_i hz
              cases hf₂
              have hpl₂ : L₂.l[j]? = some pl := by
                obtain ⟨⟨T, rfl, _⟩, _⟩ := af₂
                rw [Lo.l_append, List.getElem?_append_left (List.getElem?_eq_some_iff.mp hpl).1]
                exact hpl
              obtain ⟨hda₂, vs₂, ⟨nn, ho₂⟩, hrel₂⟩ := st₂.lay.objs j pl _ hpl₂ hs₂
              have hlen : vs₂.size = l.length := by simpa using hrel₂.length
              unfold SZ at hz
              refine ⟨vs₂, nn, by rw [hlen, sizeLine_eq]; omega, ho₂, ?_⟩
              obtain ⟨st₃, af₃⟩ := st_upd (h' := h₂.update pl.a (Obj.mapSeq fun xs => xs.push v₂)) (o := .lst l) (o' := .lst (l ++ [p₂])) st₂ hpl₂ (fun b o hb _ e => upd_keep b o hb e) (fun rl rls => ⟨hda₂, vs₂.push v₂, ⟨nn + 1, by
                rw [Heap.get?_update_self _ ho₂ (by rw [Obj.mapSeq_push_plain]; rfl), Obj.mapSeq_push_plain]⟩, by
                rw [Array.toList_push]
                exact (rls hrel₂).append (by simp only [RelVs, and_true]; exact rl rel₂)⟩)
              exact P₂ .none L₂ _ tk₂ st₃ af₃ rfl
            · cases hf₂
          · cases hf₂
      · cases hf
    · cases hf
  · cases h
theorem erase_last (vs : Array Value) : (vs.eraseIdxIfInBounds (vs.size - 1)).toList = vs.toList.dropLast := by
  rw [Array.toList_eraseIdxIfInBounds, ← Array.length_toList, List.eraseIdx_length_sub_one]
theorem se_mpop (ih : SE W Φ k n) {c : CE} (h : chk W.nm (m + 1) env.kindOf (.mpop c) x = true) (a : At W Φ k A env fs ρ L σ s) : Snd W Φ.q fs A (eval x env) (ev Φ (n + 1) (.mpop c) ρ σ) (RelV Φ.q) L s := by
  intro r Q E hr P
  simp only [chk] at h
  split at h
  · rename_i v a_ ap pos
    simp only [Bool.and_eq_true, beq_iff_eq] at h
    obtain ⟨⟨⟨rfl, hb⟩, hline⟩, hc⟩ := h
    unfold ev at hr
    split at hr
    · cases hr
    refine Call_method0 (base_of hb) (beq_iff_eq.mpr hline) (bnd_ok hr (ih.e hc a) P fun p σ₁ v₁ L₁ h₁ tk hf st af rel P₁ => ?_)
    split at hf
    · rename_i j
      split at hf
      · rename_i l hs
        split at hf
        · rename_i hz
          split at hf
          · rename_i u hu
            cases hf
            simp only [RelV] at rel
            obtain ⟨pl, hpl, rfl⟩ := rel
            obtain ⟨hda, vs, hl, hrel⟩ := st.lay.objs j pl _ hpl hs
            have hl' := hl
            obtain ⟨nn, ho⟩ := hl'
            have hlen : vs.size = l.length := by simpa using hrel.length
            unfold SZ at hz
            rw [List.getLast?_eq_getElem?] at hu
            obtain ⟨vu, hvu, ru⟩ := hrel.get hu
            refine ⟨"list", "list.pop", F.plainAttrs_list, F.slot_list_pop, F.type_list_pop, list_typeIs (s := { s with heap := h₁, toks := tk }) hl, fun b hb => ?_, ?_⟩
            · cases hb
              exact ⟨_, ho, rfl⟩
            · refine PySem.P.pop_list (s := { s with heap := h₁, toks := tk }) (items := vs) (n := nn) (y := vu) ho (by rw [hlen]; simpa using hvu) ?_ (by rw [hlen, sizeLine_eq]; omega)
              obtain ⟨st₃, af₃⟩ := st_upd (h' := h₁.update pl.a (Obj.mapSeq fun xs => xs.eraseIdxIfInBounds (vs.size - 1))) (o := .lst l) (o' := .lst l.dropLast) st hpl (fun b o hb _ e => upd_keep b o hb e) (fun rl rls => ⟨hda, vs.eraseIdxIfInBounds (vs.size - 1), ⟨_, (Heap.get?_update_self _ ho rfl).trans rfl⟩, by
                rw [erase_last, List.dropLast_eq_take, List.dropLast_eq_take, show vs.toList.length = l.length from hrel.length]
                exact (rls hrel).take _⟩)
              exact P₁ vu L₁ _ tk st₃ af₃ (af₃.rel (.nil _) (fun _ => rfl) ru)
          · cases hf
        · cases hf
      · cases hf
    · cases hf
  · cases h
theorem strAppend0 (x : Str) : Str.empty ++ x = x := by
  apply Str.ext'
  simp [Str.cps_append, Str.empty]
theorem digs_len {i : Int} (h : i.natAbs < 1000000000000000000) : (digs i).length ≤ 1000 := by
  rw [← strLen, ← digs_str]
  cases i with
  | ofNat j =>
    exact Nat.le_trans (toString_length_le (v := Int.ofNat j) (by simp) (k := 18) (by decide) (by
      have : (Int.ofNat j).natAbs = j := rfl
      rw [this] at h
      simp only [Int.ofNat_eq_natCast]
      omega)) (by decide)
  | negSucc j =>
    have e : toString (Int.negSucc j) = "-" ++ (j + 1).repr := rfl
    have h1 : (j + 1).repr.length ≤ 64 := nat_repr_length_le (by decide) (by
      have : (Int.negSucc j).natAbs = j + 1 := rfl
      rw [this] at h
      exact Nat.lt_trans h (by decide))
    rw [digs_str, strLen]
    unfold digs
    rw [List.length_map, e, String.toList_append, List.length_append]
    rw [← String.length_toList] at h1
    have : "-".toList.length = 1 := rfl
    omega
theorem se_fstr (ih : SE W Φ k n) {pre : List Nat} {c : CE} (h : chk W.nm (m + 1) env.kindOf (.fstr pre c) x = true) (a : At W Φ k A env fs ρ L σ s) : Snd W Φ.q fs A (eval x env) (ev Φ (n + 1) (.fstr pre c) ρ σ) (RelV Φ.q) L s := by
  intro r Q E hr P
  simp only [chk] at h
  split at h
  · rename_i y _ _ v cc fp jp
    simp only [Bool.and_eq_true, beq_iff_eq, decide_eq_true_eq] at h
    obtain ⟨⟨⟨rfl, rfl⟩, hpre⟩, hc⟩ := h
    unfold ev at hr
    refine wpAny_JoinedStr ?_
    show wpAny _ _ (eval (.Constant (.str _) _ _) env) _ _ _
    refine wpAny_Constant_str ⟨_, _, rfl, ?_, ?_⟩
    · rw [strAppend0]
      rw [strLen, sizeLine_eq]; omega
    · show wpAny _ _ (eval (.FormattedValue v (-1) none fp) env) _ _ _
      have a' : At W Φ k A env fs ρ L σ { s with toks := s.toks + 1 } := ⟨a.ar, a.hq, a.env, a.st, a.code_⟩
      have P' : Post W Φ.q fs (RelV Φ.q) L { s with toks := s.toks + 1 } r Q E := P.next (tk := s.toks + 1) a.st (.refl _ _ _)
      refine wpAny_FormattedValue_plain (bnd_ok hr (ih.e hc a') P' fun p σ₁ v₁ L₁ h₁ tk hf st af rel P₁ => ?_)
      split at hf
      · rename_i i
        split at hf
        · rename_i hz
          cases hf
          obtain ⟨t, rfl⟩ := rel
          refine wpAny_formatField_int (log_small hz.1) ⟨_, _, rfl, ?_, ?_, ?_⟩
          · rw [strAppend0, digs_str, strAppend, strLen, List.length_append, sizeLine_eq]
            have := digs_len hz.1
            omega
          · rw [strAppend0, digs_str, strAppend, strLen, List.length_append, sizeLine_eq]
            have := digs_len hz.1
            omega
          · rw [strAppend0, digs_str, strAppend]
            exact P₁ _ L₁ h₁ _ st (.refl _ _ _) ⟨_, rfl⟩
        · cases hf
      · cases hf
  · cases h
theorem se_fstrs (ih : SE W Φ k n) {post : List Nat} {c : CE} (h : chk W.nm (m + 1) env.kindOf (.fstrs c post) x = true) (a : At W Φ k A env fs ρ L σ s) : Snd W Φ.q fs A (eval x env) (ev Φ (n + 1) (.fstrs c post) ρ σ) (RelV Φ.q) L s := by
  intro r Q E hr P
  simp only [chk] at h
  split at h
  · rename_i v cc fp y ck cpos jp
    simp only [Bool.and_eq_true, beq_iff_eq, decide_eq_true_eq] at h
    obtain ⟨⟨⟨rfl, rfl⟩, hpost⟩, hc⟩ := h
    unfold ev at hr
    refine wpAny_JoinedStr ?_
    show wpAny _ _ (eval (.FormattedValue v (-1) none fp) env) _ _ _
    refine wpAny_FormattedValue_plain (bnd_ok hr (ih.e hc a) P fun p σ₁ v₁ L₁ h₁ tk hf st af rel P₁ => ?_)
    split at hf
    · rename_i l
      split at hf
      · rename_i hz
        cases hf
        obtain ⟨t, rfl⟩ := rel
        unfold SZ at hz
        have h1 : (⟨l.toArray⟩ : Str).length ≤ sizeLine := by rw [strLen, sizeLine_eq]; omega
        have fin : ∀ t' tk', ∃ y t, Value.str ⟨l.toArray⟩ t' = .str y t ∧ (Str.empty ++ y).length ≤ sizeLine ∧ Joins (model W.prog W.w) A E (evalEach [.Constant (.str ⟨post.toArray⟩) ck cpos] env) (Str.empty ++ y) (fun out s₁ => out.length ≤ sizeLine ∧ Q (.str out s₁.toks) { s₁ with toks := s₁.toks + 1 }) { s with heap := h₁, toks := tk' } := fun t' tk' => by
          refine ⟨_, _, rfl, by rw [strAppend0]; exact h1, ?_⟩
          show wpAny _ _ (eval (.Constant (.str _) ck cpos) env) _ _ _
          refine wpAny_Constant_str ⟨_, _, rfl, ?_, ?_, ?_⟩
          · rw [strAppend0, strAppend, strLen, List.length_append, sizeLine_eq]; omega
          · rw [strAppend0, strAppend, strLen, List.length_append, sizeLine_eq]; omega
          · rw [strAppend0, strAppend]
            exact P₁ _ L₁ h₁ _ st (.refl _ _ _) ⟨_, rfl⟩
        exact wpAny_formatField_str (s := { s with heap := h₁, toks := tk }) (fin t tk) (fin tk (tk + 1)) h1
      · cases hf
    · cases hf
  · cases h
end
end Mine
end
/-! M9: names bound, exceptions noted, iterators -/
section
set_option autoImplicit false
set_option linter.unusedVariables false
set_option linter.unusedSimpArgs false
namespace Mine
open PySem PySem.W PyProof.Rows

/-- a step that turns a frame's places alone -/
structure Chg (fa : List Addr) (h h' : Heap) : Prop where
  keep : ∀ b o, b ∉ fa → h.get? b = some o → h'.get? b = some o
  vals : ∀ b o, h.get? b = some o → (∃ x n, o.data = .seq x n) ∨ (∃ n t u w, o = rngObj n t u w) → h'.get? b = some o
  dict : ∀ b o es n, h.get? b = some o → o.data = .dict es n → ∃ o' es' n', h'.get? b = some o' ∧ o'.data = .dict es' n'

section
variable {fa fb : List Addr} {h h₁ h' : Heap} {L : Lo} {W : Wd} {fs : List Env} {σ : Store} {env : Env} {ρ : Loc}
theorem Chg.refl : Chg fa h h := ⟨fun _ _ _ e => e, fun _ _ e _ => e, fun b o es n e d => ⟨o, es, n, e, d⟩⟩
theorem Chg.ka (k : KA h h') : Chg fa h h' := ⟨fun b o _ e => k b o e, fun b o e _ => k b o e, fun b o es n e d => ⟨o, es, n, k b o e, d⟩⟩
theorem Chg.trans (x : Chg fa h h₁) (y : Chg fa h₁ h') : Chg fa h h' :=
  ⟨fun b o hb e => y.keep b o hb (x.keep b o hb e), fun b o e z => y.vals b o (x.vals b o e z) z, fun b o es n e d => by
    obtain ⟨o₁, es₁, n₁, e₁, d₁⟩ := x.dict b o es n e d
    exact y.dict b o₁ es₁ n₁ e₁ d₁⟩
theorem Chg.mono (x : Chg fa h h') (m : ∀ b ∈ fa, b ∈ fb) : Chg fb h h' := ⟨fun b o hb e => x.keep b o (fun z => hb (m b z)) e, x.vals, x.dict⟩
theorem Chg.rel (x : Chg fa h h') {v : Value} {p : PV} (r : RelV false L h v p) : RelV false L h' v p :=
  RelV.move (fun a q => .inl q) (fun _ _ e => e) (fun b o ho hk _ => fun o' ho' => by rw [ho] at ho'; cases ho'; exact ⟨o.slots, x.vals b o ho hk, fun _ => rfl⟩) (fun z => by cases z) r
theorem Chg.rels (x : Chg fa h h') {v : List Value} {p : List PV} (r : RelVs false L h v p) : RelVs false L h' v p :=
  RelVs.move (fun a q => .inl q) (fun _ _ e => e) (fun b o ho hk _ => fun o' ho' => by rw [ho] at ho'; cases ho'; exact ⟨o.slots, x.vals b o ho hk, fun _ => rfl⟩) (fun z => by cases z) r
theorem Chg.aft (x : Chg fa h h') (L : Lo) : Aft fa L h L h' := ⟨⟨[], L.append_nil.symm, fun _ q => by simp [ownT] at q⟩, fun b _ hb => .of_some fun o e => x.keep b o hb e⟩
theorem FrOk.chg {b0 : Heap} (x : FrOk b0 L h fs) (c : Chg fa h h') : FrOk b0 L h' fs := by
  have := x.keep (T := []) (h' := h') (fun _ q => by simp [ownT] at q) fun F o e ⟨es, n, d⟩ _ => by
    obtain ⟨o', es', n', e', d'⟩ := c.dict F o es n e d
    exact ⟨o', e', es', n', d'⟩
  rwa [Lo.append_nil] at this
theorem Lay.chg (x : Lay W false L σ h) (c : Chg fa h h') (hX : ∀ b ∈ fa, b ∉ own L) : Lay W false L σ h' := by
  have kk : ∀ b ∈ own L, ∀ o, h.get? b = some o → h'.get? b = some o := fun b hb o e => c.keep b o (fun z => hX b z hb) e
  refine ⟨x.len, x.apart, fun i p o e e' => (x.objs i p o e e').keep c.rel c.rels (kk _ (mem_own e).1) (kk _ (mem_own e).2), fun a ha => ?_⟩
  obtain ⟨⟨o, e⟩, z⟩ := x.hidden a ha
  exact ⟨⟨o, kk a (List.mem_append_left _ ha) o e⟩, z⟩
theorem St.chg (x : St W false fs L σ h) (c : Chg fa h h') (hX : ∀ b ∈ fa, b ∉ own L ∧ W.b0.get? b = none) : St W false fs L σ h' :=
  ⟨fun b o e => c.keep b o (fun z => by rw [(hX b z).2] at e; cases e) (x.base b o e), x.offb, x.lay.chg c fun b hb => (hX b hb).1, x.fr.chg c⟩
theorem EnvRel.chg (x : EnvRel W false env ρ L h) (c : Chg fa h h') (hX : ∀ b ∈ fa, b ∉ faOf env) : EnvRel W false env ρ L h' where
  kind := x.kind
  globals := x.globals
  builtins := x.builtins
  ns := let ⟨m, hm⟩ := x.ns; ⟨m, (Slt.of_some fun o e => c.keep _ o (fun z => hX _ z (List.mem_cons_self ..)) e : Slt h h' env.locals).ns hm⟩
  names := fun y pv e => let ⟨v, a, b⟩ := x.names y pv e; ⟨v, a.keep fun b hb => .of_some fun o e => c.keep b o (fun z => hX b z hb) e, c.rel b⟩
  cells := fun y cc e => let ⟨v, hv⟩ := x.cells y cc e; ⟨v, (Slt.of_some fun o e' => c.keep _ o (fun z => hX _ z (cell_mem e)) e' : Slt h h' cc).cell hv⟩
  apart := x.apart
  off := x.off
  low := fun b hb => let ⟨o, ho, z⟩ := x.low b hb; ⟨o, c.keep b o (fun z => hX b z hb) ho, z⟩
  fresh := x.fresh
  have_ := x.have_
end

theorem lk_setL (ρ : Loc) (x y : Nat) (v : PV) : lk (setL ρ x v) y = if y = x then some v else lk ρ y := by
  induction ρ with
  | nil =>
    simp only [setL, lk]
    by_cases e : x = y
    · subst e; simp
    · rw [if_neg e, if_neg (Ne.symm e)]
  | cons p r ih =>
    obtain ⟨z, u⟩ := p
    by_cases e : z = x
    · subst e
      simp only [setL, if_true, lk]
      by_cases e' : z = y
      · subst e'; simp
      · rw [if_neg e', if_neg e', if_neg (Ne.symm e')]
    · simp only [setL, if_neg e, lk, ih]
      by_cases e' : z = y
      · subst e'
        rw [if_pos rfl, if_pos rfl, if_neg e]
      · rw [if_neg e', if_neg e']

section
variable {W : Wd} {env : Env} {ρ : Loc} {L : Lo} {M : Model} {A : Around} {s : Shared} {E : Value → Shared → Prop}
theorem isCell_ne {h : Heap} {c l : Addr} {v : Option Value} {m : Str → Option Value} (hc : h.IsCell c v) (hl : h.Ns l m) : c ≠ l := by
  rintro rfl
  obtain ⟨o, ho, hd⟩ := hc
  obtain ⟨o', es, ep, ho', hd', _⟩ := hl
  rw [ho] at ho'; cases ho'
  rw [hd] at hd'; cases hd'
theorem sameBut_ka {a : Addr} {h h' : Heap} (k : Heap.SameBut a h h') : ∀ b o, b ≠ a → h.get? b = some o → h'.get? b = some o := fun b o hb e => (k.2 b hb).trans e
/-- a name is bound -/
theorem store_ok (wok : WOk W) {fa : List Addr} {x : Nat} {v : Value} {pv : PV} {Q : Unit → Shared → Prop} (e : EnvRel W false env ρ L s.heap) (r : RelV false L s.heap v pv)
    (hk : (env.kindOf (W.nm x) = some .local ∧ env.locals ∈ fa) ∨ (env.kindOf (W.nm x) = some .cell ∧ ∃ c, env.cells.lookup (W.nm x) = some c ∧ c ∈ fa))
    (h : ∀ h' tk, Chg fa s.heap h' → EnvRel W false env (setL ρ x pv) L h' → Q () { s with heap := h', toks := tk }) : wpAny M A (storeName env (W.nm x) v) Q E s := by
  obtain ⟨m, hm⟩ := e.ns
  rcases hk with ⟨hk, hfa⟩ | ⟨hk, c, hc, hfa⟩
  · refine wpAny_storeName_local hk hm (fun h' hm' hs => ?_) (by rw [e.kind]; rfl)
    have c1 : Chg fa s.heap h' := by
      obtain ⟨o', es', ep', ho', hd', _⟩ := hm'
      have hm₀ := hm
      obtain ⟨o, es, ep, ho, hd, _⟩ := hm₀
      refine ⟨fun b o hb e' => sameBut_ka hs b o (fun z => hb (z ▸ hfa)) e', fun b ob e' z => sameBut_ka hs b ob (fun q => ?_) e', fun b ob es1 n1 e1 d1 => ?_⟩
      · subst q
        rw [ho] at e'; cases e'
        rcases z with ⟨_, _, z⟩ | ⟨_, _, _, _, rfl⟩
        · rw [hd] at z; cases z
        · cases hd
      · by_cases q : b = env.locals
        · subst q; exact ⟨o', es', ep', ho', hd'⟩
        · exact ⟨ob, es1, n1, sameBut_ka hs b ob q e1, d1⟩
    refine h h' _ c1 ⟨e.kind, e.globals, e.builtins, ⟨_, hm'⟩, fun y py ey => ?_, fun y cc ec => ?_, e.apart, e.off, fun b hb => ?_, e.fresh, e.have_⟩
    · rw [lk_setL] at ey
      split at ey
      · rename_i q; subst q
        cases ey
        exact ⟨v, .inl ⟨hk, _, hm', by simp⟩, c1.rel r⟩
      · rename_i q
        obtain ⟨v', hn, rv⟩ := e.names y py ey
        refine ⟨v', ?_, c1.rel rv⟩
        rcases hn with ⟨hk', m', hn', hv'⟩ | ⟨hk', c', hc', hv'⟩
        · refine .inl ⟨hk', _, hm', ?_⟩
          have : ¬ W.nm y = W.nm x := fun z => q (wok.inj _ _ z)
          rw [if_neg this]
          obtain ⟨o1, es1, ep1, ho1, hd1, hk1, hf1⟩ := hn'
          obtain ⟨o2, es2, ep2, ho2, hd2, hk2, hf2⟩ := hm
          rw [ho1] at ho2; cases ho2
          rw [hd1] at hd2; cases hd2
          rw [← hf2, hf1]; exact hv'
        · exact .inr ⟨hk', c', hc', (Slt.of_some fun o e' => sameBut_ka hs c' o (isCell_ne hv' hm) e' : Slt s.heap h' c').cell hv'⟩
    · obtain ⟨v', hv'⟩ := e.cells y cc ec
      exact ⟨v', (Slt.of_some fun o e' => sameBut_ka hs cc o (isCell_ne hv' hm) e' : Slt s.heap h' cc).cell hv'⟩
    · by_cases q : b = env.locals
      · subst q
        obtain ⟨o', es', ep', ho', hd', _⟩ := hm'
        exact ⟨o', ho', .inl ⟨_, _, hd'⟩⟩
      · obtain ⟨o, ho, z⟩ := e.low b hb
        exact ⟨o, sameBut_ka hs b o q ho, z⟩
  · obtain ⟨v₀, hv₀⟩ := e.cells _ c hc
    refine wpAny_storeName_cell e.kind hk hc hv₀ fun h' hv hs => ?_
    have c1 : Chg fa s.heap h' := by
      obtain ⟨o, ho, hd⟩ := id hv₀
      refine ⟨fun b o hb e' => sameBut_ka hs b o (fun z => hb (z ▸ hfa)) e', fun b ob e' z => sameBut_ka hs b ob (fun q => ?_) e', fun b ob es1 n1 e1 d1 => ⟨ob, es1, n1, sameBut_ka hs b ob (fun q => ?_) e1, d1⟩⟩
      · subst q
        rw [ho] at e'; cases e'
        rcases z with ⟨_, _, z⟩ | ⟨_, _, _, _, rfl⟩
        · rw [hd] at z; cases z
        · cases hd
      · subst q
        rw [ho] at e1; cases e1
        rw [hd] at d1; cases d1
    have nl : env.locals ≠ c := (isCell_ne hv₀ hm).symm
    refine h h' _ c1 ⟨e.kind, e.globals, e.builtins, ⟨m, (Slt.of_some fun o e' => sameBut_ka hs _ o nl e' : Slt s.heap h' env.locals).ns hm⟩, fun y py ey => ?_, fun y cc ec => ?_, e.apart, e.off, fun b hb => ?_, e.fresh, e.have_⟩
    · rw [lk_setL] at ey
      split at ey
      · rename_i q; subst q
        cases ey
        exact ⟨v, .inr ⟨.inl hk, c, hc, hv⟩, c1.rel r⟩
      · rename_i q
        obtain ⟨v', hn, rv⟩ := e.names y py ey
        refine ⟨v', ?_, c1.rel rv⟩
        rcases hn with ⟨hk', m', hn', hv'⟩ | ⟨hk', c', hc', hv'⟩
        · exact .inl ⟨hk', m', (Slt.of_some fun o e' => sameBut_ka hs _ o nl e' : Slt s.heap h' env.locals).ns hn', hv'⟩
        · refine .inr ⟨hk', c', hc', (Slt.of_some fun o e' => sameBut_ka hs c' o (fun z => q ?_) e' : Slt s.heap h' c').cell hv'⟩
          subst z
          exact wok.inj _ _ (e.apart _ _ _ hc' hc)
    · by_cases q : cc = c
      · subst q; exact ⟨_, hv⟩
      · obtain ⟨v', hv'⟩ := e.cells y cc ec
        exact ⟨v', (Slt.of_some fun o e' => sameBut_ka hs cc o q e' : Slt s.heap h' cc).cell hv'⟩
    · by_cases q : b = c
      · subst q
        obtain ⟨o, ho, hd⟩ := hv
        exact ⟨o, ho, .inr ⟨_, hd⟩⟩
      · obtain ⟨o, ho, z⟩ := e.low b hb
        exact ⟨o, sameBut_ka hs b o q ho, z⟩
end
end Mine
end
/-! M10: targets, exceptions noted, iterators -/
section
set_option autoImplicit false
set_option linter.unusedVariables false
set_option linter.unusedSimpArgs false
namespace Mine
open PySem PySem.W PyProof.Rows

section
variable {W : Wd} {env : Env} {ρ ρ' : Loc} {L : Lo} {A : Around} {s : Shared} {E : Value → Shared → Prop}
/-- names bound one behind the other -/
theorem stores_ok (wok : WOk W) {fa : List Addr} {f : Str → Bool} (hf : ∀ id, f id = true → (env.kindOf id = some .local ∧ env.locals ∈ fa) ∨ (env.kindOf id = some .cell ∧ ∃ c, env.cells.lookup id = some c ∧ c ∈ fa)) :
    ∀ {xs : List Nat} {es : List Expr} {vs : List Value} {ps : List PV} {ρ ρ' : Loc} {s : Shared} {Q : Unit → Shared → Prop}
    (hc : chkL (fun c e => match c, e with
      | .loc x, .Name id _ => id == W.nm x && f id
      | _, _ => false) (xs.map .loc) es = true) (he : EnvRel W false env ρ L s.heap) (r : RelVs false L s.heap vs ps) (hs : setLs ρ xs ps = some ρ')
    (h : ∀ h' tk, Chg fa s.heap h' → EnvRel W false env ρ' L h' → Q () { s with heap := h', toks := tk }),
    wpAny (model W.prog W.w) A (assignInOrder ((assignEach es env).map (·.2)) vs) Q E s
  | [], [], [], [], ρ, ρ', s, Q, _, he, _, hs, h => by
    cases hs
    exact wpAny_assignInOrder_none (h s.heap s.toks .refl he)
  | x :: xs, e :: es, v :: vs, p :: ps, ρ, ρ', s, Q, hc, he, r, hs, h => by
    simp only [List.map_cons, chkL, Bool.and_eq_true] at hc
    obtain ⟨h1, h2⟩ := hc
    simp only [RelVs] at r
    split at h1
    · rename_i x' id pos e1
      cases e1
      simp only [Bool.and_eq_true, beq_iff_eq] at h1
      obtain ⟨rfl, hk⟩ := h1
      show wpAny _ _ (assignInOrder (assign (.Name (W.nm x) pos) env :: (assignEach es env).map (·.2)) (v :: vs)) _ _ _
      refine wpAny_assignInOrder_more (wpAny_assign_Name (store_ok wok he r.1 (hf _ hk) fun h' tk c e' => ?_))
      exact stores_ok wok hf h2 e' (c.rels r.2) hs fun h'' tk' c' e'' => h h'' tk' (c.trans c') e''
    · cases h1
  | [], _ :: _, _, _, _, _, _, _, hc, _, _, _, _ => by simp [chkL] at hc
  | _ :: _, [], _, _, _, _, _, _, hc, _, _, _, _ => by simp [chkL] at hc
  | [], [], _ :: _, [], _, _, _, _, _, _, r, _, _ => by simp [RelVs] at r
  | [], [], [], _ :: _, _, _, _, _, _, _, r, _, _ => by simp [RelVs] at r
  | [], [], _ :: _, _ :: _, _, _, _, _, _, _, _, hs, _ => by cases hs
  | _ :: _, _ :: _, [], [], _, _, _, _, _, _, _, hs, _ => by cases hs
  | _ :: _, _ :: _, [], _ :: _, _, _, _, _, _, _, r, _, _ => by simp [RelVs] at r
  | _ :: _, _ :: _, _ :: _, [], _, _, _, _, _, _, r, _, _ => by simp [RelVs] at r

theorem names_star {nm : Nat → Str} {f : Str → Bool} {env : Env} : ∀ {xs : List Nat} {es : List Expr}, chkL (fun c e => match c, e with
      | .loc x, .Name id _ => id == nm x && f id
      | _, _ => false) (xs.map .loc) es = true → (assignEach es env).length = xs.length ∧ (assignEach es env).findIdx? (·.1) = none
  | [], [], _ => ⟨rfl, rfl⟩
  | x :: xs, e :: es, h => by
    simp only [List.map_cons, chkL, Bool.and_eq_true] at h
    have h1 := h.1
    split at h1
    · obtain ⟨a, b⟩ := names_star (env := env) h.2
      refine ⟨?_, ?_⟩
      · show (assignEach es env).length + 1 = _
        rw [a]; rfl
      · show List.findIdx? (·.1) ((false, _) :: assignEach es env) = none
        rw [List.findIdx?_cons, b]
        rfl
    · cases h1
  | [], _ :: _, h => by simp [chkL] at h
  | _ :: _, [], h => by simp [chkL] at h
theorem setLs_len : ∀ {xs : List Nat} {ρ ρ' : Loc} {l : List PV}, setLs ρ xs l = some ρ' → xs.length = l.length
  | [], _, _, [], _ => rfl
  | x :: xs, ρ, ρ', v :: vs, h => by
    simp only [setLs] at h
    simp [setLs_len h]
  | [], _, _, _ :: _, h => by cases h
  | _ :: _, _, _, [], h => by cases h
/-- a tuple is taken apart -/
theorem unpack_ok (wok : WOk W) {fa : List Addr} {f : Str → Bool} {xs : List Nat} {es : List Expr} {x1 : _} {pos : Pos} {v : Value} {l : List PV} {Q : Unit → Shared → Prop} (hh : A.handled = none)
    (hf : ∀ id, f id = true → (env.kindOf id = some .local ∧ env.locals ∈ fa) ∨ (env.kindOf id = some .cell ∧ ∃ c, env.cells.lookup id = some c ∧ c ∈ fa))
    (hc : chkL (fun c e => match c, e with
      | .loc x, .Name id _ => id == W.nm x && f id
      | _, _ => false) (xs.map .loc) es = true) (he : EnvRel W false env ρ L s.heap) (r : RelV false L s.heap v (.tup l)) (hs : setLs ρ xs l = some ρ')
    (h : ∀ h' tk, Chg fa s.heap h' → EnvRel W false env ρ' L h' → Q () { s with heap := h', toks := tk }) :
    wpAny (model W.prog W.w) A (assign (.Tuple es x1 pos) env v) Q E s := by
  simp only [RelV] at r
  obtain ⟨a, vs, rfl, ha, ht, hr⟩ := r
  obtain ⟨n1, n2⟩ := names_star (env := env) hc
  have hl := setLs_len hs
  have hl2 := hr.length
  refine wpAny_assign_Tuple hh ht (by rw [n1, hl, ← hl2, Array.length_toList]) n2 fun h' hx => ?_
  have k : KA s.heap h' := fun b o e => hx b o (fun z => by rw [z, fresh_none] at e; cases e) e
  exact stores_ok wok hf hc (he.ka k) (k.rels hr) hs fun h'' tk c e => h h'' tk ((Chg.ka k).trans c) e
/-- a loop's target takes its item -/
theorem take_ok (wok : WOk W) {xs : List Nat} {tt : Bool} {tg : Expr} {v : Value} {pv : PV} {Q : Unit → Shared → Prop} (hh : A.handled = none) (hc : chkT W.nm env.kindOf xs tt tg = true) (he : EnvRel W false env ρ L s.heap)
    (r : RelV false L s.heap v pv) (hs : takeV ρ xs tt pv = some ρ') (h : ∀ h' tk, Chg [env.locals] s.heap h' → EnvRel W false env ρ' L h' → Q () { s with heap := h', toks := tk }) :
    wpAny (model W.prog W.w) A (assign tg env v) Q E s := by
  unfold chkT at hc
  split at hc
  · rename_i x id pos
    simp only [Bool.and_eq_true, beq_iff_eq] at hc
    obtain ⟨rfl, hk⟩ := hc
    simp only [takeV, setLs, Option.some.injEq] at hs
    subst hs
    exact wpAny_assign_Name (store_ok wok he r (.inl ⟨hk, List.mem_singleton.mpr rfl⟩) h)
  · rename_i es _ pos _
    cases pv <;> simp only [takeV] at hs <;> try (cases hs; done)
    rename_i l
    exact unpack_ok wok (f := fun id => env.kindOf id == some .local) hh (fun id q => .inl ⟨beq_iff_eq.mp q, List.mem_singleton.mpr rfl⟩) hc he r hs h
  · cases hc
end

section
variable {W : Wd} {q : Bool} {fs : List Env} {L : Lo} {σ : Store} {h0 h h' : Heap} {e : Addr} {x : PX} {m : Bool}
theorem ExcAt.ne_of_val (X : ExcAt W h0 L h e x m) {b : Addr} {o : Obj} (hb : h.get? b = some o) (hv : (∃ x n, o.data = .seq x n) ∨ (∃ n t u w, o = rngObj n t u w) ∨ (∃ es n, o.data = .dict es n) ∨ (∃ v, o.data = .cell v)) :
    b ≠ e ∧ ∀ oe vs, h.get? e = some oe → oe.data = .fields vs → vs[1]? ≠ some (.ref b) := by
  obtain ⟨x1, x2, x3, vs, d, ho, hsz, htb, _⟩ := X
  refine ⟨fun z => ?_, fun oe vs' q1 q2 q3 => ?_⟩
  · rw [z, ho] at hb; cases hb
    rcases hv with ⟨_, _, z⟩ | ⟨_, _, _, _, z⟩ | ⟨_, _, z⟩ | ⟨_, z⟩ <;> cases z
  · rw [ho] at q1; cases q1
    cases q2
    rcases htb with ⟨_, q⟩ | ⟨T, ts, oT, q, t1, t2, t3, t4, t5, t6, t7, t8⟩
    · rw [q3] at q; cases q
    · rw [q3] at q
      obtain rfl : b = T := by injection q with q; injection q
      rw [t5] at hb; cases hb
      rcases hv with ⟨_, _, z⟩ | ⟨_, _, _, _, rfl⟩ | ⟨_, _, z⟩ | ⟨_, z⟩
      · rw [t7] at z; cases z
      · have := congrArg (fun v : Value => v == .type "range") t6
        simp [rngObj] at this
      · rw [t7] at z; cases z
      · rw [t7] at z; cases z
theorem ExcAt.ne_of_own (X : ExcAt W h0 L h e x m) {b : Addr} (hb : b ∈ own L) : b ≠ e ∧ ∀ oe vs, h.get? e = some oe → oe.data = .fields vs → vs[1]? ≠ some (.ref b) := by
  obtain ⟨x1, x2, x3, vs, d, ho, hsz, htb, _⟩ := X
  refine ⟨fun z => x3 (z ▸ hb), fun oe vs' q1 q2 q3 => ?_⟩
  rw [ho] at q1; cases q1
  cases q2
  rcases htb with ⟨_, q⟩ | ⟨T, ts, oT, q, t1, t2, t3, t4, t5, t6, t7, t8⟩
  · rw [q3] at q; cases q
  · rw [q3] at q
    obtain rfl : b = T := by injection q with q; injection q
    exact t4 hb
theorem ExcAt.ne_of_old (X : ExcAt W h0 L h e x m) {b : Addr} {o : Obj} (hb : h0.get? b = some o ∨ W.b0.get? b = some o) : b ≠ e ∧ ∀ oe vs, h.get? e = some oe → oe.data = .fields vs → vs[1]? ≠ some (.ref b) := by
  obtain ⟨x1, x2, x3, vs, d, ho, hsz, htb, _⟩ := X
  refine ⟨fun z => ?_, fun oe vs' q1 q2 q3 => ?_⟩
  · rcases hb with hb | hb
    · rw [z, x1] at hb; cases hb
    · rw [z, x2] at hb; cases hb
  · rw [ho] at q1; cases q1
    cases q2
    rcases htb with ⟨_, q⟩ | ⟨T, ts, oT, q, t1, t2, t3, t4, t5, t6, t7, t8⟩
    · rw [q3] at q; cases q
    · rw [q3] at q
      obtain rfl : b = T := by injection q with q; injection q
      rcases hb with hb | hb
      · rw [t2] at hb; cases hb
      · rw [t3] at hb; cases hb
theorem ExcAt.weak (X : ExcAt W h0 L h e x true) : ExcAt W h0 L h e x false := by
  obtain ⟨x1, x2, x3, vs, d, ho, hsz, htb, r⟩ := X
  exact ⟨x1, x2, x3, vs, d, ho, hsz, htb.imp (fun z => by cases z.1) id, r⟩
/-- the noting of an exception keeps the state -/
theorem Nt.slt (n : Nt fs e h h') (X : ExcAt W h0 L h e x m) (fr : FrOk W.b0 L h fs) {b : Addr} (hb : b ≠ e ∧ ∀ oe vs, h.get? e = some oe → oe.data = .fields vs → vs[1]? ≠ some (.ref b)) : Slt h h' b := by
  intro o ho
  obtain ⟨sl, e1⟩ := n.frame b o ho hb.1 hb.2
  by_cases hf : b ∈ fs.filterMap (·.frame)
  · obtain ⟨⟨o', ho', es, nn, hd⟩, _⟩ := fr.notFields hf
    rw [ho] at ho'; cases ho'
    exact ⟨sl, e1, fun z => absurd hd (z es nn)⟩
  · exact ⟨o.slots, n.keep b o ho hb.1 hb.2 hf, fun _ => rfl⟩
theorem St.nt (st : St W false fs L σ h) (X : ExcAt W h0 L h e x m) (n : Nt fs e h h') : St W false fs L σ h' := by
  have own_ok : ∀ b ∈ own L, ∀ o, h.get? b = some o → h'.get? b = some o := fun b hb o ho => by
    obtain ⟨z1, z2⟩ := X.ne_of_own hb
    exact n.keep b o ho z1 z2 fun hf => (st.fr.notFields hf).2.2 hb
  have rel : ∀ {v : Value} {p : PV}, RelV false L h v p → RelV false L h' v p := fun r => RelV.move (fun a q => .inl q) (fun _ _ e => e) (fun b o ho hv _ => n.slt X st.fr (X.ne_of_val ho (hv.imp id .inl))) (fun z => by cases z) r
  have rels : ∀ {v : List Value} {p : List PV}, RelVs false L h v p → RelVs false L h' v p := fun r => RelVs.move (fun a q => .inl q) (fun _ _ e => e) (fun b o ho hv _ => n.slt X st.fr (X.ne_of_val ho (hv.imp id .inl))) (fun z => by cases z) r
  refine ⟨fun b o ho => ?_, st.offb, ⟨st.lay.len, st.lay.apart, fun i p o e1 e2 => (st.lay.objs i p o e1 e2).keep rel rels (own_ok _ (mem_own e1).1) (own_ok _ (mem_own e1).2), fun a ha => ?_⟩, ?_⟩
  · obtain ⟨z1, z2⟩ := X.ne_of_old (.inr ho)
    exact n.keep b o (st.base b o ho) z1 z2 fun hf => by rw [(st.fr.notFields hf).2.1] at ho; cases ho
  · obtain ⟨⟨o, ho⟩, z⟩ := st.lay.hidden a ha
    exact ⟨⟨o, own_ok a (List.mem_append_left _ ha) o ho⟩, z⟩
  · have := st.fr.keep (T := []) (h' := h') (fun _ q => by simp [ownT] at q) fun F o ho ⟨es, nn, hd⟩ _ => by
      obtain ⟨sl, e1, _⟩ := n.slt X st.fr (X.ne_of_val ho (.inr (.inr (.inl ⟨es, nn, hd⟩)))) o ho
      exact ⟨_, e1, es, nn, hd⟩
    rwa [Lo.append_nil] at this
theorem Nt.ns (n : Nt fs e h h') (X : ExcAt W h0 L h e x m) (fr : FrOk W.b0 L h fs) {l : Addr} {mm : Str → Option Value} (hm : h.Ns l mm) : h'.Ns l mm := by
  obtain ⟨o, es, ep, ho, hd, r⟩ := id hm
  exact (n.slt X fr (X.ne_of_val ho (.inr (.inr (.inl ⟨es, ep, hd⟩))))).ns hm
theorem EnvRel.nt {env : Env} {ρ : Loc} (x0 : EnvRel W false env ρ L h) (X : ExcAt W h0 L h e x m) (n : Nt fs e h h') (fr : FrOk W.b0 L h fs) : EnvRel W false env ρ L h' where
  kind := x0.kind
  globals := x0.globals
  builtins := x0.builtins
  ns := let ⟨m, hm⟩ := x0.ns; ⟨m, n.ns X fr hm⟩
  names := fun y pv e => by
    obtain ⟨v, a, b⟩ := x0.names y pv e
    refine ⟨v, ?_, RelV.move (fun a q => .inl q) (fun _ _ e => e) (fun b o ho hv _ => n.slt X fr (X.ne_of_val ho (hv.imp id .inl))) (fun z => by cases z) b⟩
    rcases a with ⟨hk, m, hn, hm⟩ | ⟨hk, c, hc, hv⟩
    · exact .inl ⟨hk, m, n.ns X fr hn, hm⟩
    · obtain ⟨o, ho, hd⟩ := id hv
      exact .inr ⟨hk, c, hc, (n.slt X fr (X.ne_of_val ho (.inr (.inr (.inr ⟨_, hd⟩))))).cell hv⟩
  cells := fun y c e => by
    obtain ⟨v, hv⟩ := x0.cells y c e
    obtain ⟨o, ho, hd⟩ := id hv
    exact ⟨v, (n.slt X fr (X.ne_of_val ho (.inr (.inr (.inr ⟨_, hd⟩))))).cell hv⟩
  apart := x0.apart
  off := x0.off
  low := fun b hb => by
    obtain ⟨o, ho, z⟩ := x0.low b hb
    obtain ⟨sl, e1, _⟩ := n.slt X fr (X.ne_of_val ho (.inr (.inr z))) o ho
    exact ⟨_, e1, z⟩
  fresh := x0.fresh
  have_ := x0.have_
theorem Aft.nt {fa : List Addr} {L0 : Lo} (af : Aft fa L0 h0 L h) (X : ExcAt W h0 L h e x m) (n : Nt fs e h h') (fr : FrOk W.b0 L h fs) : Aft fa L0 h0 L h' := by
  obtain ⟨p, k⟩ := af
  refine ⟨p, fun b hb hf o ho => ?_⟩
  obtain ⟨sl, e1, hs⟩ := k b hb hf o ho
  obtain ⟨sl', e2, hs'⟩ := n.slt X fr (X.ne_of_old (.inl ho)) _ e1
  exact ⟨sl', e2, fun z => (hs' z).trans (hs z)⟩
end
end Mine
end
/-! M11: iterators -/
section
set_option autoImplicit false
set_option linter.unusedVariables false
set_option linter.unusedSimpArgs false
namespace Mine
open PySem PySem.W PyProof.Rows

def ItAt (h : Heap) (I : Addr) (v : Value) (src : PV) (i : Nat) : Prop := match src with
  | .str l => ∃ t T, v = .str ⟨l.toArray⟩ t ∧ ((T = "str_ascii_iterator") ∨ T = "str_iterator") ∧ h.IsStrIter I T ⟨l.toArray⟩ t i
  | .tup _ => ∃ a, v = .ref a ∧ h.IsTupleIter I a i
  | .lst _ => ∃ a, v = .ref a ∧ h.IsListIter I a i
  | .ref _ => ∃ a, v = .ref a ∧ h.IsListIter I a i
  | .rng n => IsRangeIter h I i ((if 0 < n then n else 0) - i) 1
  | _ => False
theorem ItAt.obj {h : Heap} {I : Addr} {v : Value} {src : PV} {i : Nat} (x : ItAt h I v src i) : ∃ o vs T, h.get? I = some o ∧ o.data = .fields vs ∧ o.cls = .type T ∧ T ≠ "range" := by
  unfold ItAt at x
  split at x
  · obtain ⟨t, T, _, hT, o, ho, hc, hd⟩ := x
    refine ⟨o, _, T, ho, hd, hc, ?_⟩
    rcases hT with rfl | rfl <;> decide
  · obtain ⟨a, _, o, ho, hc, hd⟩ := x
    exact ⟨o, _, _, ho, hd, hc, by decide⟩
  · obtain ⟨a, _, o, ho, hc, hd⟩ := x
    exact ⟨o, _, _, ho, hd, hc, by decide⟩
  · obtain ⟨a, _, o, ho, hc, hd⟩ := x
    exact ⟨o, _, _, ho, hd, hc, by decide⟩
  · exact ⟨_, _, _, x, rfl, rfl, by decide⟩
  · exact x.elim
theorem ItAt.of {h h' : Heap} {I : Addr} {v : Value} {src : PV} {i : Nat} (x : ItAt h I v src i) (e : ∀ o, h.get? I = some o → h'.get? I = some o) : ItAt h' I v src i := by
  unfold ItAt at x ⊢
  split at x
  · obtain ⟨t, T, hv, hT, o, ho, hc, hd⟩ := x
    exact ⟨t, T, hv, hT, o, e o ho, hc, hd⟩
  · obtain ⟨a, hv, o, ho, hc, hd⟩ := x
    exact ⟨a, hv, o, e o ho, hc, hd⟩
  · obtain ⟨a, hv, o, ho, hc, hd⟩ := x
    exact ⟨a, hv, o, e o ho, hc, hd⟩
  · obtain ⟨a, hv, o, ho, hc, hd⟩ := x
    exact ⟨a, hv, o, e o ho, hc, hd⟩
  · exact e _ x
  · exact x.elim
theorem ItAt.slt {h h' : Heap} {I : Addr} {v : Value} {src : PV} {i : Nat} (x : ItAt h I v src i) (e : Slt h h' I) : ItAt h' I v src i :=
  x.of fun o ho => by
    obtain ⟨o', vs, T, ho', hd, _⟩ := x.obj
    rw [ho] at ho'; cases ho'
    exact e.exact ho fun es n z => by rw [hd] at z; cases z
theorem ItAt.chg {h h' : Heap} {I : Addr} {v : Value} {src : PV} {i : Nat} (x : ItAt h I v src i) (e : Heap.ExtBut I h h') : Chg [I] h h' := by
  obtain ⟨o', vs, T, ho', hd, hc, hT⟩ := x.obj
  refine ⟨fun b o hb ho => e b o (fun z => hb (List.mem_singleton.mpr z)) ho, fun b o ho z => e b o (fun q => ?_) ho, fun b o es n ho z => ⟨o, es, n, e b o (fun q => ?_) ho, z⟩⟩
  · subst q
    rw [ho] at ho'; cases ho'
    rcases z with ⟨_, _, z⟩ | ⟨_, _, _, _, rfl⟩
    · rw [hd] at z; cases z
    · simp [rngObj] at hc
      exact hT hc.symm
  · subst q
    rw [ho] at ho'; cases ho'
    rw [hd] at z; cases z

section
variable {W : Wd} {L : Lo} {σ : Store} {A : Around} {s : Shared} {E : Value → Shared → Prop} {v : Value} {src : PV} {tt : Bool} {prog : Program} {w : World}
theorem rangeSize_one (n : Int) : Builtin.Range.rangeSize 0 n 1 = if 0 < n then n else 0 := by
  unfold Builtin.Range.rangeSize
  rw [if_pos (by decide)]
  split
  · rw [Int.ediv_one]; omega
  · rfl
theorem iter_ok {o : Option PV} {Q : Value → Shared → Prop} (hr : itemAt σ tt src 0 = some o) (lay : Lay W false L σ s.heap) (r : RelV false L s.heap v src)
    (h : ∀ I h', s.heap.get? I = none → KA s.heap h' → ItAt h' I v src 0 → Q (.ref I) { s with heap := h' }) : wpAny (model prog w) A (pyIter v) Q E s := by
  have fr := fresh_none s.heap
  cases src <;> simp only [itemAt] at hr <;> try (cases hr; done)
  case str l =>
    obtain ⟨t, rfl⟩ := r
    cases ha : (⟨l.toArray⟩ : Str).cps.all (· < 128) with
    | true => exact wpAny_pyIter_ascii ha (h _ _ fr (KA.push _ _) ⟨t, _, rfl, .inl rfl, _, Heap.get?_push_size _ rfl, rfl, rfl⟩)
    | false => exact wpAny_pyIter_wide ha (h _ _ fr (KA.push _ _) ⟨t, _, rfl, .inr rfl, _, Heap.get?_push_size _ rfl, rfl, rfl⟩)
  case tup l =>
    simp only [RelV] at r
    obtain ⟨a, vs, rfl, _, ht, _⟩ := r
    exact wpAny_pyIter_tuple ht (h _ _ fr (KA.push _ _) ⟨a, rfl, _, Heap.get?_push_size _ rfl, rfl, rfl⟩)
  case lst l =>
    simp only [RelV] at r
    obtain ⟨a, vs, rfl, _, ht, _⟩ := r
    exact wpAny_pyIter_list ht (h _ _ fr (KA.push _ _) ⟨a, rfl, _, Heap.get?_push_size _ rfl, rfl, rfl⟩)
  case rng n =>
    simp only [RelV] at r
    obtain ⟨a, t, u, w', rfl, _, ho⟩ := r
    split at hr
    · cases hr
    rename_i hz
    rw [not_or] at hz
    have hn : n.natAbs ≤ SZ := Nat.le_of_not_lt hz.2
    have hrs := rangeSize_one n
    have hsm : Builtin.Range.small 0 n 1 = true := by
      unfold Builtin.Range.small Builtin.Range.rangeFitsLong
      rw [hrs]
      unfold SZ at hn
      simp only [Bool.and_eq_true, Bool.or_eq_true, decide_eq_true_eq, beq_iff_eq]
      refine ⟨⟨⟨⟨?_, ?_⟩, ?_⟩, ?_⟩, ?_⟩
      · decide
      · omega
      · decide
      · split <;> omega
      · by_cases z : 0 < n
        · right
          rw [if_pos (show (1 : Int) > 0 by decide)]
          simp only [Bool.and_eq_true, decide_eq_true_eq]
          constructor <;> omega
        · left; simp [z]
    refine wpAny_pyIter_range (a := 0) (b := n) (c := 1) ho hsm (h _ _ fr (KA.push _ _) ?_)
    rw [hrs]
    show IsRangeIter _ _ _ _ _
    exact (Heap.get?_push_size _ rfl).trans (by simp)
  case ref k =>
    simp only [RelV] at r
    obtain ⟨p, hp, rfl⟩ := r
    split at hr
    · rename_i l hk
      obtain ⟨_, vs, hl, _⟩ := lay.objs k p _ hp hk
      exact wpAny_pyIter_list hl.isList (h _ _ fr (KA.push _ _) ⟨p.a, rfl, _, Heap.get?_push_size _ rfl, rfl, rfl⟩)
    · cases hr
theorem self_ok {I : Addr} {i : Nat} {Q : Value → Shared → Prop} (x : ItAt s.heap I v src i) (h : Q (.ref I) s) : wpAny (model prog w) A (pyIter (.ref I)) Q E s := by
  unfold ItAt at x
  split at x
  · obtain ⟨t, T, hv, hT, hx⟩ := x
    rcases hT with rfl | rfl
    · exact wpAny_pyIter_striter_ascii hx h
    · exact wpAny_pyIter_striter_wide hx h
  · obtain ⟨a, hv, hx⟩ := x
    exact wpAny_pyIter_tupleiter hx h
  · obtain ⟨a, hv, hx⟩ := x
    exact wpAny_pyIter_listiter hx h
  · obtain ⟨a, hv, hx⟩ := x
    exact wpAny_pyIter_listiter hx h
  · exact wpAny_pyIter_rangeiter x h
  · exact x.elim
theorem next_ok {I : Addr} {i : Nat} {o : Option PV} {Q : Option Value → Shared → Prop} (hh : A.handled = none) (hr : itemAt σ tt src i = some o) (lay : Lay W false L σ s.heap) (r : RelV false L s.heap v src) (x : ItAt s.heap I v src i)
    (h0 : o = none → ∀ h', Heap.ExtBut I s.heap h' → Q none { s with heap := h' })
    (h1 : ∀ p, o = some p → ∀ y h' tk, Heap.SameBut I s.heap h' → ItAt h' I v src (i + 1) → RelV false L h' y p → Q (some y) { s with heap := h', toks := tk }) : wpAny (model prog w) A (pyNext (.ref I)) Q E s := by
  have rl : ∀ {y : Value} {p : PV} {h' : Heap}, Heap.SameBut I s.heap h' → RelV false L s.heap y p → RelV false L h' y p := fun hs ry => (x.chg hs.extBut).rel ry
  have lst : ∀ {a : Addr} {vs : Array Value} {l : List PV}, v = .ref a → s.heap.IsListIter I a i → s.heap.IsList a vs → RelVs false L s.heap vs.toList l → l[i]? = o →
      (∀ h', h'.IsListIter I a (i + 1) → ItAt h' I v src (i + 1)) → wpAny (model prog w) A (pyNext (.ref I)) Q E s := fun {a vs l} hv hx hl rel ho hi => by
    have hlen : vs.size = l.length := by simpa using rel.length
    cases o with
    | none =>
      have : vs[i]? = none := by
        rw [Array.getElem?_eq_none_iff, hlen]
        exact List.getElem?_eq_none_iff.mp ho
      exact wpAny_pyNext_list_end hh hx hl this (h0 rfl)
    | some p =>
      obtain ⟨y, hy, ry⟩ := rel.get ho
      exact wpAny_pyNext_list_item hx hl (by simpa using hy) fun h' hx' hs => h1 p rfl y h' s.toks hs (hi h' hx') (rl hs ry)
  cases src <;> simp only [itemAt] at hr <;> try (cases hr; done)
  case str l =>
    split at hr
    · cases hr
    simp only [Option.some.injEq] at hr
    simp only [ItAt] at x
    obtain ⟨t, T, rfl, hT, hx⟩ := x
    cases hl : l[i]? with
    | none =>
      rw [hl] at hr
      subst hr
      have : (⟨l.toArray⟩ : Str).cps[i]? = none := by simpa using hl
      rcases hT with rfl | rfl
      · exact wpAny_pyNext_ascii_end hh hx this (h0 rfl)
      · exact wpAny_pyNext_wide_end hh hx this (h0 rfl)
    | some c =>
      rw [hl] at hr
      subst hr
      have : (⟨l.toArray⟩ : Str).cps[i]? = some c := by simpa using hl
      rcases hT with rfl | rfl
      · exact wpAny_pyNext_ascii_item hx this fun h' hx' hs => h1 _ rfl _ h' _ hs ⟨t, _, rfl, .inl rfl, hx'⟩ ⟨_, rfl⟩
      · exact wpAny_pyNext_wide_item hx this fun h' hx' hs => h1 _ rfl _ h' _ hs ⟨t, _, rfl, .inr rfl, hx'⟩ ⟨_, rfl⟩
  case tup l =>
    split at hr
    · cases hr
    simp only [Option.some.injEq] at hr
    have x' := x
    simp only [ItAt] at x
    obtain ⟨a, hv, hx⟩ := x
    simp only [RelV] at r
    obtain ⟨a', vs, hv', _, ht, rel⟩ := r
    obtain rfl : a = a' := by rw [hv] at hv'; injection hv'
    have hlen : vs.size = l.length := by simpa using rel.length
    cases o with
    | none =>
      have : vs[i]? = none := by
        rw [Array.getElem?_eq_none_iff, hlen]
        exact List.getElem?_eq_none_iff.mp hr
      exact wpAny_pyNext_tuple_end hh hx ht this (h0 rfl)
    | some p =>
      obtain ⟨y, hy, ry⟩ := rel.get hr
      exact wpAny_pyNext_tuple_item hx ht (by simpa using hy) fun h' hx' hs => h1 p rfl y h' s.toks hs ⟨a, hv, hx'⟩ (rl hs ry)
  case lst l =>
    simp only [Option.some.injEq] at hr
    have x' := x
    simp only [ItAt] at x
    obtain ⟨a, hv, hx⟩ := x
    simp only [RelV] at r
    obtain ⟨a', vs, hv', _, ht, rel⟩ := r
    obtain rfl : a = a' := by rw [hv] at hv'; injection hv'
    exact lst hv hx ht rel hr fun h' hx' => ⟨a, hv, hx'⟩
  case ref k =>
    have x' := x
    simp only [ItAt] at x
    obtain ⟨a, hv, hx⟩ := x
    simp only [RelV] at r
    obtain ⟨p, hp, hv'⟩ := r
    obtain rfl : a = p.a := by rw [hv] at hv'; injection hv'
    split at hr
    · rename_i l hk
      simp only [Option.some.injEq] at hr
      obtain ⟨_, vs, hl, rel⟩ := lay.objs k p _ hp hk
      exact lst hv hx hl.isList rel hr fun h' hx' => ⟨p.a, hv, hx'⟩
    · cases hr
  case rng n =>
    split at hr
    · cases hr
    simp only [Option.some.injEq] at hr
    have x' := x
    simp only [ItAt] at x
    by_cases hn : (i : Int) < n
    · rw [if_pos hn] at hr
      subst hr
      have hp : 0 < n := by omega
      rw [if_pos hp] at x
      refine wpAny_pyNext_range_item x (by omega) fun h' hx' hs => h1 _ rfl _ h' _ hs ?_ ⟨_, rfl⟩
      show IsRangeIter _ _ _ _ _
      rw [if_pos hp]
      have e1 : (i : Int) + 1 = ((i + 1 : Nat) : Int) := by omega
      have e2 : n - (i : Int) - 1 = n - ((i + 1 : Nat) : Int) := by omega
      rw [← e1, show n - ((i : Int) + 1) = n - (i : Int) - 1 by omega]
      exact hx'
    · rw [if_neg hn] at hr
      subst hr
      exact wpAny_pyNext_range_end hh x (by split <;> omega) (h0 rfl)

theorem go_ok {nm : Nat → Str} {kd : Str → Option NameKind} {xs : List Nat} {tg : Expr} {I : Addr} {i j : Nat} {o : Option PV} {y : Value} {Q : Unit → Shared → Prop} (hc : chkT nm kd xs tt tg = true) (hr : itemAt σ tt src j = some o) (x : ItAt s.heap I v src i) (hy : tt = true → ∃ a, y = .ref a) (h : Q () s) :
    wpAny (model prog w) A (letOwnedTupleGo tg (.ref I) y) Q E s := by
  unfold chkT at hc
  split at hc
  · exact wpAny_pure h
  · rename_i es _ pos _
    obtain ⟨a, rfl⟩ := hy rfl
    have : ∃ l, s.heap.IsListIter I l i := by
      cases src <;> simp only [itemAt] at hr <;> try (cases hr; done)
      all_goals first
        | (simp at hr; done)
        | (simp only [ItAt] at x
           obtain ⟨a, _, hx⟩ := x
           exact ⟨a, hx⟩)
    obtain ⟨l, hx⟩ := this
    exact wpAny_letOwnedTupleGo_listiter hx h
  · cases hc
end
end Mine
end
/-! M12: comprehensions -/
section
set_option autoImplicit false
set_option linter.unusedVariables false
set_option linter.unusedSimpArgs false
namespace Mine
open PySem PySem.W PyProof.Rows

theorem closure_ok {env : Env} {sc : Scope} (hall : ∀ y ∈ sc.names, y.2 = .free → (env.cells.lookup y.1).isSome = true) : ∃ cl, closureFor sc env = pure cl ∧ (∀ y c, cl.lookup y = some c → env.cells.lookup y = some c) ∧ (∀ y ∈ sc.names, y.2 = .free → (cl.lookup y.1).isSome = true) ∧ (∀ b ∈ cl.map (·.2), b ∈ env.cells.map (·.2)) := by
  have key : ∀ (l : List (Str × NameKind)) (cs : List (Str × Addr)), (∀ y ∈ l, y.2 = .free → (env.cells.lookup y.1).isSome = true) → (∀ y c, cs.lookup y = some c → env.cells.lookup y = some c) → (∀ b ∈ cs.map (·.2), b ∈ env.cells.map (·.2)) →
      ∃ cl, (forIn l cs fun x __s => if (x.snd == NameKind.free) = true then do
                  let __do_lift ← cellOf env x.fst
                  pure (ForInStep.yield ((x.fst, __do_lift) :: __s))
                else pure (ForInStep.yield __s) : Sem (List (Str × Addr))) = pure cl ∧ (∀ y c, cl.lookup y = some c → env.cells.lookup y = some c) ∧ (∀ y ∈ l, y.2 = .free → (cl.lookup y.1).isSome = true) ∧ (∀ b ∈ cl.map (·.2), b ∈ env.cells.map (·.2)) ∧ (∀ y, (cs.lookup y).isSome = true → (cl.lookup y).isSome = true) := by
    intro l
    induction l with
    | nil => intro cs _ h2 h3; exact ⟨cs, rfl, h2, (fun y hy => by cases hy), h3, fun _ h => h⟩
    | cons y l ih =>
      intro cs h1 h2 h3
      obtain ⟨n, k⟩ := y
      rw [List.forIn_cons]
      by_cases hk : k = .free
      · subst hk
        obtain ⟨c, hc⟩ := Option.isSome_iff_exists.mp (h1 (n, .free) (List.mem_cons_self ..) rfl)
        have e : cellOf env n = pure c := by unfold cellOf; rw [hc]
        simp only [beq_self_eq_true, if_true, e, pure_bind]
        obtain ⟨cl, a1, a2, a3, a4, a5⟩ := ih ((n, c) :: cs) (fun y hy => h1 y (List.mem_cons_of_mem _ hy)) (fun y c' hy => by
          rw [List.lookup_cons] at hy
          split at hy
          · rename_i q
            cases hy
            rw [beq_iff_eq.mp q]; exact hc
          · exact h2 y c' hy) (fun b hb => by
          rw [List.map_cons, List.mem_cons] at hb
          rcases hb with rfl | hb
          · exact List.mem_map.mpr ⟨_, mem_of_lookup hc, rfl⟩
          · exact h3 b hb)
        refine ⟨cl, a1, a2, fun y hy hf => ?_, a4, fun y hy => a5 y ?_⟩
        · rcases List.mem_cons.mp hy with rfl | hy
          · exact a5 n (by simp [List.lookup_cons])
          · exact a3 y hy hf
        · rw [List.lookup_cons]
          split
          · rfl
          · exact hy
      · have hb : (k == NameKind.free) = false := by simpa using hk
        simp only [hb, Bool.false_eq_true, if_false, pure_bind]
        obtain ⟨cl, a1, a2, a3, a4, a5⟩ := ih cs (fun y hy => h1 y (List.mem_cons_of_mem _ hy)) h2 h3
        refine ⟨cl, a1, a2, fun y hy hf => ?_, a4, a5⟩
        rcases List.mem_cons.mp hy with rfl | hy
        · exact absurd hf hk
        · exact a3 y hy hf
  obtain ⟨cl, a1, a2, a3, a4, _⟩ := key sc.names [] hall (fun y c h => by cases h) (fun b h => by cases h)
  refine ⟨cl, ?_, a2, a3, a4⟩
  unfold closureFor
  simp only
  rw [a1]
  rfl

section
variable {prog : Program} {w : World} {A : Around} {R : Result → Shared → Prop} {s : Shared}
theorem comp_turn {elt target iter : Expr} {ifs : List Expr} {scope : Scope} {pos : Pos} {it acc : Value} {env : Env}
    (h : wpAny (model prog w) A (pyNext it) (fun r s₁ => match r with
      | none => R (.ok .next) s₁
      | some v => wpAny (model prog w) A (letOwnedTupleGo target it v) (fun _ s₁' => wpAny (model prog w) A (assign target env v) (fun _ s₂ =>
          wpAny (model prog w) A (forIn ifs true fun c r => if r = true then do let ok ← isTrue c env (eval c env); pure (ForInStep.yield ok) else pure (ForInStep.yield r)) (fun ok s₃ =>
            if ok = true then wpAny (model prog w) A (eval elt env) (fun x s₄ =>
              wpAny (model prog w) A (call (.builtin "list.append") [acc, x]) (fun _ s₅ => codeAny (model prog w) A (.compLoop (.ListComp elt [⟨target, iter, ifs, 0⟩] scope pos) 0 it acc env) R s₅) (notedBy (model prog w) A env fun e s' => R (.error e) s') s₄) (notedBy (model prog w) A env fun e s' => R (.error e) s') s₃
            else codeAny (model prog w) A (.compLoop (.ListComp elt [⟨target, iter, ifs, 0⟩] scope pos) 0 it acc env) R s₃) (notedBy (model prog w) A env fun e s' => R (.error e) s') s₂) (notedBy (model prog w) A env fun e s' => R (.error e) s') s₁') (notedBy (model prog w) A env fun e s' => R (.error e) s') s₁) (notedBy (model prog w) A env fun e s' => R (.error e) s') s) :
    codeAny (model prog w) A (.compLoop (.ListComp elt [⟨target, iter, ifs, 0⟩] scope pos) 0 it acc env) R s := by
  refine codeAny_of_tree ?_
  show wpAny _ A ((compTurn (.ListComp elt [⟨target, iter, ifs, 0⟩] scope pos) 0 it acc env).onRaise (fun x => do noteFrame x env; theTreesLotGoes x)) _ _ s
  refine wpAny_noted ?_
  rw [compTurn_list]
  refine wpAny_bind (wpAny_standAt (wpAny_bind (wpAny_mono h (fun r s₁ h₁ => ?_) fun _ _ h' => h')))
  cases r with
  | none => exact wpAny_pure h₁
  | some v =>
    refine wpAny_bind (wpAny_mono h₁ (fun _ s₁' h₁' => wpAny_bind (wpAny_mono h₁' (fun _ s₂ h₂ => wpAny_bind (wpAny_mono h₂ (fun ok s₃ h₃ => ?_) fun _ _ h' => h')) fun _ _ h' => h')) fun _ _ h' => h')
    cases ok with
    | true =>
      simp only [if_true] at h₃ ⊢
      refine wpAny_bind (wpAny_bind (wpAny_mono h₃ (fun x s₄ h₄ => wpAny_bind (wpAny_mono h₄ (fun _ s₅ h₅ => wpAny_pure ?_) fun _ _ h' => h')) fun _ _ h' => h'))
      exact wpAny_pure ⟨rfl, h₅⟩
    | false =>
      simp only [Bool.false_eq_true, if_false] at h₃ ⊢
      exact wpAny_pure ⟨rfl, h₃⟩
end

section
variable {W : Wd} {fs : List Env} {fa : List Addr} {L L0 L' : Lo} {σ : Store} {h h0 h' : Heap} {q : Bool}
theorem Aft.own_sub (x : Aft fa L h L' h') {b : Addr} (hb : b ∈ own L) : b ∈ own L' := by
  obtain ⟨⟨T, rfl, _⟩, _⟩ := x
  rw [own_append]; exact List.mem_append_left _ hb
theorem Aft.live (x : Aft fa L h L' h') (l : Lay W q L' σ h') (hfa : ∀ b ∈ fa, ∃ o, h'.get? b = some o) {b : Addr} {o : Obj} (hb : h.get? b = some o) : ∃ o', h'.get? b = some o' := by
  by_cases h1 : b ∈ own L
  · exact l.live (x.own_sub h1)
  · by_cases h2 : b ∈ fa
    · exact hfa b h2
    · obtain ⟨sl, e, _⟩ := x.keeps b h1 h2 o hb
      exact ⟨_, e⟩
theorem Aft.none_of (x : Aft fa L h L' h') (l : Lay W q L' σ h') (hfa : ∀ b ∈ fa, ∃ o, h'.get? b = some o) {a : Addr} (e : h'.get? a = none) : h.get? a = none := by
  cases z : h.get? a with
  | none => rfl
  | some o =>
    obtain ⟨o', e'⟩ := x.live l hfa z
    rw [e] at e'; cases e'
theorem Aft.mono {fb : List Addr} (x : Aft fa L h L' h') (m : ∀ b ∈ fa, b ∈ fb) : Aft fb L h L' h' := ⟨x.pre, fun b hb hf => x.kept b hb fun z => hf (m b z)⟩
theorem Aft.nil_mono (x : Aft [] L h L' h') : Aft fa L h L' h' := x.mono fun _ z => by cases z

theorem noted_ok {k : Nat} {env : Env} {M : Model} {A : Around} {s : Shared} {E : Value → Shared → Prop} {Q : Unit → Shared → Prop} {e : Addr} {x : PX} {m : Bool} (ar : Ar A env fs k) (st : St W false fs L σ s.heap) (af : Aft fa L0 h0 L s.heap)
    (hfa : ∀ b ∈ fa, ∃ o, s.heap.get? b = some o) (X : ExcAt W h0 L s.heap e x m)
    (h : ∀ h', Nt fs e s.heap h' → St W false fs L σ h' → Aft fa L0 h0 L h' → ExcAt W h0 L h' e x true → Q () { s with heap := h' }) : wpAny M A (noteFrame (.ref e) env) Q E s := by
  obtain ⟨e0, rest, hfs, he⟩ := ar.top
  obtain ⟨F, hF⟩ := ar.frame
  subst hfs
  exact note_ok ar.frames he hF st.fr st.base (fun b o hb => af.live st.lay hfa hb) (fun a ha => st.lay.live ha) X fun h' n X' => h h' n (st.nt X n) (af.nt X n st.fr) X'

theorem hid_notT {D : Addr} (l : Lay W q L σ h) (hD : D ∈ L.hid) : D ∉ ownT L.l := fun z => by
  obtain ⟨i, p, e, z⟩ := own_mem z
  obtain ⟨z1, z2⟩ := (l.hidden D hD).2 i p e
  rcases z with rfl | rfl
  · exact z1 rfl
  · exact z2 rfl
theorem pl_slt {D : Addr} {vs : Array Value} (x : Slt h h' D) (pl : h.PlainList D vs) : h'.PlainList D vs := by
  obtain ⟨n, ho⟩ := pl
  exact ⟨n, x.exact ho fun es m z => by cases z⟩
/-- the hidden list grows -/
theorem hid_upd {D : Addr} (x : St W false fs L σ h) (hD : D ∈ L.hid) (k : Heap.SameBut D h h') (hl : ∃ o, h'.get? D = some o) : St W false fs L σ h' ∧ Aft [D] L h L h' ∧ (∀ {v : Value} {p : PV}, RelV false L h v p → RelV false L h' v p) ∧ (∀ {v : List Value} {p : List PV}, RelVs false L h v p → RelVs false L h' v p) := by
  have hDo : D ∈ own L := List.mem_append_left _ hD
  have kk : ∀ b, b ≠ D → ∀ o, h.get? b = some o → h'.get? b = some o := fun b hb o e => (k.2 b hb).trans e
  have af : Aft [D] L h L h' := ⟨⟨[], L.append_nil.symm, fun _ z => by simp [ownT] at z⟩, fun b _ hb => .of_some (kk b fun z => hb (List.mem_singleton.mpr z))⟩
  have rl : ∀ {v : Value} {p : PV}, RelV false L h v p → RelV false L h' v p := fun r => RelV.move (fun a q => .inl q) (fun _ _ e => e) (fun b o ho hv hb => .of_some (kk b fun z => hb (z ▸ hDo))) (fun z => by cases z) r
  have rls : ∀ {v : List Value} {p : List PV}, RelVs false L h v p → RelVs false L h' v p := fun r => RelVs.move (fun a q => .inl q) (fun _ _ e => e) (fun b o ho hv hb => .of_some (kk b fun z => hb (z ▸ hDo))) (fun z => by cases z) r
  refine ⟨⟨fun b o e => kk b (fun z => ?_) o (x.base b o e), x.offb, ⟨x.lay.len, x.lay.apart, fun i p o e1 e2 => ?_, fun a ha => ?_⟩, ?_⟩, af, rl, rls⟩
  · rw [z, x.offb D hDo] at e; cases e
  · obtain ⟨z1, z2⟩ := (x.lay.hidden D hD).2 i p e1
    exact (x.lay.objs i p o e1 e2).keep rl rls (kk _ z1) (kk _ z2)
  · obtain ⟨⟨o, e⟩, z⟩ := x.lay.hidden a ha
    refine ⟨?_, z⟩
    by_cases q : a = D
    · exact q ▸ hl
    · exact ⟨o, kk a q o e⟩
  · have := x.fr.keep (T := []) (h' := h') (fun _ q => by simp [ownT] at q) fun F o e d hF => ⟨o, kk F (fun z => hF (z ▸ hDo)) o e, d⟩
    rwa [Lo.append_nil] at this
end

def CPost (W : Wd) (fs : List Env) (D I C : Addr) (Rr : Result → Shared → Prop) (L : Lo) (s : Shared) : R (List PV) → Prop
  | .ok l σ' => ∀ L' h' tk vs', St W false fs L' σ' h' → Aft [I, C, D] L s.heap L' h' → h'.PlainList D vs' → RelVs false L' h' vs'.toList l → (∃ m, h'.Ns C m) → Rr (.ok .next) { s with heap := h', toks := tk }
  | .exc x σ' => ∀ e L' h' tk, St W false fs L' σ' h' → Aft [I, C, D] L s.heap L' h' → ExcAt W s.heap L' h' e x true → (∃ m, h'.Ns C m) → Rr (.error (.ref e)) { s with heap := h', toks := tk }

section
variable {W : Wd} {fs : List Env} {D I C : Addr} {Rr : Result → Shared → Prop} {L L₁ : Lo} {σ₁ : Store} {s : Shared} {h₁ : Heap} {tk : Nat} {r : R (List PV)}
theorem CPost.next (P : CPost W fs D I C Rr L s r) (st : St W false fs L₁ σ₁ h₁) (a : Aft [I, C, D] L s.heap L₁ h₁) (hI : ∃ o, h₁.get? I = some o) (hC : ∃ o, h₁.get? C = some o) (hD : ∃ o, h₁.get? D = some o) : CPost W fs D I C Rr L₁ { s with heap := h₁, toks := tk } r := by
  have hfa : ∀ b ∈ [I, C, D], ∃ o, h₁.get? b = some o := fun b hb => by
    simp only [List.mem_cons, List.not_mem_nil, or_false] at hb
    rcases hb with rfl | rfl | rfl <;> assumption
  cases r with
  | ok l σ' => exact fun L' h' tk' vs' st' a' pl rel ns => P L' h' tk' vs' st' (a.trans a' st.lay hfa) pl rel ns
  | exc x σ' => exact fun e L' h' tk' st' a' X ns => P e L' h' tk' st' (a.trans a' st.lay hfa) (X.back fun _ z => a.none_of st.lay hfa z) ns
end

structure SC (W : Wd) (Φ : Sig) (k n : Nat) : Prop where
  c : ∀ {m A env fs ρ L σ s elt xs tt ce src i acc x tg ifs iter scope pos I D v vs Rr r}, Φ.q = false → chkT W.nm env.kindOf xs tt tg = true → chk W.nm m env.kindOf elt x = true →
    (match ce, ifs with
      | .none, [] => True
      | some c, [t] => chk W.nm m env.kindOf c t = true
      | _, _ => False) →
    At W Φ k A env fs ρ L σ s → D ∈ L.hid → s.heap.PlainList D vs → RelVs false L s.heap vs.toList acc → RelV false L s.heap v src → ItAt s.heap I v src i → I ∉ own L → W.b0.get? I = none → env.locals ∉ own L → W.b0.get? env.locals = none →
    evC Φ n elt xs tt ce src i ρ acc σ = some r → CPost W fs D I env.locals Rr L s r →
    codeAny (model W.prog W.w) A (.compLoop (.ListComp x [⟨tg, iter, ifs, 0⟩] scope pos) 0 (.ref I) (.ref D) env) Rr s

section
variable {W : Wd} {Φ : Sig} {k n : Nat}
theorem ItAt.notFa {W : Wd} {q : Bool} {env : Env} {ρ : Loc} {L : Lo} {h : Heap} {I : Addr} {v : Value} {src : PV} {i : Nat} (x : ItAt h I v src i) (e : EnvRel W q env ρ L h) : I ∉ faOf env := fun hm => by
  obtain ⟨o, vs, T, ho, hd, _⟩ := x.obj
  obtain ⟨o', ho', z⟩ := e.low I hm
  rw [ho] at ho'; cases ho'
  rcases z with ⟨_, _, z⟩ | ⟨_, z⟩ <;> (rw [hd] at z; cases z)
theorem sc_c (wok : WOk W) (ih : SE W Φ k n) (ihc : SC W Φ k n) : SC W Φ k (n + 1) := by
  refine ⟨?_⟩
  intro m A env fs ρ L σ s elt xs tt ce src i acc x tg ifs iter scope pos I D v vs Rr r hq hT hE hIf a hD hpl hacc hv hit hIo hIb hCo hCb hr P
  have hh := a.hq hq
  have hst := a.st
  have henv := a.env
  rw [hq] at hst henv
  unfold evC at hr
  have hIf' := hit.notFa henv
  have hIC : I ≠ env.locals := fun z => hIf' (z ▸ List.mem_cons_self ..)
  have hDo : D ∈ own L := List.mem_append_left _ hD
  have hDI : D ≠ I := fun z => hIo (z ▸ hDo)
  have hDC : D ≠ env.locals := fun z => hCo (z ▸ hDo)
  have offI : ∀ b ∈ [I], b ∉ own L ∧ W.b0.get? b = none := fun b hb => by rw [List.mem_singleton.mp hb]; exact ⟨hIo, hIb⟩
  cases ho : itemAt σ tt src i with
  | none => rw [ho] at hr; cases hr
  | some o =>
    rw [ho] at hr
    refine comp_turn (next_ok hh ho hst.lay hv hit ?_ ?_)
    · intro e h' hx
      subst e
      cases hr
      have c := hit.chg hx
      obtain ⟨mm, hm⟩ := henv.ns
      refine P L h' s.toks vs (hst.chg c offI) ((c.aft L).mono fun b hb => by simp [List.mem_singleton.mp hb]) ?_ (c.rels hacc) ⟨mm, (Slt.of_some fun o e => hx _ o hIC.symm e : Slt s.heap h' env.locals).ns hm⟩
      obtain ⟨nn, hn⟩ := hpl
      exact ⟨nn, hx D _ hDI hn⟩
    · intro p e y h₁ tk₁ hs it₁ ry
      subst e
      simp only at hr
      cases ht : takeV ρ xs tt p with
      | none => rw [ht] at hr; cases hr
      | some ρ₁ =>
      rw [ht] at hr
      simp only at hr
      have c1 := hit.chg hs.extBut
      have env1 := henv.chg c1 fun b hb => by rw [List.mem_singleton.mp hb]; exact hIf'
      have hy : tt = true → ∃ a, y = .ref a := fun e => by
        subst e
        cases p <;> simp only [takeV] at ht <;> try (cases ht; done)
        simp only [RelV] at ry
        obtain ⟨a, _, z, _⟩ := ry
        exact ⟨a, z⟩
      refine go_ok (s := { s with heap := h₁, toks := tk₁ }) hT ho it₁ hy ?_
      refine take_ok wok hh hT env1 ry ht fun h₂ tk₂ c2 env2 => ?_
      have st2 : St W false fs L σ h₂ := (hst.chg c1 offI).chg c2 fun b hb => by rw [List.mem_singleton.mp hb]; exact ⟨hCo, hCb⟩
      have it2 : ItAt h₂ I v src (i + 1) := it₁.of fun o e => c2.keep I o (fun z => hIC (List.mem_singleton.mp z)) e
      have c12 : Chg [I, env.locals] s.heap h₂ := (c1.mono fun b hb => by simp [List.mem_singleton.mp hb]).trans (c2.mono fun b hb => by simp [List.mem_singleton.mp hb])
      have pl2 : h₂.PlainList D vs := by
        obtain ⟨nn, hn⟩ := hpl
        exact ⟨nn, c12.keep D _ (by simp [hDI, hDC]) hn⟩
      have a2 : At W Φ k A env fs ρ₁ L σ { s with heap := h₂, toks := tk₂ } := ⟨a.ar, a.hq, by rw [hq]; exact env2, by rw [hq]; exact st2, a.code_⟩
      have liveC : ∀ {h : Heap} {ρ : Loc} {L : Lo}, EnvRel W false env ρ L h → ∃ o, h.get? env.locals = some o := fun e => let ⟨o, ho, _⟩ := e.low _ (List.mem_cons_self ..); ⟨o, ho⟩
      have liveI : ∀ {h : Heap} {j : Nat}, ItAt h I v src j → ∃ o, h.get? I = some o := fun x => let ⟨o, _, _, ho, _⟩ := x.obj; ⟨o, ho⟩
      have sub3 : ∀ b ∈ [I, env.locals], b ∈ [I, env.locals, D] := fun b hb => by
        simp only [List.mem_cons, List.not_mem_nil, or_false] at hb ⊢
        rcases hb with rfl | rfl
        · exact .inl rfl
        · exact .inr (.inl rfl)
      have liveD : ∀ {h : Heap} {vs : Array Value}, h.PlainList D vs → ∃ o, h.get? D = some o := fun x => let ⟨_, ho⟩ := x; ⟨_, ho⟩
      have P2 : CPost W fs D I env.locals Rr L { s with heap := h₂, toks := tk₂ } r := P.next st2 ((c12.aft L).mono sub3) (liveI it2) (liveC env2) (liveD pl2)
      have hDT := hid_notT st2.lay hD
      have hv2 := c12.rel hv
      have acc2 := c12.rels hacc
      -- an exception on the way is noted and goes on
      have exc : ∀ {L₃ : Lo} {σ₃ : Store} {h₃ : Heap} {tk₃ : Nat}, St W false fs L₃ σ₃ h₃ → Aft [] L h₂ L₃ h₃ → Post W false fs (fun _ _ (_ : Unit) (_ : List PV) => False) L₃ { s with heap := h₃, toks := tk₃ } r (fun _ _ => False) (notedBy (model W.prog W.w) A env fun e s' => Rr (.error e) s') := by
        intro L₃ σ₃ h₃ tk₃ st3 af3
        cases r with
        | ok l σ' => exact fun _ _ _ _ _ _ z => z
        | exc x' σ' =>
          intro e L₄ h₄ tk₄ st4 af4 X
          have env3 := env2.aft af3
          have env4 := env3.aft af4
          have it3 := it2.slt (af3.keeps I hIo fun z => by cases z)
          have hIo3 : I ∉ own L₃ := by
            obtain ⟨⟨T, rfl, hT'⟩, _⟩ := af3
            obtain ⟨o, hoI⟩ := liveI it2
            exact own_pre hIo hT' hoI
          have it4 := it3.slt (af4.keeps I hIo3 fun z => by cases z)
          have af24 : Aft [I, env.locals, D] L h₂ L₄ h₄ := ((af3.trans0 af4 st3.lay).nil_mono)
          have pl4 := pl_slt ((af3.trans0 af4 st3.lay).kept D hDT fun z => by cases z) pl2
          have hfa : ∀ b ∈ [I, env.locals, D], ∃ o, h₄.get? b = some o := fun b hb => by
            simp only [List.mem_cons, List.not_mem_nil, or_false] at hb
            rcases hb with rfl | rfl | rfl
            · exact liveI it4
            · exact liveC env4
            · exact liveD pl4
          have X' : ExcAt W h₂ L₄ h₄ e x' false := X.back fun _ z => af3.none_back st3.lay z
          refine noted_ok (s := { s with heap := h₄, toks := tk₄ }) a.ar st4 af24 hfa X' fun h₅ n5 st5 af5 X5 => ?_
          obtain ⟨mm, hm⟩ := env4.ns
          exact P2 e L₄ h₅ tk₄ st5 af5 X5 ⟨mm, n5.ns X' st4.fr hm⟩
      have cont : ∀ {b : Bool} {σ₃ : Store} {L₃ : Lo} {h₃ : Heap} {tk₃ : Nat}, (if b = true then bnd (ev Φ n elt ρ₁ σ₃) fun u σ => if acc.length < SZ then evC Φ n elt xs tt ce src (i + 1) ρ₁ (acc ++ [u]) σ else .none else evC Φ n elt xs tt ce src (i + 1) ρ₁ acc σ₃) = some r →
          St W false fs L₃ σ₃ h₃ → Aft [] L h₂ L₃ h₃ →
          (if b = true then wpAny (model W.prog W.w) A (eval x env) (fun x' s₄ =>
              wpAny (model W.prog W.w) A (call (.builtin "list.append") [.ref D, x']) (fun _ s₅ => codeAny (model W.prog W.w) A (.compLoop (.ListComp x [⟨tg, iter, ifs, 0⟩] scope pos) 0 (.ref I) (.ref D) env) Rr s₅) (notedBy (model W.prog W.w) A env fun e s' => Rr (.error e) s') s₄) (notedBy (model W.prog W.w) A env fun e s' => Rr (.error e) s') { s with heap := h₃, toks := tk₃ }
            else codeAny (model W.prog W.w) A (.compLoop (.ListComp x [⟨tg, iter, ifs, 0⟩] scope pos) 0 (.ref I) (.ref D) env) Rr { s with heap := h₃, toks := tk₃ }) := by
        intro b σ₃ L₃ h₃ tk₃ hf st3 af3
        have env3 := env2.aft af3
        have hIo3 : I ∉ own L₃ := by
          obtain ⟨⟨T, rfl, hT'⟩, _⟩ := af3
          obtain ⟨o, hoI⟩ := liveI it2
          exact own_pre hIo hT' hoI
        have it3 := it2.slt (af3.keeps I hIo fun z => by cases z)
        have hD3 : D ∈ L₃.hid := by
          obtain ⟨⟨T, rfl, _⟩, _⟩ := af3
          exact hD
        have hCo3 : env.locals ∉ own L₃ := env3.off _ (List.mem_cons_self ..)
        have a3 : At W Φ k A env fs ρ₁ L₃ σ₃ { s with heap := h₃, toks := tk₃ } := ⟨a.ar, a.hq, by rw [hq]; exact env3, by rw [hq]; exact st3, a.code_⟩
        have rl3 : ∀ {v : Value} {p : PV}, RelV false L h₂ v p → RelV false L₃ h₃ v p := fun r => af3.rel (.nil _) (fun _ => rfl) r
        have rls3 : ∀ {v : List Value} {p : List PV}, RelVs false L h₂ v p → RelVs false L₃ h₃ v p := fun r => af3.rels (.nil _) (fun _ => rfl) r
        have pl3 := pl_slt (af3.kept D hDT fun z => by cases z) pl2
        have P3 := P2.next (tk := tk₃) st3 af3.nil_mono (liveI it3) (liveC env3) (liveD pl3)
        cases b with
        | false =>
          rw [if_neg (by simp)] at hf ⊢
          exact ihc.c hq hT hE hIf a3 hD3 pl3 (rls3 acc2) (rl3 hv2) it3 hIo3 hIb hCo3 hCb hf P3
        | true =>
          rw [if_pos rfl] at hf ⊢
          refine bnd_ok hf (ih.e hE a3) (by rw [hq]; exact exc st3 af3) fun u σ₄ y₄ L₄ h₄ tk₄ hf₄ st4 af4 rel4 _ => ?_
          rw [hq] at st4 rel4
          split at hf₄
          · rename_i hz
            have af24 := af3.trans0 af4 st3.lay
            have env4 := env3.aft af4
            have hIo4 : I ∉ own L₄ := by
              obtain ⟨⟨T, rfl, hT'⟩, _⟩ := af4
              obtain ⟨o, hoI⟩ := liveI it3
              exact own_pre hIo3 hT' hoI
            have it4 := it3.slt (af4.keeps I hIo3 fun z => by cases z)
            have hD4 : D ∈ L₄.hid := by
              obtain ⟨⟨T, rfl, _⟩, _⟩ := af4
              exact hD3
            have pl4 := pl_slt (af4.kept D (hid_notT st3.lay hD3) fun z => by cases z) pl3
            have acc4 : RelVs false L₄ h₄ vs.toList acc := af4.rels (.nil _) (fun _ => rfl) (rls3 acc2)
            have hlen : vs.size = acc.length := by simpa using acc4.length
            unfold SZ at hz
            refine wpAny_list_append_plain (s := { s with heap := h₄, toks := tk₄ }) pl4 (fun h₅ pl5 hs5 => ?_) (by rw [hlen, sizeLine_eq]; omega)
            obtain ⟨st5, af5, rl5, rls5⟩ := hid_upd st4 hD4 hs5 (liveD pl5)
            have nID : I ≠ D := hDI.symm
            have env5 : EnvRel W false env ρ₁ L₄ h₅ := by
              have c5 : ∀ b o, b ≠ D → h₄.get? b = some o → h₅.get? b = some o := fun b o hb e => (hs5.2 b hb).trans e
              have nfa : ∀ b ∈ faOf env, b ≠ D := fun b hb z => env4.off b hb (z ▸ List.mem_append_left _ hD4)
              exact ⟨env4.kind, env4.globals, env4.builtins, let ⟨m, hm⟩ := env4.ns; ⟨m, (Slt.of_some fun o e => c5 _ o (nfa _ (List.mem_cons_self ..)) e : Slt h₄ h₅ env.locals).ns hm⟩,
                fun y pv e => let ⟨v, a, b⟩ := env4.names y pv e; ⟨v, a.keep fun b hb => .of_some fun o e => c5 b o (nfa b hb) e, rl5 b⟩,
                fun y cc e => let ⟨v, hv⟩ := env4.cells y cc e; ⟨v, (Slt.of_some fun o e' => c5 _ o (nfa _ (cell_mem e)) e' : Slt h₄ h₅ cc).cell hv⟩,
                env4.apart, env4.off, fun b hb => let ⟨o, ho, z⟩ := env4.low b hb; ⟨o, c5 b o (nfa b hb) ho, z⟩, env4.fresh, env4.have_⟩
            have a5 : At W Φ k A env fs ρ₁ L₄ σ₄ { s with heap := h₅, toks := tk₄ } := ⟨a.ar, a.hq, by rw [hq]; exact env5, by rw [hq]; exact st5, a.code_⟩
            have it5 : ItAt h₅ I v src (i + 1) := it4.of fun o e => (hs5.2 I nID).trans e
            have af35 : Aft [I, env.locals, D] L₃ h₃ L₄ h₅ := (af4.nil_mono).trans (af5.mono fun b hb => by simp [List.mem_singleton.mp hb]) st4.lay fun b hb => by
              simp only [List.mem_cons, List.not_mem_nil, or_false] at hb
              rcases hb with rfl | rfl | rfl
              · exact liveI it4
              · exact liveC env4
              · exact liveD pl4
            have P5 := P3.next (tk := tk₄) st5 af35 (liveI it5) (liveC env5) (liveD pl5)
            refine ihc.c hq hT hE hIf a5 hD4 pl5 ?_ (rl5 (af4.rel (.nil _) (fun _ => rfl) (rl3 hv2))) it5 hIo4 hIb (env5.off _ (List.mem_cons_self ..)) hCb hf₄ P5
            rw [Array.toList_push]
            exact (rls5 acc4).append (by simp only [RelVs, and_true]; exact rl5 rel4)
          · cases hf₄
      cases ce with
      | none =>
        cases ifs with
        | nil =>
          refine wpAny_tests_nil ?_
          exact cont (b := true) (tk₃ := tk₂) (by simpa [bnd] using hr) st2 (.refl _ _ _)
        | cons => exact hIf.elim
      | some c =>
        match ifs, hIf with
        | [t], hIf =>
          refine wpAny_tests_one (bnd_ok hr (ih.t hIf a2) (by rw [hq]; exact exc st2 (.refl _ _ _)) fun b σ₃ b' L₃ h₃ tk₃ hf st3 af3 rel3 _ => ?_)
          have : b' = b := rel3
          subst this
          rw [hq] at st3
          exact cont hf st3 af3
end

theorem relabel_lookup {env : Env} {sc : Scope} (hk : env.scope.kind = .function) (x : Str) : (relabel sc env).names.lookup x = kdIn env.kindOf sc x := by
  unfold relabel kdIn
  show List.lookup x (sc.names.map _) = _
  generalize sc.names = l
  induction l with
  | nil => rfl
  | cons p r ih =>
    obtain ⟨n, k⟩ := p
    rw [List.map_cons]
    by_cases hx : x = n
    · subst hx
      by_cases hf : k = .free
      · subst hf
        by_cases hc : env.kindOf x = some .cell
        · simp [List.lookup_cons, hk, hc]
        · simp [List.lookup_cons, hk, hc]
      · have e : (k == NameKind.free) = false := by simpa using hf
        simp only [e, Bool.false_and, Bool.false_eq_true, if_false, List.lookup_cons, beq_self_eq_true]
        cases k <;> first | rfl | exact absurd rfl hf
    · have hx' : (x == n) = false := by simpa using hx
      have e2 : List.lookup x ((if (k == NameKind.free && env.scope.kind == ScopeKind.function && env.kindOf n == some NameKind.cell) = true then (n, NameKind.cell) else (n, k)) :: List.map (fun x => if (x.2 == NameKind.free && env.scope.kind == ScopeKind.function && env.kindOf x.1 == some NameKind.cell) = true then (x.1, NameKind.cell) else (x.1, x.2)) r) = List.lookup x (List.map (fun x => if (x.2 == NameKind.free && env.scope.kind == ScopeKind.function && env.kindOf x.1 == some NameKind.cell) = true then (x.1, NameKind.cell) else (x.1, x.2)) r) := by
        split <;> rw [List.lookup_cons, hx']
      rw [e2, List.lookup_cons, hx']
      exact ih
theorem capture_lk : ∀ {fv : List Nat} {ρ ρ' : Loc}, capture ρ fv = some ρ' → ∀ x pv, lk ρ' x = some pv → x ∈ fv ∧ lk ρ x = some pv
  | [], _, ρ', h, x, pv, e => by
    cases h; cases e
  | y :: fv, ρ, ρ', h, x, pv, e => by
    simp only [capture] at h
    split at h
    · rename_i v r hv hr
      cases h
      simp only [lk] at e
      split at e
      · rename_i q; subst q
        cases e
        exact ⟨List.mem_cons_self .., hv⟩
      · obtain ⟨a, b⟩ := capture_lk hr x pv e
        exact ⟨List.mem_cons_of_mem _ a, b⟩
    · cases h

def Lo.hide (L : Lo) (D : Addr) : Lo := ⟨L.l, D :: L.hid⟩
section
variable {W : Wd} {fs : List Env} {L : Lo} {σ : Store} {h h' h0 : Heap} {D : Addr}
theorem own_hide {a : Addr} (x : a ∈ own (L.hide D)) : a = D ∨ a ∈ own L := by
  rcases List.mem_append.mp x with x | x
  · rcases List.mem_cons.mp x with x | x
    · exact .inl x
    · exact .inr (List.mem_append_left _ x)
  · exact .inr (List.mem_append_right _ x)
theorem own_hide_sub {T : List LO} {a : Addr} (x : a ∈ own (L ++ T)) : a ∈ own (L.hide D ++ T) := by
  rcases List.mem_append.mp x with x | x
  · exact List.mem_append_left _ (List.mem_cons_of_mem _ x)
  · exact List.mem_append_right _ x
theorem st_hide (x : St W false fs L σ h) (k : KA h h') (hD : h.get? D = none) (hD' : ∃ o, h'.get? D = some o) : St W false fs (L.hide D) σ h' := by
  have rl : ∀ {v : Value} {p : PV}, RelV false L h v p → RelV false (L.hide D) h' v p := fun r => RelV.move (fun a q => (own_hide q).elim (fun z => .inr (z ▸ hD)) .inl) (fun _ _ e => e) (fun b o ho hv hb => k.slt b) (fun z => by cases z) r
  have rls : ∀ {v : List Value} {p : List PV}, RelVs false L h v p → RelVs false (L.hide D) h' v p := fun r => RelVs.move (fun a q => (own_hide q).elim (fun z => .inr (z ▸ hD)) .inl) (fun _ _ e => e) (fun b o ho hv hb => k.slt b) (fun z => by cases z) r
  refine ⟨fun b o e => k b o (x.base b o e), fun a ha => ?_, ⟨x.lay.len, x.lay.apart, fun i p o e1 e2 => (x.lay.objs i p o e1 e2).keep rl rls (k _) (k _), fun a ha => ?_⟩, fun env he => ?_⟩
  · rcases own_hide ha with rfl | ha
    · cases z : W.b0.get? a with
      | none => rfl
      | some o => have := x.base a o z; rw [hD] at this; cases this
    · exact x.offb a ha
  · rcases List.mem_cons.mp ha with rfl | ha
    · refine ⟨hD', fun i p e => ?_⟩
      obtain ⟨o1, e1⟩ := x.lay.live (mem_own (L := L) e).1
      obtain ⟨o2, e2⟩ := x.lay.live (mem_own (L := L) e).2
      exact ⟨fun z => (by rw [z, hD] at e1; cases e1), fun z => (by rw [z, hD] at e2; cases e2)⟩
    · obtain ⟨⟨o, e⟩, z⟩ := x.lay.hidden a ha
      exact ⟨⟨o, k a o e⟩, z⟩
  · obtain ⟨hk, F, o, h1, h2, h3, h4, d⟩ := x.fr env he
    refine ⟨hk, F, o, h1, h2, fun z => ?_, k F o h4, d⟩
    rcases own_hide z with rfl | z
    · rw [hD] at h4; cases h4
    · exact h3 z
/-- the hidden list comes forth; a dropped frame is let go -/
theorem st_show {T : List LO} {C : Addr} (x : St W false fs (L.hide D ++ T) σ h) (k : ∀ b o, b ≠ C → h.get? b = some o → h'.get? b = some o) (hC : C ∉ own (L.hide D ++ T)) (hCb : W.b0.get? C = none) (hCv : ∀ o, h.get? C = some o → ∃ es n, o.data = .dict es n)
    (hF : ∀ env ∈ fs, env.frame ≠ some C) : St W false fs (L ++ T) σ h' ∧ (∀ {v : Value} {p : PV}, RelV false (L.hide D ++ T) h v p → RelV false (L ++ T) h' v p) ∧ (∀ {v : List Value} {p : List PV}, RelVs false (L.hide D ++ T) h v p → RelVs false (L ++ T) h' v p) := by
  have kv : ∀ b o, h.get? b = some o → (∃ x n, o.data = .seq x n) ∨ (∃ n t u w, o = rngObj n t u w) → b ∉ own (L.hide D ++ T) → Slt h h' b := fun b o ho hv _ => .of_some (k b · fun z => by
    subst z
    obtain ⟨es, n, hd⟩ := hCv o ho
    rcases hv with ⟨_, _, z⟩ | ⟨_, _, _, _, rfl⟩
    · rw [hd] at z; cases z
    · cases hd)
  have rl : ∀ {v : Value} {p : PV}, RelV false (L.hide D ++ T) h v p → RelV false (L ++ T) h' v p := fun r => RelV.move (fun a q => .inl (own_hide_sub q)) (fun _ _ e => e) kv (fun z => by cases z) r
  have rls : ∀ {v : List Value} {p : List PV}, RelVs false (L.hide D ++ T) h v p → RelVs false (L ++ T) h' v p := fun r => RelVs.move (fun a q => .inl (own_hide_sub q)) (fun _ _ e => e) kv (fun z => by cases z) r
  have ko : ∀ b ∈ own (L ++ T), ∀ o, h.get? b = some o → h'.get? b = some o := fun b hb o e => k b o (fun z => hC (own_hide_sub (z ▸ hb))) e
  refine ⟨⟨fun b o e => k b o (fun z => by rw [z, hCb] at e; cases e) (x.base b o e), fun a ha => x.offb a (own_hide_sub ha), ⟨x.lay.len, x.lay.apart, fun i p o e1 e2 => (x.lay.objs i p o e1 e2).keep rl rls (ko _ (mem_own (L := L ++ T) e1).1) (ko _ (mem_own (L := L ++ T) e1).2), fun a ha => ?_⟩, fun env he => ?_⟩, rl, rls⟩
  · obtain ⟨⟨o, e⟩, z⟩ := x.lay.hidden a (List.mem_cons_of_mem _ ha)
    exact ⟨⟨o, ko a (List.mem_append_left _ ha) o e⟩, z⟩
  · obtain ⟨hk, F, o, h1, h2, h3, h4, d⟩ := x.fr env he
    exact ⟨hk, F, o, h1, h2, fun z => h3 (own_hide_sub z), k F o (fun z => hF env he (z ▸ h1)) h4, d⟩
theorem ExcAt.kept {e : Addr} {x : PX} {m : Bool} {L' : Lo} (X : ExcAt W h0 L h e x m) (k : ∀ b o, h0.get? b = none → h.get? b = some o → h'.get? b = some o) (hL : ∀ a ∈ own L', a ∈ own L) : ExcAt W h0 L' h' e x m := by
  obtain ⟨x1, x2, x3, vs, d, ho, hsz, htb, hd1, hd2, hd3, hsp⟩ := X
  refine ⟨x1, x2, fun z => x3 (hL _ z), vs, d, k e _ x1 ho, hsz, ?_, hd1, fun z => hd2 (hL _ z), hd3, fun i hi => ?_⟩
  · rcases htb with q | ⟨T, ts, oT, q, t1, t2, t3, t4, t5, t6⟩
    · exact .inl q
    · exact .inr ⟨T, ts, oT, q, t1, t2, t3, fun z => t4 (hL _ z), k T _ t2 t5, t6⟩
  · obtain ⟨hc, od', es, n, t, g1, g2⟩ := hsp i hi
    exact ⟨hc, od', es, n, t, k d _ hd1 g1, g2⟩
end
theorem evC_item {Φ : Sig} {n : Nat} {elt : CE} {xs : List Nat} {tt : Bool} {ce : Option CE} {src : PV} {i : Nat} {ρ : Loc} {acc : List PV} {σ : Store} {r : R (List PV)} (h : evC Φ n elt xs tt ce src i ρ acc σ = some r) : ∃ o, itemAt σ tt src i = some o := by
  cases n with
  | zero => unfold evC at h; cases h
  | succ n =>
    unfold evC at h
    cases z : itemAt σ tt src i with
    | none => rw [z] at h; cases h
    | some o => exact ⟨o, rfl⟩
theorem bnd_some {α β : Type} {m : Option (R α)} {f : α → Store → Option (R β)} {r : R β} (h : bnd m f = some r) : ∃ r₁, m = some r₁ := by
  cases m with
  | none => cases h
  | some r₁ => exact ⟨r₁, rfl⟩
end Mine
end
/-! M13: a comprehension as an expression -/
section
set_option autoImplicit false
set_option linter.unusedVariables false
set_option linter.unusedSimpArgs false
namespace Mine
open PySem PySem.W PyProof.Rows

section
variable {W : Wd} {K : Frag} {Φ : Sig} {k n m : Nat} {A : Around} {env : Env} {fs : List Env} {ρ : Loc} {L : Lo} {σ : Store} {s : Shared} {x : Expr}

theorem free_names {nm : Nat → Str} {kd : Str → Option NameKind} {fv : List Nat} {sc : Scope} (h : freeOk nm kd fv sc = true) :
    sc.kind = .function ∧ (∀ x ∈ fv, sc.names.lookup (nm x) = some .free ∧ kd (nm x) = some .cell) ∧ ∀ y ∈ sc.names, (y.2 = .local → sc.names.lookup y.1 = some .local) ∧ (y.2 = .free → kd y.1 = some .cell) ∧ y.2 ≠ .cell := by
  unfold freeOk at h
  simp only [Bool.and_eq_true, beq_iff_eq, List.all_eq_true] at h
  obtain ⟨⟨h1, h2⟩, h3⟩ := h
  refine ⟨h1, h2, fun y hy => ?_⟩
  have := h3 y hy
  obtain ⟨n, k⟩ := y
  refine ⟨fun e => ?_, fun e => ?_, fun e => ?_⟩
  · simp only at e; subst e; simpa using this
  · simp only at e; subst e
    simp only [Bool.and_eq_true, List.any_eq_true, beq_iff_eq] at this
    obtain ⟨⟨x, hx, rfl⟩, _⟩ := this
    exact (h2 x hx).2
  · simp only at e; subst e; simp at this

theorem notSet {kd : Str → Option NameKind} {ce : CE} (h : chk W.nm m kd ce x = true) : ∀ v, foldedSetIterable x env v = pure v := by
  intro v
  cases m with
  | zero => cases h
  | succ m => cases x <;> first | rfl | (cases ce <;> cases h)

/-- the comprehension's own names -/
theorem compEnv_rel {sc : Scope} {fv : List Nat} {cl : List (Str × Addr)} {C : Addr} {ρ' : Loc} {L' : Lo} {h h' : Heap} (he : EnvRel W false env ρ L h) (hf : freeOk W.nm env.kindOf fv sc = true)
    (c2 : ∀ y c, cl.lookup y = some c → env.cells.lookup y = some c) (c3 : ∀ y ∈ sc.names, y.2 = .free → (cl.lookup y.1).isSome = true) (c4 : ∀ b ∈ cl.map (·.2), b ∈ env.cells.map (·.2))
    (hcap : capture ρ fv = some ρ') (kk : KA h h') (rl : ∀ {v : Value} {p : PV}, RelV false L h v p → RelV false L' h' v p) (hC : ∃ m, h'.Ns C m) (hCo : C ∉ own L') (hCb : W.b0.get? C = none) (hown : ∀ b ∈ faOf env, b ∉ own L') :
    EnvRel W false (compEnvC sc cl C env) ρ' L' h' := by
  obtain ⟨f1, f2, f3⟩ := free_names hf
  have kinds : ∀ y, (compEnvC sc cl C env).kindOf y = kdIn env.kindOf sc y := fun y => relabel_lookup he.kind y
  refine ⟨f1, he.globals, he.builtins, hC, fun x pv e => ?_, fun y c e => ?_, fun y z c e1 e2 => he.apart y z c (c2 y c e1) (c2 z c e2), fun b hb => ?_, fun b hb => ?_, fun b hb => ?_, fun y e => ?_⟩
  · obtain ⟨hx, hl⟩ := capture_lk hcap x pv e
    obtain ⟨g1, g2⟩ := f2 x hx
    obtain ⟨v, hn, rv⟩ := he.names x pv hl
    refine ⟨v, .inr ⟨.inl ?_, ?_⟩, rl rv⟩
    · rw [kinds]; unfold kdIn; rw [g1]; simp [g2]
    · rcases hn with ⟨hk, _⟩ | ⟨_, c, hc, hv⟩
      · rw [g2] at hk; cases hk
      · obtain ⟨c', hc'⟩ := Option.isSome_iff_exists.mp (c3 (W.nm x, .free) (mem_of_lookup g1) rfl)
        have := c2 _ _ hc'
        rw [hc] at this; cases this
        exact ⟨c, hc', (kk.slt c).cell hv⟩
  · obtain ⟨v, hv⟩ := he.cells y c (c2 y c e)
    exact ⟨v, (kk.slt c).cell hv⟩
  · rcases List.mem_cons.mp hb with rfl | hb
    · exact hCo
    · obtain ⟨y, hy⟩ := faOf_cell (env := compEnvC sc cl C env) hb
      exact hown b (cell_mem (c2 y b hy))
  · rcases List.mem_cons.mp hb with rfl | hb
    · obtain ⟨mm, o, es, ep, ho, hd, _⟩ := hC
      exact ⟨o, ho, .inl ⟨_, _, hd⟩⟩
    · obtain ⟨y, hy⟩ := faOf_cell (env := compEnvC sc cl C env) hb
      obtain ⟨o, ho, z⟩ := he.low b (cell_mem (c2 y b hy))
      exact ⟨o, kk b o ho, z⟩
  · rcases List.mem_cons.mp hb with rfl | hb
    · exact hCb
    · obtain ⟨y, hy⟩ := faOf_cell (env := compEnvC sc cl C env) hb
      exact he.fresh b (cell_mem (c2 y b hy))
  · rw [kinds] at e
    unfold kdIn at e
    cases hl : sc.names.lookup y with
    | none => rw [hl] at e; cases e
    | some kd =>
      have hm := mem_of_lookup hl
      cases kd with
      | free => exact Option.isSome_iff_exists.mp (c3 _ hm rfl)
      | cell => exact absurd rfl (f3 _ hm).2.2
      | _ => rw [hl] at e; cases e

theorem se_comp (wk : WK W K) (ih : SE W Φ k n) (ihc : SC W Φ k n) {elt : CE} {xs : List Nat} {tt : Bool} {fv : List Nat} {it : CE} {ce : Option CE} (h : chk W.nm (m + 1) env.kindOf (.comp elt xs tt fv it ce) x = true) (a : At W Φ k A env fs ρ L σ s) :
    Snd W Φ.q fs A (eval x env) (ev Φ (n + 1) (.comp elt xs tt fv it ce) ρ σ) (RelV Φ.q) L s := by
  intro r Q E hr P
  simp only [chk] at h
  split at h
  · rename_i x' tg iter ifs sc pos
    simp only [Bool.and_eq_true] at h
    obtain ⟨⟨⟨⟨h1, h2⟩, h3⟩, h4⟩, h5⟩ := h
    unfold ev at hr
    split at hr
    · cases hr
    rename_i hq
    have hq := q_false hq
    obtain ⟨f1, f2, f3⟩ := free_names h2
    have henv := a.env
    rw [hq] at henv P
    obtain ⟨cl, d1, d2, d3, d4⟩ := closure_ok (env := env) (sc := sc) fun y hy e => by
      obtain ⟨c, hc⟩ := henv.have_ _ ((f3 y hy).2.1 e)
      rw [hc]; rfl
    rw [eval_ListComp]
    refine wpAny_comprehension_free (use := none) rfl (notSet h1) d1 f1 (fun y hy e => (f3 y hy).1 e) ?_
    show wpAny _ _ (eval iter env) _ _ _
    have ihe := ih.e h1 a
    rw [hq] at ihe
    refine bnd_ok hr ihe P fun p σ₁ v L₁ h₁ tk hf st af rel P₁ => ?_
    split at hf
    rotate_left
    · cases hf
    rename_i ρ' hcap
    obtain ⟨r₁, hr₁⟩ := bnd_some hf
    obtain ⟨o, ho⟩ := evC_item hr₁
    have env1 := henv.aft af
    refine iter_ok (s := { s with heap := h₁, toks := tk }) ho st.lay rel fun I h₂ hI k12 it2 => ?_
    refine wpAny_newList ?_ (Nat.zero_le _)
    refine wpAny_newFunctionEnv (fun y hy => (f3 y hy).2.2) (by intro y hy; simp at hy) (fun h₄ hns₄ hsb₄ => ?_) f1
    dsimp only at hns₄ hsb₄ ⊢
    generalize hH3 : h₂.push { cls := .type "list", data := .seq ([] : List Value).toArray } = h₃ at hns₄ hsb₄ ⊢
    have hC3 := fresh_none h₃
    have hD2 := fresh_none h₂
    generalize hDD : h₂.objs.size = D at hD2 ⊢
    generalize hCC : h₃.objs.size = C at hC3 hns₄ hsb₄ ⊢
    have k23 : KA h₂ h₃ := hH3 ▸ KA.push _ _
    have k34 : KA h₃ h₄ := fun b o e => by
      have hb : b ≠ C := fun z => by rw [z, hC3] at e; cases e
      exact (hsb₄.2 b hb).trans (Heap.get?_push_of_some _ e)
    have k24 := k23.trans k34
    have k14 := k12.trans k24
    have back : ∀ {a : Addr}, h₄.get? a = none → h₁.get? a = none := fun {a} e => by
      cases z : h₁.get? a with
      | none => rfl
      | some o => rw [k14 a o z] at e; cases e
    have hD1 : h₁.get? D = none := by
      cases z : h₁.get? D with
      | none => rfl
      | some o => rw [k12 D o z] at hD2; cases hD2
    have hC1 : h₁.get? C = none := by
      cases z : h₁.get? C with
      | none => rfl
      | some o => rw [(k12.trans k23) C o z] at hC3; cases hC3
    have hD4 : h₄.PlainList D #[] := ⟨0, k34 D _ (by rw [← hH3, ← hDD]; exact Heap.get?_push_size _ rfl)⟩
    have b0no : ∀ {a : Addr}, h₁.get? a = none → W.b0.get? a = none := fun {a} e => by
      cases z : W.b0.get? a with
      | none => rfl
      | some o => rw [st.base a o z] at e; cases e
    have stH := st_hide (D := D) st k14 hD1 (let ⟨_, ho⟩ := hD4; ⟨_, ho⟩)
    have rl : ∀ {v : Value} {p : PV}, RelV false L₁ h₁ v p → RelV false (L₁.hide D) h₄ v p := fun r => RelV.move (fun a q => (own_hide q).elim (fun z => .inr (z ▸ hD1)) .inl) (fun _ _ e => e) (fun b o ho hv hb => k14.slt b) (fun z => by cases z) r
    have notO : ∀ {a : Addr}, h₁.get? a = none → a ≠ D → a ∉ own (L₁.hide D) := fun {a} e hne z => by
      rcases own_hide z with z | z
      · exact hne z
      · obtain ⟨o, ho⟩ := st.lay.live z
        rw [e] at ho; cases ho
    have hCD : C ≠ D := fun z => by
      obtain ⟨nn, hn⟩ := hD4
      obtain ⟨o, es, ep, ho, hd, _⟩ := hns₄
      rw [z, hn] at ho; cases ho; cases hd
    have hCo := notO hC1 hCD
    have it4 := it2.of fun o e => k24 I o e
    have hID : I ≠ D := fun z => by
      obtain ⟨o, _, _, ho, _⟩ := it2.obj
      rw [z, hD2] at ho; cases ho
    have hIo := notO hI hID
    have hownfa : ∀ b ∈ faOf env, b ∉ own (L₁.hide D) := fun b hb z => by
      rcases own_hide z with z | z
      · obtain ⟨o, ho, _⟩ := env1.low b hb
        rw [z, hD1] at ho; cases ho
      · exact env1.off b hb z
    have env4 : EnvRel W false (compEnvC sc cl C env) ρ' (L₁.hide D) h₄ := compEnv_rel env1 h2 d2 d3 d4 hcap k14 rl ⟨_, hns₄⟩ hCo (b0no hC1) hownfa
    have kinds : (compEnvC sc cl C env).kindOf = kdIn env.kindOf sc := funext fun y => relabel_lookup henv.kind y
    have a4 : At W Φ k A (compEnvC sc cl C env) fs ρ' (L₁.hide D) σ₁ { s with heap := h₄, toks := tk + ([] : List (Str × Value)).length } :=
      ⟨⟨a.ar.frames, a.ar.top, a.ar.frame, a.ar.depth, a.ar.units⟩, a.hq, by rw [hq]; exact env4, by rw [hq]; exact stH, a.code_⟩
    have hFC : ∀ env ∈ fs, env.frame ≠ some C := fun e he z => by
      obtain ⟨_, F, o, g1, _, _, g4, _⟩ := st.fr e he
      rw [z] at g1; cases g1
      rw [hC1] at g4; cases g4
    have loop : codeAny (model W.prog W.w) A (.compLoop (.ListComp x' [⟨tg, iter, ifs, 0⟩] sc pos) 0 (.ref I) (.ref D) (compEnvC sc cl C env)) (compPost (model W.prog W.w) A E none Q (.ref D) C) { s with heap := h₄, toks := tk + ([] : List (Str × Value)).length } := by
      refine ihc.c hq (by rw [kinds]; exact h3) (by rw [kinds]; exact h4) ?_ a4 (List.mem_cons_self ..) hD4 (by simp [RelVs]) (rl rel) it4 hIo (b0no hI) hCo (b0no hC1) hr₁ ?_
      · rw [kinds]
        cases ce <;> cases ifs <;> try (simp at h5; done)
        · trivial
        · rename_i c t ts
          cases ts
          · exact h5
          · simp at h5
      · have lift : ∀ {L' : Lo} {h' h'' : Heap} {T : List LO}, Aft [I, C, D] (L₁.hide D) h₄ L' h' → L' = L₁.hide D ++ T → (∀ a ∈ ownT T, h₄.get? a = none) → (∀ b, b ∉ ownT (L₁.hide D).l → b ∉ [I, C, D] → Slt h₄ h' b) → (∀ b o, h₁.get? b = some o → ∀ o', h'.get? b = some o' → Slt h' h'' b) → Aft [] L₁ h₁ (L₁ ++ T) h'' := by
          intro L' h' h'' T _ _ hT hk hs
          refine ⟨⟨T, rfl, fun a ha => back (hT a ha)⟩, fun b hb _ o e => ?_⟩
          have hb3 : b ∉ [I, C, D] := by
            simp only [List.mem_cons, List.not_mem_nil, or_false]
            rintro (rfl | rfl | rfl)
            · rw [hI] at e; cases e
            · rw [hC1] at e; cases e
            · rw [hD1] at e; cases e
          have s1 := hk b hb hb3
          obtain ⟨sl, e1, _⟩ := s1 o (k14 b o e)
          exact (s1.trans (hs b o e _ e1)) o (k14 b o e)
        cases r₁ with
        | ok l σ' =>
          intro L' h' tk' vs' st' af' pl' rel' ns'
          rw [hr₁] at hf
          simp only [bnd, Option.some.injEq] at hf
          subst hf
          obtain ⟨mm, hm⟩ := ns'
          replace hm : h'.Ns C mm := hm
          refine ⟨mm, hm, fun h'' hs'' => ?_⟩
          have kk := af'.kept
          have af0 := af'
          obtain ⟨⟨T, rfl, hT⟩, _⟩ := af'
          have kC : ∀ b o, b ≠ C → h'.get? b = some o → h''.get? b = some o := fun b o hb e => (hs''.2 b hb).trans e
          have hCo' : C ∉ own (L₁.hide D ++ T) := by
            obtain ⟨o, _, _, hoC, _⟩ := hns₄
            exact own_pre hCo hT hoC
          obtain ⟨st'', rl'', rls''⟩ := st_show (C := C) st' kC hCo' (b0no hC1) (fun o ho => by
            obtain ⟨o', es, ep, ho', hd, _⟩ := hm
            rw [ho] at ho'; cases ho'
            exact ⟨_, _, hd⟩) hFC
          have af'' : Aft [] L₁ h₁ (L₁ ++ T) h'' := lift af0 rfl hT kk fun b o e o' e' => .of_some (kC b · fun z => by rw [z, hC1] at e; cases e)
          refine P₁ (.ref D) (L₁ ++ T) h'' tk' st'' af'' ?_
          simp only [RelV]
          obtain ⟨nn, hn⟩ := pl'
          refine ⟨D, vs', rfl, fun z => ?_, ⟨_, kC D _ hCD.symm hn, rfl, nn, rfl⟩, rls'' rel'⟩
          rw [own_append, List.mem_append] at z
          rcases z with z | z
          · obtain ⟨o, ho⟩ := st.lay.live z
            rw [hD1] at ho; cases ho
          · obtain ⟨nn, hn⟩ := hD4
            rw [hT D z] at hn; cases hn
        | exc px σ' =>
          intro e L' h' tk' st' af' X ns'
          rw [hr₁] at hf
          simp only [bnd, Option.some.injEq] at hf
          subst hf
          obtain ⟨mm, hm⟩ := ns'
          replace hm : h'.Ns C mm := hm
          refine ⟨mm, hm, fun h'' hs'' cenv hcl => ?_⟩
          have kk := af'.kept
          have af0 := af'
          obtain ⟨⟨T, rfl, hT⟩, _⟩ := af'
          have kC : ∀ b o, b ≠ C → h'.get? b = some o → h''.get? b = some o := fun b o hb e => (hs''.2 b hb).trans e
          have hCo' : C ∉ own (L₁.hide D ++ T) := by
            obtain ⟨o, _, _, hoC, _⟩ := hns₄
            exact own_pre hCo hT hoC
          obtain ⟨st'', rl'', rls''⟩ := st_show (C := C) st' kC hCo' (b0no hC1) (fun o ho => by
            obtain ⟨o', es, ep, ho', hd, _⟩ := hm
            rw [ho] at ho'; cases ho'
            exact ⟨_, _, hd⟩) hFC
          have af'' : Aft [] L₁ h₁ (L₁ ++ T) h'' := lift af0 rfl hT kk fun b o e o' e' => .of_some (kC b · fun z => by rw [z, hC1] at e; cases e)
          have X'' : ExcAt W h₁ (L₁ ++ T) h'' e px true := (X.kept (L' := L₁ ++ T) (fun b o hb ho => kC b o (fun z => by
            obtain ⟨o', _, _, hoC, _⟩ := hns₄
            rw [z, hoC] at hb; cases hb) ho) (fun a q => own_hide_sub q)).back fun a q => back q
          unfold PySem.passOn
          obtain ⟨oe, vs, vv, ho, hd, hv, z⟩ := X''.tb
          refine wpAny_bind (wpAny_field (s := { s with heap := h'', toks := tk' }) ho hd hv ?_)
          rcases z with ⟨z, _⟩ | ⟨T', rfl⟩
          · cases z
          rw [if_neg (by simp)]
          refine wpAny_bind (flight_ok (s := { s with heap := h'', toks := tk' }) (fs := fs) X'' fun h₅ n5 X5 => ?_)
          exact wpAny_throw (P₁ e (L₁ ++ T) h₅ tk' (st''.nt X'' n5) (af''.nt X'' n5 st''.fr) X5.weak)
    refine codeAny_compStart_list loop (self_ok (s := { s with heap := h₄, toks := tk + ([] : List (Str × Value)).length }) it4 loop)
  · cases h
end
end Mine
end
/-! M14: fields set, items set -/
section
set_option autoImplicit false
set_option linter.unusedVariables false
set_option linter.unusedSimpArgs false
set_option maxRecDepth 100000
namespace Mine
open PySem PySem.W PySem.Calls PyProof.Rows

/-- a class whose line ends at object, or at Exception: what stores there passes -/
def overOk : List Value → Bool
  | [.type n] => n == "object"
  | [.type a, .type b, .type c] => a == "Exception" && b == "BaseException" && c == "object"
  | .ref _ :: r => overOk r
  | _ => false
theorem exc_passes (self : Value) : refuseLoop self "__setattr__" [.type "Exception", .type "BaseException", .type "object"] = pure () := by kernel_rfl
theorem over_pass (self : Value) : ∀ {l : List Value}, overOk l = true → refuseLoop self "__setattr__" l = pure () ∧ l.contains (.type "object") = true ∧ l.isEmpty = false := by
  intro l
  induction l with
  | nil => intro e; cases e
  | cons a r ih =>
    intro e
    unfold overOk at e
    split at e
    · rename_i n q
      injection q with q1 q2; subst q1 q2
      obtain rfl := beq_iff_eq.mp e
      exact ⟨PySem.F.store_object.passes self, by simp, rfl⟩
    · rename_i n1 n2 n3 q
      injection q with q1 q2; subst q1 q2
      simp only [Bool.and_eq_true, beq_iff_eq] at e
      obtain ⟨⟨rfl, rfl⟩, rfl⟩ := e
      exact ⟨exc_passes self, by simp, rfl⟩
    · rename_i q
      injection q with q1 q2; subst q1 q2
      obtain ⟨a, b, c'⟩ := ih e
      exact ⟨by rw [refuseLoop_ref]; exact a, by rw [List.contains_cons, b, Bool.or_true], rfl⟩
    · cases e
def plainOverX (K : Frag) (C : Addr) : Bool := (clsIn K C).any fun cd => overOk cd.mro
section
variable {prog : Program} {w : World} {A : Around} {s : Shared} {K : Frag} {C x : Addr} {R : Result → Shared → Prop}
theorem osa_openX {ox : Obj} {od : Option Obj} {name : Str} {tk : Tok} {v : Value} {r : Option Value} (X : K.In s.heap) (I : InstAt s.heap x ox C od) (hp : plainOverX K C = true) (ht : takerIn K C name = some r)
    (h : ∀ b, wpAny (model prog w) A.in1 (match r with | some a => Builtin.ObjectAttr.setByDescriptor a (.ref x) v | none => Builtin.ObjectAttr.storeInOwnDict (.ref x) (.ref C) (.str name tk) name v b)
      (fun fin s' => match fin with | .done f => R (.ok f) s' | .again c' => c'.quiet = true ∧ codeAny (model prog w) A c' R s') (fun e s' => R (.error e) s') s) :
    codeAny (model prog w) A (.call (.builtin "object.__setattr__") ⟨[.ref x, .str name tk, v], []⟩) R s := by
  have SF := PySem.F.store_object
  obtain ⟨cd, hc, ho⟩ := any_some hp
  obtain ⟨hpass, hhas, ne⟩ := over_pass (.ref x) ho
  have sub : Looks (model prog w) s.heap (isInstance (.ref x) (.type "object")) true := I.type.andThen (looks_mroIn X (by unfold mroIn; rw [hc, Option.bind_some, if_neg (by rw [ne]; decide), hhas]))
  refine codeAny_call_builtin SF.slot.plain SF.entry (@check_slot (model prog w) _ _ s "object.__setattr__" "object" "__setattr__" (.ref x) [.str name tk, v] [] _ SF.kind SF.split sub (SF.args (.ref x) (.str name tk) v) ?_)
  obtain ⟨attr, ha, hr⟩ := Option.bind_eq_some_iff.mp ht
  have hm : Looks (model prog w) s.heap (mroOf (.ref C)) cd.mro := (looks_clsIn X hc).andThen .now
  have L3 : Looks (model prog w) s.heap (Builtin.ObjectAttr.storeTaker? attr) r := by
    cases attr with
    | none => cases hr; exact .now
    | some a =>
      obtain ⟨b, hb, rfl⟩ := Option.map_eq_some_iff.mp hr
      refine (looks_takesIn X hb).andThen ?_
      cases b <;> exact .now
  rw [osa_eq, refuse_eq]
  refine wpAny_bind (wpAny_bind (I.type.here (wpAny_bind (hm.here ?_))))
  rw [hpass]
  refine wpAny_pure (wpAny_bind (I.type.here (wpAny_bind ((looks_findIn X ha).here (wpAny_bind (L3.here ?_))))))
  exact h _
end

theorem putName_at (name : Str) (hsh : Int) (key v : Value) (cl : Value) (od : Option Addr) (sl : Array (Option Value)) (es : List DictEntry) (n : Nat) :
    Obj.putName name hsh key v { cls := cl, dict := od, data := .dict es.toArray n, slots := sl } = { cls := cl, dict := od, data := .dict (putL name hsh key v es).toArray (putN name es n), slots := sl } := by
  have := putName_dict name hsh key v es n
  rw [Obj.putName_eq] at this ⊢
  unfold Obj.putNameByArray dictOf at this
  unfold Obj.putNameByArray
  dsimp only at this ⊢
  split at this <;> (simp only [Obj.mk.injEq, true_and, and_true] at this ⊢; exact this)

section
variable {prog : Program} {w : World} {A : Around} {E : Value → Shared → Prop} {s : Shared} {K : Frag} {C x : Addr}
theorem osa_raw {R : Result → Shared → Prop} {ox : Obj} {dx : Addr} {name : Str} {tk : Tok} {v : Value} {cl : Value} {od : Option Addr} {sl : Array (Option Value)} {es : List DictEntry} {n : Nat} (X : K.In s.heap)
    (I : InstAt s.heap x ox C (some { cls := cl, dict := od, data := .dict es.toArray n, slots := sl })) (hd : ox.dict = some dx) (hp : plainOverX K C = true) (ht : takerIn K C name = some none) (hh : hasDictIn K C = true)
    (hl : (getL name es).isSome = true) (hz : es.length ≤ 900)
    (h : R (.ok (.ret .none)) { s with heap := s.heap.update dx (Obj.putName name (PyData.keyHash w.params name) (.str name s.toks) v), toks := s.toks + 1 }) :
    codeAny (model prog w) A (.call (.builtin "object.__setattr__") ⟨[.ref x, .str name tk, v], []⟩) R s := by
  refine osa_openX X I hp ht fun b => ?_
  obtain ⟨cd, hc, hd'⟩ := any_some hh
  have D : s.heap.get? dx = some { cls := cl, dict := od, data := .dict es.toArray n, slots := sl } := by
    have := I.dict
    rw [hd] at this
    exact this
  obtain ⟨hx, hcl, hn, -⟩ := I
  obtain ⟨oc, odi, oda, osl⟩ := ox
  dsimp only at hcl hd
  subst hcl hd
  refine wpAny_bind (wpAny_pure (wpAny_bind (wpAny_bind (wpAny_loadPart hx (wpAny_bind ((looks_clsIn X hc).here ?_))))))
  rw [hd']
  refine wpAny_pure (a := some dx) (wpAny_bind (wpAny_pure (wpAny_bind ?_)))
  unfold nsSet
  refine wpAny_bind (wpAny_bind (wpAny_askSetting (wpAny_pure (wpAny_bind (wpAny_mkText (wpAny_bind (wpAny_loadPart D ?_)))))))
  dsimp only
  have c : (!es.toArray.any (·.key.isStr name) && es.toArray.any (·.refKey)) = false := by
    rw [← Array.any_toList, ← Array.any_toList]
    unfold getL at hl
    split at hl
    · rename_i en he
      rw [List.any_eq_true.mpr ⟨en, List.mem_of_find?_eq_some he, List.find?_some he⟩]; rfl
    · split at hl
      · cases hl
      · rename_i z; rw [Bool.not_eq_true] at z; rw [z, Bool.and_false]
  rw [aRefKeyMayBeTheName_at, c]
  refine wpAny_updatePart D ?_
  have e := putName_at name (PyData.keyHash w.params name) (.str name s.toks) v cl od sl es n
  have D' := Heap.get?_update_self (h := s.heap) (a := dx) (Obj.putName name (PyData.keyHash w.params name) (.str name s.toks) v) D (by rw [e]; rfl)
  refine wpAny_bind (wpAny_lookBehind D' (by rw [e]; exact pastItsLine_dict (by
    have : (putL name (PyData.keyHash w.params name) (.str name s.toks) v es).length ≤ es.length + 1 := by
      clear h hl D D' e c hz
      induction es with
      | nil => simp [putL]
      | cons a r ih => simp only [putL]; split <;> simp <;> omega
    rw [List.size_toArray, sizeLine_eq]; omega)) ?_)
  exact wpAny_pure h
theorem set_raw {ox : Obj} {dx : Addr} {name : Str} {v : Value} {cl : Value} {od : Option Addr} {sl : Array (Option Value)} {es : List DictEntry} {n : Nat} {Q : Unit → Shared → Prop} (X : K.In s.heap)
    (I : InstAt s.heap x ox C (some { cls := cl, dict := od, data := .dict es.toArray n, slots := sl })) (hd : ox.dict = some dx) (hs : findIn K (.ref C) "__setattr__" = some (some (.builtin "object.__setattr__"))) (hp : plainOverX K C = true) (ht : takerIn K C name = some none) (hh : hasDictIn K C = true)
    (hl : (getL name es).isSome = true) (hz : es.length ≤ 900)
    (h : Q () { s with heap := s.heap.update dx (Obj.putName name (PyData.keyHash w.params name) (.str name (s.toks + 1)) v), toks := s.toks + 2 }) : wpAny (model prog w) A (setAttr (.ref x) name v) Q E s :=
  set_plain X I hs (osa_raw (s := { s with toks := s.toks + 1 }) X I hd hp ht hh hl hz h)
end
section
variable {W : Wd} {K : Frag} {fs : List Env} {L : Lo} {σ : Store} {A : Around} {E : Value → Shared → Prop} {s : Shared}
theorem ents_put (wok : WOk W) {q : Bool} {h : Heap} {x : Nat} {hsh : Int} {t : Tok} {v : Value} {p : PV} (rv : RelV q L h v p) : ∀ {es : List DictEntry} {l : List (Nat × PV)}, Ents W q L h es l → Ents W q L h (putL (W.nm x) hsh (.str (W.nm x) t) v es) (setL l x p)
  | [], [], _ => by simp only [putL, setL, Ents]; exact ⟨⟨t, rfl⟩, rv, trivial⟩
  | e :: es, (y, py) :: l, H => by
    simp only [Ents] at H
    obtain ⟨⟨u, hu⟩, hv, hr⟩ := H
    by_cases q : y = x
    · subst q
      have e1 : e.key.isStr (W.nm y) = true := by rw [hu]; simp [Value.isStr]
      simp only [putL, e1, if_true, setL, Ents]
      exact ⟨⟨u, hu⟩, rv, hr⟩
    · have e1 : e.key.isStr (W.nm x) = false := by
        rw [hu]
        simp only [Value.isStr, beq_eq_false_iff_ne, ne_eq]
        exact fun z => q (wok.inj _ _ z)
      simp only [putL, e1, Bool.false_eq_true, if_false, setL, if_neg q, Ents]
      exact ⟨⟨u, hu⟩, hv, ents_put wok rv hr⟩
  | [], _ :: _, H => by simp [Ents] at H
  | _ :: _, [], H => by simp [Ents] at H
theorem putL_len (name : Str) (hsh : Int) (key v : Value) : ∀ es : List DictEntry, (putL name hsh key v es).length ≤ es.length + 1
  | [] => by simp [putL]
  | e :: r => by
    have := putL_len name hsh key v r
    simp only [putL]
    split <;> simp only [List.length_cons] <;> omega
theorem setL_len (l : List (Nat × PV)) (x : Nat) (p : PV) : (setL l x p).length ≤ l.length + 1 := by
  induction l with
  | nil => simp [setL]
  | cons y r ih => obtain ⟨a, b⟩ := y; simp only [setL]; split <;> simp <;> omega
theorem ents_len {q : Bool} {h : Heap} : ∀ {es : List DictEntry} {l : List (Nat × PV)}, Ents W q L h es l → es.length = l.length
  | [], [], _ => rfl
  | _ :: _, (_, _) :: _, H => by simp only [Ents] at H; simp [ents_len H.2.2]
  | [], _ :: _, H => by simp [Ents] at H
  | _ :: _, [], H => by simp [Ents] at H
structure SetOk (W : Wd) (K : Frag) : Prop where
  st : ∀ c x, c = 6 → x < 3 → findIn K (.ref (W.cls c)) "__setattr__" = some (some (.builtin "object.__setattr__")) ∧ plainOverX K (W.cls c) = true ∧ takerIn K (W.cls c) (W.nm x) = some none
/-- a record's field is turned -/
theorem seta_ok (wk : WK W K) (so : SetOk W K) {k x : Nat} {v u : Value} {p : PV} {Q : Unit → Shared → Prop} {σ' : Store} (hx : x < 3) (hr : setAtt σ k x p = some σ') (st : St W false fs L σ s.heap) (rv : RelV false L s.heap v p) (ru : RelV false L s.heap u (.ref k))
    (h : ∀ h' tk, St W false fs L σ' h' → Aft [] L s.heap L h' → Q () { s with heap := h', toks := tk }) : wpAny (model W.prog W.w) A (setAttr u (W.nm x) v) Q E s := by
  unfold setAtt at hr
  split at hr
  · rename_i c l hs
    split at hr
    · rename_i hn
      cases hr
      simp only [RelV] at ru
      obtain ⟨pl, hpl, rfl⟩ := ru
      obtain ⟨hne, ho, es, en, hd, hlen, hen⟩ := st.lay.objs k pl _ hpl hs
      obtain ⟨hc6, hn⟩ := hn
      obtain ⟨a1, a2, attr, a3, a4⟩ := wk.att c x hc6 hx
      obtain ⟨b1, b2, b3⟩ := so.st c x hc6 hx
      have hg : (getL (W.nm x) es).isSome = true := by
        cases z : lk l x with
        | none => rw [(ents_get wk.toWOk hen x).2 z]; rfl
        | some p' => obtain ⟨v', e, _⟩ := (ents_get wk.toWOk hen x).1 p' z; rw [e]; rfl
      refine set_raw (wk.kin.keeps st.base) (ox := instObj (W.cls c) pl.d) (dx := pl.d) ⟨ho, rfl, rfl, hd⟩ rfl b1 b2 b3 a2 hg (by omega) ?_
      have e1 := putName_at (W.nm x) (PyData.keyHash W.w.params (W.nm x)) (.str (W.nm x) (s.toks + 1)) v (.type "dict") none #[] es en
      have D' := Heap.get?_update_self (h := s.heap) (a := pl.d) (Obj.putName (W.nm x) (PyData.keyHash W.w.params (W.nm x)) (.str (W.nm x) (s.toks + 1)) v) hd (by rw [e1]; rfl)
      rw [e1] at D'
      obtain ⟨st', af'⟩ := st_upd (h' := s.heap.update pl.d (Obj.putName (W.nm x) (PyData.keyHash W.w.params (W.nm x)) (.str (W.nm x) (s.toks + 1)) v)) (o := .inst c l) (o' := .inst c (setL l x p)) st hpl (fun b o _ hb e => upd_keep b o hb e) (fun rl rls =>
        ⟨hne, upd_keep _ _ hne ho, putL (W.nm x) (PyData.keyHash W.w.params (W.nm x)) (.str (W.nm x) (s.toks + 1)) v es, _, D', by
          have h1 := ents_len (ents_put (x := x) (hsh := PyData.keyHash W.w.params (W.nm x)) (t := s.toks + 1) wk.toWOk rv hen)
          rw [h1]
          have := setL_len l x p
          omega, (ents_put wk.toWOk (rl rv) (hen.keep rl))⟩)
      exact h _ _ st' af'
    · cases hr
  · cases hr
/-- a list's item is turned -/
theorem seti_ok {k : Nat} {i : Int} {v u j : Value} {p : PV} {Q : Unit → Shared → Prop} {σ' : Store} (hr : setLst σ k i p = some σ') (st : St W false fs L σ s.heap) (rv : RelV false L s.heap v p) (ru : RelV false L s.heap u (.ref k)) (rj : RelV false L s.heap j (.int i))
    (h : ∀ h' tk, St W false fs L σ' h' → Aft [] L s.heap L h' → Q () { s with heap := h', toks := tk }) : wpAny (model W.prog W.w) A (setItem u j v) Q E s := by
  unfold setLst at hr
  split at hr
  · rename_i l hs
    split at hr
    · rename_i hz
      cases hr
      simp only [RelV] at ru
      obtain ⟨pl, hpl, rfl⟩ := ru
      obtain ⟨t, rfl⟩ := rj
      obtain ⟨hda, vs, ⟨nn, ho⟩, hrel⟩ := st.lay.objs k pl _ hpl hs
      have hlen : vs.size = l.length := by simpa using hrel.length
      unfold SZ at hz
      obtain ⟨h0, h1, h2⟩ := hz
      have hT : s.TypeIs (.ref pl.a) "list" := ⟨_, ho, rfl⟩
      have hk : seqIndex? i vs.size = some i.toNat := seqIndex_of h0 (by rw [hlen]; exact h1)
      have hfit : Builtin.List.listFitsIndex i = true := fitsIndex_of h0 (by omega)
      clear h2
      have e1 : Obj.mapSeq (·.setIfInBounds i.toNat v) { cls := .type "list", data := .seq vs nn } = { cls := .type "list", data := .seq (vs.setIfInBounds i.toNat v) nn } := by simp [Obj.mapSeq]
      have fin : Q () { s with heap := s.heap.update pl.a (Obj.mapSeq (·.setIfInBounds i.toNat v)) } := by
        obtain ⟨st', af'⟩ := st_upd (h' := s.heap.update pl.a (Obj.mapSeq (·.setIfInBounds i.toNat v))) (o := .lst l) (o' := .lst (l.set i.toNat p)) st hpl (fun b o hb _ e => upd_keep b o hb e) (fun rl rls => ⟨hda, vs.setIfInBounds i.toNat v, ⟨nn, by
          rw [Heap.get?_update_self _ ho (by rw [e1]; rfl), e1]⟩, by
          rw [Array.toList_setIfInBounds]
          exact (rls hrel).set (rl rv)⟩)
        exact h _ s.toks st' af'
      unfold setItem
      try with_reducible refine wpAny_holding ?_
      try refine wpAny_bind (wpAny_pure ?_)
      refine wpAny_bind (wpAny_sequenceKey hT (by decide) ?_)
      refine wpAny_bind (wpAny_callSpecial?_slot (name := Str.ofString "__setitem__") hT slot_list_setitem (wpAny_call_entry slot_list_setitem hT entry_list_setitem ?_ (args_list_setitem _ _ _)))
      show wpAny _ _ (Builtin.List.listSubscript? (.int i t) >>= _) _ _ s
      refine wpAny_bind (wpAny_listSubscript_int hfit ?_)
      clear hfit
      obtain ⟨j, rfl⟩ := Int.eq_ofNat_of_zero_le h0
      have hj : j < vs.size := by rw [hlen]; simpa using h1
      have hx' : vs[j]? = some vs[j] := Array.getElem?_eq_getElem hj
      show wpAny _ _ ((seqItemAt pl.a j >>= fun r => pure (r.map (j, ·))) >>= _) _ _ s
      refine wpAny_bind (wpAny_bind (wpAny_seqItemAt ho rfl (wpAny_pure ?_)))
      rw [hx']
      show wpAny _ _ (setSeqItemAt pl.a j v >>= _) _ _ s
      refine wpAny_bind (wpAny_setSeqItemAt ho rfl ?_)
      first
        | exact wpAny_bind (wpAny_pure (wpAny_pure ⟨.none, rfl, wpAny_pure fin⟩))
        | exact wpAny_pure ⟨.none, rfl, wpAny_pure fin⟩
    · cases hr
  · cases hr
end
end Mine
end
/-! M15: plain statements -/
section
set_option autoImplicit false
set_option linter.unusedVariables false
set_option linter.unusedSimpArgs false
set_option maxRecDepth 100000
namespace Mine
open PySem PySem.W PyProof.Rows

def notComp : Expr → Bool
  | .ListComp .. => false
  | .SetComp .. => false
  | .DictComp .. => false
  | _ => true
def isStarred : Expr → Bool
  | .Starred .. => true
  | _ => false
/-- are a tuple's stores swapped? none: not told -/
def swCase (kd : Str → Option NameKind) (es : List Expr) (v : Expr) : Option Bool := match v with
  | .Tuple vs _ _ => (match es, vs with
    | [.Name i1 p1, .Name i2 p2], [v1, v2] =>
      if kd i1 == some .local && kd i2 == some .local then
        (if p1.line == p2.line && !(i1 == i2) && !(([v1, v2] : List Expr).all (foldedForSure 8)) && !(([v1, v2] : List Expr).all (constantsAlone 8)) && !(([v1, v2] : List Expr).any isStarred) then some true else none)
      else (if !(([v1, v2] : List Expr).any isStarred) then some false else none)
    | _, _ => none)
  | _ => some false
def bound1 (kd : Str → Option NameKind) (id : Str) : Bool := kd id == some .local || kd id == some .cell

mutual
def chkS (nm : Nat → Str) : Nat → (Str → Option NameKind) → CS → Stmt → Bool
  | 0, _, _, _ => false
  | m + 1, kd, cs, st => match cs with
    | .asg x e => (match st with | .Assign [.Name id _] v _ => id == nm x && bound1 kd id && notComp v && chk nm m kd e v | _ => false)
    | .asgT xs e => (match st with
      | .Assign [.Tuple es _ _] v _ => notComp v && chkL (fun c e => match c, e with
          | .loc x, .Name id _ => id == nm x && bound1 kd id
          | _, _ => false) (xs.map .loc) es && (swCase kd es v).isSome && decide (xs.length < 10) && chk nm m kd e v
      | _ => false)
    | .seta o a e => (match st with | .Assign [.Attribute (.Name vi vp) b _] v _ => b == nm a && decide (a < 3) && notComp v && chk nm m kd o (.Name vi vp) && chk nm m kd e v | _ => false)
    | .seti o i e => (match st with | .Assign [.Subscript ov iv _] v _ => notComp v && chk nm m kd o ov && chk nm m kd i iv && chk nm m kd e v | _ => false)
    | .exp e => (match st with | .Expr v _ => notComp v && chk nm m kd e v | _ => false)
    | .ret e => (match st with | .Return (some v) _ => chk nm m kd e v | _ => false)
    | .iff t b o => (match st with | .If tv bs os _ => chk nm m kd t tv && chkSs nm m kd b bs && chkSs nm m kd o os | _ => false)
    | .forr xs tt it b => (match st with | .For tg iv bs [] _ => chkT nm kd xs tt tg && chk nm m kd it iv && chkSs nm m kd b bs | _ => false)
    | .whil t b => (match st with | .While tv bs [] _ => chk nm m kd t tv && chkSs nm m kd b bs | _ => false)
    | .rais c args => (match st with | .Raise (some (.Call (.Name id _) es [] _)) none _ => id == nm c && kd id == some .globalImplicit && !(id == dbg) && chkL (chk nm m kd) args es | _ => false)
    | .tryy b c y e => (match st with
      | .Try bs [.ExceptHandler (some (.Name id _)) (some id') [.Return (some v) _] _] [] [] _ => chkSs nm m kd b bs && id == nm c && kd id == some .globalImplicit && !(id == dbg) && id' == nm y && kd id' == some .local && chk nm m kd e v
      | _ => false)
def chkSs (nm : Nat → Str) : Nat → (Str → Option NameKind) → List CS → List Stmt → Bool
  | 0, _, _, _ => false
  | _ + 1, _, [], [] => true
  | m + 1, kd, c :: cs, s :: ss => chkS nm m kd c s && chkSs nm m kd cs ss
  | _, _, _, _ => false
end

def PostS (W : Wd) (q : Bool) (fs : List Env) (env : Env) (L : Lo) (s : Shared) (rs : RS) (Q : Flow → Shared → Prop) (E : Value → Shared → Prop) : Prop := match rs with
  | .nxt ρ' σ' => ∀ L' h' tk, EnvRel W q env ρ' L' h' → St W q fs L' σ' h' → Aft (faOf env) L s.heap L' h' → Q .next { s with heap := h', toks := tk }
  | .ret v ρ' σ' => ∀ vv L' h' tk, EnvRel W q env ρ' L' h' → St W q fs L' σ' h' → Aft (faOf env) L s.heap L' h' → RelV q L' h' vv v → Q (.ret vv) { s with heap := h', toks := tk }
  | .exc x ρ' σ' => ∀ e L' h' tk, EnvRel W q env ρ' L' h' → St W q fs L' σ' h' → Aft (faOf env) L s.heap L' h' → ExcAt W s.heap L' h' e x false → E (.ref e) { s with heap := h', toks := tk }

section
variable {W : Wd} {q : Bool} {fs : List Env} {env : Env} {ρ ρ₁ : Loc} {L L₁ : Lo} {σ₁ : Store} {s : Shared} {h₁ : Heap} {tk : Nat} {rs : RS} {Q : Flow → Shared → Prop} {E : Value → Shared → Prop}
theorem EnvRel.live (e : EnvRel W q env ρ L h₁) : ∀ b ∈ faOf env, ∃ o, h₁.get? b = some o := fun b hb => let ⟨o, ho, _⟩ := e.low b hb; ⟨o, ho⟩
theorem PostS.next (P : PostS W q fs env L s rs Q E) (er : EnvRel W q env ρ₁ L₁ h₁) (st : St W q fs L₁ σ₁ h₁) (a : Aft (faOf env) L s.heap L₁ h₁) : PostS W q fs env L₁ { s with heap := h₁, toks := tk } rs Q E := by
  cases rs with
  | nxt ρ' σ' => exact fun L' h' tk' e' st' a' => P L' h' tk' e' st' (a.trans a' st.lay er.live)
  | ret v ρ' σ' => exact fun vv L' h' tk' e' st' a' r => P vv L' h' tk' e' st' (a.trans a' st.lay er.live) r
  | exc x ρ' σ' => exact fun e L' h' tk' e' st' a' X => P e L' h' tk' e' st' (a.trans a' st.lay er.live) (X.back fun _ z => a.none_of st.lay er.live z)
theorem bndE_ok {α β : Type} {Rel₁ : Lo → Heap → β → α → Prop} {A : Around} {t : Sem β} {m : Option (R α)} {f : α → Store → Option RS} {K : β → Shared → Prop}
    (hb : bndE ρ m f = some rs) (H : Snd W q fs A t m Rel₁ L s) (er : EnvRel W q env ρ L s.heap) (P : PostS W q fs env L s rs Q E)
    (hk : ∀ a σ₁ v L₁ h₁ tk, f a σ₁ = some rs → St W q fs L₁ σ₁ h₁ → Aft [] L s.heap L₁ h₁ → Rel₁ L₁ h₁ v a → EnvRel W q env ρ L₁ h₁ → PostS W q fs env L₁ { s with heap := h₁, toks := tk } rs Q E → K v { s with heap := h₁, toks := tk }) : wpAny (model W.prog W.w) A t K E s := by
  unfold bndE at hb
  split at hb
  · cases hb
  · rename_i a σ₁
    exact H _ K E rfl fun v L₁ h₁ tk st af rel => hk a σ₁ v L₁ h₁ tk hb st af rel (er.aft af) (P.next (er.aft af) st af.nil_mono)
  · rename_i x σ₁
    cases hb
    exact H _ K E rfl fun e L' h' tk st af X => P e L' h' tk (er.aft af) st af.nil_mono X
theorem EnvRel.congr (e : EnvRel W q env ρ L h₁) (hl : ∀ y, lk ρ₁ y = lk ρ y) : EnvRel W q env ρ₁ L h₁ :=
  ⟨e.kind, e.globals, e.builtins, e.ns, fun x pv z => e.names x pv (by rw [← hl]; exact z), e.cells, e.apart, e.off, e.low, e.fresh, e.have_⟩
end

structure SX (W : Wd) (Φ : Sig) (k n : Nat) : Prop where
  x : ∀ {m A env fs ρ L σ s cs st rs Q E}, chkS W.nm m env.kindOf cs st = true → At W Φ k A env fs ρ L σ s → ex Φ n cs ρ σ = some rs → PostS W Φ.q fs env L s rs Q E → wpAny (model W.prog W.w) A (exec st env) Q E s
  xs : ∀ {m A env fs ρ L σ s cs st rs Q E}, chkSs W.nm m env.kindOf cs st = true → At W Φ k A env fs ρ L σ s → exs Φ n cs ρ σ = some rs → PostS W Φ.q fs env L s rs Q E → wpAny (model W.prog W.w) A (execs st env) Q E s

section
variable {W : Wd} {K : Frag} {Φ : Sig} {k n m : Nat} {A : Around} {env : Env} {fs : List Env} {ρ : Loc} {L : Lo} {σ : Store} {s : Shared} {st : Stmt} {rs : RS} {Q : Flow → Shared → Prop} {E : Value → Shared → Prop}
theorem swaps_no {v : Expr} {t : Option Expr} {ln : Nat} (h : notComp v = true) : swapsWith v t ln env = pure false := by
  cases v <;> first | rfl | (cases h; done)
theorem bound1_ok {er : EnvRel W false env ρ L s.heap} {id : Str} (h : bound1 env.kindOf id = true) : (env.kindOf id = some .local ∧ env.locals ∈ faOf env) ∨ (env.kindOf id = some .cell ∧ ∃ c, env.cells.lookup id = some c ∧ c ∈ faOf env) := by
  unfold bound1 at h
  rcases Bool.or_eq_true_iff.mp h with h | h
  · exact .inl ⟨beq_iff_eq.mp h, List.mem_cons_self ..⟩
  · obtain ⟨c, hc⟩ := er.have_ _ (beq_iff_eq.mp h)
    exact .inr ⟨beq_iff_eq.mp h, c, hc, cell_mem hc⟩
theorem off_fa {er : EnvRel W false env ρ L s.heap} : ∀ b ∈ faOf env, b ∉ own L ∧ W.b0.get? b = none := fun b hb => ⟨er.off b hb, er.fresh b hb⟩

theorem sx_asg (wok : WOk W) (ih : SE W Φ k n) {x : Nat} {e : CE} (h : chkS W.nm (m + 1) env.kindOf (.asg x e) st = true) (a : At W Φ k A env fs ρ L σ s) (hr : ex Φ (n + 1) (.asg x e) ρ σ = some rs) (P : PostS W Φ.q fs env L s rs Q E) :
    wpAny (model W.prog W.w) A (exec st env) Q E s := by
  simp only [chkS] at h
  split at h
  · rename_i id ip v pos
    simp only [Bool.and_eq_true, beq_iff_eq] at h
    obtain ⟨⟨⟨rfl, hk⟩, hn⟩, hc⟩ := h
    unfold ex at hr
    split at hr
    · cases hr
    rename_i hq
    have hq := q_false hq
    have ihe := ih.e hc a
    have er := a.env
    rw [hq] at P er ihe
    refine wpAny_Assign_Name (bndE_ok hr ihe er P fun p σ₁ vv L₁ h₁ tk hf st₁ af rel er₁ P₁ => ?_) (swaps_no hn)
    cases hf
    refine store_ok (s := { s with heap := h₁, toks := tk }) wok er₁ rel (bound1_ok (s := { s with heap := h₁, toks := tk }) (er := er₁) hk) fun h' tk' c e' => ?_
    exact P₁ L₁ h' tk' e' (st₁.chg c (off_fa (s := { s with heap := h₁, toks := tk }) (er := er₁))) (c.aft L₁)
  · cases h
theorem sx_exp (ih : SE W Φ k n) {e : CE} (h : chkS W.nm (m + 1) env.kindOf (.exp e) st = true) (a : At W Φ k A env fs ρ L σ s) (hr : ex Φ (n + 1) (.exp e) ρ σ = some rs) (P : PostS W Φ.q fs env L s rs Q E) :
    wpAny (model W.prog W.w) A (exec st env) Q E s := by
  simp only [chkS] at h
  split at h
  · rename_i v pos
    simp only [Bool.and_eq_true, beq_iff_eq] at h
    obtain ⟨hn, hc⟩ := h
    unfold ex at hr
    split at hr
    · cases hr
    rename_i hq
    have hq := q_false hq
    have ihe := ih.e hc a
    have er := a.env
    rw [hq] at P er ihe
    refine wpAny_Expr (bndE_ok hr ihe er P fun p σ₁ vv L₁ h₁ tk hf st₁ af rel er₁ P₁ => ?_) (by unfold interactive; rw [er.kind]; rfl) (swaps_no hn)
    split at hf
    · cases hf
      have : vv = .none := rel
      subst this
      exact P₁ L₁ h₁ tk er₁ st₁ (.refl _ _ _)
    · cases hf
      obtain ⟨t, rfl⟩ := rel
      exact P₁ L₁ h₁ tk er₁ st₁ (.refl _ _ _)
    · cases hf
      obtain ⟨t, rfl⟩ := rel
      exact P₁ L₁ h₁ tk er₁ st₁ (.refl _ _ _)
    · cases hf
  · cases h
theorem sx_ret (ih : SE W Φ k n) {e : CE} (h : chkS W.nm (m + 1) env.kindOf (.ret e) st = true) (a : At W Φ k A env fs ρ L σ s) (hr : ex Φ (n + 1) (.ret e) ρ σ = some rs) (P : PostS W Φ.q fs env L s rs Q E) :
    wpAny (model W.prog W.w) A (exec st env) Q E s := by
  simp only [chkS] at h
  split at h
  · unfold ex at hr
    refine wpAny_Return_some (bndE_ok hr (ih.e h a) a.env P fun p σ₁ vv L₁ h₁ tk hf st₁ af rel er₁ P₁ => ?_)
    cases hf
    exact P₁ vv L₁ h₁ tk er₁ st₁ (.refl _ _ _) rel
  · cases h
theorem sx_iff (ih : SE W Φ k n) (ihx : SX W Φ k n) {t : CE} {b o : List CS} (h : chkS W.nm (m + 1) env.kindOf (.iff t b o) st = true) (a : At W Φ k A env fs ρ L σ s) (hr : ex Φ (n + 1) (.iff t b o) ρ σ = some rs) (P : PostS W Φ.q fs env L s rs Q E) :
    wpAny (model W.prog W.w) A (exec st env) Q E s := by
  simp only [chkS] at h
  split at h
  · simp only [Bool.and_eq_true] at h
    obtain ⟨⟨h1, h2⟩, h3⟩ := h
    unfold ex at hr
    refine wpAny_If (bndE_ok hr (ih.t h1 a) a.env P fun p σ₁ vv L₁ h₁ tk hf st₁ af rel er₁ P₁ => ?_)
    have : vv = p := rel
    subst this
    have a₁ : At W Φ k A env fs ρ L₁ σ₁ { s with heap := h₁, toks := tk } := ⟨a.ar, a.hq, er₁, st₁, a.code_⟩
    cases vv
    · exact ihx.xs h3 a₁ hf P₁
    · exact ihx.xs h2 a₁ hf P₁
  · cases h
theorem sx_seta (wk : WK W K) (so : SetOk W K) (ih : SE W Φ k n) {o e : CE} {y : Nat} (h : chkS W.nm (m + 1) env.kindOf (.seta o y e) st = true) (a : At W Φ k A env fs ρ L σ s) (hr : ex Φ (n + 1) (.seta o y e) ρ σ = some rs) (P : PostS W Φ.q fs env L s rs Q E) :
    wpAny (model W.prog W.w) A (exec st env) Q E s := by
  simp only [chkS] at h
  split at h
  · rename_i vi vp b _ v pos
    simp only [Bool.and_eq_true, beq_iff_eq, decide_eq_true_eq] at h
    obtain ⟨⟨⟨⟨rfl, hy⟩, hn⟩, ho⟩, hc⟩ := h
    unfold ex at hr
    split at hr
    · cases hr
    rename_i hq
    have hq := q_false hq
    have er := a.env
    have ihe := ih.e hc a
    rw [hq] at P er ihe
    refine plainObj_wpAny_Assign_Attribute (bndE_ok hr ihe er P fun p σ₁ vv L₁ h₁ tk hf st₁ af rel er₁ P₁ => ?_) (swaps_no hn)
    have a₁ : At W Φ k A env fs ρ L₁ σ₁ { s with heap := h₁, toks := tk } := ⟨a.ar, a.hq, by rw [hq]; exact er₁, by rw [hq]; exact st₁, a.code_⟩
    have ihe₁ := ih.e ho a₁
    rw [hq] at ihe₁
    refine bndE_ok hf ihe₁ er₁ P₁ fun p₂ σ₂ v₂ L₂ h₂ tk₂ hf₂ st₂ af₂ rel₂ er₂ P₂ => ?_
    split at hf₂
    · obtain ⟨σ', hs, rfl⟩ := Option.map_eq_some_iff.mp hf₂
      refine seta_ok (s := { s with heap := h₂, toks := tk₂ }) wk so hy hs st₂ (af₂.rel (.nil _) (fun _ => rfl) rel) rel₂ fun h' tk' st' af' => ?_
      exact P₂ L₂ h' tk' (er₂.aft af') st' af'.nil_mono
    · cases hf₂
  · cases h
theorem sx_seti (ih : SE W Φ k n) {o i e : CE} (h : chkS W.nm (m + 1) env.kindOf (.seti o i e) st = true) (a : At W Φ k A env fs ρ L σ s) (hr : ex Φ (n + 1) (.seti o i e) ρ σ = some rs) (P : PostS W Φ.q fs env L s rs Q E) :
    wpAny (model W.prog W.w) A (exec st env) Q E s := by
  simp only [chkS] at h
  split at h
  · rename_i ov iv _ v pos
    simp only [Bool.and_eq_true] at h
    obtain ⟨⟨⟨hn, ho⟩, hi⟩, hc⟩ := h
    unfold ex at hr
    split at hr
    · cases hr
    rename_i hq
    have hq := q_false hq
    have er := a.env
    have ihe := ih.e hc a
    rw [hq] at P er ihe
    refine wpAny_Assign_Subscript (bndE_ok hr ihe er P fun p σ₁ vv L₁ h₁ tk hf st₁ af rel er₁ P₁ => ?_) (swaps_no hn)
    have a₁ : At W Φ k A env fs ρ L₁ σ₁ { s with heap := h₁, toks := tk } := ⟨a.ar, a.hq, by rw [hq]; exact er₁, by rw [hq]; exact st₁, a.code_⟩
    have ihe₁ := ih.e ho a₁
    rw [hq] at ihe₁
    refine bndE_ok hf ihe₁ er₁ P₁ fun p₂ σ₂ v₂ L₂ h₂ tk₂ hf₂ st₂ af₂ rel₂ er₂ P₂ => ?_
    have a₂ : At W Φ k A env fs ρ L₂ σ₂ { s with heap := h₂, toks := tk₂ } := ⟨a.ar, a.hq, by rw [hq]; exact er₂, by rw [hq]; exact st₂, a.code_⟩
    have ihe₂ := ih.e hi a₂
    rw [hq] at ihe₂
    refine bndE_ok hf₂ ihe₂ er₂ P₂ fun p₃ σ₃ v₃ L₃ h₃ tk₃ hf₃ st₃ af₃ rel₃ er₃ P₃ => ?_
    split at hf₃
    · obtain ⟨σ', hs, rfl⟩ := Option.map_eq_some_iff.mp hf₃
      refine seti_ok (s := { s with heap := h₃, toks := tk₃ }) hs st₃ (af₃.rel (.nil _) (fun _ => rfl) (af₂.rel (.nil _) (fun _ => rfl) rel)) (af₃.rel (.nil _) (fun _ => rfl) rel₂) rel₃ fun h' tk' st' af' => ?_
      exact P₃ L₃ h' tk' (er₃.aft af') st' af'.nil_mono
    · cases hf₃
  · cases h
theorem sx_cons (ihx : SX W Φ k n) {cs : List CS} {ss : List Stmt} (h : chkSs W.nm m env.kindOf cs ss = true) (a : At W Φ k A env fs ρ L σ s) (hr : exs Φ (n + 1) cs ρ σ = some rs) (P : PostS W Φ.q fs env L s rs Q E) :
    wpAny (model W.prog W.w) A (execs ss env) Q E s := by
  cases m with
  | zero => simp [chkSs] at h
  | succ m =>
  match cs, ss, h with
  | [], [], _ =>
    unfold exs at hr
    cases hr
    exact wpAny_execs_nil (P L s.heap s.toks a.env a.st (.refl _ _ _))
  | c :: cs, t :: ss, h =>
    simp only [chkSs, Bool.and_eq_true] at h
    unfold exs at hr
    refine wpAny_execs_cons ?_
    cases he : ex Φ n c ρ σ with
    | none => rw [he] at hr; cases hr
    | some r₁ =>
      rw [he] at hr
      refine ihx.x h.1 a he ?_
      cases r₁ with
      | nxt ρ' σ' =>
        intro L' h' tk er' st' af'
        exact ihx.xs h.2 ⟨a.ar, a.hq, er', st', a.code_⟩ hr (P.next er' st' af')
      | ret v ρ' σ' =>
        simp only [Option.some.injEq] at hr
        subst hr
        exact P
      | exc x ρ' σ' =>
        simp only [Option.some.injEq] at hr
        subst hr
        exact P
  | [], _ :: _, h => simp [chkSs] at h
  | _ :: _, [], h => simp [chkSs] at h
end
end Mine
end
/-! M16: tuples taken apart, loops -/
section
set_option autoImplicit false
set_option linter.unusedVariables false
set_option linter.unusedSimpArgs false
set_option maxRecDepth 100000
namespace Mine
open PySem PySem.W PyProof.Rows

theorem notStarred_match {v : Expr} (h : isStarred v = false) : (match (generalizing := false) v with | .Starred .. => true | _ => false) = false := by
  cases v <;> first | rfl | (cases h; done)
theorem sw_ok {env : Env} (hk : env.scope.kind = .function) {es : List Expr} {v : Expr} {b : Bool} {x1 : Nat} {tp : Pos} (h : swCase env.kindOf es v = some b) :
    (b = false ∧ swappedStores [.Tuple es x1 tp] v env = pure none) ∨ (b = true ∧ ∃ i1 p1 i2 p2, es = [.Name i1 p1, .Name i2 p2] ∧ i1 ≠ i2 ∧ swappedStores [.Tuple es x1 tp] v env = pure (some [i1, i2])) := by
  have hb : env.blockKind = .function := by unfold Env.blockKind; rw [hk]; rfl
  unfold swCase at h
  split at h
  · rename_i vs y1 y2
    split at h
    · rename_i i1 p1 i2 p2 v1 v2
      split at h
      · rename_i hl
        split at h
        · rename_i hc
          cases h
          refine .inr ⟨rfl, i1, p1, i2, p2, rfl, ?_, ?_⟩
          · simp only [Bool.and_eq_true, Bool.not_eq_true', beq_eq_false_iff_ne] at hc
            exact hc.1.1.1.2
          · simp only [Bool.and_eq_true, beq_iff_eq] at hl
            simp only [Bool.and_eq_true, Bool.not_eq_true', beq_iff_eq] at hc
            obtain ⟨⟨⟨⟨c1, c2⟩, c3⟩, c4⟩, c5⟩ := hc
            have c7 : ([i1, i2].eraseDups.length != [i1, i2].length) = false := by
              rw [List.eraseDups_cons]
              have : (i2 == i1) = false := by rw [BEq.comm]; exact c2
              simp [List.filter, this, List.eraseDups_cons]
            have c5' : isStarred v1 = false ∧ isStarred v2 = false := by simpa using c5
            have hp : (Expr.Name i1 p1).pos.line = p2.line := c1
            unfold swappedStores
            simp only [hb, hl.1, hl.2, c1, List.length_cons, List.length_nil, List.any_cons, List.any_nil, List.head?_cons, Option.map_some, Option.getD_some, List.filterMap_cons, List.filterMap_nil, Bool.or_false, beq_self_eq_true, Bool.and_self, if_true, hp, Bool.true_and]
            simp only [List.length_cons, List.length_nil] at c7
            have h0 : ((0 + 1 + 1 : Nat) != 0 + 1 + 1) = false := by decide
            have h9 : (ScopeKind.function != ScopeKind.function) = false := by decide
            rw [if_neg (by simp), if_neg (fun hh => by
              rcases Bool.or_eq_true_iff.mp hh with q | q
              · exact Bool.noConfusion (q.symm.trans (notStarred_match c5'.1))
              · exact Bool.noConfusion (q.symm.trans (notStarred_match c5'.2))), if_neg (by rw [c7]; simp), c3, c4]
            rfl
        · cases h
      · rename_i hl
        split at h
        · cases h
          refine .inl ⟨rfl, ?_⟩
          have hlen : ∀ (l : Nat), (([.Name i1 p1, .Name i2 p2] : List Expr).filterMap fun
            | .Name id pos => if env.kindOf id == some .local && pos.line == l then some id else none
            | _ => none).length ≠ 2 := fun l => by
            simp only [List.filterMap_cons, List.filterMap_nil]
            by_cases h1 : env.kindOf i1 = some .local
            · have h2 : ¬ env.kindOf i2 = some .local := fun z => hl (by simp [h1, z])
              have h2' : (env.kindOf i2 == some NameKind.local) = false := by simpa using h2
              rw [h2']
              simp only [Bool.false_and, Bool.false_eq_true, if_false]
              split <;> simp
            · have h1' : (env.kindOf i1 == some NameKind.local) = false := by simpa using h1
              rw [h1']
              simp only [Bool.false_and, Bool.false_eq_true, if_false]
              split <;> simp
          unfold swappedStores
          simp only
          split
          · rfl
          · split
            · rfl
            · have := hlen p1.line
              rw [if_pos]
              simp only [Bool.or_eq_true, bne_iff_ne, ne_eq]
              exact .inl this
        · cases h
    · cases h
  · cases h
    refine .inl ⟨rfl, ?_⟩
    cases v <;> first | rfl | (rename_i hv; exact absurd rfl (hv _ _ _))

theorem swapsS_no {v t : Expr} {ln : Nat} {env : Env} (h : notComp v = true) : swapsWithSole [t] v ln env = pure false := swaps_no h
section
variable {W : Wd} {K : Frag} {Φ : Sig} {k n m : Nat} {A : Around} {env : Env} {fs : List Env} {ρ : Loc} {L : Lo} {σ : Store} {s : Shared} {st : Stmt} {rs : RS} {Q : Flow → Shared → Prop} {E : Value → Shared → Prop}
theorem sx_asgT (wok : WOk W) (ih : SE W Φ k n) {xs : List Nat} {e : CE} (h : chkS W.nm (m + 1) env.kindOf (.asgT xs e) st = true) (a : At W Φ k A env fs ρ L σ s) (hr : ex Φ (n + 1) (.asgT xs e) ρ σ = some rs) (P : PostS W Φ.q fs env L s rs Q E) :
    wpAny (model W.prog W.w) A (exec st env) Q E s := by
  simp only [chkS] at h
  split at h
  · rename_i es x1 tp v pos
    simp only [Bool.and_eq_true, decide_eq_true_eq] at h
    obtain ⟨⟨⟨⟨hn, hN⟩, hS⟩, _⟩, hc⟩ := h
    unfold ex at hr
    split at hr
    · cases hr
    rename_i hq
    have hq := q_false hq
    have ihe := ih.e hc a
    have er := a.env
    have hh := a.hq hq
    rw [hq] at P er ihe
    obtain ⟨b, hb⟩ := Option.isSome_iff_exists.mp hS
    have body : ∀ {K' : Value → Shared → Prop}, (∀ (l : List PV) (ρ' : Loc) (σ₁ : Store) (v : Value) (L₁ : Lo) (h₁ : Heap) (tk : Nat), setLs ρ xs l = some ρ' → St W false fs L₁ σ₁ h₁ → Aft [] L s.heap L₁ h₁ → RelV false L₁ h₁ v (.tup l) → EnvRel W false env ρ L₁ h₁ →
        (∀ h' tk', Chg (faOf env) h₁ h' → EnvRel W false env ρ' L₁ h' → Q .next { s with heap := h', toks := tk' }) → K' v { s with heap := h₁, toks := tk }) → wpAny (model W.prog W.w) A (eval v env) K' E s := fun {K'} hk => by
      refine bndE_ok hr ihe er P fun p σ₁ vv L₁ h₁ tk hf st₁ af rel er₁ P₁ => ?_
      split at hf
      · rename_i l
        obtain ⟨ρ', hs, rfl⟩ := Option.map_eq_some_iff.mp hf
        exact hk l ρ' σ₁ vv L₁ h₁ tk hs st₁ af rel er₁ fun h' tk' c e' => P₁ L₁ h' tk' e' (st₁.chg c (off_fa (s := { s with heap := h₁, toks := tk }) (er := er₁))) (c.aft L₁)
      · cases hf
    rcases sw_ok (x1 := x1) (tp := tp) er.kind hb with ⟨_, hw⟩ | ⟨_, i1, p1, i2, p2, rfl, hne, hw⟩
    · refine Assign_Tuple (body fun l ρ' σ₁ vv L₁ h₁ tk hs st₁ af rel er₁ hk => ?_) (swapsS_no hn) hw
      exact unpack_ok (s := { s with heap := h₁, toks := tk }) wok (f := bound1 env.kindOf) hh (fun id q => bound1_ok (s := { s with heap := h₁, toks := tk }) (er := er₁) q) hN er₁ rel hs fun h' tk' c e' => hk h' tk' c e'
    · refine Assign_Tuple_swapped (body fun l ρ' σ₁ vv L₁ h₁ tk hs st₁ af rel er₁ hk => ?_) (swapsS_no hn) hw
      match xs, hN with
      | [y1, y2], hN =>
        simp only [List.map_cons, List.map_nil, chkL, Bool.and_eq_true, beq_iff_eq, Bool.true_and, and_true] at hN
        obtain ⟨⟨rfl, hb1⟩, rfl, hb2⟩ := hN
        have hl := setLs_len hs
        match l, hl with
        | [a1, a2], _ =>
          simp only [RelV] at rel
          obtain ⟨t, vs, rfl, _, ht, hrel⟩ := rel
          have hl2 := hrel.length
          have hsz : vs.size = 2 := by simpa using hl2
          have : ([W.nm y1, W.nm y2] : List Str).length = vs.size := by rw [hsz]; rfl
          rw [this]
          refine wpAny_unpackItems_tuple (s := { s with heap := h₁, toks := tk }) hh ht fun h' hx => ?_
          have k : KA h₁ h' := fun b o e => hx b o (fun z => by rw [z, fresh_none] at e; cases e) e
          cases hv : vs.toList with
          | nil => rw [hv] at hrel; simp [RelVs] at hrel
          | cons v1 r1 =>
            cases r1 with
            | nil => rw [hv] at hrel; simp [RelVs] at hrel
            | cons v2 r2 =>
              cases r2 with
              | cons => rw [hv] at hrel; simp [RelVs] at hrel
              | nil =>
              rw [hv] at hrel
              simp only [RelVs, and_true] at hrel
              obtain ⟨rv1, rv2⟩ := hrel
              have erk := er₁.ka k
              simp only [setLs, Option.some.injEq] at hs
              subst hs
              refine wpAny_assignInOrder_more (wpAny_bindName (store_ok (s := { s with heap := h', toks := tk }) wok erk (k.rel rv2) (bound1_ok (s := { s with heap := h', toks := tk }) (er := erk) hb2) fun h2 tk2 c2 e2 => ?_))
              refine wpAny_assignInOrder_more (wpAny_bindName (store_ok (s := { s with heap := h2, toks := tk2 }) wok e2 (c2.rel (k.rel rv1)) (bound1_ok (s := { s with heap := h2, toks := tk2 }) (er := e2) hb1) fun h3 tk3 c3 e3 => ?_))
              refine wpAny_assignInOrder_none (hk h3 tk3 (((Chg.ka k).trans c2).trans c3) (e3.congr fun y => ?_))
              have hyy : y1 ≠ y2 := fun z => hne (by rw [z])
              simp only [lk_setL]
              by_cases q1 : y = y1
              · subst q1; simp [hyy]
              · by_cases q2 : y = y2
                · subst q2; simp [Ne.symm hyy]
                · simp [q1, q2]
      | [], hN => simp [chkL] at hN
      | [_], hN => simp [chkL] at hN
      | _ :: _ :: _ :: _, hN => simp [chkL] at hN
  · cases h
end

def FPost (W : Wd) (fs : List Env) (env : Env) (fa : List Addr) (Rr : Result → Shared → Prop) (L : Lo) (s : Shared) : RS → Prop
  | .nxt ρ' σ' => ∀ L' h' tk, EnvRel W false env ρ' L' h' → St W false fs L' σ' h' → Aft fa L s.heap L' h' → Rr (.ok .next) { s with heap := h', toks := tk }
  | .ret v ρ' σ' => ∀ vv L' h' tk, EnvRel W false env ρ' L' h' → St W false fs L' σ' h' → Aft fa L s.heap L' h' → RelV false L' h' vv v → Rr (.ok (.ret vv)) { s with heap := h', toks := tk }
  | .exc x ρ' σ' => ∀ e L' h' tk, EnvRel W false env ρ' L' h' → St W false fs L' σ' h' → Aft fa L s.heap L' h' → ExcAt W s.heap L' h' e x true → Rr (.error (.ref e)) { s with heap := h', toks := tk }
section
variable {W : Wd} {fs : List Env} {env : Env} {fa : List Addr} {Rr : Result → Shared → Prop} {L L₁ : Lo} {σ₁ : Store} {s : Shared} {h₁ : Heap} {tk : Nat} {rs : RS} {ρ₁ : Loc}
theorem FPost.next (P : FPost W fs env fa Rr L s rs) (st : St W false fs L₁ σ₁ h₁) (a : Aft fa L s.heap L₁ h₁) (hfa : ∀ b ∈ fa, ∃ o, h₁.get? b = some o) : FPost W fs env fa Rr L₁ { s with heap := h₁, toks := tk } rs := by
  cases rs with
  | nxt ρ' σ' => exact fun L' h' tk' e' st' a' => P L' h' tk' e' st' (a.trans a' st.lay hfa)
  | ret v ρ' σ' => exact fun vv L' h' tk' e' st' a' r => P vv L' h' tk' e' st' (a.trans a' st.lay hfa) r
  | exc x ρ' σ' => exact fun e L' h' tk' e' st' a' X => P e L' h' tk' e' st' (a.trans a' st.lay hfa) (X.back fun _ z => a.none_of st.lay hfa z)
end
section
variable {prog : Program} {w : World} {A : Around} {Rr : Result → Shared → Prop} {s : Shared} {env : Env}
theorem for_turn {target it} {body : List Stmt}
    (h : wpAny (model prog w) A (pyNext it) (fun r s₁ => match r with
      | none => Rr (.ok .next) s₁
      | some v => wpAny (model prog w) A (letOwnedTupleGo target it v) (fun _ s₁' => wpAny (model prog w) A (assign target env v) (fun _ s₂ => wpAny (model prog w) A (execs body env) (fun f s₃ => match f with
          | .next | .cont => codeAny (model prog w) A (.forLoop target it body [] env) Rr s₃
          | .brk => Rr (.ok .next) s₃
          | .ret v => Rr (.ok (.ret v)) s₃) (notedBy (model prog w) A env fun e s' => Rr (.error e) s') s₂) (notedBy (model prog w) A env fun e s' => Rr (.error e) s') s₁') (notedBy (model prog w) A env fun e s' => Rr (.error e) s') s₁) (notedBy (model prog w) A env fun e s' => Rr (.error e) s') s) :
    codeAny (model prog w) A (.forLoop target it body [] env) Rr s := by
  refine codeAny_of_tree ?_
  show wpAny _ _ ((forTurn target it body [] env).onRaise (fun x => do noteFrame x env; theTreesLotGoes x)) _ _ s
  refine wpAny_noted ?_
  simp only [forTurn]
  refine wpAny_bind (wpAny_standAt (wpAny_bind (wpAny_onRaise (wpAny_mono h (fun r s₁ h₁ => ?_) fun _ _ h' => wpAny_standAt h'))))
  cases r with
  | none => exact wpAny_pure ⟨rfl, codeAny_block (wpAny_execs_nil h₁)⟩
  | some v =>
    refine wpAny_bind (wpAny_mono h₁ (fun _ s₁' h₁' => wpAny_bind (wpAny_mono h₁' (fun _ s₂ h₂ => wpAny_bind (wpAny_mono h₂ (fun f s₃ h₃ => ?_) fun _ _ h' => h')) fun _ _ h' => h')) fun _ _ h' => h')
    cases f with
    | next => exact wpAny_pure ⟨rfl, h₃⟩
    | cont => exact wpAny_pure ⟨rfl, h₃⟩
    | brk => exact wpAny_pure h₃
    | ret v => exact wpAny_pure h₃
theorem while_turn {test : Expr} {body : List Stmt}
    (h : wpAny (model prog w) A (isTrue test env (eval test env)) (fun b s₂ =>
        if b then wpAny (model prog w) A (execs body env) (fun f s₃ => match f with
            | .next | .cont => codeAny (model prog w) A (.whileLoop test body [] env) Rr s₃
            | .brk => Rr (.ok .next) s₃
            | .ret v => Rr (.ok (.ret v)) s₃) (notedBy (model prog w) A env fun e s' => Rr (.error e) s') s₂
        else Rr (.ok .next) s₂) (notedBy (model prog w) A env fun e s' => Rr (.error e) s') s) :
    codeAny (model prog w) A (.whileLoop test body [] env) Rr s := by
  refine codeAny_of_tree ?_
  show wpAny _ A ((whileTurn test body [] env).onRaise (fun x => do noteFrame x env; theTreesLotGoes x)) _ _ s
  refine wpAny_noted ?_
  simp only [whileTurn]
  refine wpAny_bind (wpAny_mono h (fun b s₂ h₂ => ?_) fun _ _ h' => h')
  cases b with
  | false =>
    simp only [Bool.false_eq_true, if_false] at h₂ ⊢
    exact wpAny_bind (wpAny_execs_nil (wpAny_pure h₂))
  | true =>
    simp only [if_true] at h₂ ⊢
    refine wpAny_bind (wpAny_mono h₂ (fun f s₃ h₃ => ?_) fun _ _ h' => h')
    cases f with
    | next => exact wpAny_pure ⟨rfl, h₃⟩
    | cont => exact wpAny_pure ⟨rfl, h₃⟩
    | brk => exact wpAny_pure h₃
    | ret v => exact wpAny_pure h₃
end

structure SL (W : Wd) (Φ : Sig) (k n : Nat) : Prop where
  f : ∀ {m A env fs ρ L σ s xs tt src i b bs tg I v Rr rs}, Φ.q = false → chkT W.nm env.kindOf xs tt tg = true → chkSs W.nm m env.kindOf b bs = true → At W Φ k A env fs ρ L σ s → RelV false L s.heap v src → ItAt s.heap I v src i → I ∉ own L → W.b0.get? I = none →
    exF Φ n xs tt src i b ρ σ = some rs → FPost W fs env (I :: faOf env) Rr L s rs → codeAny (model W.prog W.w) A (.forLoop tg (.ref I) bs [] env) Rr s
  w : ∀ {m A env fs ρ L σ s t b tv bs Rr rs}, Φ.q = false → chk W.nm m env.kindOf t tv = true → chkSs W.nm m env.kindOf b bs = true → At W Φ k A env fs ρ L σ s →
    exW Φ n t b ρ σ = some rs → FPost W fs env (faOf env) Rr L s rs → codeAny (model W.prog W.w) A (.whileLoop tv bs [] env) Rr s

section
variable {W : Wd} {K : Frag} {Φ : Sig} {k n m : Nat} {A : Around} {env : Env} {fs : List Env} {ρ : Loc} {L : Lo} {σ : Store} {s : Shared} {st : Stmt} {rs : RS} {Q : Flow → Shared → Prop} {E : Value → Shared → Prop}
/-- a loop's exception is noted and goes on -/
theorem exc_noted {fa : List Addr} {Rr : Result → Shared → Prop} {x : PX} {ρ' : Loc} {σ' : Store} (ar : Ar A env fs k) (P : FPost W fs env fa Rr L s (.exc x ρ' σ')) {e : Addr} {L' : Lo} {h' : Heap} {tk : Nat} (er : EnvRel W false env ρ' L' h') (st : St W false fs L' σ' h') (af : Aft fa L s.heap L' h')
    (hfa : ∀ b ∈ fa, ∃ o, h'.get? b = some o) (X : ExcAt W s.heap L' h' e x false) : notedBy (model W.prog W.w) A env (fun e s' => Rr (.error e) s') (.ref e) { s with heap := h', toks := tk } :=
  noted_ok (s := { s with heap := h', toks := tk }) ar st af hfa X fun h'' n' st'' af'' X'' => P e L' h'' tk (er.nt X n' st.fr) st'' af'' X''
theorem sl_f (wok : WOk W) (ihx : SX W Φ k n) (ihl : SL W Φ k n) : ∀ {m A env fs ρ L σ s xs tt src i b bs tg I v Rr rs}, Φ.q = false → chkT W.nm env.kindOf xs tt tg = true → chkSs W.nm m env.kindOf b bs = true → At W Φ k A env fs ρ L σ s → RelV false L s.heap v src → ItAt s.heap I v src i → I ∉ own L → W.b0.get? I = none →
    exF Φ (n + 1) xs tt src i b ρ σ = some rs → FPost W fs env (I :: faOf env) Rr L s rs → codeAny (model W.prog W.w) A (.forLoop tg (.ref I) bs [] env) Rr s := by
  intro m A env fs ρ L σ s xs tt src i b bs tg I v Rr rs hq hT hB a hv hit hIo hIb hr P
  have hh := a.hq hq
  have hst := a.st
  have henv := a.env
  rw [hq] at hst henv
  unfold exF at hr
  have hIf := hit.notFa henv
  have offI : ∀ b ∈ [I], b ∉ own L ∧ W.b0.get? b = none := fun b hb => by rw [List.mem_singleton.mp hb]; exact ⟨hIo, hIb⟩
  have liveI : ∀ {h : Heap} {j : Nat}, ItAt h I v src j → ∃ o, h.get? I = some o := fun x => let ⟨o, _, _, ho, _⟩ := x.obj; ⟨o, ho⟩
  have live : ∀ {h : Heap} {j : Nat} {L : Lo} {ρ : Loc}, ItAt h I v src j → EnvRel W false env ρ L h → ∀ b ∈ I :: faOf env, ∃ o, h.get? b = some o := fun x e b hb => by
    rcases List.mem_cons.mp hb with rfl | hb
    · exact liveI x
    · exact e.live b hb
  cases ho : itemAt σ tt src i with
  | none => rw [ho] at hr; cases hr
  | some o =>
    rw [ho] at hr
    refine for_turn (next_ok hh ho hst.lay hv hit ?_ ?_)
    · intro e h' hx
      subst e
      cases hr
      have c := hit.chg hx
      exact P L h' s.toks (henv.chg c fun b hb => by rw [List.mem_singleton.mp hb]; exact hIf) (hst.chg c offI) ((c.aft L).mono fun b hb => by simp [List.mem_singleton.mp hb])
    · intro p e y h₁ tk₁ hs it₁ ry
      subst e
      simp only at hr
      cases ht : takeV ρ xs tt p with
      | none => rw [ht] at hr; cases hr
      | some ρ₁ =>
      rw [ht] at hr
      simp only at hr
      have c1 := hit.chg hs.extBut
      have env1 := henv.chg c1 fun b hb => by rw [List.mem_singleton.mp hb]; exact hIf
      have hy : tt = true → ∃ a, y = .ref a := fun e => by
        subst e
        cases p <;> simp only [takeV] at ht <;> try (cases ht; done)
        simp only [RelV] at ry
        obtain ⟨a, _, z, _⟩ := ry
        exact ⟨a, z⟩
      refine go_ok (s := { s with heap := h₁, toks := tk₁ }) hT ho it₁ hy ?_
      refine take_ok wok hh hT env1 ry ht fun h₂ tk₂ c2 env2 => ?_
      have hIC : I ≠ env.locals := fun z => hIf (z ▸ List.mem_cons_self ..)
      have st2 : St W false fs L σ h₂ := (hst.chg c1 offI).chg c2 fun b hb => by rw [List.mem_singleton.mp hb]; exact ⟨henv.off _ (List.mem_cons_self ..), henv.fresh _ (List.mem_cons_self ..)⟩
      have it2 : ItAt h₂ I v src (i + 1) := it₁.of fun o e => c2.keep I o (fun z => hIC (List.mem_singleton.mp z)) e
      have c12 : Chg (I :: faOf env) s.heap h₂ := (c1.mono fun b hb => by simp [List.mem_singleton.mp hb]).trans (c2.mono fun b hb => by rw [List.mem_singleton.mp hb]; exact List.mem_cons_of_mem _ (List.mem_cons_self ..))
      have a2 : At W Φ k A env fs ρ₁ L σ { s with heap := h₂, toks := tk₂ } := ⟨a.ar, a.hq, by rw [hq]; exact env2, by rw [hq]; exact st2, a.code_⟩
      have P2 := P.next (tk := tk₂) st2 (c12.aft L) (live it2 env2)
      have hv2 := c12.rel hv
      cases he : exs Φ n b ρ₁ σ with
      | none => rw [he] at hr; cases hr
      | some r₁ =>
        rw [he] at hr
        have keepI : ∀ {L' : Lo} {h' : Heap}, Aft (faOf env) L h₂ L' h' → ItAt h' I v src (i + 1) ∧ I ∉ own L' := fun {L' h'} af' => ⟨it2.slt (af'.keeps I hIo hIf), by
          obtain ⟨⟨T, rfl, hT'⟩, _⟩ := af'
          obtain ⟨o, hoI⟩ := liveI it2
          exact own_pre hIo hT' hoI⟩
        have sub : ∀ b ∈ faOf env, b ∈ I :: faOf env := fun b hb => List.mem_cons_of_mem _ hb
        refine ihx.xs hB a2 he ?_
        cases r₁ with
        | nxt ρ' σ' =>
          rw [hq]
          intro L' h' tk' er' st' af'
          obtain ⟨it', hIo'⟩ := keepI af'
          have a' : At W Φ k A env fs ρ' L' σ' { s with heap := h', toks := tk' } := ⟨a.ar, a.hq, by rw [hq]; exact er', by rw [hq]; exact st', a.code_⟩
          exact ihl.f hq hT hB a' (af'.rel (FaOk.ofEnv env2) (fun z => by cases z) hv2) it' hIo' hIb hr (P2.next st' (af'.mono sub) (live it' er'))
        | ret vv ρ' σ' =>
          simp only [Option.some.injEq] at hr
          subst hr
          rw [hq]
          exact fun vv' L' h' tk' er' st' af' rel => P2 vv' L' h' tk' er' st' (af'.mono sub) rel
        | exc x ρ' σ' =>
          simp only [Option.some.injEq] at hr
          subst hr
          rw [hq]
          intro e L' h' tk' er' st' af' X
          obtain ⟨it', hIo'⟩ := keepI af'
          exact exc_noted (s := { s with heap := h₂, toks := tk₂ }) a.ar P2 er' st' (af'.mono sub) (live it' er') X
theorem sl_w (ih : SE W Φ k n) (ihx : SX W Φ k n) (ihl : SL W Φ k n) : ∀ {m A env fs ρ L σ s t b tv bs Rr rs}, Φ.q = false → chk W.nm m env.kindOf t tv = true → chkSs W.nm m env.kindOf b bs = true → At W Φ k A env fs ρ L σ s →
    exW Φ (n + 1) t b ρ σ = some rs → FPost W fs env (faOf env) Rr L s rs → codeAny (model W.prog W.w) A (.whileLoop tv bs [] env) Rr s := by
  intro m A env fs ρ L σ s t b tv bs Rr rs hq hT hB a hr P
  have hst := a.st
  have henv := a.env
  rw [hq] at hst henv
  unfold exW at hr
  have iht := ih.t hT a
  rw [hq] at iht
  refine while_turn ?_
  unfold bndE at hr
  cases he : evT Φ n t ρ σ with
  | none => rw [he] at hr; cases hr
  | some r₀ =>
    rw [he] at hr iht
    cases r₀ with
    | exc x σ' =>
      cases hr
      refine iht _ _ _ rfl ?_
      exact fun e L' h' tk' st' af' X => exc_noted a.ar P (henv.aft af') st' af'.nil_mono (henv.aft af').live X
    | ok c σ₁ =>
      refine iht _ _ _ rfl ?_
      intro c' L₁ h₁ tk₁ st₁ af₁ rel
      have : c' = c := rel
      subst this
      have er₁ := henv.aft af₁
      have P₁ := P.next (tk := tk₁) st₁ af₁.nil_mono er₁.live
      simp only at hr
      cases c' with
      | false =>
        simp only [Bool.false_eq_true, if_false] at hr ⊢
        cases hr
        exact P₁ L₁ h₁ tk₁ er₁ st₁ (.refl _ _ _)
      | true =>
        simp only [if_true] at hr ⊢
        have a₁ : At W Φ k A env fs ρ L₁ σ₁ { s with heap := h₁, toks := tk₁ } := ⟨a.ar, a.hq, by rw [hq]; exact er₁, by rw [hq]; exact st₁, a.code_⟩
        cases hb : exs Φ n b ρ σ₁ with
        | none => rw [hb] at hr; cases hr
        | some r₁ =>
          rw [hb] at hr
          refine ihx.xs hB a₁ hb ?_
          cases r₁ with
          | nxt ρ' σ' =>
            rw [hq]
            intro L' h' tk' er' st' af'
            have a' : At W Φ k A env fs ρ' L' σ' { s with heap := h', toks := tk' } := ⟨a.ar, a.hq, by rw [hq]; exact er', by rw [hq]; exact st', a.code_⟩
            exact ihl.w hq hT hB a' hr (P₁.next st' af' er'.live)
          | ret vv ρ' σ' =>
            simp only [Option.some.injEq] at hr
            subst hr
            rw [hq]
            exact fun vv' L' h' tk' er' st' af' rel => P₁ vv' L' h' tk' er' st' af' rel
          | exc x ρ' σ' =>
            simp only [Option.some.injEq] at hr
            subst hr
            rw [hq]
            intro e L' h' tk' er' st' af' X
            exact exc_noted (s := { s with heap := h₁, toks := tk₁ }) a.ar P₁ er' st' af' er'.live X
/-- what comes back from a loop -/
theorem came_ok {fa : List Addr} (P : PostS W false fs env L s rs Q E) (hsub : ∀ {L' : Lo} {h' : Heap}, Aft fa L s.heap L' h' → Aft (faOf env) L s.heap L' h') :
    FPost W fs env fa (fun r s' => match r with | .ok f => Q f s' | .error e => cameBackBy (model W.prog W.w) A env E e s') L s rs := by
  cases rs with
  | nxt ρ' σ' => exact fun L' h' tk er st af => P L' h' tk er st (hsub af)
  | ret v ρ' σ' => exact fun vv L' h' tk er st af r => P vv L' h' tk er st (hsub af) r
  | exc x ρ' σ' =>
    intro e L' h' tk er st af X
    show cameBackBy _ _ _ _ _ _
    unfold cameBackBy
    obtain ⟨oe, vs, vv, ho, hd, hv, z⟩ := X.tb
    refine wpAny_bind (wpAny_field (s := { s with heap := h', toks := tk }) ho hd hv ?_)
    rcases z with ⟨z, _⟩ | ⟨T', rfl⟩
    · cases z
    rw [if_neg (by simp)]
    have h2 := hsub af
    exact flight_ok (s := { s with heap := h', toks := tk }) (fs := fs) X fun h₅ n5 X5 => P e L' h₅ tk (er.nt X n5 st.fr) (st.nt X n5) (h2.nt X n5 st.fr) X5.weak
theorem exF_item {xs : List Nat} {tt : Bool} {src : PV} {i : Nat} {b : List CS} {r : RS} (h : exF Φ n xs tt src i b ρ σ = some r) : ∃ o, itemAt σ tt src i = some o := by
  cases n with
  | zero => unfold exF at h; cases h
  | succ n =>
    unfold exF at h
    cases z : itemAt σ tt src i with
    | none => rw [z] at h; cases h
    | some o => exact ⟨o, rfl⟩
theorem sx_forr (ih : SE W Φ k n) (ihl : SL W Φ k n) {xs : List Nat} {tt : Bool} {it : CE} {b : List CS} (h : chkS W.nm (m + 1) env.kindOf (.forr xs tt it b) st = true) (a : At W Φ k A env fs ρ L σ s) (hr : ex Φ (n + 1) (.forr xs tt it b) ρ σ = some rs) (P : PostS W Φ.q fs env L s rs Q E) :
    wpAny (model W.prog W.w) A (exec st env) Q E s := by
  simp only [chkS] at h
  split at h
  · rename_i tg iv bs pos
    simp only [Bool.and_eq_true] at h
    obtain ⟨⟨h1, h2⟩, h3⟩ := h
    unfold ex at hr
    split at hr
    · cases hr
    rename_i hq
    have hq := q_false hq
    have er := a.env
    have ihe := ih.e h2 a
    rw [hq] at P er ihe
    refine wpAny_For (bndE_ok hr ihe er P fun p σ₁ vv L₁ h₁ tk hf st₁ af rel er₁ P₁ => ?_) (notSet h2)
    obtain ⟨o, ho⟩ := exF_item hf
    refine iter_ok (s := { s with heap := h₁, toks := tk }) ho st₁.lay rel fun I h₂ hI k12 it2 => ?_
    have hIo : I ∉ own L₁ := fun z => by
      obtain ⟨o, ho⟩ := st₁.lay.live z
      rw [show h₁.get? I = none from hI] at ho; cases ho
    have hIb : W.b0.get? I = none := by
      cases z : W.b0.get? I with
      | none => rfl
      | some o => have := st₁.base I o z; rw [show h₁.get? I = none from hI] at this; cases this
    have er₂ := er₁.ka k12
    have st₂ := st₁.ka k12
    have a₂ : At W Φ k A env fs ρ L₁ σ₁ { s with heap := h₂, toks := tk } := ⟨a.ar, a.hq, by rw [hq]; exact er₂, by rw [hq]; exact st₂, a.code_⟩
    have P₂ := P₁.next (tk := tk) er₂ st₂ (k12.aft (faOf env) L₁)
    refine ihl.f hq h1 h3 a₂ (k12.rel rel) it2 hIo hIb hf ?_
    -- the iterator is new since h₁
    have P₁' := came_ok (A := A) (fa := I :: faOf env) (s := { s with heap := h₁, toks := tk }) P₁ fun {L' h'} af => ⟨af.pre, fun b hb hf o e => by
      have hbI : b ≠ I := fun z => by rw [z, show h₁.get? I = none from hI] at e; cases e
      exact af.kept b hb (fun z => (List.mem_cons.mp z).elim hbI hf) o e⟩
    exact P₁'.next st₂ (k12.aft _ L₁) fun b hb => by
      rcases List.mem_cons.mp hb with rfl | hb
      · obtain ⟨o, _, _, ho, _⟩ := it2.obj
        exact ⟨o, ho⟩
      · exact er₂.live b hb
  · cases h
theorem sx_whil (ihl : SL W Φ k n) {t : CE} {b : List CS} (h : chkS W.nm (m + 1) env.kindOf (.whil t b) st = true) (a : At W Φ k A env fs ρ L σ s) (hr : ex Φ (n + 1) (.whil t b) ρ σ = some rs) (P : PostS W Φ.q fs env L s rs Q E) :
    wpAny (model W.prog W.w) A (exec st env) Q E s := by
  simp only [chkS] at h
  split at h
  · rename_i tv bs pos
    simp only [Bool.and_eq_true] at h
    unfold ex at hr
    split at hr
    · cases hr
    rename_i hq
    have hq := q_false hq
    rw [hq] at P
    exact wpAny_While (ihl.w hq h.1 h.2 a hr (came_ok P fun af => af))
  · cases h
end
end Mine
end
/-! M17: a function is called -/
section
set_option autoImplicit false
set_option linter.unusedVariables false
set_option linter.unusedSimpArgs false
set_option maxRecDepth 100000
namespace Mine
open PySem PySem.W PyProof.Rows

structure FnAt (W : Wd) (K : Frag) (f : Addr) (fd : FuncData) (xs : List Nat) (body : List Stmt) : Prop where
  obj : ∃ c d sl, K.lookup f = some ⟨c, d, .func fd, sl⟩
  hbody : fd.body = .stmts body
  clo : fd.closure = []
  glob : fd.globals = mainGlobals
  bi : fd.builtins = builtinsNs
  kind : fd.scope.kind = .function
  co : fd.scope.isCoroutine = false
  gen : fd.scope.isGenerator = false
  code : codeIn K fd.code fd.qualname = true
  bind : ∀ vs, vs.length = xs.length → bindArgs fd ⟨vs, []⟩ = pure ((xs.map W.nm).zip vs)
  par : ∀ x ∈ xs, fd.scope.names.lookup (W.nm x) = some .local ∨ fd.scope.names.lookup (W.nm x) = some .cell
  nd : xs.Nodup


theorem bindL_eq (ko : Str → Option NameKind) : ∀ (binds : List (Str × Value)) (m : Str → Option Value) (y : Str), (binds.map (·.1)).Nodup → bindL ko binds m y = if ko y = some .local then (match binds.lookup y with | some v => some v | none => m y) else m y
  | [], m, y, _ => by simp [bindL]
  | (n, v) :: r, m, y, h => by
    rw [List.map_cons, List.nodup_cons] at h
    unfold bindL
    rw [bindL_eq ko r _ y h.2, List.lookup_cons]
    by_cases e : y = n
    · subst e
      have hr : r.lookup y = none := by
        cases z : r.lookup y with
        | none => rfl
        | some v' => exact absurd (List.mem_map.mpr ⟨_, mem_of_lookup z, rfl⟩) h.1
      by_cases hk : ko y = some .local
      · simp [hk, hr]
      · simp [hk]
    · have e' : (y == n) = false := by simpa using e
      rw [e']
      by_cases hk : ko n = some .local
      · simp [hk, e]
      · simp [hk]
theorem bindC_eq (ko : Str → Option NameKind) : ∀ (binds : List (Str × Value)) (m : Str → Option Value) (y : Str), (binds.map (·.1)).Nodup → bindC ko binds m y = if ko y = some .local then m y else (match binds.lookup y with | some v => some v | none => m y)
  | [], m, y, _ => by simp [bindC]
  | (n, v) :: r, m, y, h => by
    rw [List.map_cons, List.nodup_cons] at h
    unfold bindC
    rw [bindC_eq ko r _ y h.2, List.lookup_cons]
    by_cases e : y = n
    · subst e
      have hr : r.lookup y = none := by
        cases z : r.lookup y with
        | none => rfl
        | some v' => exact absurd (List.mem_map.mpr ⟨_, mem_of_lookup z, rfl⟩) h.1
      by_cases hk : ko y = some .local
      · simp [hk]
      · simp [hk, hr]
    · have e' : (y == n) = false := by simpa using e
      rw [e']
      by_cases hk : ko n = some .local
      · simp [hk]
      · simp [hk, e]
theorem zip_lk {W : Wd} (wok : WOk W) {L : Lo} {h : Heap} : ∀ {xs : List Nat} {vs : List Value} {args : List PV}, RelVs false L h vs args → ∀ {x : Nat} {pv : PV}, lk (xs.zip args) x = some pv → x ∈ xs ∧ ∃ v, ((xs.map W.nm).zip vs).lookup (W.nm x) = some v ∧ RelV false L h v pv
  | [], _, _, _, x, pv, e => by simp [lk] at e
  | _ :: _, [], [], _, x, pv, e => by simp [lk] at e
  | y :: xs, v :: vs, p :: args, r, x, pv, e => by
    simp only [RelVs] at r
    simp only [List.zip_cons_cons, lk] at e
    split at e
    · rename_i q; subst q
      cases e
      exact ⟨List.mem_cons_self .., v, by simp [List.lookup_cons], r.1⟩
    · rename_i q
      obtain ⟨a, v', b, c⟩ := zip_lk wok r.2 e
      refine ⟨List.mem_cons_of_mem _ a, v', ?_, c⟩
      have : (W.nm x == W.nm y) = false := by
        simp only [beq_eq_false_iff_ne, ne_eq]
        exact fun z => q (wok.inj _ _ z).symm
      rw [List.map_cons, List.zip_cons_cons, List.lookup_cons, this]
      exact b
  | _ :: _, [], _ :: _, r, _, _, _ => by simp [RelVs] at r
  | _ :: _, _ :: _, [], r, _, _, _ => by simp [RelVs] at r
theorem nodup_map {α β : Type} {f : α → β} (hf : ∀ a b, f a = f b → a = b) : ∀ {l : List α}, l.Nodup → (l.map f).Nodup
  | [], _ => List.nodup_nil
  | a :: l, h => by
    rw [List.nodup_cons] at h
    rw [List.map_cons, List.nodup_cons]
    refine ⟨fun z => ?_, nodup_map hf h.2⟩
    obtain ⟨b, hb, e⟩ := List.mem_map.mp z
    rw [hf _ _ e] at hb
    exact h.1 hb
theorem zip_fst {α β : Type} : ∀ {l : List α} {m : List β}, m.length = l.length → (l.zip m).map (·.1) = l
  | [], [], _ => rfl
  | a :: l, b :: m, h => by simp [zip_fst (l := l) (m := m) (by simpa using h)]
  | [], _ :: _, h => by simp at h
  | _ :: _, [], h => by simp at h

section
variable {W : Wd} {K : Frag} {Φ : Sig} {k n m : Nat}
theorem frok_cons {b0 : Heap} {L : Lo} {h : Heap} {env : Env} {fs : List Env} (x : FrOk b0 L h (env :: fs)) : FrOk b0 L h fs := fun e he => x e (List.mem_cons_of_mem _ he)
theorem St.pop {env : Env} {fs : List Env} {L : Lo} {σ : Store} {h : Heap} (x : St W false (env :: fs) L σ h) : St W false fs L σ h := ⟨x.base, x.offb, x.lay, frok_cons x.fr⟩

/-- what a call asks of what is around it -/
structure Ar0 (A : Around) (fs : List Env) (k : Nat) : Prop where
  frames : A.frames = some fs
  depth : A.depth + k < recursionLimit
  units : A.units + 16 * k + 64 < cLine
theorem Ar.zero {A : Around} {env : Env} {fs : List Env} {k : Nat} (a : Ar A env fs k) : Ar0 A fs k := ⟨a.frames, a.depth, a.units⟩
theorem fn_code (wk : WK W K) {f : Addr} {fd : FuncData} {xs : List Nat} {body : List Stmt} (F : FnAt W K f fd xs body) (hq : Φ.q = false) (htop : Φ.top = true → fd.code = .ref W.lc)
    {σ : Store} {rs : RS} {ρ0 : Loc} {A : Around} {fs : List Env} {s : Shared} {L : Lo} {vs : List Value} {Q E : Value → Shared → Prop} (ar : Ar0 A fs (k + 1)) (hh : A.handled = none) (st : St W false fs L σ s.heap) (hvl : vs.length = xs.length)
    (hρ : ∀ x pv, lk ρ0 x = some pv → x ∈ xs ∧ ∃ v, ((xs.map W.nm).zip vs).lookup (W.nm x) = some v ∧ RelV false L s.heap v pv)
    (P : Post W false fs (RelV false) L s (resOf rs) Q E)
    (hb : ∀ env h₁ tk Q' E', At W Φ k (A.deeper env) env (env :: fs) ρ0 L σ { s with heap := h₁, toks := tk } → env.kindOf = (fun x => fd.scope.names.lookup x) → KA s.heap h₁ → (∀ x ∈ xs, ∀ v, ((xs.map W.nm).zip vs).lookup (W.nm x) = some v → NameAt env h₁ (W.nm x) v) → (∀ b ∈ faOf env, s.heap.get? b = none) →
      PostS W false (env :: fs) env L { s with heap := h₁, toks := tk } rs Q' E' → wpAny (model W.prog W.w) (A.deeper env) (execs body env) Q' E' { s with heap := h₁, toks := tk }) :
    codeAny (model W.prog W.w) A (.call (.ref f) ⟨vs, []⟩) (fun r s' => match r with | .ok (.ret v) => Q v s' | .ok _ => False | .error e => E e s') s := by
  obtain ⟨c, d, sl, ho⟩ := F.obj
  have X := wk.kin.keeps st.base
  have hsize := fresh_none s.heap
  refine codeAny_call_cells (by have := ar.depth; omega) (X _ _ ho) rfl (wk.nolimit.keeps st.base) (codeRec_of X F.code) F.hbody (F.bind vs hvl) F.clo (fun y hy => ?_) (fun s₁ ic => ?_) F.co F.gen F.kind
  · have hm : y.1 ∈ xs.map W.nm := by
      have : y.1 ∈ ((xs.map W.nm).zip vs).map (·.1) := List.mem_map.mpr ⟨y, hy, rfl⟩
      rw [zip_fst (by simpa using hvl)] at this
      exact this
    obtain ⟨x, hx, e⟩ := List.mem_map.mp hm
    rw [← e]
    refine (F.par x hx).imp id fun z => ⟨z, cellsFrom_some _ _ _ (.inl z)⟩
  · generalize henv : callEnvC fd s.heap.objs.size f = env at ic ⊢
    obtain ⟨tk, h₁, rfl⟩ : ∃ tk h₁, s₁ = { s with heap := h₁, toks := tk } := by
      obtain ⟨h₁, tk, e⟩ := ic.toInCall.same
      exact ⟨tk, h₁, e⟩
    have hloc : env.locals = s.heap.objs.size := by rw [← henv]; rfl
    have hko : ∀ y, env.kindOf y = fd.scope.names.lookup y := fun y => by rw [← henv]; rfl
    have kk : KA s.heap h₁ := ic.toInCall.keep
    have st₁ := st.ka kk
    have newC : ∀ n c, (n, c) ∈ env.cells → s.heap.get? c = none := fun n c hm => Heap.get?_none_of_le (Nat.le_of_lt (by rw [← hloc]; exact ic.above n c hm))
    have new : ∀ b ∈ faOf env, s.heap.get? b = none := fun b hb => by
      rcases List.mem_cons.mp hb with rfl | hb
      · rw [hloc]; exact hsize
      · obtain ⟨n, hn⟩ := faOf_cell hb
        exact newC n b (mem_of_lookup hn)
    have b0no : ∀ b ∈ faOf env, W.b0.get? b = none := fun b hb => by
      cases z : W.b0.get? b with
      | none => rfl
      | some o => have := st.base b o z; rw [new b hb] at this; cases this
    have offL : ∀ b ∈ faOf env, b ∉ own L := fun b hb z => by
      obtain ⟨o, ho⟩ := st.lay.live z
      rw [new b hb] at ho; cases ho
    have nd : (((xs.map W.nm).zip vs).map (·.1)).Nodup := by
      rw [zip_fst (by simpa using hvl)]
      exact nodup_map wk.inj F.nd
    have cellAt : ∀ y, env.kindOf y = some .cell → ∃ c, env.cells.lookup y = some c := fun y hy => by
      rw [hko] at hy
      have := cellsFrom_some (x := y) fd.scope.names (s.heap.objs.size + 1) [] (.inl hy)
      rw [← henv]
      exact Option.isSome_iff_exists.mp this
    obtain ⟨oL, esL, epL, hoL, hdL, _⟩ := id ic.toInCall.ns
    have nameAt : ∀ x ∈ xs, ∀ v, ((xs.map W.nm).zip vs).lookup (W.nm x) = some v → NameAt env h₁ (W.nm x) v := fun x hx v hv => by
      rcases F.par x hx with hk | hk
      · refine .inl ⟨by rw [hko]; exact hk, _, ic.toInCall.ns, ?_⟩
        rw [bindL_eq _ _ _ _ nd, if_pos (by rw [hko]; exact hk), hv]
      · have hk' : env.kindOf (W.nm x) = some .cell := by rw [hko]; exact hk
        obtain ⟨cc, hcc⟩ := cellAt _ hk'
        refine .inr ⟨.inl hk', cc, hcc, ?_⟩
        have := ic.cell _ cc hcc
        rw [bindC_eq _ _ _ _ nd, if_neg (by rw [hk']; simp), hv] at this
        exact this
    have er : EnvRel W false env ρ0 L h₁ := by
      refine ⟨by rw [← henv]; exact F.kind, by rw [← henv]; exact F.glob, by rw [← henv]; exact F.bi, ⟨_, ic.toInCall.ns⟩, fun x pv e => ?_, fun y cc e => ⟨_, ic.cell y cc e⟩, fun y z cc e1 e2 => name_of_addr ic.apart (mem_of_lookup e1) (mem_of_lookup e2), offL, fun b hb' => ?_, b0no, cellAt⟩
      · obtain ⟨hx, v, hv, rv⟩ := hρ x pv e
        exact ⟨v, nameAt x hx v hv, kk.rel rv⟩
      · rcases List.mem_cons.mp hb' with rfl | hb'
        · exact ⟨oL, hoL, .inl ⟨_, _, hdL⟩⟩
        · obtain ⟨n, hn⟩ := faOf_cell hb'
          obtain ⟨o, ho, hd⟩ := ic.cell n b hn
          exact ⟨o, ho, .inr ⟨_, hd⟩⟩
    have hfr : env.frame = some env.locals := by rw [← henv]; rfl
    have stE : St W false (env :: fs) L σ h₁ := ⟨st₁.base, st₁.offb, st₁.lay, fun e he => by
      rcases List.mem_cons.mp he with rfl | he
      · exact ⟨by rw [er.kind]; decide, e.locals, oL, hfr, b0no _ (List.mem_cons_self ..), offL _ (List.mem_cons_self ..), hoL, _, _, hdL⟩
      · exact st₁.fr e he⟩
    have aE : At W Φ k (A.deeper env) env (env :: fs) ρ0 L σ { s with heap := h₁, toks := tk } := by
      refine ⟨⟨by show A.frames.map _ = _; rw [ar.frames]; rfl, ⟨env, fs, rfl, rfl⟩, ⟨_, hfr⟩, ?_, ?_⟩, fun _ => hh, by rw [hq]; exact er, by rw [hq]; exact stE, fun z => by rw [← henv]; exact htop z⟩
      · show A.depth + 1 + k < recursionLimit
        have := ar.depth; omega
      · show A.units + 3 + 16 * k + 64 < cLine
        have := ar.units; omega
    have lift : ∀ {L' : Lo} {h' : Heap}, Aft (faOf env) L h₁ L' h' → Aft [] L s.heap L' h' := fun {L' h'} af => by
      obtain ⟨⟨T, rfl, hT⟩, hk⟩ := af
      refine ⟨⟨T, rfl, fun a ha => ?_⟩, fun b hb _ o e => ?_⟩
      · cases z : s.heap.get? a with
        | none => rfl
        | some o => have := kk a o z; rw [hT a ha] at this; cases this
      · exact hk b hb (fun z => by rw [new b z] at e; cases e) o (kk b o e)
    refine hb env h₁ tk _ _ aE (funext hko) kk nameAt new ?_
    cases rs with
    | nxt ρ' σ' => exact fun L' h' tk' er' st' af' => P .none L' h' tk' st'.pop (lift af') rfl
    | ret v ρ' σ' => exact fun vv L' h' tk' er' st' af' r => P vv L' h' tk' st'.pop (lift af') r
    | exc x ρ' σ' =>
      intro e L' h' tk' er' st' af' Xe
      show wpAny _ _ (leaving env (.ref e)) _ _ _
      unfold leaving
      refine wpAny_bind (noted_ok (s := { s with heap := h', toks := tk' }) aE.ar st' af' er'.live Xe fun h₂ n₂ st₂ af₂ X₂ => ?_)
      refine flight_ok (s := { s with heap := h₂, toks := tk' }) (fs := env :: fs) X₂ fun h₃ n₃ X₃ => ?_
      have st₃ := st₂.nt X₂ n₃
      have af₃ := af₂.nt X₂ n₃ st₂.fr
      exact P e L' h₃ tk' st₃.pop (lift af₃) (X₃.weak.back fun a z => by
        cases q : s.heap.get? a with
        | none => rfl
        | some o => have := kk a o q; rw [z] at this; cases this)
theorem fn_enter (wk : WK W K) {f : Addr} {fd : FuncData} {xs : List Nat} {body : List Stmt} (F : FnAt W K f fd xs body) (hq : Φ.q = false) (htop : Φ.top = true → fd.code = .ref W.lc)
    {σ : Store} {rs : RS} {ρ0 : Loc} {A : Around} {env0 : Env} {fs : List Env} {s : Shared} {L : Lo} {vs : List Value} {Q E : Value → Shared → Prop} (ar : Ar A env0 fs (k + 1)) (hh : A.handled = none) (st : St W false fs L σ s.heap) (hvl : vs.length = xs.length)
    (hρ : ∀ x pv, lk ρ0 x = some pv → x ∈ xs ∧ ∃ v, ((xs.map W.nm).zip vs).lookup (W.nm x) = some v ∧ RelV false L s.heap v pv)
    (P : Post W false fs (RelV false) L s (resOf rs) Q E)
    (hb : ∀ env h₁ tk Q' E', At W Φ k (A.deeper env) env (env :: fs) ρ0 L σ { s with heap := h₁, toks := tk } → env.kindOf = (fun x => fd.scope.names.lookup x) → KA s.heap h₁ → (∀ x ∈ xs, ∀ v, ((xs.map W.nm).zip vs).lookup (W.nm x) = some v → NameAt env h₁ (W.nm x) v) → (∀ b ∈ faOf env, s.heap.get? b = none) →
      PostS W false (env :: fs) env L { s with heap := h₁, toks := tk } rs Q' E' → wpAny (model W.prog W.w) (A.deeper env) (execs body env) Q' E' { s with heap := h₁, toks := tk }) :
    wpAny (model W.prog W.w) A (call (.ref f) vs) Q E s := wpAny_call (fn_code wk F hq htop ar.zero hh st hvl hρ P hb)
def CodeOk (W : Wd) (k : Nat) (f : Value) (args : List PV) (σ : Store) (r : R PV) : Prop :=
  ∀ A env fs s L vs Q E, Ar A env fs k → A.handled = none → St W false fs L σ s.heap → RelVs false L s.heap vs args → Post W false fs (RelV false) L s r Q E → codeAny (model W.prog W.w) A (.call f ⟨vs, []⟩) (fun r s' => match r with | .ok (.ret v) => Q v s' | .ok _ => False | .error e => E e s') s
theorem fn_ok (wk : WK W K) {f : Addr} {fd : FuncData} {xs : List Nat} {body : List Stmt} (F : FnAt W K f fd xs body) (ihx : SX W Φ k n) (hq : Φ.q = false) (htop : Φ.top = true → fd.code = .ref W.lc) {b : List CS} (hc : chkSs W.nm m (fun x => fd.scope.names.lookup x) b body = true)
    {args : List PV} {σ : Store} {rs : RS} (hlen : args.length = xs.length) (hr : exs Φ n b (xs.zip args) σ = some rs) : CallOk W (k + 1) (.ref f) args σ (resOf rs) := by
  intro A env0 fs s L vs Q E ar hh st rel P
  refine fn_enter wk F hq htop ar hh st (by rw [rel.length, hlen]) (fun x pv e => zip_lk wk.toWOk rel e) P fun env h₁ tk Q' E' aE hk _ _ _ P' => ?_
  exact ihx.xs (by rw [hk]; exact hc) aE hr (by rw [hq]; exact P')
theorem fn_okC (wk : WK W K) {f : Addr} {fd : FuncData} {xs : List Nat} {body : List Stmt} (F : FnAt W K f fd xs body) (ihx : SX W Φ k n) (hq : Φ.q = false) (htop : Φ.top = true → fd.code = .ref W.lc) {b : List CS} (hc : chkSs W.nm m (fun x => fd.scope.names.lookup x) b body = true)
    {args : List PV} {σ : Store} {rs : RS} (hlen : args.length = xs.length) (hr : exs Φ n b (xs.zip args) σ = some rs) : CodeOk W (k + 1) (.ref f) args σ (resOf rs) := by
  intro A env0 fs s L vs Q E ar hh st rel P
  refine fn_code wk F hq htop ar.zero hh st (by rw [rel.length, hlen]) (fun x pv e => zip_lk wk.toWOk rel e) P fun env h₁ tk Q' E' aE hk _ _ _ P' => ?_
  exact ihx.xs (by rw [hk]; exact hc) aE hr (by rw [hq]; exact P')
theorem fn_okT (wk : WK W K) {f : Addr} {fd : FuncData} {xs : List Nat} {body : List Stmt} (F : FnAt W K f fd xs body) (ihx : SX W Φ k n) (hq : Φ.q = false) (htop : Φ.top = true → fd.code = .ref W.lc) {b : List CS} (hc : chkSs W.nm m (fun x => fd.scope.names.lookup x) b body = true)
    {args : List PV} {σ : Store} {rs : RS} (hlen : args.length = xs.length) (hr : exs Φ n b (xs.zip args) σ = some rs) {A : Around} {fs : List Env} {s : Shared} {L : Lo} {vs : List Value} {Q E : Value → Shared → Prop} (ar : Ar0 A fs (k + 1)) (hh : A.handled = none) (st : St W false fs L σ s.heap) (rel : RelVs false L s.heap vs args) (P : Post W false fs (RelV false) L s (resOf rs) Q E) :
    wpAny (model W.prog W.w) A (call (.ref f) vs) Q E s := by
  refine wpAny_call (fn_code wk F hq htop ar hh st (by rw [rel.length, hlen]) (fun x pv e => zip_lk wk.toWOk rel e) P fun env h₁ tk Q' E' aE hk _ _ _ P' => ?_)
  exact ihx.xs (by rw [hk]; exact hc) aE hr (by rw [hq]; exact P')
end
end Mine
end
/-! M18: raise, and the one try -/
section
set_option autoImplicit false
set_option linter.unusedVariables false
set_option linter.unusedSimpArgs false
set_option maxRecDepth 100000
namespace Mine
open PySem PySem.W PyProof.Rows

/-- behind except the store stays -/
def Same {α : Type} (m : Option (R α)) (σ : Store) : Prop := ∀ a σ', m = some (.ok a σ') → σ' = σ
theorem same_bnd {α β : Type} {m : Option (R α)} {f : α → Store → Option (R β)} {σ : Store} (h : Same m σ) (hf : ∀ a, Same (f a σ) σ) : Same (bnd m f) σ := by
  intro b σ' e
  cases m with
  | none => cases e
  | some r =>
    cases r with
    | ok a σ₁ =>
      obtain rfl := h a σ₁ rfl
      exact hf a b σ' e
    | exc x σ₁ => cases e
theorem same_rok {α : Type} {o : Option α} {σ : Store} : Same (rok o σ) σ := by
  intro a σ' e
  obtain ⟨b, _, z⟩ := rok_some e
  cases z; rfl
theorem same_none {α : Type} {σ : Store} : Same (.none : Option (R α)) σ := fun _ _ e => by cases e
theorem same_ok {α : Type} {a : α} {σ : Store} : Same (some (.ok a σ)) σ := fun _ _ e => by cases e; rfl
theorem quiet_store (Φ : Sig) (hq : Φ.q = true) : ∀ n, (∀ e ρ σ, Same (ev Φ n e ρ σ) σ) ∧ (∀ e ρ σ, Same (evT Φ n e ρ σ) σ) ∧ (∀ c l ρ σ, Same (evTs Φ n c l ρ σ) σ) ∧ (∀ c l ρ σ, Same (evB Φ n c l ρ σ) σ) ∧ (∀ l ρ σ, Same (evs Φ n l ρ σ) σ) ∧ (∀ o ρ σ, Same (evO Φ n o ρ σ) σ)
  | 0 => ⟨fun e ρ σ => by unfold ev; exact same_none, fun e ρ σ => by unfold evT; exact same_none, fun c l ρ σ => by unfold evTs; exact same_none, fun c l ρ σ => by unfold evB; exact same_none, fun l ρ σ => by unfold evs; exact same_none, fun o ρ σ => by unfold evO; exact same_none⟩
  | n + 1 => by
    obtain ⟨h1, h2, h3, h4, h5, h6⟩ := quiet_store Φ hq n
    have ife : ∀ {α : Type} {p : Prop} [Decidable p] {a b : Option (R α)} {σ : Store}, Same a σ → Same b σ → Same (if p then a else b) σ := fun {α p _ a b σ} x y => by split <;> assumption
    refine ⟨fun e ρ σ => ?_, fun e ρ σ => ?_, fun c l ρ σ => ?_, fun c l ρ σ => ?_, fun l ρ σ => ?_, fun o ρ σ => ?_⟩
    · cases e <;> unfold ev <;> try simp only [hq, true_or, if_true]
      case loc => exact same_rok
      case glo => exact same_rok
      case cnone => exact same_ok
      case cbool => exact same_ok
      case cint => exact same_ok
      case cstr => exact same_ok
      case neg => exact same_bnd (h1 _ _ _) fun _ => same_rok
      case not => exact same_bnd (h1 _ _ _) fun _ => same_rok
      case bin => exact same_bnd (h1 _ _ _) fun _ => same_bnd (h1 _ _ _) fun _ => same_rok
      case cmp => exact same_bnd (h1 _ _ _) fun _ => same_bnd (h1 _ _ _) fun _ => same_rok
      case cmpNil => exact same_bnd (h1 _ _ _) fun _ => same_rok
      case bop => exact h4 _ _ _ _
      case ite => exact same_bnd (h2 _ _ _) fun _ => ife (h1 _ _ _) (h1 _ _ _)
      case tup => exact same_bnd (h5 _ _ _) fun _ => ife same_ok same_none
      case lst => exact same_none
      case sub => exact same_bnd (h1 _ _ _) fun _ => same_bnd (h1 _ _ _) fun _ => same_rok
      case slice => exact same_bnd (h1 _ _ _) fun _ => same_bnd (h6 _ _ _) fun _ => same_bnd (h6 _ _ _) fun _ => same_rok
      case call => exact same_none
      case bi => exact ife same_none (same_bnd (h5 _ _ _) fun _ => same_rok)
      case meth => exact same_none
      case mdig =>
        refine same_bnd (h1 _ _ _) fun v => ?_
        split
        · exact ife same_ok same_none
        · exact same_none
      case mjoin =>
        refine same_bnd (h1 _ _ _) fun v => ?_
        split
        · refine same_bnd (h1 _ _ _) fun u => ?_
          split
          · split
            · exact ife same_ok same_none
            · exact same_none
          · exact same_none
        · exact same_none
      case mapp => exact same_none
      case mpop => exact same_none
      case attr => exact same_bnd (h1 _ _ _) fun _ => same_rok
      case fstr =>
        refine same_bnd (h1 _ _ _) fun v => ?_
        split
        · exact ife same_ok same_none
        · exact same_none
      case fstrs =>
        refine same_bnd (h1 _ _ _) fun v => ?_
        split
        · exact ife same_ok same_none
        · exact same_none
      case comp => exact same_none
      case heard => exact same_none
    · cases e <;> unfold evT
      case not => exact same_bnd (h2 _ _ _) fun _ => same_ok
      case bop => exact h3 _ _ _ _
      case ite => exact same_bnd (h2 _ _ _) fun _ => ife (h2 _ _ _) (h2 _ _ _)
      all_goals exact same_bnd (h1 _ _ _) fun _ => same_rok
    · cases l <;> unfold evTs
      · exact same_ok
      · exact same_bnd (h2 _ _ _) fun _ => ife (h3 _ _ _ _) same_ok
    · match l with
      | [] => unfold evB; exact same_none
      | [x] => unfold evB; exact h1 _ _ _
      | x :: y :: r =>
        unfold evB
        refine same_bnd (h1 _ _ _) fun v => ?_
        split
        · exact ife (h4 _ _ _ _) same_ok
        · exact same_none
    · cases l <;> unfold evs
      · exact same_ok
      · exact same_bnd (h1 _ _ _) fun _ => same_bnd (h5 _ _ _) fun _ => same_ok
    · cases o <;> unfold evO
      · exact same_ok
      · exact same_bnd (h1 _ _ _) fun _ => same_ok

mutual
def noExn : PV → Bool
  | .exn _ => false
  | .tup l => noExns l
  | .lst l => noExns l
  | _ => true
def noExns : List PV → Bool
  | [] => true
  | p :: l => noExn p && noExns l
end
mutual
theorem RelV.noExn {L : Lo} {h : Heap} : ∀ {v : Value} {p : PV}, RelV false L h v p → noExn p = true
  | _, .none, _ => by simp [Mine.noExn]
  | _, .bool _, _ => by simp [Mine.noExn]
  | _, .int _, _ => by simp [Mine.noExn]
  | _, .str _, _ => by simp [Mine.noExn]
  | _, .tup l, x => by
    simp only [RelV] at x
    obtain ⟨a, vs, _, _, _, hr⟩ := x
    simp only [Mine.noExn]
    exact RelVs.noExns hr
  | _, .lst l, x => by
    simp only [RelV] at x
    obtain ⟨a, vs, _, _, _, hr⟩ := x
    simp only [Mine.noExn]
    exact RelVs.noExns hr
  | _, .rng _, _ => by simp [Mine.noExn]
  | _, .ref _, _ => by simp [Mine.noExn]
  | _, .exn i, x => by
    simp only [RelV] at x
    exact absurd x.1 (by simp)
theorem RelVs.noExns {L : Lo} {h : Heap} : ∀ {vs : List Value} {ps : List PV}, RelVs false L h vs ps → noExns ps = true
  | [], [], _ => by simp [Mine.noExns]
  | _ :: _, _ :: _, x => by
    simp only [RelVs] at x
    simp only [Mine.noExns, Bool.and_eq_true]
    exact ⟨RelV.noExn x.1, RelVs.noExns x.2⟩
  | [], _ :: _, x => by simp [RelVs] at x
  | _ :: _, [], x => by simp [RelVs] at x
end
mutual
theorem RelV.loud {L : Lo} {h : Heap} : ∀ {v : Value} {p : PV}, RelV true L h v p → noExn p = true → RelV false L h v p
  | _, .none, x, _ => x
  | _, .bool _, x, _ => x
  | _, .int _, x, _ => x
  | _, .str _, x, _ => x
  | _, .tup l, x, e => by
    simp only [RelV] at x ⊢
    simp only [Mine.noExn] at e
    obtain ⟨a, vs, z, ha, ht, hr⟩ := x
    exact ⟨a, vs, z, ha, ht, RelVs.loud hr e⟩
  | _, .lst l, x, e => by
    simp only [RelV] at x ⊢
    simp only [Mine.noExn] at e
    obtain ⟨a, vs, z, ha, ht, hr⟩ := x
    exact ⟨a, vs, z, ha, ht, RelVs.loud hr e⟩
  | _, .rng n, x, _ => x
  | _, .ref j, x, _ => x
  | _, .exn i, _, e => by simp [Mine.noExn] at e
theorem RelVs.loud {L : Lo} {h : Heap} : ∀ {vs : List Value} {ps : List PV}, RelVs true L h vs ps → noExns ps = true → RelVs false L h vs ps
  | [], [], _, _ => by simp [RelVs]
  | _ :: _, _ :: _, x, e => by
    simp only [RelVs] at x ⊢
    simp only [Mine.noExns, Bool.and_eq_true] at e
    exact ⟨RelV.loud x.1 e.1, RelVs.loud x.2 e.2⟩
  | [], _ :: _, x, _ => by simp [RelVs] at x
  | _ :: _, [], x, _ => by simp [RelVs] at x
end
section
variable {W : Wd} {fs : List Env} {L : Lo} {σ : Store} {h h' : Heap} {env : Env} {ρ : Loc}
theorem Ents.quiet : ∀ {es : List DictEntry} {l : List (Nat × PV)}, Ents W false L h es l → Ents W true L h es l
  | [], [], _ => by simp [Ents]
  | _ :: _, (_, _) :: _, x => by
    simp only [Ents] at x ⊢
    exact ⟨x.1, x.2.1.quiet, Ents.quiet x.2.2⟩
  | [], _ :: _, x => by simp [Ents] at x
  | _ :: _, [], x => by simp [Ents] at x
theorem LayO.quiet {p : LO} {o : PO} (x : LayO W false L h p o) : LayO W true L h p o := by
  cases o with
  | lst l =>
    obtain ⟨e, vs, hl, r⟩ := x
    exact ⟨e, vs, hl, r.quiet⟩
  | inst c l =>
    obtain ⟨e, h1, es, n, h2, hn, r⟩ := x
    exact ⟨e, h1, es, n, h2, hn, r.quiet⟩
  | tab l => exact x
theorem St.quiet (x : St W false fs L σ h) : St W true fs L σ h := ⟨x.base, x.offb, ⟨x.lay.len, x.lay.apart, fun i p o e1 e2 => (x.lay.objs i p o e1 e2).quiet, x.lay.hidden⟩, x.fr⟩
theorem EnvRel.quiet (x : EnvRel W false env ρ L h) : EnvRel W true env ρ L h :=
  ⟨x.kind, x.globals, x.builtins, x.ns, fun y pv e => let ⟨v, a, b⟩ := x.names y pv e; ⟨v, a, b.quiet⟩, x.cells, x.apart, x.off, x.low, x.fresh, x.have_⟩
theorem Ents.noExn : ∀ {es : List DictEntry} {l : List (Nat × PV)}, Ents W false L h es l → ∀ y ∈ l, noExn y.2 = true
  | [], [], _ => fun y hy => by cases hy
  | _ :: _, (_, _) :: _, x => by
    simp only [Ents] at x
    intro y hy
    rcases List.mem_cons.mp hy with rfl | hy
    · exact x.2.1.noExn
    · exact Ents.noExn x.2.2 y hy
  | [], _ :: _, x => by simp [Ents] at x
  | _ :: _, [], x => by simp [Ents] at x
theorem Ents.loud : ∀ {es : List DictEntry} {l : List (Nat × PV)}, Ents W true L h es l → (∀ y ∈ l, Mine.noExn y.2 = true) → Ents W false L h es l
  | [], [], _, _ => by simp [Ents]
  | _ :: _, (_, _) :: _, x, e => by
    simp only [Ents] at x ⊢
    exact ⟨x.1, x.2.1.loud (e _ (List.mem_cons_self ..)), Ents.loud x.2.2 fun y hy => e y (List.mem_cons_of_mem _ hy)⟩
  | [], _ :: _, x, _ => by simp [Ents] at x
  | _ :: _, [], x, _ => by simp [Ents] at x
/-- what was without exceptions stays so -/
theorem St.loud {L' : Lo} (x : St W true fs L' σ h') (y : St W false fs L σ h) : St W false fs L' σ h' := by
  refine ⟨x.base, x.offb, ⟨x.lay.len, x.lay.apart, fun i p o e1 e2 => ?_, x.lay.hidden⟩, x.fr⟩
  have z := x.lay.objs i p o e1 e2
  have hi : i < L.l.length := by rw [y.lay.len]; exact (List.getElem?_eq_some_iff.mp e2).1
  have z' := y.lay.objs i L.l[i] o (List.getElem?_eq_getElem hi) e2
  cases o with
  | lst l =>
    obtain ⟨_, vs', _, r'⟩ := z'
    obtain ⟨e, vs, hl, r⟩ := z
    exact ⟨e, vs, hl, r.loud r'.noExns⟩
  | inst c l =>
    obtain ⟨_, _, es', n', _, _, r'⟩ := z'
    obtain ⟨e, h1, es, n, h2, hn, r⟩ := z
    exact ⟨e, h1, es, n, h2, hn, r.loud r'.noExn⟩
  | tab l => exact z
end
end Mine
end
/-! M19: raise, and the one try, walked -/
section
set_option autoImplicit false
set_option linter.unusedVariables false
set_option linter.unusedSimpArgs false
set_option maxRecDepth 100000
namespace Mine
open PySem PySem.W PyProof.Rows

structure ExcCls (W : Wd) (K : Frag) (c : Nat) : Prop where
  mro : mroIn K (W.cls c) (.type "BaseException") = some true
  meta_ : typeIn K (.ref (W.cls c)) = some (.type "type")
  self : mroIn K (W.cls c) (.ref (W.cls c)) = some true
def RaiseOk (W : Wd) (k : Nat) (C : Value) (args : List PV) (x : PX) : Prop :=
  ∀ A env fs σ s L vs Q E, Ar A env fs k → A.handled = none → St W false fs L σ s.heap → RelVs false L s.heap vs args →
    (∀ e h' tk, St W false fs L σ h' → Aft [] L s.heap L h' → ExcAt W s.heap L h' e x false → Q (.ref e) { s with heap := h', toks := tk }) → wpAny (model W.prog W.w) A (call C vs) Q E s
structure XOk (W : Wd) (K : Frag) (Φ : Sig) (k : Nat) : Prop where
  ex : ∀ c, Φ.kx c = true → W.mg (W.nm c) = some (.ref (W.cls c)) ∧ keepIn K (.ref (W.cls c)) = true ∧ ExcCls W K c ∧ ∀ args x, Φ.exc c args = some x → x.cls = c ∧ RaiseOk W k (.ref (W.cls c)) args x

section
variable {W : Wd} {K : Frag} {L : Lo} {h0 h : Heap} {e : Addr} {x : PX} {m : Bool} {M : Model}
theorem ExcAt.typ (X : ExcAt W h0 L h e x m) : Looks M h (typeOf (.ref e)) (.ref (W.cls x.cls)) := by
  obtain ⟨_, _, _, vs, d, ho, _⟩ := X
  exact (Looks.ld (part := none) ho).andThen .now
theorem ExcAt.inst (X : ExcAt W h0 L h e x m) (kin : K.In h) (c : ExcCls W K x.cls) : Looks M h (isInstance (.ref e) (.type "BaseException")) true := X.typ.andThen (looks_mroIn kin c.mro)
theorem ExcAt.held (X : ExcAt W h0 L h e x m) (kin : K.In h) (c : ExcCls W K x.cls) : Looks M h (raisedInstance (.ref e)) (.ref e) := by
  unfold raisedInstance
  exact X.typ.andThen ((looks_typeIn kin c.meta_).andThen (Looks.of_pure rfl))
theorem ExcAt.notCls (X : ExcAt W h0 L h e x m) : Looks M h (isType (.ref e)) false := fun A Q E s k q => by
  obtain ⟨_, _, _, vs, d, ho, _⟩ := X
  obtain ⟨hh, g, dr, t, os⟩ := s
  exact ks_wpAny_isType_inst (k _ _ ho) (fun c z => by cases z) q
end
section
variable {W : Wd} {K : Frag} {Φ : Sig} {k n m : Nat} {A : Around} {env : Env} {fs : List Env} {ρ : Loc} {L : Lo} {σ : Store} {s : Shared} {st : Stmt} {rs : RS} {Q : Flow → Shared → Prop} {E : Value → Shared → Prop}
theorem raise_ok {t : Sem Value} (hh : A.handled = none)
    (h : wpAny (model W.prog W.w) A t (fun v s₁ => ∃ e x L' h0, v = .ref e ∧ ExcAt W h0 L' s₁.heap e x false ∧ K.In s₁.heap ∧ ExcCls W K x.cls ∧ ∀ h', Nt fs e s₁.heap h' → ExcAt W h0 L' h' e x false → E (.ref e) { s₁ with heap := h' }) E s) :
    wpAny (model W.prog W.w) A (raiseStmt env (some t) none) Q E s := by
  unfold raiseStmt
  refine wpAny_bind (wpAny_mono h (fun v s₁ hv => ?_) fun _ _ z => z)
  obtain ⟨e, x, L', h0, rfl, X, kin, c, hE⟩ := hv
  have L1 := X.notCls (M := model W.prog W.w)
  have L2 := X.inst (M := model W.prog W.w) kin c
  have L3 := X.held (M := model W.prog W.w) kin c
  refine wpAny_bind (wpAny_pure (wpAny_bind (wpAny_holding ?_)))
  unfold excFromValue isExcClass
  refine wpAny_bind (wpAny_bind (L1.here (wpAny_pure ?_)))
  refine wpAny_bind (L2.here (wpAny_pure ?_))
  refine wpAny_bind (L1.here ?_)
  refine wpAny_bind (L3.here ?_)
  refine wpAny_bind (flight_ok (fs := fs) X fun h' n' X' => ?_)
  exact wpAny_raiseNew_none hh (hE h' n' X')
theorem sx_rais (wk : WK W K) (xo : XOk W K Φ k) (ih : SE W Φ k n) {c : Nat} {l : List CE} (h : chkS W.nm (m + 1) env.kindOf (.rais c l) st = true) (a : At W Φ k A env fs ρ L σ s) (hr : ex Φ (n + 1) (.rais c l) ρ σ = some rs) (P : PostS W Φ.q fs env L s rs Q E) :
    wpAny (model W.prog W.w) A (exec st env) Q E s := by
  simp only [chkS] at h
  split at h
  · rename_i id ip es cp pos
    simp only [Bool.and_eq_true, Bool.not_eq_true', beq_iff_eq] at h
    obtain ⟨⟨⟨rfl, hk⟩, hd⟩, hl⟩ := h
    unfold ex at hr
    split at hr
    · cases hr
    rename_i hq
    rw [not_or] at hq
    have hq' := q_false hq.1
    have hkx : Φ.kx c = true := by simpa using hq.2
    obtain ⟨hmg, hkeep, hcls, hex⟩ := xo.ex c hkx
    have er := a.env
    have ihe := ih.es (pos := cp) hl a
    rw [hq'] at P er ihe
    show wpAny _ A (do standAt pos; raiseStmt env (some (do let v ← eval (.Call (.Name (W.nm c) ip) es [] cp) env; standAt pos; pure v)) none) Q E s
    refine wpAny_bind (wpAny_standAt ?_)
    refine raise_ok (W := W) (K := K) (fs := fs) (a.hq hq') (wpAny_bind ?_)
    rw [arm_eval_Call_Name']
    refine wpAny_bind (wpAny_Name (glob_ok wk.toWOk a hk hmg ?_) hd)
    refine callWith_of (P := fun h => W.b0.StaysIn h) (by rw [chkL_star hl]; rfl) (fun h hb => keeps_K hkeep h (wk.kin.keeps hb)) ?_
    refine evalArgs_of (chkL_star hl) (bndE_ok hr ihe er P fun ps σ₁ vs L₁ h₁ tk hf st₁ af rel er₁ P₁ => ⟨st₁.base, ?_⟩)
    split at hf
    · rename_i x hx
      cases hf
      obtain ⟨hxc, ro⟩ := hex ps x hx
      refine ro A env fs σ₁ { s with heap := h₁, toks := tk } L₁ vs _ _ a.ar (a.hq hq') st₁ rel fun e h' tk' st' af' X => ?_
      refine wpAny_bind (wpAny_standAt (wpAny_pure ?_))
      refine ⟨e, x, L₁, h₁, rfl, X, wk.kin.keeps st'.base, by rw [hxc]; exact hcls, fun h₂ n₂ X₂ => ?_⟩
      exact P₁ e L₁ h₂ tk' ((er₁.aft af').nt X n₂ st'.fr) (st'.nt X n₂) (af'.nt X n₂ st'.fr).nil_mono X₂
    · cases hf
  · cases h
end

theorem cls_of_mro {K : Frag} {C : Addr} {b : Value} {r : Bool} (h : mroIn K C b = some r) : ∃ oc od cd sl, K.lookup C = some ⟨oc, od, .cls cd, sl⟩ := by
  unfold mroIn at h
  cases z : clsIn K C with
  | none => rw [z] at h; cases h
  | some cd =>
    unfold clsIn at z
    split at z
    · rename_i oc od cd' sl ho
      exact ⟨oc, od, cd', sl, ho⟩
    · cases z
section
variable {W : Wd} {K : Frag} {L : Lo} {h0 : Heap} {e : Addr} {x : PX} {m : Bool} {M : Model} {A : Around} {s : Shared} {E : Value → Shared → Prop} {Q : Bool → Shared → Prop}
/-- a class's except clause: does it hold this one? -/
theorem matches_ok {c : Nat} {b : Bool} (X : ExcAt W h0 L s.heap e x m) (kin : K.In s.heap) (hc : ExcCls W K c) (hs : mroIn K (W.cls x.cls) (.ref (W.cls c)) = some b) (h : Q b s) : wpAny M A (excMatches (.ref e) (.ref (W.cls c))) Q E s := by
  have Lt : Looks M s.heap (isInstance (.ref (W.cls c)) (.type "tuple")) false := looks_instIn kin (by unfold instIn; rw [hc.meta_]; rfl)
  have Lm := looks_mroIn (M := M) kin hc.mro
  have Ls := looks_mroIn (M := M) kin hs
  have Le := X.typ (M := M)
  have Li : Looks M s.heap (isType (.ref (W.cls c))) true := fun A Q E s' k q => by
    obtain ⟨oc, od, cd, sl, ho⟩ := cls_of_mro hc.mro
    obtain ⟨hh, g, dr, t, os⟩ := s'
    exact ks_wpAny_isType_cls (k _ _ (kin _ _ ho)) rfl q
  unfold excMatches isExcClass
  refine wpAny_bind (Lt.here ?_)
  rw [if_neg (by decide)]
  refine wpAny_bind (wpAny_pure ?_)
  show wpAny M A (forIn [Value.ref (W.cls c)] PUnit.unit _ >>= _) Q E s
  rw [List.forIn_cons]
  refine wpAny_bind (wpAny_bind (wpAny_bind (wpAny_bind (Li.here ?_))))
  rw [if_pos rfl]
  refine Lm.here ?_
  simp only [Bool.not_true, Bool.false_eq_true, if_false, List.forIn_nil]
  refine wpAny_pure (wpAny_pure (wpAny_bind (Le.here ?_)))
  simp only [List.forIn_cons, List.forIn_nil]
  refine wpAny_bind (wpAny_bind (wpAny_bind (Ls.here ?_)))
  cases b with
  | true => exact wpAny_pure (wpAny_pure (wpAny_pure h))
  | false => exact wpAny_pure (wpAny_pure (wpAny_pure h))
end
end Mine
end
/-! M20: the one try -/
section
set_option autoImplicit false
set_option linter.unusedVariables false
set_option linter.unusedSimpArgs false
set_option maxRecDepth 100000
namespace Mine
open PySem PySem.W PyProof.Rows

section
variable {W : Wd} {K : Frag} {Φ : Sig} {k n m : Nat} {A : Around} {env : Env} {fs : List Env} {ρ : Loc} {L : Lo} {σ : Store} {s : Shared} {st : Stmt} {rs : RS} {Q : Flow → Shared → Prop} {E : Value → Shared → Prop}
/-- a caught exception is bound to a local name -/
theorem store_exn {M : Model} {x : Nat} {e : Addr} {px : PX} {m : Bool} {i : Int} {h0 : Heap} {Q : Unit → Shared → Prop} (wok : WOk W) (er : EnvRel W false env ρ L s.heap) (X : ExcAt W h0 L s.heap e px m) (hi : px.spot = some i) (hloc : ∃ o, h0.get? env.locals = some o)
    (hk : env.kindOf (W.nm x) = some .local)
    (h : ∀ h' tk, Chg [env.locals] s.heap h' → EnvRel W true env (setL ρ x (.exn i)) L h' → Q () { s with heap := h', toks := tk }) : wpAny M A (storeName env (W.nm x) (.ref e)) Q E s := by
  obtain ⟨mm, hm⟩ := er.ns
  refine wpAny_storeName_local hk hm (fun h' hm' hs => ?_) (by rw [er.kind]; rfl)
  have c1 : Chg [env.locals] s.heap h' := by
    obtain ⟨o', es', ep', ho', hd', _⟩ := id hm'
    obtain ⟨o, es, ep, ho, hd, _⟩ := id hm
    refine ⟨fun b o hb e' => sameBut_ka hs b o (fun z => hb (List.mem_singleton.mpr z)) e', fun b ob e' z => sameBut_ka hs b ob (fun q => ?_) e', fun b ob es1 n1 e1 d1 => ?_⟩
    · subst q
      rw [ho] at e'; cases e'
      rcases z with ⟨_, _, z⟩ | ⟨_, _, _, _, rfl⟩
      · rw [hd] at z; cases z
      · cases hd
    · by_cases q : b = env.locals
      · subst q; exact ⟨o', es', ep', ho', hd'⟩
      · exact ⟨ob, es1, n1, sameBut_ka hs b ob q e1, d1⟩
  obtain ⟨x1, x2, x3, vs, d, ho, hsz, htb, hd1, hd2, hd3, hsp⟩ := X
  obtain ⟨oL, hoL⟩ := hloc
  have ne : e ≠ env.locals := fun z => by rw [z, hoL] at x1; cases x1
  have nd : d ≠ env.locals := fun z => by rw [z, hoL] at hd1; cases hd1
  obtain ⟨hcls, od, es, nn, t, g1, g2, g3, g4⟩ := hsp i hi
  refine h h' _ c1 ⟨er.kind, er.globals, er.builtins, ⟨_, hm'⟩, fun y py ey => ?_, fun y cc ec => ?_, er.apart, er.off, fun b hb => ?_, er.fresh, er.have_⟩
  · rw [lk_setL] at ey
    split at ey
    · rename_i q; subst q
      cases ey
      refine ⟨.ref e, .inl ⟨hk, _, hm', by simp⟩, ?_⟩
      simp only [RelV]
      refine ⟨trivial, e, d, rfl, x3, hd2, vs, od, es, nn, t, ?_, sameBut_ka hs d od nd g1, g2, g3, g4⟩
      rw [← hcls]
      exact sameBut_ka hs e _ ne ho
    · rename_i q
      obtain ⟨v', hn, rv⟩ := er.names y py ey
      refine ⟨v', ?_, (c1.rel rv).quiet⟩
      rcases hn with ⟨hk', m', hn', hv'⟩ | ⟨hk', c', hc', hv'⟩
      · refine .inl ⟨hk', _, hm', ?_⟩
        have : ¬ W.nm y = W.nm x := fun z => q (wok.inj _ _ z)
        rw [if_neg this]
        obtain ⟨o1, es1, ep1, ho1, hd1, hk1, hf1⟩ := hn'
        obtain ⟨o2, es2, ep2, ho2, hd2, hk2, hf2⟩ := hm
        rw [ho1] at ho2; cases ho2
        rw [hd1] at hd2; cases hd2
        rw [← hf2, hf1]; exact hv'
      · exact .inr ⟨hk', c', hc', (Slt.of_some fun o e' => sameBut_ka hs c' o (isCell_ne hv' hm) e' : Slt s.heap h' c').cell hv'⟩
  · obtain ⟨v', hv'⟩ := er.cells y cc ec
    exact ⟨v', (Slt.of_some fun o e' => sameBut_ka hs cc o (isCell_ne hv' hm) e' : Slt s.heap h' cc).cell hv'⟩
  · by_cases q : b = env.locals
    · subst q
      obtain ⟨o', es', ep', ho', hd', _⟩ := hm'
      exact ⟨o', ho', .inl ⟨_, _, hd'⟩⟩
    · obtain ⟨o, ho, z⟩ := er.low b hb
      exact ⟨o, sameBut_ka hs b o q ho, z⟩

theorem sx_tryy (wk : WK W K) (xo : XOk W K Φ k) (ihx : SX W Φ k n) (ihq : SE W Φ.quiet k n) {b : List CS} {c y : Nat} {e : CE} (h : chkS W.nm (m + 1) env.kindOf (.tryy b c y e) st = true) (a : At W Φ k A env fs ρ L σ s) (hr : ex Φ (n + 1) (.tryy b c y e) ρ σ = some rs) (P : PostS W Φ.q fs env L s rs Q E) :
    wpAny (model W.prog W.w) A (exec st env) Q E s := by
  simp only [chkS] at h
  split at h
  · rename_i bs id ip id' v rp hp pos
    simp only [Bool.and_eq_true, Bool.not_eq_true', beq_iff_eq] at h
    obtain ⟨⟨⟨⟨⟨⟨hb, rfl⟩, hk⟩, hd⟩, rfl⟩, hkl⟩, hv⟩ := h
    unfold ex at hr
    split at hr
    · cases hr
    rename_i hq
    rw [not_or] at hq
    have hq' := q_false hq.1
    have hkx : Φ.kx c = true := by simpa using hq.2
    obtain ⟨hmg, hkeep, hcls, hex⟩ := xo.ex c hkx
    have er := a.env
    rw [hq'] at P er
    refine wpAny_Try_except ?_
    cases he : exs Φ n b ρ σ with
    | none => rw [he] at hr; cases hr
    | some r₁ =>
      rw [he] at hr
      refine ihx.xs hb a he ?_
      rw [hq']
      cases r₁ with
      | nxt ρ' σ' =>
        simp only [Option.some.injEq] at hr
        subst hr
        exact fun L' h' tk er' st' af' => wpAny_execs_nil (P L' h' tk er' st' af')
      | ret vv ρ' σ' =>
        simp only [Option.some.injEq] at hr
        subst hr
        exact P
      | exc x ρ' σ' =>
        simp only at hr
        split at hr
        rotate_left
        · cases hr
        rename_i hxc
        split at hr
        rotate_left
        · cases hr
        rename_i i hi
        split at hr
        rotate_left
        · cases hr
        rename_i bb σ'' hev
        simp only [Option.some.injEq] at hr
        subst hr
        obtain rfl : σ'' = σ' := (quiet_store Φ.quiet rfl n).1 _ _ _ _ _ hev
        intro ee L' h' tk er' st' af' X
        refine noted_ok (s := { s with heap := h', toks := tk }) a.ar st' af' er'.live X fun h1 n1 st1 af1 X1 => ?_
        have er1 := er'.nt X n1 st'.fr
        refine flight_ok (s := { s with heap := h1, toks := tk }) (fs := fs) X1 fun h2 n2 X2 => ?_
        have er2 := er1.nt X1 n2 st1.fr
        have st2 := st1.nt X1 n2
        have af2 := af1.nt X1 n2 st1.fr
        refine wpAny_handleBy_cons (codeAny_handlers_test ?_) (by intro z; cases z)
        have aq2 : At W Φ.quiet k (A.mark (some (.ref ee))) env fs ρ' L' σ'' { s with heap := h2, toks := tk } := ⟨⟨a.ar.frames, a.ar.top, a.ar.frame, a.ar.depth, a.ar.units⟩, (fun z => by cases z), er2.quiet, st2.quiet, a.code_⟩
        refine wpAny_Name (glob_ok wk.toWOk aq2 hk hmg ?_) hd
        have kin2 := wk.kin.keeps st2.base
        refine matches_ok (s := { s with heap := h2, toks := tk }) X2 kin2 hcls (by rw [hxc]; exact hcls.self) ?_
        simp only [if_true]
        refine codeAny_handlers_suite_as ?_
        refine flight_ok (s := { s with heap := h2, toks := tk }) (fs := fs) X2 fun h3 n3 X3 => ?_
        have er3 := er2.nt X2 n3 st2.fr
        have st3 := st2.nt X2 n3
        have af3 := af2.nt X2 n3 st2.fr
        have hloc : ∃ o, s.heap.get? env.locals = some o := let ⟨o, ho, _⟩ := er.low _ (List.mem_cons_self ..); ⟨o, ho⟩
        refine store_exn (s := { s with heap := h3, toks := tk }) wk.toWOk er3 X3 hi hloc hkl fun h4 tk4 c4 er4 => ?_
        have offl : ∀ b ∈ [env.locals], b ∉ own L' ∧ W.b0.get? b = none := fun b hb => by rw [List.mem_singleton.mp hb]; exact ⟨er3.off _ (List.mem_cons_self ..), er3.fresh _ (List.mem_cons_self ..)⟩
        have st4 := st3.chg c4 offl
        have af34 : Aft (faOf env) L' h3 L' h4 := (c4.aft L').mono fun b hb => by rw [List.mem_singleton.mp hb]; exact List.mem_cons_self ..
        have af4 := af3.trans af34 st3.lay er3.live
        have aq4 : At W Φ.quiet k (A.mark (some (.ref ee))) env fs (setL ρ' y (.exn i)) L' σ'' { s with heap := h4, toks := tk4 } := ⟨⟨a.ar.frames, a.ar.top, a.ar.frame, a.ar.depth, a.ar.units⟩, (fun z => by cases z), er4, st4.quiet, a.code_⟩
        refine wpAny_execs_cons (wpAny_Return_some (ihq.e hv aq4 _ _ _ hev ?_))
        intro vv L5 h5 tk5 st5 af5 rel5
        have : vv = .bool bb := rel5
        subst this
        have st5' := st5.loud st4
        have er5 := er4.aft af5
        obtain ⟨m5, hm5⟩ := er5.ns
        refine wpAny_nameGoes (s := { s with heap := h5, toks := tk5 }) hkl hm5 (by rw [er5.kind]; rfl) fun h6 m6 hm6 hs6 => ?_
        have c6 : Chg [env.locals] h5 h6 := by
          obtain ⟨o', es', ep', ho', hd', _⟩ := id hm6
          obtain ⟨o, es, ep, ho, hd, _⟩ := id hm5
          refine ⟨fun b o hb e' => sameBut_ka hs6 b o (fun z => hb (List.mem_singleton.mpr z)) e', fun b ob e' z => sameBut_ka hs6 b ob (fun q => ?_) e', fun b ob es1 n1 e1 d1 => ?_⟩
          · subst q
            rw [ho] at e'; cases e'
            rcases z with ⟨_, _, z⟩ | ⟨_, _, _, _, rfl⟩
            · rw [hd] at z; cases z
            · cases hd
          · by_cases q : b = env.locals
            · subst q; exact ⟨o', es', ep', ho', hd'⟩
            · exact ⟨ob, es1, n1, sameBut_ka hs6 b ob q e1, d1⟩
        have offl5 : ∀ b ∈ [env.locals], b ∉ own L5 ∧ W.b0.get? b = none := fun b hb => by rw [List.mem_singleton.mp hb]; exact ⟨er5.off _ (List.mem_cons_self ..), er5.fresh _ (List.mem_cons_self ..)⟩
        have st6 := st5'.chg c6 offl5
        have af56 : Aft (faOf env) L5 h5 L5 h6 := (c6.aft L5).mono fun b hb => by rw [List.mem_singleton.mp hb]; exact List.mem_cons_self ..
        have af6 := (af4.trans af5.nil_mono st4.lay er4.live).trans af56 st5.lay er5.live
        have er6 : EnvRel W false env [] L5 h6 := by
          refine ⟨er5.kind, er5.globals, er5.builtins, ⟨_, hm6⟩, fun y py ey => (by cases ey), fun y cc ec => ?_, er5.apart, er5.off, fun b hb => ?_, er5.fresh, er5.have_⟩
          · obtain ⟨v', hv'⟩ := er5.cells y cc ec
            exact ⟨v', (Slt.of_some fun o e' => sameBut_ka hs6 cc o (isCell_ne hv' hm5) e' : Slt h5 h6 cc).cell hv'⟩
          · by_cases q : b = env.locals
            · subst q
              obtain ⟨o', es', ep', ho', hd', _⟩ := hm6
              exact ⟨o', ho', .inl ⟨_, _, hd'⟩⟩
            · obtain ⟨o, ho, z⟩ := er5.low b hb
              exact ⟨o, sameBut_ka hs6 b o q ho, z⟩
        exact P (.bool bb) L5 h6 _ er6 st6 af6 rfl
  · cases h
end
end Mine
end
/-! M21: _law_heard(lambda: ...) -/
section
set_option autoImplicit false
set_option linter.unusedVariables false
set_option linter.unusedSimpArgs false
set_option maxRecDepth 100000
namespace Mine
open PySem PySem.W PySem.Calls PyProof.Rows

def chkHeard (nm : Nat → Str) (ask : Nat) : List Stmt → Bool
  | [.Try [.Return (some (.Tuple [.Constant (.str a) _ _, .Call (.Name b _) [] [] _] _ _)) _] [.ExceptHandler (some (.Name c _)) none [.Return (some (.Tuple [.Constant (.str d) _ _, .Constant .none _ _] _ _)) _] _, .ExceptHandler (some (.Name e _)) none [.Return (some (.Tuple [.Constant (.str f) _ _, .Constant .none _ _] _ _)) _] _] [] [] _] =>
    a == ⟨sTold.toArray⟩ && b == nm ask && c == nm 3 && d == ⟨sLimit.toArray⟩ && e == nm 4 && f == ⟨sTerm.toArray⟩ && !(b == dbg) && !(c == dbg) && !(e == dbg)
  | _ => false

structure LawOk (W : Wd) (K : Frag) (HA : Addr) (fdH : FuncData) (ask : Nat) (bodyH : List Stmt) : Prop where
  hd : CodeHd W.b0 W.lc W.tab
  ba : W.b0.BuiltinsAt W.mg W.tab
  hmg : W.mg ("_law_heard" : Str) = some (.ref HA)
  keep : keepIn K (.ref HA) = true
  fn : FnAt W K HA fdH [ask] bodyH
  body : chkHeard W.nm ask bodyH = true
  kask : fdH.scope.names.lookup (W.nm ask) = some .local
  k3 : fdH.scope.names.lookup (W.nm 3) = some .globalImplicit
  k4 : fdH.scope.names.lookup (W.nm 4) = some .globalImplicit
  g3 : W.mg (W.nm 3) = some (.ref (W.cls 3))
  g4 : W.mg (W.nm 4) = some (.ref (W.cls 4))
  c3 : ExcCls W K 3
  c4 : ExcCls W K 4
  m43 : mroIn K (W.cls 4) (.ref (W.cls 3)) = some false

theorem codeAmong_other {pos : Pos} {a b : Int} {c : Value} (h : a ≠ pos.line) : ∀ (n : Nat) (l : List Value), l.length ≤ n → TriplesOk l → codeAmong pos l = none → codeAmong pos (l ++ [rawInt a, rawInt b, c]) = none := by
  intro n
  induction n with
  | zero =>
    intro l hl _ _
    have : l = [] := List.length_eq_zero_iff.mp (by omega)
    subst this
    have : (a == (pos.line : Int)) = false := by simpa using h
    simp [codeAmong, rawInt, this]
  | succ n ih =>
    intro l hl ht hn
    unfold TriplesOk at ht
    split at ht
    · have : (a == (pos.line : Int)) = false := by simpa using h
      simp [codeAmong, rawInt, this]
    · rename_i x t y u v r
      simp only [codeAmong] at hn
      simp only [List.cons_append, codeAmong]
      split at hn
      · cases hn
      · rename_i q
        rw [if_neg q]
        exact ih r (by simp only [List.length_cons] at hl; omega) ht hn
    · exact ht.elim

section
variable {M : Model} {A : Around} {E : Value → Shared → Prop} {s : Shared} {env : Env}
theorem ret_pair {d : Str} {k1 k2 kk : Nat} {p1 p2 pp rp : Pos} {Q : Flow → Shared → Prop}
    (h : ∀ t tk, Q (.ret (.ref s.heap.objs.size)) { s with heap := s.heap.push { cls := .type "tuple", data := .seq [Value.str d t, Value.none].toArray }, toks := tk }) :
    wpAny M A (execs [.Return (some (.Tuple [.Constant (.str d) k1 p1, .Constant .none k2 p2] kk pp)) rp] env) Q E s := by
  refine wpAny_execs_cons (wpAny_Return_some (wpAny_Tuple ?_))
  refine wpAny_items_cons (wpAny_Constant_str ?_) rfl
  refine wpAny_items_cons (wpAny_Constant_none ?_) rfl
  exact wpAny_items_nil ⟨by show 2 ≤ sizeLine; rw [sizeLine_eq]; omega, h _ _⟩
end

section
variable {W : Wd} {K : Frag} {Φ : Sig} {k n m : Nat} {A : Around} {env : Env} {fs : List Env} {ρ : Loc} {L : Lo} {σ : Store} {s : Shared} {x : Expr}
/-- the lambda's own names -/
theorem lamEnv_rel {sc : Scope} {fv : List Nat} {cl : List (Str × Addr)} {C : Addr} {ρ' : Loc} {L' : Lo} {h h' : Heap} {qual : Str} {f : Option Addr} {code : Value} (he : EnvRel W false env ρ L h) (hf : freeOk W.nm env.kindOf fv sc = true)
    (c2 : ∀ y c, cl.lookup y = some c → env.cells.lookup y = some c) (c3 : ∀ y ∈ sc.names, y.2 = .free → (cl.lookup y.1).isSome = true)
    (hcap : capture ρ fv = some ρ') (kk : ∀ b ∈ faOf env, Slt h h' b) (rl : ∀ {v : Value} {p : PV}, RelV false L h v p → RelV false L' h' v p) (hC : ∃ m, h'.Ns C m) (hCo : C ∉ own L') (hCb : W.b0.get? C = none) (hown : ∀ b ∈ faOf env, b ∉ own L') :
    EnvRel W false (newEnv sc C mainGlobals cl qual f code none builtinsNs) ρ' L' h' := by
  obtain ⟨f1, f2, f3⟩ := free_names hf
  refine ⟨f1, rfl, rfl, hC, fun x pv e => ?_, fun y c e => ?_, fun y z c e1 e2 => he.apart y z c (c2 y c e1) (c2 z c e2), fun b hb => ?_, fun b hb => ?_, fun b hb => ?_, fun y e => ?_⟩
  · obtain ⟨hx, hl⟩ := capture_lk hcap x pv e
    obtain ⟨g1, g2⟩ := f2 x hx
    obtain ⟨v, hn, rv⟩ := he.names x pv hl
    refine ⟨v, .inr ⟨.inr g1, ?_⟩, rl rv⟩
    rcases hn with ⟨hk, _⟩ | ⟨_, c, hc, hv⟩
    · rw [g2] at hk; cases hk
    · obtain ⟨c', hc'⟩ := Option.isSome_iff_exists.mp (c3 (W.nm x, .free) (mem_of_lookup g1) rfl)
      have := c2 _ _ hc'
      rw [hc] at this; cases this
      exact ⟨c, hc', (kk c (cell_mem hc)).cell hv⟩
  · obtain ⟨v, hv⟩ := he.cells y c (c2 y c e)
    exact ⟨v, (kk c (cell_mem (c2 y c e))).cell hv⟩
  · rcases List.mem_cons.mp hb with rfl | hb
    · exact hCo
    · obtain ⟨y, hy⟩ := faOf_cell (env := newEnv sc C mainGlobals cl qual f code none builtinsNs) hb
      exact hown b (cell_mem (c2 y b hy))
  · rcases List.mem_cons.mp hb with rfl | hb
    · obtain ⟨mm, o, es, ep, ho, hd, _⟩ := hC
      exact ⟨o, ho, .inl ⟨_, _, hd⟩⟩
    · obtain ⟨y, hy⟩ := faOf_cell (env := newEnv sc C mainGlobals cl qual f code none builtinsNs) hb
      obtain ⟨o, ho, z⟩ := he.low b (cell_mem (c2 y b hy))
      obtain ⟨sl, e1, _⟩ := kk b (cell_mem (c2 y b hy)) o ho
      exact ⟨_, e1, z⟩
  · rcases List.mem_cons.mp hb with rfl | hb
    · exact hCb
    · obtain ⟨y, hy⟩ := faOf_cell (env := newEnv sc C mainGlobals cl qual f code none builtinsNs) hb
      exact he.fresh b (cell_mem (c2 y b hy))
  · exact absurd rfl (f3 _ (mem_of_lookup e)).2.2

/-- the lambda is made: the table of codes is turned, all else stays -/
theorem lam_made (wk : WK W K) {HA : Addr} {fdH : FuncData} {ask : Nat} {bodyH : List Stmt} (lo : LawOk W K HA fdH ask bodyH) {l : List Nat} {i : Nat} {sc : Scope} {b : Expr} {lp : Pos} {cl : List (Str × Addr)} {Q : Value → Shared → Prop} {E : Value → Shared → Prop}
    (er : EnvRel W false env ρ L s.heap) (st : St W false fs L σ s.heap) (hcode : env.code = .ref W.lc) (htab : σ[0]? = some (PO.tab l)) (hi : i ∉ l) (hlp : lp.line = i) (hcl : closureFor sc env = pure cl)
    (h : ∀ f c' ctv pm h' tk, s.heap.get? f = none → h'.get? f = some (kla_obj "<lambda>" (env.qual ++ "<lambda>") ⟨[], [], none, [], [], none, []⟩ b sc cl pm c' ctv) → h'.CodeRec (.ref c') (env.qual ++ "<lambda>") →
      St W false fs L (σ.set 0 (.tab (i :: l))) h' → Aft [] L s.heap L h' → Q (.ref f) { s with heap := h', toks := tk }) :
    wpAny (model W.prog W.w) A (eval (.Lambda ⟨[], [], none, [], [], none, []⟩ b sc lp) env) Q E s := by
  have hL0 : ∃ p, L.l[0]? = some p := by
    have : 0 < L.l.length := by rw [st.lay.len]; exact (List.getElem?_eq_some_iff.mp htab).1
    exact ⟨L.l[0], List.getElem?_eq_getElem this⟩
  obtain ⟨p, hp⟩ := hL0
  obtain ⟨hda, hpa, ps, hP, htr, hnf⟩ := st.lay.objs 0 p _ hp htab
  rw [hpa] at hP
  have hg := wk.g.keeps st.base
  have hgP : mainGlobals ≠ W.tab := fun q => by
    obtain ⟨o, es, ep, e, hd, _⟩ := hg
    rw [q, hP] at e; cases e; cases hd
  obtain ⟨bm, ob, b1, b2, b3, b4, b5, b6⟩ := lo.ba
  refine kla_eval rfl (kla_makeFunction (mg := W.mg) hcl er.globals hg hcode (lo.hd.keeps st.base) hP htr (hnf lp (by rw [hlp]; exact hi)) hgP ⟨bm, ob, b1, b2, b3, b4, st.base _ _ b5, b6⟩ fun c' ctv h' tk hx hge hlt hrec htb => ?_)
  have fresh : s.heap.get? h'.objs.size = none := Heap.get?_none_of_le (Nat.le_trans hge (Nat.le_of_lt hlt))
  have keep : ∀ b' o, b' ≠ p.a → b' ≠ p.d → s.heap.get? b' = some o → (h'.push (kla_obj "<lambda>" (env.qual ++ "<lambda>") ⟨[], [], none, [], [], none, []⟩ b sc cl ((W.mg "__name__").getD .none) c' ctv)).get? b' = some o := fun b' o hb _ e =>
    Heap.get?_push_of_some _ (hx b' o (by rw [← hpa]; exact hb) e)
  obtain ⟨st', af'⟩ := st_upd (o := .tab l) (o' := .tab (i :: l)) st hp keep fun rl rls => ⟨hda, hpa, ps ++ #[rawInt lp.line, rawInt lp.col, .ref c'], by rw [hpa]; exact Heap.get?_push_of_some _ htb, by
      have := TriplesOk_snoc (lp.line : Int) (lp.col : Int) (.ref c') ps.toList htr
      simpa using this, fun pos hpos => by
      rw [List.mem_cons, not_or] at hpos
      have := codeAmong_other (pos := pos) (a := (lp.line : Int)) (b := (lp.col : Int)) (c := .ref c') (by rw [hlp]; exact fun z => hpos.1 (by exact_mod_cast z.symm)) _ ps.toList (Nat.le_refl _) htr (hnf pos hpos.2)
      simpa using this⟩
  refine h h'.objs.size c' ctv _ _ tk fresh (Heap.get?_push_size _ rfl) ?_ st' af'
  obtain ⟨c2, oc, vs, t, e2, hoc, hd, hv⟩ := hrec
  exact ⟨c2, oc, vs, t, e2, Heap.get?_push_of_some _ hoc, hd, hv⟩
end
end Mine
end
/-! M22: what _law_heard makes of what it asks -/
section
set_option autoImplicit false
set_option linter.unusedVariables false
set_option linter.unusedSimpArgs false
set_option maxRecDepth 100000
namespace Mine
open PySem PySem.W PySem.Calls PyProof.Rows

section
variable {W : Wd} {K : Frag} {Φ : Sig} {k n m : Nat}
/-- a pair made last -/
theorem pair_rel {q : Bool} {fs : List Env} {L : Lo} {σ : Store} {h : Heap} {d : List Nat} {t : Tok} {v : Value} {p : PV} (st : St W q fs L σ h) (rv : RelV q L h v p) :
    KA h (h.push { cls := .type "tuple", data := .seq [Value.str ⟨d.toArray⟩ t, v].toArray }) ∧ RelV q L (h.push { cls := .type "tuple", data := .seq [Value.str ⟨d.toArray⟩ t, v].toArray }) (.ref h.objs.size) (.tup [.str d, p]) := by
  have k1 : KA h (h.push { cls := .type "tuple", data := .seq [Value.str ⟨d.toArray⟩ t, v].toArray }) := KA.push _ _
  refine ⟨k1, ?_⟩
  simp only [RelV]
  refine ⟨_, _, rfl, own_fresh st.lay, ⟨_, Heap.get?_push_size _ rfl, rfl, 0, rfl⟩, ?_⟩
  simp only [RelVs, and_true]
  exact ⟨⟨t, rfl⟩, k1.rel rv⟩

/-- the lambda is called -/
theorem lam_call (wk : WK W K) (ihl : SE W Φ.low k n) (hq : Φ.q = false) {fd0 : Env} {env : Env} {ρ ρ' : Loc} {fv : List Nat} {sc : Scope} {cl : List (Str × Addr)} {b : Expr} {e : CE} {f : Addr} {c' : Addr} {ctv pm : Value} {qual : Str} {A : Around} {envH : Env} {fs : List Env} {L : Lo} {σ : Store} {s : Shared} {r : R PV} {Q E : Value → Shared → Prop}
    (ar : Ar A envH fs (k + 1)) (hh : A.handled = none) (st : St W false fs L σ s.heap) (er : EnvRel W false env ρ L s.heap) (hf : freeOk W.nm env.kindOf fv sc = true)
    (hge : sc.isGenerator = false) (hco : sc.isCoroutine = false) (c2 : ∀ y c, cl.lookup y = some c → env.cells.lookup y = some c) (c3 : ∀ y ∈ sc.names, y.2 = .free → (cl.lookup y.1).isSome = true) (hcap : capture ρ fv = some ρ')
    (hchk : chk W.nm m (fun y => sc.names.lookup y) e b = true) (ho : s.heap.get? f = some (kla_obj "<lambda>" qual ⟨[], [], none, [], [], none, []⟩ b sc cl pm c' ctv)) (hcd : s.heap.CodeRec (.ref c') qual)
    (hr : ev Φ.low n e ρ' σ = some r) (P : Post W false fs (RelV false) L s r Q E) : wpAny (model W.prog W.w) A (call (.ref f) []) Q E s := by
  obtain ⟨f1, f2, f3⟩ := free_names hf
  refine wpAny_call (kla_callFunE (by have := ar.depth; omega) ho rfl hco hge rfl hcd (wpAny_of_eq (a := []) (by rfl) ?_))
  refine wpAny_newFunctionEnv (fun y hy => (f3 y hy).2.2) (by intro y hy; simp at hy) (fun h₁ hns hsb => ?_) f1
  have hC0 := fresh_none s.heap
  dsimp only at hns hsb ⊢
  generalize hCC : s.heap.objs.size = C at hC0 hns hsb ⊢
  have kk : KA s.heap h₁ := fun b o e => by
    have hb : b ≠ C := fun z => by rw [z, hC0] at e; cases e
    exact (hsb.2 b hb).trans (Heap.get?_push_of_some _ e)
  have b0C : W.b0.get? C = none := by
    cases z : W.b0.get? C with
    | none => rfl
    | some o => have := st.base C o z; rw [hC0] at this; cases this
  have offC : C ∉ own L := fun z => by
    obtain ⟨o, ho⟩ := st.lay.live z
    rw [hC0] at ho; cases ho
  generalize he3 : newEnv sc C mainGlobals cl (qual ++ ".<locals>.") (some f) (.ref c') none builtinsNs = env3
  have st₁ := st.ka kk
  have er3 : EnvRel W false env3 ρ' L h₁ := he3 ▸ lamEnv_rel er hf c2 c3 hcap (fun b _ => kk.slt b) kk.rel ⟨_, hns⟩ offC b0C er.off
  have hloc : env3.locals = C := by rw [← he3]; rfl
  have hfr : env3.frame = some C := by rw [← he3]; rfl
  have hko : env3.kindOf = fun y => sc.names.lookup y := by rw [← he3]; rfl
  obtain ⟨oC, esC, epC, hoC, hdC, _⟩ := id hns
  have stE : St W false (env3 :: fs) L σ h₁ := ⟨st₁.base, st₁.offb, st₁.lay, fun e he => by
    rcases List.mem_cons.mp he with rfl | he
    · exact ⟨by rw [er3.kind]; decide, C, oC, hfr, b0C, offC, hoC, _, _, hdC⟩
    · exact st₁.fr e he⟩
  refine ⟨wk.nolimit.keeps st₁.base, kla_codeExpr ?_⟩
  have aE : At W Φ.low k (A.deeper env3) env3 (env3 :: fs) ρ' L σ { s with heap := h₁, toks := s.toks + ([] : List (Str × Value)).length } := by
    refine ⟨⟨by show A.frames.map _ = _; rw [ar.frames]; rfl, ⟨env3, fs, rfl, rfl⟩, ⟨_, hfr⟩, ?_, ?_⟩, fun _ => hh, ?_, ?_, fun z => by cases z⟩
    · show A.depth + 1 + k < recursionLimit
      have := ar.depth; omega
    · show A.units + 3 + 16 * k + 64 < cLine
      have := ar.units; omega
    · rw [show Φ.low.q = false from hq]; exact er3
    · rw [show Φ.low.q = false from hq]; exact stE
  have lift : ∀ {L' : Lo} {h' : Heap}, Aft [] L h₁ L' h' → Aft [] L s.heap L' h' := fun {L' h'} af => by
    obtain ⟨⟨T, rfl, hT⟩, hk⟩ := af
    refine ⟨⟨T, rfl, fun a ha => ?_⟩, fun b hb _ o e => hk b hb (fun z => by cases z) o (kk b o e)⟩
    cases z : s.heap.get? a with
    | none => rfl
    | some o => have := kk a o z; rw [hT a ha] at this; cases this
  refine ihl.e (by rw [hko]; exact hchk) aE r _ _ hr ?_
  rw [show Φ.low.q = false from hq]
  cases r with
  | ok v σ' => exact fun vv L' h' tk' st' af' rel => P vv L' h' tk' st'.pop (lift af') rel
  | exc px σ' =>
    intro ee L' h' tk' st' af' X
    show wpAny _ _ (leaving env3 (.ref ee)) _ _ _
    unfold leaving
    refine wpAny_bind (noted_ok (s := { s with heap := h', toks := tk' }) (fa := []) aE.ar st' af' (fun _ z => by cases z) X fun h₂ n₂ st₂ af₂ X₂ => ?_)
    refine flight_ok (s := { s with heap := h₂, toks := tk' }) (fs := env3 :: fs) X₂ fun h₃ n₃ X₃ => ?_
    have st₃ := st₂.nt X₂ n₃
    have af₃ := af₂.nt X₂ n₃ st₂.fr
    exact P ee L' h₃ tk' st₃.pop (lift af₃) (X₃.weak.back fun a z => by
      cases q : s.heap.get? a with
      | none => rfl
      | some o => have := kk a o q; rw [z] at this; cases this)

theorem glob_env (wok : WOk W) {q : Bool} {env : Env} {ρ : Loc} {L : Lo} {A : Around} {s : Shared} {y : Str} {v : Value} {Q : Value → Shared → Prop} {E : Value → Shared → Prop} (er : EnvRel W q env ρ L s.heap) (hb : W.b0.StaysIn s.heap) (hk : env.kindOf y = some .globalImplicit) (hv : W.mg y = some v) (h : Q v s) :
    wpAny (model W.prog W.w) A (loadName env y) Q E s :=
  ks_loadName_global er.kind hk (Calls.loadGlobal_global (by rw [er.globals]; exact wok.g.keeps hb) hv h)

/-- one clause of _law_heard that holds -/
theorem clause_ok (wk : WK W K) {c : Nat} {px : PX} {d : List Nat} {A : Around} {envH : Env} {fs : List Env} {L0 L : Lo} {h0 : Heap} {σ : Store} {s : Shared} {ee : Addr} {mm : Bool} {np cp p1 p2 pp rp : Pos} {k1 k2 kk : Nat} {rest : List ExceptHandler} {Q : Flow → Shared → Prop} {E : Value → Shared → Prop}
    (er : EnvRel W false envH [] L s.heap) (st : St W false fs L σ s.heap) (af : Aft (faOf envH) L0 h0 L s.heap) (X : ExcAt W h0 L s.heap ee px mm) (hk : envH.kindOf (W.nm c) = some .globalImplicit) (hv : W.mg (W.nm c) = some (.ref (W.cls c))) (hd : (W.nm c == dbg) = false) (hc : ExcCls W K c) (hx : px.cls = c)
    (P : ∀ vv L' h' tk, EnvRel W false envH [] L' h' → St W false fs L' σ h' → Aft (faOf envH) L0 h0 L' h' → RelV false L' h' vv (.tup [.str d, .none]) → Q (.ret vv) { s with heap := h', toks := tk }) :
    wpAny (model W.prog W.w) A (handleBy (.ref ee) envH (.ExceptHandler (some (.Name (W.nm c) np)) none [.Return (some (.Tuple [.Constant (.str ⟨d.toArray⟩) k1 p1, .Constant .none k2 p2] kk pp)) rp] cp :: rest)) Q E s := by
  refine wpAny_handleBy_cons (codeAny_handlers_test ?_) (by intro z; cases z)
  refine wpAny_Name (glob_env wk.toWOk er st.base hk hv ?_) hd
  refine matches_ok X (wk.kin.keeps st.base) hc (by rw [hx]; exact hc.self) ?_
  simp only [if_true]
  refine codeAny_handlers_suite ?_
  refine flight_ok (fs := fs) X fun h1 n1 X1 => ?_
  have st1 := st.nt X n1
  have er1 := er.nt X n1 st.fr
  have af1 := af.nt X n1 st.fr
  refine ret_pair fun t tk => ?_
  obtain ⟨k1, rp⟩ := pair_rel (d := d) (t := t) (p := .none) (v := .none) st1 rfl
  exact P _ L _ _ (er1.ka k1) (st1.ka k1) (af1.trans (k1.aft _ L) st1.lay er1.live) rp

theorem se_heard (wk : WK W K) {HA : Addr} {fdH : FuncData} {ask : Nat} {bodyH : List Stmt} (lo : LawOk W K HA fdH ask bodyH) (ihl : SE W Φ.low k n) {A : Around} {env : Env} {fs : List Env} {ρ : Loc} {L : Lo} {σ : Store} {s : Shared} {x : Expr} {i : Nat} {fv : List Nat} {e : CE}
    (h : chk W.nm (m + 1) env.kindOf (.heard i fv e) x = true) (a : At W Φ (k + 2) A env fs ρ L σ s) : Snd W Φ.q fs A (eval x env) (ev Φ (n + 1) (.heard i fv e) ρ σ) (RelV Φ.q) L s := by
  intro r Q E hr P
  simp only [chk] at h
  split at h
  · rename_i id ip b sc lp cp
    simp only [Bool.and_eq_true, Bool.not_eq_true', beq_iff_eq] at h
    obtain ⟨⟨⟨⟨⟨⟨⟨hlp, rfl⟩, hk⟩, hd⟩, hge⟩, hco⟩, hf⟩, hc⟩ := h
    unfold ev at hr
    split at hr
    · cases hr
    rename_i hq
    rw [not_or] at hq
    have hq' := q_false hq.1
    have htop : Φ.top = true := by simpa using hq.2
    split at hr
    rotate_left
    · cases hr
    rename_i ρ' l hcap htab
    split at hr
    · cases hr
    rename_i hil
    have hil : i ∉ l := fun z => hil (by simpa using z)
    have er := a.env
    have st := a.st
    rw [hq'] at P er st
    obtain ⟨f1, f2, f3⟩ := free_names hf
    obtain ⟨cl, d1, d2, d3, d4⟩ := closure_ok (env := env) (sc := sc) fun y hy e => by
      obtain ⟨c, hc⟩ := er.have_ _ ((f3 y hy).2.1 e)
      rw [hc]; rfl
    -- what is asked
    cases hr₀ : ev Φ.low n e ρ' (σ.set 0 (PO.tab (i :: l))) with
    | none => rw [hr₀] at hr; cases hr
    | some r₀ =>
    rw [hr₀] at hr
    obtain ⟨tv, σ₂, rfl⟩ : ∃ tv σ₂, r = .ok tv σ₂ := by
      cases r₀ with
      | ok v σ₂ => simp only [heardOf, Option.some.injEq] at hr; exact ⟨_, _, hr.symm⟩
      | exc px σ₂ =>
        simp only [heardOf] at hr
        split at hr
        · simp only [Option.some.injEq] at hr; exact ⟨_, _, hr.symm⟩
        · split at hr
          · simp only [Option.some.injEq] at hr; exact ⟨_, _, hr.symm⟩
          · cases hr
    rw [arm_eval_Call_Name']
    refine wpAny_bind (wpAny_Name (glob_ok wk.toWOk a hk lo.hmg ?_) hd)
    refine callWith_of (P := fun h => W.b0.StaysIn h) rfl (fun h hb => keeps_K lo.keep h (wk.kin.keeps hb)) ?_
    refine evalArgs_of rfl ?_
    refine wpAny_items_cons (lam_made wk lo er st (a.code_ htop) htab hil hlp d1 fun f c' ctv pm h₁ tk₁ hf0 hf1 hrec st₁ af₁ => ?_) rfl
    refine wpAny_items_nil ⟨st₁.base, ?_⟩
    have er₁ := er.aft af₁
    have P₁ := P.next (tk := tk₁) st₁ af₁
    show wpAny _ _ (call (.ref HA) [.ref f]) _ _ _
    refine fn_enter (k := k + 1) (Φ := Φ.low) (rs := .ret tv [] σ₂) (ρ0 := []) wk lo.fn hq' (fun z => by cases z) (s := { s with heap := h₁, toks := tk₁ }) a.ar (a.hq hq') st₁ rfl (fun x pv e => by cases e) P₁ fun envH h₂ tk₂ Q' E' aH hkH kk₂ nameAt newH PS => ?_
    have erH := aH.env
    have stH := aH.st
    rw [show Φ.low.q = false from hq'] at erH stH
    have hbody := lo.body
    unfold chkHeard at hbody
    split at hbody
    rotate_left
    · cases hbody
    rename_i t1 q1 q2 b2 q3 q4 q5 q6 q7 c3 q8 t2 q9 q10 q11 q12 q13 q14 q15 q16 c4 q17 t3 q18 q19 q20 q21 q22 q23 q24 q25 q26
    simp only [Bool.and_eq_true, Bool.not_eq_true', beq_iff_eq] at hbody
    obtain ⟨⟨⟨⟨⟨⟨⟨⟨rfl, rfl⟩, rfl⟩, rfl⟩, rfl⟩, rfl⟩, hd1⟩, hd3⟩, hd4⟩ := hbody
    have hkask : envH.kindOf (W.nm ask) = some .local := by rw [hkH]; exact lo.kask
    have hname : NameAt envH h₂ (W.nm ask) (.ref f) := nameAt ask (List.mem_singleton.mpr rfl) _ (by simp [List.lookup_cons])
    have hho : h₂.get? f = some (kla_obj "<lambda>" (env.qual ++ "<lambda>") ⟨[], [], none, [], [], none, []⟩ b sc cl pm c' ctv) := kk₂ _ _ hf1
    refine wpAny_execs_cons (wpAny_Try_except ?_)
    refine wpAny_execs_cons (wpAny_Return_some (wpAny_Tuple ?_))
    refine wpAny_items_cons (wpAny_Constant_str ?_) rfl
    refine wpAny_items_cons ?_ rfl
    rw [arm_eval_Call_Name']
    refine wpAny_bind (wpAny_Name ?_ hd1)
    rcases hname with ⟨_, mm, hm, hv⟩ | ⟨hk', _⟩
    rotate_left
    · rw [hkask] at hk'; rcases hk' with hk' | hk' <;> cases hk'
    refine wpAny_loadName_local erH.kind hkask hm hv ?_
    refine callWith_of (P := fun h => h.get? f = some (kla_obj "<lambda>" (env.qual ++ "<lambda>") ⟨[], [], none, [], [], none, []⟩ b sc cl pm c' ctv)) rfl (fun h hp => ⟨.frame, .inl rfl, (Looks.ld (part := none) hp).andThen .now⟩) ?_
    refine evalArgs_of rfl (Calls.spliced_nil ⟨hho, ?_⟩)
    show wpAny _ _ (call (.ref f) []) _ _ _
    have stT : St W false (envH :: fs) L (σ.set 0 (PO.tab (i :: l))) h₂ := stH
    refine lam_call (s := { s with heap := h₂, toks := tk₂ + 1 }) wk ihl hq' (fd0 := env) aH.ar (aH.hq hq') stT (er₁.ka kk₂) hf hge hco d2 d3 hcap hc hho (by
      obtain ⟨c2, oc, vs, t, e2, hoc, hd, hv⟩ := hrec
      exact ⟨c2, oc, vs, t, e2, kk₂ _ _ hoc, hd, hv⟩) hr₀ ?_
    cases r₀ with
    | ok v σ₃ =>
      simp only [heardOf, Option.some.injEq, R.ok.injEq] at hr
      obtain ⟨rfl, rfl⟩ := hr
      intro vv L' h' tk' st' af' rel
      refine wpAny_items_nil ⟨by show 2 ≤ sizeLine; rw [sizeLine_eq]; omega, ?_⟩
      obtain ⟨k1, rp⟩ := pair_rel (d := sTold) (t := tk₂) st' rel
      have er' := erH.aft af'
      exact PS _ L' _ _ (er'.ka k1) (st'.ka k1) (((af'.trans0 (k1.aft [] L') st'.lay).nil_mono)) rp
    | exc px σ₃ =>
      simp only [heardOf] at hr
      intro ee L' h' tk' st' af' X
      have er' := erH.aft af'
      refine noted_ok (s := { s with heap := h', toks := tk' }) (fa := []) aH.ar st' af' (fun _ z => by cases z) X fun h3 n3 st3 af3 X3 => ?_
      have er3 := er'.nt X n3 st'.fr
      refine flight_ok (s := { s with heap := h3, toks := tk' }) (fs := envH :: fs) X3 fun h4 n4 X4 => ?_
      have er4 := er3.nt X3 n4 st3.fr
      have st4 := st3.nt X3 n4
      have af4 := af3.nt X3 n4 st3.fr
      have hk3 : envH.kindOf (W.nm 3) = some .globalImplicit := by rw [hkH]; exact lo.k3
      have hk4 : envH.kindOf (W.nm 4) = some .globalImplicit := by rw [hkH]; exact lo.k4
      have X4' : ExcAt W h₂ L' h4 ee px true := X4
      split at hr
      · rename_i hx
        simp only [Option.some.injEq, R.ok.injEq] at hr
        obtain ⟨rfl, rfl⟩ := hr
        exact clause_ok (s := { s with heap := h4, toks := tk' }) wk er4 st4 af4.nil_mono X4' hk3 lo.g3 hd3 lo.c3 hx fun vv L5 h5 tk5 er5 st5 af5 rel5 => PS vv L5 h5 tk5 er5 st5 af5 rel5
      · rename_i hx3
        split at hr
        · rename_i hx
          simp only [Option.some.injEq, R.ok.injEq] at hr
          obtain ⟨rfl, rfl⟩ := hr
          refine wpAny_handleBy_cons (codeAny_handlers_test ?_) (by intro z; cases z)
          refine wpAny_Name (glob_env (s := { s with heap := h4, toks := tk' }) wk.toWOk er4 st4.base hk3 lo.g3 ?_) hd3
          refine matches_ok (s := { s with heap := h4, toks := tk' }) X4' (wk.kin.keeps st4.base) lo.c3 (by rw [hx]; exact lo.m43) ?_
          simp only [Bool.false_eq_true, if_false]
          exact clause_ok (s := { s with heap := h4, toks := tk' }) wk er4 st4 af4.nil_mono X4' hk4 lo.g4 hd4 lo.c4 hx fun vv L5 h5 tk5 er5 st5 af5 rel5 => PS vv L5 h5 tk5 er5 st5 af5 rel5
        · cases hr
  · cases h
end
end Mine
end
/-! M23: all forms are sound -/
section
set_option autoImplicit false
set_option linter.unusedVariables false
set_option linter.unusedSimpArgs false
set_option maxRecDepth 100000
namespace Mine
open PySem PySem.W PySem.Calls PyProof.Rows

theorem Ar.le {A : Around} {env : Env} {fs : List Env} {k k' : Nat} (a : Ar A env fs k') (h : k ≤ k') : Ar A env fs k :=
  ⟨a.frames, a.top, a.frame, by have := a.depth; omega, by have := a.units; omega⟩
theorem CallOk.le {W : Wd} {k k' : Nat} {f : Value} {args : List PV} {σ : Store} {r : R PV} (x : CallOk W k f args σ r) (h : k ≤ k') : CallOk W k' f args σ r :=
  fun A env fs s L vs Q E ar => x A env fs s L vs Q E (ar.le h)
theorem RaiseOk.le {W : Wd} {k k' : Nat} {f : Value} {args : List PV} {p : PX} (x : RaiseOk W k f args p) (h : k ≤ k') : RaiseOk W k' f args p :=
  fun A env fs σ s L vs Q E ar => x A env fs σ s L vs Q E (ar.le h)
theorem SigOk.le {W : Wd} {K : Frag} {Φ : Sig} {k k' : Nat} (x : SigOk W K Φ k) (h : k ≤ k') : SigOk W K Φ k' :=
  ⟨x.glo, fun f hf => let ⟨v, a, b, c⟩ := x.kn f hf; ⟨v, a, b, fun args σ r e => (c args σ r e).le h⟩,
    fun c m hm => let ⟨f, a, b, d, e, g⟩ := x.km c m hm; ⟨f, a, b, d, e, fun j args σ r z => (g j args σ r z).le h⟩⟩
theorem XOk.le {W : Wd} {K : Frag} {Φ : Sig} {k k' : Nat} (x : XOk W K Φ k) (h : k ≤ k') : XOk W K Φ k' :=
  ⟨fun c hc => let ⟨a, b, d, e⟩ := x.ex c hc; ⟨a, b, d, fun args p z => let ⟨g, r⟩ := e args p z; ⟨g, r.le h⟩⟩⟩

structure World_ (W : Wd) (K : Frag) : Prop where
  wk : WK W K
  set : SetOk W K
  law : ∃ HA fdH ask bodyH, LawOk W K HA fdH ask bodyH
structure Good (W : Wd) (K : Frag) (Φ : Sig) (k : Nat) : Prop where
  so : SigOk W K Φ k
  xo : XOk W K Φ k
  top : Φ.top = true → ∃ k', k = k' + 2 ∧ SigOk W K Φ k' ∧ XOk W K Φ k'
theorem Good.quiet {W : Wd} {K : Frag} {Φ : Sig} {k : Nat} (g : Good W K Φ k) : Good W K Φ.quiet k :=
  ⟨⟨g.so.glo, g.so.kn, g.so.km⟩, ⟨g.xo.ex⟩, fun h => let ⟨k', e, a, b⟩ := g.top h; ⟨k', e, ⟨a.glo, a.kn, a.km⟩, ⟨b.ex⟩⟩⟩
theorem Good.low {W : Wd} {K : Frag} {Φ : Sig} {k : Nat} (g : Good W K Φ (k + 2)) (h : Φ.top = true) : Good W K Φ.low k := by
  obtain ⟨k', e, a, b⟩ := g.top h
  obtain rfl : k = k' := by omega
  exact ⟨⟨a.glo, a.kn, a.km⟩, ⟨b.ex⟩, fun z => by cases z⟩

theorem all_ok {W : Wd} {K : Frag} (w : World_ W K) : ∀ (n : Nat) (Φ : Sig) (k : Nat), Good W K Φ k → SE W Φ k n ∧ SC W Φ k n ∧ SX W Φ k n ∧ SL W Φ k n
  | 0, Φ, k, _ => by
    refine ⟨⟨?_, ?_, ?_, ?_, ?_, ?_⟩, ⟨?_⟩, ⟨?_, ?_⟩, ⟨?_, ?_⟩⟩
    · intros; intro r Q E hr; unfold ev at hr; cases hr
    · intros; intro r Q E hr; unfold evT at hr; cases hr
    · intros; intro r Q E hr; unfold evTs at hr; cases hr
    · intros; intro r Q E hr; unfold evB at hr; cases hr
    · intros; intro r Q E hr; unfold evs at hr; cases hr
    · intros; intro r Q E hr; unfold evO at hr; cases hr
    · intro m A env fs ρ L σ s elt xs tt ce src i acc x tg ifs iter scope pos I D v vs Rr r _ _ _ _ _ _ _ _ _ _ _ _ _ _ hr
      unfold evC at hr; cases hr
    · intro m A env fs ρ L σ s cs st rs Q E _ _ hr; unfold ex at hr; cases hr
    · intro m A env fs ρ L σ s cs st rs Q E _ _ hr; unfold exs at hr; cases hr
    · intro m A env fs ρ L σ s xs tt src i b bs tg I v Rr rs _ _ _ _ _ _ _ _ hr; unfold exF at hr; cases hr
    · intro m A env fs ρ L σ s t b tv bs Rr rs _ _ _ _ hr; unfold exW at hr; cases hr
  | n + 1, Φ, k, g => by
    obtain ⟨ih, ihc, ihx, ihl⟩ := all_ok w n Φ k g
    obtain ⟨ihq, _, _, _⟩ := all_ok w n Φ.quiet k g.quiet
    have wk := w.wk
    refine ⟨⟨?_, se_t ih, se_ts ih, se_b ih, se_es ih, se_o ih⟩, sc_c wk.toWOk ih ihc, ⟨?_, sx_cons ihx⟩, ⟨sl_f wk.toWOk ihx ihl, sl_w ih ihx ihl⟩⟩
    · intro m A env fs ρ L σ s ce x h a
      cases m with
      | zero => simp [chk] at h
      | succ m =>
      cases ce with
      | loc => exact se_loc wk.toWOk h a
      | glo => exact se_glo wk.toWOk g.so.glo h a
      | cnone => exact se_cnone h a
      | cbool => exact se_cbool h a
      | cint => exact se_cint h a
      | cstr => exact se_cstr h a
      | neg => exact se_neg ih h a
      | not => exact se_not ih h a
      | bin => exact se_bin ih h a
      | cmp => exact se_cmp ih h a
      | cmpNil => exact se_cmpNil ih h a
      | bop => exact se_bop ih h a
      | ite => exact se_ite ih h a
      | tup => exact se_tup ih h a
      | lst => exact se_lst ih h a
      | sub => exact se_sub ih h a
      | slice => exact se_slice ih h a
      | call => exact se_call wk g.so ih h a
      | bi => exact se_bi wk.toWOk ih h a
      | meth => exact se_meth wk g.so ih h a
      | mdig => exact se_mdig ih h a
      | mjoin => exact se_mjoin ih h a
      | mapp => exact se_mapp ih h a
      | mpop => exact se_mpop ih h a
      | attr => exact se_attr wk ih h a
      | fstr => exact se_fstr ih h a
      | fstrs => exact se_fstrs ih h a
      | comp => exact se_comp wk ih ihc h a
      | heard i fv e =>
        intro r Q E hr P
        have htop : Φ.top = true := by
          unfold ev at hr
          split at hr
          · cases hr
          · rename_i hq
            rw [not_or] at hq
            simpa using hq.2
        obtain ⟨k', rfl, _, _⟩ := g.top htop
        obtain ⟨HA, fdH, ask, bodyH, lo⟩ := w.law
        obtain ⟨ihl', _, _, _⟩ := all_ok w n Φ.low k' (g.low htop)
        exact se_heard wk lo ihl' h a r Q E hr P
    · intro m A env fs ρ L σ s cs st rs Q E h a hr P
      cases m with
      | zero => simp [chkS] at h
      | succ m =>
      cases cs with
      | asg => exact sx_asg wk.toWOk ih h a hr P
      | asgT => exact sx_asgT wk.toWOk ih h a hr P
      | seta => exact sx_seta wk w.set ih h a hr P
      | seti => exact sx_seti ih h a hr P
      | exp => exact sx_exp ih h a hr P
      | ret => exact sx_ret ih h a hr P
      | iff => exact sx_iff ih ihx h a hr P
      | forr => exact sx_forr ih ihl h a hr P
      | whil => exact sx_whil ihl h a hr P
      | rais => exact sx_rais wk g.xo ih h a hr P
      | tryy => exact sx_tryy wk g.xo ihx ihq h a hr P
end Mine
end
/-! M24: an exception of one's own is made -/
section
set_option autoImplicit false
set_option linter.unusedVariables false
set_option linter.unusedSimpArgs false
set_option maxRecDepth 100000
namespace Mine
open PySem PySem.W PySem.Calls PyProof.Rows

section
variable {M : Model} {A : Around} {E : Value → Shared → Prop} {h : Heap} {g : Array GenState} {d : Drawn} {t : Nat} {os : OsState}
variable {nm q : Str} {C N : Addr} {bs bm : List Value} {hdct : Bool} {sn : List Str} {sub : List Value} {ab : Bool} {col : Option Bool} {dd : Option Addr} {k0 k1 k2 k3 k5 : Option Value} {B newId initId : String} {bmB : List Value}
theorem check_new_own (F : ExcBaseFacts B newId initId bmB) (hcont : (Value.ref C :: bm).contains (.type B) = true) {rest : List Value} {Q : Unit → Shared → Prop} (hC : h.get? C = some (excClassObj nm q C N bs bm hdct sn sub ab col dd k0 k1 k2 k3 k5 newId))
    (hq : Q () ⟨h, g, d, t, os⟩) : wpAny M A (checkBuiltinCall newId ⟨.ref C :: rest, []⟩) Q E ⟨h, g, d, t, os⟩ := by
  have hstar := F.noStar
  simp only [checkBuiltinCall, F.newKind, F.newSplit, F.newRow]
  repeat (first | refine wpAny_loadPart_at hC ?_ | (refine wpAny_isSubtype_exc hC ?_; rw [hcont]) | refine wpAny_staticBase_exc hC ?_ | refine wpAny_madeBy_exc hC ?_ | simp only [bne_self_eq_false, Bool.false_eq_true, if_false] | wp_step)
  exact hq
end
section
variable {prog : Program} {w : World} {A : Around} {R : Result → Shared → Prop} {h : Heap} {g : Array GenState} {d : Drawn} {t : Nat} {os : OsState}
variable {nm q : Str} {C N : Addr} {bs bm : List Value} {hdct : Bool} {sn : List Str} {sub : List Value} {ab : Bool} {col : Option Bool} {dd : Option Addr} {k0 k1 k2 k3 k5 : Option Value} {B newId initId : String} {bmB : List Value}
theorem exc_new_own (F : ExcBaseFacts B newId initId bmB) (hcB : (Value.ref C :: bm).contains (.type B) = true) (hcA : (Value.ref C :: bm).contains (.type "AttributeError") = false) (hcN : (Value.ref C :: bm).contains (.type "NameError") = false) {rest : List Value}
    (hC : h.get? C = some (excClassObj nm q C N bs bm hdct sn sub ab col dd k0 k1 k2 k3 k5 newId))
    (hq : R (.ok (.ret (.ref (h.objs.size + 1)))) ⟨(h.push { cls := .type "tuple", data := .seq rest.toArray }).push
      { cls := .ref C, data := .fields #[.ref h.objs.size, .none, .none, .none, .bool false, .none] }, g, d, t, os⟩) (hrest : rest.length ≤ sizeLine := by size_fits) :
    codeAny (model prog w) A (.builtin newId ⟨.ref C :: rest, []⟩) R ⟨h, g, d, t, os⟩ := by
  have hends := F.ends
  refine codeAny_builtinAt F.entry ?_
  unfold Builtin.«BaseException.__new__»
  refine PySem.wpAt_bind ?_
  show PySem.wpAt _ _ _ (stack >>= _) _ _ _
  refine PySem.wpAt_bind (PySem.wpAt_stack fun p below => PySem.wpAt_of_wpAny ?_)
  wp_walk
  refine PySem.wpAt_of_wpAny ?_
  rw [F.owner]
  repeat (first | with_reducible refine wpAny_madeHere_exc F.canon hC ?_ | with_reducible refine wpAny_loadPart_at hC ?_ | (with_reducible refine wpAny_isSubtype_exc hC ?_; first | rw [hcB] | rw [hcA] | rw [hcN]) | wp_step)
  show R _ _
  rw [Heap.size_push]
  exact hq
/-- an exception of a class with an __init__ of its own text -/
theorem exc_make (F : ExcBaseFacts B newId initId bmB) (hcB : (Value.ref C :: bm).contains (.type B) = true) (hcA : (Value.ref C :: bm).contains (.type "AttributeError") = false) (hcN : (Value.ref C :: bm).contains (.type "NameError") = false) {rest : List Value} {fI : Addr}
    (hC : h.get? C = some (excClassObj nm q C N bs bm hdct sn sub ab col dd k0 k1 k2 k3 k5 newId))
    (hi : Looks (model prog w) h (typeLookup (.ref C) "__init__") (some (.ref fI))) (hb : ∀ self, Looks (model prog w) h (bindSpecial (.ref fI) self) (.ref fI, [self]))
    (hq : codeAny (model prog w) (A.under (.builtin "type.__call__" ⟨.ref C :: rest, []⟩)) (.call (.ref fI) ⟨.ref (h.objs.size + 1) :: rest, []⟩) (InitBack (h.objs.size + 1) R) ⟨(h.push { cls := .type "tuple", data := .seq rest.toArray }).push
      { cls := .ref C, data := .fields #[.ref h.objs.size, .none, .none, .none, .bool false, .none] }, g, d, t, os⟩) (hrest : rest.length ≤ sizeLine := by size_fits) :
    codeAny (model prog w) A (.call (.ref C) ⟨rest, []⟩) R ⟨h, g, d, t, os⟩ := by
  have f1 := tc_lookup
  have f2 := tc_bind (.ref C)
  have hT : (⟨h, g, d, t, os⟩ : Shared).TypeIs (.ref C) "type" := ⟨_, hC, rfl⟩
  refine codeAny_of_tree ?_
  show wpAny _ _ (callAny (.ref C) _) _ _ _
  repeat (any_goals (first | assumption | with_reducible refine wpAny_loadPart_at hC ?_ | wp_step))
  refine ⟨rfl, ?_⟩
  refine codeAny_call_builtin_at (Code.quiet_builtin _ (by decide +kernel)) entry_typeCall (wpAny_check_type_call_sub hC ?_)
  repeat (first | with_reducible refine wpAny_loadPart_at hC ?_ | with_reducible refine wpAny_madeBy_exc hC ?_ | wp_step)
  refine codeAny_call_builtin_code (Code.quiet_builtin _ F.quiet) (check_new_own F hcB hC ?_)
  refine exc_new_own F hcB hcA hcN hC ?_ hrest
  show wpAny _ _ _ _ _ _
  have hC₁ := Heap.get?_push_of_some { cls := .ref C, data := .fields #[.ref h.objs.size, .none, .none, .none, .bool false, .none] }
    (Heap.get?_push_of_some { cls := .type "tuple", data := .seq rest.toArray } hC)
  have hget : ((h.push { cls := .type "tuple", data := .seq rest.toArray }).push
      { cls := .ref C, data := .fields #[.ref h.objs.size, .none, .none, .none, .bool false, .none] }).get? (h.objs.size + 1) = some
      { cls := .ref C, data := .fields #[.ref h.objs.size, .none, .none, .none, .bool false, .none] } := by heap_get
  have hcC : (Value.ref C :: bm).contains (.ref C) = true := by simp
  have k : ∀ b o, h.get? b = some o → ((h.push { cls := .type "tuple", data := .seq rest.toArray }).push
      { cls := .ref C, data := .fields #[.ref h.objs.size, .none, .none, .none, .bool false, .none] }).get? b = some o := fun b o e => Heap.get?_push_of_some _ (Heap.get?_push_of_some _ e)
  unfold isInstance
  repeat (first | with_reducible refine wpAny_loadPart_at hget ?_ | (with_reducible refine wpAny_isSubtype_exc hC₁ ?_; rw [hcC]) | wp_step)
  show wpAny _ _ (isSubtype (.ref C) (.ref C)) _ _ _
  refine wpAny_isSubtype_exc hC₁ ?_
  rw [hcC]
  simp only [Bool.not_true, Bool.false_eq_true, if_false]
  unfold callSpecial? specialOf
  repeat (first | with_reducible refine wpAny_loadPart_at hget ?_ | wp_step)
  show wpAny _ _ (typeLookup (.ref C) _) _ _ _
  refine (hi.keeps k).at ?_
  refine wpAny_holding (wpAny_bind (((hb (.ref (h.objs.size + 1))).keeps k).at ?_))
  refine wpAny_bind (wpAny_call (codeAny_mono hq fun r s' z => ?_))
  rcases r with e | (v | _ | _ | _) <;> first | exact z | exact z.elim | skip
  obtain ⟨rfl, z⟩ := z
  exact wpAny_pure (wpAny_pure z)
end
end Mine
end
/-! M25: super().__init__(what) of Exception -/
section
set_option autoImplicit false
set_option linter.unusedVariables false
set_option linter.unusedSimpArgs false
set_option maxRecDepth 100000
namespace Mine
open PySem PySem.W PySem.Calls PyProof.Rows

theorem xi_type : typeOf (.builtin "Exception.__init__") = pure (.type "wrapper_descriptor") := by show builtinType _ = _; rw [builtinType_eq_fast]; kernel_rfl
theorem xi_slot : Slot "wrapper_descriptor" "__get__" "wrapper_descriptor.__get__" :=
  .of (owner := "wrapper_descriptor") (n := "__get__") (by rw [typeLookup_type, builtinLookup_eq_fast]; kernel_rfl) (by decide +kernel) (by decide +kernel) (by decide +kernel)
    (by first | exact .inl (by decide +kernel) | exact .inr (by decide +kernel)) (by rw [isSubtype_type]; kernel_rfl)
theorem xi_entry : entryFor table "wrapper_descriptor.__get__" = some Builtin.«wrapper_descriptor.__get__» := entryFor_of_tree (by kernel_rfl)
theorem xi_args (a b c : Value) : argsOk "wrapper_descriptor.__get__" ⟨[a, b, c], []⟩ := by unfold argsOk; kernel_rfl

section
variable {prog : Program} {w : World} {A : Around} {E : Value → Shared → Prop} {h : Heap} {g : Array GenState} {d : Drawn} {t : Nat} {os : OsState}
abbrev wrapObj (x : Addr) : Obj := { cls := .type "method-wrapper", dict := none, data := .fields #[.builtin "Exception.__init__", .ref x], slots := #[] }
theorem xi_name : ".".intercalate ("Exception.__init__".cutAt '.').dropLast = "Exception" := by decide +kernel
theorem xi_get {x C Ca : Addr} {ox : Obj} {Q : Value → Shared → Prop} (hx : h.get? x = some ox) (hc : ox.cls = .ref C) (hs : Looks (model prog w) h (isSubtype (.ref C) (.type "Exception")) true)
    (hq : Q (.ref h.objs.size) ⟨h.push (wrapObj x), g, d, t, os⟩) :
    wpAny (model prog w) A (call (.builtin "wrapper_descriptor.__get__") [.builtin "Exception.__init__", .ref x, .ref Ca]) Q E ⟨h, g, d, t, os⟩ := by
  refine wpAny_call_entry xi_slot (show Shared.TypeIs _ (.builtin "Exception.__init__") "wrapper_descriptor" from xi_type) xi_entry ?_ (xi_args _ _ _)
  unfold Builtin.«wrapper_descriptor.__get__»
  repeat wp_step
  rw [hc, xi_name]
  refine hs.at ?_
  rw [if_neg (by decide)]
  refine wpAny_pure (wpAny_bind ?_)
  exact wpAny_newObj_type (wpAny_pure ⟨_, rfl, hq⟩) (by size_fits)

theorem xi_super {so D x C : Addr} {ox : Obj} {l₀ l : List Value} {K : Frag} {tk : Tok} {Q : Fin → Shared → Prop}
    (hso : h.get? so = some { cls := .type "super", dict := none, data := .fields #[.ref D, .ref x, .ref C], slots := #[] }) (hno : Looks (model prog w) h (opaqueClassAbove (.ref C)) none)
    (hC : Looks (model prog w) h (mroOf (.ref C)) l₀) (hl : (l₀.dropWhile (· != .ref D)).drop 1 = l) (X : K.In h)
    (hf : alongIn K "__init__" l = some (some (.builtin "Exception.__init__"))) (hx : h.get? x = some ox) (hc : ox.cls = .ref C) (hs : Looks (model prog w) h (isSubtype (.ref C) (.type "Exception")) true) (hxC : x ≠ C)
    (hq : Q (.done (.ret (.ref h.objs.size))) ⟨h.push (wrapObj x), g, d, t, os⟩) :
    wpAny (model prog w) A (Builtin.«super.__getattribute__» ⟨[.ref so, .str "__init__" tk], []⟩) Q E ⟨h, g, d, t, os⟩ := by
  have hlk := xi_slot.lookup
  have hne : (Value.ref x == Value.ref C) = false := by simp [hxC]
  have hn : (("__init__" : Str) == ("__class__" : Str)) = false := by decide +kernel
  have hdt : ({ cls := .type "super", dict := none, data := .fields #[.ref D, .ref x, .ref C], slots := #[] } : Obj).data = .fields #[.ref D, .ref x, .ref C] := rfl
  have f0 : (#[.ref D, .ref x, .ref C] : Array Value)[0]? = some (.ref D) := rfl
  have f1 : (#[.ref D, .ref x, .ref C] : Array Value)[1]? = some (.ref x) := rfl
  have f2 : (#[.ref D, .ref x, .ref C] : Array Value)[2]? = some (.ref C) := rfl
  have ht := xi_type
  unfold Builtin.«super.__getattribute__»
  repeat (first
    | (with_reducible refine wpAny_field hso hdt f0 ?_) | (with_reducible refine wpAny_field hso hdt f1 ?_) | (with_reducible refine wpAny_field hso hdt f2 ?_)
    | (with_reducible refine ks_wpAny_notOpaque hno ?_)
    | (with_reducible refine Looks.at hC ?_; rw [hl])
    | (refine ks_forIn_along X (fun _ _ => rfl) rfl ?_ hf)
    | (with_reducible refine wpAny_of_eq ht ?_)
    | (with_reducible refine xi_get hx hc hs ?_)
    | (simp only [hn, hne, Bool.or_false, Bool.false_eq_true, if_false])
    | wp_step
    | dsimp only)
  all_goals exact hq
end
end Mine
end
/-! M26: super().__init__(what) of Exception, called -/
section
set_option autoImplicit false
set_option linter.unusedVariables false
set_option linter.unusedSimpArgs false
set_option maxRecDepth 100000
namespace Mine
open PySem PySem.W PySem.Calls PyProof.Rows

section
variable {prog : Program} {w : World} {A : Around} {E : Value → Shared → Prop} {h : Heap} {g : Array GenState} {d : Drawn} {t : Nat} {os : OsState}
theorem xi_method {so D x C : Addr} {ox : Obj} {l₀ l : List Value} {K : Frag} {pl : Sem Bool} {Q : Value × List Value → Shared → Prop}
    (hso : h.get? so = some { cls := .type "super", dict := none, data := .fields #[.ref D, .ref x, .ref C], slots := #[] }) (hno : Looks (model prog w) h (opaqueClassAbove (.ref C)) none)
    (hC : Looks (model prog w) h (mroOf (.ref C)) l₀) (hl : (l₀.dropWhile (· != .ref D)).drop 1 = l) (X : K.In h)
    (hf : alongIn K "__init__" l = some (some (.builtin "Exception.__init__"))) (hx : h.get? x = some ox) (hc : ox.cls = .ref C) (hs : Looks (model prog w) h (isSubtype (.ref C) (.type "Exception")) true) (hxC : x ≠ C)
    (hq : Q (.ref h.objs.size, []) ⟨h.push (wrapObj x), g, d, t + 1, os⟩) :
    wpAny (model prog w) A (getMethod (.ref so) "__init__" pl) Q E ⟨h, g, d, t, os⟩ := by
  have hlk := F.ks_slot_super_ga.lookup
  have hcan := F.ks_canon_super_ga
  have hT : ∀ t', (⟨h, g, d, t', os⟩ : Shared).TypeIs (.ref so) "super" := fun _ => ⟨_, hso, rfl⟩
  unfold getMethod
  refine wpAny_bind (wpAny_specialOf (hT _) hlk ?_)
  show wpAny _ _ (if (Manifest.canonical "super.__getattribute__" != "object.__getattribute__") = true then _ else _) _ _ _
  rw [if_pos hcan]
  unfold getAttr getAttrBy
  refine wpAny_bind (wpAny_bind (wpAny_mkText (wpAny_holding (wpAny_bind (wpAny_typeOf (hT _) (wpAny_bind (wpAny_of_eq hlk ?_)))))))
  show wpAny _ _ (getAttrByItsOwn (.ref so) (.str "__init__" t) (.type "super") (.builtin "super.__getattribute__") true false) _ _ _
  unfold getAttrByItsOwn hookBefore callGetattribute boundAndCalled
  refine wpAny_bind (wpAny_of_eq (show (if onTheHeap (.type "super") then typeLookup (.type "super") "__getattr__" else pure none) = pure none from rfl) ?_)
  refine wpAny_bind (wpAny_attempt (wpAny_holding ?_))
  show wpAny _ _ (bindSpecial (.builtin "super.__getattribute__") (.ref so) >>= _) _ _ _
  refine wpAny_bind (wpAny_of_eq (F.ks_slot_super_ga.bind _) ?_)
  refine wpAny_mono (Q := fun v s' => v = .ref h.objs.size ∧ s' = ⟨h.push (wrapObj x), g, d, t + 1, os⟩) (E := fun _ _ => False)
    (wpAny_call_entry F.ks_slot_super_ga (hT _) F.ks_entry_super_ga (xi_super hso hno hC hl X hf hx hc hs hxC ⟨_, rfl, rfl, rfl⟩) (F.ks_gaArgs_super _ _)) (fun v s' hv => ?_) fun _ _ z => z.elim
  obtain ⟨rfl, rfl⟩ := hv
  exact wpAny_pure (wpAny_pure hq)

theorem xi_base {s : Shared} {e t0 : Addr} {ob : Obj} {vs : Array Value} {v : Value} {Q : Fin → Shared → Prop} (he : s.heap.get? e = some ob) (hd : ob.data = .fields vs) (h0 : vs[0]? = some (.ref t0))
    (h : Q (.done (.ret .none)) { s with heap := (s.heap.push { cls := .type "tuple", data := .seq #[v] }).update e (Obj.mapFields (·.setIfInBounds 0 (.ref s.heap.objs.size))) }) :
    wpAny (model prog w) A (Builtin.«BaseException.__init__» ⟨[.ref e, v], []⟩) Q E s := by
  unfold Builtin.«BaseException.__init__»
  dsimp only
  rw [if_neg (by simp)]
  unfold newTuple Builtin.BaseException.bexcPut
  have hsz : 0 < vs.size := (Array.getElem?_eq_some_iff.mp h0).1
  have he₁ := Heap.get?_push_of_some (h := s.heap) { cls := .type "tuple", data := .seq #[v] } he
  refine wpAny_bind (wpAny_newObj_type (wpAny_bind (wpAny_bind (wpAny_field he₁ hd h0 (wpAny_bind (wpAny_setField he₁ hd hsz ?_))))) (by size_fits))
  exact wpAny_letGo (wpAny_pure h)

section
variable {nm q : Str} {C N : Addr} {bs bm : List Value} {hdct : Bool} {sn : List Str} {sub : List Value} {ab : Bool} {col : Option Bool} {dd : Option Addr} {k0 k1 k2 k3 k5 : Option Value} {newId : String}
theorem xi_check {M : Model} {e : Addr} {oe : Obj} {v : Value} {Q : Unit → Shared → Prop} (hcB : (Value.ref C :: bm).contains (.type "Exception") = true)
    (hC : h.get? C = some (excClassObj nm q C N bs bm hdct sn sub ab col dd k0 k1 k2 k3 k5 newId)) (he : h.get? e = some oe) (hcls : oe.cls = .ref C) (hq : Q () ⟨h, g, d, t, os⟩) :
    wpAny M A (checkBoundCall "Exception.__init__" ⟨[.ref e, v], []⟩) Q E ⟨h, g, d, t, os⟩ := by
  have F := PySem.F.excBase_Exception
  unfold checkBoundCall
  simp only [F.initKind, F.initRow]
  repeat (first | (with_reducible refine wpAny_loadPart_at he ?_; rw [hcls]) | with_reducible refine wpAny_loadPart_at hC ?_ | (with_reducible refine wpAny_isSubtype_exc hC ?_; rw [hcB]) | wp_step)
  exact hq
theorem xi_call {e t0 mw : Addr} {ob : Obj} {vs : Array Value} {v : Value} {Q : Value → Shared → Prop} (hcB : (Value.ref C :: bm).contains (.type "Exception") = true)
    (hC : h.get? C = some (excClassObj nm q C N bs bm hdct sn sub ab col dd k0 k1 k2 k3 k5 newId)) (hm : h.get? mw = some (wrapObj e)) (he : h.get? e = some ob) (hcls : ob.cls = .ref C) (hd : ob.data = .fields vs) (h0 : vs[0]? = some (.ref t0))
    (hq : Q .none ⟨(h.push { cls := .type "tuple", data := .seq #[v] }).update e (Obj.mapFields (·.setIfInBounds 0 (.ref h.objs.size))), g, d, t, os⟩) :
    wpAny (model prog w) A (call (.ref mw) [v]) Q E ⟨h, g, d, t, os⟩ := by
  have F := PySem.F.excBase_Exception
  refine wpAny_call (codeAny_of_tree ?_)
  show wpAny _ A.in1 (callAny (.ref mw) _) _ _ _
  unfold callAny
  refine wpAny_bind (wpAny_load hm ?_)
  show wpAny _ A.in1 (checkBoundCall "Exception.__init__" ⟨[.ref e, v], []⟩ >>= fun _ => again (.builtin "Exception.__init__" ⟨[.ref e, v], []⟩)) _ _ _
  refine wpAny_bind (xi_check hcB hC he hcls ?_)
  refine wpAny_pure ⟨Code.quiet_builtin _ (by decide +kernel), codeAny_builtin F.initEntry ?_⟩
  exact xi_base he hd h0 hq
end
end
end Mine
end
/-! M27: the first field of an object without a dict -/
section
set_option autoImplicit false
set_option linter.unusedVariables false
set_option linter.unusedSimpArgs false
set_option maxRecDepth 100000
namespace Mine
open PySem PySem.W PySem.Calls PyProof.Rows

section
variable {prog : Program} {w : World} {A : Around} {E : Value → Shared → Prop} {s : Shared} {K : Frag} {C x : Addr}
def withDict (d : Addr) (o : Obj) : Obj := { o with dict := some d }
theorem osa_fresh {R : Result → Shared → Prop} {vs : Array Value} {name : Str} {tk : Tok} {v : Value} (X : K.In s.heap)
    (hx : s.heap.get? x = some { cls := .ref C, dict := none, data := .fields vs }) (hp : plainOverX K C = true) (ht : takerIn K C name = some none) (hh : hasDictIn K C = true)
    (h : R (.ok (.ret .none)) { s with heap := ((s.heap.push { cls := .type "dict", data := .dict #[] }).update x (withDict s.heap.objs.size)).update s.heap.objs.size (Obj.putName name (PyData.keyHash w.params name) (.str name s.toks) v), toks := s.toks + 1 }) :
    codeAny (model prog w) A (.call (.builtin "object.__setattr__") ⟨[.ref x, .str name tk, v], []⟩) R s := by
  refine osa_openX (od := none) X ⟨hx, rfl, rfl, trivial⟩ hp ht fun b => ?_
  obtain ⟨cd, hc, hd'⟩ := any_some hh
  refine wpAny_bind (wpAny_pure (wpAny_bind (wpAny_bind (wpAny_loadPart hx (wpAny_bind ((looks_clsIn X hc).here ?_))))))
  rw [hd']
  show wpAny _ _ (alloc { cls := .type "dict", data := .dict #[] } >>= fun d => update x (fun o => { o with dict := some d }) >>= fun _ => pure (some d)) _ _ s
  refine wpAny_bind (wpAny_alloc (wpAny_bind ?_))
  have hx' := Heap.get?_push_of_some (h := s.heap) { cls := .type "dict", data := .dict #[] } hx
  refine wpAny_update hx' (wpAny_pure ?_)
  have hne : x ≠ s.heap.objs.size := Nat.ne_of_lt (Heap.lt_size hx)
  have D : ((s.heap.push { cls := .type "dict", data := .dict #[] }).update x (withDict s.heap.objs.size)).get? s.heap.objs.size = some { cls := .type "dict", dict := none, data := .dict ([] : List DictEntry).toArray 0, slots := #[] } := by
    rw [Heap.get?_update_other _ _ hne]
    exact Heap.get?_push_size _ rfl
  show wpAny _ _ (Builtin.ObjectAttr.storeInDict s.heap.objs.size (.str name tk) name v) _ _ _
  refine wpAny_bind (wpAny_pure (wpAny_bind ?_))
  unfold nsSet
  refine wpAny_bind (wpAny_bind (wpAny_askSetting (wpAny_pure (wpAny_bind (wpAny_mkText (wpAny_bind (wpAny_loadPart D ?_)))))))
  dsimp only
  have c : (!([] : List DictEntry).toArray.any (·.key.isStr name) && ([] : List DictEntry).toArray.any (·.refKey)) = false := by simp
  rw [aRefKeyMayBeTheName_at, c]
  refine wpAny_updatePart D ?_
  have e := putName_at name (PyData.keyHash w.params name) (.str name s.toks) v (.type "dict") none #[] [] 0
  have D' := Heap.get?_update_self (Obj.putName name (PyData.keyHash w.params name) (.str name s.toks) v) D (by rw [e]; rfl)
  refine wpAny_bind (wpAny_lookBehind D' (by rw [e]; exact pastItsLine_dict (by rw [List.size_toArray, sizeLine_eq]; simp [putL])) ?_)
  exact wpAny_pure h
end
end Mine
end
/-! M28: an __init__ of one's own that calls super().__init__(what) -/
section
set_option autoImplicit false
set_option linter.unusedVariables false
set_option linter.unusedSimpArgs false
set_option maxRecDepth 100000
namespace Mine
open PySem PySem.W PySem.Calls PyProof.Rows

structure SupAt (W : Wd) (K : Frag) (f D cc : Addr) (fd : FuncData) (body : List Stmt) : Prop where
  obj : ∃ c d sl, K.lookup f = some ⟨c, d, .func fd, sl⟩
  hbody : fd.body = .stmts body
  clo : fd.closure = [(("__class__" : Str), cc)]
  glob : fd.globals = mainGlobals
  bi : fd.builtins = builtinsNs
  kind : fd.scope.kind = .function
  co : fd.scope.isCoroutine = false
  gen : fd.scope.isGenerator = false
  cell : ∃ c d sl, K.lookup cc = some ⟨c, d, .cell (some (.ref D)), sl⟩
  code : codeIn K fd.code fd.qualname = true
  cfile : ∃ cda c d vs sl file tf, fd.code = .ref cda ∧ K.lookup cda = some ⟨c, d, .fields vs, sl⟩ ∧ vs[2]? = some (.str file tf) ∧ ((W.prog.main.file : Str) == file) = true
  self : (fd.params.posonlyargs ++ fd.params.args).head?.map (·.arg) = some ("self" : Str)
  ks : fd.scope.names.lookup ("super" : Str) = some .globalImplicit
  kc : fd.scope.names.lookup ("__class__" : Str) = some .free
  ka : fd.scope.names.lookup ("self" : Str) = some .local
  ko : fd.scope.names.lookup ("what" : Str) = some .local
  nocell : ∀ x ∈ fd.scope.names, x.2 ≠ .cell
  top : (W.prog.main.scope.names.lookup ("super" : Str)).isSome = false
  sg : W.mg ("super" : Str) = none
  sb : W.mb ("super" : Str) = some (.type "super")
  cd : ∃ cd, clsIn K D = some cd
  op : nsIn K cStatics "thirdparty.any" = some none

section
variable {W : Wd} {K : Frag} {A : Around} {E : Value → Shared → Prop} {s : Shared} {f D cc : Addr} {fd : FuncData} {body : List Stmt}
theorem sup_base (wk : WK W K) (S : SupAt W K f D cc fd body) {L e C : Addr} {oe : Obj} {m : Str → Option Value} {p0 p1 : Pos} {whole : Sem Value} {Q : Value → Shared → Prop} (hb : W.b0.StaysIn s.heap) (ns : s.heap.Ns L m) (hm : m "self" = some (.ref e))
    (he : s.heap.get? e = some oe) (hc : oe.cls = .ref C) (hno : ∀ c, oe.data ≠ .cls c) (hsub : mroIn K C (.ref D) = some true)
    (h : ∀ h', h'.get? s.heap.objs.size = some (ks_superObj D e C) → KA s.heap h' → Q (.ref s.heap.objs.size) { s with heap := h' }) :
    PySem.wpAt (model W.prog W.w) A (.func body (callEnv fd L f)) (attributeBase (.Call (.Name "super" p0) [] [] p1) "__init__" (callEnv fd L f) whole) Q E s := by
  obtain ⟨oc, od, osl, hf⟩ := S.obj
  obtain ⟨cl, cld, csl, hcell⟩ := S.cell
  obtain ⟨cda, ccl, cdd, vs, ccs, file, tf, hco, hcode, hvs, hfile⟩ := S.cfile
  obtain ⟨cdD, hD⟩ := S.cd
  obtain ⟨ar, har, hself⟩ := Option.map_eq_some_iff.mp S.self
  have X : K.In s.heap := wk.kin.keeps hb
  have hk : (callEnv fd L f).scope.kind = .function := S.kind
  obtain ⟨hh, g, d, t, os⟩ := s
  obtain ⟨oD, hD1, hD2⟩ : ∃ oD, hh.get? D = some oD ∧ oD.data = .cls cdD := by
    unfold clsIn at hD
    split at hD
    · rename_i c d cd' sl ho
      cases hD
      exact ⟨_, X _ _ ho, rfl⟩
    · cases hD
  refine ks_wpAt_super_base (env := callEnv fd L f) S.ks S.kc (by decide +kernel) rfl (X _ _ hf) rfl har hco (X _ _ hcode) rfl hvs hfile S.top ?_
  refine ks_loadName_global hk S.ks (loadGlobal_builtin (env := callEnv fd L f) (by show Heap.Ns _ fd.globals _; rw [S.glob]; exact wk.g.keeps hb) S.sg (by show Heap.Ns _ fd.builtins _; rw [S.bi]; exact wk.b.keeps hb) S.sb ⟨rfl, ?_⟩)
  refine wpAny_loadName_free hk S.kc (c := cc) (by show fd.closure.lookup _ = _; rw [S.clo]; rfl) ⟨_, X _ _ hcell, rfl⟩ ?_
  rw [hself]
  refine wpAny_loadName_local hk S.ka ns hm ?_
  refine ks_wpAny_isType_cls hD1 hD2 ⟨rfl, ?_⟩
  exact ks_wpAny_call_super hD1 hD2 he hc hno (looks_mroIn X hsub) fun h' e k => h h' e k

theorem keeps_wrap {M : Model} {q e : Addr} (h : Heap) (X : h.get? q = some (wrapObj e)) : ∃ k, (k = Keeper.frame ∨ k = Keeper.machine ∨ k = Keeper.boundFrame) ∧ Looks M h (keeperOf (.ref q)) k := by
  refine ⟨.machine, .inr (.inl rfl), (Looks.ld (part := none) X).andThen ?_⟩
  exact Looks.of_pure rfl
theorem splice_name {M : Model} {env : Env} {x : Str} {pos cp : Pos} {L : Addr} {m : Str → Option Value} {v : Value} {Q : List Value → Shared → Prop} (hk : env.scope.kind = .function) (hl : env.kindOf x = some .local) (hL : env.locals = L) (ns : s.heap.Ns L m) (hv : m x = some v) (hd : (x == ("__debug__" : Str)) = false) (h : Q [v] s) :
    wpAny M A (spliced (backTo cp (starEach [.Name x pos] env))) Q E s := by
  subst hL
  show wpAny M A (spliced [(false, eval (.Name x pos) env)]) Q E s
  unfold spliced
  refine wpAny_bind (wpAny_Name (wpAny_loadName_local hk hl ns hv ?_) hd)
  repeat wp_step
  exact h
end
end Mine
end
/-! M29: HeapError.__init__ -/
section
set_option autoImplicit false
set_option linter.unusedVariables false
set_option linter.unusedSimpArgs false
set_option maxRecDepth 100000
namespace Mine
open PySem PySem.W PySem.Calls PyProof.Rows

section
variable {W : Wd} {K : Frag} {A : Around} {E : Value → Shared → Prop} {s : Shared} {f D cc : Addr} {fd : FuncData} {body : List Stmt}
variable {nm q : Str} {C N : Addr} {bs bm : List Value} {hdct : Bool} {sn : List Str} {sub : List Value} {ab : Bool} {col : Option Bool} {dd : Option Addr} {k0 k1 k2 k3 k5 : Option Value} {newId : String}
/-- what must be known of the exception's class -/
structure ExcK (K : Frag) (C D : Addr) : Prop where
  sub : mroIn K C (.ref D) = some true
  base : mroIn K C (.type "Exception") = some true
  sa : findIn K (.ref C) "__setattr__" = some (some (.builtin "object.__setattr__"))
  po : plainOverX K C = true
  tw : takerIn K C "what" = some none
  ts : takerIn K C "spot" = some none
  hd : hasDictIn K C = true
def ent (p : Params) (n : Str) (t : Tok) (v : Value) : List DictEntry := putL n (PyData.keyHash p n) (.str n t) v []
theorem meth_walkAt {M : Model} {c : Code} {env : Env} {o : Expr} {name : Str} {apos pos : Pos} {args : List Expr} {Q : Value → Shared → Prop}
    (hline : (apos.endLine == pos.line) = true) (hn : args.length < 20) (hp : (backTo pos (starEach args env)).any (·.1) = false)
    (h : PySem.wpAt M A c (attributeBase o name env (eval o env)) (fun ov s₁ => ∀ pl, wpAny M A (getMethod ov name pl) (fun f s₂ => wpAny M A (callWith pos f.1 f.2 (backTo pos (starEach args env)) []) Q E s₂) E s₁) E s) :
    PySem.wpAt M A c (eval (.Call (.Attribute o name apos) args [] pos) env) Q E s := by
  rw [arm_eval_Call]
  refine PySem.wpAt_bind (PySem.wpAt_mono h (fun ov s₁ h₁ => PySem.wpAt_of_wpAny ?_) fun _ _ e => e)
  refine wpAny_bind (wpAny_standAt ?_)
  have hform : methodCallForm (args.length + ([] : List Keyword).length) (backTo pos (starEach args env)) (backToKw pos (keywordEach [] env)) = true := by
    unfold methodCallForm
    have h1 : (backTo pos (starEach args env)).all (fun x => !x.1) = true := by
      rw [List.all_eq_not_any_not]
      simpa using hp
    rw [h1]
    simp [backToKw, keywordEach]
    omega
  have hpos : methodCallPos true o env apos pos = pure pos := by unfold methodCallPos; simp [hline]
  unfold methodCall
  rw [hform]
  unfold calleeOf
  rw [if_pos rfl]
  refine wpAny_bind (wpAny_holding (wpAny_mono (h₁ _) (fun f s₂ h₂ => ?_) fun _ _ e => e))
  exact wpAny_bind (wpAny_of_eq hpos h₂)
theorem not_inter {fd : FuncData} {L a : Addr} (h : fd.scope.kind = .function) : interactive (callEnv fd L a) = false := by
  unfold interactive
  rw [show (callEnv fd L a).scope = fd.scope from rfl, h]
  rfl
theorem init0 (wk : WK W K) {p0 p1 ap p2 cp ep q0 q1 q2 q3 : Pos} (S : SupAt W K f D cc fd [.Expr (.Call (.Attribute (.Call (.Name "super" p0) [] [] p1) "__init__" ap) [.Name "what" p2] [] cp) ep, .Assign [.Attribute (.Name "self" q0) "what" q1] (.Name "what" q2) q3])
    (kc : ExcK K C D) {cd : ClassData} (hcd : clsIn K C = some cd) {l : List Value} (hl : (cd.mro.dropWhile (· != .ref D)).drop 1 = l) (hf : alongIn K "__init__" l = some (some (.builtin "Exception.__init__")))
    (hline : (ap.endLine == cp.line) = true) (hC : K.lookup C = some (excClassObj nm q C N bs bm hdct sn sub ab col dd k0 k1 k2 k3 k5 newId)) (hcB : (Value.ref C :: bm).contains (.type "Exception") = true)
    (hbind : ∀ a b, bindArgs fd ⟨[a, b], []⟩ = pure [(("self" : Str), a), (("what" : Str), b)]) {R : Result → Shared → Prop} {e t0 : Addr} {vs : Array Value} {v : Value}
    (hdep : A.depth < recursionLimit) (hb : W.b0.StaysIn s.heap) (he : s.heap.get? e = some { cls := .ref C, dict := none, data := .fields vs }) (h0 : vs[0]? = some (.ref t0)) (heC : e ≠ C) (heb : W.b0.get? e = none)
    (h : ∀ h' tk d t v0, (∀ b o, s.heap.get? b = some o → b ≠ e → h'.get? b = some o) → h'.get? e = some { cls := .ref C, dict := some d, data := .fields (vs.setIfInBounds 0 v0) } →
      h'.get? d = some { cls := .type "dict", dict := none, data := .dict (ent W.w.params "what" t v).toArray (putN "what" [] 0), slots := #[] } → s.heap.get? d = none → R (.ok (.ret .none)) { s with heap := h', toks := tk }) :
    codeAny (model W.prog W.w) A (.call (.ref f) ⟨[.ref e, v], []⟩) R s := by
  obtain ⟨oc, od, osl, hfo⟩ := S.obj
  have X : K.In s.heap := wk.kin.keeps hb
  refine ks_codeAny_call_defAt (fd := fd) (binds := [(("self" : Str), .ref e), (("what" : Str), v)]) hdep (X _ _ hfo) rfl (wk.nolimit.keeps hb) (codeRec_of X S.code) S.hbody (BindsTo.of_eq (hbind _ _)) S.nocell (fun x hx => ?_) (fun h₀ ns hk₀ => ?_) S.co S.gen S.kind
  · simp only [List.mem_cons, List.not_mem_nil, or_false] at hx
    rcases hx with rfl | rfl
    · exact S.ka
    · exact S.ko
  have hkf : (callEnv fd s.heap.objs.size f).scope.kind = .function := S.kind
  have hb₀ : W.b0.StaysIn h₀ := fun b o z => hk₀ b o (hb b o z)
  have hself : (fun x => ([("self", .ref e), ("what", v)] : List (Str × Value)).reverse.lookup x) ("self" : Str) = some (.ref e) := by rfl
  have hwhat : (fun x => ([("self", .ref e), ("what", v)] : List (Str × Value)).reverse.lookup x) ("what" : Str) = some v := by rfl
  generalize (fun x => ([("self", .ref e), ("what", v)] : List (Str × Value)).reverse.lookup x) = m at ns hself hwhat
  have he₀ := hk₀ _ _ he
  refine ks_wpAt_execs_cons ?_
  refine ks_wpAt_Expr_any (meth_walkAt hline (by show 1 < 20; decide) rfl (sup_base (s := { s with heap := h₀, toks := _ }) wk S hb₀ ns hself he₀ rfl (fun c z => by cases z) kc.sub fun h₁ hso k₁ pl => ?_)) (not_inter S.kind)
  have hb₁ : W.b0.StaysIn h₁ := fun b o z => k₁ b o (hb₀ b o z)
  have X₁ : K.In h₁ := wk.kin.keeps hb₁
  refine xi_method hso (looks_opaque X₁ S.op) (l₀ := cd.mro) ?_ hl X₁ hf (k₁ _ _ he₀) rfl (looks_mroIn X₁ kc.base) heC ?_
  · exact fun A Q E s k q => wpAny_bind ((looks_clsIn X₁ hcd) A _ E s k (wpAny_pure q))
  have k₂ : KA h₁ (h₁.push (wrapObj e)) := KA.push _ _
  have kk₂ : KA h₀ (h₁.push (wrapObj e)) := k₁.trans k₂
  have hw : (h₁.push (wrapObj e)).get? h₁.objs.size = some (wrapObj e) := Heap.get?_push_size _ rfl
  have he₂ := kk₂ _ _ he₀
  have ns₂ := ns.keeps kk₂
  refine callWith_of (P := fun hh => hh.get? h₁.objs.size = some (wrapObj e)) rfl (fun hh z => keeps_wrap hh z) (evalArgs_plain ?_)
  refine splice_name (s := { s with heap := h₁.push (wrapObj e), toks := _ }) hkf S.ko rfl ns₂ hwhat (by decide +kernel) ⟨hw, ?_⟩
  have hC₂ : (h₁.push (wrapObj e)).get? C = some _ := X₁.keeps k₂ _ _ hC
  refine xi_call hcB hC₂ hw he₂ rfl rfl h0 ?_
  generalize hh₃ : ((h₁.push (wrapObj e)).push { cls := .type "tuple", data := .seq #[v] }).update e (Obj.mapFields (·.setIfInBounds 0 (.ref (h₁.push (wrapObj e)).objs.size))) = h₃
  have k₃ : ∀ b o, s.heap.get? b = some o → b ≠ e → h₃.get? b = some o := fun b o z hbe => by
    rw [← hh₃, Heap.get?_update_other _ _ (Ne.symm hbe)]
    exact Heap.get?_push_of_some _ (kk₂ _ _ (hk₀ _ _ z))
  have k₃' : ∀ b o, h₀.get? b = some o → b ≠ e → h₃.get? b = some o := fun b o z hbe => by
    rw [← hh₃, Heap.get?_update_other _ _ (Ne.symm hbe)]
    exact Heap.get?_push_of_some _ (kk₂ _ _ z)
  have he₃ : h₃.get? e = some { cls := .ref C, dict := none, data := .fields (vs.setIfInBounds 0 (.ref (h₁.push (wrapObj e)).objs.size)) } := by
    rw [← hh₃]
    exact Heap.get?_update_self _ (Heap.get?_push_of_some _ he₂) rfl
  have hb₃ : W.b0.StaysIn h₃ := fun b o z => k₃ b o (hb b o z) fun q => by rw [q, heb] at z; cases z
  have X₃ : K.In h₃ := wk.kin.keeps hb₃
  have hLe : s.heap.objs.size ≠ e := fun z => absurd (Heap.lt_size he) (by rw [z]; exact Nat.lt_irrefl _)
  have ns₃ : h₃.Ns s.heap.objs.size m := by
    obtain ⟨oL, es, ep', hL, r⟩ := ns
    exact ⟨oL, es, ep', k₃' _ _ hL hLe, r⟩
  refine ks_wpAt_execs_cons (PySem.wpAt_of_wpAny (plainObj_wpAny_Assign_Attribute (wpAny_Name (wpAny_loadName_local hkf S.ko ns₃ hwhat (wpAny_Name (wpAny_loadName_local hkf S.ka ns₃ hself ?_) (by decide +kernel))) (by decide +kernel))))
  refine set_plain (od := none) X₃ ⟨he₃, rfl, rfl, trivial⟩ kc.sa (osa_fresh X₃ he₃ kc.po kc.tw kc.hd ?_)
  show PySem.wpAt _ _ _ (execs [] _) _ _ _
  refine PySem.wpAt_of_wpAny (show wpAny _ _ (pure Flow.next) _ _ _ from wpAny_pure ?_)
  have hd : h₃.get? h₃.objs.size = none := fresh_none _
  have hde : h₃.objs.size ≠ e := fun z => by rw [z, he₃] at hd; cases hd
  have D : ((h₃.push { cls := .type "dict", data := .dict #[] }).update e (withDict h₃.objs.size)).get? h₃.objs.size = some { cls := .type "dict", dict := none, data := .dict ([] : List DictEntry).toArray 0, slots := #[] } := by
    rw [Heap.get?_update_other _ _ (Ne.symm hde)]
    exact Heap.get?_push_size _ rfl
  refine h _ _ h₃.objs.size ?tq (.ref (h₁.push (wrapObj e)).objs.size) (fun b o z hbe => ?_) ?_ ?_ ?_
  rotate_left
  · have hbd : h₃.objs.size ≠ b := fun q => by rw [← q, ] at z; have := k₃ _ _ z hde; rw [hd] at this; cases this
    rw [Heap.get?_update_other _ _ hbd, Heap.get?_update_other _ _ (Ne.symm hbe)]
    exact Heap.get?_push_of_some _ (k₃ b o z hbe)
  · rw [Heap.get?_update_other _ _ hde]
    exact Heap.get?_update_self _ (Heap.get?_push_of_some _ he₃) rfl
  · refine (Heap.get?_update_self _ D (by rw [putName_at]; rfl)).trans ?_
    rw [putName_at]
    rfl
  · cases z : s.heap.get? h₃.objs.size with
    | none => rfl
    | some o => have := k₃ _ _ z hde; rw [hd] at this; cases this
end
end Mine
end
/-! M30: TextFault.__init__ -/
section
set_option autoImplicit false
set_option linter.unusedVariables false
set_option linter.unusedSimpArgs false
set_option maxRecDepth 100000
namespace Mine
open PySem PySem.W PySem.Calls PyProof.Rows

section
variable {W : Wd} {K : Frag} {A : Around} {E : Value → Shared → Prop} {s : Shared} {f D cc : Addr} {fd : FuncData} {body : List Stmt} {f' D' cc' : Addr} {fd' : FuncData}
variable {nm q : Str} {C N : Addr} {bs bm : List Value} {hdct : Bool} {sn : List Str} {sub : List Value} {ab : Bool} {col : Option Bool} {dd : Option Addr} {k0 k1 k2 k3 k5 : Option Value} {newId : String}
theorem getL_put (name : Str) (hsh : Int) (t : Tok) (v : Value) : ∀ es : List DictEntry, getL name (putL name hsh (.str name t) v es) = some (some v)
  | [] => by simp [putL, getL, Value.isStr]
  | a :: r => by
    simp only [putL]
    split
    · rename_i h
      unfold getL
      rw [List.find?_cons]
      simp [h]
    · rename_i h
      have ih := getL_put name hsh t v r
      have h' : a.key.isStr name = false := by simpa using h
      unfold getL at ih ⊢
      rw [List.find?_cons, h']
      revert ih
      cases z : List.find? (fun x => x.key.isStr name) (putL name hsh (.str name t) v r) with
      | some en => exact fun ih => ih
      | none => intro ih; dsimp only at ih; split at ih <;> cases ih
theorem init1 (wk : WK W K) {p0 p1 ap p2 cp ep q0 q1 q2 q3 : Pos} {P0 P1 AP P2 CP EP Q0 Q1 Q2 Q3 : Pos}
    (S : SupAt W K f D cc fd [.Expr (.Call (.Attribute (.Call (.Name "super" p0) [] [] p1) "__init__" ap) [.Name "what" p2] [] cp) ep, .Assign [.Attribute (.Name "self" q0) "what" q1] (.Name "what" q2) q3])
    (S' : SupAt W K f' D' cc' fd' [.Expr (.Call (.Attribute (.Call (.Name "super" P0) [] [] P1) "__init__" AP) [.Name "what" P2] [] CP) EP, .Assign [.Attribute (.Name "self" Q0) "spot" Q1] (.Name "spot" Q2) Q3])
    (kc : ExcK K C D) (hsub' : mroIn K C (.ref D') = some true) {cd : ClassData} (hcd : clsIn K C = some cd) {l l' : List Value} (hl : (cd.mro.dropWhile (· != .ref D)).drop 1 = l) (hf : alongIn K "__init__" l = some (some (.builtin "Exception.__init__")))
    (hl' : (cd.mro.dropWhile (· != .ref D')).drop 1 = l') (hf' : alongIn K "__init__" l' = some (some (.ref f))) (hfn : fnIn K f = true) (hft : ∃ o, K.lookup f = some o ∧ o.cls = .type "function")
    (hline : (ap.endLine == cp.line) = true) (hline' : (AP.endLine == CP.line) = true) (hC : K.lookup C = some (excClassObj nm q C N bs bm hdct sn sub ab col dd k0 k1 k2 k3 k5 newId)) (hcB : (Value.ref C :: bm).contains (.type "Exception") = true)
    (hks : fd'.scope.names.lookup ("spot" : Str) = some .local)
    (hbind : ∀ a b, bindArgs fd ⟨[a, b], []⟩ = pure [(("self" : Str), a), (("what" : Str), b)]) (hbind' : ∀ a b c, bindArgs fd' ⟨[a, b, c], []⟩ = pure [(("self" : Str), a), (("what" : Str), b), (("spot" : Str), c)]) {R : Result → Shared → Prop} {e t0 : Addr} {vs : Array Value} {v u : Value}
    (hdep : A.depth + 1 < recursionLimit) (hb : W.b0.StaysIn s.heap) (he : s.heap.get? e = some { cls := .ref C, dict := none, data := .fields vs }) (h0 : vs[0]? = some (.ref t0)) (heC : e ≠ C) (heb : W.b0.get? e = none)
    (h : ∀ h' tk d t es n v0, (∀ b o, s.heap.get? b = some o → b ≠ e → h'.get? b = some o) → h'.get? e = some { cls := .ref C, dict := some d, data := .fields (vs.setIfInBounds 0 v0) } →
      h'.get? d = some { cls := .type "dict", dict := none, data := .dict (List.toArray (putL "spot" (PyData.keyHash W.w.params "spot") (.str "spot" t) u es)) n, slots := #[] } → s.heap.get? d = none → R (.ok (.ret .none)) { s with heap := h', toks := tk }) :
    codeAny (model W.prog W.w) A (.call (.ref f') ⟨[.ref e, v, u], []⟩) R s := by
  obtain ⟨oc, od, osl, hfo⟩ := S'.obj
  have X : K.In s.heap := wk.kin.keeps hb
  refine ks_codeAny_call_defAt (fd := fd') (binds := [(("self" : Str), .ref e), (("what" : Str), v), (("spot" : Str), u)]) (by omega) (X _ _ hfo) rfl (wk.nolimit.keeps hb) (codeRec_of X S'.code) S'.hbody (BindsTo.of_eq (hbind' _ _ _)) S'.nocell (fun x hx => ?_) (fun h₀ ns hk₀ => ?_) S'.co S'.gen S'.kind
  · simp only [List.mem_cons, List.not_mem_nil, or_false] at hx
    rcases hx with rfl | rfl | rfl
    · exact S'.ka
    · exact S'.ko
    · exact hks
  have hkf : (callEnv fd' s.heap.objs.size f').scope.kind = .function := S'.kind
  have hb₀ : W.b0.StaysIn h₀ := fun b o z => hk₀ b o (hb b o z)
  have hself : (fun x => ([(("self" : Str), .ref e), (("what" : Str), v), (("spot" : Str), u)] : List (Str × Value)).reverse.lookup x) ("self" : Str) = some (.ref e) := by rfl
  have hwhat : (fun x => ([(("self" : Str), .ref e), (("what" : Str), v), (("spot" : Str), u)] : List (Str × Value)).reverse.lookup x) ("what" : Str) = some v := by rfl
  have hspot : (fun x => ([(("self" : Str), .ref e), (("what" : Str), v), (("spot" : Str), u)] : List (Str × Value)).reverse.lookup x) ("spot" : Str) = some u := by rfl
  generalize (fun x => ([(("self" : Str), .ref e), (("what" : Str), v), (("spot" : Str), u)] : List (Str × Value)).reverse.lookup x) = m at ns hself hwhat hspot
  have he₀ := hk₀ _ _ he
  refine ks_wpAt_execs_cons ?_
  refine ks_wpAt_Expr_any (meth_walkAt hline' (by show 1 < 20; decide) rfl (sup_base (s := { s with heap := h₀, toks := _ }) wk S' hb₀ ns hself he₀ rfl (fun c z => by cases z) hsub' fun h₁ hso k₁ pl => ?_)) (not_inter S'.kind)
  have hb₁ : W.b0.StaysIn h₁ := fun b o z => k₁ b o (hb₀ b o z)
  have X₁ : K.In h₁ := wk.kin.keeps hb₁
  obtain ⟨of, hof, hofc⟩ := hft
  refine ks_wpAny_getMethod_super hso (looks_opaque X₁ S'.op) (l₀ := cd.mro) ?_ hl' X₁ hf' (X₁ _ _ hof) hofc heC (by decide +kernel) ?_
  · exact fun A Q E s k q => wpAny_bind ((looks_clsIn X₁ hcd) A _ E s k (wpAny_pure q))
  generalize hmo : ({ cls := .type "method", data := .fields #[.ref f, .ref e] } : Obj) = mo
  have k₂ : KA h₁ (h₁.push mo) := KA.push _ _
  have kk₂ : KA h₀ (h₁.push mo) := k₁.trans k₂
  have hw : (h₁.push mo).get? h₁.objs.size = some mo := Heap.get?_push_size _ (by rw [← hmo]; rfl)
  have he₂ := kk₂ _ _ he₀
  have ns₂ := ns.keeps kk₂
  have hb₂ : W.b0.StaysIn (h₁.push mo) := fun b o z => k₂ b o (hb₁ b o z)
  have X₂ : K.In (h₁.push mo) := wk.kin.keeps hb₂
  refine callWith_of (P := MethP K h₁.objs.size f (.ref e)) rfl (keeps_M hfn) (evalArgs_plain ?_)
  refine splice_name (s := { s with heap := h₁.push mo, toks := _ }) hkf S'.ko rfl ns₂ hwhat (by decide +kernel) ⟨⟨by rw [hw, ← hmo], X₂⟩, ?_⟩
  refine wpAny_call (method_call (f := .ref f) (self := .ref e) (by rw [hw, ← hmo]) ?_)
  refine init0 (s := { s with heap := h₁.push mo, toks := _ }) wk S kc hcd hl hf hline hC hcB hbind (by show A.depth + 1 < _; exact hdep) hb₂ he₂ h0 heC heb (fun h₃ tk d t v0 k₃ he₃ hd₃ hdn => ?_)
  have hLe : s.heap.objs.size ≠ e := fun z => absurd (Heap.lt_size he) (by rw [z]; exact Nat.lt_irrefl _)
  have k₃' : ∀ b o, h₀.get? b = some o → b ≠ e → h₃.get? b = some o := fun b o z hbe => k₃ b o (kk₂ b o z) hbe
  have hb₃ : W.b0.StaysIn h₃ := fun b o z => k₃' b o (hb₀ b o z) fun q => by rw [q, heb] at z; cases z
  have X₃ : K.In h₃ := wk.kin.keeps hb₃
  have ns₃ : h₃.Ns s.heap.objs.size m := by
    obtain ⟨oL, es, ep', hL, r⟩ := ns
    exact ⟨oL, es, ep', k₃' _ _ hL hLe, r⟩
  refine ks_wpAt_execs_cons (PySem.wpAt_of_wpAny (plainObj_wpAny_Assign_Attribute (wpAny_Name (wpAny_loadName_local hkf hks ns₃ hspot (wpAny_Name (wpAny_loadName_local hkf S'.ka ns₃ hself ?_) (by decide +kernel))) (by decide +kernel))))
  have hde : d ≠ e := fun z => by rw [z, he₂] at hdn; cases hdn
  refine set_raw (s := { s with heap := h₃, toks := _ }) X₃ (ox := { cls := .ref C, dict := some d, data := .fields (vs.setIfInBounds 0 v0) }) (dx := d) ⟨he₃, rfl, rfl, hd₃⟩ rfl kc.sa kc.po kc.ts kc.hd ?_ ?_ ?_
  · unfold ent
    simp only [putL]
    rfl
  · unfold ent
    simp [putL]
  refine PySem.wpAt_of_wpAny (show wpAny _ _ (pure Flow.next) _ _ _ from wpAny_pure ?_)
  refine h _ _ d ?tq (ent W.w.params "what" t v) ?nq v0 (fun b o z hbe => ?_) ?_ ?_ ?_
  rotate_left 2
  · have hbd : d ≠ b := fun q => by rw [← q] at z; have := kk₂ _ _ (hk₀ _ _ z); rw [hdn] at this; cases this
    rw [Heap.get?_update_other _ _ hbd]
    exact k₃' b o (hk₀ _ _ z) hbe
  · rw [Heap.get?_update_other _ _ hde]
    exact he₃
  · refine (Heap.get?_update_self _ hd₃ (by rw [putName_at]; rfl)).trans ?_
    rw [putName_at]
  · cases z : s.heap.get? d with
    | none => rfl
    | some o => have := kk₂ _ _ (hk₀ _ _ z); rw [hdn] at this; cases this
end
end Mine
end
/-! M31: an exception of one's own: RaiseOk -/
section
set_option autoImplicit false
set_option linter.unusedVariables false
set_option linter.unusedSimpArgs false
set_option maxRecDepth 100000
namespace Mine
open PySem PySem.W PySem.Calls PyProof.Rows

/-- the class object of an exception's class, and the __init__ that it reaches -/
structure MakeAt (K : Frag) (C D fI f : Addr) : Prop where
  obj : ∃ nm q N bs bm hdct sn sub ab col dd k0 k1 k2 k3 k5, K.lookup C = some (excClassObj nm q C N bs bm hdct sn sub ab col dd k0 k1 k2 k3 k5 "Exception.__new__") ∧ (Value.ref C :: bm).contains (.type "Exception") = true ∧
    (Value.ref C :: bm).contains (.type "AttributeError") = false ∧ (Value.ref C :: bm).contains (.type "NameError") = false
  ini : findIn K (.ref C) "__init__" = some (some (.ref fI))
  fn : typeIn K (.ref fI) = some (.type "function")
  kc : ExcK K C D
  sup : ∃ cd, clsIn K C = some cd ∧ alongIn K "__init__" ((cd.mro.dropWhile (· != .ref D)).drop 1) = some (some (.builtin "Exception.__init__"))
section
variable {W : Wd} {K : Frag} {f D cc : Addr} {fd : FuncData} {f' D' cc' : Addr} {fd' : FuncData} {C : Addr} {k : Nat} {c : Nat}
theorem raise0 (wk : WK W K) {p0 p1 ap p2 cp ep q0 q1 q2 q3 : Pos} (S : SupAt W K f D cc fd [.Expr (.Call (.Attribute (.Call (.Name "super" p0) [] [] p1) "__init__" ap) [.Name "what" p2] [] cp) ep, .Assign [.Attribute (.Name "self" q0) "what" q1] (.Name "what" q2) q3])
    (M : MakeAt K C D f f) (hc : W.cls c = C) (hline : (ap.endLine == cp.line) = true)
    (hbind : ∀ a b, bindArgs fd ⟨[a, b], []⟩ = pure [(("self" : Str), a), (("what" : Str), b)]) (hk : 4 ≤ k) {p : PV} : RaiseOk W k (.ref C) [p] ⟨c, none⟩ := by
  intro A env fs σ s L vs Q E ar hh st rel P
  obtain ⟨nm, q, N, bs, bm, hdct, sn, sub, ab, col, dd, k0, k1, k2, k3, k5, hC, hB, hAE, hNE⟩ := M.obj
  obtain ⟨cd, hcd, hal⟩ := M.sup
  obtain ⟨hp, g, dr, t, os⟩ := s
  match vs, rel with
  | [v], rel =>
    have X : K.In hp := wk.kin.keeps st.base
    have n0 : hp.get? (hp.objs.size + 1) = none := Heap.get?_none_of_le (Nat.le_succ _)
    have hold : ∀ b o, hp.get? b = some o → b ≠ hp.objs.size + 1 := fun b o z q => by rw [q, n0] at z; cases z
    refine wpAny_call (exc_make PySem.F.excBase_Exception hB hAE hNE (X _ _ hC) (looks_findIn X M.ini) (fun self => bind_fn X self M.fn) ?_)
    generalize hh₂ : (hp.push { cls := .type "tuple", data := .seq [v].toArray }).push { cls := .ref C, data := .fields #[.ref hp.objs.size, .none, .none, .none, .bool false, .none] } = h₂
    have k₂ : KA hp h₂ := by rw [← hh₂]; exact (KA.push _ _).trans (KA.push _ _)
    have he : h₂.get? (hp.objs.size + 1) = some { cls := .ref C, dict := none, data := .fields #[.ref hp.objs.size, .none, .none, .none, .bool false, .none] } := by
      rw [← hh₂]
      have := Heap.get?_push_size (hp.push { cls := .type "tuple", data := .seq [v].toArray }) (o := { cls := .ref C, data := .fields #[.ref hp.objs.size, .none, .none, .none, .bool false, .none] }) rfl
      rw [Heap.size_push] at this
      exact this
    have hb₂ : W.b0.StaysIn h₂ := fun b o z => k₂ b o (st.base b o z)
    refine init0 (s := ⟨h₂, g, dr, t, os⟩) wk S M.kc hcd rfl hal hline hC hB hbind ?_ hb₂ he rfl (hold _ _ (X _ _ hC)).symm ?_ (fun h' tk d t' v0 kk he' hd' hdn => ?_)
    · have := ar.depth
      rw [depth_under_make]
      omega
    · cases z : W.b0.get? (hp.objs.size + 1) with
      | none => rfl
      | some o => have := st.base _ _ z; rw [n0] at this; cases this
    · have K' : KA hp h' := fun b o z => kk b o (k₂ b o z) (hold b o z)
      have dn : hp.get? d = none := by
        cases z : hp.get? d with
        | none => rfl
        | some o => have := k₂ _ _ z; rw [hdn] at this; cases this
      have off : ∀ a, hp.get? a = none → a ∉ own L := fun a ha hm => by
        obtain ⟨o, z⟩ := st.lay.live hm
        rw [ha] at z; cases z
      have offb : ∀ a, hp.get? a = none → W.b0.get? a = none := fun a ha => by
        cases z : W.b0.get? a with
        | none => rfl
        | some o => have := st.base _ _ z; rw [ha] at this; cases this
      refine ⟨rfl, P _ h' tk (st.ka K') (K'.aft [] L) ⟨n0, offb _ n0, off _ n0, _, d, by rw [hc]; exact he', by simp, .inl ⟨rfl, by simp⟩, dn, off _ dn, offb _ dn, fun i hi => by cases hi⟩⟩
  | [], rel => simp [RelVs] at rel
  | _ :: _ :: _, rel => simp [RelVs] at rel
end
end Mine
end
/-! M32: TextFault raised -/
section
set_option autoImplicit false
set_option linter.unusedVariables false
set_option linter.unusedSimpArgs false
set_option maxRecDepth 100000
namespace Mine
open PySem PySem.W PySem.Calls PyProof.Rows

section
variable {W : Wd} {K : Frag} {f D cc : Addr} {fd : FuncData} {f' D' cc' : Addr} {fd' : FuncData} {C : Addr} {k : Nat} {c : Nat}
theorem raise1 (wk : WK W K) {p0 p1 ap p2 cp ep q0 q1 q2 q3 : Pos} {P0 P1 AP P2 CP EP Q0 Q1 Q2 Q3 : Pos} (S : SupAt W K f D cc fd [.Expr (.Call (.Attribute (.Call (.Name "super" p0) [] [] p1) "__init__" ap) [.Name "what" p2] [] cp) ep, .Assign [.Attribute (.Name "self" q0) "what" q1] (.Name "what" q2) q3])
    (S' : SupAt W K f' D' cc' fd' [.Expr (.Call (.Attribute (.Call (.Name "super" P0) [] [] P1) "__init__" AP) [.Name "what" P2] [] CP) EP, .Assign [.Attribute (.Name "self" Q0) "spot" Q1] (.Name "spot" Q2) Q3])
    (hsub' : mroIn K C (.ref D') = some true) (hlk : ∃ cd, clsIn K C = some cd ∧ alongIn K "__init__" ((cd.mro.dropWhile (· != .ref D')).drop 1) = some (some (.ref f))) (hfn : fnIn K f = true) (hft : ∃ o, K.lookup f = some o ∧ o.cls = .type "function")
    (hline' : (AP.endLine == CP.line) = true) (hks : fd'.scope.names.lookup ("spot" : Str) = some .local) (hbind' : ∀ a b c, bindArgs fd' ⟨[a, b, c], []⟩ = pure [(("self" : Str), a), (("what" : Str), b), (("spot" : Str), c)]) (htf : C = textFaultA)
    (M : MakeAt K C D f' f) (hc : W.cls c = C) (hline : (ap.endLine == cp.line) = true)
    (hbind : ∀ a b, bindArgs fd ⟨[a, b], []⟩ = pure [(("self" : Str), a), (("what" : Str), b)]) (hk : 4 ≤ k) {p : PV} {i : Int} : RaiseOk W k (.ref C) [p, .int i] ⟨c, some i⟩ := by
  intro A env fs σ s L vs Q E ar hh st rel P
  obtain ⟨nm, q, N, bs, bm, hdct, sn, sub, ab, col, dd, k0, k1, k2, k3, k5, hC, hB, hAE, hNE⟩ := M.obj
  obtain ⟨cd, hcd, hal⟩ := M.sup
  obtain ⟨hp, g, dr, t, os⟩ := s
  match vs, rel with
  | [v, u], rel =>
    obtain ⟨ti, rfl⟩ : ∃ t, u = .int i t := rel.2.1
    obtain ⟨cd'', hcd'', hal'⟩ := hlk
    rw [hcd] at hcd''
    obtain rfl := Option.some.inj hcd''
    have X : K.In hp := wk.kin.keeps st.base
    have n0 : hp.get? (hp.objs.size + 1) = none := Heap.get?_none_of_le (Nat.le_succ _)
    have hold : ∀ b o, hp.get? b = some o → b ≠ hp.objs.size + 1 := fun b o z q => by rw [q, n0] at z; cases z
    refine wpAny_call (exc_make PySem.F.excBase_Exception hB hAE hNE (X _ _ hC) (looks_findIn X M.ini) (fun self => bind_fn X self M.fn) ?_)
    generalize hh₂ : (hp.push { cls := .type "tuple", data := .seq [v, .int i ti].toArray }).push { cls := .ref C, data := .fields #[.ref hp.objs.size, .none, .none, .none, .bool false, .none] } = h₂
    have k₂ : KA hp h₂ := by rw [← hh₂]; exact (KA.push _ _).trans (KA.push _ _)
    have he : h₂.get? (hp.objs.size + 1) = some { cls := .ref C, dict := none, data := .fields #[.ref hp.objs.size, .none, .none, .none, .bool false, .none] } := by
      rw [← hh₂]
      have := Heap.get?_push_size (hp.push { cls := .type "tuple", data := .seq [v, .int i ti].toArray }) (o := { cls := .ref C, data := .fields #[.ref hp.objs.size, .none, .none, .none, .bool false, .none] }) rfl
      rw [Heap.size_push] at this
      exact this
    have hb₂ : W.b0.StaysIn h₂ := fun b o z => k₂ b o (st.base b o z)
    refine init1 (s := ⟨h₂, g, dr, t, os⟩) wk S S' M.kc hsub' hcd rfl hal rfl hal' hfn hft hline hline' hC hB hks hbind hbind' ?_ hb₂ he rfl (hold _ _ (X _ _ hC)).symm ?_ (fun h' tk d t' es n v0 kk he' hd' hdn => ?_)
    · have := ar.depth
      rw [depth_under_make]
      omega
    · cases z : W.b0.get? (hp.objs.size + 1) with
      | none => rfl
      | some o => have := st.base _ _ z; rw [n0] at this; cases this
    · have K' : KA hp h' := fun b o z => kk b o (k₂ b o z) (hold b o z)
      have dn : hp.get? d = none := by
        cases z : hp.get? d with
        | none => rfl
        | some o => have := k₂ _ _ z; rw [hdn] at this; cases this
      have off : ∀ a, hp.get? a = none → a ∉ own L := fun a ha hm => by
        obtain ⟨o, z⟩ := st.lay.live hm
        rw [ha] at z; cases z
      have offb : ∀ a, hp.get? a = none → W.b0.get? a = none := fun a ha => by
        cases z : W.b0.get? a with
        | none => rfl
        | some o => have := st.base _ _ z; rw [ha] at this; cases this
      refine ⟨rfl, P _ h' tk (st.ka K') (K'.aft [] L) ⟨n0, offb _ n0, off _ n0, _, d, by rw [hc]; exact he', by simp, .inl ⟨rfl, by simp⟩, dn, off _ dn, offb _ dn, fun i' hi => ?_⟩⟩
      cases hi
      refine ⟨hc.trans htf, _, _, _, ti, hd', rfl, rfl, getL_put _ _ _ _ _⟩
  | [], rel => simp [RelVs] at rel
  | [_], rel => simp [RelVs] at rel
  | _ :: _ :: _ :: _, rel => simp [RelVs] at rel
end
end Mine
end
/-! M33: a record is made -/
section
set_option autoImplicit false
set_option linter.unusedVariables false
set_option linter.unusedSimpArgs false
set_option maxRecDepth 100000
namespace Mine
open PySem PySem.W PySem.Calls PyProof.Rows

section
variable {W : Wd} {K : Frag} {C f : Addr} {c k : Nat}
theorem Ar.make {A : Around} {env : Env} {fs : List Env} (a : Ar A env fs (k + 1)) (C : Addr) (vs : List Value) : Ar (A.under (.builtin "type.__call__" ⟨.ref C :: vs, []⟩)) env fs k := by
  obtain ⟨a1, a2, a3, a4, a5⟩ := a
  refine ⟨?_, a2, a3, ?_, ?_⟩
  · exact a1
  · rw [depth_under_make]; omega
  · show A.units + 1 + _ + _ < _
    omega
theorem make_ok (wk : WK W K) (hc : W.cls c = C) (hm : makesIn K C = true) (hi : findIn K (.ref C) "__init__" = some (some (.ref f))) (hf : typeIn K (.ref f) = some (.type "function"))
    {args : List PV} {σ : Store} {r r' : R PV} (ok : CodeOk W k (.ref f) (.ref σ.length :: args) (σ ++ [.inst c []]) r) (hr : newOf σ.length r = some r') : CallOk W (k + 1) (.ref C) args σ r' := by
  intro A env fs s L vs Q E ar hh st rel P
  obtain ⟨hp, g, dr, t, os⟩ := s
  have X : K.In hp := wk.kin.keeps st.base
  refine wpAny_call (make_core (makes_of X hm) (looks_findIn X hi) (fun self => bind_fn X self hf) (.inl rfl) ?_)
  generalize hh₂ : (hp.push emptyDict).push (instObj C hp.objs.size) = h₂
  have k₂ : KA hp h₂ := by rw [← hh₂]; exact (KA.push _ _).trans (KA.push _ _)
  have n0 : hp.get? hp.objs.size = none := fresh_none _
  have n1 : hp.get? (hp.objs.size + 1) = none := Heap.get?_none_of_le (Nat.le_succ _)
  have e1 : h₂.get? (hp.objs.size + 1) = some (instObj C hp.objs.size) := by
    rw [← hh₂]
    have := Heap.get?_push_size (hp.push emptyDict) (o := instObj C hp.objs.size) rfl
    rw [Heap.size_push] at this
    exact this
  have e0 : h₂.get? hp.objs.size = some emptyDict := by
    rw [← hh₂]
    exact Heap.get?_push_of_some _ (Heap.get?_push_size _ rfl)
  obtain ⟨st₂, af₂⟩ := st_ext (p := ⟨hp.objs.size + 1, hp.objs.size⟩) (o := .inst c []) st k₂ n1 n0 ⟨Nat.succ_ne_self _, by rw [hc]; exact e1, [], 0, e0, by simp, by simp [Ents]⟩
  have rel₂ : RelVs false (L ++ ([⟨hp.objs.size + 1, hp.objs.size⟩] : List LO)) h₂ (.ref (hp.objs.size + 1) :: vs) (.ref σ.length :: args) := by
    simp only [RelVs]
    refine ⟨?_, af₂.rels (.nil _) (fun _ => rfl) rel⟩
    simp only [RelV]
    refine ⟨⟨hp.objs.size + 1, hp.objs.size⟩, ?_, rfl⟩
    rw [Lo.l_append, ← st.lay.len]
    simp
  refine codeAny_mono (ok _ env fs ⟨h₂, g, dr, t, os⟩ _ _ (fun v s' => v = .none ∧ Q (.ref (hp.objs.size + 1)) s') E (ar.make C vs) hh st₂ rel₂ ?_) fun r s' z => ?_
  · cases r with
    | ok a σ' =>
      cases a <;> cases hr
      intro v L' h' tk st' af' rv
      refine ⟨rv, P _ L' h' tk st' (af₂.trans0 af' st₂.lay) ?_⟩
      simp only [RelV]
      obtain ⟨⟨T, rfl, _⟩, _⟩ := af'
      refine ⟨⟨hp.objs.size + 1, hp.objs.size⟩, ?_, rfl⟩
      rw [Lo.l_append, Lo.l_append, ← st.lay.len]
      simp
    | exc x σ' =>
      cases hr
      intro e L' h' tk st' af' X'
      exact P e L' h' tk st' (af₂.trans0 af' st₂.lay) (X'.back fun a z => af₂.none_back st₂.lay z)
  · rcases r with e | (v | _ | _ | _) <;> first | exact z | exact z.elim
end
end Mine
end
/-! M34: the program's functions, level by level -/
section
set_option autoImplicit false
set_option linter.unusedVariables false
set_option linter.unusedSimpArgs false
set_option maxRecDepth 100000
namespace Mine
open PySem PySem.W PySem.Calls PyProof.Rows

structure FnIs (W : Wd) (K : Frag) (a : Addr) (d : List Nat × List CS) (lc : Option Addr) : Prop where
  keep : keepIn K (.ref a) = true
  is : ∃ fd body m, FnAt W K a fd d.1 body ∧ chkSs W.nm m (fun x => fd.scope.names.lookup x) d.2 body = true ∧ ∀ l, lc = some l → fd.code = .ref l
structure Prg (W : Wd) (K : Frag) (glo : Nat → Option PV) : Prop where
  w : World_ W K
  glo : ∀ x p, glo x = some p → ∃ v, W.mg (W.nm x) = some v ∧ RelV false Lo.nil W.b0 v p
  fn : ∀ f d, fnTab f = some d → ∃ a, W.mg (W.nm f) = some (.ref a) ∧ FnIs W K a d none
  mt : ∀ m d, mtTab m = some d → ∃ a, findIn K (.ref (W.cls 6)) (W.nm m) = some (some (.ref a)) ∧ isFn K (.ref a) = true ∧ plainGet K (W.cls 6) (W.nm m) = true ∧ FnIs W K a d none
  rec_ : W.mg (W.nm 6) = some (.ref (W.cls 6)) ∧ keepIn K (.ref (W.cls 6)) = true ∧ makesIn K (W.cls 6) = true ∧ ∃ a, findIn K (.ref (W.cls 6)) "__init__" = some (some (.ref a)) ∧ typeIn K (.ref a) = some (.type "function") ∧ FnIs W K a r_init none
  ex : ∀ c, c = 3 ∨ c = 4 ∨ c = 5 → W.mg (W.nm c) = some (.ref (W.cls c)) ∧ keepIn K (.ref (W.cls c)) = true ∧ ExcCls W K c ∧ ∀ k args x, 4 ≤ k → excTab c args = some x → RaiseOk W k (.ref (W.cls c)) args x
theorem excTab_cls {c : Nat} {args : List PV} {x : PX} (h : excTab c args = some x) : x.cls = c := by
  unfold excTab at h
  split at h <;> cases h <;> rfl

section
variable {W : Wd} {K : Frag} {glo : Nat → Option PV} 
theorem run_ok (P : Prg W K glo) {k : Nat} {l : Nat} (g : Good W K (lev glo k) l) {a : Addr} {d : List Nat × List CS} (F : FnIs W K a d none) {args : List PV} {σ : Store} {r : R PV} (h : runFn (lev glo k) d args σ = some r) : CodeOk W (l + 1) (.ref a) args σ r ∧ CallOk W (l + 1) (.ref a) args σ r := by
  obtain ⟨fd, body, m, FA, hc, _⟩ := F.is
  unfold runFn at h
  split at h
  · rename_i hl
    obtain ⟨rs, hr', rfl⟩ := Option.map_eq_some_iff.mp h
    obtain ⟨N, hr⟩ := EXs_some hr'
    obtain ⟨_, _, sx, _⟩ := all_ok P.w N _ _ g
    have hq : (lev glo k).q = false := by cases k <;> rfl
    have ht : (lev glo k).top = true → fd.code = .ref W.lc := fun z => by cases k <;> cases z
    exact ⟨fn_okC P.w.wk FA sx hq ht hc hl hr, fn_ok P.w.wk FA sx hq ht hc hl hr⟩
  · cases h
theorem lev_good (P : Prg W K glo) : ∀ k, Good W K (lev glo k) (2 * k)
  | 0 => by
    refine ⟨⟨P.glo, fun f z => ?_, fun c m z => ?_⟩, ⟨fun c z => ?_⟩, fun z => ?_⟩ <;> cases z
  | k + 1 => by
    have g := lev_good P k
    refine ⟨⟨P.glo, fun f z => ?_, fun c m z => ?_⟩, ⟨fun c z => ?_⟩, fun z => by cases z⟩
    · by_cases h6 : f = 6
      · subst h6
        obtain ⟨m1, m2, m3, a, m4, m5, m6⟩ := P.rec_
        refine ⟨_, m1, m2, fun args σ r e => ?_⟩
        simp only [lev, if_true] at e
        obtain ⟨r0, e0, e1⟩ := Option.bind_eq_some_iff.mp e
        exact make_ok P.w.wk rfl m3 m4 m5 (run_ok P g m6 e0).1 e1
      · have h2 : (fnTab f).isSome = true := by simpa [lev, h6] using z
        obtain ⟨d, hd⟩ := Option.isSome_iff_exists.mp h2
        obtain ⟨a, a1, a2⟩ := P.fn f d hd
        refine ⟨_, a1, a2.keep, fun args σ r e => ?_⟩
        simp only [lev, if_neg h6, hd] at e
        exact (run_ok P g a2 e).2.le (by omega)
    · have hz : c = 6 ∧ (mtTab m).isSome = true := by simpa [lev] using z
      obtain ⟨rfl, h2⟩ := hz
      obtain ⟨d, hd⟩ := Option.isSome_iff_exists.mp h2
      obtain ⟨a, a1, a2, a3, a4⟩ := P.mt m d hd
      refine ⟨a, a1, a2, a4.keep, a3, fun j args σ r e => ?_⟩
      simp only [lev, hd] at e
      exact (run_ok P g a4 e).2.le (by omega)
    · have hz : (c = 3 ∨ c = 4 ∨ c = 5) ∧ 2 ≤ k + 1 := by simpa [lev, or_assoc] using z
      obtain ⟨h1, h2, h3, h4⟩ := P.ex c hz.1
      exact ⟨h1, h2, h3, fun args x e => ⟨excTab_cls e, h4 _ args x (by omega) e⟩⟩
end
end Mine
end
/-! M35: the law, called -/
section
set_option autoImplicit false
set_option linter.unusedVariables false
set_option linter.unusedSimpArgs false
set_option maxRecDepth 100000
namespace Mine
open PySem PySem.W PySem.Calls PyProof.Rows
section
variable {W : Wd} {K : Frag} {glo : Nat → Option PV}
theorem law_good (P : Prg W K glo) (k : Nat) : Good W K (lev glo k).law (2 * k + 2) := by
  have g := lev_good P k
  have s0 := g.so.le (show 2 * k ≤ 2 * k + 2 by omega)
  have x0 := g.xo.le (show 2 * k ≤ 2 * k + 2 by omega)
  exact ⟨⟨s0.glo, s0.kn, s0.km⟩, ⟨x0.ex⟩, fun _ => ⟨2 * k, rfl, ⟨g.so.glo, g.so.kn, g.so.km⟩, ⟨g.xo.ex⟩⟩⟩
theorem law_ok (P : Prg W K glo) {a : Addr} (F : FnIs W K a f_law (some W.lc)) {k : Nat} {args : List PV} {σ : Store} {rs : RS} (hl : args.length = f_law.1.length) (hr : EXs (lev glo k).law f_law.2 (f_law.1.zip args) σ = some rs)
    {A : Around} {fs : List Env} {s : Shared} {L : Lo} {vs : List Value} {Q E : Value → Shared → Prop} (ar : Ar0 A fs (2 * k + 3)) (hh : A.handled = none) (st : St W false fs L σ s.heap) (rel : RelVs false L s.heap vs args) (po : Post W false fs (RelV false) L s (resOf rs) Q E) :
    wpAny (model W.prog W.w) A (call (.ref a) vs) Q E s := by
  obtain ⟨fd, body, m, FA, hc, hlc⟩ := F.is
  obtain ⟨N, hr⟩ := EXs_some hr
  obtain ⟨_, _, sx, _⟩ := all_ok P.w N _ _ (law_good P k)
  have hq : (lev glo k).law.q = false := by cases k <;> rfl
  exact fn_okT P.w.wk FA sx hq (fun _ => hlc _ rfl) hc hl hr ar hh st rel po
end
end Mine
end
/-! M36: the ground, names first -/
section
set_option autoImplicit false
set_option linter.unusedVariables false
set_option linter.unusedSimpArgs false
set_option maxRecDepth 100000
namespace Mine
open PySem PySem.W PySem.Calls PyProof.Rows

theorem tbl_nodup : nmTbl.Nodup := by decide +kernel
theorem tbl_first : ∀ s ∈ nmTbl, s ≠ ⟨Array.replicate 1 33⟩ ∧ ¬ (s.1[0]? = some 33) := by decide +kernel
theorem nmOf_inj : ∀ x y, nmOf x = nmOf y → x = y := by
  intro x y h
  unfold nmOf at h
  cases hx : nmTbl[x]? with
  | some s =>
    cases hy : nmTbl[y]? with
    | some s' =>
      rw [hx, hy] at h
      dsimp only at h
      subst h
      obtain ⟨h1, e1⟩ := List.getElem?_eq_some_iff.mp hx
      obtain ⟨h2, e2⟩ := List.getElem?_eq_some_iff.mp hy
      exact (List.getElem_inj tbl_nodup).mp (e1.trans e2.symm)
    | none =>
      rw [hx, hy] at h
      dsimp only at h
      have := (tbl_first s (List.mem_of_getElem? hx)).2
      rw [h] at this
      simp at this
  | none =>
    cases hy : nmTbl[y]? with
    | some s' =>
      rw [hx, hy] at h
      dsimp only at h
      have := (tbl_first s' (List.mem_of_getElem? hy)).2
      rw [← h] at this
      simp at this
    | none =>
      rw [hx, hy] at h
      dsimp only at h
      have := congrArg (fun s : Str => s.1.size) h
      simpa using this
theorem nmOf_nodict : ∀ x, (nmOf x == ("__classdict__" : Str)) = false := by
  intro x
  unfold nmOf
  cases hx : nmTbl[x]? with
  | some s =>
    have : ∀ s ∈ nmTbl, (s == ("__classdict__" : Str)) = false := by decide +kernel
    exact this s (List.mem_of_getElem? hx)
  | none =>
    simp only [beq_eq_false_iff_ne, ne_eq]
    intro h
    have h1 : ¬ ((("__classdict__" : Str)).1[0]? = some 33) := by decide +kernel
    rw [← h] at h1
    simp at h1
end Mine
end
/-! M37: the ground: the world of this text -/
section
set_option autoImplicit false
set_option linter.unusedVariables false
set_option linter.unusedSimpArgs false
set_option maxRecDepth 100000
namespace Mine
open PySem PySem.W PySem.Calls PyProof.Rows

noncomputable abbrev KK (p : Params) : Frag := Mine.hd.heap_39 p
def clsOf : Nat → Addr
  | 3 => 93
  | 4 => 81
  | 5 => 69
  | _ => 211
/-- what the head tells -/
structure Gd (prog : Program) (w : World) (h : Heap) (mg mb : Str → Option Value) : Prop where
  X : (KK w.params).In h
  tab : h.get? 270 = some (tabObj #[])
  g : h.Ns mainGlobals mg
  b : h.Ns builtinsNs mb
  nl : h.NoLimit
  bu : ∀ x : Str, x ≠ "__name__" → mb x = bootBuiltins x
  bm : ∃ bm ob, mg "__builtins__" = some (.ref bm) ∧ bm ≠ builtinsNs ∧ h.get? bm = some ob ∧ ob.cls = .type "module" ∧ ob.dict = some builtinsNs ∧ ob.data = .plain
  file : ((prog.main.file : Str) == ("/claim/cut.py" : Str)) = true
  top : (prog.main.scope.names.lookup ("super" : Str)).isSome = false
def Wof (prog : Program) (w : World) (h : Heap) (mg mb : Str → Option Value) : Wd := { tab := 270, lc := 272, prog := prog, w := w, b0 := hideAll h [270], nm := nmOf, cls := clsOf, mg := mg, mb := mb }

section
variable {prog : Program} {w : World} {h : Heap} {mg mb : Str → Option Value}
theorem Gd.old (G : Gd prog w h mg mb) : ∀ b o, b ≠ 270 → h.get? b = some o → (hideAll h [270]).get? b = some o := fun b o n e => hideAll_get [270] e (by simpa using n)
theorem Gd.kin (G : Gd prog w h mg mb) : (KK w.params).In (hideAll h [270]) := fun b o e => by
  refine G.old b o (fun q => ?_) (G.X b o e)
  rw [q] at e
  have : (KK w.params).lookup 270 = none := by rfl
  rw [this] at e; cases e
theorem Ns.hid {a : Addr} {m : Str → Option Value} (n : h.Ns a m) (ha : a ≠ 270) : (hideAll h [270]).Ns a m := by
  obtain ⟨o, es, ep, e, r⟩ := n
  exact ⟨o, es, ep, hideAll_get [270] e (by simpa using ha), r⟩
theorem Gd.wok (G : Gd prog w h mg mb) : WOk (Wof prog w h mg mb) where
  inj := nmOf_inj
  nodict := nmOf_nodict
  g := Ns.hid G.g (by decide)
  b := Ns.hid G.b (by decide)
  nolimit := by
    obtain ⟨mc, a, b⟩ := G.nl
    exact ⟨mc, Ns.hid a (by decide), b⟩
  bi := fun b => by
    cases b <;> exact ⟨mg_none_of G.X G.g (by rfl), (G.bu _ (by decide +kernel)).trans (by rfl)⟩
  spot := by rfl
theorem clsOf_mem (c : Nat) : clsOf c = 93 ∨ clsOf c = 81 ∨ clsOf c = 69 ∨ clsOf c = 211 := by
  unfold clsOf
  split <;> simp
theorem att_all (p : Params) (x : Nat) (hx : x < 3) : plainGet (KK p) 211 (nmOf x) = true ∧ hasDictIn (KK p) 211 = true ∧ ∃ attr, findIn (KK p) (.ref 211) (nmOf x) = some attr ∧ noGet (KK p) attr = true := by
  match x, hx with
  | 0, _ => exact ⟨by rfl, by rfl, none, by rfl, by rfl⟩
  | 1, _ => exact ⟨by rfl, by rfl, none, by rfl, by rfl⟩
  | 2, _ => exact ⟨by rfl, by rfl, none, by rfl, by rfl⟩
theorem set_all (p : Params) (x : Nat) (hx : x < 3) : findIn (KK p) (.ref 211) "__setattr__" = some (some (.builtin "object.__setattr__")) ∧ plainOverX (KK p) 211 = true ∧ takerIn (KK p) 211 (nmOf x) = some none := by
  match x, hx with
  | 0, _ => exact ⟨by rfl, by rfl, by rfl⟩
  | 1, _ => exact ⟨by rfl, by rfl, by rfl⟩
  | 2, _ => exact ⟨by rfl, by rfl, by rfl⟩
theorem Gd.wk (G : Gd prog w h mg mb) : WK (Wof prog w h mg mb) (KK w.params) where
  toWOk := G.wok
  kin := G.kin
  att := fun c x hc hx => by subst hc; exact att_all w.params x hx
  fault := ⟨by rfl, by rfl, by rfl, by rfl, none, by rfl, by rfl⟩
theorem Gd.set (G : Gd prog w h mg mb) : SetOk (Wof prog w h mg mb) (KK w.params) where
  st := fun c x hc hx => by subst hc; exact set_all w.params x hx
end
end Mine
end
/-! M38: the ground: the functions -/
section
set_option autoImplicit false
set_option linter.unusedVariables false
set_option linter.unusedSimpArgs false
set_option maxRecDepth 100000
namespace Mine
open PySem PySem.W PySem.Calls PyProof.Rows

section
variable {prog : Program} {w : World} {h : Heap} {mg mb : Str → Option Value}
theorem par_of {fd : FuncData} {nm : Nat → Str} {xs : List Nat} (h : (xs.all fun x => decide (fd.scope.names.lookup (nm x) = some .local ∨ fd.scope.names.lookup (nm x) = some .cell)) = true) : ∀ x ∈ xs, fd.scope.names.lookup (nm x) = some .local ∨ fd.scope.names.lookup (nm x) = some .cell := by
  intro x hx
  have := List.all_eq_true.mp h x hx
  simpa using this
theorem is_f_is_row_of : FnIs (Wof prog w h mg mb) (KK w.params) 100 f_is_row_of none := by
  refine ⟨by rfl, _, _, 60, ⟨⟨_, _, _, rfl⟩, rfl, rfl, rfl, rfl, rfl, rfl, rfl, by rfl, ?_, par_of (by rfl), by decide⟩, by rfl, fun l h => by cases h⟩
  intro vs h
  match vs, h with
  | [a, b], _ => rfl
theorem is_f_figures_behind : FnIs (Wof prog w h mg mb) (KK w.params) 107 f_figures_behind none := by
  refine ⟨by rfl, _, _, 60, ⟨⟨_, _, _, rfl⟩, rfl, rfl, rfl, rfl, rfl, rfl, rfl, by rfl, ?_, par_of (by rfl), by decide⟩, by rfl, fun l h => by cases h⟩
  intro vs h
  match vs, h with
  | [a, b], _ => rfl
theorem is_f_number_by : FnIs (Wof prog w h mg mb) (KK w.params) 114 f_number_by none := by
  refine ⟨by rfl, _, _, 60, ⟨⟨_, _, _, rfl⟩, rfl, rfl, rfl, rfl, rfl, rfl, rfl, by rfl, ?_, par_of (by rfl), by decide⟩, by rfl, fun l h => by cases h⟩
  intro vs h
  match vs, h with
  | [a], _ => rfl
theorem is_f_index_of : FnIs (Wof prog w h mg mb) (KK w.params) 121 f_index_of none := by
  refine ⟨by rfl, _, _, 60, ⟨⟨_, _, _, rfl⟩, rfl, rfl, rfl, rfl, rfl, rfl, rfl, by rfl, ?_, par_of (by rfl), by decide⟩, by rfl, fun l h => by cases h⟩
  intro vs h
  match vs, h with
  | [a], _ => rfl
theorem is_f_variable : FnIs (Wof prog w h mg mb) (KK w.params) 128 f_variable none := by
  refine ⟨by rfl, _, _, 60, ⟨⟨_, _, _, rfl⟩, rfl, rfl, rfl, rfl, rfl, rfl, rfl, by rfl, ?_, par_of (by rfl), by decide⟩, by rfl, fun l h => by cases h⟩
  intro vs h
  match vs, h with
  | [a], _ => rfl
theorem is_f_below : FnIs (Wof prog w h mg mb) (KK w.params) 135 f_below none := by
  refine ⟨by rfl, _, _, 60, ⟨⟨_, _, _, rfl⟩, rfl, rfl, rfl, rfl, rfl, rfl, rfl, by rfl, ?_, par_of (by rfl), by decide⟩, by rfl, fun l h => by cases h⟩
  intro vs h
  match vs, h with
  | [a], _ => rfl
theorem is_f_moved_within : FnIs (Wof prog w h mg mb) (KK w.params) 140 f_moved_within none := by
  refine ⟨by rfl, _, _, 60, ⟨⟨_, _, _, rfl⟩, rfl, rfl, rfl, rfl, rfl, rfl, rfl, by rfl, ?_, par_of (by rfl), by decide⟩, by rfl, fun l h => by cases h⟩
  intro vs h
  match vs, h with
  | [a, b, c, d], _ => rfl
theorem is_f_shifted : FnIs (Wof prog w h mg mb) (KK w.params) 147 f_shifted none := by
  refine ⟨by rfl, _, _, 60, ⟨⟨_, _, _, rfl⟩, rfl, rfl, rfl, rfl, rfl, rfl, rfl, by rfl, ?_, par_of (by rfl), by decide⟩, by rfl, fun l h => by cases h⟩
  intro vs h
  match vs, h with
  | [a, b, c], _ => rfl
theorem is_f_is_closed_below : FnIs (Wof prog w h mg mb) (KK w.params) 152 f_is_closed_below none := by
  refine ⟨by rfl, _, _, 60, ⟨⟨_, _, _, rfl⟩, rfl, rfl, rfl, rfl, rfl, rfl, rfl, by rfl, ?_, par_of (by rfl), by decide⟩, by rfl, fun l h => by cases h⟩
  intro vs h
  match vs, h with
  | [a, b], _ => rfl
theorem is_f_is_closed : FnIs (Wof prog w h mg mb) (KK w.params) 159 f_is_closed none := by
  refine ⟨by rfl, _, _, 60, ⟨⟨_, _, _, rfl⟩, rfl, rfl, rfl, rfl, rfl, rfl, rfl, by rfl, ?_, par_of (by rfl), by decide⟩, by rfl, fun l h => by cases h⟩
  intro vs h
  match vs, h with
  | [a], _ => rfl
theorem is_f_of_names : FnIs (Wof prog w h mg mb) (KK w.params) 222 f_of_names none := by
  refine ⟨by rfl, _, _, 60, ⟨⟨_, _, _, rfl⟩, rfl, rfl, rfl, rfl, rfl, rfl, rfl, by rfl, ?_, par_of (by rfl), by decide⟩, by rfl, fun l h => by cases h⟩
  intro vs h
  match vs, h with
  | [a], _ => rfl
theorem is_f_law_dip : FnIs (Wof prog w h mg mb) (KK w.params) 230 f_law_dip none := by
  refine ⟨by rfl, _, _, 60, ⟨⟨_, _, _, rfl⟩, rfl, rfl, rfl, rfl, rfl, rfl, rfl, by rfl, ?_, par_of (by rfl), by decide⟩, by rfl, fun l h => by cases h⟩
  intro vs h
  match vs, h with
  | [a, b], _ => rfl
theorem is_f_law_figures : FnIs (Wof prog w h mg mb) (KK w.params) 237 f_law_figures none := by
  refine ⟨by rfl, _, _, 60, ⟨⟨_, _, _, rfl⟩, rfl, rfl, rfl, rfl, rfl, rfl, rfl, by rfl, ?_, par_of (by rfl), by decide⟩, by rfl, fun l h => by cases h⟩
  intro vs h
  match vs, h with
  | [a], _ => rfl
theorem is_f_law_term : FnIs (Wof prog w h mg mb) (KK w.params) 244 f_law_term none := by
  refine ⟨by rfl, _, _, 60, ⟨⟨_, _, _, rfl⟩, rfl, rfl, rfl, rfl, rfl, rfl, rfl, by rfl, ?_, par_of (by rfl), by decide⟩, by rfl, fun l h => by cases h⟩
  intro vs h
  match vs, h with
  | [a, b, c, d], _ => rfl
theorem is_f_law_late : FnIs (Wof prog w h mg mb) (KK w.params) 258 f_law_late none := by
  refine ⟨by rfl, _, _, 60, ⟨⟨_, _, _, rfl⟩, rfl, rfl, rfl, rfl, rfl, rfl, rfl, by rfl, ?_, par_of (by rfl), by decide⟩, by rfl, fun l h => by cases h⟩
  intro vs h
  match vs, h with
  | [a, b, c], _ => rfl
theorem is_f_law_indexed : FnIs (Wof prog w h mg mb) (KK w.params) 263 f_law_indexed none := by
  refine ⟨by rfl, _, _, 60, ⟨⟨_, _, _, rfl⟩, rfl, rfl, rfl, rfl, rfl, rfl, rfl, by rfl, ?_, par_of (by rfl), by decide⟩, by rfl, fun l h => by cases h⟩
  intro vs h
  match vs, h with
  | [a, b, c], _ => rfl
theorem is_f_law_is_read : FnIs (Wof prog w h mg mb) (KK w.params) 268 f_law_is_read none := by
  refine ⟨by rfl, _, _, 60, ⟨⟨_, _, _, rfl⟩, rfl, rfl, rfl, rfl, rfl, rfl, rfl, by rfl, ?_, par_of (by rfl), by decide⟩, by rfl, fun l h => by cases h⟩
  intro vs h
  match vs, h with
  | [a], _ => rfl
theorem is_r_sign : FnIs (Wof prog w h mg mb) (KK w.params) 180 r_sign none := by
  refine ⟨by rfl, _, _, 60, ⟨⟨_, _, _, rfl⟩, rfl, rfl, rfl, rfl, rfl, rfl, rfl, by rfl, ?_, par_of (by rfl), by decide⟩, by rfl, fun l h => by cases h⟩
  intro vs h
  match vs, h with
  | [a], _ => rfl
theorem is_r_want : FnIs (Wof prog w h mg mb) (KK w.params) 187 r_want none := by
  refine ⟨by rfl, _, _, 60, ⟨⟨_, _, _, rfl⟩, rfl, rfl, rfl, rfl, rfl, rfl, rfl, by rfl, ?_, par_of (by rfl), by decide⟩, by rfl, fun l h => by cases h⟩
  intro vs h
  match vs, h with
  | [a, b], _ => rfl
theorem is_r_name : FnIs (Wof prog w h mg mb) (KK w.params) 194 r_name none := by
  refine ⟨by rfl, _, _, 60, ⟨⟨_, _, _, rfl⟩, rfl, rfl, rfl, rfl, rfl, rfl, rfl, by rfl, ?_, par_of (by rfl), by decide⟩, by rfl, fun l h => by cases h⟩
  intro vs h
  match vs, h with
  | [a], _ => rfl
theorem is_r_leaf : FnIs (Wof prog w h mg mb) (KK w.params) 201 r_leaf none := by
  refine ⟨by rfl, _, _, 60, ⟨⟨_, _, _, rfl⟩, rfl, rfl, rfl, rfl, rfl, rfl, rfl, by rfl, ?_, par_of (by rfl), by decide⟩, by rfl, fun l h => by cases h⟩
  intro vs h
  match vs, h with
  | [a], _ => rfl
theorem is_r_term : FnIs (Wof prog w h mg mb) (KK w.params) 208 r_term none := by
  refine ⟨by rfl, _, _, 60, ⟨⟨_, _, _, rfl⟩, rfl, rfl, rfl, rfl, rfl, rfl, rfl, by rfl, ?_, par_of (by rfl), by decide⟩, by rfl, fun l h => by cases h⟩
  intro vs h
  match vs, h with
  | [a, b], _ => rfl
theorem is_r_init : FnIs (Wof prog w h mg mb) (KK w.params) 173 r_init none := by
  refine ⟨by rfl, _, _, 60, ⟨⟨_, _, _, rfl⟩, rfl, rfl, rfl, rfl, rfl, rfl, rfl, by rfl, ?_, par_of (by rfl), by decide⟩, by rfl, fun l h => by cases h⟩
  intro vs h
  match vs, h with
  | [a, b], _ => rfl
theorem is_f_law : FnIs (Wof prog w h mg mb) (KK w.params) 273 f_law (some 272) := by
  refine ⟨by rfl, _, _, 60, ⟨⟨_, _, _, rfl⟩, rfl, rfl, rfl, rfl, rfl, rfl, rfl, by rfl, ?_, par_of (by rfl), by decide⟩, by rfl, fun l h => by cases h; rfl⟩
  intro vs h
  match vs, h with
  | [a], _ => rfl
end
end Mine
end
/-! M39: the ground: the exceptions -/
section
set_option autoImplicit false
set_option linter.unusedVariables false
set_option linter.unusedSimpArgs false
set_option maxRecDepth 100000
namespace Mine
open PySem PySem.W PySem.Calls PyProof.Rows
section
variable {prog : Program} {w : World} {h : Heap} {mg mb : Str → Option Value}
theorem sup_heap (G : Gd prog w h mg mb) : ∃ fd p0 p1 ap p2 cp ep q0 q1 q2 q3, SupAt (Wof prog w h mg mb) (KK w.params) 30 40 18 fd [.Expr (.Call (.Attribute (.Call (.Name "super" p0) [] [] p1) "__init__" ap) [.Name "what" p2] [] cp) ep, .Assign [.Attribute (.Name "self" q0) "what" q1] (.Name "what" q2) q3] ∧ (ap.endLine == cp.line) = true ∧ ∀ a b, bindArgs fd ⟨[a, b], []⟩ = pure [(("self" : Str), a), (("what" : Str), b)] := by
  refine ⟨_, _, _, _, _, _, _, _, _, _, _, ⟨⟨_, _, _, rfl⟩, rfl, rfl, rfl, rfl, rfl, rfl, rfl, ⟨_, _, _, rfl⟩, rfl, ⟨_, _, _, _, _, _, _, rfl, rfl, rfl, G.file⟩, rfl, rfl, rfl, rfl, rfl, ?_, G.top, ?_, ?_, ⟨_, rfl⟩, rfl⟩, rfl, fun a b => rfl⟩
  · decide
  · exact mg_none_of G.X G.g (by rfl)
  · exact (G.bu _ (by decide +kernel)).trans (by rfl)
theorem sup_text (G : Gd prog w h mg mb) : ∃ fd p0 p1 ap p2 cp ep q0 q1 q2 q3, SupAt (Wof prog w h mg mb) (KK w.params) 59 69 47 fd [.Expr (.Call (.Attribute (.Call (.Name "super" p0) [] [] p1) "__init__" ap) [.Name "what" p2] [] cp) ep, .Assign [.Attribute (.Name "self" q0) "spot" q1] (.Name "spot" q2) q3] ∧ (ap.endLine == cp.line) = true ∧ fd.scope.names.lookup ("spot" : Str) = some .local ∧ ∀ a b c, bindArgs fd ⟨[a, b, c], []⟩ = pure [(("self" : Str), a), (("what" : Str), b), (("spot" : Str), c)] := by
  refine ⟨_, _, _, _, _, _, _, _, _, _, _, ⟨⟨_, _, _, rfl⟩, rfl, rfl, rfl, rfl, rfl, rfl, rfl, ⟨_, _, _, rfl⟩, rfl, ⟨_, _, _, _, _, _, _, rfl, rfl, rfl, G.file⟩, rfl, rfl, rfl, rfl, rfl, ?_, G.top, ?_, ?_, ⟨_, rfl⟩, rfl⟩, rfl, rfl, fun a b c => rfl⟩
  · decide
  · exact mg_none_of G.X G.g (by rfl)
  · exact (G.bu _ (by decide +kernel)).trans (by rfl)
theorem make_93 (p : Params) : MakeAt (KK p) 93 40 30 30 where
  obj := by refine ⟨_, _, _, _, _, _, _, _, _, _, _, _, _, _, _, _, rfl, ?_, ?_, ?_⟩ <;> rfl
  ini := rfl
  fn := rfl
  kc := ⟨rfl, rfl, rfl, rfl, rfl, rfl, rfl⟩
  sup := ⟨_, rfl, rfl⟩
theorem make_81 (p : Params) : MakeAt (KK p) 81 40 30 30 where
  obj := by refine ⟨_, _, _, _, _, _, _, _, _, _, _, _, _, _, _, _, rfl, ?_, ?_, ?_⟩ <;> rfl
  ini := rfl
  fn := rfl
  kc := ⟨rfl, rfl, rfl, rfl, rfl, rfl, rfl⟩
  sup := ⟨_, rfl, rfl⟩
theorem make_69 (p : Params) : MakeAt (KK p) 69 40 59 30 where
  obj := by refine ⟨_, _, _, _, _, _, _, _, _, _, _, _, _, _, _, _, rfl, ?_, ?_, ?_⟩ <;> rfl
  ini := rfl
  fn := rfl
  kc := ⟨rfl, rfl, rfl, rfl, rfl, rfl, rfl⟩
  sup := ⟨_, rfl, rfl⟩
theorem Gd.raise3 (G : Gd prog w h mg mb) {k : Nat} (hk : 4 ≤ k) {p : PV} : RaiseOk (Wof prog w h mg mb) k (.ref 93) [p] ⟨3, none⟩ := by
  obtain ⟨fd, p0, p1, ap, p2, cp, ep, q0, q1, q2, q3, S, hl, hb⟩ := sup_heap G
  exact raise0 G.wk S (make_93 _) rfl hl hb hk
theorem Gd.raise4 (G : Gd prog w h mg mb) {k : Nat} (hk : 4 ≤ k) {p : PV} : RaiseOk (Wof prog w h mg mb) k (.ref 81) [p] ⟨4, none⟩ := by
  obtain ⟨fd, p0, p1, ap, p2, cp, ep, q0, q1, q2, q3, S, hl, hb⟩ := sup_heap G
  exact raise0 G.wk S (make_81 _) rfl hl hb hk
theorem Gd.raise5 (G : Gd prog w h mg mb) {k : Nat} (hk : 4 ≤ k) {p : PV} {i : Int} : RaiseOk (Wof prog w h mg mb) k (.ref 69) [p, .int i] ⟨5, some i⟩ := by
  obtain ⟨fd, p0, p1, ap, p2, cp, ep, q0, q1, q2, q3, S, hl, hb⟩ := sup_heap G
  obtain ⟨fd', P0, P1, AP, P2, CP, EP, Q0, Q1, Q2, Q3, S', hl', hs', hb'⟩ := sup_text G
  exact raise1 G.wk S S' rfl ⟨_, rfl, rfl⟩ rfl ⟨_, rfl, rfl⟩ hl' hs' hb' rfl (make_69 _) rfl hl hb hk
theorem exc_cls (c : Nat) (hc : c = 3 ∨ c = 4 ∨ c = 5) : (Wof prog w h mg mb).mg = mg ∧ keepIn (KK w.params) (.ref (clsOf c)) = true ∧ ExcCls (Wof prog w h mg mb) (KK w.params) c := by
  rcases hc with rfl | rfl | rfl
  · exact ⟨rfl, rfl, rfl, rfl, rfl⟩
  · exact ⟨rfl, rfl, rfl, rfl, rfl⟩
  · exact ⟨rfl, rfl, rfl, rfl, rfl⟩
end
end Mine
end
/-! M40: the ground: the whole text -/
section
set_option autoImplicit false
set_option linter.unusedVariables false
set_option linter.unusedSimpArgs false
set_option maxRecDepth 100000
namespace Mine
open PySem PySem.W PySem.Calls PyProof.Rows
section
variable {prog : Program} {w : World} {h : Heap} {mg mb : Str → Option Value}
theorem Gd.bat (G : Gd prog w h mg mb) : (hideAll h [270]).BuiltinsAt mg 270 := by
  obtain ⟨bm, ob, h1, h2, h3, h4, h5, h6⟩ := G.bm
  have n1 : bm ≠ 270 := fun z => by
    rw [z, G.tab] at h3
    cases h3
    cases h4
  have n2 : bm ≠ mainGlobals := fun z => by
    obtain ⟨o, es, ep, e, hd, _⟩ := G.g
    rw [z, e] at h3
    cases h3
    rw [h6] at hd; cases hd
  exact ⟨bm, ob, h1, h2, n2, n1, G.old bm ob n1 h3, h4, h5, h6⟩
theorem is_heard : ∃ fdH bodyH, FnAt (Wof prog w h mg mb) (KK w.params) 251 fdH [55] bodyH ∧ chkHeard (Wof prog w h mg mb).nm 55 bodyH = true ∧ fdH.scope.names.lookup ((Wof prog w h mg mb).nm 55) = some .local ∧ fdH.scope.names.lookup ((Wof prog w h mg mb).nm 3) = some .globalImplicit ∧ fdH.scope.names.lookup ((Wof prog w h mg mb).nm 4) = some .globalImplicit := by
  refine ⟨_, _, ⟨⟨_, _, _, rfl⟩, rfl, rfl, rfl, rfl, rfl, rfl, rfl, by rfl, ?_, par_of (by rfl), by decide⟩, by rfl, by rfl, by rfl, by rfl⟩
  intro vs h
  match vs, h with
  | [a], _ => rfl
theorem Gd.law (G : Gd prog w h mg mb) : ∃ HA fdH ask bodyH, LawOk (Wof prog w h mg mb) (KK w.params) HA fdH ask bodyH := by
  obtain ⟨fdH, bodyH, F, hb, k1, k2, k3⟩ := is_heard (prog := prog) (w := w) (h := h) (mg := mg) (mb := mb)
  exact ⟨251, fdH, 55, bodyH, {
    hd := codeHd_of_K G.kin (by rfl)
    ba := G.bat
    hmg := mg_of G.X G.g (by rfl)
    keep := by rfl
    fn := F
    body := hb
    kask := k1
    k3 := k2
    k4 := k3
    g3 := mg_of G.X G.g (by rfl)
    g4 := mg_of G.X G.g (by rfl)
    c3 := (exc_cls 3 (.inl rfl)).2.2
    c4 := (exc_cls 4 (.inr (.inl rfl))).2.2
    m43 := by rfl }⟩
theorem Gd.world (G : Gd prog w h mg mb) : World_ (Wof prog w h mg mb) (KK w.params) := ⟨G.wk, G.set, G.law⟩
theorem Gd.gstr (G : Gd prog w h mg mb) {x : Nat} {s : List Nat} {t : Tok} (e : nsIn (KK w.params) mainGlobals (nmOf x) = some (some (.str ⟨s.toArray⟩ t))) : ∃ v, mg (nmOf x) = some v ∧ RelV false Lo.nil (hideAll h [270]) v (.str s) := ⟨_, mg_of G.X G.g e, t, rfl⟩
theorem Gd.gint (G : Gd prog w h mg mb) {x : Nat} {i : Int} {t : Tok} (e : nsIn (KK w.params) mainGlobals (nmOf x) = some (some (.int i t))) : ∃ v, mg (nmOf x) = some v ∧ RelV false Lo.nil (hideAll h [270]) v (.int i) := ⟨_, mg_of G.X G.g e, t, rfl⟩
theorem Gd.glo (G : Gd prog w h mg mb) : ∀ x p, gloT x = some p → ∃ v, (Wof prog w h mg mb).mg ((Wof prog w h mg mb).nm x) = some v ∧ RelV false Lo.nil (Wof prog w h mg mb).b0 v p := by
  intro x p e
  unfold gloT at e
  split at e <;> cases e
  · exact G.gstr (x := 17) (t := _) (by rfl)
  · exact G.gint (x := 24) (t := _) (by rfl)
  · exact G.gstr (x := 35) (t := _) (by rfl)
  · exact G.gint (x := 42) (t := _) (by rfl)
  · refine ⟨_, mg_of G.X G.g (v := .ref _) (by rfl), _, _, rfl, by simp [own, ownT, Lo.nil], ⟨_, G.kin _ _ rfl, rfl, _, rfl⟩, ?_⟩
    exact ⟨⟨_, rfl⟩, ⟨_, rfl⟩, ⟨_, rfl⟩, ⟨_, rfl⟩, ⟨_, rfl⟩, ⟨_, rfl⟩, ⟨_, rfl⟩, ⟨_, rfl⟩, ⟨_, rfl⟩, ⟨_, rfl⟩, ⟨_, rfl⟩, ⟨_, rfl⟩, trivial⟩
end
end Mine
end
/-! M41: the text's functions stand as the evaluator has them -/
section
set_option autoImplicit false
set_option linter.unusedVariables false
set_option linter.unusedSimpArgs false
set_option maxRecDepth 100000
namespace Mine
open PySem PySem.W PySem.Calls PyProof.Rows
section
variable {prog : Program} {w : World} {h : Heap} {mg mb : Str → Option Value}
theorem Gd.fns (G : Gd prog w h mg mb) : ∀ f d, fnTab f = some d → ∃ a, mg (nmOf f) = some (.ref a) ∧ FnIs (Wof prog w h mg mb) (KK w.params) a d none := by
  intro f d e
  unfold fnTab at e
  split at e <;> cases e
  · exact ⟨100, mg_of G.X G.g (n := nmOf 12) (by rfl), is_f_is_row_of⟩
  · exact ⟨107, mg_of G.X G.g (n := nmOf 15) (by rfl), is_f_figures_behind⟩
  · exact ⟨114, mg_of G.X G.g (n := nmOf 19) (by rfl), is_f_number_by⟩
  · exact ⟨121, mg_of G.X G.g (n := nmOf 21) (by rfl), is_f_index_of⟩
  · exact ⟨128, mg_of G.X G.g (n := nmOf 23) (by rfl), is_f_variable⟩
  · exact ⟨135, mg_of G.X G.g (n := nmOf 25) (by rfl), is_f_below⟩
  · exact ⟨140, mg_of G.X G.g (n := nmOf 27) (by rfl), is_f_moved_within⟩
  · exact ⟨147, mg_of G.X G.g (n := nmOf 29) (by rfl), is_f_shifted⟩
  · exact ⟨152, mg_of G.X G.g (n := nmOf 31) (by rfl), is_f_is_closed_below⟩
  · exact ⟨159, mg_of G.X G.g (n := nmOf 32) (by rfl), is_f_is_closed⟩
  · exact ⟨222, mg_of G.X G.g (n := nmOf 40) (by rfl), is_f_of_names⟩
  · exact ⟨230, mg_of G.X G.g (n := nmOf 45) (by rfl), is_f_law_dip⟩
  · exact ⟨237, mg_of G.X G.g (n := nmOf 46) (by rfl), is_f_law_figures⟩
  · exact ⟨244, mg_of G.X G.g (n := nmOf 52) (by rfl), is_f_law_term⟩
  · exact ⟨258, mg_of G.X G.g (n := nmOf 57) (by rfl), is_f_law_late⟩
  · exact ⟨263, mg_of G.X G.g (n := nmOf 60) (by rfl), is_f_law_indexed⟩
  · exact ⟨268, mg_of G.X G.g (n := nmOf 62) (by rfl), is_f_law_is_read⟩
theorem Gd.mts (G : Gd prog w h mg mb) : ∀ m d, mtTab m = some d → ∃ a, findIn (KK w.params) (.ref 211) (nmOf m) = some (some (.ref a)) ∧ isFn (KK w.params) (.ref a) = true ∧ plainGet (KK w.params) 211 (nmOf m) = true ∧ FnIs (Wof prog w h mg mb) (KK w.params) a d none := by
  intro m d e
  unfold mtTab at e
  split at e <;> cases e
  · exact ⟨180, by rfl, by rfl, by rfl, is_r_sign⟩
  · exact ⟨187, by rfl, by rfl, by rfl, is_r_want⟩
  · exact ⟨194, by rfl, by rfl, by rfl, is_r_name⟩
  · exact ⟨201, by rfl, by rfl, by rfl, is_r_leaf⟩
  · exact ⟨208, by rfl, by rfl, by rfl, is_r_term⟩
theorem Gd.prg (G : Gd prog w h mg mb) : Prg (Wof prog w h mg mb) (KK w.params) gloT where
  w := G.world
  glo := G.glo
  fn := G.fns
  mt := G.mts
  rec_ := ⟨mg_of G.X G.g (n := nmOf 6) (by rfl), by rfl, by rfl, 173, by rfl, by rfl, is_r_init⟩
  ex := by
    rintro c (rfl | rfl | rfl)
    · refine ⟨mg_of G.X G.g (n := nmOf 3) (by rfl), by rfl, (exc_cls 3 (.inl rfl)).2.2, fun k args x hk e => ?_⟩
      match args, e with
      | [a], e => cases e; exact G.raise3 hk
    · refine ⟨mg_of G.X G.g (n := nmOf 4) (by rfl), by rfl, (exc_cls 4 (.inr (.inl rfl))).2.2, fun k args x hk e => ?_⟩
      match args, e with
      | [a], e => cases e; exact G.raise4 hk
    · refine ⟨mg_of G.X G.g (n := nmOf 5) (by rfl), by rfl, (exc_cls 5 (.inr (.inr rfl))).2.2, fun k args x hk e => ?_⟩
      match args, e with
      | [a, .int i], e => cases e; exact G.raise5 hk
end
end Mine
end
/-! L4: rules to run a text by -/
section
set_option autoImplicit false
set_option linter.unusedVariables false
set_option linter.unusedSimpArgs false
set_option maxRecDepth 100000
namespace Mine
open PySem
theorem lev_q (k : Nat) : (lev gloT k).q = false := by cases k <;> rfl
theorem lev_top (k : Nat) : (lev gloT k).top = false := by cases k <;> rfl
theorem lev_glo (k : Nat) : (lev gloT k).glo = gloT := by cases k <;> rfl
theorem lev_kx (k c : Nat) : (lev gloT (k + 2)).kx c = (c == 3 || c == 4 || c == 5) := by
  show ((c == 3 || c == 4 || c == 5) && Nat.ble 2 (k + 2)) = _
  rw [show Nat.ble 2 (k + 2) = true from Nat.ble_eq.mpr (by omega)]
  simp
theorem lev_exc (k : Nat) : (lev gloT (k + 1)).exc = excTab := rfl
theorem lev_kn (k f : Nat) : (lev gloT (k + 1)).kn f = (f == 6 || (fnTab f).isSome) := rfl
theorem lev_km (k c m : Nat) : (lev gloT (k + 1)).km c m = (c == 6 && (mtTab m).isSome) := rfl
theorem lev_fn {k f : Nat} {d : List Nat × List CS} (h6 : f ≠ 6) (h : fnTab f = some d) (args : List PV) (σ : Store) : (lev gloT (k + 1)).fn f args σ = runFn (lev gloT k) d args σ := by
  show (if f = 6 then _ else _) = _
  rw [if_neg h6, h]
theorem lev_meth {k m : Nat} {d : List Nat × List CS} (h : mtTab m = some d) (c j : Nat) (args : List PV) (σ : Store) : (lev gloT (k + 1)).meth c m j args σ = runFn (lev gloT k) d (.ref j :: args) σ := by
  show (match mtTab m with | some d => _ | none => _) = _
  rw [h]
def atL {α : Type} (o : Option PO) (f : List PV → Option α) : Option α := match o with
  | some (.lst l) => f l
  | _ => none
def atI {α : Type} (o : Option PO) (f : List (Nat × PV) → Option α) : Option α := match o with
  | some (.inst c l) => if c = 6 then f l else none
  | _ => none
theorem atL_some {α : Type} {l : List PV} {f : List PV → Option α} : atL (some (.lst l)) f = f l := rfl
theorem atI_some {α : Type} {l : List (Nat × PV)} {f : List (Nat × PV) → Option α} : atI (some (.inst 6 l)) f = f l := rfl
def outOf (m : Option RS) : Option (R PV) := m.map resOf
theorem run_eq {Φ : Sig} {f : List Nat × List CS} {args : List PV} {σ : Store} (h : args.length = f.1.length) : runFn Φ f args σ = outOf (EXs Φ f.2 (f.1.zip args) σ) := by
  unfold runFn
  rw [if_pos h]; rfl
section
variable {σ : Store} {ρ : Loc} {v : PV} {px : PX}
theorem out_nxt : outOf (some (.nxt ρ σ)) = some (.ok .none σ) := rfl
theorem out_ret : outOf (some (.ret v ρ σ)) = some (.ok v σ) := rfl
theorem out_exc : outOf (some (.exc px ρ σ)) = some (.exc px σ) := rfl
end
section
variable {σ : Store} {x y : Int} {s t : List Nat} {l m : List PV} {k : Nat} {a b : PV}
theorem excOf_ret {ρ : Loc} {v : PV} {f : PX → Loc → Store → Option RS} : excOf (some (.ret v ρ σ)) f = some (.ret v ρ σ) := rfl
theorem kn_isSome {f : Nat} {d : List Nat × List CS} (h : fnTab f = some d) : (fnTab f).isSome = true := by rw [h]; rfl
theorem add_int : binop .Add (.int x) (.int y) = some (.int (x + y)) := rfl
theorem add_str : binop .Add (.str s) (.str t) = if s.length + t.length ≤ SZ then some (.str (s ++ t)) else none := rfl
theorem add_tup : binop .Add (.tup l) (.tup m) = if l.length + m.length ≤ SZ then some (.tup (l ++ m)) else none := rfl
theorem sub_int : binop .Sub (.int x) (.int y) = some (.int (x - y)) := rfl
theorem mul_int : binop .Mult (.int x) (.int y) = if x.natAbs < IB ∧ y.natAbs < IB then some (.int (x * y)) else none := rfl
theorem mul_str {c : Nat} : binop .Mult (.str [c]) (.int y) = if 0 ≤ y ∧ y ≤ SZ then some (.str (List.replicate y.toNat c)) else .none := rfl
theorem mod_int : binop .Mod (.int x) (.int y) = if 0 < y then some (.int (x.fmod y)) else .none := rfl
theorem neg_int : negop (.int x) = some (.int (-x)) := rfl
theorem eq_op : cmpop .Eq a b = eqv a b := rfl
theorem ne_op : cmpop .NotEq a b = (eqv a b).map not := rfl
theorem lt_op : cmpop .Lt (.int x) (.int y) = some (decide (x < y)) := rfl
theorem le_op : cmpop .LtE (.int x) (.int y) = some (decide (x ≤ y)) := rfl
theorem gt_op : cmpop .Gt (.int x) (.int y) = some (decide (y < x)) := rfl
theorem ge_op : cmpop .GtE (.int x) (.int y) = some (decide (y ≤ x)) := rfl
theorem is_nn : cmpop .Is .none .none = some true := rfl
theorem is_in : cmpop .Is (.int x) .none = some false := rfl
theorem isnot_nn : cmpop .IsNot .none .none = some false := rfl
theorem isnot_in : cmpop .IsNot (.int x) .none = some true := rfl
theorem in_str {c : Nat} : cmpop .In (.str [c]) (.str t) = some (t.contains c) := rfl
theorem notin_str {c : Nat} : cmpop .NotIn (.str [c]) (.str t) = some (!t.contains c) := rfl
theorem in_lst : cmpop .In .none (.lst l) = noneIn l := rfl
theorem eq_int : eqv (.int x) (.int y) = some (x == y) := rfl
theorem eq_strs : eqv (.str s) (.str t) = some (s == t) := rfl
theorem sub_tup : subop σ (.tup l) (.int x) = seqAt l x := rfl
theorem sub_lst : subop σ (.lst l) (.int x) = seqAt l x := rfl
theorem sub_str : subop σ (.str s) (.int x) = if 0 ≤ x ∧ s.length ≤ SZ then (s[x.toNat]?).map fun c => .str [c] else .none := rfl
theorem sub_ref : subop σ (.ref k) (.int x) = atL σ[k]? fun l => seqAt l x := rfl
theorem truth_bool {c : Bool} : truth (.bool c) = some c := rfl
theorem isNil_lst : isNil σ (.lst l) = some l.isEmpty := rfl
theorem isNil_ref : isNil σ (.ref k) = atL σ[k]? fun l => some l.isEmpty := rfl
theorem attr_ref {at' sp : Nat} : attrop σ (.ref k) at' sp = atI σ[k]? fun q => lk q at' := rfl
theorem attr_exn : attrop σ (.exn x) 0 spotName = some (.int x) := rfl
theorem len_str : biop .len [.str s] σ = if s.length ≤ SZ then some (.int s.length) else .none := rfl
theorem len_tup : biop .len [.tup l] σ = if l.length ≤ SZ then some (.int l.length) else .none := rfl
theorem len_lst : biop .len [.lst l] σ = if l.length ≤ SZ then some (.int l.length) else .none := rfl
theorem len_ref : biop .len [.ref k] σ = atL σ[k]? fun l => if l.length ≤ SZ then some (.int l.length) else .none := rfl
theorem int_str : biop .int [.str s] σ = if s ≠ [] ∧ s.length ≤ 18 ∧ s.all isDig = true then some (.int (numOf s)) else .none := rfl
theorem str_int : biop .str [.int x] σ = if x.natAbs < 1000000000000000000 then some (.str (digs x)) else .none := rfl
theorem range_int : biop .range [.int x] σ = if x.natAbs ≤ SZ then some (.rng x) else .none := rfl
theorem max_int : biop .max [.int x, .int y] σ = some (.int (if x < y then y else x)) := rfl
theorem tuple_lst : biop .tuple [.lst l] σ = if l.length ≤ SZ then some (.tup l) else .none := rfl
theorem list_lst : biop .list [.lst l] σ = if l.length ≤ SZ then some (.lst l) else .none := rfl
theorem slice_from : sliceop (.str s) (some (.int x)) none = if s.length ≤ SZ then (if 0 ≤ x ∧ x ≤ SZ then some (.str (s.drop x.toNat)) else .none) else .none := by
  unfold sliceop
  simp only [bound, cut]
  split
  · by_cases h : 0 ≤ x ∧ x ≤ SZ
    · simp [h]
    · simp [h]
  · rfl
theorem slice_to : sliceop (.str s) none (some (.int x)) = if s.length ≤ SZ then (if 0 ≤ x ∧ x ≤ SZ then some (.str (s.take x.toNat)) else .none) else .none := by
  unfold sliceop
  simp only [bound, cut]
  split
  · by_cases h : 0 ≤ x ∧ x ≤ SZ
    · simp [h]
    · simp [h]
  · rfl
theorem slice_both : sliceop (.str s) (some (.int x)) (some (.int y)) = if s.length ≤ SZ then (if 0 ≤ x ∧ x ≤ SZ ∧ 0 ≤ y ∧ y ≤ SZ then some (.str ((s.take y.toNat).drop x.toNat)) else .none) else .none := by
  unfold sliceop
  simp only [bound, cut]
  split
  · by_cases h : 0 ≤ x ∧ x ≤ SZ
    · by_cases h' : 0 ≤ y ∧ y ≤ SZ
      · simp [h, h']
      · simp [h, h']
    · simp [h]
      intro h1 h2
      exact absurd ⟨h1, h2⟩ h
  · rfl
theorem bound_int {d : Nat} : bound d (some (.int x)) = if 0 ≤ x ∧ x ≤ SZ then some x.toNat else .none := rfl
theorem slice_tup : sliceop (.tup l) (some (.int x)) none = if l.length ≤ SZ then (if 1 ≤ x ∧ x ≤ l.length then some (.tup (l.drop x.toNat)) else .none) else .none := rfl
theorem slice_lst : sliceop (.lst l) none (some (.int x)) = if l.length ≤ SZ then (if 0 ≤ x ∧ x ≤ SZ then some (.lst (l.take x.toNat)) else .none) else .none := rfl
theorem setLst_ref : setLst σ k x a = atL σ[k]? fun l => if 0 ≤ x ∧ x.toNat < l.length ∧ l.length ≤ SZ then some (σ.set k (.lst (l.set x.toNat a))) else .none := rfl
theorem setAtt_ref {at' : Nat} : setAtt σ k at' a = atI σ[k]? fun q => if q.length < 90 then some (σ.set k (.inst 6 (setL q at' a))) else .none := by
  unfold setAtt atI
  rcases σ[k]? with _ | (_ | ⟨c, q⟩ | _) <;> try rfl
  dsimp only
  by_cases hc : c = 6
  · subst hc; simp
  · simp [hc]
theorem excTab3 : excTab 3 [a] = some ⟨3, none⟩ := rfl
theorem excTab4 : excTab 4 [a] = some ⟨4, none⟩ := rfl
theorem excTab5 : excTab 5 [a, .int x] = some ⟨5, some x⟩ := rfl
end
theorem kn_12 (k : Nat) : (lev gloT (k + 1)).kn 12 = true := rfl
theorem fn_12 (k : Nat) (args : List PV) (σ : Store) (h : args.length = f_is_row_of.1.length) : (lev gloT (k + 1)).fn 12 args σ = outOf (EXs (lev gloT k) f_is_row_of.2 (f_is_row_of.1.zip args) σ) := (lev_fn (by decide) rfl args σ).trans (run_eq h)
theorem kn_15 (k : Nat) : (lev gloT (k + 1)).kn 15 = true := rfl
theorem fn_15 (k : Nat) (args : List PV) (σ : Store) (h : args.length = f_figures_behind.1.length) : (lev gloT (k + 1)).fn 15 args σ = outOf (EXs (lev gloT k) f_figures_behind.2 (f_figures_behind.1.zip args) σ) := (lev_fn (by decide) rfl args σ).trans (run_eq h)
theorem kn_19 (k : Nat) : (lev gloT (k + 1)).kn 19 = true := rfl
theorem fn_19 (k : Nat) (args : List PV) (σ : Store) (h : args.length = f_number_by.1.length) : (lev gloT (k + 1)).fn 19 args σ = outOf (EXs (lev gloT k) f_number_by.2 (f_number_by.1.zip args) σ) := (lev_fn (by decide) rfl args σ).trans (run_eq h)
theorem kn_21 (k : Nat) : (lev gloT (k + 1)).kn 21 = true := rfl
theorem fn_21 (k : Nat) (args : List PV) (σ : Store) (h : args.length = f_index_of.1.length) : (lev gloT (k + 1)).fn 21 args σ = outOf (EXs (lev gloT k) f_index_of.2 (f_index_of.1.zip args) σ) := (lev_fn (by decide) rfl args σ).trans (run_eq h)
theorem kn_23 (k : Nat) : (lev gloT (k + 1)).kn 23 = true := rfl
theorem fn_23 (k : Nat) (args : List PV) (σ : Store) (h : args.length = f_variable.1.length) : (lev gloT (k + 1)).fn 23 args σ = outOf (EXs (lev gloT k) f_variable.2 (f_variable.1.zip args) σ) := (lev_fn (by decide) rfl args σ).trans (run_eq h)
theorem kn_25 (k : Nat) : (lev gloT (k + 1)).kn 25 = true := rfl
theorem fn_25 (k : Nat) (args : List PV) (σ : Store) (h : args.length = f_below.1.length) : (lev gloT (k + 1)).fn 25 args σ = outOf (EXs (lev gloT k) f_below.2 (f_below.1.zip args) σ) := (lev_fn (by decide) rfl args σ).trans (run_eq h)
theorem kn_27 (k : Nat) : (lev gloT (k + 1)).kn 27 = true := rfl
theorem fn_27 (k : Nat) (args : List PV) (σ : Store) (h : args.length = f_moved_within.1.length) : (lev gloT (k + 1)).fn 27 args σ = outOf (EXs (lev gloT k) f_moved_within.2 (f_moved_within.1.zip args) σ) := (lev_fn (by decide) rfl args σ).trans (run_eq h)
theorem kn_29 (k : Nat) : (lev gloT (k + 1)).kn 29 = true := rfl
theorem fn_29 (k : Nat) (args : List PV) (σ : Store) (h : args.length = f_shifted.1.length) : (lev gloT (k + 1)).fn 29 args σ = outOf (EXs (lev gloT k) f_shifted.2 (f_shifted.1.zip args) σ) := (lev_fn (by decide) rfl args σ).trans (run_eq h)
theorem kn_31 (k : Nat) : (lev gloT (k + 1)).kn 31 = true := rfl
theorem fn_31 (k : Nat) (args : List PV) (σ : Store) (h : args.length = f_is_closed_below.1.length) : (lev gloT (k + 1)).fn 31 args σ = outOf (EXs (lev gloT k) f_is_closed_below.2 (f_is_closed_below.1.zip args) σ) := (lev_fn (by decide) rfl args σ).trans (run_eq h)
theorem kn_32 (k : Nat) : (lev gloT (k + 1)).kn 32 = true := rfl
theorem fn_32 (k : Nat) (args : List PV) (σ : Store) (h : args.length = f_is_closed.1.length) : (lev gloT (k + 1)).fn 32 args σ = outOf (EXs (lev gloT k) f_is_closed.2 (f_is_closed.1.zip args) σ) := (lev_fn (by decide) rfl args σ).trans (run_eq h)
theorem kn_40 (k : Nat) : (lev gloT (k + 1)).kn 40 = true := rfl
theorem fn_40 (k : Nat) (args : List PV) (σ : Store) (h : args.length = f_of_names.1.length) : (lev gloT (k + 1)).fn 40 args σ = outOf (EXs (lev gloT k) f_of_names.2 (f_of_names.1.zip args) σ) := (lev_fn (by decide) rfl args σ).trans (run_eq h)
theorem kn_45 (k : Nat) : (lev gloT (k + 1)).kn 45 = true := rfl
theorem fn_45 (k : Nat) (args : List PV) (σ : Store) (h : args.length = f_law_dip.1.length) : (lev gloT (k + 1)).fn 45 args σ = outOf (EXs (lev gloT k) f_law_dip.2 (f_law_dip.1.zip args) σ) := (lev_fn (by decide) rfl args σ).trans (run_eq h)
theorem kn_46 (k : Nat) : (lev gloT (k + 1)).kn 46 = true := rfl
theorem fn_46 (k : Nat) (args : List PV) (σ : Store) (h : args.length = f_law_figures.1.length) : (lev gloT (k + 1)).fn 46 args σ = outOf (EXs (lev gloT k) f_law_figures.2 (f_law_figures.1.zip args) σ) := (lev_fn (by decide) rfl args σ).trans (run_eq h)
theorem kn_52 (k : Nat) : (lev gloT (k + 1)).kn 52 = true := rfl
theorem fn_52 (k : Nat) (args : List PV) (σ : Store) (h : args.length = f_law_term.1.length) : (lev gloT (k + 1)).fn 52 args σ = outOf (EXs (lev gloT k) f_law_term.2 (f_law_term.1.zip args) σ) := (lev_fn (by decide) rfl args σ).trans (run_eq h)
theorem kn_57 (k : Nat) : (lev gloT (k + 1)).kn 57 = true := rfl
theorem fn_57 (k : Nat) (args : List PV) (σ : Store) (h : args.length = f_law_late.1.length) : (lev gloT (k + 1)).fn 57 args σ = outOf (EXs (lev gloT k) f_law_late.2 (f_law_late.1.zip args) σ) := (lev_fn (by decide) rfl args σ).trans (run_eq h)
theorem kn_60 (k : Nat) : (lev gloT (k + 1)).kn 60 = true := rfl
theorem fn_60 (k : Nat) (args : List PV) (σ : Store) (h : args.length = f_law_indexed.1.length) : (lev gloT (k + 1)).fn 60 args σ = outOf (EXs (lev gloT k) f_law_indexed.2 (f_law_indexed.1.zip args) σ) := (lev_fn (by decide) rfl args σ).trans (run_eq h)
theorem kn_62 (k : Nat) : (lev gloT (k + 1)).kn 62 = true := rfl
theorem fn_62 (k : Nat) (args : List PV) (σ : Store) (h : args.length = f_law_is_read.1.length) : (lev gloT (k + 1)).fn 62 args σ = outOf (EXs (lev gloT k) f_law_is_read.2 (f_law_is_read.1.zip args) σ) := (lev_fn (by decide) rfl args σ).trans (run_eq h)
theorem kn_6 (k : Nat) : (lev gloT (k + 1)).kn 6 = true := rfl
theorem km_13 (k : Nat) : (lev gloT (k + 1)).km 6 13 = true := rfl
theorem mt_13 (k c j : Nat) (args : List PV) (σ : Store) (h : (PV.ref j :: args).length = r_sign.1.length) : (lev gloT (k + 1)).meth c 13 j args σ = outOf (EXs (lev gloT k) r_sign.2 (r_sign.1.zip (.ref j :: args)) σ) := (lev_meth rfl c j args σ).trans (run_eq h)
theorem km_33 (k : Nat) : (lev gloT (k + 1)).km 6 33 = true := rfl
theorem mt_33 (k c j : Nat) (args : List PV) (σ : Store) (h : (PV.ref j :: args).length = r_want.1.length) : (lev gloT (k + 1)).meth c 33 j args σ = outOf (EXs (lev gloT k) r_want.2 (r_want.1.zip (.ref j :: args)) σ) := (lev_meth rfl c j args σ).trans (run_eq h)
theorem km_34 (k : Nat) : (lev gloT (k + 1)).km 6 34 = true := rfl
theorem mt_34 (k c j : Nat) (args : List PV) (σ : Store) (h : (PV.ref j :: args).length = r_name.1.length) : (lev gloT (k + 1)).meth c 34 j args σ = outOf (EXs (lev gloT k) r_name.2 (r_name.1.zip (.ref j :: args)) σ) := (lev_meth rfl c j args σ).trans (run_eq h)
theorem km_36 (k : Nat) : (lev gloT (k + 1)).km 6 36 = true := rfl
theorem mt_36 (k c j : Nat) (args : List PV) (σ : Store) (h : (PV.ref j :: args).length = r_leaf.1.length) : (lev gloT (k + 1)).meth c 36 j args σ = outOf (EXs (lev gloT k) r_leaf.2 (r_leaf.1.zip (.ref j :: args)) σ) := (lev_meth rfl c j args σ).trans (run_eq h)
theorem km_37 (k : Nat) : (lev gloT (k + 1)).km 6 37 = true := rfl
theorem mt_37 (k c j : Nat) (args : List PV) (σ : Store) (h : (PV.ref j :: args).length = r_term.1.length) : (lev gloT (k + 1)).meth c 37 j args σ = outOf (EXs (lev gloT k) r_term.2 (r_term.1.zip (.ref j :: args)) σ) := (lev_meth rfl c j args σ).trans (run_eq h)
theorem kx_3 (k : Nat) : (lev gloT (k + 2)).kx 3 = true := by rw [lev_kx]; rfl
theorem kx_4 (k : Nat) : (lev gloT (k + 2)).kx 4 = true := by rw [lev_kx]; rfl
theorem kx_5 (k : Nat) : (lev gloT (k + 2)).kx 5 = true := by rw [lev_kx]; rfl
end Mine
end
/-! L5: draws -/
section
set_option autoImplicit false
set_option linter.unusedVariables false
set_option linter.unusedSimpArgs false
set_option maxRecDepth 100000
namespace Mine
open PySem
/-- the store with the law's feed -/
def fd (T : List Nat) (s : List Int) (p : Nat) (tl : Store) : Store := .tab T :: .lst [.lst (s.map .int), .int p] :: tl
section
variable {T : List Nat} {s : List Int} {p : Nat} {tl : Store}
theorem fd_get0 : (fd T s p tl)[0]? = some (.tab T) := rfl
theorem fd_get1 : (fd T s p tl)[1]? = some (.lst [.lst (s.map .int), .int p]) := rfl
theorem fd_get2 : (fd T s p tl)[2]? = tl[0]? := rfl
theorem fd_get3 : (fd T s p tl)[3]? = tl[1]? := rfl
theorem fd_get4 : (fd T s p tl)[4]? = tl[2]? := rfl
theorem fd_get5 : (fd T s p tl)[5]? = tl[3]? := rfl
theorem fd_get (i : Nat) : (fd T s p tl)[i + 2]? = tl[i]? := rfl
theorem fd_set0 {x : List Nat} : (fd T s p tl).set 0 (.tab x) = fd x s p tl := rfl
theorem fd_set2 {v : PO} : (fd T s p tl).set 2 v = fd T s p (tl.set 0 v) := rfl
theorem fd_set3 {v : PO} : (fd T s p tl).set 3 v = fd T s p (tl.set 1 v) := rfl
theorem fd_set4 {v : PO} : (fd T s p tl).set 4 v = fd T s p (tl.set 2 v) := rfl
theorem fd_set {i : Nat} {v : PO} : (fd T s p tl).set (i + 2) v = fd T s p (tl.set i v) := rfl
theorem fd_len : (fd T s p tl).length = tl.length + 2 := rfl
theorem fd_e2 (h : 2 < (fd T s p tl).length) : (fd T s p tl)[2] = tl[0]'(by simp [fd] at h; omega) := rfl
theorem fd_e3 (h : 3 < (fd T s p tl).length) : (fd T s p tl)[3] = tl[1]'(by simp [fd] at h; omega) := rfl
theorem fd_e4 (h : 4 < (fd T s p tl).length) : (fd T s p tl)[4] = tl[2]'(by simp [fd] at h; omega) := rfl
theorem fd_e5 (h : 5 < (fd T s p tl).length) : (fd T s p tl)[5] = tl[3]'(by simp [fd] at h; omega) := rfl
theorem fd_app {l : Store} : fd T s p tl ++ l = fd T s p (tl ++ l) := rfl
end
theorem dip_ok (k : Nat) (T : List Nat) (s : List Int) (p : Nat) (tl : Store) (many : Int) (hm : 0 < many) (hp : p < 1000) (hs : s.length ≤ 40) :
    ∃ d : Nat, (d : Int) < many ∧ (lev gloT (k + 1)).fn 45 [.ref 1, .int many] (fd T s p tl) = some (.ok (.int d) (fd T s (p + 1) tl)) := by
  rw [fn_45 _ _ _ rfl]
  have hsz : s.length ≤ 100000 := by omega
  have e : ∀ x : Int, ∃ d : Nat, (d : Int) < many ∧ x.fmod many = d := fun x => ⟨(x.fmod many).toNat, by have := Int.fmod_lt_of_pos x hm; have := Int.fmod_nonneg_of_pos x hm; omega, by have := Int.fmod_nonneg_of_pos x hm; omega⟩
  by_cases hps : p < s.length
  · obtain ⟨d, hd, hd'⟩ := e s[p]
    refine ⟨d, hd, ?_⟩
    simp [f_law_dip, fd, EV_loc, EV_glo, EV_cnone, EV_cbool, EV_cint, EV_cstr, EV_neg, EV_not, EV_bin, EV_cmp, EV_cmpNil, EV_bop, EV_ite, EV_tup, EV_lst, EV_sub, EV_slice, EV_call, EV_bi, EV_meth, EV_mdig, EV_mjoin, EV_mapp, EV_mpop, EV_attr, EV_fstr, EV_fstrs, EV_comp, ET_not, ET_bop, ET_ite, ET_cmp, ET_cmpNil, ET_loc, ET_call, ET_mdig, ETs_nil, ETs_cons, EB_one, EB_cons, EVs_nil, EVs_cons, EO_none, EO_some, EX_asg, EX_asgT, EX_seta, EX_seti, EX_exp, EX_ret, EX_iff, EX_forr, EX_whil, EX_rais, EX_tryy, EXs_nil, EXs_cons, bnd_okL, bnd_exc, bndE_okL, bndE_exc, rok_someL, nextOf_nxt, nextOf_ret, nextOf_exc, excOf_nxt, excOf_exc, excOf_ret, lk, setL, setLs, capture, resOf, lev_q, lev_top, lev_glo, lev_exc, kn_12, kn_15, kn_19, kn_21, kn_23, kn_25, kn_27, kn_29, kn_31, kn_32, kn_40, kn_45, kn_46, kn_52, kn_57, kn_60, kn_62, kn_6, km_13, km_33, km_34, km_36, km_37, kx_3, kx_4, kx_5, add_int, add_str, add_tup, sub_int, mul_int, mul_str, mod_int, neg_int, eq_op, ne_op, lt_op, le_op, gt_op, ge_op, is_nn, is_in, isnot_nn, isnot_in, in_str, notin_str, in_lst, sub_tup, sub_lst, sub_str, truth_bool, isNil_lst, attr_exn, len_str, len_tup, len_lst, int_str, str_int, range_int, max_int, tuple_lst, list_lst, slice_from, slice_to, slice_both, bound_int, slice_tup, slice_lst, eq_int, eq_strs, excTab3, excTab4, excTab5, seqAt, SZ, IB, atL_some, atI_some, out_nxt, out_ret, out_exc, sub_ref, isNil_ref, attr_ref, len_ref, setLst_ref, setAtt_ref, hps, hsz, hm, hd']
  · obtain ⟨d, hd, hd'⟩ := e ((7 * p * p + 5 * p + s.length : Int).fmod 107)
    refine ⟨d, hd, ?_⟩
    have h1 : (7 * (p : Int)).natAbs < 4294967296 := by omega
    have h2 : p < 4294967296 := by omega
    simp [f_law_dip, fd, EV_loc, EV_glo, EV_cnone, EV_cbool, EV_cint, EV_cstr, EV_neg, EV_not, EV_bin, EV_cmp, EV_cmpNil, EV_bop, EV_ite, EV_tup, EV_lst, EV_sub, EV_slice, EV_call, EV_bi, EV_meth, EV_mdig, EV_mjoin, EV_mapp, EV_mpop, EV_attr, EV_fstr, EV_fstrs, EV_comp, ET_not, ET_bop, ET_ite, ET_cmp, ET_cmpNil, ET_loc, ET_call, ET_mdig, ETs_nil, ETs_cons, EB_one, EB_cons, EVs_nil, EVs_cons, EO_none, EO_some, EX_asg, EX_asgT, EX_seta, EX_seti, EX_exp, EX_ret, EX_iff, EX_forr, EX_whil, EX_rais, EX_tryy, EXs_nil, EXs_cons, bnd_okL, bnd_exc, bndE_okL, bndE_exc, rok_someL, nextOf_nxt, nextOf_ret, nextOf_exc, excOf_nxt, excOf_exc, excOf_ret, lk, setL, setLs, capture, resOf, lev_q, lev_top, lev_glo, lev_exc, kn_12, kn_15, kn_19, kn_21, kn_23, kn_25, kn_27, kn_29, kn_31, kn_32, kn_40, kn_45, kn_46, kn_52, kn_57, kn_60, kn_62, kn_6, km_13, km_33, km_34, km_36, km_37, kx_3, kx_4, kx_5, add_int, add_str, add_tup, sub_int, mul_int, mul_str, mod_int, neg_int, eq_op, ne_op, lt_op, le_op, gt_op, ge_op, is_nn, is_in, isnot_nn, isnot_in, in_str, notin_str, in_lst, sub_tup, sub_lst, sub_str, truth_bool, isNil_lst, attr_exn, len_str, len_tup, len_lst, int_str, str_int, range_int, max_int, tuple_lst, list_lst, slice_from, slice_to, slice_both, bound_int, slice_tup, slice_lst, eq_int, eq_strs, excTab3, excTab4, excTab5, seqAt, SZ, IB, atL_some, atI_some, out_nxt, out_ret, out_exc, sub_ref, isNil_ref, attr_ref, len_ref, setLst_ref, setAtt_ref, hps, hsz, hm, hd', h1, h2]
end Mine
end
/-! L6: figures -/
section
set_option autoImplicit false
set_option linter.unusedVariables false
set_option linter.unusedSimpArgs false
set_option maxRecDepth 100000
namespace Mine
open PySem
structure FigOk (f : List Nat) : Prop where
  ne : f ≠ []
  dig : f.all isDig = true
  lead : f.head? = some 48 → f = [48]
  len : f.length ≤ 4310
  can : f.length ≤ 9 → digs (numOf f : Int) = f
def idxOf (f : List Nat) : PV := if f.length ≤ 9 then .int (numOf f) else .none
theorem digs_one (d : Nat) (h : d ≤ 9) : digs (d : Int) = [48 + d] := by
  match d, h with
  | 0, _ => decide +kernel
  | 1, _ => decide +kernel
  | 2, _ => decide +kernel
  | 3, _ => decide +kernel
  | 4, _ => decide +kernel
  | 5, _ => decide +kernel
  | 6, _ => decide +kernel
  | 7, _ => decide +kernel
  | 8, _ => decide +kernel
  | 9, _ => decide +kernel
def widths : List PV := [.int 1, .int 1, .int 2, .int 3, .int 8, .int 9, .int 9, .int 9, .int 10, .int 10, .int 12, .int 4310]
theorem width_at (d : Nat) (h : (d : Int) < 12) : ∃ w : Nat, 1 ≤ w ∧ w ≤ 4310 ∧ seqAt widths (d : Int) = some (.int w) := by
  match d, h with
  | 0, _ => exact ⟨1, by decide, by decide, rfl⟩
  | 1, _ => exact ⟨1, by decide, by decide, rfl⟩
  | 2, _ => exact ⟨2, by decide, by decide, rfl⟩
  | 3, _ => exact ⟨3, by decide, by decide, rfl⟩
  | 4, _ => exact ⟨8, by decide, by decide, rfl⟩
  | 5, _ => exact ⟨9, by decide, by decide, rfl⟩
  | 6, _ => exact ⟨9, by decide, by decide, rfl⟩
  | 7, _ => exact ⟨9, by decide, by decide, rfl⟩
  | 8, _ => exact ⟨10, by decide, by decide, rfl⟩
  | 9, _ => exact ⟨10, by decide, by decide, rfl⟩
  | 10, _ => exact ⟨12, by decide, by decide, rfl⟩
  | 11, _ => exact ⟨4310, by decide, by decide, rfl⟩
  | d + 12, h => exact absurd h (by omega)
theorem can_all : ∀ w ∈ [2, 3, 4, 5, 6, 7, 8, 9], ∀ d ∈ [0, 1, 2, 3, 4, 5, 6, 7, 8], ∀ c ∈ [48, 57, 53], digs (numOf ((48 + (1 + d)) :: List.replicate (w - 1) c) : Int) = (48 + (1 + d)) :: List.replicate (w - 1) c := by decide +kernel
theorem can_one : ∀ d ∈ [0, 1, 2, 3, 4, 5, 6, 7, 8], digs (numOf [48 + d] : Int) = [48 + d] := by decide +kernel
theorem sign_at (d : Nat) (h : (d : Int) < 3) : ∃ c : Nat, c ∈ [48, 57, 53] ∧ isDig c = true ∧ seqAt [.str [48], .str [57], .str [53]] (d : Int) = some (.str [c]) := by
  match d, h with
  | 0, _ => exact ⟨48, by decide, by decide, rfl⟩
  | 1, _ => exact ⟨57, by decide, by decide, rfl⟩
  | 2, _ => exact ⟨53, by decide, by decide, rfl⟩
  | d + 3, h => exact absurd h (by omega)
theorem figures_ok (k : Nat) (T : List Nat) (s : List Int) (p : Nat) (tl : Store) (hp : p < 990) (hs : s.length ≤ 40) :
    ∃ f : List Nat, FigOk f ∧ (lev gloT (k + 2)).fn 46 [.ref 1] (fd T s p tl) = some (.ok (.tup [.str f, idxOf f]) (fd T s (p + 3) tl)) := by
  rw [fn_46 _ _ _ rfl]
  obtain ⟨d1, h1, e1⟩ := dip_ok k T s p tl 12 (by omega) (by omega) hs
  obtain ⟨d2, h2, e2⟩ := dip_ok k T s (p + 1) tl 9 (by omega) (by omega) hs
  obtain ⟨d3, h3, e3⟩ := dip_ok k T s (p + 1 + 1) tl 3 (by omega) (by omega) hs
  obtain ⟨w, hw1, hw2, ew⟩ := width_at d1 h1
  obtain ⟨c, hcm, hc, ec⟩ := sign_at d3 h3
  have hdm : d2 ∈ [0, 1, 2, 3, 4, 5, 6, 7, 8] := by simp; omega
  have eg : gloT 48 = some (.tup widths) := rfl
  have ed := digs_one d2 (by omega)
  have ed' := digs_one (1 + d2) (by omega)
  rw [Int.natCast_add, Int.natCast_one] at ed'
  have hd2 : d2 < 1000000000000000000 := by omega
  by_cases w1 : w = 1
  · subst w1
    refine ⟨[48 + d2], ⟨by simp, by simp [isDig]; omega, fun h => by simpa using h, by simp, fun _ => can_one d2 hdm⟩, ?_⟩
    simp [f_law_figures, EV_loc, EV_glo, EV_cnone, EV_cbool, EV_cint, EV_cstr, EV_neg, EV_not, EV_bin, EV_cmp, EV_cmpNil, EV_bop, EV_ite, EV_tup, EV_lst, EV_sub, EV_slice, EV_call, EV_bi, EV_meth, EV_mdig, EV_mjoin, EV_mapp, EV_mpop, EV_attr, EV_fstr, EV_fstrs, EV_comp, ET_not, ET_bop, ET_ite, ET_cmp, ET_cmpNil, ET_loc, ET_call, ET_mdig, ETs_nil, ETs_cons, EB_one, EB_cons, EVs_nil, EVs_cons, EO_none, EO_some, EX_asg, EX_asgT, EX_seta, EX_seti, EX_exp, EX_ret, EX_iff, EX_forr, EX_whil, EX_rais, EX_tryy, EXs_nil, EXs_cons, bnd_okL, bnd_exc, bndE_okL, bndE_exc, rok_someL, nextOf_nxt, nextOf_ret, nextOf_exc, excOf_nxt, excOf_exc, excOf_ret, lk, setL, setLs, capture, resOf, lev_q, lev_top, lev_glo, lev_exc, kn_12, kn_15, kn_19, kn_21, kn_23, kn_25, kn_27, kn_29, kn_31, kn_32, kn_40, kn_45, kn_46, kn_52, kn_57, kn_60, kn_62, kn_6, km_13, km_33, km_34, km_36, km_37, kx_3, kx_4, kx_5, add_int, add_str, add_tup, sub_int, mul_int, mul_str, mod_int, neg_int, eq_op, ne_op, lt_op, le_op, gt_op, ge_op, is_nn, is_in, isnot_nn, isnot_in, in_str, notin_str, in_lst, sub_tup, sub_lst, sub_str, truth_bool, isNil_lst, attr_exn, len_str, len_tup, len_lst, int_str, str_int, range_int, max_int, tuple_lst, list_lst, slice_from, slice_to, slice_both, bound_int, slice_tup, slice_lst, eq_int, eq_strs, excTab3, excTab4, excTab5, SZ, IB, atL_some, atI_some, out_nxt, out_ret, out_exc, sub_ref, isNil_ref, attr_ref, len_ref, setLst_ref, setAtt_ref, e1, e2, e3, ew, ec, eg, ed, hd2, idxOf, numOf]
  · have h3 : ¬ (w : Int) = 1 := by omega
    have h4 : ((1 : Int) + d2).natAbs < 1000000000000000000 := by omega
    have h5 : (0 : Int) ≤ (w : Int) - 1 ∧ (w : Int) - 1 ≤ 100000 := by omega
    have h6 : ((w : Int) - 1).toNat = w - 1 := by omega
    have h8 : 1 + (w - 1) = w := by omega
    have h9 : w ≤ 100000 := by omega
    have h14 : (1 : Int) ≤ w := by omega
    have h15 : (w : Int) ≤ 100001 := by omega
    have hdig : isDig (48 + (1 + d2)) = true := by simp [isDig]; omega
    refine ⟨(48 + (1 + d2)) :: List.replicate (w - 1) c, ⟨by simp, ?_, fun h => ?_, by simp; omega, fun h => can_all w (by simp at h; simp; omega) d2 hdm c hcm⟩, ?_⟩
    · simp [hc, hdig]
    · simp at h
    · by_cases w9 : w < 10
      · have h10 : w - 1 + 1 ≤ 9 := by omega
        have w9i : (w : Int) < 10 := by omega
        have h11 : w - 1 + 1 ≤ 18 := by omega
        have h12 : w - 1 ≤ 17 := by omega
        have h13 : w - 1 ≤ 8 := by omega
        simp [f_law_figures, EV_loc, EV_glo, EV_cnone, EV_cbool, EV_cint, EV_cstr, EV_neg, EV_not, EV_bin, EV_cmp, EV_cmpNil, EV_bop, EV_ite, EV_tup, EV_lst, EV_sub, EV_slice, EV_call, EV_bi, EV_meth, EV_mdig, EV_mjoin, EV_mapp, EV_mpop, EV_attr, EV_fstr, EV_fstrs, EV_comp, ET_not, ET_bop, ET_ite, ET_cmp, ET_cmpNil, ET_loc, ET_call, ET_mdig, ETs_nil, ETs_cons, EB_one, EB_cons, EVs_nil, EVs_cons, EO_none, EO_some, EX_asg, EX_asgT, EX_seta, EX_seti, EX_exp, EX_ret, EX_iff, EX_forr, EX_whil, EX_rais, EX_tryy, EXs_nil, EXs_cons, bnd_okL, bnd_exc, bndE_okL, bndE_exc, rok_someL, nextOf_nxt, nextOf_ret, nextOf_exc, excOf_nxt, excOf_exc, excOf_ret, lk, setL, setLs, capture, resOf, lev_q, lev_top, lev_glo, lev_exc, kn_12, kn_15, kn_19, kn_21, kn_23, kn_25, kn_27, kn_29, kn_31, kn_32, kn_40, kn_45, kn_46, kn_52, kn_57, kn_60, kn_62, kn_6, km_13, km_33, km_34, km_36, km_37, kx_3, kx_4, kx_5, add_int, add_str, add_tup, sub_int, mul_int, mul_str, mod_int, neg_int, eq_op, ne_op, lt_op, le_op, gt_op, ge_op, is_nn, is_in, isnot_nn, isnot_in, in_str, notin_str, in_lst, sub_tup, sub_lst, sub_str, truth_bool, isNil_lst, attr_exn, len_str, len_tup, len_lst, int_str, str_int, range_int, max_int, tuple_lst, list_lst, slice_from, slice_to, slice_both, bound_int, slice_tup, slice_lst, eq_int, eq_strs, excTab3, excTab4, excTab5, SZ, IB, atL_some, atI_some, out_nxt, out_ret, out_exc, sub_ref, isNil_ref, attr_ref, len_ref, setLst_ref, setAtt_ref, e1, e2, e3, ew, ec, eg, ed', h3, h4, h5, h6, h14, h15, h8, h9, w9, w9i, idxOf, h10, h11, h12, h13, hc, hdig]
      · have h10 : ¬ (w - 1 + 1 ≤ 9) := by omega
        have w9i : ¬ (w : Int) < 10 := by omega
        have h13 : ¬ (w - 1 ≤ 8) := by omega
        simp [f_law_figures, EV_loc, EV_glo, EV_cnone, EV_cbool, EV_cint, EV_cstr, EV_neg, EV_not, EV_bin, EV_cmp, EV_cmpNil, EV_bop, EV_ite, EV_tup, EV_lst, EV_sub, EV_slice, EV_call, EV_bi, EV_meth, EV_mdig, EV_mjoin, EV_mapp, EV_mpop, EV_attr, EV_fstr, EV_fstrs, EV_comp, ET_not, ET_bop, ET_ite, ET_cmp, ET_cmpNil, ET_loc, ET_call, ET_mdig, ETs_nil, ETs_cons, EB_one, EB_cons, EVs_nil, EVs_cons, EO_none, EO_some, EX_asg, EX_asgT, EX_seta, EX_seti, EX_exp, EX_ret, EX_iff, EX_forr, EX_whil, EX_rais, EX_tryy, EXs_nil, EXs_cons, bnd_okL, bnd_exc, bndE_okL, bndE_exc, rok_someL, nextOf_nxt, nextOf_ret, nextOf_exc, excOf_nxt, excOf_exc, excOf_ret, lk, setL, setLs, capture, resOf, lev_q, lev_top, lev_glo, lev_exc, kn_12, kn_15, kn_19, kn_21, kn_23, kn_25, kn_27, kn_29, kn_31, kn_32, kn_40, kn_45, kn_46, kn_52, kn_57, kn_60, kn_62, kn_6, km_13, km_33, km_34, km_36, km_37, kx_3, kx_4, kx_5, add_int, add_str, add_tup, sub_int, mul_int, mul_str, mod_int, neg_int, eq_op, ne_op, lt_op, le_op, gt_op, ge_op, is_nn, is_in, isnot_nn, isnot_in, in_str, notin_str, in_lst, sub_tup, sub_lst, sub_str, truth_bool, isNil_lst, attr_exn, len_str, len_tup, len_lst, int_str, str_int, range_int, max_int, tuple_lst, list_lst, slice_from, slice_to, slice_both, bound_int, slice_tup, slice_lst, eq_int, eq_strs, excTab3, excTab4, excTab5, SZ, IB, atL_some, atI_some, out_nxt, out_ret, out_exc, sub_ref, isNil_ref, attr_ref, len_ref, setLst_ref, setAtt_ref, e1, e2, e3, ew, ec, eg, ed', h3, h4, h5, h6, h14, h15, h8, h9, w9, w9i, idxOf, h10, h13]
end Mine
end
/-! L7: the drawn term -/
section
set_option autoImplicit false
set_option linter.unusedVariables false
set_option linter.unusedSimpArgs false
set_option maxRecDepth 100000
namespace Mine
open PySem
inductive Tm where
  | var (f : List Nat)
  | oth (s : List Nat)
  | lam (t : Tm)
  | app (l r : Tm)
def sVar : List Nat := [118, 97, 114]
def sLam : List Nat := [108, 97, 109]
def sApp : List Nat := [97, 112, 112]
def Tm.rep : Tm → PV
  | .var f => .tup [.str (sVar ++ f)]
  | .oth s => .tup [.str s]
  | .lam t => .tup [.str sLam, t.rep]
  | .app l r => .tup [.str sApp, l.rep, r.rep]
def Tm.lvs : Tm → Nat → List (List Nat × Nat)
  | .var f, a => [(f, a)]
  | .oth _, _ => []
  | .lam t, a => t.lvs (a + 1)
  | .app l r, a => l.lvs a ++ r.lvs a
def rowOf (x : List Nat × Nat) : PV := .tup [idxOf x.1, .int x.2]
def oths : List (List Nat) := [[97], [118, 97, 114], [118, 97, 114, 48, 49], [118, 97, 114, 45, 49], [118, 97, 114, 105, 97, 98, 108, 101], [118, 97, 114, 50, 120]]
def Tm.ok : Tm → Prop
  | .var f => FigOk f
  | .oth s => s ∈ oths
  | .lam t => t.ok
  | .app l r => l.ok ∧ r.ok
def Tm.dep : Tm → Nat
  | .var _ => 0
  | .oth _ => 0
  | .lam t => t.dep + 1
  | .app l r => max l.dep r.dep + 1
def cst : Nat → Nat
  | 0 => 5
  | d + 1 => 5 + 2 * cst d
theorem oth_at (d : Nat) (h : (d : Int) < 6) : ∃ s, s ∈ oths ∧ seqAt [.tup [.str [97]], .tup [.str [118, 97, 114]], .tup [.str [118, 97, 114, 48, 49]], .tup [.str [118, 97, 114, 45, 49]], .tup [.str [118, 97, 114, 105, 97, 98, 108, 101]], .tup [.str [118, 97, 114, 50, 120]]] (d : Int) = some (.tup [.str s]) := by
  match d, h with
  | 0, _ => exact ⟨_, by decide, rfl⟩
  | 1, _ => exact ⟨_, by decide, rfl⟩
  | 2, _ => exact ⟨_, by decide, rfl⟩
  | 3, _ => exact ⟨_, by decide, rfl⟩
  | 4, _ => exact ⟨_, by decide, rfl⟩
  | 5, _ => exact ⟨_, by decide, rfl⟩
  | d + 6, h => exact absurd h (by omega)
theorem way_ok (k deep : Nat) (T : List Nat) (s : List Int) (p : Nat) (tl : Store) (a b : PV) (hp : p < 990) (hs : s.length ≤ 40) :
    ∃ w : Nat, w < 5 ∧ (deep = 0 → w < 2) ∧ EV (lev gloT (k + 1)) (.ite (.cmp .Gt (.loc 50) (.cint 0)) (.call 45 [(.loc 43), (.cint 5)]) (.call 45 [(.loc 43), (.cint 2)])) [(43, .ref 1), (50, .int deep), (2, a), (51, b)] (fd T s p tl) = some (.ok (.int w) (fd T s (p + 1) tl)) := by
  by_cases hd : deep = 0
  · obtain ⟨d, h1, e1⟩ := dip_ok k T s p tl 2 (by omega) (by omega) hs
    refine ⟨d, by omega, fun _ => by omega, ?_⟩
    subst hd
    simp [EV_loc, EV_glo, EV_cnone, EV_cbool, EV_cint, EV_cstr, EV_neg, EV_not, EV_bin, EV_cmp, EV_cmpNil, EV_bop, EV_ite, EV_tup, EV_lst, EV_sub, EV_slice, EV_call, EV_bi, EV_meth, EV_mdig, EV_mjoin, EV_mapp, EV_mpop, EV_attr, EV_fstr, EV_fstrs, EV_comp, ET_not, ET_bop, ET_ite, ET_cmp, ET_cmpNil, ET_loc, ET_call, ET_mdig, ETs_nil, ETs_cons, EB_one, EB_cons, EVs_nil, EVs_cons, EO_none, EO_some, EX_asg, EX_asgT, EX_seta, EX_seti, EX_exp, EX_ret, EX_iff, EX_forr, EX_whil, EX_rais, EX_tryy, EXs_nil, EXs_cons, bnd_okL, bnd_exc, bndE_okL, bndE_exc, rok_someL, nextOf_nxt, nextOf_ret, nextOf_exc, excOf_nxt, excOf_exc, excOf_ret, lk, setL, setLs, capture, resOf, lev_q, lev_top, lev_glo, lev_exc, kn_12, kn_15, kn_19, kn_21, kn_23, kn_25, kn_27, kn_29, kn_31, kn_32, kn_40, kn_45, kn_46, kn_52, kn_57, kn_60, kn_62, kn_6, km_13, km_33, km_34, km_36, km_37, kx_3, kx_4, kx_5, add_int, add_str, add_tup, sub_int, mul_int, mul_str, mod_int, neg_int, eq_op, ne_op, lt_op, le_op, gt_op, ge_op, is_nn, is_in, isnot_nn, isnot_in, in_str, notin_str, in_lst, sub_tup, sub_lst, sub_str, truth_bool, isNil_lst, attr_exn, len_str, len_tup, len_lst, int_str, str_int, range_int, max_int, tuple_lst, list_lst, slice_from, slice_to, slice_both, bound_int, slice_tup, slice_lst, eq_int, eq_strs, excTab3, excTab4, excTab5, seqAt, SZ, IB, atL_some, atI_some, out_nxt, out_ret, out_exc, sub_ref, isNil_ref, attr_ref, len_ref, setLst_ref, setAtt_ref, e1]
  · obtain ⟨d, h1, e1⟩ := dip_ok k T s p tl 5 (by omega) (by omega) hs
    refine ⟨d, by omega, fun h => absurd h hd, ?_⟩
    have : 0 < deep := by omega
    simp [EV_loc, EV_glo, EV_cnone, EV_cbool, EV_cint, EV_cstr, EV_neg, EV_not, EV_bin, EV_cmp, EV_cmpNil, EV_bop, EV_ite, EV_tup, EV_lst, EV_sub, EV_slice, EV_call, EV_bi, EV_meth, EV_mdig, EV_mjoin, EV_mapp, EV_mpop, EV_attr, EV_fstr, EV_fstrs, EV_comp, ET_not, ET_bop, ET_ite, ET_cmp, ET_cmpNil, ET_loc, ET_call, ET_mdig, ETs_nil, ETs_cons, EB_one, EB_cons, EVs_nil, EVs_cons, EO_none, EO_some, EX_asg, EX_asgT, EX_seta, EX_seti, EX_exp, EX_ret, EX_iff, EX_forr, EX_whil, EX_rais, EX_tryy, EXs_nil, EXs_cons, bnd_okL, bnd_exc, bndE_okL, bndE_exc, rok_someL, nextOf_nxt, nextOf_ret, nextOf_exc, excOf_nxt, excOf_exc, excOf_ret, lk, setL, setLs, capture, resOf, lev_q, lev_top, lev_glo, lev_exc, kn_12, kn_15, kn_19, kn_21, kn_23, kn_25, kn_27, kn_29, kn_31, kn_32, kn_40, kn_45, kn_46, kn_52, kn_57, kn_60, kn_62, kn_6, km_13, km_33, km_34, km_36, km_37, kx_3, kx_4, kx_5, add_int, add_str, add_tup, sub_int, mul_int, mul_str, mod_int, neg_int, eq_op, ne_op, lt_op, le_op, gt_op, ge_op, is_nn, is_in, isnot_nn, isnot_in, in_str, notin_str, in_lst, sub_tup, sub_lst, sub_str, truth_bool, isNil_lst, attr_exn, len_str, len_tup, len_lst, int_str, str_int, range_int, max_int, tuple_lst, list_lst, slice_from, slice_to, slice_both, bound_int, slice_tup, slice_lst, eq_int, eq_strs, excTab3, excTab4, excTab5, seqAt, SZ, IB, atL_some, atI_some, out_nxt, out_ret, out_exc, sub_ref, isNil_ref, attr_ref, len_ref, setLst_ref, setAtt_ref, e1, this]
theorem leaf_ok (k deep : Nat) (T : List Nat) (s : List Int) (tl : Store) (hs : s.length ≤ 40) (around p : Nat) (rws : List PV) (hp : p < 980) (hr : rws.length ≤ 4) (w : Nat) (hw : w < 2) :
    ∃ t : Tm, ∃ p' : Nat, t.ok ∧ t.dep = 0 ∧ p' ≤ p + 3 ∧ (rws ++ (t.lvs around).map rowOf).length ≤ 4 ∧
      outOf (EXs (lev gloT (k + 2)) f_law_term.2.tail [(43, .ref 1), (50, .int deep), (2, .int around), (51, .ref 2), (53, .int w)] (fd T s p (.lst rws :: tl))) = some (.ok t.rep (fd T s p' (.lst (rws ++ (t.lvs around).map rowOf) :: tl))) := by
  have h1 : rws.length ≤ 100000 := by omega
  by_cases c1 : w = 0 ∧ rws.length < 4
  · obtain ⟨f, hf, ef⟩ := figures_ok k T s p (.lst rws :: tl) (by omega) hs
    refine ⟨.var f, p + 3, hf, rfl, by omega, by simp [Tm.lvs]; omega, ?_⟩
    have h2 : f.length ≤ 99990 := by have := hf.len; omega
    have h3 : f.length + 3 ≤ 100000 := by omega
    have h4 : 3 + f.length ≤ 100000 := by omega
    obtain ⟨rfl, c2⟩ := c1
    have c3 : (rws.length : Int) < 4 := by omega
    simp [f_law_term, EV_loc, EV_glo, EV_cnone, EV_cbool, EV_cint, EV_cstr, EV_neg, EV_not, EV_bin, EV_cmp, EV_cmpNil, EV_bop, EV_ite, EV_tup, EV_lst, EV_sub, EV_slice, EV_call, EV_bi, EV_meth, EV_mdig, EV_mjoin, EV_mapp, EV_mpop, EV_attr, EV_fstr, EV_fstrs, EV_comp, ET_not, ET_bop, ET_ite, ET_cmp, ET_cmpNil, ET_loc, ET_call, ET_mdig, ETs_nil, ETs_cons, EB_one, EB_cons, EVs_nil, EVs_cons, EO_none, EO_some, EX_asg, EX_asgT, EX_seta, EX_seti, EX_exp, EX_ret, EX_iff, EX_forr, EX_whil, EX_rais, EX_tryy, EXs_nil, EXs_cons, bnd_okL, bnd_exc, bndE_okL, bndE_exc, rok_someL, nextOf_nxt, nextOf_ret, nextOf_exc, excOf_nxt, excOf_exc, excOf_ret, lk, setL, setLs, capture, resOf, lev_q, lev_top, lev_glo, lev_exc, kn_12, kn_15, kn_19, kn_21, kn_23, kn_25, kn_27, kn_29, kn_31, kn_32, kn_40, kn_45, kn_46, kn_52, kn_57, kn_60, kn_62, kn_6, km_13, km_33, km_34, km_36, km_37, kx_3, kx_4, kx_5, add_int, add_str, add_tup, sub_int, mul_int, mul_str, mod_int, neg_int, eq_op, ne_op, lt_op, le_op, gt_op, ge_op, is_nn, is_in, isnot_nn, isnot_in, in_str, notin_str, in_lst, sub_tup, sub_lst, sub_str, truth_bool, isNil_lst, attr_exn, len_str, len_tup, len_lst, int_str, str_int, range_int, max_int, tuple_lst, list_lst, slice_from, slice_to, slice_both, bound_int, slice_tup, slice_lst, eq_int, eq_strs, excTab3, excTab4, excTab5, seqAt, SZ, IB, atL_some, atI_some, out_nxt, out_ret, out_exc, sub_ref, isNil_ref, attr_ref, len_ref, setLst_ref, setAtt_ref, fd_e2, fd_e3, fd_e4, fd_e5, fd_get0, fd_get1, fd_get2, fd_get3, fd_get4, fd_get5, fd_get, fd_set0, fd_set2, fd_set3, fd_set4, fd_set, fd_len, fd_app, ef, c2, c3, h1, h3, h4, rowOf, Tm.lvs, Tm.rep, sVar]
  · obtain ⟨d, hd, ed⟩ := dip_ok (k + 1) T s p (.lst rws :: tl) 6 (by omega) (by omega) hs
    obtain ⟨o, ho, eo⟩ := oth_at d hd
    refine ⟨.oth o, p + 1, ho, rfl, by omega, by simp [Tm.lvs]; omega, ?_⟩
    have hw2 : (w : Int) < 2 := by omega
    by_cases c2 : w = 0
    · have c3 : ¬ rws.length < 4 := fun z => c1 ⟨c2, z⟩
      have c4 : ¬ (rws.length : Int) < 4 := by omega
      subst c2
      simp [f_law_term, EV_loc, EV_glo, EV_cnone, EV_cbool, EV_cint, EV_cstr, EV_neg, EV_not, EV_bin, EV_cmp, EV_cmpNil, EV_bop, EV_ite, EV_tup, EV_lst, EV_sub, EV_slice, EV_call, EV_bi, EV_meth, EV_mdig, EV_mjoin, EV_mapp, EV_mpop, EV_attr, EV_fstr, EV_fstrs, EV_comp, ET_not, ET_bop, ET_ite, ET_cmp, ET_cmpNil, ET_loc, ET_call, ET_mdig, ETs_nil, ETs_cons, EB_one, EB_cons, EVs_nil, EVs_cons, EO_none, EO_some, EX_asg, EX_asgT, EX_seta, EX_seti, EX_exp, EX_ret, EX_iff, EX_forr, EX_whil, EX_rais, EX_tryy, EXs_nil, EXs_cons, bnd_okL, bnd_exc, bndE_okL, bndE_exc, rok_someL, nextOf_nxt, nextOf_ret, nextOf_exc, excOf_nxt, excOf_exc, excOf_ret, lk, setL, setLs, capture, resOf, lev_q, lev_top, lev_glo, lev_exc, kn_12, kn_15, kn_19, kn_21, kn_23, kn_25, kn_27, kn_29, kn_31, kn_32, kn_40, kn_45, kn_46, kn_52, kn_57, kn_60, kn_62, kn_6, km_13, km_33, km_34, km_36, km_37, kx_3, kx_4, kx_5, add_int, add_str, add_tup, sub_int, mul_int, mul_str, mod_int, neg_int, eq_op, ne_op, lt_op, le_op, gt_op, ge_op, is_nn, is_in, isnot_nn, isnot_in, in_str, notin_str, in_lst, sub_tup, sub_lst, sub_str, truth_bool, isNil_lst, attr_exn, len_str, len_tup, len_lst, int_str, str_int, range_int, max_int, tuple_lst, list_lst, slice_from, slice_to, slice_both, bound_int, slice_tup, slice_lst, eq_int, eq_strs, excTab3, excTab4, excTab5, SZ, IB, atL_some, atI_some, out_nxt, out_ret, out_exc, sub_ref, isNil_ref, attr_ref, len_ref, setLst_ref, setAtt_ref, fd_e2, fd_e3, fd_e4, fd_e5, fd_get0, fd_get1, fd_get2, fd_get3, fd_get4, fd_get5, fd_get, fd_set0, fd_set2, fd_set3, fd_set4, fd_set, fd_len, fd_app, ed, eo, c3, c4, h1, Tm.lvs, Tm.rep]
    · have c3 : ¬ (w : Int) = 0 := by omega
      simp [f_law_term, EV_loc, EV_glo, EV_cnone, EV_cbool, EV_cint, EV_cstr, EV_neg, EV_not, EV_bin, EV_cmp, EV_cmpNil, EV_bop, EV_ite, EV_tup, EV_lst, EV_sub, EV_slice, EV_call, EV_bi, EV_meth, EV_mdig, EV_mjoin, EV_mapp, EV_mpop, EV_attr, EV_fstr, EV_fstrs, EV_comp, ET_not, ET_bop, ET_ite, ET_cmp, ET_cmpNil, ET_loc, ET_call, ET_mdig, ETs_nil, ETs_cons, EB_one, EB_cons, EVs_nil, EVs_cons, EO_none, EO_some, EX_asg, EX_asgT, EX_seta, EX_seti, EX_exp, EX_ret, EX_iff, EX_forr, EX_whil, EX_rais, EX_tryy, EXs_nil, EXs_cons, bnd_okL, bnd_exc, bndE_okL, bndE_exc, rok_someL, nextOf_nxt, nextOf_ret, nextOf_exc, excOf_nxt, excOf_exc, excOf_ret, lk, setL, setLs, capture, resOf, lev_q, lev_top, lev_glo, lev_exc, kn_12, kn_15, kn_19, kn_21, kn_23, kn_25, kn_27, kn_29, kn_31, kn_32, kn_40, kn_45, kn_46, kn_52, kn_57, kn_60, kn_62, kn_6, km_13, km_33, km_34, km_36, km_37, kx_3, kx_4, kx_5, add_int, add_str, add_tup, sub_int, mul_int, mul_str, mod_int, neg_int, eq_op, ne_op, lt_op, le_op, gt_op, ge_op, is_nn, is_in, isnot_nn, isnot_in, in_str, notin_str, in_lst, sub_tup, sub_lst, sub_str, truth_bool, isNil_lst, attr_exn, len_str, len_tup, len_lst, int_str, str_int, range_int, max_int, tuple_lst, list_lst, slice_from, slice_to, slice_both, bound_int, slice_tup, slice_lst, eq_int, eq_strs, excTab3, excTab4, excTab5, SZ, IB, atL_some, atI_some, out_nxt, out_ret, out_exc, sub_ref, isNil_ref, attr_ref, len_ref, setLst_ref, setAtt_ref, fd_e2, fd_e3, fd_e4, fd_e5, fd_get0, fd_get1, fd_get2, fd_get3, fd_get4, fd_get5, fd_get, fd_set0, fd_set2, fd_set3, fd_set4, fd_set, fd_len, fd_app, ed, eo, c2, c3, hw2, h1, Tm.lvs, Tm.rep]
theorem term_ok (k : Nat) (T : List Nat) (s : List Int) (tl : Store) (hs : s.length ≤ 40) : ∀ (deep around p : Nat) (rws : List PV), p + cst deep < 980 → rws.length ≤ 4 →
    ∃ t : Tm, ∃ p' : Nat, t.ok ∧ t.dep ≤ deep ∧ p' ≤ p + cst deep ∧ (rws ++ (t.lvs around).map rowOf).length ≤ 4 ∧
      (lev gloT (k + deep + 3)).fn 52 [.ref 1, .int deep, .int around, .ref 2] (fd T s p (.lst rws :: tl)) = some (.ok t.rep (fd T s p' (.lst (rws ++ (t.lvs around).map rowOf) :: tl))) := by
  intro deep
  induction deep with
  | zero =>
    intro around p rws hp hr
    simp only [cst] at hp
    obtain ⟨w, hw, hw2, ew⟩ := way_ok (k + 1) 0 T s p (.lst rws :: tl) (.int around) (.ref 2) (by omega) hs
    obtain ⟨t, p', h1, h2, h3, h4, h5⟩ := leaf_ok k 0 T s tl hs around (p + 1) rws (by omega) hr w (hw2 rfl)
    refine ⟨t, p', h1, by omega, by simp only [cst]; omega, h4, ?_⟩
    rw [fn_52 _ _ _ rfl]
    simp only [f_law_term, List.zip_cons_cons, List.zip_nil_right]
    rw [EXs_cons, EX_asg, if_neg (by rw [lev_q]; decide), ew]
    exact h5
  | succ deep ih =>
    intro around p rws hp hr
    simp only [cst] at hp
    obtain ⟨w, hw, hw2, ew⟩ := way_ok (k + deep + 2) (deep + 1) T s p (.lst rws :: tl) (.int around) (.ref 2) (by omega) hs
    have e : (lev gloT (k + (deep + 1) + 3)).fn 52 [.ref 1, .int ((deep + 1 : Nat) : Int), .int around, .ref 2] (fd T s p (.lst rws :: tl)) = outOf (EXs (lev gloT (k + deep + 3)) f_law_term.2.tail [(43, .ref 1), (50, .int ((deep + 1 : Nat) : Int)), (2, .int around), (51, .ref 2), (53, .int w)] (fd T s (p + 1) (.lst rws :: tl))) := by
      rw [show k + (deep + 1) + 3 = k + deep + 3 + 1 by omega, fn_52 _ _ _ rfl]
      simp only [f_law_term, List.zip_cons_cons, List.zip_nil_right]
      rw [EXs_cons, EX_asg, if_neg (by rw [lev_q]; decide), ew]
      rfl
    by_cases c1 : w < 2
    · obtain ⟨t, p', h1, h2, h3, h4, h5⟩ := leaf_ok (k + deep + 1) (deep + 1) T s tl hs around (p + 1) rws (by omega) hr w c1
      exact ⟨t, p', h1, by omega, by simp only [cst]; omega, h4, e.trans h5⟩
    · have c0 : ¬ w = 0 := by omega
      have c0' : ¬ (w : Int) = 0 := by omega
      have c1' : ¬ (w : Int) < 2 := by omega
      have d1 : (deep : Int) + 1 - 1 = deep := by omega
      by_cases c2 : w < 4
      · obtain ⟨t, p', h1, h2, h3, h4, h5⟩ := ih (around + 1) (p + 1) rws (by omega) hr
        refine ⟨.lam t, p', h1, by simp only [Tm.dep]; omega, by simp only [cst]; omega, h4, e.trans ?_⟩
        have c2' : (w : Int) < 4 := by omega
        simp only [Int.natCast_add, Int.natCast_one] at h5
        simp [f_law_term, EV_loc, EV_glo, EV_cnone, EV_cbool, EV_cint, EV_cstr, EV_neg, EV_not, EV_bin, EV_cmp, EV_cmpNil, EV_bop, EV_ite, EV_tup, EV_lst, EV_sub, EV_slice, EV_call, EV_bi, EV_meth, EV_mdig, EV_mjoin, EV_mapp, EV_mpop, EV_attr, EV_fstr, EV_fstrs, EV_comp, ET_not, ET_bop, ET_ite, ET_cmp, ET_cmpNil, ET_loc, ET_call, ET_mdig, ETs_nil, ETs_cons, EB_one, EB_cons, EVs_nil, EVs_cons, EO_none, EO_some, EX_asg, EX_asgT, EX_seta, EX_seti, EX_exp, EX_ret, EX_iff, EX_forr, EX_whil, EX_rais, EX_tryy, EXs_nil, EXs_cons, bnd_okL, bnd_exc, bndE_okL, bndE_exc, rok_someL, nextOf_nxt, nextOf_ret, nextOf_exc, excOf_nxt, excOf_exc, excOf_ret, lk, setL, setLs, capture, resOf, lev_q, lev_top, lev_glo, lev_exc, kn_12, kn_15, kn_19, kn_21, kn_23, kn_25, kn_27, kn_29, kn_31, kn_32, kn_40, kn_45, kn_46, kn_52, kn_57, kn_60, kn_62, kn_6, km_13, km_33, km_34, km_36, km_37, kx_3, kx_4, kx_5, add_int, add_str, add_tup, sub_int, mul_int, mul_str, mod_int, neg_int, eq_op, ne_op, lt_op, le_op, gt_op, ge_op, is_nn, is_in, isnot_nn, isnot_in, in_str, notin_str, in_lst, sub_tup, sub_lst, sub_str, truth_bool, isNil_lst, attr_exn, len_str, len_tup, len_lst, int_str, str_int, range_int, max_int, tuple_lst, list_lst, slice_from, slice_to, slice_both, bound_int, slice_tup, slice_lst, eq_int, eq_strs, excTab3, excTab4, excTab5, SZ, IB, atL_some, atI_some, out_nxt, out_ret, out_exc, sub_ref, isNil_ref, attr_ref, len_ref, setLst_ref, setAtt_ref, fd_e2, fd_e3, fd_e4, fd_e5, fd_get0, fd_get1, fd_get2, fd_get3, fd_get4, fd_get5, fd_get, fd_set0, fd_set2, fd_set3, fd_set4, fd_set, fd_len, fd_app, c0, c0', c1, c1', c2, c2', d1, h5, Tm.lvs, Tm.rep, sLam]
      · obtain ⟨t, p', h1, h2, h3, h4, h5⟩ := ih around (p + 1) rws (by omega) hr
        obtain ⟨u, p'', g1, g2, g3, g4, g5⟩ := ih around p' _ (by omega) h4
        refine ⟨.app t u, p'', ⟨h1, g1⟩, by simp only [Tm.dep]; omega, by simp only [cst]; omega, ?_, e.trans ?_⟩
        · simp only [Tm.lvs, List.map_append, ← List.append_assoc]; exact g4
        have c2' : ¬ (w : Int) < 4 := by omega
        simp [f_law_term, EV_loc, EV_glo, EV_cnone, EV_cbool, EV_cint, EV_cstr, EV_neg, EV_not, EV_bin, EV_cmp, EV_cmpNil, EV_bop, EV_ite, EV_tup, EV_lst, EV_sub, EV_slice, EV_call, EV_bi, EV_meth, EV_mdig, EV_mjoin, EV_mapp, EV_mpop, EV_attr, EV_fstr, EV_fstrs, EV_comp, ET_not, ET_bop, ET_ite, ET_cmp, ET_cmpNil, ET_loc, ET_call, ET_mdig, ETs_nil, ETs_cons, EB_one, EB_cons, EVs_nil, EVs_cons, EO_none, EO_some, EX_asg, EX_asgT, EX_seta, EX_seti, EX_exp, EX_ret, EX_iff, EX_forr, EX_whil, EX_rais, EX_tryy, EXs_nil, EXs_cons, bnd_okL, bnd_exc, bndE_okL, bndE_exc, rok_someL, nextOf_nxt, nextOf_ret, nextOf_exc, excOf_nxt, excOf_exc, excOf_ret, lk, setL, setLs, capture, resOf, lev_q, lev_top, lev_glo, lev_exc, kn_12, kn_15, kn_19, kn_21, kn_23, kn_25, kn_27, kn_29, kn_31, kn_32, kn_40, kn_45, kn_46, kn_52, kn_57, kn_60, kn_62, kn_6, km_13, km_33, km_34, km_36, km_37, kx_3, kx_4, kx_5, add_int, add_str, add_tup, sub_int, mul_int, mul_str, mod_int, neg_int, eq_op, ne_op, lt_op, le_op, gt_op, ge_op, is_nn, is_in, isnot_nn, isnot_in, in_str, notin_str, in_lst, sub_tup, sub_lst, sub_str, truth_bool, isNil_lst, attr_exn, len_str, len_tup, len_lst, int_str, str_int, range_int, max_int, tuple_lst, list_lst, slice_from, slice_to, slice_both, bound_int, slice_tup, slice_lst, eq_int, eq_strs, excTab3, excTab4, excTab5, SZ, IB, atL_some, atI_some, out_nxt, out_ret, out_exc, sub_ref, isNil_ref, attr_ref, len_ref, setLst_ref, setAtt_ref, fd_e2, fd_e3, fd_e4, fd_e5, fd_get0, fd_get1, fd_get2, fd_get3, fd_get4, fd_get5, fd_get, fd_set0, fd_set2, fd_set3, fd_set4, fd_set, fd_len, fd_app, c0, c0', c1, c1', c2, c2', d1, h5, g5, Tm.lvs, Tm.rep, sApp]
end Mine
end
/-! L8: indexes -/
section
set_option autoImplicit false
set_option linter.unusedVariables false
set_option linter.unusedSimpArgs false
set_option maxRecDepth 100000
namespace Mine
open PySem
theorem lk_setF (x y : Nat) (v : PV) : ∀ ρ : Loc, lk (setL ρ x v) y = if x = y then some v else lk ρ y
  | [] => by simp [setL, lk]
  | (z, u) :: r => by
    unfold setL
    by_cases h : z = x
    · subst h
      by_cases h' : z = y <;> simp [lk, h']
    · rw [if_neg h]
      by_cases h' : z = y
      · subst h'
        have : ¬ x = z := fun e => h e.symm
        simp [lk, this]
      · simp [lk, h', lk_setF x y v r]
def sFig : List Nat := [48, 49, 50, 51, 52, 53, 54, 55, 56, 57]
theorem fig_dig (c : Nat) : sFig.contains c = isDig c := by
  rw [Bool.eq_iff_iff]
  simp [sFig, isDig]
  omega
theorem row_comp (k : Nat) (F txt : List Nat) (hl : txt.length ≤ 5000) (σ : Store) : ∀ (n i : Nat) (ρ : Loc) (acc : List PV), txt.length - i = n → i ≤ txt.length → acc.length ≤ i → lk ρ 11 = some (.str F) →
    EC (lev gloT k) (.loc 13) [13] false (some (.cmp .NotIn (.loc 13) (.loc 11))) (.str txt) i ρ acc σ = some (.ok (acc ++ ((txt.drop i).filter fun c => !F.contains c).map fun c => .str [c]) σ) := by
  intro n
  induction n with
  | zero =>
    intro i ρ acc h1 h2 h3 h4
    have hi : i = txt.length := by omega
    subst hi
    rw [EC_eq]
    simp [itemAt]
  | succ n ih =>
    intro i ρ acc h1 h2 h3 h4
    have hi : i < txt.length := by omega
    rw [EC_eq]
    have hd : txt.drop i = txt[i] :: txt.drop (i + 1) := List.drop_eq_getElem_cons hi
    have g1 : lk (setL ρ 13 (.str [txt[i]])) 11 = some (.str F) := by rw [lk_setF]; simpa using h4
    have g2 : lk (setL ρ 13 (.str [txt[i]])) 13 = some (.str [txt[i]]) := by rw [lk_setF]; simp
    have h5 : acc.length < 100000 := by omega
    simp [itemAt, hi, takeV, setLs, condOf, EV_loc, EV_cmp, ET_cmp, g1, g2, bnd_okL, rok_someL, notin_str, truth_bool, SZ, h5]
    rw [hd]
    by_cases hc : txt[i] ∈ F
    · rw [if_pos hc, ih (i + 1) _ acc (by omega) (by omega) (by omega) g1, List.filter_cons_of_neg (by simp [hc])]
      simp
    · rw [if_neg hc, ih (i + 1) _ _ (by omega) (by omega) (by simp; omega) g1, List.filter_cons_of_pos (by simp [hc])]
      simp
theorem row_ok (k : Nat) (txt : List Nat) (hl : txt.length ≤ 5000) (σ : Store) : (lev gloT (k + 1)).fn 12 [.str txt, .str sFig] σ = some (.ok (.bool (!txt.isEmpty && txt.all isDig)) σ) := by
  rw [fn_12 _ _ _ rfl]
  have h := row_comp k sFig txt hl σ txt.length 0 [(11, .str sFig)] [] rfl (by omega) (by simp) rfl
  have hall : txt.all isDig = true ↔ ∀ x ∈ txt, x ∈ sFig := by
    simp only [List.all_eq_true]
    constructor
    · intro q x hx
      have := q x hx
      rw [← fig_dig] at this
      simpa using this
    · intro q x hx
      have := q x hx
      rw [← fig_dig]
      simpa using this
  by_cases h0 : txt = []
  · subst h0
    simp [f_is_row_of, EV_loc, EV_glo, EV_cnone, EV_cbool, EV_cint, EV_cstr, EV_neg, EV_not, EV_bin, EV_cmp, EV_cmpNil, EV_bop, EV_ite, EV_tup, EV_lst, EV_sub, EV_slice, EV_call, EV_bi, EV_meth, EV_mdig, EV_mjoin, EV_mapp, EV_mpop, EV_attr, EV_fstr, EV_fstrs, EV_comp, ET_not, ET_bop, ET_ite, ET_cmp, ET_cmpNil, ET_loc, ET_call, ET_mdig, ETs_nil, ETs_cons, EB_one, EB_cons, EVs_nil, EVs_cons, EO_none, EO_some, EX_asg, EX_asgT, EX_seta, EX_seti, EX_exp, EX_ret, EX_iff, EX_forr, EX_whil, EX_rais, EX_tryy, EXs_nil, EXs_cons, bnd_okL, bnd_exc, bndE_okL, bndE_exc, rok_someL, nextOf_nxt, nextOf_ret, nextOf_exc, excOf_nxt, excOf_exc, excOf_ret, lk, setL, setLs, capture, resOf, lev_q, lev_top, lev_glo, lev_exc, kn_12, kn_15, kn_19, kn_21, kn_23, kn_25, kn_27, kn_29, kn_31, kn_32, kn_40, kn_45, kn_46, kn_52, kn_57, kn_60, kn_62, kn_6, km_13, km_33, km_34, km_36, km_37, kx_3, kx_4, kx_5, add_int, add_str, add_tup, sub_int, mul_int, mul_str, mod_int, neg_int, eq_op, ne_op, lt_op, le_op, gt_op, ge_op, is_nn, is_in, isnot_nn, isnot_in, in_str, notin_str, in_lst, sub_tup, sub_lst, sub_str, truth_bool, isNil_lst, attr_exn, len_str, len_tup, len_lst, int_str, str_int, range_int, max_int, tuple_lst, list_lst, slice_from, slice_to, slice_both, bound_int, slice_tup, slice_lst, eq_int, eq_strs, excTab3, excTab4, excTab5, seqAt, SZ, IB, atL_some, atI_some, out_nxt, out_ret, out_exc, sub_ref, isNil_ref, attr_ref, len_ref, setLst_ref, setAtt_ref]
  · simp [f_is_row_of, EV_loc, EV_glo, EV_cnone, EV_cbool, EV_cint, EV_cstr, EV_neg, EV_not, EV_bin, EV_cmp, EV_cmpNil, EV_bop, EV_ite, EV_tup, EV_lst, EV_sub, EV_slice, EV_call, EV_bi, EV_meth, EV_mdig, EV_mjoin, EV_mapp, EV_mpop, EV_attr, EV_fstr, EV_fstrs, EV_comp, ET_not, ET_bop, ET_ite, ET_cmp, ET_cmpNil, ET_loc, ET_call, ET_mdig, ETs_nil, ETs_cons, EB_one, EB_cons, EVs_nil, EVs_cons, EO_none, EO_some, EX_asg, EX_asgT, EX_seta, EX_seti, EX_exp, EX_ret, EX_iff, EX_forr, EX_whil, EX_rais, EX_tryy, EXs_nil, EXs_cons, bnd_okL, bnd_exc, bndE_okL, bndE_exc, rok_someL, nextOf_nxt, nextOf_ret, nextOf_exc, excOf_nxt, excOf_exc, excOf_ret, lk, setL, setLs, capture, resOf, lev_q, lev_top, lev_glo, lev_exc, kn_12, kn_15, kn_19, kn_21, kn_23, kn_25, kn_27, kn_29, kn_31, kn_32, kn_40, kn_45, kn_46, kn_52, kn_57, kn_60, kn_62, kn_6, km_13, km_33, km_34, km_36, km_37, kx_3, kx_4, kx_5, add_int, add_str, add_tup, sub_int, mul_int, mul_str, mod_int, neg_int, eq_op, ne_op, lt_op, le_op, gt_op, ge_op, is_nn, is_in, isnot_nn, isnot_in, in_str, notin_str, in_lst, sub_tup, sub_lst, sub_str, truth_bool, isNil_lst, attr_exn, len_str, len_tup, len_lst, int_str, str_int, range_int, max_int, tuple_lst, list_lst, slice_from, slice_to, slice_both, bound_int, slice_tup, slice_lst, eq_int, eq_strs, excTab3, excTab4, excTab5, seqAt, SZ, IB, atL_some, atI_some, out_nxt, out_ret, out_exc, sub_ref, isNil_ref, attr_ref, len_ref, setLst_ref, setAtt_ref, h0, h]
    rw [Bool.eq_iff_iff]
    have h0' : txt.isEmpty = false := by simpa using h0
    rw [h0', Bool.not_false, Bool.true_and, hall]
    simp
def figsB (b txt : List Nat) : List Nat := if txt.take b.length ≠ b ∨ ¬ (txt.drop b.length ≠ [] ∧ (txt.drop b.length).all isDig = true) ∨ ((txt.drop b.length).head? = some 48 ∧ txt.drop b.length ≠ [48]) then [] else txt.drop b.length
theorem figs_ok (k : Nat) (b txt : List Nat) (hb : b.length ≤ 10) (hl : txt.length ≤ 5000) (σ : Store) : (lev gloT (k + 2)).fn 15 [.str txt, .str b] σ = some (.ok (.str (figsB b txt)) σ) := by
  rw [fn_15 _ _ _ rfl]
  have h := row_ok k (txt.drop b.length) (by simp; omega) σ
  have eg : gloT 17 = some (.str sFig) := rfl
  have h1 : b.length ≤ 100000 := by omega
  have h2 : txt.length ≤ 100000 := by omega
  have h4 : (b.length : Int) ≤ 100000 := by omega
  unfold figsB
  by_cases c1 : txt.take b.length = b
  · cases hr : txt.drop b.length with
    | nil =>
      rw [hr] at h
      simp [f_figures_behind, EV_loc, EV_glo, EV_cnone, EV_cbool, EV_cint, EV_cstr, EV_neg, EV_not, EV_bin, EV_cmp, EV_cmpNil, EV_bop, EV_ite, EV_tup, EV_lst, EV_sub, EV_slice, EV_call, EV_bi, EV_meth, EV_mdig, EV_mjoin, EV_mapp, EV_mpop, EV_attr, EV_fstr, EV_fstrs, EV_comp, ET_not, ET_bop, ET_ite, ET_cmp, ET_cmpNil, ET_loc, ET_call, ET_mdig, ETs_nil, ETs_cons, EB_one, EB_cons, EVs_nil, EVs_cons, EO_none, EO_some, EX_asg, EX_asgT, EX_seta, EX_seti, EX_exp, EX_ret, EX_iff, EX_forr, EX_whil, EX_rais, EX_tryy, EXs_nil, EXs_cons, bnd_okL, bnd_exc, bndE_okL, bndE_exc, rok_someL, nextOf_nxt, nextOf_ret, nextOf_exc, excOf_nxt, excOf_exc, excOf_ret, lk, setL, setLs, capture, resOf, lev_q, lev_top, lev_glo, lev_exc, kn_12, kn_15, kn_19, kn_21, kn_23, kn_25, kn_27, kn_29, kn_31, kn_32, kn_40, kn_45, kn_46, kn_52, kn_57, kn_60, kn_62, kn_6, km_13, km_33, km_34, km_36, km_37, kx_3, kx_4, kx_5, add_int, add_str, add_tup, sub_int, mul_int, mul_str, mod_int, neg_int, eq_op, ne_op, lt_op, le_op, gt_op, ge_op, is_nn, is_in, isnot_nn, isnot_in, in_str, notin_str, in_lst, sub_tup, sub_lst, sub_str, truth_bool, isNil_lst, attr_exn, len_str, len_tup, len_lst, int_str, str_int, range_int, max_int, tuple_lst, list_lst, slice_from, slice_to, slice_both, bound_int, slice_tup, slice_lst, eq_int, eq_strs, excTab3, excTab4, excTab5, seqAt, SZ, IB, atL_some, atI_some, out_nxt, out_ret, out_exc, sub_ref, isNil_ref, attr_ref, len_ref, setLst_ref, setAtt_ref, eg, h4, h1, h2, c1, hr, h]
    | cons c r =>
      rw [hr] at h
      have h3 : r.length + 1 ≤ 100000 := by
        have := congrArg List.length hr
        simp at this
        omega
      by_cases c2 : (c :: r).all isDig = true
      · have c2' := c2
        simp only [List.all_cons, Bool.and_eq_true] at c2'
        by_cases c3 : c = 48
        · subst c3
          by_cases c4 : r = []
          · subst c4
            simp [f_figures_behind, EV_loc, EV_glo, EV_cnone, EV_cbool, EV_cint, EV_cstr, EV_neg, EV_not, EV_bin, EV_cmp, EV_cmpNil, EV_bop, EV_ite, EV_tup, EV_lst, EV_sub, EV_slice, EV_call, EV_bi, EV_meth, EV_mdig, EV_mjoin, EV_mapp, EV_mpop, EV_attr, EV_fstr, EV_fstrs, EV_comp, ET_not, ET_bop, ET_ite, ET_cmp, ET_cmpNil, ET_loc, ET_call, ET_mdig, ETs_nil, ETs_cons, EB_one, EB_cons, EVs_nil, EVs_cons, EO_none, EO_some, EX_asg, EX_asgT, EX_seta, EX_seti, EX_exp, EX_ret, EX_iff, EX_forr, EX_whil, EX_rais, EX_tryy, EXs_nil, EXs_cons, bnd_okL, bnd_exc, bndE_okL, bndE_exc, rok_someL, nextOf_nxt, nextOf_ret, nextOf_exc, excOf_nxt, excOf_exc, excOf_ret, lk, setL, setLs, capture, resOf, lev_q, lev_top, lev_glo, lev_exc, kn_12, kn_15, kn_19, kn_21, kn_23, kn_25, kn_27, kn_29, kn_31, kn_32, kn_40, kn_45, kn_46, kn_52, kn_57, kn_60, kn_62, kn_6, km_13, km_33, km_34, km_36, km_37, kx_3, kx_4, kx_5, add_int, add_str, add_tup, sub_int, mul_int, mul_str, mod_int, neg_int, eq_op, ne_op, lt_op, le_op, gt_op, ge_op, is_nn, is_in, isnot_nn, isnot_in, in_str, notin_str, in_lst, sub_tup, sub_lst, sub_str, truth_bool, isNil_lst, attr_exn, len_str, len_tup, len_lst, int_str, str_int, range_int, max_int, tuple_lst, list_lst, slice_from, slice_to, slice_both, bound_int, slice_tup, slice_lst, eq_int, eq_strs, excTab3, excTab4, excTab5, seqAt, SZ, IB, atL_some, atI_some, out_nxt, out_ret, out_exc, sub_ref, isNil_ref, attr_ref, len_ref, setLst_ref, setAtt_ref, eg, h4, h1, h2, c1, hr, h, c2']
          · simp [f_figures_behind, EV_loc, EV_glo, EV_cnone, EV_cbool, EV_cint, EV_cstr, EV_neg, EV_not, EV_bin, EV_cmp, EV_cmpNil, EV_bop, EV_ite, EV_tup, EV_lst, EV_sub, EV_slice, EV_call, EV_bi, EV_meth, EV_mdig, EV_mjoin, EV_mapp, EV_mpop, EV_attr, EV_fstr, EV_fstrs, EV_comp, ET_not, ET_bop, ET_ite, ET_cmp, ET_cmpNil, ET_loc, ET_call, ET_mdig, ETs_nil, ETs_cons, EB_one, EB_cons, EVs_nil, EVs_cons, EO_none, EO_some, EX_asg, EX_asgT, EX_seta, EX_seti, EX_exp, EX_ret, EX_iff, EX_forr, EX_whil, EX_rais, EX_tryy, EXs_nil, EXs_cons, bnd_okL, bnd_exc, bndE_okL, bndE_exc, rok_someL, nextOf_nxt, nextOf_ret, nextOf_exc, excOf_nxt, excOf_exc, excOf_ret, lk, setL, setLs, capture, resOf, lev_q, lev_top, lev_glo, lev_exc, kn_12, kn_15, kn_19, kn_21, kn_23, kn_25, kn_27, kn_29, kn_31, kn_32, kn_40, kn_45, kn_46, kn_52, kn_57, kn_60, kn_62, kn_6, km_13, km_33, km_34, km_36, km_37, kx_3, kx_4, kx_5, add_int, add_str, add_tup, sub_int, mul_int, mul_str, mod_int, neg_int, eq_op, ne_op, lt_op, le_op, gt_op, ge_op, is_nn, is_in, isnot_nn, isnot_in, in_str, notin_str, in_lst, sub_tup, sub_lst, sub_str, truth_bool, isNil_lst, attr_exn, len_str, len_tup, len_lst, int_str, str_int, range_int, max_int, tuple_lst, list_lst, slice_from, slice_to, slice_both, bound_int, slice_tup, slice_lst, eq_int, eq_strs, excTab3, excTab4, excTab5, seqAt, SZ, IB, atL_some, atI_some, out_nxt, out_ret, out_exc, sub_ref, isNil_ref, attr_ref, len_ref, setLst_ref, setAtt_ref, eg, h4, h1, h2, h3, c1, hr, h, c2'.1, c2'.2, c4]
        · simp [f_figures_behind, EV_loc, EV_glo, EV_cnone, EV_cbool, EV_cint, EV_cstr, EV_neg, EV_not, EV_bin, EV_cmp, EV_cmpNil, EV_bop, EV_ite, EV_tup, EV_lst, EV_sub, EV_slice, EV_call, EV_bi, EV_meth, EV_mdig, EV_mjoin, EV_mapp, EV_mpop, EV_attr, EV_fstr, EV_fstrs, EV_comp, ET_not, ET_bop, ET_ite, ET_cmp, ET_cmpNil, ET_loc, ET_call, ET_mdig, ETs_nil, ETs_cons, EB_one, EB_cons, EVs_nil, EVs_cons, EO_none, EO_some, EX_asg, EX_asgT, EX_seta, EX_seti, EX_exp, EX_ret, EX_iff, EX_forr, EX_whil, EX_rais, EX_tryy, EXs_nil, EXs_cons, bnd_okL, bnd_exc, bndE_okL, bndE_exc, rok_someL, nextOf_nxt, nextOf_ret, nextOf_exc, excOf_nxt, excOf_exc, excOf_ret, lk, setL, setLs, capture, resOf, lev_q, lev_top, lev_glo, lev_exc, kn_12, kn_15, kn_19, kn_21, kn_23, kn_25, kn_27, kn_29, kn_31, kn_32, kn_40, kn_45, kn_46, kn_52, kn_57, kn_60, kn_62, kn_6, km_13, km_33, km_34, km_36, km_37, kx_3, kx_4, kx_5, add_int, add_str, add_tup, sub_int, mul_int, mul_str, mod_int, neg_int, eq_op, ne_op, lt_op, le_op, gt_op, ge_op, is_nn, is_in, isnot_nn, isnot_in, in_str, notin_str, in_lst, sub_tup, sub_lst, sub_str, truth_bool, isNil_lst, attr_exn, len_str, len_tup, len_lst, int_str, str_int, range_int, max_int, tuple_lst, list_lst, slice_from, slice_to, slice_both, bound_int, slice_tup, slice_lst, eq_int, eq_strs, excTab3, excTab4, excTab5, seqAt, SZ, IB, atL_some, atI_some, out_nxt, out_ret, out_exc, sub_ref, isNil_ref, attr_ref, len_ref, setLst_ref, setAtt_ref, eg, h4, h1, h2, h3, c1, hr, h, c2'.1, c2'.2, c3]
      · have c2' : (isDig c && r.all isDig) = false := by simpa using c2
        simp [f_figures_behind, EV_loc, EV_glo, EV_cnone, EV_cbool, EV_cint, EV_cstr, EV_neg, EV_not, EV_bin, EV_cmp, EV_cmpNil, EV_bop, EV_ite, EV_tup, EV_lst, EV_sub, EV_slice, EV_call, EV_bi, EV_meth, EV_mdig, EV_mjoin, EV_mapp, EV_mpop, EV_attr, EV_fstr, EV_fstrs, EV_comp, ET_not, ET_bop, ET_ite, ET_cmp, ET_cmpNil, ET_loc, ET_call, ET_mdig, ETs_nil, ETs_cons, EB_one, EB_cons, EVs_nil, EVs_cons, EO_none, EO_some, EX_asg, EX_asgT, EX_seta, EX_seti, EX_exp, EX_ret, EX_iff, EX_forr, EX_whil, EX_rais, EX_tryy, EXs_nil, EXs_cons, bnd_okL, bnd_exc, bndE_okL, bndE_exc, rok_someL, nextOf_nxt, nextOf_ret, nextOf_exc, excOf_nxt, excOf_exc, excOf_ret, lk, setL, setLs, capture, resOf, lev_q, lev_top, lev_glo, lev_exc, kn_12, kn_15, kn_19, kn_21, kn_23, kn_25, kn_27, kn_29, kn_31, kn_32, kn_40, kn_45, kn_46, kn_52, kn_57, kn_60, kn_62, kn_6, km_13, km_33, km_34, km_36, km_37, kx_3, kx_4, kx_5, add_int, add_str, add_tup, sub_int, mul_int, mul_str, mod_int, neg_int, eq_op, ne_op, lt_op, le_op, gt_op, ge_op, is_nn, is_in, isnot_nn, isnot_in, in_str, notin_str, in_lst, sub_tup, sub_lst, sub_str, truth_bool, isNil_lst, attr_exn, len_str, len_tup, len_lst, int_str, str_int, range_int, max_int, tuple_lst, list_lst, slice_from, slice_to, slice_both, bound_int, slice_tup, slice_lst, eq_int, eq_strs, excTab3, excTab4, excTab5, seqAt, SZ, IB, atL_some, atI_some, out_nxt, out_ret, out_exc, sub_ref, isNil_ref, attr_ref, len_ref, setLst_ref, setAtt_ref, eg, h4, h1, h2, c1, hr, h, c2']
  · simp [f_figures_behind, EV_loc, EV_glo, EV_cnone, EV_cbool, EV_cint, EV_cstr, EV_neg, EV_not, EV_bin, EV_cmp, EV_cmpNil, EV_bop, EV_ite, EV_tup, EV_lst, EV_sub, EV_slice, EV_call, EV_bi, EV_meth, EV_mdig, EV_mjoin, EV_mapp, EV_mpop, EV_attr, EV_fstr, EV_fstrs, EV_comp, ET_not, ET_bop, ET_ite, ET_cmp, ET_cmpNil, ET_loc, ET_call, ET_mdig, ETs_nil, ETs_cons, EB_one, EB_cons, EVs_nil, EVs_cons, EO_none, EO_some, EX_asg, EX_asgT, EX_seta, EX_seti, EX_exp, EX_ret, EX_iff, EX_forr, EX_whil, EX_rais, EX_tryy, EXs_nil, EXs_cons, bnd_okL, bnd_exc, bndE_okL, bndE_exc, rok_someL, nextOf_nxt, nextOf_ret, nextOf_exc, excOf_nxt, excOf_exc, excOf_ret, lk, setL, setLs, capture, resOf, lev_q, lev_top, lev_glo, lev_exc, kn_12, kn_15, kn_19, kn_21, kn_23, kn_25, kn_27, kn_29, kn_31, kn_32, kn_40, kn_45, kn_46, kn_52, kn_57, kn_60, kn_62, kn_6, km_13, km_33, km_34, km_36, km_37, kx_3, kx_4, kx_5, add_int, add_str, add_tup, sub_int, mul_int, mul_str, mod_int, neg_int, eq_op, ne_op, lt_op, le_op, gt_op, ge_op, is_nn, is_in, isnot_nn, isnot_in, in_str, notin_str, in_lst, sub_tup, sub_lst, sub_str, truth_bool, isNil_lst, attr_exn, len_str, len_tup, len_lst, int_str, str_int, range_int, max_int, tuple_lst, list_lst, slice_from, slice_to, slice_both, bound_int, slice_tup, slice_lst, eq_int, eq_strs, excTab3, excTab4, excTab5, seqAt, SZ, IB, atL_some, atI_some, out_nxt, out_ret, out_exc, sub_ref, isNil_ref, attr_ref, len_ref, setLst_ref, setAtt_ref, eg, h4, h1, h2, c1]
theorem figs_var {f : List Nat} (h : FigOk f) : figsB sVar (sVar ++ f) = f := by
  have e1 : (sVar ++ f).take sVar.length = sVar := List.take_left
  have e2 : (sVar ++ f).drop sVar.length = f := List.drop_left
  unfold figsB
  rw [e1, e2]
  rw [if_neg]
  rintro (z | z | ⟨z, z'⟩)
  · exact z rfl
  · exact z ⟨h.ne, h.dig⟩
  · exact z' (h.lead z)
theorem figs_y {f : List Nat} (h : FigOk f) : figsB [121] (121 :: f) = f := by
  unfold figsB
  rw [if_neg]
  · rfl
  rintro (z | z | ⟨z, z'⟩)
  · exact z rfl
  · exact z ⟨h.ne, h.dig⟩
  · exact z' (h.lead z)
theorem figs_vy (f : List Nat) : figsB sVar (121 :: f) = [] := by
  unfold figsB
  rw [if_pos]
  left
  intro z
  have := congrArg List.head? z
  simp [sVar] at this
theorem figs_oth {o : List Nat} (h : o ∈ oths) : figsB sVar o = [] := by
  have : ∀ o ∈ oths, figsB sVar o = [] := by decide
  exact this o h
theorem oth_len {o : List Nat} (h : o ∈ oths) : o.length ≤ 100 ∧ o ≠ [] := by
  have : ∀ o ∈ oths, o.length ≤ 100 ∧ o ≠ [] := by decide
  exact this o h
theorem num_ok (k : Nat) (f : List Nat) (h : FigOk f) (hl : f.length ≤ 9) (σ : Store) : (lev gloT (k + 3)).fn 19 [.str f] σ = some (.ok (.int (numOf f)) σ) := by
  rw [fn_19 _ _ _ rfl]
  have h1 : f.length ≤ 100000 := by omega
  have h2 : ¬ 9 < f.length := by omega
  have h3 : ¬ (9 : Int) < f.length := by omega
  have h4 : f.length ≤ 18 := by omega
  have h5 := h.dig
  have h6 := h.ne
  simp only [List.all_eq_true] at h5
  simp [f_number_by, EV_loc, EV_glo, EV_cnone, EV_cbool, EV_cint, EV_cstr, EV_neg, EV_not, EV_bin, EV_cmp, EV_cmpNil, EV_bop, EV_ite, EV_tup, EV_lst, EV_sub, EV_slice, EV_call, EV_bi, EV_meth, EV_mdig, EV_mjoin, EV_mapp, EV_mpop, EV_attr, EV_fstr, EV_fstrs, EV_comp, ET_not, ET_bop, ET_ite, ET_cmp, ET_cmpNil, ET_loc, ET_call, ET_mdig, ETs_nil, ETs_cons, EB_one, EB_cons, EVs_nil, EVs_cons, EO_none, EO_some, EX_asg, EX_asgT, EX_seta, EX_seti, EX_exp, EX_ret, EX_iff, EX_forr, EX_whil, EX_rais, EX_tryy, EXs_nil, EXs_cons, bnd_okL, bnd_exc, bndE_okL, bndE_exc, rok_someL, nextOf_nxt, nextOf_ret, nextOf_exc, excOf_nxt, excOf_exc, excOf_ret, lk, setL, setLs, capture, resOf, lev_q, lev_top, lev_glo, lev_exc, kn_12, kn_15, kn_19, kn_21, kn_23, kn_25, kn_27, kn_29, kn_31, kn_32, kn_40, kn_45, kn_46, kn_52, kn_57, kn_60, kn_62, kn_6, km_13, km_33, km_34, km_36, km_37, kx_3, kx_4, kx_5, add_int, add_str, add_tup, sub_int, mul_int, mul_str, mod_int, neg_int, eq_op, ne_op, lt_op, le_op, gt_op, ge_op, is_nn, is_in, isnot_nn, isnot_in, in_str, notin_str, in_lst, sub_tup, sub_lst, sub_str, truth_bool, isNil_lst, attr_exn, len_str, len_tup, len_lst, int_str, str_int, range_int, max_int, tuple_lst, list_lst, slice_from, slice_to, slice_both, bound_int, slice_tup, slice_lst, eq_int, eq_strs, excTab3, excTab4, excTab5, seqAt, SZ, IB, atL_some, atI_some, out_nxt, out_ret, out_exc, sub_ref, isNil_ref, attr_ref, len_ref, setLst_ref, setAtt_ref, h1, h2, h3, h4, h6]
  rw [if_pos h5]
  rfl
theorem num_exc (k : Nat) (f : List Nat) (h : FigOk f) (hl : ¬ f.length ≤ 9) (σ : Store) : (lev gloT (k + 3)).fn 19 [.str f] σ = some (.exc ⟨3, none⟩ σ) := by
  rw [fn_19 _ _ _ rfl]
  have h0 := h.len
  have h1 : f.length ≤ 100000 := by omega
  have h2 : 9 < f.length := by omega
  have h3 : (9 : Int) < f.length := by omega
  simp [f_number_by, EV_loc, EV_glo, EV_cnone, EV_cbool, EV_cint, EV_cstr, EV_neg, EV_not, EV_bin, EV_cmp, EV_cmpNil, EV_bop, EV_ite, EV_tup, EV_lst, EV_sub, EV_slice, EV_call, EV_bi, EV_meth, EV_mdig, EV_mjoin, EV_mapp, EV_mpop, EV_attr, EV_fstr, EV_fstrs, EV_comp, ET_not, ET_bop, ET_ite, ET_cmp, ET_cmpNil, ET_loc, ET_call, ET_mdig, ETs_nil, ETs_cons, EB_one, EB_cons, EVs_nil, EVs_cons, EO_none, EO_some, EX_asg, EX_asgT, EX_seta, EX_seti, EX_exp, EX_ret, EX_iff, EX_forr, EX_whil, EX_rais, EX_tryy, EXs_nil, EXs_cons, bnd_okL, bnd_exc, bndE_okL, bndE_exc, rok_someL, nextOf_nxt, nextOf_ret, nextOf_exc, excOf_nxt, excOf_exc, excOf_ret, lk, setL, setLs, capture, resOf, lev_q, lev_top, lev_glo, lev_exc, kn_12, kn_15, kn_19, kn_21, kn_23, kn_25, kn_27, kn_29, kn_31, kn_32, kn_40, kn_45, kn_46, kn_52, kn_57, kn_60, kn_62, kn_6, km_13, km_33, km_34, km_36, km_37, kx_3, kx_4, kx_5, add_int, add_str, add_tup, sub_int, mul_int, mul_str, mod_int, neg_int, eq_op, ne_op, lt_op, le_op, gt_op, ge_op, is_nn, is_in, isnot_nn, isnot_in, in_str, notin_str, in_lst, sub_tup, sub_lst, sub_str, truth_bool, isNil_lst, attr_exn, len_str, len_tup, len_lst, int_str, str_int, range_int, max_int, tuple_lst, list_lst, slice_from, slice_to, slice_both, bound_int, slice_tup, slice_lst, eq_int, eq_strs, excTab3, excTab4, excTab5, seqAt, SZ, IB, atL_some, atI_some, out_nxt, out_ret, out_exc, sub_ref, isNil_ref, attr_ref, len_ref, setLst_ref, setAtt_ref, h1, h2, h3]
theorem idx_ok (k : Nat) (f : List Nat) (h : FigOk f) (hl : f.length ≤ 9) (σ : Store) : (lev gloT (k + 4)).fn 21 [(Tm.var f).rep] σ = some (.ok (.int (numOf f)) σ) := by
  rw [fn_21 _ _ _ rfl]
  have h0 := h.len
  have e := figs_ok (k + 1) sVar (sVar ++ f) (by decide) (by simp [sVar]; omega) σ
  rw [figs_var h] at e
  have en := num_ok k f h hl σ
  have h1 : f.length + 3 ≤ 100000 := by omega
  simp only [sVar] at e
  simp only [List.cons_append, List.nil_append] at e
  simp [f_index_of, EV_loc, EV_glo, EV_cnone, EV_cbool, EV_cint, EV_cstr, EV_neg, EV_not, EV_bin, EV_cmp, EV_cmpNil, EV_bop, EV_ite, EV_tup, EV_lst, EV_sub, EV_slice, EV_call, EV_bi, EV_meth, EV_mdig, EV_mjoin, EV_mapp, EV_mpop, EV_attr, EV_fstr, EV_fstrs, EV_comp, ET_not, ET_bop, ET_ite, ET_cmp, ET_cmpNil, ET_loc, ET_call, ET_mdig, ETs_nil, ETs_cons, EB_one, EB_cons, EVs_nil, EVs_cons, EO_none, EO_some, EX_asg, EX_asgT, EX_seta, EX_seti, EX_exp, EX_ret, EX_iff, EX_forr, EX_whil, EX_rais, EX_tryy, EXs_nil, EXs_cons, bnd_okL, bnd_exc, bndE_okL, bndE_exc, rok_someL, nextOf_nxt, nextOf_ret, nextOf_exc, excOf_nxt, excOf_exc, excOf_ret, lk, setL, setLs, capture, resOf, lev_q, lev_top, lev_glo, lev_exc, kn_12, kn_15, kn_19, kn_21, kn_23, kn_25, kn_27, kn_29, kn_31, kn_32, kn_40, kn_45, kn_46, kn_52, kn_57, kn_60, kn_62, kn_6, km_13, km_33, km_34, km_36, km_37, kx_3, kx_4, kx_5, add_int, add_str, add_tup, sub_int, mul_int, mul_str, mod_int, neg_int, eq_op, ne_op, lt_op, le_op, gt_op, ge_op, is_nn, is_in, isnot_nn, isnot_in, in_str, notin_str, in_lst, sub_tup, sub_lst, sub_str, truth_bool, isNil_lst, attr_exn, len_str, len_tup, len_lst, int_str, str_int, range_int, max_int, tuple_lst, list_lst, slice_from, slice_to, slice_both, bound_int, slice_tup, slice_lst, eq_int, eq_strs, excTab3, excTab4, excTab5, seqAt, SZ, IB, atL_some, atI_some, out_nxt, out_ret, out_exc, sub_ref, isNil_ref, attr_ref, len_ref, setLst_ref, setAtt_ref, Tm.rep, sVar, e, en, h.ne]
theorem idx_exc (k : Nat) (f : List Nat) (h : FigOk f) (hl : ¬ f.length ≤ 9) (σ : Store) : (lev gloT (k + 4)).fn 21 [(Tm.var f).rep] σ = some (.exc ⟨3, none⟩ σ) := by
  rw [fn_21 _ _ _ rfl]
  have h0 := h.len
  have e := figs_ok (k + 1) sVar (sVar ++ f) (by decide) (by simp [sVar]; omega) σ
  rw [figs_var h] at e
  have en := num_exc k f h hl σ
  have h1 : f.length + 3 ≤ 100000 := by omega
  simp only [sVar] at e
  simp only [List.cons_append, List.nil_append] at e
  simp [f_index_of, EV_loc, EV_glo, EV_cnone, EV_cbool, EV_cint, EV_cstr, EV_neg, EV_not, EV_bin, EV_cmp, EV_cmpNil, EV_bop, EV_ite, EV_tup, EV_lst, EV_sub, EV_slice, EV_call, EV_bi, EV_meth, EV_mdig, EV_mjoin, EV_mapp, EV_mpop, EV_attr, EV_fstr, EV_fstrs, EV_comp, ET_not, ET_bop, ET_ite, ET_cmp, ET_cmpNil, ET_loc, ET_call, ET_mdig, ETs_nil, ETs_cons, EB_one, EB_cons, EVs_nil, EVs_cons, EO_none, EO_some, EX_asg, EX_asgT, EX_seta, EX_seti, EX_exp, EX_ret, EX_iff, EX_forr, EX_whil, EX_rais, EX_tryy, EXs_nil, EXs_cons, bnd_okL, bnd_exc, bndE_okL, bndE_exc, rok_someL, nextOf_nxt, nextOf_ret, nextOf_exc, excOf_nxt, excOf_exc, excOf_ret, lk, setL, setLs, capture, resOf, lev_q, lev_top, lev_glo, lev_exc, kn_12, kn_15, kn_19, kn_21, kn_23, kn_25, kn_27, kn_29, kn_31, kn_32, kn_40, kn_45, kn_46, kn_52, kn_57, kn_60, kn_62, kn_6, km_13, km_33, km_34, km_36, km_37, kx_3, kx_4, kx_5, add_int, add_str, add_tup, sub_int, mul_int, mul_str, mod_int, neg_int, eq_op, ne_op, lt_op, le_op, gt_op, ge_op, is_nn, is_in, isnot_nn, isnot_in, in_str, notin_str, in_lst, sub_tup, sub_lst, sub_str, truth_bool, isNil_lst, attr_exn, len_str, len_tup, len_lst, int_str, str_int, range_int, max_int, tuple_lst, list_lst, slice_from, slice_to, slice_both, bound_int, slice_tup, slice_lst, eq_int, eq_strs, excTab3, excTab4, excTab5, seqAt, SZ, IB, atL_some, atI_some, out_nxt, out_ret, out_exc, sub_ref, isNil_ref, attr_ref, len_ref, setLst_ref, setAtt_ref, Tm.rep, sVar, e, en, h.ne]
def Tm.isVar : Tm → Bool
  | .var _ => true
  | _ => false
theorem idx_none (k : Nat) (t : Tm) (h : t.ok) (hv : t.isVar = false) (σ : Store) : (lev gloT (k + 4)).fn 21 [t.rep] σ = some (.ok (.int (-1)) σ) := by
  rw [fn_21 _ _ _ rfl]
  cases t with
  | var f => cases hv
  | oth o =>
    have e := figs_ok (k + 1) sVar o (by decide) (by have := (oth_len h).1; omega) σ
    rw [figs_oth h] at e
    simp only [sVar] at e
    simp [f_index_of, EV_loc, EV_glo, EV_cnone, EV_cbool, EV_cint, EV_cstr, EV_neg, EV_not, EV_bin, EV_cmp, EV_cmpNil, EV_bop, EV_ite, EV_tup, EV_lst, EV_sub, EV_slice, EV_call, EV_bi, EV_meth, EV_mdig, EV_mjoin, EV_mapp, EV_mpop, EV_attr, EV_fstr, EV_fstrs, EV_comp, ET_not, ET_bop, ET_ite, ET_cmp, ET_cmpNil, ET_loc, ET_call, ET_mdig, ETs_nil, ETs_cons, EB_one, EB_cons, EVs_nil, EVs_cons, EO_none, EO_some, EX_asg, EX_asgT, EX_seta, EX_seti, EX_exp, EX_ret, EX_iff, EX_forr, EX_whil, EX_rais, EX_tryy, EXs_nil, EXs_cons, bnd_okL, bnd_exc, bndE_okL, bndE_exc, rok_someL, nextOf_nxt, nextOf_ret, nextOf_exc, excOf_nxt, excOf_exc, excOf_ret, lk, setL, setLs, capture, resOf, lev_q, lev_top, lev_glo, lev_exc, kn_12, kn_15, kn_19, kn_21, kn_23, kn_25, kn_27, kn_29, kn_31, kn_32, kn_40, kn_45, kn_46, kn_52, kn_57, kn_60, kn_62, kn_6, km_13, km_33, km_34, km_36, km_37, kx_3, kx_4, kx_5, add_int, add_str, add_tup, sub_int, mul_int, mul_str, mod_int, neg_int, eq_op, ne_op, lt_op, le_op, gt_op, ge_op, is_nn, is_in, isnot_nn, isnot_in, in_str, notin_str, in_lst, sub_tup, sub_lst, sub_str, truth_bool, isNil_lst, attr_exn, len_str, len_tup, len_lst, int_str, str_int, range_int, max_int, tuple_lst, list_lst, slice_from, slice_to, slice_both, bound_int, slice_tup, slice_lst, eq_int, eq_strs, excTab3, excTab4, excTab5, seqAt, SZ, IB, atL_some, atI_some, out_nxt, out_ret, out_exc, sub_ref, isNil_ref, attr_ref, len_ref, setLst_ref, setAtt_ref, Tm.rep, sVar, e]
  | lam t => simp [f_index_of, EV_loc, EV_glo, EV_cnone, EV_cbool, EV_cint, EV_cstr, EV_neg, EV_not, EV_bin, EV_cmp, EV_cmpNil, EV_bop, EV_ite, EV_tup, EV_lst, EV_sub, EV_slice, EV_call, EV_bi, EV_meth, EV_mdig, EV_mjoin, EV_mapp, EV_mpop, EV_attr, EV_fstr, EV_fstrs, EV_comp, ET_not, ET_bop, ET_ite, ET_cmp, ET_cmpNil, ET_loc, ET_call, ET_mdig, ETs_nil, ETs_cons, EB_one, EB_cons, EVs_nil, EVs_cons, EO_none, EO_some, EX_asg, EX_asgT, EX_seta, EX_seti, EX_exp, EX_ret, EX_iff, EX_forr, EX_whil, EX_rais, EX_tryy, EXs_nil, EXs_cons, bnd_okL, bnd_exc, bndE_okL, bndE_exc, rok_someL, nextOf_nxt, nextOf_ret, nextOf_exc, excOf_nxt, excOf_exc, excOf_ret, lk, setL, setLs, capture, resOf, lev_q, lev_top, lev_glo, lev_exc, kn_12, kn_15, kn_19, kn_21, kn_23, kn_25, kn_27, kn_29, kn_31, kn_32, kn_40, kn_45, kn_46, kn_52, kn_57, kn_60, kn_62, kn_6, km_13, km_33, km_34, km_36, km_37, kx_3, kx_4, kx_5, add_int, add_str, add_tup, sub_int, mul_int, mul_str, mod_int, neg_int, eq_op, ne_op, lt_op, le_op, gt_op, ge_op, is_nn, is_in, isnot_nn, isnot_in, in_str, notin_str, in_lst, sub_tup, sub_lst, sub_str, truth_bool, isNil_lst, attr_exn, len_str, len_tup, len_lst, int_str, str_int, range_int, max_int, tuple_lst, list_lst, slice_from, slice_to, slice_both, bound_int, slice_tup, slice_lst, eq_int, eq_strs, excTab3, excTab4, excTab5, seqAt, SZ, IB, atL_some, atI_some, out_nxt, out_ret, out_exc, sub_ref, isNil_ref, attr_ref, len_ref, setLst_ref, setAtt_ref, Tm.rep]
  | app l r => simp [f_index_of, EV_loc, EV_glo, EV_cnone, EV_cbool, EV_cint, EV_cstr, EV_neg, EV_not, EV_bin, EV_cmp, EV_cmpNil, EV_bop, EV_ite, EV_tup, EV_lst, EV_sub, EV_slice, EV_call, EV_bi, EV_meth, EV_mdig, EV_mjoin, EV_mapp, EV_mpop, EV_attr, EV_fstr, EV_fstrs, EV_comp, ET_not, ET_bop, ET_ite, ET_cmp, ET_cmpNil, ET_loc, ET_call, ET_mdig, ETs_nil, ETs_cons, EB_one, EB_cons, EVs_nil, EVs_cons, EO_none, EO_some, EX_asg, EX_asgT, EX_seta, EX_seti, EX_exp, EX_ret, EX_iff, EX_forr, EX_whil, EX_rais, EX_tryy, EXs_nil, EXs_cons, bnd_okL, bnd_exc, bndE_okL, bndE_exc, rok_someL, nextOf_nxt, nextOf_ret, nextOf_exc, excOf_nxt, excOf_exc, excOf_ret, lk, setL, setLs, capture, resOf, lev_q, lev_top, lev_glo, lev_exc, kn_12, kn_15, kn_19, kn_21, kn_23, kn_25, kn_27, kn_29, kn_31, kn_32, kn_40, kn_45, kn_46, kn_52, kn_57, kn_60, kn_62, kn_6, km_13, km_33, km_34, km_36, km_37, kx_3, kx_4, kx_5, add_int, add_str, add_tup, sub_int, mul_int, mul_str, mod_int, neg_int, eq_op, ne_op, lt_op, le_op, gt_op, ge_op, is_nn, is_in, isnot_nn, isnot_in, in_str, notin_str, in_lst, sub_tup, sub_lst, sub_str, truth_bool, isNil_lst, attr_exn, len_str, len_tup, len_lst, int_str, str_int, range_int, max_int, tuple_lst, list_lst, slice_from, slice_to, slice_both, bound_int, slice_tup, slice_lst, eq_int, eq_strs, excTab3, excTab4, excTab5, seqAt, SZ, IB, atL_some, atI_some, out_nxt, out_ret, out_exc, sub_ref, isNil_ref, attr_ref, len_ref, setLst_ref, setAtt_ref, Tm.rep]
end Mine
end
/-! L9: indexes moved -/
section
set_option autoImplicit false
set_option linter.unusedVariables false
set_option linter.unusedSimpArgs false
set_option maxRecDepth 100000
namespace Mine
open PySem
section
variable {Φ : Sig} {elt c : CE} {x : Nat} {ρ : Loc} {σ : Store} {v w : PV} {tt : Bool} {oc : Option CE} {xs : List Nat}
theorem ec_nil : EC Φ elt xs false oc (.tup []) 0 ρ [] σ = some (.ok [] σ) := by rw [EC_eq]; rfl
theorem ec_one : EC Φ elt [x] false none (.tup [v]) 0 ρ [] σ = bnd (EV Φ elt (setL ρ x v) σ) fun u σ => some (.ok [u] σ) := by
  rw [EC_eq]
  simp only [itemAt, takeV, setLs, condOf]
  simp [bnd_okL, SZ]
  congr
  funext u σ
  rw [EC_eq]
  simp [itemAt]
theorem ec_two : EC Φ elt [x] false none (.tup [v, w]) 0 ρ [] σ = bnd (EV Φ elt (setL ρ x v) σ) fun u σ => bnd (EV Φ elt (setL (setL ρ x v) x w) σ) fun u' σ => some (.ok [u, u'] σ) := by
  rw [EC_eq]
  simp only [itemAt, takeV, setLs, condOf]
  simp [bnd_okL, SZ]
  congr
  funext u σ
  rw [EC_eq]
  simp only [itemAt, takeV, setLs, condOf]
  simp [bnd_okL, SZ]
  congr
  funext u σ
  rw [EC_eq]
  simp [itemAt]
end
theorem var_ok (k : Nat) (i : Int) (h0 : 0 ≤ i) (h1 : i ≤ 999999999) (σ : Store) : (lev gloT (k + 3)).fn 23 [.int i] σ = some (.ok (.tup [.str (sVar ++ digs i)]) σ) := by
  rw [fn_23 _ _ _ rfl]
  have eg : gloT 24 = some (.int 999999999) := rfl
  have h2 : ¬ i < 0 := by omega
  have h3 : ¬ 999999999 < i := by omega
  have h4 : i.natAbs < 1000000000000000000 := by omega
  simp [f_variable, EV_loc, EV_glo, EV_cnone, EV_cbool, EV_cint, EV_cstr, EV_neg, EV_not, EV_bin, EV_cmp, EV_cmpNil, EV_bop, EV_ite, EV_tup, EV_lst, EV_sub, EV_slice, EV_call, EV_bi, EV_meth, EV_mdig, EV_mjoin, EV_mapp, EV_mpop, EV_attr, EV_fstr, EV_fstrs, EV_comp, ET_not, ET_bop, ET_ite, ET_cmp, ET_cmpNil, ET_loc, ET_call, ET_mdig, ETs_nil, ETs_cons, EB_one, EB_cons, EVs_nil, EVs_cons, EO_none, EO_some, EX_asg, EX_asgT, EX_seta, EX_seti, EX_exp, EX_ret, EX_iff, EX_forr, EX_whil, EX_rais, EX_tryy, EXs_nil, EXs_cons, bnd_okL, bnd_exc, bndE_okL, bndE_exc, rok_someL, nextOf_nxt, nextOf_ret, nextOf_exc, excOf_nxt, excOf_exc, excOf_ret, lk, setL, setLs, capture, resOf, lev_q, lev_top, lev_glo, lev_exc, kn_12, kn_15, kn_19, kn_21, kn_23, kn_25, kn_27, kn_29, kn_31, kn_32, kn_40, kn_45, kn_46, kn_52, kn_57, kn_60, kn_62, kn_6, km_13, km_33, km_34, km_36, km_37, kx_3, kx_4, kx_5, add_int, add_str, add_tup, sub_int, mul_int, mul_str, mod_int, neg_int, eq_op, ne_op, lt_op, le_op, gt_op, ge_op, is_nn, is_in, isnot_nn, isnot_in, in_str, notin_str, in_lst, sub_tup, sub_lst, sub_str, truth_bool, isNil_lst, attr_exn, len_str, len_tup, len_lst, int_str, str_int, range_int, max_int, tuple_lst, list_lst, slice_from, slice_to, slice_both, bound_int, slice_tup, slice_lst, eq_int, eq_strs, excTab3, excTab4, excTab5, seqAt, SZ, IB, atL_some, atI_some, out_nxt, out_ret, out_exc, sub_ref, isNil_ref, attr_ref, len_ref, setLst_ref, setAtt_ref, eg, h2, h3, h4, sVar]
theorem var_exc (k : Nat) (i : Int) (h1 : ¬ i ≤ 999999999) (σ : Store) : (lev gloT (k + 3)).fn 23 [.int i] σ = some (.exc ⟨3, none⟩ σ) := by
  rw [fn_23 _ _ _ rfl]
  have eg : gloT 24 = some (.int 999999999) := rfl
  have h2 : ¬ i < 0 := by omega
  have h3 : 999999999 < i := by omega
  simp [f_variable, EV_loc, EV_glo, EV_cnone, EV_cbool, EV_cint, EV_cstr, EV_neg, EV_not, EV_bin, EV_cmp, EV_cmpNil, EV_bop, EV_ite, EV_tup, EV_lst, EV_sub, EV_slice, EV_call, EV_bi, EV_meth, EV_mdig, EV_mjoin, EV_mapp, EV_mpop, EV_attr, EV_fstr, EV_fstrs, EV_comp, ET_not, ET_bop, ET_ite, ET_cmp, ET_cmpNil, ET_loc, ET_call, ET_mdig, ETs_nil, ETs_cons, EB_one, EB_cons, EVs_nil, EVs_cons, EO_none, EO_some, EX_asg, EX_asgT, EX_seta, EX_seti, EX_exp, EX_ret, EX_iff, EX_forr, EX_whil, EX_rais, EX_tryy, EXs_nil, EXs_cons, bnd_okL, bnd_exc, bndE_okL, bndE_exc, rok_someL, nextOf_nxt, nextOf_ret, nextOf_exc, excOf_nxt, excOf_exc, excOf_ret, lk, setL, setLs, capture, resOf, lev_q, lev_top, lev_glo, lev_exc, kn_12, kn_15, kn_19, kn_21, kn_23, kn_25, kn_27, kn_29, kn_31, kn_32, kn_40, kn_45, kn_46, kn_52, kn_57, kn_60, kn_62, kn_6, km_13, km_33, km_34, km_36, km_37, kx_3, kx_4, kx_5, add_int, add_str, add_tup, sub_int, mul_int, mul_str, mod_int, neg_int, eq_op, ne_op, lt_op, le_op, gt_op, ge_op, is_nn, is_in, isnot_nn, isnot_in, in_str, notin_str, in_lst, sub_tup, sub_lst, sub_str, truth_bool, isNil_lst, attr_exn, len_str, len_tup, len_lst, int_str, str_int, range_int, max_int, tuple_lst, list_lst, slice_from, slice_to, slice_both, bound_int, slice_tup, slice_lst, eq_int, eq_strs, excTab3, excTab4, excTab5, seqAt, SZ, IB, atL_some, atI_some, out_nxt, out_ret, out_exc, sub_ref, isNil_ref, attr_ref, len_ref, setLst_ref, setAtt_ref, eg, h2, h3]
def Tm.isLam : Tm → Bool
  | .lam _ => true
  | _ => false
theorem below_ok (k : Nat) (t : Tm) (h : t.ok) (hv : t.isVar = false) (σ : Store) : (lev gloT (k + 1)).fn 25 [t.rep] σ = some (.ok (.int (if t.isLam = true then 1 else 0)) σ) := by
  rw [fn_25 _ _ _ rfl]
  cases t with
  | var f => cases hv
  | oth o =>
    by_cases ho : o = [108, 97, 109]
    · subst ho; simp [f_below, EV_loc, EV_glo, EV_cnone, EV_cbool, EV_cint, EV_cstr, EV_neg, EV_not, EV_bin, EV_cmp, EV_cmpNil, EV_bop, EV_ite, EV_tup, EV_lst, EV_sub, EV_slice, EV_call, EV_bi, EV_meth, EV_mdig, EV_mjoin, EV_mapp, EV_mpop, EV_attr, EV_fstr, EV_fstrs, EV_comp, ET_not, ET_bop, ET_ite, ET_cmp, ET_cmpNil, ET_loc, ET_call, ET_mdig, ETs_nil, ETs_cons, EB_one, EB_cons, EVs_nil, EVs_cons, EO_none, EO_some, EX_asg, EX_asgT, EX_seta, EX_seti, EX_exp, EX_ret, EX_iff, EX_forr, EX_whil, EX_rais, EX_tryy, EXs_nil, EXs_cons, bnd_okL, bnd_exc, bndE_okL, bndE_exc, rok_someL, nextOf_nxt, nextOf_ret, nextOf_exc, excOf_nxt, excOf_exc, excOf_ret, lk, setL, setLs, capture, resOf, lev_q, lev_top, lev_glo, lev_exc, kn_12, kn_15, kn_19, kn_21, kn_23, kn_25, kn_27, kn_29, kn_31, kn_32, kn_40, kn_45, kn_46, kn_52, kn_57, kn_60, kn_62, kn_6, km_13, km_33, km_34, km_36, km_37, kx_3, kx_4, kx_5, add_int, add_str, add_tup, sub_int, mul_int, mul_str, mod_int, neg_int, eq_op, ne_op, lt_op, le_op, gt_op, ge_op, is_nn, is_in, isnot_nn, isnot_in, in_str, notin_str, in_lst, sub_tup, sub_lst, sub_str, truth_bool, isNil_lst, attr_exn, len_str, len_tup, len_lst, int_str, str_int, range_int, max_int, tuple_lst, list_lst, slice_from, slice_to, slice_both, bound_int, slice_tup, slice_lst, eq_int, eq_strs, excTab3, excTab4, excTab5, seqAt, SZ, IB, atL_some, atI_some, out_nxt, out_ret, out_exc, sub_ref, isNil_ref, attr_ref, len_ref, setLst_ref, setAtt_ref, Tm.rep, Tm.isLam]
    · simp [f_below, EV_loc, EV_glo, EV_cnone, EV_cbool, EV_cint, EV_cstr, EV_neg, EV_not, EV_bin, EV_cmp, EV_cmpNil, EV_bop, EV_ite, EV_tup, EV_lst, EV_sub, EV_slice, EV_call, EV_bi, EV_meth, EV_mdig, EV_mjoin, EV_mapp, EV_mpop, EV_attr, EV_fstr, EV_fstrs, EV_comp, ET_not, ET_bop, ET_ite, ET_cmp, ET_cmpNil, ET_loc, ET_call, ET_mdig, ETs_nil, ETs_cons, EB_one, EB_cons, EVs_nil, EVs_cons, EO_none, EO_some, EX_asg, EX_asgT, EX_seta, EX_seti, EX_exp, EX_ret, EX_iff, EX_forr, EX_whil, EX_rais, EX_tryy, EXs_nil, EXs_cons, bnd_okL, bnd_exc, bndE_okL, bndE_exc, rok_someL, nextOf_nxt, nextOf_ret, nextOf_exc, excOf_nxt, excOf_exc, excOf_ret, lk, setL, setLs, capture, resOf, lev_q, lev_top, lev_glo, lev_exc, kn_12, kn_15, kn_19, kn_21, kn_23, kn_25, kn_27, kn_29, kn_31, kn_32, kn_40, kn_45, kn_46, kn_52, kn_57, kn_60, kn_62, kn_6, km_13, km_33, km_34, km_36, km_37, kx_3, kx_4, kx_5, add_int, add_str, add_tup, sub_int, mul_int, mul_str, mod_int, neg_int, eq_op, ne_op, lt_op, le_op, gt_op, ge_op, is_nn, is_in, isnot_nn, isnot_in, in_str, notin_str, in_lst, sub_tup, sub_lst, sub_str, truth_bool, isNil_lst, attr_exn, len_str, len_tup, len_lst, int_str, str_int, range_int, max_int, tuple_lst, list_lst, slice_from, slice_to, slice_both, bound_int, slice_tup, slice_lst, eq_int, eq_strs, excTab3, excTab4, excTab5, seqAt, SZ, IB, atL_some, atI_some, out_nxt, out_ret, out_exc, sub_ref, isNil_ref, attr_ref, len_ref, setLst_ref, setAtt_ref, Tm.rep, Tm.isLam, ho]
  | lam t => simp [f_below, EV_loc, EV_glo, EV_cnone, EV_cbool, EV_cint, EV_cstr, EV_neg, EV_not, EV_bin, EV_cmp, EV_cmpNil, EV_bop, EV_ite, EV_tup, EV_lst, EV_sub, EV_slice, EV_call, EV_bi, EV_meth, EV_mdig, EV_mjoin, EV_mapp, EV_mpop, EV_attr, EV_fstr, EV_fstrs, EV_comp, ET_not, ET_bop, ET_ite, ET_cmp, ET_cmpNil, ET_loc, ET_call, ET_mdig, ETs_nil, ETs_cons, EB_one, EB_cons, EVs_nil, EVs_cons, EO_none, EO_some, EX_asg, EX_asgT, EX_seta, EX_seti, EX_exp, EX_ret, EX_iff, EX_forr, EX_whil, EX_rais, EX_tryy, EXs_nil, EXs_cons, bnd_okL, bnd_exc, bndE_okL, bndE_exc, rok_someL, nextOf_nxt, nextOf_ret, nextOf_exc, excOf_nxt, excOf_exc, excOf_ret, lk, setL, setLs, capture, resOf, lev_q, lev_top, lev_glo, lev_exc, kn_12, kn_15, kn_19, kn_21, kn_23, kn_25, kn_27, kn_29, kn_31, kn_32, kn_40, kn_45, kn_46, kn_52, kn_57, kn_60, kn_62, kn_6, km_13, km_33, km_34, km_36, km_37, kx_3, kx_4, kx_5, add_int, add_str, add_tup, sub_int, mul_int, mul_str, mod_int, neg_int, eq_op, ne_op, lt_op, le_op, gt_op, ge_op, is_nn, is_in, isnot_nn, isnot_in, in_str, notin_str, in_lst, sub_tup, sub_lst, sub_str, truth_bool, isNil_lst, attr_exn, len_str, len_tup, len_lst, int_str, str_int, range_int, max_int, tuple_lst, list_lst, slice_from, slice_to, slice_both, bound_int, slice_tup, slice_lst, eq_int, eq_strs, excTab3, excTab4, excTab5, seqAt, SZ, IB, atL_some, atI_some, out_nxt, out_ret, out_exc, sub_ref, isNil_ref, attr_ref, len_ref, setLst_ref, setAtt_ref, Tm.rep, sLam, Tm.isLam]
  | app l r => simp [f_below, EV_loc, EV_glo, EV_cnone, EV_cbool, EV_cint, EV_cstr, EV_neg, EV_not, EV_bin, EV_cmp, EV_cmpNil, EV_bop, EV_ite, EV_tup, EV_lst, EV_sub, EV_slice, EV_call, EV_bi, EV_meth, EV_mdig, EV_mjoin, EV_mapp, EV_mpop, EV_attr, EV_fstr, EV_fstrs, EV_comp, ET_not, ET_bop, ET_ite, ET_cmp, ET_cmpNil, ET_loc, ET_call, ET_mdig, ETs_nil, ETs_cons, EB_one, EB_cons, EVs_nil, EVs_cons, EO_none, EO_some, EX_asg, EX_asgT, EX_seta, EX_seti, EX_exp, EX_ret, EX_iff, EX_forr, EX_whil, EX_rais, EX_tryy, EXs_nil, EXs_cons, bnd_okL, bnd_exc, bndE_okL, bndE_exc, rok_someL, nextOf_nxt, nextOf_ret, nextOf_exc, excOf_nxt, excOf_exc, excOf_ret, lk, setL, setLs, capture, resOf, lev_q, lev_top, lev_glo, lev_exc, kn_12, kn_15, kn_19, kn_21, kn_23, kn_25, kn_27, kn_29, kn_31, kn_32, kn_40, kn_45, kn_46, kn_52, kn_57, kn_60, kn_62, kn_6, km_13, km_33, km_34, km_36, km_37, kx_3, kx_4, kx_5, add_int, add_str, add_tup, sub_int, mul_int, mul_str, mod_int, neg_int, eq_op, ne_op, lt_op, le_op, gt_op, ge_op, is_nn, is_in, isnot_nn, isnot_in, in_str, notin_str, in_lst, sub_tup, sub_lst, sub_str, truth_bool, isNil_lst, attr_exn, len_str, len_tup, len_lst, int_str, str_int, range_int, max_int, tuple_lst, list_lst, slice_from, slice_to, slice_both, bound_int, slice_tup, slice_lst, eq_int, eq_strs, excTab3, excTab4, excTab5, seqAt, SZ, IB, atL_some, atI_some, out_nxt, out_ret, out_exc, sub_ref, isNil_ref, attr_ref, len_ref, setLst_ref, setAtt_ref, Tm.rep, sApp, Tm.isLam]
theorem numOf_go : ∀ (f : List Nat) (a : Nat), (∀ x ∈ f, isDig x = true) → f.foldl (fun n c => n * 10 + (c - 48)) a < (a + 1) * 10 ^ f.length
  | [], a, _ => by simp
  | c :: r, a, h => by
    have hc : isDig c = true := h c (List.mem_cons_self ..)
    have h9 : c - 48 ≤ 9 := by simp [isDig] at hc; omega
    have ih := numOf_go r (a * 10 + (c - 48)) fun x hx => h x (List.mem_cons_of_mem _ hx)
    rw [List.foldl_cons, List.length_cons, Nat.pow_succ]
    refine Nat.lt_of_lt_of_le ih ?_
    rw [show (a + 1) * (10 ^ r.length * 10) = ((a + 1) * 10) * 10 ^ r.length by rw [Nat.mul_comm (10 ^ r.length) 10, Nat.mul_assoc]]
    exact Nat.mul_le_mul_right _ (by omega)
theorem num_le {f : List Nat} (h : FigOk f) (hl : f.length ≤ 9) : numOf f ≤ 999999999 := by
  have h1 := numOf_go f 0 (by simpa using h.dig)
  have h2 : 10 ^ f.length ≤ 10 ^ 9 := Nat.pow_le_pow_right (by decide) hl
  unfold numOf
  omega
/-- what becomes of a leaf: its late index, or the refusal's class -/
def lateOf (by_ : Int) (b a : Nat) (f : List Nat) : Except Nat Int :=
  if f.length ≤ 9 then
    if b + a ≤ numOf f then (if (numOf f : Int) + by_ < a then .error 4 else if (numOf f : Int) + by_ ≤ 999999999 then .ok (numOf f + by_) else .error 3)
    else .ok (numOf f)
  else .error 3
def mvT (by_ : Int) (b : Nat) : Tm → Nat → Except Nat PV
  | .var f, a => match lateOf by_ b a f with
    | .ok i => .ok (.tup [.str (sVar ++ digs i)])
    | .error e => .error e
  | .oth o, _ => .ok (.tup [.str o])
  | .lam t, a => match mvT by_ b t (a + 1) with
    | .ok v => .ok (.tup [.str sLam, v])
    | .error e => .error e
  | .app l r, a => match mvT by_ b l a with
    | .ok v => (match mvT by_ b r a with
      | .ok u => .ok (.tup [.str sApp, v, u])
      | .error e => .error e)
    | .error e => .error e
def outE (σ : Store) : Except Nat PV → R PV
  | .ok v => .ok v σ
  | .error c => .exc ⟨c, none⟩ σ
theorem moved_ok (k : Nat) (by_ : Int) (b : Nat) (hb : b ≤ 100) (hby : by_.natAbs ≤ 1000000000) (σ : Store) : ∀ (t : Tm) (a n : Nat), t.ok → t.dep ≤ n →
    (lev gloT (k + n + 5)).fn 27 [t.rep, .int by_, .int b, .int a] σ = some (outE σ (mvT by_ b t a)) := by
  intro t
  induction t with
  | var f =>
    intro a n ht hn
    rw [fn_27 _ _ _ rfl]
    have h0 : FigOk f := ht
    by_cases c1 : f.length ≤ 9
    · have e := idx_ok (k + n) f ht c1 σ
      have h1 : ¬ ((b : Int) + a < 0) := by omega
      have hle := num_le h0 c1
      by_cases c2 : b + a ≤ numOf f
      · have c2' : (b : Int) + a ≤ numOf f := by omega
        by_cases c3 : (numOf f : Int) + by_ < a
        · have e1 : mvT by_ b (.var f) a = .error 4 := by simp [mvT, lateOf, c1, c2, c3]
          rw [e1]
          simp [f_moved_within, EV_loc, EV_glo, EV_cnone, EV_cbool, EV_cint, EV_cstr, EV_neg, EV_not, EV_bin, EV_cmp, EV_cmpNil, EV_bop, EV_ite, EV_tup, EV_lst, EV_sub, EV_slice, EV_call, EV_bi, EV_meth, EV_mdig, EV_mjoin, EV_mapp, EV_mpop, EV_attr, EV_fstr, EV_fstrs, EV_comp, ET_not, ET_bop, ET_ite, ET_cmp, ET_cmpNil, ET_loc, ET_call, ET_mdig, ETs_nil, ETs_cons, EB_one, EB_cons, EVs_nil, EVs_cons, EO_none, EO_some, EX_asg, EX_asgT, EX_seta, EX_seti, EX_exp, EX_ret, EX_iff, EX_forr, EX_whil, EX_rais, EX_tryy, EXs_nil, EXs_cons, bnd_okL, bnd_exc, bndE_okL, bndE_exc, rok_someL, nextOf_nxt, nextOf_ret, nextOf_exc, excOf_nxt, excOf_exc, excOf_ret, lk, setL, setLs, capture, resOf, lev_q, lev_top, lev_glo, lev_exc, kn_12, kn_15, kn_19, kn_21, kn_23, kn_25, kn_27, kn_29, kn_31, kn_32, kn_40, kn_45, kn_46, kn_52, kn_57, kn_60, kn_62, kn_6, km_13, km_33, km_34, km_36, km_37, kx_3, kx_4, kx_5, add_int, add_str, add_tup, sub_int, mul_int, mul_str, mod_int, neg_int, eq_op, ne_op, lt_op, le_op, gt_op, ge_op, is_nn, is_in, isnot_nn, isnot_in, in_str, notin_str, in_lst, sub_tup, sub_lst, sub_str, truth_bool, isNil_lst, attr_exn, len_str, len_tup, len_lst, int_str, str_int, range_int, max_int, tuple_lst, list_lst, slice_from, slice_to, slice_both, bound_int, slice_tup, slice_lst, eq_int, eq_strs, excTab3, excTab4, excTab5, seqAt, SZ, IB, atL_some, atI_some, out_nxt, out_ret, out_exc, sub_ref, isNil_ref, attr_ref, len_ref, setLst_ref, setAtt_ref, e, h1, c2, c2', c3, outE]
        · by_cases c4 : (numOf f : Int) + by_ ≤ 999999999
          · have e1 : mvT by_ b (.var f) a = .ok (.tup [.str (sVar ++ digs (numOf f + by_))]) := by simp [mvT, lateOf, c1, c2, c3, c4]
            have ev := var_ok (k + n + 1) _ (show 0 ≤ (numOf f : Int) + by_ by omega) c4 σ
            rw [e1]
            simp [f_moved_within, EV_loc, EV_glo, EV_cnone, EV_cbool, EV_cint, EV_cstr, EV_neg, EV_not, EV_bin, EV_cmp, EV_cmpNil, EV_bop, EV_ite, EV_tup, EV_lst, EV_sub, EV_slice, EV_call, EV_bi, EV_meth, EV_mdig, EV_mjoin, EV_mapp, EV_mpop, EV_attr, EV_fstr, EV_fstrs, EV_comp, ET_not, ET_bop, ET_ite, ET_cmp, ET_cmpNil, ET_loc, ET_call, ET_mdig, ETs_nil, ETs_cons, EB_one, EB_cons, EVs_nil, EVs_cons, EO_none, EO_some, EX_asg, EX_asgT, EX_seta, EX_seti, EX_exp, EX_ret, EX_iff, EX_forr, EX_whil, EX_rais, EX_tryy, EXs_nil, EXs_cons, bnd_okL, bnd_exc, bndE_okL, bndE_exc, rok_someL, nextOf_nxt, nextOf_ret, nextOf_exc, excOf_nxt, excOf_exc, excOf_ret, lk, setL, setLs, capture, resOf, lev_q, lev_top, lev_glo, lev_exc, kn_12, kn_15, kn_19, kn_21, kn_23, kn_25, kn_27, kn_29, kn_31, kn_32, kn_40, kn_45, kn_46, kn_52, kn_57, kn_60, kn_62, kn_6, km_13, km_33, km_34, km_36, km_37, kx_3, kx_4, kx_5, add_int, add_str, add_tup, sub_int, mul_int, mul_str, mod_int, neg_int, eq_op, ne_op, lt_op, le_op, gt_op, ge_op, is_nn, is_in, isnot_nn, isnot_in, in_str, notin_str, in_lst, sub_tup, sub_lst, sub_str, truth_bool, isNil_lst, attr_exn, len_str, len_tup, len_lst, int_str, str_int, range_int, max_int, tuple_lst, list_lst, slice_from, slice_to, slice_both, bound_int, slice_tup, slice_lst, eq_int, eq_strs, excTab3, excTab4, excTab5, seqAt, SZ, IB, atL_some, atI_some, out_nxt, out_ret, out_exc, sub_ref, isNil_ref, attr_ref, len_ref, setLst_ref, setAtt_ref, e, h1, c2, c2', c3, outE, ev]
          · have e1 : mvT by_ b (.var f) a = .error 3 := by simp [mvT, lateOf, c1, c2, c3, c4]
            have ev := var_exc (k + n + 1) _ c4 σ
            rw [e1]
            simp [f_moved_within, EV_loc, EV_glo, EV_cnone, EV_cbool, EV_cint, EV_cstr, EV_neg, EV_not, EV_bin, EV_cmp, EV_cmpNil, EV_bop, EV_ite, EV_tup, EV_lst, EV_sub, EV_slice, EV_call, EV_bi, EV_meth, EV_mdig, EV_mjoin, EV_mapp, EV_mpop, EV_attr, EV_fstr, EV_fstrs, EV_comp, ET_not, ET_bop, ET_ite, ET_cmp, ET_cmpNil, ET_loc, ET_call, ET_mdig, ETs_nil, ETs_cons, EB_one, EB_cons, EVs_nil, EVs_cons, EO_none, EO_some, EX_asg, EX_asgT, EX_seta, EX_seti, EX_exp, EX_ret, EX_iff, EX_forr, EX_whil, EX_rais, EX_tryy, EXs_nil, EXs_cons, bnd_okL, bnd_exc, bndE_okL, bndE_exc, rok_someL, nextOf_nxt, nextOf_ret, nextOf_exc, excOf_nxt, excOf_exc, excOf_ret, lk, setL, setLs, capture, resOf, lev_q, lev_top, lev_glo, lev_exc, kn_12, kn_15, kn_19, kn_21, kn_23, kn_25, kn_27, kn_29, kn_31, kn_32, kn_40, kn_45, kn_46, kn_52, kn_57, kn_60, kn_62, kn_6, km_13, km_33, km_34, km_36, km_37, kx_3, kx_4, kx_5, add_int, add_str, add_tup, sub_int, mul_int, mul_str, mod_int, neg_int, eq_op, ne_op, lt_op, le_op, gt_op, ge_op, is_nn, is_in, isnot_nn, isnot_in, in_str, notin_str, in_lst, sub_tup, sub_lst, sub_str, truth_bool, isNil_lst, attr_exn, len_str, len_tup, len_lst, int_str, str_int, range_int, max_int, tuple_lst, list_lst, slice_from, slice_to, slice_both, bound_int, slice_tup, slice_lst, eq_int, eq_strs, excTab3, excTab4, excTab5, seqAt, SZ, IB, atL_some, atI_some, out_nxt, out_ret, out_exc, sub_ref, isNil_ref, attr_ref, len_ref, setLst_ref, setAtt_ref, e, h1, c2, c2', c3, outE, ev]
      · have c2' : ¬ (b : Int) + a ≤ numOf f := by omega
        have e1 : mvT by_ b (.var f) a = .ok (.tup [.str (sVar ++ f)]) := by simp [mvT, lateOf, c1, c2, h0.can c1]
        rw [e1]
        rw [show (Tm.var f).rep = .tup [.str (sVar ++ f)] from rfl] at e ⊢
        simp [f_moved_within, EV_loc, EV_glo, EV_cnone, EV_cbool, EV_cint, EV_cstr, EV_neg, EV_not, EV_bin, EV_cmp, EV_cmpNil, EV_bop, EV_ite, EV_tup, EV_lst, EV_sub, EV_slice, EV_call, EV_bi, EV_meth, EV_mdig, EV_mjoin, EV_mapp, EV_mpop, EV_attr, EV_fstr, EV_fstrs, EV_comp, ET_not, ET_bop, ET_ite, ET_cmp, ET_cmpNil, ET_loc, ET_call, ET_mdig, ETs_nil, ETs_cons, EB_one, EB_cons, EVs_nil, EVs_cons, EO_none, EO_some, EX_asg, EX_asgT, EX_seta, EX_seti, EX_exp, EX_ret, EX_iff, EX_forr, EX_whil, EX_rais, EX_tryy, EXs_nil, EXs_cons, bnd_okL, bnd_exc, bndE_okL, bndE_exc, rok_someL, nextOf_nxt, nextOf_ret, nextOf_exc, excOf_nxt, excOf_exc, excOf_ret, lk, setL, setLs, capture, resOf, lev_q, lev_top, lev_glo, lev_exc, kn_12, kn_15, kn_19, kn_21, kn_23, kn_25, kn_27, kn_29, kn_31, kn_32, kn_40, kn_45, kn_46, kn_52, kn_57, kn_60, kn_62, kn_6, km_13, km_33, km_34, km_36, km_37, kx_3, kx_4, kx_5, add_int, add_str, add_tup, sub_int, mul_int, mul_str, mod_int, neg_int, eq_op, ne_op, lt_op, le_op, gt_op, ge_op, is_nn, is_in, isnot_nn, isnot_in, in_str, notin_str, in_lst, sub_tup, sub_lst, sub_str, truth_bool, isNil_lst, attr_exn, len_str, len_tup, len_lst, int_str, str_int, range_int, max_int, tuple_lst, list_lst, slice_from, slice_to, slice_both, bound_int, slice_tup, slice_lst, eq_int, eq_strs, excTab3, excTab4, excTab5, seqAt, SZ, IB, atL_some, atI_some, out_nxt, out_ret, out_exc, sub_ref, isNil_ref, attr_ref, len_ref, setLst_ref, setAtt_ref, e, h1, c2, c2', outE, ec_nil]
    · have e := idx_exc (k + n) f ht c1 σ
      have e1 : mvT by_ b (.var f) a = .error 3 := by simp [mvT, lateOf, c1]
      rw [e1]
      simp [f_moved_within, EV_loc, EV_glo, EV_cnone, EV_cbool, EV_cint, EV_cstr, EV_neg, EV_not, EV_bin, EV_cmp, EV_cmpNil, EV_bop, EV_ite, EV_tup, EV_lst, EV_sub, EV_slice, EV_call, EV_bi, EV_meth, EV_mdig, EV_mjoin, EV_mapp, EV_mpop, EV_attr, EV_fstr, EV_fstrs, EV_comp, ET_not, ET_bop, ET_ite, ET_cmp, ET_cmpNil, ET_loc, ET_call, ET_mdig, ETs_nil, ETs_cons, EB_one, EB_cons, EVs_nil, EVs_cons, EO_none, EO_some, EX_asg, EX_asgT, EX_seta, EX_seti, EX_exp, EX_ret, EX_iff, EX_forr, EX_whil, EX_rais, EX_tryy, EXs_nil, EXs_cons, bnd_okL, bnd_exc, bndE_okL, bndE_exc, rok_someL, nextOf_nxt, nextOf_ret, nextOf_exc, excOf_nxt, excOf_exc, excOf_ret, lk, setL, setLs, capture, resOf, lev_q, lev_top, lev_glo, lev_exc, kn_12, kn_15, kn_19, kn_21, kn_23, kn_25, kn_27, kn_29, kn_31, kn_32, kn_40, kn_45, kn_46, kn_52, kn_57, kn_60, kn_62, kn_6, km_13, km_33, km_34, km_36, km_37, kx_3, kx_4, kx_5, add_int, add_str, add_tup, sub_int, mul_int, mul_str, mod_int, neg_int, eq_op, ne_op, lt_op, le_op, gt_op, ge_op, is_nn, is_in, isnot_nn, isnot_in, in_str, notin_str, in_lst, sub_tup, sub_lst, sub_str, truth_bool, isNil_lst, attr_exn, len_str, len_tup, len_lst, int_str, str_int, range_int, max_int, tuple_lst, list_lst, slice_from, slice_to, slice_both, bound_int, slice_tup, slice_lst, eq_int, eq_strs, excTab3, excTab4, excTab5, seqAt, SZ, IB, atL_some, atI_some, out_nxt, out_ret, out_exc, sub_ref, isNil_ref, attr_ref, len_ref, setLst_ref, setAtt_ref, e, outE]
  | oth o =>
    intro a n ht hn
    rw [fn_27 _ _ _ rfl]
    have e := idx_none (k + n) (.oth o) ht rfl σ
    have h1 : ¬ ((b : Int) + a < 0) := by omega
    have h2 : ¬ ((b : Int) + a ≤ -1) := by omega
    rw [show (Tm.oth o).rep = .tup [.str o] from rfl] at e ⊢
    simp [f_moved_within, EV_loc, EV_glo, EV_cnone, EV_cbool, EV_cint, EV_cstr, EV_neg, EV_not, EV_bin, EV_cmp, EV_cmpNil, EV_bop, EV_ite, EV_tup, EV_lst, EV_sub, EV_slice, EV_call, EV_bi, EV_meth, EV_mdig, EV_mjoin, EV_mapp, EV_mpop, EV_attr, EV_fstr, EV_fstrs, EV_comp, ET_not, ET_bop, ET_ite, ET_cmp, ET_cmpNil, ET_loc, ET_call, ET_mdig, ETs_nil, ETs_cons, EB_one, EB_cons, EVs_nil, EVs_cons, EO_none, EO_some, EX_asg, EX_asgT, EX_seta, EX_seti, EX_exp, EX_ret, EX_iff, EX_forr, EX_whil, EX_rais, EX_tryy, EXs_nil, EXs_cons, bnd_okL, bnd_exc, bndE_okL, bndE_exc, rok_someL, nextOf_nxt, nextOf_ret, nextOf_exc, excOf_nxt, excOf_exc, excOf_ret, lk, setL, setLs, capture, resOf, lev_q, lev_top, lev_glo, lev_exc, kn_12, kn_15, kn_19, kn_21, kn_23, kn_25, kn_27, kn_29, kn_31, kn_32, kn_40, kn_45, kn_46, kn_52, kn_57, kn_60, kn_62, kn_6, km_13, km_33, km_34, km_36, km_37, kx_3, kx_4, kx_5, add_int, add_str, add_tup, sub_int, mul_int, mul_str, mod_int, neg_int, eq_op, ne_op, lt_op, le_op, gt_op, ge_op, is_nn, is_in, isnot_nn, isnot_in, in_str, notin_str, in_lst, sub_tup, sub_lst, sub_str, truth_bool, isNil_lst, attr_exn, len_str, len_tup, len_lst, int_str, str_int, range_int, max_int, tuple_lst, list_lst, slice_from, slice_to, slice_both, bound_int, slice_tup, slice_lst, eq_int, eq_strs, excTab3, excTab4, excTab5, seqAt, SZ, IB, atL_some, atI_some, out_nxt, out_ret, out_exc, sub_ref, isNil_ref, attr_ref, len_ref, setLst_ref, setAtt_ref, e, h1, h2, outE, mvT, ec_nil]
  | lam t ih =>
    intro a n ht hn
    simp only [Tm.dep] at hn
    obtain ⟨m, rfl⟩ : ∃ m, n = m + 1 := ⟨n - 1, by omega⟩
    rw [fn_27 _ _ _ rfl]
    have e := idx_none (k + (m + 1)) (.lam t) ht rfl σ
    have eb := below_ok (k + (m + 1) + 3) (.lam t) ht rfl σ
    have h1 : ¬ ((b : Int) + a < 0) := by omega
    have h2 : ¬ ((b : Int) + a ≤ -1) := by omega
    have ih := ih (a + 1) m ht (by omega)
    rw [show k + m + 5 = k + (m + 1) + 4 by omega] at ih
    simp only [Int.natCast_add, Int.natCast_one] at ih
    simp only [Tm.isLam] at eb
    rw [show (Tm.lam t).rep = .tup [.str sLam, t.rep] from rfl] at e eb ⊢
    cases q : mvT by_ b t (a + 1) with
    | ok v =>
      rw [q] at ih
      simp [f_moved_within, EV_loc, EV_glo, EV_cnone, EV_cbool, EV_cint, EV_cstr, EV_neg, EV_not, EV_bin, EV_cmp, EV_cmpNil, EV_bop, EV_ite, EV_tup, EV_lst, EV_sub, EV_slice, EV_call, EV_bi, EV_meth, EV_mdig, EV_mjoin, EV_mapp, EV_mpop, EV_attr, EV_fstr, EV_fstrs, EV_comp, ET_not, ET_bop, ET_ite, ET_cmp, ET_cmpNil, ET_loc, ET_call, ET_mdig, ETs_nil, ETs_cons, EB_one, EB_cons, EVs_nil, EVs_cons, EO_none, EO_some, EX_asg, EX_asgT, EX_seta, EX_seti, EX_exp, EX_ret, EX_iff, EX_forr, EX_whil, EX_rais, EX_tryy, EXs_nil, EXs_cons, bnd_okL, bnd_exc, bndE_okL, bndE_exc, rok_someL, nextOf_nxt, nextOf_ret, nextOf_exc, excOf_nxt, excOf_exc, excOf_ret, lk, setL, setLs, capture, resOf, lev_q, lev_top, lev_glo, lev_exc, kn_12, kn_15, kn_19, kn_21, kn_23, kn_25, kn_27, kn_29, kn_31, kn_32, kn_40, kn_45, kn_46, kn_52, kn_57, kn_60, kn_62, kn_6, km_13, km_33, km_34, km_36, km_37, kx_3, kx_4, kx_5, add_int, add_str, add_tup, sub_int, mul_int, mul_str, mod_int, neg_int, eq_op, ne_op, lt_op, le_op, gt_op, ge_op, is_nn, is_in, isnot_nn, isnot_in, in_str, notin_str, in_lst, sub_tup, sub_lst, sub_str, truth_bool, isNil_lst, attr_exn, len_str, len_tup, len_lst, int_str, str_int, range_int, max_int, tuple_lst, list_lst, slice_from, slice_to, slice_both, bound_int, slice_tup, slice_lst, eq_int, eq_strs, excTab3, excTab4, excTab5, seqAt, SZ, IB, atL_some, atI_some, out_nxt, out_ret, out_exc, sub_ref, isNil_ref, attr_ref, len_ref, setLst_ref, setAtt_ref, e, eb, h1, h2, outE, mvT, ec_one, ih, q]
    | error c =>
      rw [q] at ih
      simp [f_moved_within, EV_loc, EV_glo, EV_cnone, EV_cbool, EV_cint, EV_cstr, EV_neg, EV_not, EV_bin, EV_cmp, EV_cmpNil, EV_bop, EV_ite, EV_tup, EV_lst, EV_sub, EV_slice, EV_call, EV_bi, EV_meth, EV_mdig, EV_mjoin, EV_mapp, EV_mpop, EV_attr, EV_fstr, EV_fstrs, EV_comp, ET_not, ET_bop, ET_ite, ET_cmp, ET_cmpNil, ET_loc, ET_call, ET_mdig, ETs_nil, ETs_cons, EB_one, EB_cons, EVs_nil, EVs_cons, EO_none, EO_some, EX_asg, EX_asgT, EX_seta, EX_seti, EX_exp, EX_ret, EX_iff, EX_forr, EX_whil, EX_rais, EX_tryy, EXs_nil, EXs_cons, bnd_okL, bnd_exc, bndE_okL, bndE_exc, rok_someL, nextOf_nxt, nextOf_ret, nextOf_exc, excOf_nxt, excOf_exc, excOf_ret, lk, setL, setLs, capture, resOf, lev_q, lev_top, lev_glo, lev_exc, kn_12, kn_15, kn_19, kn_21, kn_23, kn_25, kn_27, kn_29, kn_31, kn_32, kn_40, kn_45, kn_46, kn_52, kn_57, kn_60, kn_62, kn_6, km_13, km_33, km_34, km_36, km_37, kx_3, kx_4, kx_5, add_int, add_str, add_tup, sub_int, mul_int, mul_str, mod_int, neg_int, eq_op, ne_op, lt_op, le_op, gt_op, ge_op, is_nn, is_in, isnot_nn, isnot_in, in_str, notin_str, in_lst, sub_tup, sub_lst, sub_str, truth_bool, isNil_lst, attr_exn, len_str, len_tup, len_lst, int_str, str_int, range_int, max_int, tuple_lst, list_lst, slice_from, slice_to, slice_both, bound_int, slice_tup, slice_lst, eq_int, eq_strs, excTab3, excTab4, excTab5, seqAt, SZ, IB, atL_some, atI_some, out_nxt, out_ret, out_exc, sub_ref, isNil_ref, attr_ref, len_ref, setLst_ref, setAtt_ref, e, eb, h1, h2, outE, mvT, ec_one, ih, q]
  | app l r ihl ihr =>
    intro a n ht hn
    simp only [Tm.dep] at hn
    obtain ⟨m, rfl⟩ : ∃ m, n = m + 1 := ⟨n - 1, by omega⟩
    rw [fn_27 _ _ _ rfl]
    have e := idx_none (k + (m + 1)) (.app l r) ht rfl σ
    have eb := below_ok (k + (m + 1) + 3) (.app l r) ht rfl σ
    have h1 : ¬ ((b : Int) + a < 0) := by omega
    have h2 : ¬ ((b : Int) + a ≤ -1) := by omega
    have ihl := ihl a m ht.1 (by omega)
    have ihr := ihr a m ht.2 (by omega)
    rw [show k + m + 5 = k + (m + 1) + 4 by omega] at ihl ihr
    simp only [Tm.isLam] at eb
    rw [show (Tm.app l r).rep = .tup [.str sApp, l.rep, r.rep] from rfl] at e eb ⊢
    cases q : mvT by_ b l a with
    | ok v =>
      rw [q] at ihl
      cases q' : mvT by_ b r a with
      | ok u =>
        rw [q'] at ihr
        simp [f_moved_within, EV_loc, EV_glo, EV_cnone, EV_cbool, EV_cint, EV_cstr, EV_neg, EV_not, EV_bin, EV_cmp, EV_cmpNil, EV_bop, EV_ite, EV_tup, EV_lst, EV_sub, EV_slice, EV_call, EV_bi, EV_meth, EV_mdig, EV_mjoin, EV_mapp, EV_mpop, EV_attr, EV_fstr, EV_fstrs, EV_comp, ET_not, ET_bop, ET_ite, ET_cmp, ET_cmpNil, ET_loc, ET_call, ET_mdig, ETs_nil, ETs_cons, EB_one, EB_cons, EVs_nil, EVs_cons, EO_none, EO_some, EX_asg, EX_asgT, EX_seta, EX_seti, EX_exp, EX_ret, EX_iff, EX_forr, EX_whil, EX_rais, EX_tryy, EXs_nil, EXs_cons, bnd_okL, bnd_exc, bndE_okL, bndE_exc, rok_someL, nextOf_nxt, nextOf_ret, nextOf_exc, excOf_nxt, excOf_exc, excOf_ret, lk, setL, setLs, capture, resOf, lev_q, lev_top, lev_glo, lev_exc, kn_12, kn_15, kn_19, kn_21, kn_23, kn_25, kn_27, kn_29, kn_31, kn_32, kn_40, kn_45, kn_46, kn_52, kn_57, kn_60, kn_62, kn_6, km_13, km_33, km_34, km_36, km_37, kx_3, kx_4, kx_5, add_int, add_str, add_tup, sub_int, mul_int, mul_str, mod_int, neg_int, eq_op, ne_op, lt_op, le_op, gt_op, ge_op, is_nn, is_in, isnot_nn, isnot_in, in_str, notin_str, in_lst, sub_tup, sub_lst, sub_str, truth_bool, isNil_lst, attr_exn, len_str, len_tup, len_lst, int_str, str_int, range_int, max_int, tuple_lst, list_lst, slice_from, slice_to, slice_both, bound_int, slice_tup, slice_lst, eq_int, eq_strs, excTab3, excTab4, excTab5, seqAt, SZ, IB, atL_some, atI_some, out_nxt, out_ret, out_exc, sub_ref, isNil_ref, attr_ref, len_ref, setLst_ref, setAtt_ref, e, eb, h1, h2, outE, mvT, ec_two, ihl, ihr, q, q']
      | error c =>
        rw [q'] at ihr
        simp [f_moved_within, EV_loc, EV_glo, EV_cnone, EV_cbool, EV_cint, EV_cstr, EV_neg, EV_not, EV_bin, EV_cmp, EV_cmpNil, EV_bop, EV_ite, EV_tup, EV_lst, EV_sub, EV_slice, EV_call, EV_bi, EV_meth, EV_mdig, EV_mjoin, EV_mapp, EV_mpop, EV_attr, EV_fstr, EV_fstrs, EV_comp, ET_not, ET_bop, ET_ite, ET_cmp, ET_cmpNil, ET_loc, ET_call, ET_mdig, ETs_nil, ETs_cons, EB_one, EB_cons, EVs_nil, EVs_cons, EO_none, EO_some, EX_asg, EX_asgT, EX_seta, EX_seti, EX_exp, EX_ret, EX_iff, EX_forr, EX_whil, EX_rais, EX_tryy, EXs_nil, EXs_cons, bnd_okL, bnd_exc, bndE_okL, bndE_exc, rok_someL, nextOf_nxt, nextOf_ret, nextOf_exc, excOf_nxt, excOf_exc, excOf_ret, lk, setL, setLs, capture, resOf, lev_q, lev_top, lev_glo, lev_exc, kn_12, kn_15, kn_19, kn_21, kn_23, kn_25, kn_27, kn_29, kn_31, kn_32, kn_40, kn_45, kn_46, kn_52, kn_57, kn_60, kn_62, kn_6, km_13, km_33, km_34, km_36, km_37, kx_3, kx_4, kx_5, add_int, add_str, add_tup, sub_int, mul_int, mul_str, mod_int, neg_int, eq_op, ne_op, lt_op, le_op, gt_op, ge_op, is_nn, is_in, isnot_nn, isnot_in, in_str, notin_str, in_lst, sub_tup, sub_lst, sub_str, truth_bool, isNil_lst, attr_exn, len_str, len_tup, len_lst, int_str, str_int, range_int, max_int, tuple_lst, list_lst, slice_from, slice_to, slice_both, bound_int, slice_tup, slice_lst, eq_int, eq_strs, excTab3, excTab4, excTab5, seqAt, SZ, IB, atL_some, atI_some, out_nxt, out_ret, out_exc, sub_ref, isNil_ref, attr_ref, len_ref, setLst_ref, setAtt_ref, e, eb, h1, h2, outE, mvT, ec_two, ihl, ihr, q, q']
    | error c =>
      rw [q] at ihl
      simp [f_moved_within, EV_loc, EV_glo, EV_cnone, EV_cbool, EV_cint, EV_cstr, EV_neg, EV_not, EV_bin, EV_cmp, EV_cmpNil, EV_bop, EV_ite, EV_tup, EV_lst, EV_sub, EV_slice, EV_call, EV_bi, EV_meth, EV_mdig, EV_mjoin, EV_mapp, EV_mpop, EV_attr, EV_fstr, EV_fstrs, EV_comp, ET_not, ET_bop, ET_ite, ET_cmp, ET_cmpNil, ET_loc, ET_call, ET_mdig, ETs_nil, ETs_cons, EB_one, EB_cons, EVs_nil, EVs_cons, EO_none, EO_some, EX_asg, EX_asgT, EX_seta, EX_seti, EX_exp, EX_ret, EX_iff, EX_forr, EX_whil, EX_rais, EX_tryy, EXs_nil, EXs_cons, bnd_okL, bnd_exc, bndE_okL, bndE_exc, rok_someL, nextOf_nxt, nextOf_ret, nextOf_exc, excOf_nxt, excOf_exc, excOf_ret, lk, setL, setLs, capture, resOf, lev_q, lev_top, lev_glo, lev_exc, kn_12, kn_15, kn_19, kn_21, kn_23, kn_25, kn_27, kn_29, kn_31, kn_32, kn_40, kn_45, kn_46, kn_52, kn_57, kn_60, kn_62, kn_6, km_13, km_33, km_34, km_36, km_37, kx_3, kx_4, kx_5, add_int, add_str, add_tup, sub_int, mul_int, mul_str, mod_int, neg_int, eq_op, ne_op, lt_op, le_op, gt_op, ge_op, is_nn, is_in, isnot_nn, isnot_in, in_str, notin_str, in_lst, sub_tup, sub_lst, sub_str, truth_bool, isNil_lst, attr_exn, len_str, len_tup, len_lst, int_str, str_int, range_int, max_int, tuple_lst, list_lst, slice_from, slice_to, slice_both, bound_int, slice_tup, slice_lst, eq_int, eq_strs, excTab3, excTab4, excTab5, seqAt, SZ, IB, atL_some, atI_some, out_nxt, out_ret, out_exc, sub_ref, isNil_ref, attr_ref, len_ref, setLst_ref, setAtt_ref, e, eb, h1, h2, outE, mvT, ec_two, ihl, q]
theorem shifted_ok (k : Nat) (by_ : Int) (b : Nat) (hb : b ≤ 100) (hby : by_.natAbs ≤ 1000000000) (σ : Store) (t : Tm) (n : Nat) (ht : t.ok) (hn : t.dep ≤ n) :
    (lev gloT (k + n + 6)).fn 29 [t.rep, .int by_, .int b] σ = some (outE σ (mvT by_ b t 0)) := by
  rw [fn_29 _ _ _ rfl]
  have e := moved_ok k by_ b hb hby σ t 0 n ht hn
  cases q : mvT by_ b t 0 with
  | ok v =>
    rw [q] at e
    simp [f_shifted, EV_loc, EV_glo, EV_cnone, EV_cbool, EV_cint, EV_cstr, EV_neg, EV_not, EV_bin, EV_cmp, EV_cmpNil, EV_bop, EV_ite, EV_tup, EV_lst, EV_sub, EV_slice, EV_call, EV_bi, EV_meth, EV_mdig, EV_mjoin, EV_mapp, EV_mpop, EV_attr, EV_fstr, EV_fstrs, EV_comp, ET_not, ET_bop, ET_ite, ET_cmp, ET_cmpNil, ET_loc, ET_call, ET_mdig, ETs_nil, ETs_cons, EB_one, EB_cons, EVs_nil, EVs_cons, EO_none, EO_some, EX_asg, EX_asgT, EX_seta, EX_seti, EX_exp, EX_ret, EX_iff, EX_forr, EX_whil, EX_rais, EX_tryy, EXs_nil, EXs_cons, bnd_okL, bnd_exc, bndE_okL, bndE_exc, rok_someL, nextOf_nxt, nextOf_ret, nextOf_exc, excOf_nxt, excOf_exc, excOf_ret, lk, setL, setLs, capture, resOf, lev_q, lev_top, lev_glo, lev_exc, kn_12, kn_15, kn_19, kn_21, kn_23, kn_25, kn_27, kn_29, kn_31, kn_32, kn_40, kn_45, kn_46, kn_52, kn_57, kn_60, kn_62, kn_6, km_13, km_33, km_34, km_36, km_37, kx_3, kx_4, kx_5, add_int, add_str, add_tup, sub_int, mul_int, mul_str, mod_int, neg_int, eq_op, ne_op, lt_op, le_op, gt_op, ge_op, is_nn, is_in, isnot_nn, isnot_in, in_str, notin_str, in_lst, sub_tup, sub_lst, sub_str, truth_bool, isNil_lst, attr_exn, len_str, len_tup, len_lst, int_str, str_int, range_int, max_int, tuple_lst, list_lst, slice_from, slice_to, slice_both, bound_int, slice_tup, slice_lst, eq_int, eq_strs, excTab3, excTab4, excTab5, seqAt, SZ, IB, atL_some, atI_some, out_nxt, out_ret, out_exc, sub_ref, isNil_ref, attr_ref, len_ref, setLst_ref, setAtt_ref, outE] at e ⊢
    simp [EV_loc, EV_glo, EV_cnone, EV_cbool, EV_cint, EV_cstr, EV_neg, EV_not, EV_bin, EV_cmp, EV_cmpNil, EV_bop, EV_ite, EV_tup, EV_lst, EV_sub, EV_slice, EV_call, EV_bi, EV_meth, EV_mdig, EV_mjoin, EV_mapp, EV_mpop, EV_attr, EV_fstr, EV_fstrs, EV_comp, ET_not, ET_bop, ET_ite, ET_cmp, ET_cmpNil, ET_loc, ET_call, ET_mdig, ETs_nil, ETs_cons, EB_one, EB_cons, EVs_nil, EVs_cons, EO_none, EO_some, EX_asg, EX_asgT, EX_seta, EX_seti, EX_exp, EX_ret, EX_iff, EX_forr, EX_whil, EX_rais, EX_tryy, EXs_nil, EXs_cons, bnd_okL, bnd_exc, bndE_okL, bndE_exc, rok_someL, nextOf_nxt, nextOf_ret, nextOf_exc, excOf_nxt, excOf_exc, excOf_ret, lk, setL, setLs, capture, resOf, lev_q, lev_top, lev_glo, lev_exc, kn_12, kn_15, kn_19, kn_21, kn_23, kn_25, kn_27, kn_29, kn_31, kn_32, kn_40, kn_45, kn_46, kn_52, kn_57, kn_60, kn_62, kn_6, km_13, km_33, km_34, km_36, km_37, kx_3, kx_4, kx_5, add_int, add_str, add_tup, sub_int, mul_int, mul_str, mod_int, neg_int, eq_op, ne_op, lt_op, le_op, gt_op, ge_op, is_nn, is_in, isnot_nn, isnot_in, in_str, notin_str, in_lst, sub_tup, sub_lst, sub_str, truth_bool, isNil_lst, attr_exn, len_str, len_tup, len_lst, int_str, str_int, range_int, max_int, tuple_lst, list_lst, slice_from, slice_to, slice_both, bound_int, slice_tup, slice_lst, eq_int, eq_strs, excTab3, excTab4, excTab5, seqAt, SZ, IB, atL_some, atI_some, out_nxt, out_ret, out_exc, sub_ref, isNil_ref, attr_ref, len_ref, setLst_ref, setAtt_ref, e]
  | error c =>
    rw [q] at e
    simp [f_shifted, EV_loc, EV_glo, EV_cnone, EV_cbool, EV_cint, EV_cstr, EV_neg, EV_not, EV_bin, EV_cmp, EV_cmpNil, EV_bop, EV_ite, EV_tup, EV_lst, EV_sub, EV_slice, EV_call, EV_bi, EV_meth, EV_mdig, EV_mjoin, EV_mapp, EV_mpop, EV_attr, EV_fstr, EV_fstrs, EV_comp, ET_not, ET_bop, ET_ite, ET_cmp, ET_cmpNil, ET_loc, ET_call, ET_mdig, ETs_nil, ETs_cons, EB_one, EB_cons, EVs_nil, EVs_cons, EO_none, EO_some, EX_asg, EX_asgT, EX_seta, EX_seti, EX_exp, EX_ret, EX_iff, EX_forr, EX_whil, EX_rais, EX_tryy, EXs_nil, EXs_cons, bnd_okL, bnd_exc, bndE_okL, bndE_exc, rok_someL, nextOf_nxt, nextOf_ret, nextOf_exc, excOf_nxt, excOf_exc, excOf_ret, lk, setL, setLs, capture, resOf, lev_q, lev_top, lev_glo, lev_exc, kn_12, kn_15, kn_19, kn_21, kn_23, kn_25, kn_27, kn_29, kn_31, kn_32, kn_40, kn_45, kn_46, kn_52, kn_57, kn_60, kn_62, kn_6, km_13, km_33, km_34, km_36, km_37, kx_3, kx_4, kx_5, add_int, add_str, add_tup, sub_int, mul_int, mul_str, mod_int, neg_int, eq_op, ne_op, lt_op, le_op, gt_op, ge_op, is_nn, is_in, isnot_nn, isnot_in, in_str, notin_str, in_lst, sub_tup, sub_lst, sub_str, truth_bool, isNil_lst, attr_exn, len_str, len_tup, len_lst, int_str, str_int, range_int, max_int, tuple_lst, list_lst, slice_from, slice_to, slice_both, bound_int, slice_tup, slice_lst, eq_int, eq_strs, excTab3, excTab4, excTab5, seqAt, SZ, IB, atL_some, atI_some, out_nxt, out_ret, out_exc, sub_ref, isNil_ref, attr_ref, len_ref, setLst_ref, setAtt_ref, outE] at e ⊢
    simp [EV_loc, EV_glo, EV_cnone, EV_cbool, EV_cint, EV_cstr, EV_neg, EV_not, EV_bin, EV_cmp, EV_cmpNil, EV_bop, EV_ite, EV_tup, EV_lst, EV_sub, EV_slice, EV_call, EV_bi, EV_meth, EV_mdig, EV_mjoin, EV_mapp, EV_mpop, EV_attr, EV_fstr, EV_fstrs, EV_comp, ET_not, ET_bop, ET_ite, ET_cmp, ET_cmpNil, ET_loc, ET_call, ET_mdig, ETs_nil, ETs_cons, EB_one, EB_cons, EVs_nil, EVs_cons, EO_none, EO_some, EX_asg, EX_asgT, EX_seta, EX_seti, EX_exp, EX_ret, EX_iff, EX_forr, EX_whil, EX_rais, EX_tryy, EXs_nil, EXs_cons, bnd_okL, bnd_exc, bndE_okL, bndE_exc, rok_someL, nextOf_nxt, nextOf_ret, nextOf_exc, excOf_nxt, excOf_exc, excOf_ret, lk, setL, setLs, capture, resOf, lev_q, lev_top, lev_glo, lev_exc, kn_12, kn_15, kn_19, kn_21, kn_23, kn_25, kn_27, kn_29, kn_31, kn_32, kn_40, kn_45, kn_46, kn_52, kn_57, kn_60, kn_62, kn_6, km_13, km_33, km_34, km_36, km_37, kx_3, kx_4, kx_5, add_int, add_str, add_tup, sub_int, mul_int, mul_str, mod_int, neg_int, eq_op, ne_op, lt_op, le_op, gt_op, ge_op, is_nn, is_in, isnot_nn, isnot_in, in_str, notin_str, in_lst, sub_tup, sub_lst, sub_str, truth_bool, isNil_lst, attr_exn, len_str, len_tup, len_lst, int_str, str_int, range_int, max_int, tuple_lst, list_lst, slice_from, slice_to, slice_both, bound_int, slice_tup, slice_lst, eq_int, eq_strs, excTab3, excTab4, excTab5, seqAt, SZ, IB, atL_some, atI_some, out_nxt, out_ret, out_exc, sub_ref, isNil_ref, attr_ref, len_ref, setLst_ref, setAtt_ref, e]
end Mine
end
/-! L10: within their lams -/
section
set_option autoImplicit false
set_option linter.unusedVariables false
set_option linter.unusedSimpArgs false
set_option maxRecDepth 100000
namespace Mine
open PySem
section
variable {Φ : Sig} {elt c : CE} {x : Nat} {ρ : Loc} {σ : Store} {v w : PV}
theorem lk_same (ρ : Loc) (x : Nat) (v : PV) : lk (setL ρ x v) x = some v := by rw [lk_setF]; simp
theorem ecc_one : EC Φ (.loc x) [x] false (some c) (.tup [v]) 0 ρ [] σ = bnd (ET Φ c (setL ρ x v) σ) fun b σ => some (.ok (if b = true then [v] else []) σ) := by
  rw [EC_eq]
  simp only [itemAt, takeV, setLs, condOf]
  simp [SZ]
  congr
  funext b σ
  cases b
  · rw [EC_eq]
    simp [itemAt]
  · rw [EV_loc, lk_same, rok_someL, bnd_okL, EC_eq]
    simp [itemAt]
theorem ecc_two : EC Φ (.loc x) [x] false (some c) (.tup [v, w]) 0 ρ [] σ = bnd (ET Φ c (setL ρ x v) σ) fun b σ => bnd (ET Φ c (setL (setL ρ x v) x w) σ) fun d σ => some (.ok ((if b = true then [v] else []) ++ (if d = true then [w] else [])) σ) := by
  rw [EC_eq]
  simp only [itemAt, takeV, setLs, condOf]
  simp [SZ]
  congr
  funext b σ
  cases b
  · rw [EC_eq]
    simp only [itemAt, takeV, setLs, condOf]
    simp [SZ]
    congr
    funext d σ
    cases d
    · rw [EC_eq]
      simp [itemAt]
    · rw [EV_loc, lk_same, rok_someL, bnd_okL, EC_eq]
      simp [itemAt]
  · rw [EV_loc, lk_same, rok_someL, bnd_okL, EC_eq]
    simp only [itemAt, takeV, setLs, condOf]
    simp [SZ]
    congr
    funext d σ
    cases d
    · rw [EC_eq]
      simp [itemAt]
    · rw [EV_loc, lk_same, rok_someL, bnd_okL, EC_eq]
      simp [itemAt]
end
def clT : Tm → Nat → Except Nat Bool
  | .var f, d => if f.length ≤ 9 then .ok (decide (numOf f < d)) else .error 3
  | .oth _, _ => .ok true
  | .lam t, d => clT t (d + 1)
  | .app l r, d => match clT l d with
    | .ok x => (match clT r d with
      | .ok y => .ok (x && y)
      | .error e => .error e)
    | .error e => .error e
def outB (σ : Store) : Except Nat Bool → R PV
  | .ok v => .ok (.bool v) σ
  | .error c => .exc ⟨c, none⟩ σ
theorem closed_below_ok (k : Nat) (σ : Store) : ∀ (t : Tm) (a n : Nat), t.ok → t.dep ≤ n →
    (lev gloT (k + n + 5)).fn 31 [t.rep, .int a] σ = some (outB σ (clT t a)) := by
  intro t
  induction t with
  | var f =>
    intro a n ht hn
    rw [fn_31 _ _ _ rfl]
    have h0 : FigOk f := ht
    by_cases c1 : f.length ≤ 9
    · have e := idx_ok (k + n) f ht c1 σ
      have e1 : clT (.var f) a = .ok (decide (numOf f < a)) := by simp [clT, c1]
      rw [e1]
      simp [f_is_closed_below, EV_loc, EV_glo, EV_cnone, EV_cbool, EV_cint, EV_cstr, EV_neg, EV_not, EV_bin, EV_cmp, EV_cmpNil, EV_bop, EV_ite, EV_tup, EV_lst, EV_sub, EV_slice, EV_call, EV_bi, EV_meth, EV_mdig, EV_mjoin, EV_mapp, EV_mpop, EV_attr, EV_fstr, EV_fstrs, EV_comp, ET_not, ET_bop, ET_ite, ET_cmp, ET_cmpNil, ET_loc, ET_call, ET_mdig, ETs_nil, ETs_cons, EB_one, EB_cons, EVs_nil, EVs_cons, EO_none, EO_some, EX_asg, EX_asgT, EX_seta, EX_seti, EX_exp, EX_ret, EX_iff, EX_forr, EX_whil, EX_rais, EX_tryy, EXs_nil, EXs_cons, bnd_okL, bnd_exc, bndE_okL, bndE_exc, rok_someL, nextOf_nxt, nextOf_ret, nextOf_exc, excOf_nxt, excOf_exc, excOf_ret, lk, setL, setLs, capture, resOf, lev_q, lev_top, lev_glo, lev_exc, kn_12, kn_15, kn_19, kn_21, kn_23, kn_25, kn_27, kn_29, kn_31, kn_32, kn_40, kn_45, kn_46, kn_52, kn_57, kn_60, kn_62, kn_6, km_13, km_33, km_34, km_36, km_37, kx_3, kx_4, kx_5, add_int, add_str, add_tup, sub_int, mul_int, mul_str, mod_int, neg_int, eq_op, ne_op, lt_op, le_op, gt_op, ge_op, is_nn, is_in, isnot_nn, isnot_in, in_str, notin_str, in_lst, sub_tup, sub_lst, sub_str, truth_bool, isNil_lst, attr_exn, len_str, len_tup, len_lst, int_str, str_int, range_int, max_int, tuple_lst, list_lst, slice_from, slice_to, slice_both, bound_int, slice_tup, slice_lst, eq_int, eq_strs, excTab3, excTab4, excTab5, seqAt, SZ, IB, atL_some, atI_some, out_nxt, out_ret, out_exc, sub_ref, isNil_ref, attr_ref, len_ref, setLst_ref, setAtt_ref, e, outB]
    · have e := idx_exc (k + n) f ht c1 σ
      have e1 : clT (.var f) a = .error 3 := by simp [clT, c1]
      rw [e1]
      simp [f_is_closed_below, EV_loc, EV_glo, EV_cnone, EV_cbool, EV_cint, EV_cstr, EV_neg, EV_not, EV_bin, EV_cmp, EV_cmpNil, EV_bop, EV_ite, EV_tup, EV_lst, EV_sub, EV_slice, EV_call, EV_bi, EV_meth, EV_mdig, EV_mjoin, EV_mapp, EV_mpop, EV_attr, EV_fstr, EV_fstrs, EV_comp, ET_not, ET_bop, ET_ite, ET_cmp, ET_cmpNil, ET_loc, ET_call, ET_mdig, ETs_nil, ETs_cons, EB_one, EB_cons, EVs_nil, EVs_cons, EO_none, EO_some, EX_asg, EX_asgT, EX_seta, EX_seti, EX_exp, EX_ret, EX_iff, EX_forr, EX_whil, EX_rais, EX_tryy, EXs_nil, EXs_cons, bnd_okL, bnd_exc, bndE_okL, bndE_exc, rok_someL, nextOf_nxt, nextOf_ret, nextOf_exc, excOf_nxt, excOf_exc, excOf_ret, lk, setL, setLs, capture, resOf, lev_q, lev_top, lev_glo, lev_exc, kn_12, kn_15, kn_19, kn_21, kn_23, kn_25, kn_27, kn_29, kn_31, kn_32, kn_40, kn_45, kn_46, kn_52, kn_57, kn_60, kn_62, kn_6, km_13, km_33, km_34, km_36, km_37, kx_3, kx_4, kx_5, add_int, add_str, add_tup, sub_int, mul_int, mul_str, mod_int, neg_int, eq_op, ne_op, lt_op, le_op, gt_op, ge_op, is_nn, is_in, isnot_nn, isnot_in, in_str, notin_str, in_lst, sub_tup, sub_lst, sub_str, truth_bool, isNil_lst, attr_exn, len_str, len_tup, len_lst, int_str, str_int, range_int, max_int, tuple_lst, list_lst, slice_from, slice_to, slice_both, bound_int, slice_tup, slice_lst, eq_int, eq_strs, excTab3, excTab4, excTab5, seqAt, SZ, IB, atL_some, atI_some, out_nxt, out_ret, out_exc, sub_ref, isNil_ref, attr_ref, len_ref, setLst_ref, setAtt_ref, e, outB]
  | oth o =>
    intro a n ht hn
    rw [fn_31 _ _ _ rfl]
    have e := idx_none (k + n) (.oth o) ht rfl σ
    rw [show (Tm.oth o).rep = .tup [.str o] from rfl] at e ⊢
    simp [f_is_closed_below, EV_loc, EV_glo, EV_cnone, EV_cbool, EV_cint, EV_cstr, EV_neg, EV_not, EV_bin, EV_cmp, EV_cmpNil, EV_bop, EV_ite, EV_tup, EV_lst, EV_sub, EV_slice, EV_call, EV_bi, EV_meth, EV_mdig, EV_mjoin, EV_mapp, EV_mpop, EV_attr, EV_fstr, EV_fstrs, EV_comp, ET_not, ET_bop, ET_ite, ET_cmp, ET_cmpNil, ET_loc, ET_call, ET_mdig, ETs_nil, ETs_cons, EB_one, EB_cons, EVs_nil, EVs_cons, EO_none, EO_some, EX_asg, EX_asgT, EX_seta, EX_seti, EX_exp, EX_ret, EX_iff, EX_forr, EX_whil, EX_rais, EX_tryy, EXs_nil, EXs_cons, bnd_okL, bnd_exc, bndE_okL, bndE_exc, rok_someL, nextOf_nxt, nextOf_ret, nextOf_exc, excOf_nxt, excOf_exc, excOf_ret, lk, setL, setLs, capture, resOf, lev_q, lev_top, lev_glo, lev_exc, kn_12, kn_15, kn_19, kn_21, kn_23, kn_25, kn_27, kn_29, kn_31, kn_32, kn_40, kn_45, kn_46, kn_52, kn_57, kn_60, kn_62, kn_6, km_13, km_33, km_34, km_36, km_37, kx_3, kx_4, kx_5, add_int, add_str, add_tup, sub_int, mul_int, mul_str, mod_int, neg_int, eq_op, ne_op, lt_op, le_op, gt_op, ge_op, is_nn, is_in, isnot_nn, isnot_in, in_str, notin_str, in_lst, sub_tup, sub_lst, sub_str, truth_bool, isNil_lst, attr_exn, len_str, len_tup, len_lst, int_str, str_int, range_int, max_int, tuple_lst, list_lst, slice_from, slice_to, slice_both, bound_int, slice_tup, slice_lst, eq_int, eq_strs, excTab3, excTab4, excTab5, seqAt, SZ, IB, atL_some, atI_some, out_nxt, out_ret, out_exc, sub_ref, isNil_ref, attr_ref, len_ref, setLst_ref, setAtt_ref, e, outB, clT, ec_nil]
  | lam t ih =>
    intro a n ht hn
    simp only [Tm.dep] at hn
    obtain ⟨m, rfl⟩ : ∃ m, n = m + 1 := ⟨n - 1, by omega⟩
    rw [fn_31 _ _ _ rfl]
    have e := idx_none (k + (m + 1)) (.lam t) ht rfl σ
    have eb := below_ok (k + (m + 1) + 3) (.lam t) ht rfl σ
    have ih := ih (a + 1) m ht (by omega)
    rw [show k + m + 5 = k + (m + 1) + 4 by omega] at ih
    simp only [Int.natCast_add, Int.natCast_one] at ih
    simp only [Tm.isLam] at eb
    rw [show (Tm.lam t).rep = .tup [.str sLam, t.rep] from rfl] at e eb ⊢
    cases q : clT t (a + 1) with
    | ok v =>
      rw [q] at ih
      cases v <;> simp [f_is_closed_below, EV_loc, EV_glo, EV_cnone, EV_cbool, EV_cint, EV_cstr, EV_neg, EV_not, EV_bin, EV_cmp, EV_cmpNil, EV_bop, EV_ite, EV_tup, EV_lst, EV_sub, EV_slice, EV_call, EV_bi, EV_meth, EV_mdig, EV_mjoin, EV_mapp, EV_mpop, EV_attr, EV_fstr, EV_fstrs, EV_comp, ET_not, ET_bop, ET_ite, ET_cmp, ET_cmpNil, ET_loc, ET_call, ET_mdig, ETs_nil, ETs_cons, EB_one, EB_cons, EVs_nil, EVs_cons, EO_none, EO_some, EX_asg, EX_asgT, EX_seta, EX_seti, EX_exp, EX_ret, EX_iff, EX_forr, EX_whil, EX_rais, EX_tryy, EXs_nil, EXs_cons, bnd_okL, bnd_exc, bndE_okL, bndE_exc, rok_someL, nextOf_nxt, nextOf_ret, nextOf_exc, excOf_nxt, excOf_exc, excOf_ret, lk, setL, setLs, capture, resOf, lev_q, lev_top, lev_glo, lev_exc, kn_12, kn_15, kn_19, kn_21, kn_23, kn_25, kn_27, kn_29, kn_31, kn_32, kn_40, kn_45, kn_46, kn_52, kn_57, kn_60, kn_62, kn_6, km_13, km_33, km_34, km_36, km_37, kx_3, kx_4, kx_5, add_int, add_str, add_tup, sub_int, mul_int, mul_str, mod_int, neg_int, eq_op, ne_op, lt_op, le_op, gt_op, ge_op, is_nn, is_in, isnot_nn, isnot_in, in_str, notin_str, in_lst, sub_tup, sub_lst, sub_str, truth_bool, isNil_lst, attr_exn, len_str, len_tup, len_lst, int_str, str_int, range_int, max_int, tuple_lst, list_lst, slice_from, slice_to, slice_both, bound_int, slice_tup, slice_lst, eq_int, eq_strs, excTab3, excTab4, excTab5, seqAt, SZ, IB, atL_some, atI_some, out_nxt, out_ret, out_exc, sub_ref, isNil_ref, attr_ref, len_ref, setLst_ref, setAtt_ref, e, eb, outB, clT, ecc_one, ih, q]
    | error c =>
      rw [q] at ih
      simp [f_is_closed_below, EV_loc, EV_glo, EV_cnone, EV_cbool, EV_cint, EV_cstr, EV_neg, EV_not, EV_bin, EV_cmp, EV_cmpNil, EV_bop, EV_ite, EV_tup, EV_lst, EV_sub, EV_slice, EV_call, EV_bi, EV_meth, EV_mdig, EV_mjoin, EV_mapp, EV_mpop, EV_attr, EV_fstr, EV_fstrs, EV_comp, ET_not, ET_bop, ET_ite, ET_cmp, ET_cmpNil, ET_loc, ET_call, ET_mdig, ETs_nil, ETs_cons, EB_one, EB_cons, EVs_nil, EVs_cons, EO_none, EO_some, EX_asg, EX_asgT, EX_seta, EX_seti, EX_exp, EX_ret, EX_iff, EX_forr, EX_whil, EX_rais, EX_tryy, EXs_nil, EXs_cons, bnd_okL, bnd_exc, bndE_okL, bndE_exc, rok_someL, nextOf_nxt, nextOf_ret, nextOf_exc, excOf_nxt, excOf_exc, excOf_ret, lk, setL, setLs, capture, resOf, lev_q, lev_top, lev_glo, lev_exc, kn_12, kn_15, kn_19, kn_21, kn_23, kn_25, kn_27, kn_29, kn_31, kn_32, kn_40, kn_45, kn_46, kn_52, kn_57, kn_60, kn_62, kn_6, km_13, km_33, km_34, km_36, km_37, kx_3, kx_4, kx_5, add_int, add_str, add_tup, sub_int, mul_int, mul_str, mod_int, neg_int, eq_op, ne_op, lt_op, le_op, gt_op, ge_op, is_nn, is_in, isnot_nn, isnot_in, in_str, notin_str, in_lst, sub_tup, sub_lst, sub_str, truth_bool, isNil_lst, attr_exn, len_str, len_tup, len_lst, int_str, str_int, range_int, max_int, tuple_lst, list_lst, slice_from, slice_to, slice_both, bound_int, slice_tup, slice_lst, eq_int, eq_strs, excTab3, excTab4, excTab5, seqAt, SZ, IB, atL_some, atI_some, out_nxt, out_ret, out_exc, sub_ref, isNil_ref, attr_ref, len_ref, setLst_ref, setAtt_ref, e, eb, outB, clT, ecc_one, ih, q]
  | app l r ihl ihr =>
    intro a n ht hn
    simp only [Tm.dep] at hn
    obtain ⟨m, rfl⟩ : ∃ m, n = m + 1 := ⟨n - 1, by omega⟩
    rw [fn_31 _ _ _ rfl]
    have e := idx_none (k + (m + 1)) (.app l r) ht rfl σ
    have eb := below_ok (k + (m + 1) + 3) (.app l r) ht rfl σ
    have ihl := ihl a m ht.1 (by omega)
    have ihr := ihr a m ht.2 (by omega)
    rw [show k + m + 5 = k + (m + 1) + 4 by omega] at ihl ihr
    simp only [Tm.isLam] at eb
    rw [show (Tm.app l r).rep = .tup [.str sApp, l.rep, r.rep] from rfl] at e eb ⊢
    cases q : clT l a with
    | ok v =>
      rw [q] at ihl
      cases q' : clT r a with
      | ok u =>
        rw [q'] at ihr
        cases u <;> cases v <;> simp [f_is_closed_below, EV_loc, EV_glo, EV_cnone, EV_cbool, EV_cint, EV_cstr, EV_neg, EV_not, EV_bin, EV_cmp, EV_cmpNil, EV_bop, EV_ite, EV_tup, EV_lst, EV_sub, EV_slice, EV_call, EV_bi, EV_meth, EV_mdig, EV_mjoin, EV_mapp, EV_mpop, EV_attr, EV_fstr, EV_fstrs, EV_comp, ET_not, ET_bop, ET_ite, ET_cmp, ET_cmpNil, ET_loc, ET_call, ET_mdig, ETs_nil, ETs_cons, EB_one, EB_cons, EVs_nil, EVs_cons, EO_none, EO_some, EX_asg, EX_asgT, EX_seta, EX_seti, EX_exp, EX_ret, EX_iff, EX_forr, EX_whil, EX_rais, EX_tryy, EXs_nil, EXs_cons, bnd_okL, bnd_exc, bndE_okL, bndE_exc, rok_someL, nextOf_nxt, nextOf_ret, nextOf_exc, excOf_nxt, excOf_exc, excOf_ret, lk, setL, setLs, capture, resOf, lev_q, lev_top, lev_glo, lev_exc, kn_12, kn_15, kn_19, kn_21, kn_23, kn_25, kn_27, kn_29, kn_31, kn_32, kn_40, kn_45, kn_46, kn_52, kn_57, kn_60, kn_62, kn_6, km_13, km_33, km_34, km_36, km_37, kx_3, kx_4, kx_5, add_int, add_str, add_tup, sub_int, mul_int, mul_str, mod_int, neg_int, eq_op, ne_op, lt_op, le_op, gt_op, ge_op, is_nn, is_in, isnot_nn, isnot_in, in_str, notin_str, in_lst, sub_tup, sub_lst, sub_str, truth_bool, isNil_lst, attr_exn, len_str, len_tup, len_lst, int_str, str_int, range_int, max_int, tuple_lst, list_lst, slice_from, slice_to, slice_both, bound_int, slice_tup, slice_lst, eq_int, eq_strs, excTab3, excTab4, excTab5, seqAt, SZ, IB, atL_some, atI_some, out_nxt, out_ret, out_exc, sub_ref, isNil_ref, attr_ref, len_ref, setLst_ref, setAtt_ref, e, eb, outB, clT, ecc_two, ihl, ihr, q, q']
      | error c =>
        rw [q'] at ihr
        simp [f_is_closed_below, EV_loc, EV_glo, EV_cnone, EV_cbool, EV_cint, EV_cstr, EV_neg, EV_not, EV_bin, EV_cmp, EV_cmpNil, EV_bop, EV_ite, EV_tup, EV_lst, EV_sub, EV_slice, EV_call, EV_bi, EV_meth, EV_mdig, EV_mjoin, EV_mapp, EV_mpop, EV_attr, EV_fstr, EV_fstrs, EV_comp, ET_not, ET_bop, ET_ite, ET_cmp, ET_cmpNil, ET_loc, ET_call, ET_mdig, ETs_nil, ETs_cons, EB_one, EB_cons, EVs_nil, EVs_cons, EO_none, EO_some, EX_asg, EX_asgT, EX_seta, EX_seti, EX_exp, EX_ret, EX_iff, EX_forr, EX_whil, EX_rais, EX_tryy, EXs_nil, EXs_cons, bnd_okL, bnd_exc, bndE_okL, bndE_exc, rok_someL, nextOf_nxt, nextOf_ret, nextOf_exc, excOf_nxt, excOf_exc, excOf_ret, lk, setL, setLs, capture, resOf, lev_q, lev_top, lev_glo, lev_exc, kn_12, kn_15, kn_19, kn_21, kn_23, kn_25, kn_27, kn_29, kn_31, kn_32, kn_40, kn_45, kn_46, kn_52, kn_57, kn_60, kn_62, kn_6, km_13, km_33, km_34, km_36, km_37, kx_3, kx_4, kx_5, add_int, add_str, add_tup, sub_int, mul_int, mul_str, mod_int, neg_int, eq_op, ne_op, lt_op, le_op, gt_op, ge_op, is_nn, is_in, isnot_nn, isnot_in, in_str, notin_str, in_lst, sub_tup, sub_lst, sub_str, truth_bool, isNil_lst, attr_exn, len_str, len_tup, len_lst, int_str, str_int, range_int, max_int, tuple_lst, list_lst, slice_from, slice_to, slice_both, bound_int, slice_tup, slice_lst, eq_int, eq_strs, excTab3, excTab4, excTab5, seqAt, SZ, IB, atL_some, atI_some, out_nxt, out_ret, out_exc, sub_ref, isNil_ref, attr_ref, len_ref, setLst_ref, setAtt_ref, e, eb, outB, clT, ecc_two, ihl, ihr, q, q']
    | error c =>
      rw [q] at ihl
      simp [f_is_closed_below, EV_loc, EV_glo, EV_cnone, EV_cbool, EV_cint, EV_cstr, EV_neg, EV_not, EV_bin, EV_cmp, EV_cmpNil, EV_bop, EV_ite, EV_tup, EV_lst, EV_sub, EV_slice, EV_call, EV_bi, EV_meth, EV_mdig, EV_mjoin, EV_mapp, EV_mpop, EV_attr, EV_fstr, EV_fstrs, EV_comp, ET_not, ET_bop, ET_ite, ET_cmp, ET_cmpNil, ET_loc, ET_call, ET_mdig, ETs_nil, ETs_cons, EB_one, EB_cons, EVs_nil, EVs_cons, EO_none, EO_some, EX_asg, EX_asgT, EX_seta, EX_seti, EX_exp, EX_ret, EX_iff, EX_forr, EX_whil, EX_rais, EX_tryy, EXs_nil, EXs_cons, bnd_okL, bnd_exc, bndE_okL, bndE_exc, rok_someL, nextOf_nxt, nextOf_ret, nextOf_exc, excOf_nxt, excOf_exc, excOf_ret, lk, setL, setLs, capture, resOf, lev_q, lev_top, lev_glo, lev_exc, kn_12, kn_15, kn_19, kn_21, kn_23, kn_25, kn_27, kn_29, kn_31, kn_32, kn_40, kn_45, kn_46, kn_52, kn_57, kn_60, kn_62, kn_6, km_13, km_33, km_34, km_36, km_37, kx_3, kx_4, kx_5, add_int, add_str, add_tup, sub_int, mul_int, mul_str, mod_int, neg_int, eq_op, ne_op, lt_op, le_op, gt_op, ge_op, is_nn, is_in, isnot_nn, isnot_in, in_str, notin_str, in_lst, sub_tup, sub_lst, sub_str, truth_bool, isNil_lst, attr_exn, len_str, len_tup, len_lst, int_str, str_int, range_int, max_int, tuple_lst, list_lst, slice_from, slice_to, slice_both, bound_int, slice_tup, slice_lst, eq_int, eq_strs, excTab3, excTab4, excTab5, seqAt, SZ, IB, atL_some, atI_some, out_nxt, out_ret, out_exc, sub_ref, isNil_ref, attr_ref, len_ref, setLst_ref, setAtt_ref, e, eb, outB, clT, ecc_two, ihl, q]
theorem closed_ok (k : Nat) (σ : Store) (t : Tm) (n : Nat) (ht : t.ok) (hn : t.dep ≤ n) : (lev gloT (k + n + 6)).fn 32 [t.rep] σ = some (outB σ (clT t 0)) := by
  rw [fn_32 _ _ _ rfl]
  have e := closed_below_ok k σ t 0 n ht hn
  cases q : clT t 0 with
  | ok v =>
    rw [q] at e
    simp [outB] at e ⊢
    simp [f_is_closed, EV_loc, EV_glo, EV_cnone, EV_cbool, EV_cint, EV_cstr, EV_neg, EV_not, EV_bin, EV_cmp, EV_cmpNil, EV_bop, EV_ite, EV_tup, EV_lst, EV_sub, EV_slice, EV_call, EV_bi, EV_meth, EV_mdig, EV_mjoin, EV_mapp, EV_mpop, EV_attr, EV_fstr, EV_fstrs, EV_comp, ET_not, ET_bop, ET_ite, ET_cmp, ET_cmpNil, ET_loc, ET_call, ET_mdig, ETs_nil, ETs_cons, EB_one, EB_cons, EVs_nil, EVs_cons, EO_none, EO_some, EX_asg, EX_asgT, EX_seta, EX_seti, EX_exp, EX_ret, EX_iff, EX_forr, EX_whil, EX_rais, EX_tryy, EXs_nil, EXs_cons, bnd_okL, bnd_exc, bndE_okL, bndE_exc, rok_someL, nextOf_nxt, nextOf_ret, nextOf_exc, excOf_nxt, excOf_exc, excOf_ret, lk, setL, setLs, capture, resOf, lev_q, lev_top, lev_glo, lev_exc, kn_12, kn_15, kn_19, kn_21, kn_23, kn_25, kn_27, kn_29, kn_31, kn_32, kn_40, kn_45, kn_46, kn_52, kn_57, kn_60, kn_62, kn_6, km_13, km_33, km_34, km_36, km_37, kx_3, kx_4, kx_5, add_int, add_str, add_tup, sub_int, mul_int, mul_str, mod_int, neg_int, eq_op, ne_op, lt_op, le_op, gt_op, ge_op, is_nn, is_in, isnot_nn, isnot_in, in_str, notin_str, in_lst, sub_tup, sub_lst, sub_str, truth_bool, isNil_lst, attr_exn, len_str, len_tup, len_lst, int_str, str_int, range_int, max_int, tuple_lst, list_lst, slice_from, slice_to, slice_both, bound_int, slice_tup, slice_lst, eq_int, eq_strs, excTab3, excTab4, excTab5, seqAt, SZ, IB, atL_some, atI_some, out_nxt, out_ret, out_exc, sub_ref, isNil_ref, attr_ref, len_ref, setLst_ref, setAtt_ref, e]
  | error c =>
    rw [q] at e
    simp [outB] at e ⊢
    simp [f_is_closed, EV_loc, EV_glo, EV_cnone, EV_cbool, EV_cint, EV_cstr, EV_neg, EV_not, EV_bin, EV_cmp, EV_cmpNil, EV_bop, EV_ite, EV_tup, EV_lst, EV_sub, EV_slice, EV_call, EV_bi, EV_meth, EV_mdig, EV_mjoin, EV_mapp, EV_mpop, EV_attr, EV_fstr, EV_fstrs, EV_comp, ET_not, ET_bop, ET_ite, ET_cmp, ET_cmpNil, ET_loc, ET_call, ET_mdig, ETs_nil, ETs_cons, EB_one, EB_cons, EVs_nil, EVs_cons, EO_none, EO_some, EX_asg, EX_asgT, EX_seta, EX_seti, EX_exp, EX_ret, EX_iff, EX_forr, EX_whil, EX_rais, EX_tryy, EXs_nil, EXs_cons, bnd_okL, bnd_exc, bndE_okL, bndE_exc, rok_someL, nextOf_nxt, nextOf_ret, nextOf_exc, excOf_nxt, excOf_exc, excOf_ret, lk, setL, setLs, capture, resOf, lev_q, lev_top, lev_glo, lev_exc, kn_12, kn_15, kn_19, kn_21, kn_23, kn_25, kn_27, kn_29, kn_31, kn_32, kn_40, kn_45, kn_46, kn_52, kn_57, kn_60, kn_62, kn_6, km_13, km_33, km_34, km_36, km_37, kx_3, kx_4, kx_5, add_int, add_str, add_tup, sub_int, mul_int, mul_str, mod_int, neg_int, eq_op, ne_op, lt_op, le_op, gt_op, ge_op, is_nn, is_in, isnot_nn, isnot_in, in_str, notin_str, in_lst, sub_tup, sub_lst, sub_str, truth_bool, isNil_lst, attr_exn, len_str, len_tup, len_lst, int_str, str_int, range_int, max_int, tuple_lst, list_lst, slice_from, slice_to, slice_both, bound_int, slice_tup, slice_lst, eq_int, eq_strs, excTab3, excTab4, excTab5, seqAt, SZ, IB, atL_some, atI_some, out_nxt, out_ret, out_exc, sub_ref, isNil_ref, attr_ref, len_ref, setLst_ref, setAtt_ref, e]
end Mine
end
/-! L11: what the law reckons -/
section
set_option autoImplicit false
set_option linter.unusedVariables false
set_option linter.unusedSimpArgs false
set_option maxRecDepth 100000
namespace Mine
open PySem
def lateAll (by_ : Int) (b : Nat) : List (List Nat × Nat) → Except Nat (List Int)
  | [] => .ok []
  | (f, a) :: r => match lateOf by_ b a f with
    | .ok i => (match lateAll by_ b r with
      | .ok l => .ok (i :: l)
      | .error e => .error e)
    | .error e => .error e
def wordOf (c : Nat) : List Nat := if c = 3 then sLimit else sTerm
def lateBody : List CS := [.iff (.cmp .Is (.loc 22) .cnone) [.ret (.tup [(.cstr [108, 105, 109, 105, 116]), .cnone])] [], .asg 58 (.ite (.cmp .GtE (.loc 22) (.bin .Add (.loc 14) (.loc 2))) (.bin .Add (.loc 22) (.loc 26)) (.loc 22)), .iff (.bop true [(.cmp .GtE (.loc 22) (.bin .Add (.loc 14) (.loc 2))), (.cmp .Lt (.loc 58) (.loc 2))]) [.ret (.tup [(.cstr [116, 101, 114, 109]), .cnone])] [], .iff (.cmp .Gt (.loc 58) (.cint 999999999)) [.ret (.tup [(.cstr [108, 105, 109, 105, 116]), .cnone])] [], .exp (.mapp (.loc 38) (.loc 58))]
theorem late_loop (k : Nat) (T : List Nat) (s : List Int) (p : Nat) (by_ : Int) (b : Nat) (rows : List (List Nat × Nat)) (hok : ∀ x ∈ rows, FigOk x.1) (hr : rows.length ≤ 10) : ∀ (rest : List (List Nat × Nat)) (i : Nat) (ρ : Loc) (acc : List Int), rows.drop i = rest → acc.length ≤ i → i ≤ rows.length →
    lk ρ 26 = some (.int by_) → lk ρ 14 = some (.int b) → lk ρ 38 = some (.ref 3) →
    match lateAll by_ b rest with
    | .ok l => ∃ ρ', lk ρ' 38 = some (.ref 3) ∧ EF (lev gloT k) [22, 2] true (.ref 2) i lateBody ρ (fd T s p [.lst (rows.map rowOf), .lst (acc.map .int)]) = some (.nxt ρ' (fd T s p [.lst (rows.map rowOf), .lst ((acc ++ l).map .int)]))
    | .error c => ∃ ρ' l, EF (lev gloT k) [22, 2] true (.ref 2) i lateBody ρ (fd T s p [.lst (rows.map rowOf), .lst (acc.map .int)]) = some (.ret (.tup [.str (wordOf c), .none]) ρ' (fd T s p [.lst (rows.map rowOf), .lst l])) := by
  intro rest
  induction rest with
  | nil =>
    intro i ρ acc h1 h2 h3 h4 h5 h6
    refine ⟨ρ, h6, ?_⟩
    have hi : i = rows.length := by
      have := congrArg List.length h1
      simp at this
      omega
    rw [EF_eq]
    simp [itemAt, fd, hi]
  | cons x rest ih =>
    intro i ρ acc h1 h2 h3 h4 h5 h6
    obtain ⟨f, a⟩ := x
    have hi : i < rows.length := by
      have := congrArg List.length h1
      simp at this
      omega
    have hx : rows[i] = (f, a) := by
      rw [List.drop_eq_getElem_cons hi] at h1
      exact (List.cons.inj h1).1
    have hd : rows.drop (i + 1) = rest := by
      rw [List.drop_eq_getElem_cons hi] at h1
      exact (List.cons.inj h1).2
    have hf : FigOk f := by
      have := hok _ (List.getElem_mem hi)
      rw [hx] at this
      exact this
    have hit : itemAt (fd T s p [.lst (rows.map rowOf), .lst (acc.map .int)]) true (.ref 2) i = some (some (.tup [idxOf f, .int a])) := by
      simp [itemAt, fd, hi, hx, rowOf]
    rw [EF_eq, hit]
    simp only [takeV, setLs]
    have ha : acc.length ≤ 100000 := by omega
    by_cases c1 : f.length ≤ 9
    · have e0 : idxOf f = .int (numOf f) := by simp [idxOf, c1]
      rw [e0]
      have hle := num_le hf c1
      by_cases c2 : b + a ≤ numOf f
      · have c2' : (b : Int) + a ≤ numOf f := by omega
        by_cases c3 : (numOf f : Int) + by_ < a
        · have e1 : lateAll by_ b ((f, a) :: rest) = .error 4 := by simp [lateAll, lateOf, c1, c2, c3]
          rw [e1]
          refine ⟨setL (setL (setL ρ 22 (.int (numOf f))) 2 (.int a)) 58 (.int (numOf f + by_)), acc.map .int, ?_⟩
          simp [lateBody, EV_loc, EV_glo, EV_cnone, EV_cbool, EV_cint, EV_cstr, EV_neg, EV_not, EV_bin, EV_cmp, EV_cmpNil, EV_bop, EV_ite, EV_tup, EV_lst, EV_sub, EV_slice, EV_call, EV_bi, EV_meth, EV_mdig, EV_mjoin, EV_mapp, EV_mpop, EV_attr, EV_fstr, EV_fstrs, EV_comp, ET_not, ET_bop, ET_ite, ET_cmp, ET_cmpNil, ET_loc, ET_call, ET_mdig, ETs_nil, ETs_cons, EB_one, EB_cons, EVs_nil, EVs_cons, EO_none, EO_some, EX_asg, EX_asgT, EX_seta, EX_seti, EX_exp, EX_ret, EX_iff, EX_forr, EX_whil, EX_rais, EX_tryy, EXs_nil, EXs_cons, bnd_okL, bnd_exc, bndE_okL, bndE_exc, rok_someL, nextOf_nxt, nextOf_ret, nextOf_exc, excOf_nxt, excOf_exc, excOf_ret, lk, setL, setLs, capture, resOf, lev_q, lev_top, lev_glo, lev_exc, kn_12, kn_15, kn_19, kn_21, kn_23, kn_25, kn_27, kn_29, kn_31, kn_32, kn_40, kn_45, kn_46, kn_52, kn_57, kn_60, kn_62, kn_6, km_13, km_33, km_34, km_36, km_37, kx_3, kx_4, kx_5, add_int, add_str, add_tup, sub_int, mul_int, mul_str, mod_int, neg_int, eq_op, ne_op, lt_op, le_op, gt_op, ge_op, is_nn, is_in, isnot_nn, isnot_in, in_str, notin_str, in_lst, sub_tup, sub_lst, sub_str, truth_bool, isNil_lst, attr_exn, len_str, len_tup, len_lst, int_str, str_int, range_int, max_int, tuple_lst, list_lst, slice_from, slice_to, slice_both, bound_int, slice_tup, slice_lst, eq_int, eq_strs, excTab3, excTab4, excTab5, seqAt, SZ, IB, atL_some, atI_some, out_nxt, out_ret, out_exc, sub_ref, isNil_ref, attr_ref, len_ref, setLst_ref, setAtt_ref, fd_e2, fd_e3, fd_e4, fd_e5, fd_get0, fd_get1, fd_get2, fd_get3, fd_get4, fd_get5, fd_get, fd_set0, fd_set2, fd_set3, fd_set4, fd_set, fd_len, fd_app, lk_setF, h4, h5, h6, c2, c2', c3, wordOf, sTerm]
        · by_cases c4 : (numOf f : Int) + by_ ≤ 999999999
          · have e1 : lateAll by_ b ((f, a) :: rest) = match lateAll by_ b rest with | .ok l => .ok ((numOf f + by_) :: l) | .error e => .error e := by simp [lateAll, lateOf, c1, c2, c3, c4]
            have c4' : ¬ 999999999 < (numOf f : Int) + by_ := by omega
            have ih := ih (i + 1) (setL (setL (setL ρ 22 (.int (numOf f))) 2 (.int a)) 58 (.int (numOf f + by_))) (acc ++ [numOf f + by_]) hd (by simp; omega) (by omega) (by simp [lk_setF, h4]) (by simp [lk_setF, h5]) (by simp [lk_setF, h6])
            rw [e1]
            simp [lateBody, EV_loc, EV_glo, EV_cnone, EV_cbool, EV_cint, EV_cstr, EV_neg, EV_not, EV_bin, EV_cmp, EV_cmpNil, EV_bop, EV_ite, EV_tup, EV_lst, EV_sub, EV_slice, EV_call, EV_bi, EV_meth, EV_mdig, EV_mjoin, EV_mapp, EV_mpop, EV_attr, EV_fstr, EV_fstrs, EV_comp, ET_not, ET_bop, ET_ite, ET_cmp, ET_cmpNil, ET_loc, ET_call, ET_mdig, ETs_nil, ETs_cons, EB_one, EB_cons, EVs_nil, EVs_cons, EO_none, EO_some, EX_asg, EX_asgT, EX_seta, EX_seti, EX_exp, EX_ret, EX_iff, EX_forr, EX_whil, EX_rais, EX_tryy, EXs_nil, EXs_cons, bnd_okL, bnd_exc, bndE_okL, bndE_exc, rok_someL, nextOf_nxt, nextOf_ret, nextOf_exc, excOf_nxt, excOf_exc, excOf_ret, lk, setL, setLs, capture, resOf, lev_q, lev_top, lev_glo, lev_exc, kn_12, kn_15, kn_19, kn_21, kn_23, kn_25, kn_27, kn_29, kn_31, kn_32, kn_40, kn_45, kn_46, kn_52, kn_57, kn_60, kn_62, kn_6, km_13, km_33, km_34, km_36, km_37, kx_3, kx_4, kx_5, add_int, add_str, add_tup, sub_int, mul_int, mul_str, mod_int, neg_int, eq_op, ne_op, lt_op, le_op, gt_op, ge_op, is_nn, is_in, isnot_nn, isnot_in, in_str, notin_str, in_lst, sub_tup, sub_lst, sub_str, truth_bool, isNil_lst, attr_exn, len_str, len_tup, len_lst, int_str, str_int, range_int, max_int, tuple_lst, list_lst, slice_from, slice_to, slice_both, bound_int, slice_tup, slice_lst, eq_int, eq_strs, excTab3, excTab4, excTab5, seqAt, SZ, IB, atL_some, atI_some, out_nxt, out_ret, out_exc, sub_ref, isNil_ref, attr_ref, len_ref, setLst_ref, setAtt_ref, fd_e2, fd_e3, fd_e4, fd_e5, fd_get0, fd_get1, fd_get2, fd_get3, fd_get4, fd_get5, fd_get, fd_set0, fd_set2, fd_set3, fd_set4, fd_set, fd_len, fd_app, lk_setF, h4, h5, h6, c2, c2', c3, c4', ha] at ih ⊢
            cases q : lateAll by_ b rest with
            | ok l =>
              rw [q] at ih
              simpa using ih
            | error c =>
              rw [q] at ih
              simpa using ih
          · have e1 : lateAll by_ b ((f, a) :: rest) = .error 3 := by simp [lateAll, lateOf, c1, c2, c3, c4]
            have c4' : 999999999 < (numOf f : Int) + by_ := by omega
            rw [e1]
            refine ⟨setL (setL (setL ρ 22 (.int (numOf f))) 2 (.int a)) 58 (.int (numOf f + by_)), acc.map .int, ?_⟩
            simp [lateBody, EV_loc, EV_glo, EV_cnone, EV_cbool, EV_cint, EV_cstr, EV_neg, EV_not, EV_bin, EV_cmp, EV_cmpNil, EV_bop, EV_ite, EV_tup, EV_lst, EV_sub, EV_slice, EV_call, EV_bi, EV_meth, EV_mdig, EV_mjoin, EV_mapp, EV_mpop, EV_attr, EV_fstr, EV_fstrs, EV_comp, ET_not, ET_bop, ET_ite, ET_cmp, ET_cmpNil, ET_loc, ET_call, ET_mdig, ETs_nil, ETs_cons, EB_one, EB_cons, EVs_nil, EVs_cons, EO_none, EO_some, EX_asg, EX_asgT, EX_seta, EX_seti, EX_exp, EX_ret, EX_iff, EX_forr, EX_whil, EX_rais, EX_tryy, EXs_nil, EXs_cons, bnd_okL, bnd_exc, bndE_okL, bndE_exc, rok_someL, nextOf_nxt, nextOf_ret, nextOf_exc, excOf_nxt, excOf_exc, excOf_ret, lk, setL, setLs, capture, resOf, lev_q, lev_top, lev_glo, lev_exc, kn_12, kn_15, kn_19, kn_21, kn_23, kn_25, kn_27, kn_29, kn_31, kn_32, kn_40, kn_45, kn_46, kn_52, kn_57, kn_60, kn_62, kn_6, km_13, km_33, km_34, km_36, km_37, kx_3, kx_4, kx_5, add_int, add_str, add_tup, sub_int, mul_int, mul_str, mod_int, neg_int, eq_op, ne_op, lt_op, le_op, gt_op, ge_op, is_nn, is_in, isnot_nn, isnot_in, in_str, notin_str, in_lst, sub_tup, sub_lst, sub_str, truth_bool, isNil_lst, attr_exn, len_str, len_tup, len_lst, int_str, str_int, range_int, max_int, tuple_lst, list_lst, slice_from, slice_to, slice_both, bound_int, slice_tup, slice_lst, eq_int, eq_strs, excTab3, excTab4, excTab5, seqAt, SZ, IB, atL_some, atI_some, out_nxt, out_ret, out_exc, sub_ref, isNil_ref, attr_ref, len_ref, setLst_ref, setAtt_ref, fd_e2, fd_e3, fd_e4, fd_e5, fd_get0, fd_get1, fd_get2, fd_get3, fd_get4, fd_get5, fd_get, fd_set0, fd_set2, fd_set3, fd_set4, fd_set, fd_len, fd_app, lk_setF, h4, h5, h6, c2, c2', c3, c4', wordOf, sLimit]
      · have c2' : ¬ (b : Int) + a ≤ numOf f := by omega
        have e1 : lateAll by_ b ((f, a) :: rest) = match lateAll by_ b rest with | .ok l => .ok ((numOf f : Int) :: l) | .error e => .error e := by simp [lateAll, lateOf, c1, c2]
        have c4' : ¬ 999999999 < (numOf f : Int) := by omega
        have c4 : ¬ 999999999 < numOf f := by omega
        have ih := ih (i + 1) (setL (setL (setL ρ 22 (.int (numOf f))) 2 (.int a)) 58 (.int (numOf f))) (acc ++ [(numOf f : Int)]) hd (by simp; omega) (by omega) (by simp [lk_setF, h4]) (by simp [lk_setF, h5]) (by simp [lk_setF, h6])
        rw [e1]
        simp [lateBody, EV_loc, EV_glo, EV_cnone, EV_cbool, EV_cint, EV_cstr, EV_neg, EV_not, EV_bin, EV_cmp, EV_cmpNil, EV_bop, EV_ite, EV_tup, EV_lst, EV_sub, EV_slice, EV_call, EV_bi, EV_meth, EV_mdig, EV_mjoin, EV_mapp, EV_mpop, EV_attr, EV_fstr, EV_fstrs, EV_comp, ET_not, ET_bop, ET_ite, ET_cmp, ET_cmpNil, ET_loc, ET_call, ET_mdig, ETs_nil, ETs_cons, EB_one, EB_cons, EVs_nil, EVs_cons, EO_none, EO_some, EX_asg, EX_asgT, EX_seta, EX_seti, EX_exp, EX_ret, EX_iff, EX_forr, EX_whil, EX_rais, EX_tryy, EXs_nil, EXs_cons, bnd_okL, bnd_exc, bndE_okL, bndE_exc, rok_someL, nextOf_nxt, nextOf_ret, nextOf_exc, excOf_nxt, excOf_exc, excOf_ret, lk, setL, setLs, capture, resOf, lev_q, lev_top, lev_glo, lev_exc, kn_12, kn_15, kn_19, kn_21, kn_23, kn_25, kn_27, kn_29, kn_31, kn_32, kn_40, kn_45, kn_46, kn_52, kn_57, kn_60, kn_62, kn_6, km_13, km_33, km_34, km_36, km_37, kx_3, kx_4, kx_5, add_int, add_str, add_tup, sub_int, mul_int, mul_str, mod_int, neg_int, eq_op, ne_op, lt_op, le_op, gt_op, ge_op, is_nn, is_in, isnot_nn, isnot_in, in_str, notin_str, in_lst, sub_tup, sub_lst, sub_str, truth_bool, isNil_lst, attr_exn, len_str, len_tup, len_lst, int_str, str_int, range_int, max_int, tuple_lst, list_lst, slice_from, slice_to, slice_both, bound_int, slice_tup, slice_lst, eq_int, eq_strs, excTab3, excTab4, excTab5, seqAt, SZ, IB, atL_some, atI_some, out_nxt, out_ret, out_exc, sub_ref, isNil_ref, attr_ref, len_ref, setLst_ref, setAtt_ref, fd_e2, fd_e3, fd_e4, fd_e5, fd_get0, fd_get1, fd_get2, fd_get3, fd_get4, fd_get5, fd_get, fd_set0, fd_set2, fd_set3, fd_set4, fd_set, fd_len, fd_app, lk_setF, h4, h5, h6, c2, c2', c4, c4', ha] at ih ⊢
        cases q : lateAll by_ b rest with
        | ok l =>
          rw [q] at ih
          simpa using ih
        | error c =>
          rw [q] at ih
          simpa using ih
    · have e0 : idxOf f = .none := by simp [idxOf, c1]
      have e1 : lateAll by_ b ((f, a) :: rest) = .error 3 := by simp [lateAll, lateOf, c1]
      rw [e0, e1]
      refine ⟨setL (setL ρ 22 .none) 2 (.int a), acc.map .int, ?_⟩
      simp [lateBody, EV_loc, EV_glo, EV_cnone, EV_cbool, EV_cint, EV_cstr, EV_neg, EV_not, EV_bin, EV_cmp, EV_cmpNil, EV_bop, EV_ite, EV_tup, EV_lst, EV_sub, EV_slice, EV_call, EV_bi, EV_meth, EV_mdig, EV_mjoin, EV_mapp, EV_mpop, EV_attr, EV_fstr, EV_fstrs, EV_comp, ET_not, ET_bop, ET_ite, ET_cmp, ET_cmpNil, ET_loc, ET_call, ET_mdig, ETs_nil, ETs_cons, EB_one, EB_cons, EVs_nil, EVs_cons, EO_none, EO_some, EX_asg, EX_asgT, EX_seta, EX_seti, EX_exp, EX_ret, EX_iff, EX_forr, EX_whil, EX_rais, EX_tryy, EXs_nil, EXs_cons, bnd_okL, bnd_exc, bndE_okL, bndE_exc, rok_someL, nextOf_nxt, nextOf_ret, nextOf_exc, excOf_nxt, excOf_exc, excOf_ret, lk, setL, setLs, capture, resOf, lev_q, lev_top, lev_glo, lev_exc, kn_12, kn_15, kn_19, kn_21, kn_23, kn_25, kn_27, kn_29, kn_31, kn_32, kn_40, kn_45, kn_46, kn_52, kn_57, kn_60, kn_62, kn_6, km_13, km_33, km_34, km_36, km_37, kx_3, kx_4, kx_5, add_int, add_str, add_tup, sub_int, mul_int, mul_str, mod_int, neg_int, eq_op, ne_op, lt_op, le_op, gt_op, ge_op, is_nn, is_in, isnot_nn, isnot_in, in_str, notin_str, in_lst, sub_tup, sub_lst, sub_str, truth_bool, isNil_lst, attr_exn, len_str, len_tup, len_lst, int_str, str_int, range_int, max_int, tuple_lst, list_lst, slice_from, slice_to, slice_both, bound_int, slice_tup, slice_lst, eq_int, eq_strs, excTab3, excTab4, excTab5, seqAt, SZ, IB, atL_some, atI_some, out_nxt, out_ret, out_exc, sub_ref, isNil_ref, attr_ref, len_ref, setLst_ref, setAtt_ref, fd_e2, fd_e3, fd_e4, fd_e5, fd_get0, fd_get1, fd_get2, fd_get3, fd_get4, fd_get5, fd_get, fd_set0, fd_set2, fd_set3, fd_set4, fd_set, fd_len, fd_app, lk_setF, h4, h5, h6, wordOf, sLimit]
theorem late_ok (k : Nat) (T : List Nat) (s : List Int) (p : Nat) (by_ : Int) (b : Nat) (rows : List (List Nat × Nat)) (hok : ∀ x ∈ rows, FigOk x.1) (hr : rows.length ≤ 10) :
    match lateAll by_ b rows with
    | .ok l => (lev gloT (k + 1)).fn 57 [.ref 2, .int by_, .int b] (fd T s p [.lst (rows.map rowOf)]) = some (.ok (.tup [.str sTold, .ref 3]) (fd T s p [.lst (rows.map rowOf), .lst (l.map .int)]))
    | .error c => ∃ l, (lev gloT (k + 1)).fn 57 [.ref 2, .int by_, .int b] (fd T s p [.lst (rows.map rowOf)]) = some (.ok (.tup [.str (wordOf c), .none]) (fd T s p [.lst (rows.map rowOf), .lst l])) := by
  rw [fn_57 _ _ _ rfl]
  have h := late_loop k T s p by_ b rows hok hr rows 0 [(56, .ref 2), (26, .int by_), (14, .int b), (38, .ref 3)] [] rfl (by simp) (by omega) rfl rfl rfl
  have e : EXs (lev gloT k) f_law_late.2 (f_law_late.1.zip [.ref 2, .int by_, .int b]) (fd T s p [.lst (rows.map rowOf)]) = nextOf (EF (lev gloT k) [22, 2] true (.ref 2) 0 lateBody [(56, .ref 2), (26, .int by_), (14, .int b), (38, .ref 3)] (fd T s p [.lst (rows.map rowOf), .lst []])) fun ρ σ => EXs (lev gloT k) [.ret (.tup [(.cstr [116, 111, 108, 100]), (.loc 38)])] ρ σ := by
    rw [show f_law_late.2 = [.asg 38 (.lst []), .forr [22, 2] true (.loc 56) lateBody, .ret (.tup [(.cstr [116, 111, 108, 100]), (.loc 38)])] from rfl]
    rw [EXs_cons]
    simp only [f_law_late, List.zip_cons_cons, List.zip_nil_right]
    simp [EX_asg, EV_lst, EVs_nil, bnd_okL, bndE_okL, nextOf_nxt, lev_q, SZ, setL, fd_e2, fd_e3, fd_e4, fd_e5, fd_get0, fd_get1, fd_get2, fd_get3, fd_get4, fd_get5, fd_get, fd_set0, fd_set2, fd_set3, fd_set4, fd_set, fd_len, fd_app]
    rw [EXs_cons]
    simp [EX_forr, EV_loc, rok_someL, lev_q, bndE_okL, lk]
  rw [e]
  cases q : lateAll by_ b rows with
  | ok l =>
    rw [q] at h
    obtain ⟨ρ', h1, h2⟩ := h
    simp only [List.map_nil, List.nil_append] at h2
    simp [h2, EV_loc, EV_glo, EV_cnone, EV_cbool, EV_cint, EV_cstr, EV_neg, EV_not, EV_bin, EV_cmp, EV_cmpNil, EV_bop, EV_ite, EV_tup, EV_lst, EV_sub, EV_slice, EV_call, EV_bi, EV_meth, EV_mdig, EV_mjoin, EV_mapp, EV_mpop, EV_attr, EV_fstr, EV_fstrs, EV_comp, ET_not, ET_bop, ET_ite, ET_cmp, ET_cmpNil, ET_loc, ET_call, ET_mdig, ETs_nil, ETs_cons, EB_one, EB_cons, EVs_nil, EVs_cons, EO_none, EO_some, EX_asg, EX_asgT, EX_seta, EX_seti, EX_exp, EX_ret, EX_iff, EX_forr, EX_whil, EX_rais, EX_tryy, EXs_nil, EXs_cons, bnd_okL, bnd_exc, bndE_okL, bndE_exc, rok_someL, nextOf_nxt, nextOf_ret, nextOf_exc, excOf_nxt, excOf_exc, excOf_ret, lk, setL, setLs, capture, resOf, lev_q, lev_top, lev_glo, lev_exc, kn_12, kn_15, kn_19, kn_21, kn_23, kn_25, kn_27, kn_29, kn_31, kn_32, kn_40, kn_45, kn_46, kn_52, kn_57, kn_60, kn_62, kn_6, km_13, km_33, km_34, km_36, km_37, kx_3, kx_4, kx_5, add_int, add_str, add_tup, sub_int, mul_int, mul_str, mod_int, neg_int, eq_op, ne_op, lt_op, le_op, gt_op, ge_op, is_nn, is_in, isnot_nn, isnot_in, in_str, notin_str, in_lst, sub_tup, sub_lst, sub_str, truth_bool, isNil_lst, attr_exn, len_str, len_tup, len_lst, int_str, str_int, range_int, max_int, tuple_lst, list_lst, slice_from, slice_to, slice_both, bound_int, slice_tup, slice_lst, eq_int, eq_strs, excTab3, excTab4, excTab5, seqAt, SZ, IB, atL_some, atI_some, out_nxt, out_ret, out_exc, sub_ref, isNil_ref, attr_ref, len_ref, setLst_ref, setAtt_ref, h1, sTold]
  | error c =>
    rw [q] at h
    obtain ⟨ρ', l, h2⟩ := h
    simp only [List.map_nil] at h2
    exact ⟨l, by simp [h2, nextOf_ret, out_ret]⟩
end Mine
end
/-! L12: the term with its late indexes -/
section
set_option autoImplicit false
set_option linter.unusedVariables false
set_option linter.unusedSimpArgs false
set_option maxRecDepth 100000
namespace Mine
open PySem PySem.W PyProof.Rows
def Tm.cnt : Tm → Nat
  | .var _ => 1
  | .oth _ => 0
  | .lam t => t.cnt
  | .app l r => l.cnt + r.cnt
def ixT (ns : List Int) : Tm → Nat → PV
  | .var _, c => .tup [.str (sVar ++ digs (ns.getD c 0))]
  | .oth o, _ => .tup [.str o]
  | .lam t, c => .tup [.str sLam, ixT ns t c]
  | .app l r, c => .tup [.str sApp, ixT ns l c, ixT ns r (c + l.cnt)]
theorem lvs_cnt : ∀ (t : Tm) (a : Nat), (t.lvs a).length = t.cnt
  | .var _, _ => rfl
  | .oth _, _ => rfl
  | .lam t, a => lvs_cnt t (a + 1)
  | .app l r, a => by
    simp only [Tm.lvs, Tm.cnt, List.length_append]
    rw [lvs_cnt l a, lvs_cnt r a]
theorem late_append (by_ : Int) (b : Nat) : ∀ (x y : List (List Nat × Nat)), lateAll by_ b (x ++ y) = match lateAll by_ b x with
    | .ok l => (match lateAll by_ b y with
      | .ok m => .ok (l ++ m)
      | .error e => .error e)
    | .error e => .error e
  | [], y => by
    simp only [lateAll, List.nil_append]
    cases lateAll by_ b y <;> rfl
  | (f, a) :: r, y => by
    simp only [List.cons_append, lateAll, late_append by_ b r y]
    cases lateOf by_ b a f with
    | error e => rfl
    | ok i =>
      dsimp only
      cases lateAll by_ b r with
      | error e => rfl
      | ok l =>
        dsimp only
        cases lateAll by_ b y <;> rfl
theorem late_len (by_ : Int) (b : Nat) : ∀ (x : List (List Nat × Nat)) (l : List Int), lateAll by_ b x = .ok l → l.length = x.length
  | [], l, h => by cases h; rfl
  | (f, a) :: r, l, h => by
    simp only [lateAll] at h
    cases q : lateOf by_ b a f with
    | error e => rw [q] at h; cases h
    | ok i =>
      rw [q] at h
      dsimp only at h
      cases q' : lateAll by_ b r with
      | error e => rw [q'] at h; cases h
      | ok m =>
        rw [q'] at h
        cases h
        simp [late_len by_ b r m q']
theorem mv_ix (by_ : Int) (b : Nat) : ∀ (t : Tm) (a : Nat) (pre post : List Int), mvT by_ b t a = match lateAll by_ b (t.lvs a) with
    | .ok l => .ok (ixT (pre ++ l ++ post) t pre.length)
    | .error e => .error e
  | .var f, a, pre, post => by
    simp only [mvT, Tm.lvs, lateAll]
    cases lateOf by_ b a f with
    | error e => rfl
    | ok i => simp [ixT]
  | .oth o, a, pre, post => by simp [mvT, Tm.lvs, lateAll, ixT]
  | .lam t, a, pre, post => by
    simp only [mvT, Tm.lvs, ixT]
    rw [mv_ix by_ b t (a + 1) pre post]
    cases lateAll by_ b (t.lvs (a + 1)) <;> rfl
  | .app l r, a, pre, post => by
    simp only [mvT, Tm.lvs, ixT]
    rw [late_append]
    cases q : lateAll by_ b (l.lvs a) with
    | error e =>
      have h := mv_ix by_ b l a pre post
      rw [q] at h
      rw [h]
    | ok x =>
      cases q' : lateAll by_ b (r.lvs a) with
      | error e =>
        have h := mv_ix by_ b l a pre post
        have h' := mv_ix by_ b r a pre post
        rw [q] at h
        rw [q'] at h'
        rw [h, h']
      | ok y =>
        have h := mv_ix by_ b l a pre (y ++ post)
        have h' := mv_ix by_ b r a (pre ++ x) post
        rw [q] at h
        rw [q'] at h'
        rw [h, h']
        have hl := late_len by_ b _ _ q
        rw [lvs_cnt l a] at hl
        simp only [List.length_append, hl, List.append_assoc]
/-- the law's own test: whether a leaf is a variable -/
theorem var_dig {f : List Nat} (h : FigOk f) : f.all (fun c => Nat.blt c 128) = true ∧ (!f.isEmpty && f.all isDig) = true := by
  have h1 := h.dig
  have h2 := h.ne
  constructor
  · simp only [List.all_eq_true] at h1 ⊢
    intro x hx
    have := h1 x hx
    simp [isDig] at this
    simp [Nat.blt_eq]
    omega
  · rw [h1]
    simpa using h2
theorem digs_short {i : Int} (h : i.natAbs < 1000000000000000000) : (digs i).length ≤ 1000 := by
  unfold digs
  rw [List.length_map]
  cases i with
  | ofNat j =>
    have e : toString (Int.ofNat j) = j.repr := rfl
    have h1 : j.repr.length ≤ 64 := nat_repr_length_le (by decide) (by
      have : (Int.ofNat j).natAbs = j := rfl
      rw [this] at h
      exact Nat.lt_trans h (by decide))
    rw [e]
    rw [← String.length_toList] at h1
    omega
  | negSucc j =>
    have e : toString (Int.negSucc j) = "-" ++ (j + 1).repr := rfl
    have h1 : (j + 1).repr.length ≤ 64 := nat_repr_length_le (by decide) (by
      have : (Int.negSucc j).natAbs = j + 1 := rfl
      rw [this] at h
      exact Nat.lt_trans h (by decide))
    rw [e, String.toList_append, List.length_append]
    rw [← String.length_toList] at h1
    have : "-".toList.length = 1 := rfl
    omega
theorem indexed_ok (k : Nat) (T : List Nat) (s : List Int) (p : Nat) (r0 : PO) (ns : List Int) (hn : ns.length ≤ 10) (hb : ∀ x ∈ ns, x.natAbs < 1000000000000000000) : ∀ (t : Tm) (n c : Nat), t.ok → t.dep ≤ n → c + t.cnt ≤ ns.length →
    (lev gloT (k + n + 1)).fn 60 [t.rep, .ref 4, .ref 3] (fd T s p [r0, .lst (ns.map .int), .lst (List.replicate c (.int 0))]) = some (.ok (ixT ns t c) (fd T s p [r0, .lst (ns.map .int), .lst (List.replicate (c + t.cnt) (.int 0))])) := by
  intro t
  induction t with
  | var f =>
    intro n c ht hd hc
    rw [fn_60 _ _ _ rfl]
    have hf : FigOk f := ht
    obtain ⟨d1, d2⟩ := var_dig hf
    have hlen := hf.len
    have h1 : f.length + 3 ≤ 100000 := by omega
    simp only [Tm.cnt] at hc
    have h2 : c < ns.length := by omega
    have h3 : (ns[c]).natAbs < 1000000000000000000 := hb _ (List.getElem_mem h2)
    have h4 : c ≤ 100000 := by omega
    have h5 : c + 1 ≤ 100000 := by omega
    have h6 : ns.length ≤ 100000 := by omega
    have h7 : (c : Int) + 1 - 1 = c := by omega
    have h8 : 3 + (digs ns[c]).length ≤ 100000 := by have := digs_short h3; omega
    have h9 : List.replicate c (PV.int 0) ++ [PV.int 0] = List.replicate (c + 1) (.int 0) := List.replicate_succ'.symm
    cases hff : f with
    | nil => exact absurd hff hf.ne
    | cons x r =>
      subst hff
      simp only [List.all_cons, Bool.and_eq_true] at d1 d2
      have g1 := d1.2
      have g2 := d2.2.2
      simp only [List.all_eq_true] at g1 g2
      by_cases hx : x = 48
      · have hr : r = [] := by
          have := hf.lead (by simp [hx])
          simpa [hx] using this
        subst hx hr
        simp [f_law_indexed, EV_loc, EV_glo, EV_cnone, EV_cbool, EV_cint, EV_cstr, EV_neg, EV_not, EV_bin, EV_cmp, EV_cmpNil, EV_bop, EV_ite, EV_tup, EV_lst, EV_sub, EV_slice, EV_call, EV_bi, EV_meth, EV_mdig, EV_mjoin, EV_mapp, EV_mpop, EV_attr, EV_fstr, EV_fstrs, EV_comp, ET_not, ET_bop, ET_ite, ET_cmp, ET_cmpNil, ET_loc, ET_call, ET_mdig, ETs_nil, ETs_cons, EB_one, EB_cons, EVs_nil, EVs_cons, EO_none, EO_some, EX_asg, EX_asgT, EX_seta, EX_seti, EX_exp, EX_ret, EX_iff, EX_forr, EX_whil, EX_rais, EX_tryy, EXs_nil, EXs_cons, bnd_okL, bnd_exc, bndE_okL, bndE_exc, rok_someL, nextOf_nxt, nextOf_ret, nextOf_exc, excOf_nxt, excOf_exc, excOf_ret, lk, setL, setLs, capture, resOf, lev_q, lev_top, lev_glo, lev_exc, kn_12, kn_15, kn_19, kn_21, kn_23, kn_25, kn_27, kn_29, kn_31, kn_32, kn_40, kn_45, kn_46, kn_52, kn_57, kn_60, kn_62, kn_6, km_13, km_33, km_34, km_36, km_37, kx_3, kx_4, kx_5, add_int, add_str, add_tup, sub_int, mul_int, mul_str, mod_int, neg_int, eq_op, ne_op, lt_op, le_op, gt_op, ge_op, is_nn, is_in, isnot_nn, isnot_in, in_str, notin_str, in_lst, sub_tup, sub_lst, sub_str, truth_bool, isNil_lst, attr_exn, len_str, len_tup, len_lst, int_str, str_int, range_int, max_int, tuple_lst, list_lst, slice_from, slice_to, slice_both, bound_int, slice_tup, slice_lst, eq_int, eq_strs, excTab3, excTab4, excTab5, seqAt, SZ, IB, atL_some, atI_some, out_nxt, out_ret, out_exc, sub_ref, isNil_ref, attr_ref, len_ref, setLst_ref, setAtt_ref, fd_e2, fd_e3, fd_e4, fd_e5, fd_get0, fd_get1, fd_get2, fd_get3, fd_get4, fd_get5, fd_get, fd_set0, fd_set2, fd_set3, fd_set4, fd_set, fd_len, fd_app, Tm.rep, sVar, Tm.cnt, ixT, h2, h3, h4, h5, h6, h7, h8, h9, isDig]
      · have h1' : r.length + 1 + 3 ≤ 100000 := h1
        have h1'' : r.length + 1 ≤ 99997 := by omega
        simp [f_law_indexed, EV_loc, EV_glo, EV_cnone, EV_cbool, EV_cint, EV_cstr, EV_neg, EV_not, EV_bin, EV_cmp, EV_cmpNil, EV_bop, EV_ite, EV_tup, EV_lst, EV_sub, EV_slice, EV_call, EV_bi, EV_meth, EV_mdig, EV_mjoin, EV_mapp, EV_mpop, EV_attr, EV_fstr, EV_fstrs, EV_comp, ET_not, ET_bop, ET_ite, ET_cmp, ET_cmpNil, ET_loc, ET_call, ET_mdig, ETs_nil, ETs_cons, EB_one, EB_cons, EVs_nil, EVs_cons, EO_none, EO_some, EX_asg, EX_asgT, EX_seta, EX_seti, EX_exp, EX_ret, EX_iff, EX_forr, EX_whil, EX_rais, EX_tryy, EXs_nil, EXs_cons, bnd_okL, bnd_exc, bndE_okL, bndE_exc, rok_someL, nextOf_nxt, nextOf_ret, nextOf_exc, excOf_nxt, excOf_exc, excOf_ret, lk, setL, setLs, capture, resOf, lev_q, lev_top, lev_glo, lev_exc, kn_12, kn_15, kn_19, kn_21, kn_23, kn_25, kn_27, kn_29, kn_31, kn_32, kn_40, kn_45, kn_46, kn_52, kn_57, kn_60, kn_62, kn_6, km_13, km_33, km_34, km_36, km_37, kx_3, kx_4, kx_5, add_int, add_str, add_tup, sub_int, mul_int, mul_str, mod_int, neg_int, eq_op, ne_op, lt_op, le_op, gt_op, ge_op, is_nn, is_in, isnot_nn, isnot_in, in_str, notin_str, in_lst, sub_tup, sub_lst, sub_str, truth_bool, isNil_lst, attr_exn, len_str, len_tup, len_lst, int_str, str_int, range_int, max_int, tuple_lst, list_lst, slice_from, slice_to, slice_both, bound_int, slice_tup, slice_lst, eq_int, eq_strs, excTab3, excTab4, excTab5, seqAt, SZ, IB, atL_some, atI_some, out_nxt, out_ret, out_exc, sub_ref, isNil_ref, attr_ref, len_ref, setLst_ref, setAtt_ref, fd_e2, fd_e3, fd_e4, fd_e5, fd_get0, fd_get1, fd_get2, fd_get3, fd_get4, fd_get5, fd_get, fd_set0, fd_set2, fd_set3, fd_set4, fd_set, fd_len, fd_app, Tm.rep, sVar, Tm.cnt, ixT, h2, h3, h4, h5, h6, h7, h8, h9, hx, d1.1, d1.2, d2.2.1, d2.2.2, h1', h1'']
        have g3 : x < 128 ∧ ∀ a, a ∈ r → a < 128 := ⟨by simpa [Nat.blt_eq] using d1.1, fun a ha => by simpa [Nat.blt_eq] using g1 a ha⟩
        rw [if_pos g3]
        simp [EV_loc, EV_glo, EV_cnone, EV_cbool, EV_cint, EV_cstr, EV_neg, EV_not, EV_bin, EV_cmp, EV_cmpNil, EV_bop, EV_ite, EV_tup, EV_lst, EV_sub, EV_slice, EV_call, EV_bi, EV_meth, EV_mdig, EV_mjoin, EV_mapp, EV_mpop, EV_attr, EV_fstr, EV_fstrs, EV_comp, ET_not, ET_bop, ET_ite, ET_cmp, ET_cmpNil, ET_loc, ET_call, ET_mdig, ETs_nil, ETs_cons, EB_one, EB_cons, EVs_nil, EVs_cons, EO_none, EO_some, EX_asg, EX_asgT, EX_seta, EX_seti, EX_exp, EX_ret, EX_iff, EX_forr, EX_whil, EX_rais, EX_tryy, EXs_nil, EXs_cons, bnd_okL, bnd_exc, bndE_okL, bndE_exc, rok_someL, nextOf_nxt, nextOf_ret, nextOf_exc, excOf_nxt, excOf_exc, excOf_ret, lk, setL, setLs, capture, resOf, lev_q, lev_top, lev_glo, lev_exc, kn_12, kn_15, kn_19, kn_21, kn_23, kn_25, kn_27, kn_29, kn_31, kn_32, kn_40, kn_45, kn_46, kn_52, kn_57, kn_60, kn_62, kn_6, km_13, km_33, km_34, km_36, km_37, kx_3, kx_4, kx_5, add_int, add_str, add_tup, sub_int, mul_int, mul_str, mod_int, neg_int, eq_op, ne_op, lt_op, le_op, gt_op, ge_op, is_nn, is_in, isnot_nn, isnot_in, in_str, notin_str, in_lst, sub_tup, sub_lst, sub_str, truth_bool, isNil_lst, attr_exn, len_str, len_tup, len_lst, int_str, str_int, range_int, max_int, tuple_lst, list_lst, slice_from, slice_to, slice_both, bound_int, slice_tup, slice_lst, eq_int, eq_strs, excTab3, excTab4, excTab5, seqAt, SZ, IB, atL_some, atI_some, out_nxt, out_ret, out_exc, sub_ref, isNil_ref, attr_ref, len_ref, setLst_ref, setAtt_ref, fd_e2, fd_e3, fd_e4, fd_e5, fd_get0, fd_get1, fd_get2, fd_get3, fd_get4, fd_get5, fd_get, fd_set0, fd_set2, fd_set3, fd_set4, fd_set, fd_len, fd_app, h2, h3, h4, h5, h6, h7, h8, h9, hx, d1.1, d1.2, d2.2.1, d2.2.2, h1', h1'']
  | oth o =>
    intro n c ht hd hc
    rw [fn_60 _ _ _ rfl]
    simp only [oths, List.mem_cons, List.not_mem_nil, or_false, Tm.ok] at ht
    rcases ht with rfl | rfl | rfl | rfl | rfl | rfl <;> simp [f_law_indexed, EV_loc, EV_glo, EV_cnone, EV_cbool, EV_cint, EV_cstr, EV_neg, EV_not, EV_bin, EV_cmp, EV_cmpNil, EV_bop, EV_ite, EV_tup, EV_lst, EV_sub, EV_slice, EV_call, EV_bi, EV_meth, EV_mdig, EV_mjoin, EV_mapp, EV_mpop, EV_attr, EV_fstr, EV_fstrs, EV_comp, ET_not, ET_bop, ET_ite, ET_cmp, ET_cmpNil, ET_loc, ET_call, ET_mdig, ETs_nil, ETs_cons, EB_one, EB_cons, EVs_nil, EVs_cons, EO_none, EO_some, EX_asg, EX_asgT, EX_seta, EX_seti, EX_exp, EX_ret, EX_iff, EX_forr, EX_whil, EX_rais, EX_tryy, EXs_nil, EXs_cons, bnd_okL, bnd_exc, bndE_okL, bndE_exc, rok_someL, nextOf_nxt, nextOf_ret, nextOf_exc, excOf_nxt, excOf_exc, excOf_ret, lk, setL, setLs, capture, resOf, lev_q, lev_top, lev_glo, lev_exc, kn_12, kn_15, kn_19, kn_21, kn_23, kn_25, kn_27, kn_29, kn_31, kn_32, kn_40, kn_45, kn_46, kn_52, kn_57, kn_60, kn_62, kn_6, km_13, km_33, km_34, km_36, km_37, kx_3, kx_4, kx_5, add_int, add_str, add_tup, sub_int, mul_int, mul_str, mod_int, neg_int, eq_op, ne_op, lt_op, le_op, gt_op, ge_op, is_nn, is_in, isnot_nn, isnot_in, in_str, notin_str, in_lst, sub_tup, sub_lst, sub_str, truth_bool, isNil_lst, attr_exn, len_str, len_tup, len_lst, int_str, str_int, range_int, max_int, tuple_lst, list_lst, slice_from, slice_to, slice_both, bound_int, slice_tup, slice_lst, eq_int, eq_strs, excTab3, excTab4, excTab5, seqAt, SZ, IB, atL_some, atI_some, out_nxt, out_ret, out_exc, sub_ref, isNil_ref, attr_ref, len_ref, setLst_ref, setAtt_ref, Tm.rep, Tm.cnt, ixT, ec_nil, isDig]
  | lam t ih =>
    intro n c ht hd hc
    simp only [Tm.dep] at hd
    obtain ⟨m, rfl⟩ : ∃ m, n = m + 1 := ⟨n - 1, by omega⟩
    rw [show k + (m + 1) + 1 = k + m + 1 + 1 by omega, fn_60 _ _ _ rfl]
    have ih := ih m c ht (by omega) hc
    simp [f_law_indexed, EV_loc, EV_glo, EV_cnone, EV_cbool, EV_cint, EV_cstr, EV_neg, EV_not, EV_bin, EV_cmp, EV_cmpNil, EV_bop, EV_ite, EV_tup, EV_lst, EV_sub, EV_slice, EV_call, EV_bi, EV_meth, EV_mdig, EV_mjoin, EV_mapp, EV_mpop, EV_attr, EV_fstr, EV_fstrs, EV_comp, ET_not, ET_bop, ET_ite, ET_cmp, ET_cmpNil, ET_loc, ET_call, ET_mdig, ETs_nil, ETs_cons, EB_one, EB_cons, EVs_nil, EVs_cons, EO_none, EO_some, EX_asg, EX_asgT, EX_seta, EX_seti, EX_exp, EX_ret, EX_iff, EX_forr, EX_whil, EX_rais, EX_tryy, EXs_nil, EXs_cons, bnd_okL, bnd_exc, bndE_okL, bndE_exc, rok_someL, nextOf_nxt, nextOf_ret, nextOf_exc, excOf_nxt, excOf_exc, excOf_ret, lk, setL, setLs, capture, resOf, lev_q, lev_top, lev_glo, lev_exc, kn_12, kn_15, kn_19, kn_21, kn_23, kn_25, kn_27, kn_29, kn_31, kn_32, kn_40, kn_45, kn_46, kn_52, kn_57, kn_60, kn_62, kn_6, km_13, km_33, km_34, km_36, km_37, kx_3, kx_4, kx_5, add_int, add_str, add_tup, sub_int, mul_int, mul_str, mod_int, neg_int, eq_op, ne_op, lt_op, le_op, gt_op, ge_op, is_nn, is_in, isnot_nn, isnot_in, in_str, notin_str, in_lst, sub_tup, sub_lst, sub_str, truth_bool, isNil_lst, attr_exn, len_str, len_tup, len_lst, int_str, str_int, range_int, max_int, tuple_lst, list_lst, slice_from, slice_to, slice_both, bound_int, slice_tup, slice_lst, eq_int, eq_strs, excTab3, excTab4, excTab5, seqAt, SZ, IB, atL_some, atI_some, out_nxt, out_ret, out_exc, sub_ref, isNil_ref, attr_ref, len_ref, setLst_ref, setAtt_ref, Tm.rep, sLam, Tm.cnt, ixT, ec_one, ih]
  | app l r ihl ihr =>
    intro n c ht hd hc
    simp only [Tm.dep] at hd
    obtain ⟨m, rfl⟩ : ∃ m, n = m + 1 := ⟨n - 1, by omega⟩
    rw [show k + (m + 1) + 1 = k + m + 1 + 1 by omega, fn_60 _ _ _ rfl]
    simp only [Tm.cnt] at hc ⊢
    rw [show c + (l.cnt + r.cnt) = c + l.cnt + r.cnt from (Nat.add_assoc ..).symm]
    have ihl := ihl m c ht.1 (by omega) (by omega)
    have ihr := ihr m (c + l.cnt) ht.2 (by omega) (by omega)
    simp [f_law_indexed, EV_loc, EV_glo, EV_cnone, EV_cbool, EV_cint, EV_cstr, EV_neg, EV_not, EV_bin, EV_cmp, EV_cmpNil, EV_bop, EV_ite, EV_tup, EV_lst, EV_sub, EV_slice, EV_call, EV_bi, EV_meth, EV_mdig, EV_mjoin, EV_mapp, EV_mpop, EV_attr, EV_fstr, EV_fstrs, EV_comp, ET_not, ET_bop, ET_ite, ET_cmp, ET_cmpNil, ET_loc, ET_call, ET_mdig, ETs_nil, ETs_cons, EB_one, EB_cons, EVs_nil, EVs_cons, EO_none, EO_some, EX_asg, EX_asgT, EX_seta, EX_seti, EX_exp, EX_ret, EX_iff, EX_forr, EX_whil, EX_rais, EX_tryy, EXs_nil, EXs_cons, bnd_okL, bnd_exc, bndE_okL, bndE_exc, rok_someL, nextOf_nxt, nextOf_ret, nextOf_exc, excOf_nxt, excOf_exc, excOf_ret, lk, setL, setLs, capture, resOf, lev_q, lev_top, lev_glo, lev_exc, kn_12, kn_15, kn_19, kn_21, kn_23, kn_25, kn_27, kn_29, kn_31, kn_32, kn_40, kn_45, kn_46, kn_52, kn_57, kn_60, kn_62, kn_6, km_13, km_33, km_34, km_36, km_37, kx_3, kx_4, kx_5, add_int, add_str, add_tup, sub_int, mul_int, mul_str, mod_int, neg_int, eq_op, ne_op, lt_op, le_op, gt_op, ge_op, is_nn, is_in, isnot_nn, isnot_in, in_str, notin_str, in_lst, sub_tup, sub_lst, sub_str, truth_bool, isNil_lst, attr_exn, len_str, len_tup, len_lst, int_str, str_int, range_int, max_int, tuple_lst, list_lst, slice_from, slice_to, slice_both, bound_int, slice_tup, slice_lst, eq_int, eq_strs, excTab3, excTab4, excTab5, seqAt, SZ, IB, atL_some, atI_some, out_nxt, out_ret, out_exc, sub_ref, isNil_ref, attr_ref, len_ref, setLst_ref, setAtt_ref, Tm.rep, sApp, Tm.cnt, ixT, ec_two, ihl, ihr]
end Mine
end
/-! L13: the reader of names -/
section
set_option autoImplicit false
set_option linter.unusedVariables false
set_option linter.unusedSimpArgs false
set_option maxRecDepth 100000
namespace Mine
open PySem
def rd (σ0 : Store) (txt : List Nat) (p : Nat) (ar : List PV) : Store := σ0 ++ [.inst 6 [(1, .str txt), (0, .int p), (2, .ref (σ0.length + 1))], .lst ar]
section
variable {σ0 : Store} {txt : List Nat} {p : Nat} {ar br : List PV}
theorem rd_get0 : (rd σ0 txt p ar)[σ0.length]? = some (.inst 6 [(1, .str txt), (0, .int p), (2, .ref (σ0.length + 1))]) := by simp [rd]
theorem rd_get1 : (rd σ0 txt p ar)[σ0.length + 1]? = some (.lst ar) := by simp [rd]
theorem rd_set0 : (rd σ0 txt p ar).set σ0.length (.inst 6 [(1, .str txt), (0, .int (p + 1)), (2, .ref (σ0.length + 1))]) = rd σ0 txt (p + 1) ar := by simp [rd]
theorem rd_set1 : (rd σ0 txt p ar).set (σ0.length + 1) (.lst br) = rd σ0 txt p br := by simp [rd]
end
theorem init_ok (k : Nat) (σ : Store) (txt : List Nat) : (lev gloT (k + 1)).fn 6 [.str txt] σ = some (.ok (.ref σ.length) (rd σ txt 0 [])) := by
  show (runFn (lev gloT k) r_init (.ref σ.length :: [.str txt]) (σ ++ [.inst 6 []])).bind (newOf σ.length) = _
  rw [run_eq rfl]
  simp [r_init, EV_loc, EV_glo, EV_cnone, EV_cbool, EV_cint, EV_cstr, EV_neg, EV_not, EV_bin, EV_cmp, EV_cmpNil, EV_bop, EV_ite, EV_tup, EV_lst, EV_sub, EV_slice, EV_call, EV_bi, EV_meth, EV_mdig, EV_mjoin, EV_mapp, EV_mpop, EV_attr, EV_fstr, EV_fstrs, EV_comp, ET_not, ET_bop, ET_ite, ET_cmp, ET_cmpNil, ET_loc, ET_call, ET_mdig, ETs_nil, ETs_cons, EB_one, EB_cons, EVs_nil, EVs_cons, EO_none, EO_some, EX_asg, EX_asgT, EX_seta, EX_seti, EX_exp, EX_ret, EX_iff, EX_forr, EX_whil, EX_rais, EX_tryy, EXs_nil, EXs_cons, bnd_okL, bnd_exc, bndE_okL, bndE_exc, rok_someL, nextOf_nxt, nextOf_ret, nextOf_exc, excOf_nxt, excOf_exc, excOf_ret, lk, setL, setLs, capture, resOf, lev_q, lev_top, lev_glo, lev_exc, kn_12, kn_15, kn_19, kn_21, kn_23, kn_25, kn_27, kn_29, kn_31, kn_32, kn_40, kn_45, kn_46, kn_52, kn_57, kn_60, kn_62, kn_6, km_13, km_33, km_34, km_36, km_37, kx_3, kx_4, kx_5, add_int, add_str, add_tup, sub_int, mul_int, mul_str, mod_int, neg_int, eq_op, ne_op, lt_op, le_op, gt_op, ge_op, is_nn, is_in, isnot_nn, isnot_in, in_str, notin_str, in_lst, sub_tup, sub_lst, sub_str, truth_bool, isNil_lst, attr_exn, len_str, len_tup, len_lst, int_str, str_int, range_int, max_int, tuple_lst, list_lst, slice_from, slice_to, slice_both, bound_int, slice_tup, slice_lst, eq_int, eq_strs, excTab3, excTab4, excTab5, seqAt, SZ, IB, atL_some, atI_some, out_nxt, out_ret, out_exc, sub_ref, isNil_ref, attr_ref, len_ref, setLst_ref, setAtt_ref, rd, newOf]
theorem at_cut {txt : List Nat} {p c : Nat} (h : txt[p]? = some c) : (txt.take (p + 1)).drop p = [c] := by
  obtain ⟨h1, h2⟩ := List.getElem?_eq_some_iff.mp h
  rw [List.take_succ_eq_append_getElem h1, List.drop_append_of_le_length (by simp; omega)]
  simp [h2]
theorem at_end {txt : List Nat} {p : Nat} (h : txt.length ≤ p) : (txt.take (p + 1)).drop p = [] := by
  rw [List.drop_eq_nil_iff]
  simp
  omega
theorem sign_ok (k : Nat) (σ0 : Store) (txt : List Nat) (p : Nat) (ar : List PV) (hp : p ≤ 5000) (hl : txt.length ≤ 5000) (g : List Nat) (hg : (txt.take (p + 1)).drop p = g) (hs : g ≠ [32]) :
    (lev gloT (k + 1)).meth 6 13 σ0.length [] (rd σ0 txt p ar) = some (.ok (.str g) (rd σ0 txt p ar)) := by
  rw [mt_13 _ _ _ _ _ rfl]
  have h1 : p ≤ 100000 := by omega
  have h1' : (p : Int) ≤ 100000 := by omega
  have h2 : p + 1 ≤ 100000 := by omega
  have h2' : (p : Int) + 1 ≤ 100000 := by omega
  have h2'' : (0 : Int) ≤ (p : Int) + 1 := by omega
  have h4 : txt.length ≤ 100000 := by omega
  have h3 : (g == [32]) = false := by simpa using hs
  have h5 : ((p : Int) + 1).toNat = p + 1 := by omega
  have e : EW (lev gloT k) (.cmp .Eq (.slice (.attr (.loc 8) 1) (some (.attr (.loc 8) 0)) (some (.bin .Add (.attr (.loc 8) 0) (.cint 1)))) (.cstr [32])) [.seta (.loc 8) 0 (.bin .Add (.attr (.loc 8) 0) (.cint 1))] [(8, .ref σ0.length)] (rd σ0 txt p ar) = some (.nxt [(8, .ref σ0.length)] (rd σ0 txt p ar)) := by
    rw [EW_eq]
    simp [EV_loc, EV_glo, EV_cnone, EV_cbool, EV_cint, EV_cstr, EV_neg, EV_not, EV_bin, EV_cmp, EV_cmpNil, EV_bop, EV_ite, EV_tup, EV_lst, EV_sub, EV_slice, EV_call, EV_bi, EV_meth, EV_mdig, EV_mjoin, EV_mapp, EV_mpop, EV_attr, EV_fstr, EV_fstrs, EV_comp, ET_not, ET_bop, ET_ite, ET_cmp, ET_cmpNil, ET_loc, ET_call, ET_mdig, ETs_nil, ETs_cons, EB_one, EB_cons, EVs_nil, EVs_cons, EO_none, EO_some, EX_asg, EX_asgT, EX_seta, EX_seti, EX_exp, EX_ret, EX_iff, EX_forr, EX_whil, EX_rais, EX_tryy, EXs_nil, EXs_cons, bnd_okL, bnd_exc, bndE_okL, bndE_exc, rok_someL, nextOf_nxt, nextOf_ret, nextOf_exc, excOf_nxt, excOf_exc, excOf_ret, lk, setL, setLs, capture, resOf, lev_q, lev_top, lev_glo, lev_exc, kn_12, kn_15, kn_19, kn_21, kn_23, kn_25, kn_27, kn_29, kn_31, kn_32, kn_40, kn_45, kn_46, kn_52, kn_57, kn_60, kn_62, kn_6, km_13, km_33, km_34, km_36, km_37, kx_3, kx_4, kx_5, add_int, add_str, add_tup, sub_int, mul_int, mul_str, mod_int, neg_int, eq_op, ne_op, lt_op, le_op, gt_op, ge_op, is_nn, is_in, isnot_nn, isnot_in, in_str, notin_str, in_lst, sub_tup, sub_lst, sub_str, truth_bool, isNil_lst, attr_exn, len_str, len_tup, len_lst, int_str, str_int, range_int, max_int, tuple_lst, list_lst, slice_from, slice_to, slice_both, bound_int, slice_tup, slice_lst, eq_int, eq_strs, excTab3, excTab4, excTab5, seqAt, SZ, IB, atL_some, atI_some, out_nxt, out_ret, out_exc, sub_ref, isNil_ref, attr_ref, len_ref, setLst_ref, setAtt_ref, rd_get0, h1, h1', h2, h2', h2'', h3, h4, h5, hg]
  simp [r_sign, EV_loc, EV_glo, EV_cnone, EV_cbool, EV_cint, EV_cstr, EV_neg, EV_not, EV_bin, EV_cmp, EV_cmpNil, EV_bop, EV_ite, EV_tup, EV_lst, EV_sub, EV_slice, EV_call, EV_bi, EV_meth, EV_mdig, EV_mjoin, EV_mapp, EV_mpop, EV_attr, EV_fstr, EV_fstrs, EV_comp, ET_not, ET_bop, ET_ite, ET_cmp, ET_cmpNil, ET_loc, ET_call, ET_mdig, ETs_nil, ETs_cons, EB_one, EB_cons, EVs_nil, EVs_cons, EO_none, EO_some, EX_asg, EX_asgT, EX_seta, EX_seti, EX_exp, EX_ret, EX_iff, EX_forr, EX_whil, EX_rais, EX_tryy, EXs_nil, EXs_cons, bnd_okL, bnd_exc, bndE_okL, bndE_exc, rok_someL, nextOf_nxt, nextOf_ret, nextOf_exc, excOf_nxt, excOf_exc, excOf_ret, lk, setL, setLs, capture, resOf, lev_q, lev_top, lev_glo, lev_exc, kn_12, kn_15, kn_19, kn_21, kn_23, kn_25, kn_27, kn_29, kn_31, kn_32, kn_40, kn_45, kn_46, kn_52, kn_57, kn_60, kn_62, kn_6, km_13, km_33, km_34, km_36, km_37, kx_3, kx_4, kx_5, add_int, add_str, add_tup, sub_int, mul_int, mul_str, mod_int, neg_int, eq_op, ne_op, lt_op, le_op, gt_op, ge_op, is_nn, is_in, isnot_nn, isnot_in, in_str, notin_str, in_lst, sub_tup, sub_lst, sub_str, truth_bool, isNil_lst, attr_exn, len_str, len_tup, len_lst, int_str, str_int, range_int, max_int, tuple_lst, list_lst, slice_from, slice_to, slice_both, bound_int, slice_tup, slice_lst, eq_int, eq_strs, excTab3, excTab4, excTab5, seqAt, SZ, IB, atL_some, atI_some, out_nxt, out_ret, out_exc, sub_ref, isNil_ref, attr_ref, len_ref, setLst_ref, setAtt_ref, rd_get0, h1, h1', h2, h2', h2'', h4, h5, hg, e]
theorem want_ok (k : Nat) (σ0 : Store) (txt : List Nat) (p : Nat) (ar : List PV) (hp : p ≤ 5000) (hl : txt.length ≤ 5000) (c : Nat) (hg : txt[p]? = some c) (hs : c ≠ 32) :
    (lev gloT (k + 3)).meth 6 33 σ0.length [.str [c]] (rd σ0 txt p ar) = some (.ok .none (rd σ0 txt (p + 1) ar)) := by
  rw [mt_33 _ _ _ _ _ rfl]
  have e := sign_ok (k + 1) σ0 txt p ar hp hl [c] (at_cut hg) (by simpa using hs)
  simp [r_want, EV_loc, EV_glo, EV_cnone, EV_cbool, EV_cint, EV_cstr, EV_neg, EV_not, EV_bin, EV_cmp, EV_cmpNil, EV_bop, EV_ite, EV_tup, EV_lst, EV_sub, EV_slice, EV_call, EV_bi, EV_meth, EV_mdig, EV_mjoin, EV_mapp, EV_mpop, EV_attr, EV_fstr, EV_fstrs, EV_comp, ET_not, ET_bop, ET_ite, ET_cmp, ET_cmpNil, ET_loc, ET_call, ET_mdig, ETs_nil, ETs_cons, EB_one, EB_cons, EVs_nil, EVs_cons, EO_none, EO_some, EX_asg, EX_asgT, EX_seta, EX_seti, EX_exp, EX_ret, EX_iff, EX_forr, EX_whil, EX_rais, EX_tryy, EXs_nil, EXs_cons, bnd_okL, bnd_exc, bndE_okL, bndE_exc, rok_someL, nextOf_nxt, nextOf_ret, nextOf_exc, excOf_nxt, excOf_exc, excOf_ret, lk, setL, setLs, capture, resOf, lev_q, lev_top, lev_glo, lev_exc, kn_12, kn_15, kn_19, kn_21, kn_23, kn_25, kn_27, kn_29, kn_31, kn_32, kn_40, kn_45, kn_46, kn_52, kn_57, kn_60, kn_62, kn_6, km_13, km_33, km_34, km_36, km_37, kx_3, kx_4, kx_5, add_int, add_str, add_tup, sub_int, mul_int, mul_str, mod_int, neg_int, eq_op, ne_op, lt_op, le_op, gt_op, ge_op, is_nn, is_in, isnot_nn, isnot_in, in_str, notin_str, in_lst, sub_tup, sub_lst, sub_str, truth_bool, isNil_lst, attr_exn, len_str, len_tup, len_lst, int_str, str_int, range_int, max_int, tuple_lst, list_lst, slice_from, slice_to, slice_both, bound_int, slice_tup, slice_lst, eq_int, eq_strs, excTab3, excTab4, excTab5, seqAt, SZ, IB, atL_some, atI_some, out_nxt, out_ret, out_exc, sub_ref, isNil_ref, attr_ref, len_ref, setLst_ref, setAtt_ref, rd_get0, e, rd_set0]
def sAln : List Nat := [97, 98, 99, 100, 101, 102, 103, 104, 105, 106, 107, 108, 109, 110, 111, 112, 113, 114, 115, 116, 117, 118, 119, 120, 121, 122, 65, 66, 67, 68, 69, 70, 71, 72, 73, 74, 75, 76, 77, 78, 79, 80, 81, 82, 83, 84, 85, 86, 87, 88, 89, 90] ++ sFig
def nameT : CE := .bop true [(.cmp .Lt (.attr (.loc 8) 0) (.bi .len [(.attr (.loc 8) 1)])), (.cmp .In (.sub (.attr (.loc 8) 1) (.attr (.loc 8) 0)) (.bin .Add (.glo 35) (.glo 17)))]
def nameB : List CS := [.seta (.loc 8) 0 (.bin .Add (.attr (.loc 8) 0) (.cint 1))]
theorem name_loop (k : Nat) (σ0 : Store) (txt : List Nat) (ar : List PV) (hl : txt.length ≤ 5000) (ρ : Loc) (h8 : lk ρ 8 = some (.ref σ0.length)) : ∀ (nm post : List Nat) (p : Nat), txt.drop p = nm ++ post → p ≤ txt.length → (∀ x ∈ nm, x ∈ sAln) → (∀ x, post.head? = some x → x ∉ sAln) →
    EW (lev gloT k) nameT nameB ρ (rd σ0 txt p ar) = some (.nxt ρ (rd σ0 txt (p + nm.length) ar)) := by
  have e1 : gloT 35 = some (.str [97, 98, 99, 100, 101, 102, 103, 104, 105, 106, 107, 108, 109, 110, 111, 112, 113, 114, 115, 116, 117, 118, 119, 120, 121, 122, 65, 66, 67, 68, 69, 70, 71, 72, 73, 74, 75, 76, 77, 78, 79, 80, 81, 82, 83, 84, 85, 86, 87, 88, 89, 90]) := rfl
  have e2 : gloT 17 = some (.str sFig) := rfl
  have e3 : binop .Add (.str [97, 98, 99, 100, 101, 102, 103, 104, 105, 106, 107, 108, 109, 110, 111, 112, 113, 114, 115, 116, 117, 118, 119, 120, 121, 122, 65, 66, 67, 68, 69, 70, 71, 72, 73, 74, 75, 76, 77, 78, 79, 80, 81, 82, 83, 84, 85, 86, 87, 88, 89, 90]) (.str sFig) = some (.str sAln) := rfl
  have hl' : txt.length ≤ 100000 := by omega
  have eS : ∀ σ, EV (lev gloT k) (.bin .Add (.glo 35) (.glo 17)) ρ σ = some (.ok (.str sAln) σ) := fun σ => by
    simp only [EV_bin, EV_glo, lev_glo, e1, e2, rok_someL, bnd_okL, e3]
  have eL : ∀ p, ET (lev gloT k) (.cmp .Lt (.attr (.loc 8) 0) (.bi .len [(.attr (.loc 8) 1)])) ρ (rd σ0 txt p ar) = some (.ok (decide (p < txt.length)) (rd σ0 txt p ar)) := fun p => by
    simp [EV_loc, EV_glo, EV_cnone, EV_cbool, EV_cint, EV_cstr, EV_neg, EV_not, EV_bin, EV_cmp, EV_cmpNil, EV_bop, EV_ite, EV_tup, EV_lst, EV_sub, EV_slice, EV_call, EV_bi, EV_meth, EV_mdig, EV_mjoin, EV_mapp, EV_mpop, EV_attr, EV_fstr, EV_fstrs, EV_comp, ET_not, ET_bop, ET_ite, ET_cmp, ET_cmpNil, ET_loc, ET_call, ET_mdig, ETs_nil, ETs_cons, EB_one, EB_cons, EVs_nil, EVs_cons, EO_none, EO_some, EX_asg, EX_asgT, EX_seta, EX_seti, EX_exp, EX_ret, EX_iff, EX_forr, EX_whil, EX_rais, EX_tryy, EXs_nil, EXs_cons, bnd_okL, bnd_exc, bndE_okL, bndE_exc, rok_someL, nextOf_nxt, nextOf_ret, nextOf_exc, excOf_nxt, excOf_exc, excOf_ret, lk, setL, setLs, capture, resOf, lev_q, lev_top, lev_glo, lev_exc, kn_12, kn_15, kn_19, kn_21, kn_23, kn_25, kn_27, kn_29, kn_31, kn_32, kn_40, kn_45, kn_46, kn_52, kn_57, kn_60, kn_62, kn_6, km_13, km_33, km_34, km_36, km_37, kx_3, kx_4, kx_5, add_int, add_str, add_tup, sub_int, mul_int, mul_str, mod_int, neg_int, eq_op, ne_op, lt_op, le_op, gt_op, ge_op, is_nn, is_in, isnot_nn, isnot_in, in_str, notin_str, in_lst, sub_tup, sub_lst, sub_str, truth_bool, isNil_lst, attr_exn, len_str, len_tup, len_lst, int_str, str_int, range_int, max_int, tuple_lst, list_lst, slice_from, slice_to, slice_both, bound_int, slice_tup, slice_lst, eq_int, eq_strs, excTab3, excTab4, excTab5, seqAt, SZ, IB, atL_some, atI_some, out_nxt, out_ret, out_exc, sub_ref, isNil_ref, attr_ref, len_ref, setLst_ref, setAtt_ref, h8, rd_get0, hl']
  have eT : ∀ p, p < txt.length → ∀ c, txt[p]? = some c → ET (lev gloT k) nameT ρ (rd σ0 txt p ar) = some (.ok (sAln.contains c) (rd σ0 txt p ar)) := fun p hp c hc => by
    have eI : ET (lev gloT k) (.cmp .In (.sub (.attr (.loc 8) 1) (.attr (.loc 8) 0)) (.bin .Add (.glo 35) (.glo 17))) ρ (rd σ0 txt p ar) = some (.ok (sAln.contains c) (rd σ0 txt p ar)) := by
      rw [ET_cmp, EV_cmp]
      simp only [eS]
      simp [EV_loc, EV_glo, EV_cnone, EV_cbool, EV_cint, EV_cstr, EV_neg, EV_not, EV_bin, EV_cmp, EV_cmpNil, EV_bop, EV_ite, EV_tup, EV_lst, EV_sub, EV_slice, EV_call, EV_bi, EV_meth, EV_mdig, EV_mjoin, EV_mapp, EV_mpop, EV_attr, EV_fstr, EV_fstrs, EV_comp, ET_not, ET_bop, ET_ite, ET_cmp, ET_cmpNil, ET_loc, ET_call, ET_mdig, ETs_nil, ETs_cons, EB_one, EB_cons, EVs_nil, EVs_cons, EO_none, EO_some, EX_asg, EX_asgT, EX_seta, EX_seti, EX_exp, EX_ret, EX_iff, EX_forr, EX_whil, EX_rais, EX_tryy, EXs_nil, EXs_cons, bnd_okL, bnd_exc, bndE_okL, bndE_exc, rok_someL, nextOf_nxt, nextOf_ret, nextOf_exc, excOf_nxt, excOf_exc, excOf_ret, lk, setL, setLs, capture, resOf, lev_q, lev_top, lev_glo, lev_exc, kn_12, kn_15, kn_19, kn_21, kn_23, kn_25, kn_27, kn_29, kn_31, kn_32, kn_40, kn_45, kn_46, kn_52, kn_57, kn_60, kn_62, kn_6, km_13, km_33, km_34, km_36, km_37, kx_3, kx_4, kx_5, add_int, add_str, add_tup, sub_int, mul_int, mul_str, mod_int, neg_int, eq_op, ne_op, lt_op, le_op, gt_op, ge_op, is_nn, is_in, isnot_nn, isnot_in, in_str, notin_str, in_lst, sub_tup, sub_lst, sub_str, truth_bool, isNil_lst, attr_exn, len_str, len_tup, len_lst, int_str, str_int, range_int, max_int, tuple_lst, list_lst, slice_from, slice_to, slice_both, bound_int, slice_tup, slice_lst, eq_int, eq_strs, excTab3, excTab4, excTab5, seqAt, SZ, IB, atL_some, atI_some, out_nxt, out_ret, out_exc, sub_ref, isNil_ref, attr_ref, len_ref, setLst_ref, setAtt_ref, h8, rd_get0, hl', hc]
    rw [nameT, ET_bop, ETs_cons, eL, bnd_okL, if_pos (by simpa using hp), ETs_cons, eI, bnd_okL, ETs_nil]
    cases sAln.contains c <;> rfl
  intro nm
  induction nm with
  | nil =>
    intro post p h1 h2 h3 h4
    rw [EW_eq]
    by_cases hp : p < txt.length
    · have hc : txt[p]? = some txt[p] := List.getElem?_eq_getElem hp
      rw [eT p hp _ hc]
      have : post.head? = some txt[p] := by
        rw [List.nil_append] at h1
        rw [← h1, List.head?_drop, hc]
      have h5 := h4 _ this
      have h6 : sAln.contains txt[p] = false := by simpa using h5
      rw [h6]
      simp [bndE_okL]
    · have h5 : ¬ p < txt.length := hp
      rw [nameT, ET_bop, ETs_cons, eL, bnd_okL]
      simp [h5, bndE_okL]
  | cons c nm ih =>
    intro post p h1 h2 h3 h4
    have hp : p < txt.length := by
      have := congrArg List.length h1
      simp at this
      omega
    have hc : txt[p]? = some c := by
      have := congrArg List.head? h1
      rw [List.head?_drop] at this
      simpa using this
    have hd : txt.drop (p + 1) = nm ++ post := by
      rw [List.drop_eq_getElem_cons hp, List.cons_append] at h1
      exact (List.cons.inj h1).2
    rw [EW_eq, eT p hp c hc]
    have h6 : sAln.contains c = true := by simpa using h3 c (List.mem_cons_self ..)
    rw [h6]
    have ih := ih post (p + 1) hd (by omega) (fun x hx => h3 x (List.mem_cons_of_mem _ hx)) h4
    have eB : EXs (lev gloT k) nameB ρ (rd σ0 txt p ar) = some (.nxt ρ (rd σ0 txt (p + 1) ar)) := by
      simp [nameB, EV_loc, EV_glo, EV_cnone, EV_cbool, EV_cint, EV_cstr, EV_neg, EV_not, EV_bin, EV_cmp, EV_cmpNil, EV_bop, EV_ite, EV_tup, EV_lst, EV_sub, EV_slice, EV_call, EV_bi, EV_meth, EV_mdig, EV_mjoin, EV_mapp, EV_mpop, EV_attr, EV_fstr, EV_fstrs, EV_comp, ET_not, ET_bop, ET_ite, ET_cmp, ET_cmpNil, ET_loc, ET_call, ET_mdig, ETs_nil, ETs_cons, EB_one, EB_cons, EVs_nil, EVs_cons, EO_none, EO_some, EX_asg, EX_asgT, EX_seta, EX_seti, EX_exp, EX_ret, EX_iff, EX_forr, EX_whil, EX_rais, EX_tryy, EXs_nil, EXs_cons, bnd_okL, bnd_exc, bndE_okL, bndE_exc, rok_someL, nextOf_nxt, nextOf_ret, nextOf_exc, excOf_nxt, excOf_exc, excOf_ret, lk, setL, setLs, capture, resOf, lev_q, lev_top, lev_glo, lev_exc, kn_12, kn_15, kn_19, kn_21, kn_23, kn_25, kn_27, kn_29, kn_31, kn_32, kn_40, kn_45, kn_46, kn_52, kn_57, kn_60, kn_62, kn_6, km_13, km_33, km_34, km_36, km_37, kx_3, kx_4, kx_5, add_int, add_str, add_tup, sub_int, mul_int, mul_str, mod_int, neg_int, eq_op, ne_op, lt_op, le_op, gt_op, ge_op, is_nn, is_in, isnot_nn, isnot_in, in_str, notin_str, in_lst, sub_tup, sub_lst, sub_str, truth_bool, isNil_lst, attr_exn, len_str, len_tup, len_lst, int_str, str_int, range_int, max_int, tuple_lst, list_lst, slice_from, slice_to, slice_both, bound_int, slice_tup, slice_lst, eq_int, eq_strs, excTab3, excTab4, excTab5, seqAt, SZ, IB, atL_some, atI_some, out_nxt, out_ret, out_exc, sub_ref, isNil_ref, attr_ref, len_ref, setLst_ref, setAtt_ref, h8, rd_get0, rd_set0]
    rw [bndE_okL, if_pos rfl, eB, nextOf_nxt, ih]
    rw [List.length_cons, show p + 1 + nm.length = p + (nm.length + 1) by omega]
theorem nameN_ok (k : Nat) (σ0 : Store) (txt : List Nat) (ar : List PV) (hl : txt.length ≤ 5000) (nm post : List Nat) (p : Nat) (h1 : txt.drop p = nm ++ post) (h2 : p ≤ txt.length) (h3 : ∀ x ∈ nm, x ∈ sAln) (h4 : ∀ x, post.head? = some x → x ∉ sAln) (h5 : nm ≠ []) :
    (lev gloT (k + 3)).meth 6 34 σ0.length [] (rd σ0 txt p ar) = some (.ok (.str nm) (rd σ0 txt (p + nm.length) ar)) := by
  rw [mt_34 _ _ _ _ _ rfl]
  obtain ⟨c, r, rfl⟩ := List.exists_cons_of_ne_nil h5
  have hc : txt[p]? = some c := by
    have := congrArg List.head? h1
    rw [List.head?_drop] at this
    simpa using this
  have hcs : c ≠ 32 := by
    rintro rfl
    have := h3 32 (List.mem_cons_self ..)
    revert this
    decide
  have e := sign_ok (k + 1) σ0 txt p ar (by omega) hl [c] (at_cut hc) (by simpa using hcs)
  have ew := name_loop (k + 2) σ0 txt ar hl [(8, .ref σ0.length), (14, .int p)] rfl _ _ p h1 h2 h3 h4
  have hlen := congrArg List.length h1
  rw [List.length_drop, List.length_append] at hlen
  have g1 : p ≤ 100000 := by omega
  have g1' : (p : Int) ≤ 100000 := by omega
  have g2 : p + (c :: r).length ≤ 100000 := by omega
  have g3 : txt.length ≤ 100000 := by omega
  have g4 : (txt.take (p + (c :: r).length)).drop p = c :: r := by
    rw [List.drop_take, h1]
    simp
  simp only [List.length_cons] at g2 g4 ew ⊢
  simp only [nameT, nameB] at ew
  have g5 : (p : Int) + ((r.length : Int) + 1) ≤ 100000 := by omega
  have g6 : (0 : Int) ≤ (p : Int) + ((r.length : Int) + 1) := by omega
  have g7 : ((p : Int) + ((r.length : Int) + 1)).toNat = p + (r.length + 1) := by omega
  have g8 : ¬ ((p : Int) + ((r.length : Int) + 1) = p) := by omega
  simp [r_name, EV_loc, EV_glo, EV_cnone, EV_cbool, EV_cint, EV_cstr, EV_neg, EV_not, EV_bin, EV_cmp, EV_cmpNil, EV_bop, EV_ite, EV_tup, EV_lst, EV_sub, EV_slice, EV_call, EV_bi, EV_meth, EV_mdig, EV_mjoin, EV_mapp, EV_mpop, EV_attr, EV_fstr, EV_fstrs, EV_comp, ET_not, ET_bop, ET_ite, ET_cmp, ET_cmpNil, ET_loc, ET_call, ET_mdig, ETs_nil, ETs_cons, EB_one, EB_cons, EVs_nil, EVs_cons, EO_none, EO_some, EX_asg, EX_asgT, EX_seta, EX_seti, EX_exp, EX_ret, EX_iff, EX_forr, EX_whil, EX_rais, EX_tryy, EXs_nil, EXs_cons, bnd_okL, bnd_exc, bndE_okL, bndE_exc, rok_someL, nextOf_nxt, nextOf_ret, nextOf_exc, excOf_nxt, excOf_exc, excOf_ret, lk, setL, setLs, capture, resOf, lev_q, lev_top, lev_glo, lev_exc, kn_12, kn_15, kn_19, kn_21, kn_23, kn_25, kn_27, kn_29, kn_31, kn_32, kn_40, kn_45, kn_46, kn_52, kn_57, kn_60, kn_62, kn_6, km_13, km_33, km_34, km_36, km_37, kx_3, kx_4, kx_5, add_int, add_str, add_tup, sub_int, mul_int, mul_str, mod_int, neg_int, eq_op, ne_op, lt_op, le_op, gt_op, ge_op, is_nn, is_in, isnot_nn, isnot_in, in_str, notin_str, in_lst, sub_tup, sub_lst, sub_str, truth_bool, isNil_lst, attr_exn, len_str, len_tup, len_lst, int_str, str_int, range_int, max_int, tuple_lst, list_lst, slice_from, slice_to, slice_both, bound_int, slice_tup, slice_lst, eq_int, eq_strs, excTab3, excTab4, excTab5, seqAt, SZ, IB, atL_some, atI_some, out_nxt, out_ret, out_exc, sub_ref, isNil_ref, attr_ref, len_ref, setLst_ref, setAtt_ref, rd_get0, e, ew, g1, g1', g2, g3, g4, g5, g6, g7, g8]
end Mine
end
/-! L14: a free name read -/
section
set_option autoImplicit false
set_option linter.unusedVariables false
set_option linter.unusedSimpArgs false
set_option maxRecDepth 100000
namespace Mine
open PySem
def leafB : List CS := [.iff (.cmp .Eq (.sub (.attr (.loc 8) 2) (.bin .Sub (.bin .Sub (.bi .len [(.attr (.loc 8) 2)]) (.cint 1)) (.loc 22))) (.loc 34)) [.ret (.call 23 [(.loc 22)])] []]
theorem leaf_loop (k : Nat) (σ0 : Store) (txt : List Nat) (p : Nat) (ar : List PV) (har : ∀ x ∈ ar, ∃ c, x = .str [c]) (hn : ar.length ≤ 10) (nm : List Nat) (hnm : nm.length ≠ 1) : ∀ (m i : Nat) (ρ : Loc), i + m = ar.length → lk ρ 8 = some (.ref σ0.length) → lk ρ 34 = some (.str nm) →
    ∃ ρ', lk ρ' 8 = some (.ref σ0.length) ∧ lk ρ' 34 = some (.str nm) ∧ EF (lev gloT k) [22] false (.rng ar.length) i leafB ρ (rd σ0 txt p ar) = some (.nxt ρ' (rd σ0 txt p ar)) := by
  intro m
  induction m with
  | zero =>
    intro i ρ h1 h2 h3
    refine ⟨ρ, h2, h3, ?_⟩
    have g : ¬ 100000 < ar.length := by omega
    have g' : ¬ (i : Int) < ar.length := by omega
    rw [EF_eq]
    simp [itemAt, SZ, g, g']
  | succ m ih =>
    intro i ρ h1 h2 h3
    have g : ¬ 100000 < ar.length := by omega
    have g' : (i : Int) < ar.length := by omega
    have g'' : i < ar.length := by omega
    obtain ⟨ρ', a1, a2, a3⟩ := ih (i + 1) (setL ρ 22 (.int i)) (by omega) (by simp [lk_setF, h2]) (by simp [lk_setF, h3])
    refine ⟨ρ', a1, a2, ?_⟩
    have h4 : ar.length - 1 - i < ar.length := by omega
    obtain ⟨c, hc⟩ := har _ (List.getElem_mem h4)
    have h5 : ((ar.length : Int) - 1 - i).toNat = ar.length - 1 - i := by omega
    have h6 : (0 : Int) ≤ (ar.length : Int) - 1 - i := by omega
    have h6' : (i : Int) ≤ (ar.length : Int) - 1 := by omega
    have h7 : ar.length ≤ 100000 := by omega
    have h8 : ([c] == nm) = false := by
      simp only [beq_eq_false_iff_ne, ne_eq]
      rintro rfl
      exact hnm rfl
    have h9 : ar[ar.length - 1 - i]? = some (.str [c]) := by rw [List.getElem?_eq_getElem h4, hc]
    have eB : EXs (lev gloT k) leafB (setL ρ 22 (.int i)) (rd σ0 txt p ar) = some (.nxt (setL ρ 22 (.int i)) (rd σ0 txt p ar)) := by
      have h10 : ¬ [c] = nm := by simpa using h8
      simp [leafB, EV_loc, EV_glo, EV_cnone, EV_cbool, EV_cint, EV_cstr, EV_neg, EV_not, EV_bin, EV_cmp, EV_cmpNil, EV_bop, EV_ite, EV_tup, EV_lst, EV_sub, EV_slice, EV_call, EV_bi, EV_meth, EV_mdig, EV_mjoin, EV_mapp, EV_mpop, EV_attr, EV_fstr, EV_fstrs, EV_comp, ET_not, ET_bop, ET_ite, ET_cmp, ET_cmpNil, ET_loc, ET_call, ET_mdig, ETs_nil, ETs_cons, EB_one, EB_cons, EVs_nil, EVs_cons, EO_none, EO_some, EX_asg, EX_asgT, EX_seta, EX_seti, EX_exp, EX_ret, EX_iff, EX_forr, EX_whil, EX_rais, EX_tryy, EXs_nil, EXs_cons, bnd_okL, bnd_exc, bndE_okL, bndE_exc, rok_someL, nextOf_nxt, nextOf_ret, nextOf_exc, excOf_nxt, excOf_exc, excOf_ret, lk, setL, setLs, capture, resOf, lev_q, lev_top, lev_glo, lev_exc, kn_12, kn_15, kn_19, kn_21, kn_23, kn_25, kn_27, kn_29, kn_31, kn_32, kn_40, kn_45, kn_46, kn_52, kn_57, kn_60, kn_62, kn_6, km_13, km_33, km_34, km_36, km_37, kx_3, kx_4, kx_5, add_int, add_str, add_tup, sub_int, mul_int, mul_str, mod_int, neg_int, eq_op, ne_op, lt_op, le_op, gt_op, ge_op, is_nn, is_in, isnot_nn, isnot_in, in_str, notin_str, in_lst, sub_tup, sub_lst, sub_str, truth_bool, isNil_lst, attr_exn, len_str, len_tup, len_lst, int_str, str_int, range_int, max_int, tuple_lst, list_lst, slice_from, slice_to, slice_both, bound_int, slice_tup, slice_lst, eq_int, eq_strs, excTab3, excTab4, excTab5, seqAt, SZ, IB, atL_some, atI_some, out_nxt, out_ret, out_exc, sub_ref, isNil_ref, attr_ref, len_ref, setLst_ref, setAtt_ref, lk_setF, h2, h3, rd_get0, rd_get1, h5, h6, h6', h7, h8, h9, h10]
    rw [EF_eq]
    simp only [itemAt]
    rw [if_neg (by simp [SZ]; omega), if_pos g']
    simp only [takeV, setLs]
    rw [eB, nextOf_nxt, a3]
theorem aln_y {f : List Nat} (h : FigOk f) : ∀ x ∈ 121 :: f, x ∈ sAln := by
  intro x hx
  rcases List.mem_cons.mp hx with rfl | hx
  · decide
  · have h1 := h.dig
    simp only [List.all_eq_true] at h1
    have := h1 x hx
    rw [← fig_dig] at this
    exact List.mem_append_right _ (by simpa using this)
def leafRest : List CS := r_leaf.2.drop 2
theorem leaf_run (k : Nat) (σ0 : Store) (txt : List Nat) (p : Nat) (ar : List PV) (hl : txt.length ≤ 5000) (har : ∀ x ∈ ar, ∃ c, x = .str [c]) (hn : ar.length ≤ 10) (f : List Nat) (hf : FigOk f) (hp : p ≤ txt.length) (ht : txt.drop p = 121 :: f) :
    ∃ ρ', lk ρ' 8 = some (.ref σ0.length) ∧ lk ρ' 34 = some (.str (121 :: f)) ∧ (lev gloT (k + 4)).meth 6 36 σ0.length [] (rd σ0 txt p ar) = outOf (EXs (lev gloT (k + 3)) leafRest ρ' (rd σ0 txt (p + (f.length + 1)) ar)) := by
  have hne : f.length ≠ 0 := fun z => hf.ne (List.length_eq_zero_iff.mp z)
  have en := nameN_ok k σ0 txt ar hl (121 :: f) [] p (by simpa using ht) hp (aln_y hf) (by simp) (by simp)
  obtain ⟨ρ', h1, h2, h3⟩ := leaf_loop (k + 3) σ0 txt (p + (f.length + 1)) ar har hn (121 :: f) (by simpa using hne) ar.length 0 [(8, .ref σ0.length), (34, .str (121 :: f))] (by omega) rfl rfl
  refine ⟨ρ', h1, h2, ?_⟩
  have h7 : ar.length ≤ 100000 := by omega
  rw [mt_36 _ _ _ _ _ rfl]
  have e : EXs (lev gloT (k + 3)) r_leaf.2 (r_leaf.1.zip [.ref σ0.length]) (rd σ0 txt p ar) = nextOf (EF (lev gloT (k + 3)) [22] false (.rng ar.length) 0 leafB [(8, .ref σ0.length), (34, .str (121 :: f))] (rd σ0 txt (p + (f.length + 1)) ar)) fun ρ σ => EXs (lev gloT (k + 3)) leafRest ρ σ := by
    rw [show r_leaf.2 = .asg 34 (.meth (.loc 8) 34 []) :: .forr [22] false (.bi .range [(.bi .len [(.attr (.loc 8) 2)])]) leafB :: leafRest from rfl]
    rw [EXs_cons]
    have e1 : EX (lev gloT (k + 3)) (.asg 34 (.meth (.loc 8) 34 [])) (r_leaf.1.zip [.ref σ0.length]) (rd σ0 txt p ar) = some (.nxt [(8, .ref σ0.length), (34, .str (121 :: f))] (rd σ0 txt (p + (f.length + 1)) ar)) := by
      simp [r_leaf, EV_loc, EV_glo, EV_cnone, EV_cbool, EV_cint, EV_cstr, EV_neg, EV_not, EV_bin, EV_cmp, EV_cmpNil, EV_bop, EV_ite, EV_tup, EV_lst, EV_sub, EV_slice, EV_call, EV_bi, EV_meth, EV_mdig, EV_mjoin, EV_mapp, EV_mpop, EV_attr, EV_fstr, EV_fstrs, EV_comp, ET_not, ET_bop, ET_ite, ET_cmp, ET_cmpNil, ET_loc, ET_call, ET_mdig, ETs_nil, ETs_cons, EB_one, EB_cons, EVs_nil, EVs_cons, EO_none, EO_some, EX_asg, EX_asgT, EX_seta, EX_seti, EX_exp, EX_ret, EX_iff, EX_forr, EX_whil, EX_rais, EX_tryy, EXs_nil, EXs_cons, bnd_okL, bnd_exc, bndE_okL, bndE_exc, rok_someL, nextOf_nxt, nextOf_ret, nextOf_exc, excOf_nxt, excOf_exc, excOf_ret, lk, setL, setLs, capture, resOf, lev_q, lev_top, lev_glo, lev_exc, kn_12, kn_15, kn_19, kn_21, kn_23, kn_25, kn_27, kn_29, kn_31, kn_32, kn_40, kn_45, kn_46, kn_52, kn_57, kn_60, kn_62, kn_6, km_13, km_33, km_34, km_36, km_37, kx_3, kx_4, kx_5, add_int, add_str, add_tup, sub_int, mul_int, mul_str, mod_int, neg_int, eq_op, ne_op, lt_op, le_op, gt_op, ge_op, is_nn, is_in, isnot_nn, isnot_in, in_str, notin_str, in_lst, sub_tup, sub_lst, sub_str, truth_bool, isNil_lst, attr_exn, len_str, len_tup, len_lst, int_str, str_int, range_int, max_int, tuple_lst, list_lst, slice_from, slice_to, slice_both, bound_int, slice_tup, slice_lst, eq_int, eq_strs, excTab3, excTab4, excTab5, seqAt, SZ, IB, atL_some, atI_some, out_nxt, out_ret, out_exc, sub_ref, isNil_ref, attr_ref, len_ref, setLst_ref, setAtt_ref, rd_get0, en]
    rw [e1, nextOf_nxt, EXs_cons]
    have e2 : EX (lev gloT (k + 3)) (.forr [22] false (.bi .range [(.bi .len [(.attr (.loc 8) 2)])]) leafB) [(8, .ref σ0.length), (34, .str (121 :: f))] (rd σ0 txt (p + (f.length + 1)) ar) = EF (lev gloT (k + 3)) [22] false (.rng ar.length) 0 leafB [(8, .ref σ0.length), (34, .str (121 :: f))] (rd σ0 txt (p + (f.length + 1)) ar) := by
      simp [EV_loc, EV_glo, EV_cnone, EV_cbool, EV_cint, EV_cstr, EV_neg, EV_not, EV_bin, EV_cmp, EV_cmpNil, EV_bop, EV_ite, EV_tup, EV_lst, EV_sub, EV_slice, EV_call, EV_bi, EV_meth, EV_mdig, EV_mjoin, EV_mapp, EV_mpop, EV_attr, EV_fstr, EV_fstrs, EV_comp, ET_not, ET_bop, ET_ite, ET_cmp, ET_cmpNil, ET_loc, ET_call, ET_mdig, ETs_nil, ETs_cons, EB_one, EB_cons, EVs_nil, EVs_cons, EO_none, EO_some, EX_asg, EX_asgT, EX_seta, EX_seti, EX_exp, EX_ret, EX_iff, EX_forr, EX_whil, EX_rais, EX_tryy, EXs_nil, EXs_cons, bnd_okL, bnd_exc, bndE_okL, bndE_exc, rok_someL, nextOf_nxt, nextOf_ret, nextOf_exc, excOf_nxt, excOf_exc, excOf_ret, lk, setL, setLs, capture, resOf, lev_q, lev_top, lev_glo, lev_exc, kn_12, kn_15, kn_19, kn_21, kn_23, kn_25, kn_27, kn_29, kn_31, kn_32, kn_40, kn_45, kn_46, kn_52, kn_57, kn_60, kn_62, kn_6, km_13, km_33, km_34, km_36, km_37, kx_3, kx_4, kx_5, add_int, add_str, add_tup, sub_int, mul_int, mul_str, mod_int, neg_int, eq_op, ne_op, lt_op, le_op, gt_op, ge_op, is_nn, is_in, isnot_nn, isnot_in, in_str, notin_str, in_lst, sub_tup, sub_lst, sub_str, truth_bool, isNil_lst, attr_exn, len_str, len_tup, len_lst, int_str, str_int, range_int, max_int, tuple_lst, list_lst, slice_from, slice_to, slice_both, bound_int, slice_tup, slice_lst, eq_int, eq_strs, excTab3, excTab4, excTab5, seqAt, SZ, IB, atL_some, atI_some, out_nxt, out_ret, out_exc, sub_ref, isNil_ref, attr_ref, len_ref, setLst_ref, setAtt_ref, rd_get0, rd_get1, h7]
    rw [e2]
  rw [e, h3, nextOf_nxt]
theorem leafN_ok (k : Nat) (σ0 : Store) (txt : List Nat) (p : Nat) (ar : List PV) (hl : txt.length ≤ 5000) (har : ∀ x ∈ ar, ∃ c, x = .str [c]) (hn : ar.length ≤ 10) (f : List Nat) (hf : FigOk f) (hp : p ≤ txt.length) (ht : txt.drop p = 121 :: f) (h9 : f.length ≤ 9) (hi : numOf f + ar.length ≤ 999999999) :
    (lev gloT (k + 4)).meth 6 36 σ0.length [] (rd σ0 txt p ar) = some (.ok (.tup [.str (sVar ++ digs ((numOf f + ar.length : Nat) : Int))]) (rd σ0 txt (p + (f.length + 1)) ar)) := by
  obtain ⟨ρ, h1, h2, h3⟩ := leaf_run k σ0 txt p ar hl har hn f hf hp ht
  have hlen := hf.len
  have e1 := figs_ok (k + 1) sVar (121 :: f) (by decide) (by simp; omega) (rd σ0 txt (p + (f.length + 1)) ar)
  have e2 := figs_ok (k + 1) [121] (121 :: f) (by decide) (by simp; omega) (rd σ0 txt (p + (f.length + 1)) ar)
  rw [figs_vy] at e1
  rw [figs_y hf] at e2
  simp only [sVar] at e1
  have e3 := num_ok k f hf h9 (rd σ0 txt (p + (f.length + 1)) ar)
  have e4 := var_ok k ((numOf f + ar.length : Nat) : Int) (by omega) (by omega) (rd σ0 txt (p + (f.length + 1)) ar)
  rw [Int.natCast_add] at e4 ⊢
  have g1 : f.length ≤ 100000 := by omega
  have g2 : ¬ 9 < f.length := by omega
  have g2' : ¬ (9 : Int) < f.length := by omega
  have g3 : ¬ (999999999 : Int) < (numOf f : Int) + ar.length := by omega
  have g4 : ar.length ≤ 100000 := by omega
  have g5 : ¬ f = [] := hf.ne
  have eg : gloT 24 = some (.int 999999999) := rfl
  rw [h3]
  simp [leafRest, r_leaf, EV_loc, EV_glo, EV_cnone, EV_cbool, EV_cint, EV_cstr, EV_neg, EV_not, EV_bin, EV_cmp, EV_cmpNil, EV_bop, EV_ite, EV_tup, EV_lst, EV_sub, EV_slice, EV_call, EV_bi, EV_meth, EV_mdig, EV_mjoin, EV_mapp, EV_mpop, EV_attr, EV_fstr, EV_fstrs, EV_comp, ET_not, ET_bop, ET_ite, ET_cmp, ET_cmpNil, ET_loc, ET_call, ET_mdig, ETs_nil, ETs_cons, EB_one, EB_cons, EVs_nil, EVs_cons, EO_none, EO_some, EX_asg, EX_asgT, EX_seta, EX_seti, EX_exp, EX_ret, EX_iff, EX_forr, EX_whil, EX_rais, EX_tryy, EXs_nil, EXs_cons, bnd_okL, bnd_exc, bndE_okL, bndE_exc, rok_someL, nextOf_nxt, nextOf_ret, nextOf_exc, excOf_nxt, excOf_exc, excOf_ret, lk, setL, setLs, capture, resOf, lev_q, lev_top, lev_glo, lev_exc, kn_12, kn_15, kn_19, kn_21, kn_23, kn_25, kn_27, kn_29, kn_31, kn_32, kn_40, kn_45, kn_46, kn_52, kn_57, kn_60, kn_62, kn_6, km_13, km_33, km_34, km_36, km_37, kx_3, kx_4, kx_5, add_int, add_str, add_tup, sub_int, mul_int, mul_str, mod_int, neg_int, eq_op, ne_op, lt_op, le_op, gt_op, ge_op, is_nn, is_in, isnot_nn, isnot_in, in_str, notin_str, in_lst, sub_tup, sub_lst, sub_str, truth_bool, isNil_lst, attr_exn, len_str, len_tup, len_lst, int_str, str_int, range_int, max_int, tuple_lst, list_lst, slice_from, slice_to, slice_both, bound_int, slice_tup, slice_lst, eq_int, eq_strs, excTab3, excTab4, excTab5, seqAt, SZ, IB, atL_some, atI_some, out_nxt, out_ret, out_exc, sub_ref, isNil_ref, attr_ref, len_ref, setLst_ref, setAtt_ref, lk_setF, h1, h2, rd_get0, rd_get1, e1, e2, e3, e4, g1, g2, g2', g3, g4, g5, eg]
theorem leafN_exc (k : Nat) (σ0 : Store) (txt : List Nat) (p : Nat) (ar : List PV) (hl : txt.length ≤ 5000) (har : ∀ x ∈ ar, ∃ c, x = .str [c]) (hn : ar.length ≤ 10) (f : List Nat) (hf : FigOk f) (hp : p ≤ txt.length) (ht : txt.drop p = 121 :: f) (h9 : ¬ (f.length ≤ 9 ∧ numOf f + ar.length ≤ 999999999)) :
    (lev gloT (k + 4)).meth 6 36 σ0.length [] (rd σ0 txt p ar) = some (.exc ⟨5, some p⟩ (rd σ0 txt (p + (f.length + 1)) ar)) := by
  obtain ⟨ρ, h1, h2, h3⟩ := leaf_run k σ0 txt p ar hl har hn f hf hp ht
  have hlen := hf.len
  have e1 := figs_ok (k + 1) sVar (121 :: f) (by decide) (by simp; omega) (rd σ0 txt (p + (f.length + 1)) ar)
  have e2 := figs_ok (k + 1) [121] (121 :: f) (by decide) (by simp; omega) (rd σ0 txt (p + (f.length + 1)) ar)
  rw [figs_vy] at e1
  rw [figs_y hf] at e2
  simp only [sVar] at e1
  have g1 : f.length ≤ 100000 := by omega
  have g1' : f.length + 1 ≤ 100000 := by omega
  have g4 : ar.length ≤ 100000 := by omega
  have g5 : ¬ f = [] := hf.ne
  have g6 : (p : Int) + ((f.length : Int) + 1) - ((f.length : Int) + 1) = p := by omega
  have eg : gloT 24 = some (.int 999999999) := rfl
  rw [h3]
  by_cases c1 : f.length ≤ 9
  · have e3 := num_ok k f hf c1 (rd σ0 txt (p + (f.length + 1)) ar)
    have g2 : ¬ 9 < f.length := by omega
    have g2' : ¬ (9 : Int) < f.length := by omega
    have g3 : (999999999 : Int) < (numOf f : Int) + ar.length := by omega
    simp [leafRest, r_leaf, EV_loc, EV_glo, EV_cnone, EV_cbool, EV_cint, EV_cstr, EV_neg, EV_not, EV_bin, EV_cmp, EV_cmpNil, EV_bop, EV_ite, EV_tup, EV_lst, EV_sub, EV_slice, EV_call, EV_bi, EV_meth, EV_mdig, EV_mjoin, EV_mapp, EV_mpop, EV_attr, EV_fstr, EV_fstrs, EV_comp, ET_not, ET_bop, ET_ite, ET_cmp, ET_cmpNil, ET_loc, ET_call, ET_mdig, ETs_nil, ETs_cons, EB_one, EB_cons, EVs_nil, EVs_cons, EO_none, EO_some, EX_asg, EX_asgT, EX_seta, EX_seti, EX_exp, EX_ret, EX_iff, EX_forr, EX_whil, EX_rais, EX_tryy, EXs_nil, EXs_cons, bnd_okL, bnd_exc, bndE_okL, bndE_exc, rok_someL, nextOf_nxt, nextOf_ret, nextOf_exc, excOf_nxt, excOf_exc, excOf_ret, lk, setL, setLs, capture, resOf, lev_q, lev_top, lev_glo, lev_exc, kn_12, kn_15, kn_19, kn_21, kn_23, kn_25, kn_27, kn_29, kn_31, kn_32, kn_40, kn_45, kn_46, kn_52, kn_57, kn_60, kn_62, kn_6, km_13, km_33, km_34, km_36, km_37, kx_3, kx_4, kx_5, add_int, add_str, add_tup, sub_int, mul_int, mul_str, mod_int, neg_int, eq_op, ne_op, lt_op, le_op, gt_op, ge_op, is_nn, is_in, isnot_nn, isnot_in, in_str, notin_str, in_lst, sub_tup, sub_lst, sub_str, truth_bool, isNil_lst, attr_exn, len_str, len_tup, len_lst, int_str, str_int, range_int, max_int, tuple_lst, list_lst, slice_from, slice_to, slice_both, bound_int, slice_tup, slice_lst, eq_int, eq_strs, excTab3, excTab4, excTab5, seqAt, SZ, IB, atL_some, atI_some, out_nxt, out_ret, out_exc, sub_ref, isNil_ref, attr_ref, len_ref, setLst_ref, setAtt_ref, lk_setF, h1, h2, rd_get0, rd_get1, e1, e2, e3, g1, g1', g2, g2', g3, g4, g5, g6, eg]
  · have g2 : 9 < f.length := by omega
    have g2' : (9 : Int) < f.length := by omega
    simp [leafRest, r_leaf, EV_loc, EV_glo, EV_cnone, EV_cbool, EV_cint, EV_cstr, EV_neg, EV_not, EV_bin, EV_cmp, EV_cmpNil, EV_bop, EV_ite, EV_tup, EV_lst, EV_sub, EV_slice, EV_call, EV_bi, EV_meth, EV_mdig, EV_mjoin, EV_mapp, EV_mpop, EV_attr, EV_fstr, EV_fstrs, EV_comp, ET_not, ET_bop, ET_ite, ET_cmp, ET_cmpNil, ET_loc, ET_call, ET_mdig, ETs_nil, ETs_cons, EB_one, EB_cons, EVs_nil, EVs_cons, EO_none, EO_some, EX_asg, EX_asgT, EX_seta, EX_seti, EX_exp, EX_ret, EX_iff, EX_forr, EX_whil, EX_rais, EX_tryy, EXs_nil, EXs_cons, bnd_okL, bnd_exc, bndE_okL, bndE_exc, rok_someL, nextOf_nxt, nextOf_ret, nextOf_exc, excOf_nxt, excOf_exc, excOf_ret, lk, setL, setLs, capture, resOf, lev_q, lev_top, lev_glo, lev_exc, kn_12, kn_15, kn_19, kn_21, kn_23, kn_25, kn_27, kn_29, kn_31, kn_32, kn_40, kn_45, kn_46, kn_52, kn_57, kn_60, kn_62, kn_6, km_13, km_33, km_34, km_36, km_37, kx_3, kx_4, kx_5, add_int, add_str, add_tup, sub_int, mul_int, mul_str, mod_int, neg_int, eq_op, ne_op, lt_op, le_op, gt_op, ge_op, is_nn, is_in, isnot_nn, isnot_in, in_str, notin_str, in_lst, sub_tup, sub_lst, sub_str, truth_bool, isNil_lst, attr_exn, len_str, len_tup, len_lst, int_str, str_int, range_int, max_int, tuple_lst, list_lst, slice_from, slice_to, slice_both, bound_int, slice_tup, slice_lst, eq_int, eq_strs, excTab3, excTab4, excTab5, seqAt, SZ, IB, atL_some, atI_some, out_nxt, out_ret, out_exc, sub_ref, isNil_ref, attr_ref, len_ref, setLst_ref, setAtt_ref, lk_setF, h1, h2, rd_get0, rd_get1, e1, e2, g1, g1', g2, g2', g4, g5, g6, eg]
end Mine
end
/-! L15: a term of names read -/
section
set_option autoImplicit false
set_option linter.unusedVariables false
set_option linter.unusedSimpArgs false
set_option maxRecDepth 100000
namespace Mine
open PySem
def lamsOf : List Nat → List Nat
  | [] => []
  | c :: cs => 92 :: c :: 46 :: lamsOf cs
def lamN : Nat → PV → PV
  | 0, v => v
  | n + 1, v => .tup [.str sLam, lamN n v]
theorem lams_len : ∀ cs : List Nat, (lamsOf cs).length = 3 * cs.length
  | [] => rfl
  | c :: cs => by simp only [lamsOf, List.length_cons, lams_len cs]; omega
theorem dot_no : (46 : Nat) ∉ sAln := by decide
theorem termN (σ0 : Store) (txt : List Nat) (hl : txt.length ≤ 5000) (f : List Nat) (hf : FigOk f) : ∀ (cs : List Nat) (k : Nat) (d : Int) (p : Nat) (ar : List PV), (∀ c ∈ cs, c ∈ sAln) → (∀ x ∈ ar, ∃ c, x = .str [c]) → ar.length + cs.length ≤ 10 → (cs.length : Int) < d → p ≤ txt.length → txt.drop p = lamsOf cs ++ 121 :: f →
    (f.length ≤ 9 ∧ numOf f + ar.length + cs.length ≤ 999999999 → (lev gloT (k + cs.length + 5)).meth 6 37 σ0.length [.int d] (rd σ0 txt p ar) = some (.ok (lamN cs.length (.tup [.str (sVar ++ digs ((numOf f + ar.length + cs.length : Nat) : Int))])) (rd σ0 txt txt.length ar))) ∧
    (¬ (f.length ≤ 9 ∧ numOf f + ar.length + cs.length ≤ 999999999) → ∃ ar', (lev gloT (k + cs.length + 5)).meth 6 37 σ0.length [.int d] (rd σ0 txt p ar) = some (.exc ⟨5, some ((p + 3 * cs.length : Nat) : Int)⟩ (rd σ0 txt txt.length ar'))) := by
  intro cs
  induction cs with
  | nil =>
    intro k d p ar hcs har hn hd hp ht
    have hlen := congrArg List.length ht
    simp only [lamsOf, List.length_drop, List.nil_append, List.length_cons] at hlen
    have hend : p + (f.length + 1) = txt.length := by omega
    have hc : txt[p]? = some 121 := by
      have := congrArg List.head? ht
      rw [List.head?_drop] at this
      simpa [lamsOf] using this
    have es := sign_ok (k + 3) σ0 txt p ar (by omega) hl [121] (at_cut hc) (by decide)
    have hd0 : ¬ d = 0 := by simp at hd; omega
    simp only [lamsOf, List.nil_append] at ht
    simp only [List.length_nil, Nat.add_zero, Nat.mul_zero]
    simp only [List.length_nil, Nat.add_zero] at hn
    refine ⟨fun hq => ?_, fun hq => ⟨ar, ?_⟩⟩
    · have el := leafN_ok k σ0 txt p ar hl har hn f hf hp ht hq.1 hq.2
      rw [hend] at el
      rw [mt_37 _ _ _ _ _ rfl]
      simp [r_term, EV_loc, EV_glo, EV_cnone, EV_cbool, EV_cint, EV_cstr, EV_neg, EV_not, EV_bin, EV_cmp, EV_cmpNil, EV_bop, EV_ite, EV_tup, EV_lst, EV_sub, EV_slice, EV_call, EV_bi, EV_meth, EV_mdig, EV_mjoin, EV_mapp, EV_mpop, EV_attr, EV_fstr, EV_fstrs, EV_comp, ET_not, ET_bop, ET_ite, ET_cmp, ET_cmpNil, ET_loc, ET_call, ET_mdig, ETs_nil, ETs_cons, EB_one, EB_cons, EVs_nil, EVs_cons, EO_none, EO_some, EX_asg, EX_asgT, EX_seta, EX_seti, EX_exp, EX_ret, EX_iff, EX_forr, EX_whil, EX_rais, EX_tryy, EXs_nil, EXs_cons, bnd_okL, bnd_exc, bndE_okL, bndE_exc, rok_someL, nextOf_nxt, nextOf_ret, nextOf_exc, excOf_nxt, excOf_exc, excOf_ret, lk, setL, setLs, capture, resOf, lev_q, lev_top, lev_glo, lev_exc, kn_12, kn_15, kn_19, kn_21, kn_23, kn_25, kn_27, kn_29, kn_31, kn_32, kn_40, kn_45, kn_46, kn_52, kn_57, kn_60, kn_62, kn_6, km_13, km_33, km_34, km_36, km_37, kx_3, kx_4, kx_5, add_int, add_str, add_tup, sub_int, mul_int, mul_str, mod_int, neg_int, eq_op, ne_op, lt_op, le_op, gt_op, ge_op, is_nn, is_in, isnot_nn, isnot_in, in_str, notin_str, in_lst, sub_tup, sub_lst, sub_str, truth_bool, isNil_lst, attr_exn, len_str, len_tup, len_lst, int_str, str_int, range_int, max_int, tuple_lst, list_lst, slice_from, slice_to, slice_both, bound_int, slice_tup, slice_lst, eq_int, eq_strs, excTab3, excTab4, excTab5, seqAt, SZ, IB, atL_some, atI_some, out_nxt, out_ret, out_exc, sub_ref, isNil_ref, attr_ref, len_ref, setLst_ref, setAtt_ref, rd_get0, hd0, es, el, lamN]
    · have el := leafN_exc k σ0 txt p ar hl har hn f hf hp ht hq
      rw [hend] at el
      rw [mt_37 _ _ _ _ _ rfl]
      simp [r_term, EV_loc, EV_glo, EV_cnone, EV_cbool, EV_cint, EV_cstr, EV_neg, EV_not, EV_bin, EV_cmp, EV_cmpNil, EV_bop, EV_ite, EV_tup, EV_lst, EV_sub, EV_slice, EV_call, EV_bi, EV_meth, EV_mdig, EV_mjoin, EV_mapp, EV_mpop, EV_attr, EV_fstr, EV_fstrs, EV_comp, ET_not, ET_bop, ET_ite, ET_cmp, ET_cmpNil, ET_loc, ET_call, ET_mdig, ETs_nil, ETs_cons, EB_one, EB_cons, EVs_nil, EVs_cons, EO_none, EO_some, EX_asg, EX_asgT, EX_seta, EX_seti, EX_exp, EX_ret, EX_iff, EX_forr, EX_whil, EX_rais, EX_tryy, EXs_nil, EXs_cons, bnd_okL, bnd_exc, bndE_okL, bndE_exc, rok_someL, nextOf_nxt, nextOf_ret, nextOf_exc, excOf_nxt, excOf_exc, excOf_ret, lk, setL, setLs, capture, resOf, lev_q, lev_top, lev_glo, lev_exc, kn_12, kn_15, kn_19, kn_21, kn_23, kn_25, kn_27, kn_29, kn_31, kn_32, kn_40, kn_45, kn_46, kn_52, kn_57, kn_60, kn_62, kn_6, km_13, km_33, km_34, km_36, km_37, kx_3, kx_4, kx_5, add_int, add_str, add_tup, sub_int, mul_int, mul_str, mod_int, neg_int, eq_op, ne_op, lt_op, le_op, gt_op, ge_op, is_nn, is_in, isnot_nn, isnot_in, in_str, notin_str, in_lst, sub_tup, sub_lst, sub_str, truth_bool, isNil_lst, attr_exn, len_str, len_tup, len_lst, int_str, str_int, range_int, max_int, tuple_lst, list_lst, slice_from, slice_to, slice_both, bound_int, slice_tup, slice_lst, eq_int, eq_strs, excTab3, excTab4, excTab5, seqAt, SZ, IB, atL_some, atI_some, out_nxt, out_ret, out_exc, sub_ref, isNil_ref, attr_ref, len_ref, setLst_ref, setAtt_ref, rd_get0, hd0, es, el]
  | cons c cs ih =>
    intro k d p ar hcs har hn hd hp ht
    simp only [List.length_cons] at hn hd ⊢
    simp only [lamsOf, List.cons_append] at ht
    have hlen := congrArg List.length ht
    simp only [List.length_drop, List.length_cons, List.length_append] at hlen
    have hc0 : txt[p]? = some 92 := by
      have := congrArg List.head? ht
      rw [List.head?_drop] at this
      simpa using this
    have ht1 : txt.drop (p + 1) = [c] ++ (46 :: (lamsOf cs ++ 121 :: f)) := by
      have := congrArg (List.drop 1) ht
      simpa using this
    have ht2 : txt.drop (p + 2) = 46 :: (lamsOf cs ++ 121 :: f) := by
      have := congrArg (List.drop 2) ht
      simpa using this
    have ht3 : txt.drop (p + 3) = lamsOf cs ++ 121 :: f := by
      have := congrArg (List.drop 3) ht
      simpa using this
    have hc2 : txt[p + 2]? = some 46 := by
      have := congrArg List.head? ht2
      rw [List.head?_drop] at this
      simpa using this
    have es := sign_ok (k + cs.length + 4) σ0 txt p ar (by omega) hl [92] (at_cut hc0) (by decide)
    have ew := want_ok (k + cs.length + 2) σ0 txt p ar (by omega) hl 92 hc0 (by decide)
    have en := nameN_ok (k + cs.length + 2) σ0 txt ar hl [c] _ (p + 1) ht1 (by omega) (by simpa using hcs c (List.mem_cons_self ..)) (fun x hx => by simp only [List.head?_cons, Option.some.injEq] at hx; subst hx; exact dot_no) (by simp)
    have ed := want_ok (k + cs.length + 2) σ0 txt (p + 2) (ar ++ [.str [c]]) (by omega) hl 46 hc2 (by decide)
    have har' : ∀ x ∈ ar ++ [PV.str [c]], ∃ c, x = .str [c] := by
      intro x hx
      rcases List.mem_append.mp hx with hx | hx
      · exact har x hx
      · exact ⟨c, by simpa using hx⟩
    have hd0 : ¬ d = 0 := by omega
    have h1 : ar.length ≤ 100000 := by omega
    have h2 : ar.length + 1 ≤ 100000 := by omega
    obtain ⟨i1, i2⟩ := ih k (d - 1) (p + 3) (ar ++ [.str [c]]) (fun x hx => hcs x (List.mem_cons_of_mem _ hx)) har' (by simp; omega) (by omega) (by omega) ht3
    simp only [List.length_append, List.length_cons, List.length_nil, Nat.zero_add] at i1 i2
    have e3 : k + (cs.length + 1) + 5 = k + cs.length + 5 + 1 := by omega
    simp only [List.length_cons, List.length_nil, Nat.zero_add] at en
    refine ⟨fun hq => ?_, fun hq => ?_⟩
    · have i1 := i1 (by omega)
      rw [show numOf f + (ar.length + 1) + cs.length = numOf f + ar.length + (cs.length + 1) by omega] at i1
      rw [e3, mt_37 _ _ _ _ _ rfl]
      simp [r_term, EV_loc, EV_glo, EV_cnone, EV_cbool, EV_cint, EV_cstr, EV_neg, EV_not, EV_bin, EV_cmp, EV_cmpNil, EV_bop, EV_ite, EV_tup, EV_lst, EV_sub, EV_slice, EV_call, EV_bi, EV_meth, EV_mdig, EV_mjoin, EV_mapp, EV_mpop, EV_attr, EV_fstr, EV_fstrs, EV_comp, ET_not, ET_bop, ET_ite, ET_cmp, ET_cmpNil, ET_loc, ET_call, ET_mdig, ETs_nil, ETs_cons, EB_one, EB_cons, EVs_nil, EVs_cons, EO_none, EO_some, EX_asg, EX_asgT, EX_seta, EX_seti, EX_exp, EX_ret, EX_iff, EX_forr, EX_whil, EX_rais, EX_tryy, EXs_nil, EXs_cons, bnd_okL, bnd_exc, bndE_okL, bndE_exc, rok_someL, nextOf_nxt, nextOf_ret, nextOf_exc, excOf_nxt, excOf_exc, excOf_ret, lk, setL, setLs, capture, resOf, lev_q, lev_top, lev_glo, lev_exc, kn_12, kn_15, kn_19, kn_21, kn_23, kn_25, kn_27, kn_29, kn_31, kn_32, kn_40, kn_45, kn_46, kn_52, kn_57, kn_60, kn_62, kn_6, km_13, km_33, km_34, km_36, km_37, kx_3, kx_4, kx_5, add_int, add_str, add_tup, sub_int, mul_int, mul_str, mod_int, neg_int, eq_op, ne_op, lt_op, le_op, gt_op, ge_op, is_nn, is_in, isnot_nn, isnot_in, in_str, notin_str, in_lst, sub_tup, sub_lst, sub_str, truth_bool, isNil_lst, attr_exn, len_str, len_tup, len_lst, int_str, str_int, range_int, max_int, tuple_lst, list_lst, slice_from, slice_to, slice_both, bound_int, slice_tup, slice_lst, eq_int, eq_strs, excTab3, excTab4, excTab5, seqAt, SZ, IB, atL_some, atI_some, out_nxt, out_ret, out_exc, sub_ref, isNil_ref, attr_ref, len_ref, setLst_ref, setAtt_ref, rd_get0, rd_get1, rd_set1, hd0, es, ew, en, ed, i1, h1, h2, lamN, sLam]
    · obtain ⟨ar', i2⟩ := i2 (by omega)
      rw [show p + 3 + 3 * cs.length = p + 3 * (cs.length + 1) by omega] at i2
      refine ⟨ar', ?_⟩
      rw [e3, mt_37 _ _ _ _ _ rfl]
      simp [r_term, EV_loc, EV_glo, EV_cnone, EV_cbool, EV_cint, EV_cstr, EV_neg, EV_not, EV_bin, EV_cmp, EV_cmpNil, EV_bop, EV_ite, EV_tup, EV_lst, EV_sub, EV_slice, EV_call, EV_bi, EV_meth, EV_mdig, EV_mjoin, EV_mapp, EV_mpop, EV_attr, EV_fstr, EV_fstrs, EV_comp, ET_not, ET_bop, ET_ite, ET_cmp, ET_cmpNil, ET_loc, ET_call, ET_mdig, ETs_nil, ETs_cons, EB_one, EB_cons, EVs_nil, EVs_cons, EO_none, EO_some, EX_asg, EX_asgT, EX_seta, EX_seti, EX_exp, EX_ret, EX_iff, EX_forr, EX_whil, EX_rais, EX_tryy, EXs_nil, EXs_cons, bnd_okL, bnd_exc, bndE_okL, bndE_exc, rok_someL, nextOf_nxt, nextOf_ret, nextOf_exc, excOf_nxt, excOf_exc, excOf_ret, lk, setL, setLs, capture, resOf, lev_q, lev_top, lev_glo, lev_exc, kn_12, kn_15, kn_19, kn_21, kn_23, kn_25, kn_27, kn_29, kn_31, kn_32, kn_40, kn_45, kn_46, kn_52, kn_57, kn_60, kn_62, kn_6, km_13, km_33, km_34, km_36, km_37, kx_3, kx_4, kx_5, add_int, add_str, add_tup, sub_int, mul_int, mul_str, mod_int, neg_int, eq_op, ne_op, lt_op, le_op, gt_op, ge_op, is_nn, is_in, isnot_nn, isnot_in, in_str, notin_str, in_lst, sub_tup, sub_lst, sub_str, truth_bool, isNil_lst, attr_exn, len_str, len_tup, len_lst, int_str, str_int, range_int, max_int, tuple_lst, list_lst, slice_from, slice_to, slice_both, bound_int, slice_tup, slice_lst, eq_int, eq_strs, excTab3, excTab4, excTab5, seqAt, SZ, IB, atL_some, atI_some, out_nxt, out_ret, out_exc, sub_ref, isNil_ref, attr_ref, len_ref, setLst_ref, setAtt_ref, rd_get0, rd_get1, rd_set1, hd0, es, ew, en, ed, i2, h1, h2]
theorem rd_zero {σ0 : Store} {txt : List Nat} {p : Nat} {ar : List PV} {o : PO} (h : σ0[0]? = some o) : (rd σ0 txt p ar)[0]? = some o := by
  unfold rd
  rw [List.getElem?_append_left (List.getElem?_eq_some_iff.mp h).1]
  exact h
theorem of_names (k : Nat) (σ0 : Store) (f : List Nat) (hf : FigOk f) (cs : List Nat) (hcs : ∀ c ∈ cs, c ∈ sAln) (hn : cs.length ≤ 3) :
    (f.length ≤ 9 ∧ numOf f + cs.length ≤ 999999999 → ∃ σ', (∀ o, σ0[0]? = some o → σ'[0]? = some o) ∧ (lev gloT (k + cs.length + 6)).fn 40 [.str (lamsOf cs ++ 121 :: f)] σ0 = some (.ok (lamN cs.length (.tup [.str (sVar ++ digs ((numOf f + cs.length : Nat) : Int))])) σ')) ∧
    (¬ (f.length ≤ 9 ∧ numOf f + cs.length ≤ 999999999) → ∃ σ', (∀ o, σ0[0]? = some o → σ'[0]? = some o) ∧ (lev gloT (k + cs.length + 6)).fn 40 [.str (lamsOf cs ++ 121 :: f)] σ0 = some (.exc ⟨5, some ((3 * cs.length : Nat) : Int)⟩ σ')) := by
  have hflen := hf.len
  have hl : (lamsOf cs ++ 121 :: f).length ≤ 5000 := by
    simp [lams_len]
    omega
  generalize htx : lamsOf cs ++ 121 :: f = txt at hl
  obtain ⟨t1, t2⟩ := termN σ0 txt hl f hf cs k 40 0 [] hcs (by simp) (by simp; omega) (by omega) (by omega) (by simpa using htx.symm)
  simp only [List.length_nil, Nat.add_zero, Nat.zero_add] at t1 t2
  have ei := init_ok (k + cs.length + 4) σ0 txt
  have eg : gloT 42 = some (.int 40) := rfl
  have es := sign_ok (k + cs.length + 4) σ0 txt txt.length [] (by omega) hl [] (at_end (Nat.le_refl _)) (by simp)
  refine ⟨fun hq => ⟨rd σ0 txt txt.length [], fun _ => rd_zero, ?_⟩, fun hq => ?_⟩
  · have t1 := t1 hq
    rw [fn_40 _ _ _ rfl]
    simp [f_of_names, EV_loc, EV_glo, EV_cnone, EV_cbool, EV_cint, EV_cstr, EV_neg, EV_not, EV_bin, EV_cmp, EV_cmpNil, EV_bop, EV_ite, EV_tup, EV_lst, EV_sub, EV_slice, EV_call, EV_bi, EV_meth, EV_mdig, EV_mjoin, EV_mapp, EV_mpop, EV_attr, EV_fstr, EV_fstrs, EV_comp, ET_not, ET_bop, ET_ite, ET_cmp, ET_cmpNil, ET_loc, ET_call, ET_mdig, ETs_nil, ETs_cons, EB_one, EB_cons, EVs_nil, EVs_cons, EO_none, EO_some, EX_asg, EX_asgT, EX_seta, EX_seti, EX_exp, EX_ret, EX_iff, EX_forr, EX_whil, EX_rais, EX_tryy, EXs_nil, EXs_cons, bnd_okL, bnd_exc, bndE_okL, bndE_exc, rok_someL, nextOf_nxt, nextOf_ret, nextOf_exc, excOf_nxt, excOf_exc, excOf_ret, lk, setL, setLs, capture, resOf, lev_q, lev_top, lev_glo, lev_exc, kn_12, kn_15, kn_19, kn_21, kn_23, kn_25, kn_27, kn_29, kn_31, kn_32, kn_40, kn_45, kn_46, kn_52, kn_57, kn_60, kn_62, kn_6, km_13, km_33, km_34, km_36, km_37, kx_3, kx_4, kx_5, add_int, add_str, add_tup, sub_int, mul_int, mul_str, mod_int, neg_int, eq_op, ne_op, lt_op, le_op, gt_op, ge_op, is_nn, is_in, isnot_nn, isnot_in, in_str, notin_str, in_lst, sub_tup, sub_lst, sub_str, truth_bool, isNil_lst, attr_exn, len_str, len_tup, len_lst, int_str, str_int, range_int, max_int, tuple_lst, list_lst, slice_from, slice_to, slice_both, bound_int, slice_tup, slice_lst, eq_int, eq_strs, excTab3, excTab4, excTab5, seqAt, SZ, IB, atL_some, atI_some, out_nxt, out_ret, out_exc, sub_ref, isNil_ref, attr_ref, len_ref, setLst_ref, setAtt_ref, rd_get0, ei, eg, t1, es]
  · obtain ⟨ar', t2⟩ := t2 hq
    refine ⟨rd σ0 txt txt.length ar', fun _ => rd_zero, ?_⟩
    rw [fn_40 _ _ _ rfl]
    simp [f_of_names, EV_loc, EV_glo, EV_cnone, EV_cbool, EV_cint, EV_cstr, EV_neg, EV_not, EV_bin, EV_cmp, EV_cmpNil, EV_bop, EV_ite, EV_tup, EV_lst, EV_sub, EV_slice, EV_call, EV_bi, EV_meth, EV_mdig, EV_mjoin, EV_mapp, EV_mpop, EV_attr, EV_fstr, EV_fstrs, EV_comp, ET_not, ET_bop, ET_ite, ET_cmp, ET_cmpNil, ET_loc, ET_call, ET_mdig, ETs_nil, ETs_cons, EB_one, EB_cons, EVs_nil, EVs_cons, EO_none, EO_some, EX_asg, EX_asgT, EX_seta, EX_seti, EX_exp, EX_ret, EX_iff, EX_forr, EX_whil, EX_rais, EX_tryy, EXs_nil, EXs_cons, bnd_okL, bnd_exc, bndE_okL, bndE_exc, rok_someL, nextOf_nxt, nextOf_ret, nextOf_exc, excOf_nxt, excOf_exc, excOf_ret, lk, setL, setLs, capture, resOf, lev_q, lev_top, lev_glo, lev_exc, kn_12, kn_15, kn_19, kn_21, kn_23, kn_25, kn_27, kn_29, kn_31, kn_32, kn_40, kn_45, kn_46, kn_52, kn_57, kn_60, kn_62, kn_6, km_13, km_33, km_34, km_36, km_37, kx_3, kx_4, kx_5, add_int, add_str, add_tup, sub_int, mul_int, mul_str, mod_int, neg_int, eq_op, ne_op, lt_op, le_op, gt_op, ge_op, is_nn, is_in, isnot_nn, isnot_in, in_str, notin_str, in_lst, sub_tup, sub_lst, sub_str, truth_bool, isNil_lst, attr_exn, len_str, len_tup, len_lst, int_str, str_int, range_int, max_int, tuple_lst, list_lst, slice_from, slice_to, slice_both, bound_int, slice_tup, slice_lst, eq_int, eq_strs, excTab3, excTab4, excTab5, seqAt, SZ, IB, atL_some, atI_some, out_nxt, out_ret, out_exc, sub_ref, isNil_ref, attr_ref, len_ref, setLst_ref, setAtt_ref, rd_get0, ei, eg, t2]
end Mine
end
/-! L16: the law's last question -/
section
set_option autoImplicit false
set_option linter.unusedVariables false
set_option linter.unusedSimpArgs false
set_option maxRecDepth 100000
namespace Mine
open PySem
theorem quiet_q (Φ : Sig) : Φ.quiet.q = true := rfl
theorem quiet_glo (Φ : Sig) : Φ.quiet.glo = Φ.glo := rfl
theorem caught_ok {b : Bool} {σ : Store} : caughtOf (some (.ok (.bool b) σ)) = some (.ret (.bool b) [] σ) := rfl
def abc : List Nat := [97, 98, 99]
def lamE : CE := .bin .Add (.bin .Add (.cstr [92]) (.sub (.cstr [97, 98, 99]) (.loc 63))) (.cstr [46])
theorem ec_rng (Φ : Sig) (d : Nat) (hd : d ≤ 3) (σ : Store) : ∀ (m i : Nat) (ρ : Loc) (acc : List PV), i + m = d → acc.length ≤ 10 - m → EC Φ lamE [63] false none (.rng d) i ρ acc σ = some (.ok (acc ++ ((abc.take d).drop i).map fun c => .str [92, c, 46]) σ) := by
  intro m
  induction m with
  | zero =>
    intro i ρ acc h1 h2
    have g : ¬ (i : Int) < d := by omega
    rw [EC_eq]
    simp only [itemAt]
    rw [if_neg (by simp [SZ]; omega), if_neg g]
    rw [List.drop_eq_nil_iff.mpr (by simp; omega)]
    simp
  | succ m ih =>
    intro i ρ acc h1 h2
    have g : (i : Int) < d := by omega
    have hi : i < (abc.take d).length := by simp [abc]; omega
    have hi3 : i < 3 := by omega
    rw [EC_eq]
    simp only [itemAt]
    rw [if_neg (by simp [SZ]; omega), if_pos g]
    simp only [takeV, setLs, condOf]
    have e : EV Φ lamE (setL ρ 63 (.int i)) σ = some (.ok (.str [92, abc[i]'hi3, 46]) σ) := by
      have h3 : i ≤ 2 := by omega
      simp [lamE, EV_bin, EV_cstr, EV_sub, EV_loc, lk_same, bnd_okL, rok_someL, sub_str, SZ, add_str]
      rcases i with _ | _ | _ | i
      · rfl
      · rfl
      · rfl
      · omega
    have hacc : acc.length < SZ := by simp [SZ]; omega
    rw [bnd_okL, if_pos rfl, e, bnd_okL, if_pos hacc, ih (i + 1) _ _ (by omega) (by simp; omega)]
    rw [List.drop_eq_getElem_cons hi]
    simp
    rfl
theorem strs_map (l : List Nat) : strsOf (l.map fun c => .str [92, c, 46]) = some (l.map fun c => [92, c, 46]) := by
  induction l with
  | nil => rfl
  | cons a r ih => simp [strsOf, ih]
theorem flat_lams (l : List Nat) : (l.map fun c => [92, c, 46]).flatten = lamsOf l := by
  induction l with
  | nil => rfl
  | cons a r ih => simp [lamsOf, ih]
def dueB : List CS := [.asg 65 (.tup [(.cstr [108, 97, 109]), (.loc 65)])]
theorem due_loop (Φ : Sig) (hq : Φ.q = false) (d : Nat) (hd : d ≤ 3) (σ : Store) (v : PV) : ∀ (m i : Nat) (ρ : Loc), i + m = d → lk ρ 65 = some (lamN i v) →
    ∃ ρ', (∀ y, y ≠ 63 → y ≠ 65 → lk ρ' y = lk ρ y) ∧ lk ρ' 65 = some (lamN d v) ∧ EF Φ [63] false (.rng d) i dueB ρ σ = some (.nxt ρ' σ) := by
  intro m
  induction m with
  | zero =>
    intro i ρ h1 h2
    have hi : i = d := by omega
    subst hi
    refine ⟨ρ, fun _ _ _ => rfl, h2, ?_⟩
    rw [EF_eq]
    simp only [itemAt]
    rw [if_neg (by simp [SZ]; omega), if_neg (by omega)]
  | succ m ih =>
    intro i ρ h1 h2
    have g : (i : Int) < d := by omega
    obtain ⟨ρ', a1, a2, a3⟩ := ih (i + 1) (setL (setL ρ 63 (.int i)) 65 (lamN (i + 1) v)) (by omega) (lk_same ..)
    refine ⟨ρ', fun y h3 h4 => ?_, a2, ?_⟩
    · rw [a1 y h3 h4, lk_setF, lk_setF, if_neg (fun z => h4 z.symm), if_neg (fun z => h3 z.symm)]
    · rw [EF_eq]
      simp only [itemAt]
      rw [if_neg (by simp [SZ]; omega), if_pos g]
      simp only [takeV, setLs]
      have e : EXs Φ dueB (setL ρ 63 (.int i)) σ = some (.nxt (setL (setL ρ 63 (.int i)) 65 (lamN (i + 1) v)) σ) := by
        simp [dueB, EXs_cons, EXs_nil, EX_asg, hq, EV_tup, EVs_cons, EVs_nil, EV_cstr, EV_loc, lk_setF, h2, bnd_okL, bndE_okL, rok_someL, nextOf_nxt, SZ, lamN, sLam]
      rw [e, nextOf_nxt, a3]
theorem eqv_lamN : ∀ (d : Nat), d ≤ 3 → ∀ s : List Nat, eqv (lamN d (.tup [.str s])) (lamN d (.tup [.str s])) = some true := by
  intro d hd s
  have h : d = 0 ∨ d = 1 ∨ d = 2 ∨ d = 3 := by omega
  rcases h with rfl | rfl | rfl | rfl <;> simp [lamN, eqv, eqvN, eqvs]
theorem is_read (k : Nat) (T : List Nat) (s : List Int) (p : Nat) (tl : Store) (hp : p < 980) (hs : s.length ≤ 40) :
    ∃ σ', σ'[0]? = some (.tab T) ∧ (lev gloT (k + 10)).fn 62 [.ref 1] (fd T s p tl) = some (.ok (.bool true) σ') := by
  obtain ⟨f, hf, ef⟩ := figures_ok (k + 7) T s p tl (by omega) hs
  obtain ⟨d, hd, ed⟩ := dip_ok (k + 8) T s (p + 3) tl 4 (by omega) (by omega) hs
  have hd3 : d ≤ 3 := by omega
  have hlen := hf.len
  have hz : (fd T s (p + 3 + 1) tl)[0]? = some (.tab T) := rfl
  generalize hσ : fd T s (p + 3 + 1) tl = σ at ed hz
  have hcl : (abc.take d).length = d := by simp [abc]; omega
  have hcs : ∀ c ∈ abc.take d, c ∈ sAln := fun c hc => by
    have := List.mem_of_mem_take hc
    revert this
    revert c
    intro c _ hc
    simp only [abc, List.mem_cons, List.not_mem_nil, or_false] at hc
    rcases hc with rfl | rfl | rfl <;> decide
  obtain ⟨n1, n2⟩ := of_names (k + (3 - d)) σ f hf (abc.take d) hcs (by rw [hcl]; exact hd3)
  rw [hcl] at n1 n2
  rw [show k + (3 - d) + d + 6 = k + 9 by omega] at n1 n2
  have ec := ec_rng (lev gloT (k + 9)) d hd3 σ d 0 [] [] (by omega) (by simp)
  simp only [List.nil_append, List.drop_zero] at ec
  have hll : (lamsOf (abc.take d)).length = 3 * d := by rw [lams_len, hcl]
  have eA : ∀ ρ, lk ρ 44 = some (.int d) → EV (lev gloT (k + 9)) (.mjoin (.cstr []) (.comp lamE [63] false [] (.bi .range [(.loc 44)]) .none)) ρ σ = some (.ok (.str (lamsOf (abc.take d))) σ) := fun ρ hρ => by
    have g1 : d ≤ 100000 := by omega
    have g3 : (lamsOf (abc.take d)).length ≤ 100000 := by omega
    have hm : min d abc.length ≤ 100000 := by omega
    have g2 : (List.map (fun c => [92, c, 46]) (abc.take d)).length ≤ 100000 := by rw [List.length_map, hcl]; omega
    rw [EV_mjoin, EV_cstr, bnd_okL]
    dsimp only
    rw [EV_comp, if_neg (by rw [lev_q]; decide), EV_bi, if_neg (by rw [lev_q]; simp), EVs_cons, EV_loc, hρ, rok_someL, bnd_okL, EVs_nil, bnd_okL, bnd_okL, range_int, if_pos (by simp [SZ]; omega), rok_someL, bnd_okL]
    simp only [capture]
    rw [ec, bnd_okL, bnd_okL]
    dsimp only
    rw [strs_map]
    dsimp only
    rw [flat_lams, if_pos ⟨g2, g3⟩]
  have s12 : ∀ K : Loc → Store → Option RS, nextOf (EX (lev gloT (k + 9)) (.asgT [18, 22] (.call 46 [(.loc 43)])) [(43, .ref 1)] (fd T s p tl)) K = K [(43, .ref 1), (18, .str f), (22, idxOf f)] (fd T s (p + 3) tl) := fun K => by
    simp [EV_loc, EV_glo, EV_cnone, EV_cbool, EV_cint, EV_cstr, EV_neg, EV_not, EV_bin, EV_cmp, EV_cmpNil, EV_bop, EV_ite, EV_tup, EV_lst, EV_sub, EV_slice, EV_call, EV_bi, EV_meth, EV_mdig, EV_mjoin, EV_mapp, EV_mpop, EV_attr, EV_fstr, EV_fstrs, EV_comp, ET_not, ET_bop, ET_ite, ET_cmp, ET_cmpNil, ET_loc, ET_call, ET_mdig, ETs_nil, ETs_cons, EB_one, EB_cons, EVs_nil, EVs_cons, EO_none, EO_some, EX_asg, EX_asgT, EX_seta, EX_seti, EX_exp, EX_ret, EX_iff, EX_forr, EX_whil, EX_rais, EX_tryy, EXs_nil, EXs_cons, bnd_okL, bnd_exc, bndE_okL, bndE_exc, rok_someL, nextOf_nxt, nextOf_ret, nextOf_exc, excOf_nxt, excOf_exc, excOf_ret, lk, setL, setLs, capture, resOf, lev_q, lev_top, lev_glo, lev_exc, kn_12, kn_15, kn_19, kn_21, kn_23, kn_25, kn_27, kn_29, kn_31, kn_32, kn_40, kn_45, kn_46, kn_52, kn_57, kn_60, kn_62, kn_6, km_13, km_33, km_34, km_36, km_37, kx_3, kx_4, kx_5, add_int, add_str, add_tup, sub_int, mul_int, mul_str, mod_int, neg_int, eq_op, ne_op, lt_op, le_op, gt_op, ge_op, is_nn, is_in, isnot_nn, isnot_in, in_str, notin_str, in_lst, sub_tup, sub_lst, sub_str, truth_bool, isNil_lst, attr_exn, len_str, len_tup, len_lst, int_str, str_int, range_int, max_int, tuple_lst, list_lst, slice_from, slice_to, slice_both, bound_int, slice_tup, slice_lst, eq_int, eq_strs, excTab3, excTab4, excTab5, seqAt, SZ, IB, atL_some, atI_some, out_nxt, out_ret, out_exc, sub_ref, isNil_ref, attr_ref, len_ref, setLst_ref, setAtt_ref, ef]
  have s3 : EX (lev gloT (k + 9)) (.asg 44 (.call 45 [(.loc 43), (.cint 4)])) [(43, .ref 1), (18, .str f), (22, idxOf f)] (fd T s (p + 3) tl) = some (.nxt [(43, .ref 1), (18, .str f), (22, idxOf f), (44, .int d)] σ) := by
    simp [EV_loc, EV_glo, EV_cnone, EV_cbool, EV_cint, EV_cstr, EV_neg, EV_not, EV_bin, EV_cmp, EV_cmpNil, EV_bop, EV_ite, EV_tup, EV_lst, EV_sub, EV_slice, EV_call, EV_bi, EV_meth, EV_mdig, EV_mjoin, EV_mapp, EV_mpop, EV_attr, EV_fstr, EV_fstrs, EV_comp, ET_not, ET_bop, ET_ite, ET_cmp, ET_cmpNil, ET_loc, ET_call, ET_mdig, ETs_nil, ETs_cons, EB_one, EB_cons, EVs_nil, EVs_cons, EO_none, EO_some, EX_asg, EX_asgT, EX_seta, EX_seti, EX_exp, EX_ret, EX_iff, EX_forr, EX_whil, EX_rais, EX_tryy, EXs_nil, EXs_cons, bnd_okL, bnd_exc, bndE_okL, bndE_exc, rok_someL, nextOf_nxt, nextOf_ret, nextOf_exc, excOf_nxt, excOf_exc, excOf_ret, lk, setL, setLs, capture, resOf, lev_q, lev_top, lev_glo, lev_exc, kn_12, kn_15, kn_19, kn_21, kn_23, kn_25, kn_27, kn_29, kn_31, kn_32, kn_40, kn_45, kn_46, kn_52, kn_57, kn_60, kn_62, kn_6, km_13, km_33, km_34, km_36, km_37, kx_3, kx_4, kx_5, add_int, add_str, add_tup, sub_int, mul_int, mul_str, mod_int, neg_int, eq_op, ne_op, lt_op, le_op, gt_op, ge_op, is_nn, is_in, isnot_nn, isnot_in, in_str, notin_str, in_lst, sub_tup, sub_lst, sub_str, truth_bool, isNil_lst, attr_exn, len_str, len_tup, len_lst, int_str, str_int, range_int, max_int, tuple_lst, list_lst, slice_from, slice_to, slice_both, bound_int, slice_tup, slice_lst, eq_int, eq_strs, excTab3, excTab4, excTab5, seqAt, SZ, IB, atL_some, atI_some, out_nxt, out_ret, out_exc, sub_ref, isNil_ref, attr_ref, len_ref, setLst_ref, setAtt_ref, ed]
  have s4 : EX (lev gloT (k + 9)) (.asg 49 (.mjoin (.cstr []) (.comp lamE [63] false [] (.bi .range [(.loc 44)]) .none))) [(43, .ref 1), (18, .str f), (22, idxOf f), (44, .int d)] σ = some (.nxt [(43, .ref 1), (18, .str f), (22, idxOf f), (44, .int d), (49, .str (lamsOf (abc.take d)))] σ) := by
    rw [EX_asg, if_neg (by rw [lev_q]; decide), eA _ rfl, bndE_okL]
    rfl
  rw [fn_62 _ _ _ rfl]
  rw [show f_law_is_read.2 = .asgT [18, 22] (.call 46 [(.loc 43)]) :: .asg 44 (.call 45 [(.loc 43), (.cint 4)]) :: .asg 49 (.mjoin (.cstr []) (.comp lamE [63] false [] (.bi .range [(.loc 44)]) .none)) :: f_law_is_read.2.drop 3 from rfl]
  rw [EXs_cons, show f_law_is_read.1.zip [PV.ref 1] = [(43, .ref 1)] from rfl, s12, EXs_cons, s3, nextOf_nxt, EXs_cons, s4, nextOf_nxt]
  have h1 : (lamsOf (abc.take d)).length + 1 ≤ 100000 := by omega
  have h2 : (lamsOf (abc.take d)).length + 1 + f.length ≤ 100000 := by omega
  have h2' : (lamsOf (abc.take d)).length ≤ 100000 := by omega
  have h3 : lamsOf (abc.take d) ++ [121] ++ f = lamsOf (abc.take d) ++ 121 :: f := by simp
  generalize hA : lamsOf (abc.take d) = A at n1 n2 h1 h2 h3 h2' hll
  rw [← hll] at n2
  have h1b : A.length ≤ 99999 := by omega
  have h1c : A.length + 1 + f.length ≤ 100000 := h2
  by_cases hq : f.length ≤ 9 ∧ numOf f + d ≤ 999999999
  · obtain ⟨σ', n0, n1⟩ := n1 hq
    have ei : idxOf f = .int (numOf f) := by simp [idxOf, hq.1]
    rw [ei]
    refine ⟨σ', n0 _ hz, ?_⟩
    have hle := num_le hf hq.1
    have g1 : ((numOf f : Int) + d).natAbs < 1000000000000000000 := by omega
    have g2 : 3 + (digs ((numOf f : Int) + d)).length ≤ 100000 := by have := digs_short g1; omega
    have g3 : d ≤ 100000 := by omega
    rw [Int.natCast_add] at n1
    generalize hD : digs ((numOf f : Int) + d) = D at n1 g2
    have t1 : EX (lev gloT (k + 9)) (.tryy [.asg 10 (.call 40 [(.bin .Add (.bin .Add (.loc 49) (.cstr [121])) (.loc 18))])] 5 64 (.bop true [(.cmp .Eq (.attr (.loc 64) 0) (.bi .len [(.loc 49)])), (.bop false [(.cmp .Is (.loc 22) .cnone), (.cmp .Gt (.bin .Add (.loc 22) (.loc 44)) (.cint 999999999))])])) [(43, .ref 1), (18, .str f), (22, .int (numOf f)), (44, .int d), (49, .str A)] σ = some (.nxt [(43, .ref 1), (18, .str f), (22, .int (numOf f)), (44, .int d), (49, .str A), (10, lamN d (.tup [.str (sVar ++ D)]))] σ') := by
      simp [EV_loc, EV_glo, EV_cnone, EV_cbool, EV_cint, EV_cstr, EV_neg, EV_not, EV_bin, EV_cmp, EV_cmpNil, EV_bop, EV_ite, EV_tup, EV_lst, EV_sub, EV_slice, EV_call, EV_bi, EV_meth, EV_mdig, EV_mjoin, EV_mapp, EV_mpop, EV_attr, EV_fstr, EV_fstrs, EV_comp, ET_not, ET_bop, ET_ite, ET_cmp, ET_cmpNil, ET_loc, ET_call, ET_mdig, ETs_nil, ETs_cons, EB_one, EB_cons, EVs_nil, EVs_cons, EO_none, EO_some, EX_asg, EX_asgT, EX_seta, EX_seti, EX_exp, EX_ret, EX_iff, EX_forr, EX_whil, EX_rais, EX_tryy, EXs_nil, EXs_cons, bnd_okL, bnd_exc, bndE_okL, bndE_exc, rok_someL, nextOf_nxt, nextOf_ret, nextOf_exc, excOf_nxt, excOf_exc, excOf_ret, lk, setL, setLs, capture, resOf, lev_q, lev_top, lev_glo, lev_exc, kn_12, kn_15, kn_19, kn_21, kn_23, kn_25, kn_27, kn_29, kn_31, kn_32, kn_40, kn_45, kn_46, kn_52, kn_57, kn_60, kn_62, kn_6, km_13, km_33, km_34, km_36, km_37, kx_3, kx_4, kx_5, add_int, add_str, add_tup, sub_int, mul_int, mul_str, mod_int, neg_int, eq_op, ne_op, lt_op, le_op, gt_op, ge_op, is_nn, is_in, isnot_nn, isnot_in, in_str, notin_str, in_lst, sub_tup, sub_lst, sub_str, truth_bool, isNil_lst, attr_exn, len_str, len_tup, len_lst, int_str, str_int, range_int, max_int, tuple_lst, list_lst, slice_from, slice_to, slice_both, bound_int, slice_tup, slice_lst, eq_int, eq_strs, excTab3, excTab4, excTab5, seqAt, SZ, IB, atL_some, atI_some, out_nxt, out_ret, out_exc, sub_ref, isNil_ref, attr_ref, len_ref, setLst_ref, setAtt_ref, h1, h1b, h2, h2', h3, n1]
    have t2 : EX (lev gloT (k + 9)) (.asg 65 (.ite (.cmp .Is (.loc 22) .cnone) (.tup []) (.tup [(.bin .Add (.cstr [118, 97, 114]) (.bi .str [(.bin .Add (.loc 22) (.loc 44))]))]))) [(43, .ref 1), (18, .str f), (22, .int (numOf f)), (44, .int d), (49, .str A), (10, lamN d (.tup [.str (sVar ++ D)]))] σ' = some (.nxt [(43, .ref 1), (18, .str f), (22, .int (numOf f)), (44, .int d), (49, .str A), (10, lamN d (.tup [.str (sVar ++ D)])), (65, .tup [.str (sVar ++ D)])] σ') := by
      simp [EV_loc, EV_glo, EV_cnone, EV_cbool, EV_cint, EV_cstr, EV_neg, EV_not, EV_bin, EV_cmp, EV_cmpNil, EV_bop, EV_ite, EV_tup, EV_lst, EV_sub, EV_slice, EV_call, EV_bi, EV_meth, EV_mdig, EV_mjoin, EV_mapp, EV_mpop, EV_attr, EV_fstr, EV_fstrs, EV_comp, ET_not, ET_bop, ET_ite, ET_cmp, ET_cmpNil, ET_loc, ET_call, ET_mdig, ETs_nil, ETs_cons, EB_one, EB_cons, EVs_nil, EVs_cons, EO_none, EO_some, EX_asg, EX_asgT, EX_seta, EX_seti, EX_exp, EX_ret, EX_iff, EX_forr, EX_whil, EX_rais, EX_tryy, EXs_nil, EXs_cons, bnd_okL, bnd_exc, bndE_okL, bndE_exc, rok_someL, nextOf_nxt, nextOf_ret, nextOf_exc, excOf_nxt, excOf_exc, excOf_ret, lk, setL, setLs, capture, resOf, lev_q, lev_top, lev_glo, lev_exc, kn_12, kn_15, kn_19, kn_21, kn_23, kn_25, kn_27, kn_29, kn_31, kn_32, kn_40, kn_45, kn_46, kn_52, kn_57, kn_60, kn_62, kn_6, km_13, km_33, km_34, km_36, km_37, kx_3, kx_4, kx_5, add_int, add_str, add_tup, sub_int, mul_int, mul_str, mod_int, neg_int, eq_op, ne_op, lt_op, le_op, gt_op, ge_op, is_nn, is_in, isnot_nn, isnot_in, in_str, notin_str, in_lst, sub_tup, sub_lst, sub_str, truth_bool, isNil_lst, attr_exn, len_str, len_tup, len_lst, int_str, str_int, range_int, max_int, tuple_lst, list_lst, slice_from, slice_to, slice_both, bound_int, slice_tup, slice_lst, eq_int, eq_strs, excTab3, excTab4, excTab5, seqAt, SZ, IB, atL_some, atI_some, out_nxt, out_ret, out_exc, sub_ref, isNil_ref, attr_ref, len_ref, setLst_ref, setAtt_ref, g1, g2, hD, sVar]
    obtain ⟨ρ', a1, a2, a3⟩ := due_loop (lev gloT (k + 9)) (lev_q _) d hd3 σ' (.tup [.str (sVar ++ D)]) d 0 [(43, .ref 1), (18, .str f), (22, .int (numOf f)), (44, .int d), (49, .str A), (10, lamN d (.tup [.str (sVar ++ D)])), (65, .tup [.str (sVar ++ D)])] (by omega) rfl
    have t3 : EX (lev gloT (k + 9)) (.forr [63] false (.bi .range [(.loc 44)]) dueB) [(43, .ref 1), (18, .str f), (22, .int (numOf f)), (44, .int d), (49, .str A), (10, lamN d (.tup [.str (sVar ++ D)])), (65, .tup [.str (sVar ++ D)])] σ' = some (.nxt ρ' σ') := by
      rw [← a3]
      simp [EV_loc, EV_glo, EV_cnone, EV_cbool, EV_cint, EV_cstr, EV_neg, EV_not, EV_bin, EV_cmp, EV_cmpNil, EV_bop, EV_ite, EV_tup, EV_lst, EV_sub, EV_slice, EV_call, EV_bi, EV_meth, EV_mdig, EV_mjoin, EV_mapp, EV_mpop, EV_attr, EV_fstr, EV_fstrs, EV_comp, ET_not, ET_bop, ET_ite, ET_cmp, ET_cmpNil, ET_loc, ET_call, ET_mdig, ETs_nil, ETs_cons, EB_one, EB_cons, EVs_nil, EVs_cons, EO_none, EO_some, EX_asg, EX_asgT, EX_seta, EX_seti, EX_exp, EX_ret, EX_iff, EX_forr, EX_whil, EX_rais, EX_tryy, EXs_nil, EXs_cons, bnd_okL, bnd_exc, bndE_okL, bndE_exc, rok_someL, nextOf_nxt, nextOf_ret, nextOf_exc, excOf_nxt, excOf_exc, excOf_ret, lk, setL, setLs, capture, resOf, lev_q, lev_top, lev_glo, lev_exc, kn_12, kn_15, kn_19, kn_21, kn_23, kn_25, kn_27, kn_29, kn_31, kn_32, kn_40, kn_45, kn_46, kn_52, kn_57, kn_60, kn_62, kn_6, km_13, km_33, km_34, km_36, km_37, kx_3, kx_4, kx_5, add_int, add_str, add_tup, sub_int, mul_int, mul_str, mod_int, neg_int, eq_op, ne_op, lt_op, le_op, gt_op, ge_op, is_nn, is_in, isnot_nn, isnot_in, in_str, notin_str, in_lst, sub_tup, sub_lst, sub_str, truth_bool, isNil_lst, attr_exn, len_str, len_tup, len_lst, int_str, str_int, range_int, max_int, tuple_lst, list_lst, slice_from, slice_to, slice_both, bound_int, slice_tup, slice_lst, eq_int, eq_strs, excTab3, excTab4, excTab5, seqAt, SZ, IB, atL_some, atI_some, out_nxt, out_ret, out_exc, sub_ref, isNil_ref, attr_ref, len_ref, setLst_ref, setAtt_ref, g3]
    have b1 : lk ρ' 22 = some (.int (numOf f)) := (a1 22 (by decide) (by decide)).trans rfl
    have b2 : lk ρ' 10 = some (lamN d (.tup [.str (sVar ++ D)])) := (a1 10 (by decide) (by decide)).trans rfl
    have t4 : EX (lev gloT (k + 9)) (.ret (.bop true [(.cmp .IsNot (.loc 22) .cnone), (.cmp .Eq (.loc 10) (.loc 65))])) ρ' σ' = some (.ret (.bool true) ρ' σ') := by
      simp [EV_loc, EV_glo, EV_cnone, EV_cbool, EV_cint, EV_cstr, EV_neg, EV_not, EV_bin, EV_cmp, EV_cmpNil, EV_bop, EV_ite, EV_tup, EV_lst, EV_sub, EV_slice, EV_call, EV_bi, EV_meth, EV_mdig, EV_mjoin, EV_mapp, EV_mpop, EV_attr, EV_fstr, EV_fstrs, EV_comp, ET_not, ET_bop, ET_ite, ET_cmp, ET_cmpNil, ET_loc, ET_call, ET_mdig, ETs_nil, ETs_cons, EB_one, EB_cons, EVs_nil, EVs_cons, EO_none, EO_some, EX_asg, EX_asgT, EX_seta, EX_seti, EX_exp, EX_ret, EX_iff, EX_forr, EX_whil, EX_rais, EX_tryy, EXs_nil, EXs_cons, bnd_okL, bnd_exc, bndE_okL, bndE_exc, rok_someL, nextOf_nxt, nextOf_ret, nextOf_exc, excOf_nxt, excOf_exc, excOf_ret, lk, setL, setLs, capture, resOf, lev_q, lev_top, lev_glo, lev_exc, kn_12, kn_15, kn_19, kn_21, kn_23, kn_25, kn_27, kn_29, kn_31, kn_32, kn_40, kn_45, kn_46, kn_52, kn_57, kn_60, kn_62, kn_6, km_13, km_33, km_34, km_36, km_37, kx_3, kx_4, kx_5, add_int, add_str, add_tup, sub_int, mul_int, mul_str, mod_int, neg_int, eq_op, ne_op, lt_op, le_op, gt_op, ge_op, is_nn, is_in, isnot_nn, isnot_in, in_str, notin_str, in_lst, sub_tup, sub_lst, sub_str, truth_bool, isNil_lst, attr_exn, len_str, len_tup, len_lst, int_str, str_int, range_int, max_int, tuple_lst, list_lst, slice_from, slice_to, slice_both, bound_int, slice_tup, slice_lst, eq_int, eq_strs, excTab3, excTab4, excTab5, seqAt, SZ, IB, atL_some, atI_some, out_nxt, out_ret, out_exc, sub_ref, isNil_ref, attr_ref, len_ref, setLst_ref, setAtt_ref, b1, b2, a2, eqv_lamN d hd3]
    rw [show f_law_is_read.2.drop 3 = [.tryy [.asg 10 (.call 40 [(.bin .Add (.bin .Add (.loc 49) (.cstr [121])) (.loc 18))])] 5 64 (.bop true [(.cmp .Eq (.attr (.loc 64) 0) (.bi .len [(.loc 49)])), (.bop false [(.cmp .Is (.loc 22) .cnone), (.cmp .Gt (.bin .Add (.loc 22) (.loc 44)) (.cint 999999999))])]), .asg 65 (.ite (.cmp .Is (.loc 22) .cnone) (.tup []) (.tup [(.bin .Add (.cstr [118, 97, 114]) (.bi .str [(.bin .Add (.loc 22) (.loc 44))]))])), .forr [63] false (.bi .range [(.loc 44)]) dueB, .ret (.bop true [(.cmp .IsNot (.loc 22) .cnone), (.cmp .Eq (.loc 10) (.loc 65))])] from rfl]
    rw [EXs_cons, t1, nextOf_nxt, EXs_cons, t2, nextOf_nxt, EXs_cons, t3, nextOf_nxt, EXs_cons, t4, nextOf_ret, out_ret]
  · obtain ⟨σ', n0, n2⟩ := n2 hq
    refine ⟨σ', n0 _ hz, ?_⟩
    by_cases c1 : f.length ≤ 9
    · have ei : idxOf f = .int (numOf f) := by simp [idxOf, c1]
      rw [ei]
      have g1 : ¬ (numOf f : Int) + d ≤ 999999999 := by omega
      have g2 : (999999999 : Int) < (numOf f : Int) + d := by omega
      simp [f_law_is_read, EV_loc, EV_glo, EV_cnone, EV_cbool, EV_cint, EV_cstr, EV_neg, EV_not, EV_bin, EV_cmp, EV_cmpNil, EV_bop, EV_ite, EV_tup, EV_lst, EV_sub, EV_slice, EV_call, EV_bi, EV_meth, EV_mdig, EV_mjoin, EV_mapp, EV_mpop, EV_attr, EV_fstr, EV_fstrs, EV_comp, ET_not, ET_bop, ET_ite, ET_cmp, ET_cmpNil, ET_loc, ET_call, ET_mdig, ETs_nil, ETs_cons, EB_one, EB_cons, EVs_nil, EVs_cons, EO_none, EO_some, EX_asg, EX_asgT, EX_seta, EX_seti, EX_exp, EX_ret, EX_iff, EX_forr, EX_whil, EX_rais, EX_tryy, EXs_nil, EXs_cons, bnd_okL, bnd_exc, bndE_okL, bndE_exc, rok_someL, nextOf_nxt, nextOf_ret, nextOf_exc, excOf_nxt, excOf_exc, excOf_ret, lk, setL, setLs, capture, resOf, lev_q, lev_top, lev_glo, lev_exc, kn_12, kn_15, kn_19, kn_21, kn_23, kn_25, kn_27, kn_29, kn_31, kn_32, kn_40, kn_45, kn_46, kn_52, kn_57, kn_60, kn_62, kn_6, km_13, km_33, km_34, km_36, km_37, kx_3, kx_4, kx_5, add_int, add_str, add_tup, sub_int, mul_int, mul_str, mod_int, neg_int, eq_op, ne_op, lt_op, le_op, gt_op, ge_op, is_nn, is_in, isnot_nn, isnot_in, in_str, notin_str, in_lst, sub_tup, sub_lst, sub_str, truth_bool, isNil_lst, attr_exn, len_str, len_tup, len_lst, int_str, str_int, range_int, max_int, tuple_lst, list_lst, slice_from, slice_to, slice_both, bound_int, slice_tup, slice_lst, eq_int, eq_strs, excTab3, excTab4, excTab5, seqAt, SZ, IB, atL_some, atI_some, out_nxt, out_ret, out_exc, sub_ref, isNil_ref, attr_ref, len_ref, setLst_ref, setAtt_ref, h1, h1b, h2, h2', h3, n2, quiet_q, quiet_glo, caught_ok, g1, g2]
    · have ei : idxOf f = .none := by simp [idxOf, c1]
      rw [ei]
      simp [f_law_is_read, EV_loc, EV_glo, EV_cnone, EV_cbool, EV_cint, EV_cstr, EV_neg, EV_not, EV_bin, EV_cmp, EV_cmpNil, EV_bop, EV_ite, EV_tup, EV_lst, EV_sub, EV_slice, EV_call, EV_bi, EV_meth, EV_mdig, EV_mjoin, EV_mapp, EV_mpop, EV_attr, EV_fstr, EV_fstrs, EV_comp, ET_not, ET_bop, ET_ite, ET_cmp, ET_cmpNil, ET_loc, ET_call, ET_mdig, ETs_nil, ETs_cons, EB_one, EB_cons, EVs_nil, EVs_cons, EO_none, EO_some, EX_asg, EX_asgT, EX_seta, EX_seti, EX_exp, EX_ret, EX_iff, EX_forr, EX_whil, EX_rais, EX_tryy, EXs_nil, EXs_cons, bnd_okL, bnd_exc, bndE_okL, bndE_exc, rok_someL, nextOf_nxt, nextOf_ret, nextOf_exc, excOf_nxt, excOf_exc, excOf_ret, lk, setL, setLs, capture, resOf, lev_q, lev_top, lev_glo, lev_exc, kn_12, kn_15, kn_19, kn_21, kn_23, kn_25, kn_27, kn_29, kn_31, kn_32, kn_40, kn_45, kn_46, kn_52, kn_57, kn_60, kn_62, kn_6, km_13, km_33, km_34, km_36, km_37, kx_3, kx_4, kx_5, add_int, add_str, add_tup, sub_int, mul_int, mul_str, mod_int, neg_int, eq_op, ne_op, lt_op, le_op, gt_op, ge_op, is_nn, is_in, isnot_nn, isnot_in, in_str, notin_str, in_lst, sub_tup, sub_lst, sub_str, truth_bool, isNil_lst, attr_exn, len_str, len_tup, len_lst, int_str, str_int, range_int, max_int, tuple_lst, list_lst, slice_from, slice_to, slice_both, bound_int, slice_tup, slice_lst, eq_int, eq_strs, excTab3, excTab4, excTab5, seqAt, SZ, IB, atL_some, atI_some, out_nxt, out_ret, out_exc, sub_ref, isNil_ref, attr_ref, len_ref, setLst_ref, setAtt_ref, h1, h1b, h2, h2', h3, n2, quiet_q, quiet_glo, caught_ok]
end Mine
end
/-! L17: the law's end -/
section
set_option autoImplicit false
set_option linter.unusedVariables false
set_option linter.unusedSimpArgs false
set_option maxRecDepth 100000
namespace Mine
open PySem
theorem law_q (k : Nat) : (lev gloT k).law.q = false := lev_q k
theorem law_top (k : Nat) : (lev gloT k).law.top = true := rfl
theorem law_fn (k : Nat) : (lev gloT k).law.fn = (lev gloT k).fn := rfl
theorem law_kn (k : Nat) : (lev gloT k).law.kn = (lev gloT k).kn := rfl
theorem law_low (k : Nat) : (lev gloT k).law.low = lev gloT k := by cases k <;> rfl
def long (x : List Nat × Nat) : Bool := !decide (x.1.length ≤ 9)
def bad (x : List Nat × Nat) : Bool := long x || decide (x.2 ≤ numOf x.1)
theorem idx_long {x : List Nat × Nat} (h : long x = true) : idxOf x.1 = .none := by
  simp [long] at h
  simp [idxOf]; omega
theorem idx_short {x : List Nat × Nat} (h : long x = false) : idxOf x.1 = .int (numOf x.1) := by
  simp [long] at h
  simp [idxOf]; omega
theorem cl_is : ∀ (t : Tm) (a : Nat), clT t a = if (t.lvs a).any long = true then .error 3 else .ok ((t.lvs a).filter bad).isEmpty
  | .var f, a => by
    simp only [clT, Tm.lvs]
    by_cases h : f.length ≤ 9
    · by_cases h' : numOf f < a
      · have : ¬ a ≤ numOf f := by omega
        simp [h, h', long, bad, this]
      · have : a ≤ numOf f := by omega
        simp [h, h', long, bad, this]
    · simp [h, long]
  | .oth o, a => by simp [clT, Tm.lvs]
  | .lam t, a => by
    simp only [clT, Tm.lvs]
    exact cl_is t (a + 1)
  | .app l r, a => by
    rw [show (Tm.app l r).lvs a = l.lvs a ++ r.lvs a from rfl, List.any_append, List.filter_append, clT, cl_is l a, cl_is r a]
    cases h : (l.lvs a).any long with
    | true => simp
    | false =>
      cases h' : (r.lvs a).any long with
      | true => simp
      | false => cases (l.lvs a).filter bad <;> simp
section
variable {rows : List (List Nat × Nat)} {σ : Store} {Φ : Sig}
theorem long_comp (hn : rows.length ≤ 10) (hσ : σ[2]? = some (.lst (rows.map rowOf))) : ∀ (m i : Nat) (ρ : Loc) (acc : List PV), i + m = rows.length → acc.length ≤ i → EC Φ (.loc 22) [22, 2] true none (.ref 2) i ρ acc σ = some (.ok (acc ++ (rows.drop i).map fun x => idxOf x.1) σ) := by
  intro m
  induction m with
  | zero =>
    intro i ρ acc h1 h2
    have hi : i = rows.length := by omega
    subst hi
    rw [EC_eq]
    simp [itemAt, hσ]
  | succ m ih =>
    intro i ρ acc h1 h2
    have hi : i < rows.length := by omega
    rw [EC_eq]
    have e : itemAt σ true (.ref 2) i = some (some (rowOf rows[i])) := by simp [itemAt, hσ, hi]
    rw [e]
    simp only [takeV, setLs, rowOf, condOf]
    have h3 : acc.length < SZ := by simp [SZ]; omega
    have e2 : EV Φ (.loc 22) (setL (setL ρ 22 (idxOf rows[i].1)) 2 (.int rows[i].2)) σ = some (.ok (idxOf rows[i].1) σ) := by
      simp [EV_loc, lk_setF, rok_someL]
    rw [bnd_okL, if_pos rfl, e2, bnd_okL, if_pos h3, ih (i + 1) _ _ (by omega) (by simp; omega), List.drop_eq_getElem_cons hi, List.map_cons, List.append_assoc]
    rfl
theorem none_any : ∀ l : List (List Nat × Nat), noneIn (l.map fun x => idxOf x.1) = some (l.any long)
  | [] => rfl
  | x :: r => by
    rw [List.map_cons, List.any_cons]
    cases h : long x with
    | true => rw [idx_long h]; simp [noneIn, none_any r]
    | false => rw [idx_short h]; simp [noneIn, none_any r]
def badC : CE := .bop false [(.cmp .Is (.sub (.loc 70) (.cint 0)) .cnone), (.cmp .GtE (.sub (.loc 70) (.cint 0)) (.sub (.loc 70) (.cint 1)))]
theorem bad_comp (hn : rows.length ≤ 10) (hσ : σ[2]? = some (.lst (rows.map rowOf))) : ∀ (m i : Nat) (ρ : Loc) (acc : List PV), i + m = rows.length → acc.length ≤ i → EC Φ (.loc 70) [70] false (some badC) (.ref 2) i ρ acc σ = some (.ok (acc ++ ((rows.drop i).filter bad).map rowOf) σ) := by
  intro m
  induction m with
  | zero =>
    intro i ρ acc h1 h2
    have hi : i = rows.length := by omega
    subst hi
    rw [EC_eq]
    simp [itemAt, hσ]
  | succ m ih =>
    intro i ρ acc h1 h2
    have hi : i < rows.length := by omega
    rw [EC_eq]
    have e : itemAt σ false (.ref 2) i = some (some (rowOf rows[i])) := by simp [itemAt, hσ, hi]
    rw [e]
    simp only [takeV, setLs, condOf]
    have h3 : acc.length < SZ := by simp [SZ]; omega
    have e1 : ET Φ badC (setL ρ 70 (rowOf rows[i])) σ = some (.ok (bad rows[i]) σ) := by
      cases hl : long rows[i] with
      | true => simp [badC, rowOf, ET_bop, ETs_cons, ETs_nil, ET_cmp, EV_cmp, EV_sub, EV_loc, EV_cint, EV_cnone, lk_same, bnd_okL, rok_someL, sub_tup, seqAt, SZ, idx_long hl, is_nn, truth_bool, bad, hl]
      | false =>
        simp [badC, rowOf, ET_bop, ETs_cons, ETs_nil, ET_cmp, EV_cmp, EV_sub, EV_loc, EV_cint, EV_cnone, lk_same, bnd_okL, rok_someL, sub_tup, seqAt, SZ, idx_short hl, is_in, ge_op, truth_bool, bad, hl]
    have e2 : EV Φ (.loc 70) (setL ρ 70 (rowOf rows[i])) σ = some (.ok (rowOf rows[i]) σ) := by
      simp [EV_loc, lk_same, rok_someL]
    rw [e1, bnd_okL, List.drop_eq_getElem_cons hi]
    cases hb : bad rows[i] with
    | true => rw [if_pos rfl, e2, bnd_okL, if_pos h3, ih (i + 1) _ _ (by omega) (by simp; omega), List.filter_cons_of_pos (by simp [hb])]; simp
    | false => rw [if_neg (by decide), ih (i + 1) _ _ (by omega) (by omega), List.filter_cons_of_neg (by simp [hb])]
end
theorem eqvs_one {n : Nat} {a b : PV} (h : eqvN n a b = some true) : eqvs (eqvN n) [a] [b] = some true := by simp [eqvs, h]
theorem eqv_ix (ns : List Int) : ∀ (t : Tm) (n c : Nat), t.dep + 2 ≤ n → eqvN n (ixT ns t c) (ixT ns t c) = some true
  | .var f, n, c, h => by
    obtain ⟨m, rfl⟩ : ∃ m, n = m + 2 := ⟨n - 2, by omega⟩
    simp [ixT, eqvN, eqvs]
  | .oth f, n, c, h => by
    obtain ⟨m, rfl⟩ : ∃ m, n = m + 2 := ⟨n - 2, by omega⟩
    simp [ixT, eqvN, eqvs]
  | .lam t, n, c, h => by
    simp only [Tm.dep] at h
    obtain ⟨m, rfl⟩ : ∃ m, n = m + 2 := ⟨n - 2, by omega⟩
    have ih := eqv_ix ns t (m + 1) c (by omega)
    simp [ixT, eqvN.eq_def (m + 2), eqvs, ih, eqvN.eq_def (m + 1) (.str sLam)]
  | .app l r, n, c, h => by
    simp only [Tm.dep] at h
    obtain ⟨m, rfl⟩ : ∃ m, n = m + 2 := ⟨n - 2, by omega⟩
    have ih := eqv_ix ns l (m + 1) c (by omega)
    have ih' := eqv_ix ns r (m + 1) (c + l.cnt) (by omega)
    simp [ixT, eqvN.eq_def (m + 2), eqvs, ih, ih', eqvN.eq_def (m + 1) (.str sApp)]
end Mine
end
/-! L18: the law holds -/
section
set_option autoImplicit false
set_option linter.unusedVariables false
set_option linter.unusedSimpArgs false
set_option maxRecDepth 100000
namespace Mine
open PySem
theorem law_tail (s : List Int) (hs : s.length ≤ 40) (t : Tm) (ht : t.ok) (hd : t.dep ≤ 3) (hr : (t.lvs 0).length ≤ 4) (p : Nat) (hp : p < 980) (tl : Store) (ρ : Loc) (h20 : lk ρ 20 = some t.rep) (h56 : lk ρ 56 = some (.ref 2)) (h43 : lk ρ 43 = some (.ref 1)) :
    ∃ ρ' σ', σ'[0]? = some (.tab [200, 195]) ∧ EXs (lev gloT 20).law (f_law.2.drop 6) ρ (fd [195] s p (.lst ((t.lvs 0).map rowOf) :: tl)) = some (.ret (.bool true) ρ' σ') := by
  have hσ : (fd [195] s p (.lst ((t.lvs 0).map rowOf) :: tl))[2]? = some (.lst ((t.lvs 0).map rowOf)) := rfl
  have c1 := long_comp (Φ := (lev gloT 20).law) (by omega) hσ (t.lvs 0).length 0 [] [] (by omega) (by simp)
  have c2 := bad_comp (Φ := (lev gloT 20).law) (by omega) hσ (t.lvs 0).length 0 [] [] (by omega) (by simp)
  simp only [List.nil_append, List.drop_zero] at c1 c2
  have n1 := none_any (t.lvs 0)
  have s1 : EX (lev gloT 20).law (.asg 69 (.cmp .In .cnone (.comp (.loc 22) [22, 2] true [] (.loc 56) .none))) ρ (fd [195] s p (.lst ((t.lvs 0).map rowOf) :: tl)) = some (.nxt (setL ρ 69 (.bool ((t.lvs 0).any long))) (fd [195] s p (.lst ((t.lvs 0).map rowOf) :: tl))) := by
    simp [EX_asg, law_q, EV_cmp, EV_cnone, EV_comp, EV_loc, h56, rok_someL, bnd_okL, bndE_okL, capture, c1, in_lst, n1]
  have s2 : EX (lev gloT 20).law (.asg 65 (.cmpNil .Eq (.comp (.loc 70) [70] false [] (.loc 56) (some badC)))) (setL ρ 69 (.bool ((t.lvs 0).any long))) (fd [195] s p (.lst ((t.lvs 0).map rowOf) :: tl)) = some (.nxt (setL (setL ρ 69 (.bool ((t.lvs 0).any long))) 65 (.bool ((t.lvs 0).filter bad).isEmpty)) (fd [195] s p (.lst ((t.lvs 0).map rowOf) :: tl))) := by
    simp [EX_asg, law_q, EV_cmpNil, EV_comp, EV_loc, lk_setF, h56, rok_someL, bnd_okL, bndE_okL, capture, c2, isNil_lst]
  obtain ⟨σ', hz, e62⟩ := is_read 10 [200, 195] s p (.lst ((t.lvs 0).map rowOf) :: tl) hp hs
  have e62 : (lev gloT 20).fn 62 [.ref 1] (fd [200, 195] s p (.lst ((t.lvs 0).map rowOf) :: tl)) = some (.ok (.bool true) σ') := e62
  have e32 : (lev gloT 20).fn 32 [t.rep] (fd [200, 195] s p (.lst ((t.lvs 0).map rowOf) :: tl)) = some (outB (fd [200, 195] s p (.lst ((t.lvs 0).map rowOf) :: tl)) (clT t 0)) := closed_ok 11 _ t 3 ht hd
  have k32 : (lev gloT 20).kn 32 = true := rfl
  have k62 : (lev gloT 20).kn 62 = true := rfl
  rw [show f_law.2.drop 6 = [.asg 69 (.cmp .In .cnone (.comp (.loc 22) [22, 2] true [] (.loc 56) .none)), .asg 65 (.cmpNil .Eq (.comp (.loc 70) [70] false [] (.loc 56) (some badC))), .ret (.bop true [(.cmp .Eq (.heard 200 [20] (.call 32 [(.loc 20)])) (.ite (.loc 69) (.tup [(.cstr [108, 105, 109, 105, 116]), .cnone]) (.tup [(.cstr [116, 111, 108, 100]), (.loc 65)]))), (.call 62 [(.loc 43)])])] from rfl]
  rw [EXs_cons, s1, nextOf_nxt, EXs_cons, s2, nextOf_nxt]
  refine ⟨setL (setL ρ 69 (.bool ((t.lvs 0).any long))) 65 (.bool ((t.lvs 0).filter bad).isEmpty), σ', hz, ?_⟩
  have eH : EV (lev gloT 20).low (.call 32 [(.loc 20)]) [(20, t.rep)] (fd [200, 195] s p (.lst ((t.lvs 0).map rowOf) :: tl)) = some (outB (fd [200, 195] s p (.lst ((t.lvs 0).map rowOf) :: tl)) (clT t 0)) := by
    rw [show (lev gloT 20).low = lev gloT 20 from law_low 20]
    simp [EV_call, lev_q, k32, EVs_cons, EVs_nil, EV_loc, lk, rok_someL, bnd_okL, e32]
  rw [show (lev gloT 20).low = (lev gloT 20).law.low from rfl] at eH
  rw [EXs_cons, EX_ret, EV_bop, EB_cons, EV_cmp, EV_heard, if_neg (by rw [law_q, law_top]; decide)]
  simp only [capture, lk_setF, h20]
  simp only [fd_get0, fd_set0]
  simp only [show (65 : Nat) = 20 ↔ False by decide, show (69 : Nat) = 20 ↔ False by decide, if_false]
  rw [if_neg (by decide), eH]
  rw [cl_is t 0]
  cases hl : (t.lvs 0).any long with
  | true =>
    simp [outB, heardOf, heardLimit, bnd_okL, EV_ite, ET_loc, EV_loc, lk_setF, rok_someL, truth_bool, EV_tup, EVs_cons, EVs_nil, EV_cstr, EV_cnone, SZ, eq_op, eqv, eqvN, eqvs, sLimit, EB_one, EV_call, law_q, law_kn, law_fn, k62, h43, e62, bndE_okL, nextOf_ret]
  | false =>
    simp [outB, heardOf, heardLimit, bnd_okL, EV_ite, ET_loc, EV_loc, lk_setF, rok_someL, truth_bool, EV_tup, EVs_cons, EVs_nil, EV_cstr, EV_cnone, SZ, eq_op, eqv, eqvN, eqvs, sTold, EB_one, EV_call, law_q, law_kn, law_fn, k62, h43, e62, bndE_okL, nextOf_ret]
end Mine
end
/-! L19: the law runs -/
section
set_option autoImplicit false
set_option linter.unusedVariables false
set_option linter.unusedSimpArgs false
set_option maxRecDepth 100000
namespace Mine
open PySem
theorem lvs_ok : ∀ (t : Tm) (a : Nat), t.ok → ∀ x ∈ t.lvs a, FigOk x.1
  | .var f, a, h, x, hx => by
    simp only [Tm.lvs, List.mem_singleton] at hx
    subst hx
    exact h
  | .oth _, _, _, x, hx => by simp [Tm.lvs] at hx
  | .lam t, a, h, x, hx => lvs_ok t (a + 1) h x hx
  | .app l r, a, h, x, hx => by
    simp only [Tm.lvs, List.mem_append] at hx
    rcases hx with hx | hx
    · exact lvs_ok l a h.1 x hx
    · exact lvs_ok r a h.2 x hx
theorem late_err (by_ : Int) (b : Nat) : ∀ (l : List (List Nat × Nat)) (c : Nat), lateAll by_ b l = .error c → c = 3 ∨ c = 4
  | [], c, h => by cases h
  | (f, a) :: r, c, h => by
    simp only [lateAll] at h
    cases q : lateOf by_ b a f with
    | error e =>
      rw [q] at h
      cases h
      unfold lateOf at q
      split at q
      · split at q
        · split at q
          · cases q; exact .inr rfl
          · split at q
            · cases q
            · cases q; exact .inl rfl
        · cases q
      · cases q; exact .inl rfl
    | ok i =>
      rw [q] at h
      dsimp only at h
      cases q' : lateAll by_ b r with
      | error e =>
        rw [q'] at h
        cases h
        exact late_err by_ b r _ q'
      | ok m => rw [q'] at h; cases h
theorem late_small (by_ : Int) (b : Nat) (hb : by_.natAbs ≤ 1000000000) : ∀ (l : List (List Nat × Nat)) (ns : List Int), (∀ x ∈ l, FigOk x.1) → lateAll by_ b l = .ok ns → ∀ x ∈ ns, x.natAbs < 1000000000000000000
  | [], ns, _, h, x, hx => by cases h; cases hx
  | (f, a) :: r, ns, hok, h, x, hx => by
    simp only [lateAll] at h
    cases q : lateOf by_ b a f with
    | error e => rw [q] at h; cases h
    | ok i =>
      rw [q] at h
      dsimp only at h
      cases q' : lateAll by_ b r with
      | error e => rw [q'] at h; cases h
      | ok m =>
        rw [q'] at h
        cases h
        rcases List.mem_cons.mp hx with rfl | hx
        · have hf : FigOk f := hok _ (List.mem_cons_self ..)
          unfold lateOf at q
          split at q
          · rename_i h9
            have hle := num_le hf h9
            split at q
            · split at q
              · cases q
              · split at q
                · cases q; omega
                · cases q
            · cases q; omega
          · cases q
        · exact late_small by_ b hb r m (fun y hy => hok y (List.mem_cons_of_mem _ hy)) q' x hx
theorem by_at (d : Nat) (h : (d : Int) < 6) : ∃ b : Int, b.natAbs ≤ 1000000000 ∧ seqAt [.int 0, .int 1, .int 7, .int 999999990, .int (-1), .int (-3)] (d : Int) = some (.int b) := by
  match d, h with
  | 0, _ => exact ⟨0, by decide, rfl⟩
  | 1, _ => exact ⟨1, by decide, rfl⟩
  | 2, _ => exact ⟨7, by decide, rfl⟩
  | 3, _ => exact ⟨999999990, by decide, rfl⟩
  | 4, _ => exact ⟨-1, by decide, rfl⟩
  | 5, _ => exact ⟨-3, by decide, rfl⟩
  | d + 6, h => exact absurd h (by omega)
theorem law_runs (script : List Int) (hl : script.length ≤ 63) : ∃ ρ' σ', σ'[0]? = some (.tab [200, 195]) ∧ EXs (lev gloT 20).law f_law.2 [(66, .lst (script.map .int))] [.tab []] = some (.ret (.bool true) ρ' σ') := by
  have h0 : script.length ≤ 100000 := by omega
  generalize hsc : script.take 40 = s
  have hs : s.length ≤ 40 := by rw [← hsc]; simp; omega
  have hs' : s.length ≤ 100000 := by omega
  have htk : (script.map PV.int).take 40 = s.map PV.int := by rw [← List.map_take, hsc]
  have s1 : EX (lev gloT 20).law (.asgT [43, 56] (.tup [(.lst [(.bi .list [(.slice (.loc 66) .none (some (.cint 40)))]), (.cint 0)]), (.lst [])])) [(66, .lst (script.map .int))] [.tab []] = some (.nxt [(66, .lst (script.map .int)), (43, .ref 1), (56, .ref 2)] (fd [] s 0 [.lst []])) := by
    simp [EX_asgT, law_q, EV_tup, EVs_cons, EVs_nil, EV_lst, EV_bi, EV_slice, EO_none, EO_some, EV_cint, EV_loc, lk, rok_someL, bnd_okL, bndE_okL, slice_lst, list_lst, SZ, h0, htk, hs', setLs, setL, fd]
  obtain ⟨t, p1, ht, hd, hp1, hr, e52⟩ := term_ok 14 [] s [] hs 3 0 0 [] (by simp [cst]) (by simp)
  have e52 : (lev gloT 20).fn 52 [.ref 1, .int 3, .int 0, .ref 2] (fd [] s 0 [.lst []]) = some (.ok t.rep (fd [] s p1 [.lst ((t.lvs 0).map rowOf)])) := e52
  simp only [cst, Nat.zero_add] at hp1
  simp only [List.nil_append, List.length_map] at hr
  have s2 : EX (lev gloT 20).law (.asg 20 (.call 52 [(.loc 43), (.cint 3), (.cint 0), (.loc 56)])) [(66, .lst (script.map .int)), (43, .ref 1), (56, .ref 2)] (fd [] s 0 [.lst []]) = some (.nxt [(66, .lst (script.map .int)), (43, .ref 1), (56, .ref 2), (20, t.rep)] (fd [] s p1 [.lst ((t.lvs 0).map rowOf)])) := by
    have k52 : (lev gloT 20).kn 52 = true := rfl
    simp [EX_asg, law_q, law_kn, law_fn, k52, EV_call, EVs_cons, EVs_nil, EV_cint, EV_loc, lk, rok_someL, bnd_okL, bndE_okL, e52, setL]
  obtain ⟨d1, hd1, e45⟩ := dip_ok 19 [] s p1 [.lst ((t.lvs 0).map rowOf)] 6 (by omega) (by omega) hs
  obtain ⟨b, hb, e45'⟩ := dip_ok 19 [] s (p1 + 1) [.lst ((t.lvs 0).map rowOf)] 3 (by omega) (by omega) hs
  have e45 : (lev gloT 20).fn 45 [.ref 1, .int 6] (fd [] s p1 [.lst ((t.lvs 0).map rowOf)]) = some (.ok (.int d1) (fd [] s (p1 + 1) [.lst ((t.lvs 0).map rowOf)])) := e45
  have e45' : (lev gloT 20).fn 45 [.ref 1, .int 3] (fd [] s (p1 + 1) [.lst ((t.lvs 0).map rowOf)]) = some (.ok (.int b) (fd [] s (p1 + 2) [.lst ((t.lvs 0).map rowOf)])) := e45'
  obtain ⟨by_, hby, eby⟩ := by_at d1 hd1
  have s3 : EX (lev gloT 20).law (.asgT [26, 14] (.tup [(.sub (.tup [(.cint 0), (.cint 1), (.cint 7), (.cint 999999990), (.neg (.cint 1)), (.neg (.cint 3))]) (.call 45 [(.loc 43), (.cint 6)])), (.call 45 [(.loc 43), (.cint 3)])])) [(66, .lst (script.map .int)), (43, .ref 1), (56, .ref 2), (20, t.rep)] (fd [] s p1 [.lst ((t.lvs 0).map rowOf)]) = some (.nxt [(66, .lst (script.map .int)), (43, .ref 1), (56, .ref 2), (20, t.rep), (26, .int by_), (14, .int b)] (fd [] s (p1 + 2) [.lst ((t.lvs 0).map rowOf)])) := by
    have k45 : (lev gloT 20).kn 45 = true := rfl
    simp [EX_asgT, law_q, law_kn, law_fn, k45, EV_call, EV_tup, EV_sub, EV_neg, neg_int, sub_tup, EVs_cons, EVs_nil, EV_cint, EV_loc, lk, rok_someL, bnd_okL, bndE_okL, e45, e45', eby, SZ, setLs, setL]
  generalize hp2 : p1 + 2 = p at s3
  have hp : p < 980 := by omega
  have hok := lvs_ok t 0 ht
  have e57 := late_ok 19 [] s p by_ b (t.lvs 0) hok (by omega)
  have e29 : ∀ σ, (lev gloT 20).fn 29 [t.rep, .int by_, .int b] σ = some (outE σ (mvT by_ b t 0)) := fun σ => shifted_ok 11 by_ b (by omega) hby σ t 3 ht hd
  rw [show f_law.2 = .asgT [43, 56] (.tup [(.lst [(.bi .list [(.slice (.loc 66) .none (some (.cint 40)))]), (.cint 0)]), (.lst [])]) :: .asg 20 (.call 52 [(.loc 43), (.cint 3), (.cint 0), (.loc 56)]) :: .asgT [26, 14] (.tup [(.sub (.tup [(.cint 0), (.cint 1), (.cint 7), (.cint 999999990), (.neg (.cint 1)), (.neg (.cint 3))]) (.call 45 [(.loc 43), (.cint 6)])), (.call 45 [(.loc 43), (.cint 3)])]) :: .asgT [68, 59] (.call 57 [(.loc 56), (.loc 26), (.loc 14)]) :: .asg 10 (.heard 195 [20, 26, 14] (.call 29 [(.loc 20), (.loc 26), (.loc 14)])) :: .iff (.bop false [(.cmp .NotEq (.sub (.loc 10) (.cint 0)) (.loc 68)), (.bop true [(.cmp .Eq (.loc 68) (.cstr [116, 111, 108, 100])), (.cmp .NotEq (.sub (.loc 10) (.cint 1)) (.call 60 [(.loc 20), (.lst []), (.loc 59)]))])]) [.ret (.cbool false)] [] :: f_law.2.drop 6 from rfl]
  rw [EXs_cons, s1, nextOf_nxt, EXs_cons, s2, nextOf_nxt, EXs_cons, s3, nextOf_nxt]
  have k57 : (lev gloT 20).kn 57 = true := rfl
  have k29 : (lev gloT 20).kn 29 = true := rfl
  have k60 : (lev gloT 20).kn 60 = true := rfl
  have eH : ∀ σ, EV (lev gloT 20).law.low (.call 29 [(.loc 20), (.loc 26), (.loc 14)]) [(20, t.rep), (26, .int by_), (14, .int b)] σ = some (outE σ (mvT by_ b t 0)) := fun σ => by
    rw [law_low 20]
    simp [EV_call, lev_q, k29, EVs_cons, EVs_nil, EV_loc, lk, rok_someL, bnd_okL, e29]
  have eHH : ∀ (ρ : Loc) (tl : Store), lk ρ 20 = some t.rep → lk ρ 26 = some (.int by_) → lk ρ 14 = some (.int b) → EV (lev gloT 20).law (.heard 195 [20, 26, 14] (.call 29 [(.loc 20), (.loc 26), (.loc 14)])) ρ (fd [] s p tl) = heardOf sTold sLimit sTerm (some (outE (fd [195] s p tl) (mvT by_ b t 0))) := fun ρ tl g1 g2 g3 => by
    rw [EV_heard, if_neg (by rw [law_q, law_top]; decide)]
    simp only [capture, g1, g2, g3]
    simp only [fd_get0, fd_set0]
    rw [if_neg (by decide), eH]
  have hmv := mv_ix by_ b t 0 [] []
  cases q : lateAll by_ b (t.lvs 0) with
  | ok ns =>
    rw [q] at e57 hmv
    simp only [List.nil_append, List.append_nil, List.length_nil] at hmv
    have hns := late_small by_ b hby _ _ hok q
    have hnl := late_len by_ b _ _ q
    rw [lvs_cnt] at hnl hr
    have e57 : (lev gloT 20).fn 57 [.ref 2, .int by_, .int b] (fd [] s p [.lst ((t.lvs 0).map rowOf)]) = some (.ok (.tup [.str sTold, .ref 3]) (fd [] s p [.lst ((t.lvs 0).map rowOf), .lst (ns.map .int)])) := e57
    have s4 : EX (lev gloT 20).law (.asgT [68, 59] (.call 57 [(.loc 56), (.loc 26), (.loc 14)])) [(66, .lst (script.map .int)), (43, .ref 1), (56, .ref 2), (20, t.rep), (26, .int by_), (14, .int b)] (fd [] s p [.lst ((t.lvs 0).map rowOf)]) = some (.nxt [(66, .lst (script.map .int)), (43, .ref 1), (56, .ref 2), (20, t.rep), (26, .int by_), (14, .int b), (68, .str sTold), (59, .ref 3)] (fd [] s p [.lst ((t.lvs 0).map rowOf), .lst (ns.map .int)])) := by
      simp [EX_asgT, law_q, law_kn, law_fn, k57, EV_call, EVs_cons, EVs_nil, EV_loc, lk, rok_someL, bnd_okL, bndE_okL, e57, setLs, setL]
    have s5 : EX (lev gloT 20).law (.asg 10 (.heard 195 [20, 26, 14] (.call 29 [(.loc 20), (.loc 26), (.loc 14)]))) [(66, .lst (script.map .int)), (43, .ref 1), (56, .ref 2), (20, t.rep), (26, .int by_), (14, .int b), (68, .str sTold), (59, .ref 3)] (fd [] s p [.lst ((t.lvs 0).map rowOf), .lst (ns.map .int)]) = some (.nxt [(66, .lst (script.map .int)), (43, .ref 1), (56, .ref 2), (20, t.rep), (26, .int by_), (14, .int b), (68, .str sTold), (59, .ref 3), (10, .tup [.str sTold, ixT ns t 0])] (fd [195] s p [.lst ((t.lvs 0).map rowOf), .lst (ns.map .int)])) := by
      rw [EX_asg, if_neg (by rw [law_q]; decide), eHH _ _ rfl rfl rfl, hmv]
      rfl
    have e60 := indexed_ok 16 [195] s p (.lst ((t.lvs 0).map rowOf)) ns (by omega) hns t 3 0 ht hd (by omega)
    have e60 : (lev gloT 20).fn 60 [t.rep, .ref 4, .ref 3] (fd [195] s p [.lst ((t.lvs 0).map rowOf), .lst (ns.map .int), .lst []]) = some (.ok (ixT ns t 0) (fd [195] s p [.lst ((t.lvs 0).map rowOf), .lst (ns.map .int), .lst (List.replicate (0 + t.cnt) (.int 0))])) := e60
    have eqi := eqv_ix ns t 40 0 (by omega)
    have eqi : eqv (ixT ns t 0) (ixT ns t 0) = some true := eqi
    have eqt : eqv (.str sTold) (.str sTold) = some true := rfl
    have eqt' : eqv (.str sTold) (.str [116, 111, 108, 100]) = some true := rfl
    have s6 : EX (lev gloT 20).law (.iff (.bop false [(.cmp .NotEq (.sub (.loc 10) (.cint 0)) (.loc 68)), (.bop true [(.cmp .Eq (.loc 68) (.cstr [116, 111, 108, 100])), (.cmp .NotEq (.sub (.loc 10) (.cint 1)) (.call 60 [(.loc 20), (.lst []), (.loc 59)]))])]) [.ret (.cbool false)] []) [(66, .lst (script.map .int)), (43, .ref 1), (56, .ref 2), (20, t.rep), (26, .int by_), (14, .int b), (68, .str sTold), (59, .ref 3), (10, .tup [.str sTold, ixT ns t 0])] (fd [195] s p [.lst ((t.lvs 0).map rowOf), .lst (ns.map .int)]) = some (.nxt [(66, .lst (script.map .int)), (43, .ref 1), (56, .ref 2), (20, t.rep), (26, .int by_), (14, .int b), (68, .str sTold), (59, .ref 3), (10, .tup [.str sTold, ixT ns t 0])] (fd [195] s p [.lst ((t.lvs 0).map rowOf), .lst (ns.map .int), .lst (List.replicate (0 + t.cnt) (.int 0))])) := by
      simp [EX_iff, ET_bop, ETs_cons, ETs_nil, ET_cmp, EV_cmp, EV_sub, EV_loc, EV_cint, EV_cstr, EV_call, EV_lst, EVs_cons, EVs_nil, lk, rok_someL, bnd_okL, bndE_okL, sub_tup, seqAt, SZ, ne_op, eq_op, eqi, eqt, eqt', truth_bool, law_q, law_kn, law_fn, k60, fd_len, fd_app, e60, EXs_nil]
    rw [EXs_cons, s4, nextOf_nxt, EXs_cons, s5, nextOf_nxt, EXs_cons, s6, nextOf_nxt]
    exact law_tail s hs t ht hd (by rw [lvs_cnt]; exact hr) p hp _ _ rfl rfl rfl
  | error c =>
    rw [q] at e57 hmv
    obtain ⟨l, e57⟩ := e57
    have e57 : (lev gloT 20).fn 57 [.ref 2, .int by_, .int b] (fd [] s p [.lst ((t.lvs 0).map rowOf)]) = some (.ok (.tup [.str (wordOf c), .none]) (fd [] s p [.lst ((t.lvs 0).map rowOf), .lst l])) := e57
    have s4 : EX (lev gloT 20).law (.asgT [68, 59] (.call 57 [(.loc 56), (.loc 26), (.loc 14)])) [(66, .lst (script.map .int)), (43, .ref 1), (56, .ref 2), (20, t.rep), (26, .int by_), (14, .int b)] (fd [] s p [.lst ((t.lvs 0).map rowOf)]) = some (.nxt [(66, .lst (script.map .int)), (43, .ref 1), (56, .ref 2), (20, t.rep), (26, .int by_), (14, .int b), (68, .str (wordOf c)), (59, .none)] (fd [] s p [.lst ((t.lvs 0).map rowOf), .lst l])) := by
      simp [EX_asgT, law_q, law_kn, law_fn, k57, EV_call, EVs_cons, EVs_nil, EV_loc, lk, rok_someL, bnd_okL, bndE_okL, e57, setLs, setL]
    have s5 : EX (lev gloT 20).law (.asg 10 (.heard 195 [20, 26, 14] (.call 29 [(.loc 20), (.loc 26), (.loc 14)]))) [(66, .lst (script.map .int)), (43, .ref 1), (56, .ref 2), (20, t.rep), (26, .int by_), (14, .int b), (68, .str (wordOf c)), (59, .none)] (fd [] s p [.lst ((t.lvs 0).map rowOf), .lst l]) = some (.nxt [(66, .lst (script.map .int)), (43, .ref 1), (56, .ref 2), (20, t.rep), (26, .int by_), (14, .int b), (68, .str (wordOf c)), (59, .none), (10, .tup [.str (wordOf c), .none])] (fd [195] s p [.lst ((t.lvs 0).map rowOf), .lst l])) := by
      rw [EX_asg, if_neg (by rw [law_q]; decide), eHH _ _ rfl rfl rfl, hmv]
      rcases late_err by_ b _ _ q with rfl | rfl <;> rfl
    have eqt : eqv (.str (wordOf c)) (.str (wordOf c)) = some true := by rw [eq_strs]; simp
    have eqt' : eqv (.str (wordOf c)) (.str [116, 111, 108, 100]) = some false := by
      rcases late_err by_ b _ _ q with rfl | rfl <;> rfl
    have s6 : EX (lev gloT 20).law (.iff (.bop false [(.cmp .NotEq (.sub (.loc 10) (.cint 0)) (.loc 68)), (.bop true [(.cmp .Eq (.loc 68) (.cstr [116, 111, 108, 100])), (.cmp .NotEq (.sub (.loc 10) (.cint 1)) (.call 60 [(.loc 20), (.lst []), (.loc 59)]))])]) [.ret (.cbool false)] []) [(66, .lst (script.map .int)), (43, .ref 1), (56, .ref 2), (20, t.rep), (26, .int by_), (14, .int b), (68, .str (wordOf c)), (59, .none), (10, .tup [.str (wordOf c), .none])] (fd [195] s p [.lst ((t.lvs 0).map rowOf), .lst l]) = some (.nxt [(66, .lst (script.map .int)), (43, .ref 1), (56, .ref 2), (20, t.rep), (26, .int by_), (14, .int b), (68, .str (wordOf c)), (59, .none), (10, .tup [.str (wordOf c), .none])] (fd [195] s p [.lst ((t.lvs 0).map rowOf), .lst l])) := by
      simp [EX_iff, ET_bop, ETs_cons, ETs_nil, ET_cmp, EV_cmp, EV_sub, EV_loc, EV_cint, EV_cstr, lk, rok_someL, bnd_okL, bndE_okL, sub_tup, seqAt, SZ, ne_op, eq_op, eqt, eqt', truth_bool, EXs_nil]
    rw [EXs_cons, s4, nextOf_nxt, EXs_cons, s5, nextOf_nxt, EXs_cons, s6, nextOf_nxt]
    exact law_tail s hs t ht hd hr p hp _ _ rfl rfl rfl
end Mine
end
/-! M42: the law, walked -/
section
set_option autoImplicit false
set_option linter.unusedVariables false
set_option linter.unusedSimpArgs false
set_option maxRecDepth 100000
namespace Mine
open PySem PySem.W PySem.Calls PyProof.Rows
theorem rel_ints {L : Lo} {h : Heap} : ∀ {vs : List Value} {ns : List Int}, IntsAre vs ns → RelVs false L h vs (ns.map .int)
  | _, _, .nil => by simp [RelVs]
  | _, _, .cons n t r => by
    simp only [List.map_cons, RelVs, RelV]
    exact ⟨⟨t, rfl⟩, rel_ints r⟩
section
variable {prog : Program} {w : World} {mg mb : Str → Option Value} {s : Shared}
def Lo.tab : Lo := ⟨[⟨270, 270⟩], []⟩
theorem own_tab {a : Addr} (h : a ∈ own Lo.tab) : a = 270 := by
  simp [own, Lo.tab, ownT] at h
  exact h
theorem Gd.st (G : Gd prog w s.heap mg mb) : St (Wof prog w s.heap mg mb) false [] Lo.tab [.tab []] s.heap where
  base := fun b o e => of_hideAll [270] e
  offb := fun a ha => by
    rw [own_tab ha]
    exact hideAll_none [270] (by simp)
  lay := {
    len := rfl
    apart := fun i j p r hi hj hij => by
      have h1 : i < 1 := (List.getElem?_eq_some_iff.mp hi).1
      have h2 : j < 1 := (List.getElem?_eq_some_iff.mp hj).1
      omega
    objs := fun i p o hi ho => by
      have h1 : i < 1 := (List.getElem?_eq_some_iff.mp hi).1
      obtain rfl : i = 0 := by omega
      cases hi
      cases ho
      exact ⟨rfl, rfl, #[], G.tab, trivial, fun _ _ => rfl⟩
    hidden := fun a ha => by cases ha }
  fr := fun e he => by cases he
theorem law_wp (G : Gd prog w s.heap mg mb) {lst : Addr} {vs : List Value} {ns : List Int} (hl : s.heap.IsList lst vs.toArray) (hI : IntsAre vs ns) (hn : ns.length ≤ 63) {Q E : Value → Shared → Prop}
    (h : ∀ h' tk, (∀ b o, b ≠ 270 → s.heap.get? b = some o → h'.get? b = some o) → (∃ ps, h'.get? 270 = some (tabObj ps)) → Q (.bool true) { s with heap := h', toks := tk }) :
    wpAny (model prog w) callerA (call (.ref 273) [.ref lst]) Q E s := by
  obtain ⟨ρ', σ', hz, hr⟩ := law_runs ns hn
  have hne : lst ∉ own Lo.tab := fun z => by
    have := own_tab z
    subst this
    obtain ⟨o, ho, hc, n, hd⟩ := hl
    rw [G.tab] at ho
    cases ho
    cases hc
  refine law_ok (W := Wof prog w s.heap mg mb) (K := KK w.params) (args := [.lst (ns.map .int)]) (fs := []) G.prg is_f_law (k := 20) rfl hr ⟨rfl, by decide, by decide⟩ rfl G.st ⟨⟨lst, vs.toArray, rfl, hne, hl, ?_⟩, trivial⟩ ?_
  · simpa using rel_ints hI
  · intro v L' h' tk st af rel
    obtain rfl : v = .bool true := rel
    refine h h' tk (fun b o hb e => st.base b o (G.old b o hb e)) ?_
    obtain ⟨⟨T, rfl, hT⟩, _⟩ := af
    have h0 : (Lo.tab ++ T).l[0]? = some ⟨270, 270⟩ := rfl
    obtain ⟨_, _, ps, hps, _⟩ := st.lay.objs 0 _ _ h0 hz
    exact ⟨ps, hps⟩
end
end Mine
end
section
set_option maxRecDepth 100000
set_option maxHeartbeats 8000000
open PySem PySem.W PyProof.Rows
namespace Mine
theorem mk_gd {p : Program} {loose : List Str} {mean : ExcName → Option Value} {prog : Program} {w : World} {mg mb : Str → Option Value} {h : Heap} (T : Top p loose mean mg mb h) (X : (KK w.params).In h) (ht : h.get? 270 = some (tabObj #[])) (hf : ((prog.main.file : Str) == ("/claim/cut.py" : Str)) = true) (hs : (prog.main.scope.names.lookup ("super" : Str)).isSome = false) : Gd prog w h mg mb :=
  ⟨X, ht, T.g, T.b, T.nolimit, T.builtins, T.bmain, hf, hs⟩
theorem file_ok : ((PySem.Challenge.rw_sa0024_01.row.prog.main.file : Str) == ("/claim/cut.py" : Str)) = true := by decide +kernel
theorem super_ok : (PySem.Challenge.rw_sa0024_01.row.prog.main.scope.names.lookup ("super" : Str)).isSome = false := by decide +kernel
theorem good_end {mean : ExcName → Option Value} {args : List WData} {cl : Str → Option Addr} {s : Shared} (w : World) (X : (KK w.params).In s.heap) (ht : s.heap.get? 270 = some (tabObj #[])) (hg : s.gens = #[]) {h' : Heap} {tk : Nat} (k : ∀ b o, b ≠ 270 → s.heap.get? b = some o → h'.get? b = some o) (hp : ∃ ps, h'.get? 270 = some (tabObj ps)) :
    GoodWG PySem.Challenge.rw_sa0024_01.row.claim cl mean args s (.ok (.ret (.bool true))) { s with heap := h', toks := tk } := by
  refine ⟨.inl ⟨.bool true, .bool true, [], rfl, fun _ => rfl, .bool true, by with_unfolding_all rfl, fun _ => ⟨List.nodup_nil, fun a ha => by cases ha⟩⟩, ⟨fun b o e => ?_, fun b o e => ?_⟩, rfl, .of_eq hg⟩
  · by_cases hb : b = 270
    · subst hb
      rw [ht] at e
      cases e
      obtain ⟨ps, hps⟩ := hp
      refine .inr (.inl ⟨⟨272, _, _, X _ _ rfl, rfl, rfl, rfl⟩, rfl, #[], ps, rfl, ?_⟩)
      rw [hps]
      simp
    · exact .inl (k b o hb e)
  · by_cases hb : b = 270
    · subst hb
      obtain ⟨ps, hps⟩ := hp
      exact ⟨_, hps⟩
    · exact ⟨o, k b o hb e⟩
end Mine
end
set_option maxRecDepth 100000 in
set_option maxHeartbeats 8000000 in
theorem PySem.Challenge.cw_sa0024_01_holds : PySem.Challenge.rw_sa0024_01.Holds := by
  refine Mine.hd ?_
  k_fill
  intro w s₀ s₁ mg mb G Y fa o pm cd doc dV kV ho hd hcd hD hmg hg args vals as hpre hlay hrd hwl hlo
  have KX := km_in_of Y
  have hT8 := km_tabs_of Y
  refine Ground.open G ?_
  intro T B D TE TW
  have GD := Mine.mk_gd (prog := PySem.Challenge.rw_sa0024_01.row.prog) T KX (hT8 270 (List.mem_cons_self ..)) Mine.file_ok Mine.super_ok
  have hfa : fa = 273 := by
    have h1 := mg_of (n := ("law" : Str)) (v := .ref 273) KX T.g (by rfl)
    have h2 : mg ("law" : Str) = some (.ref fa) := hmg
    rw [h1] at h2
    exact (Value.ref.inj (Option.some.inj h2)).symm
  subst hfa
  clear hd hcd hD hmg ho B D TE TW Y G
  wrow_args hpre hlay hrd hwl hlo
  rename_i ns _ _ _ _ _ _ _ lst vs _ hl _ _ _ hI _ hlen _
  exact Mine.law_wp GD hl hI (by omega) fun h' tk k hp => Mine.good_end w KX (hT8 270 (List.mem_cons_self ..)) hg k hp
