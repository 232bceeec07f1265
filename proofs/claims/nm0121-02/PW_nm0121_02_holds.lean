import PyProof.Rows.All
import Wide.All
import OpenK.AllK
import Wide.FinOn
import KE.BitLaws
import Lean
import PySem.Challenge.RW_nm0121_02
set_option Elab.async false
set_option autoImplicit false
set_option maxRecDepth 100000
set_option maxHeartbeats 0
set_option linter.all false
set_option genSizeOf false
set_option genInjectivity false
set_option exponentiation.threshold 500
namespace Mine
open PySem
inductive BI where
 | len | range | bytes | bytearray | ord | chr | sum | max
inductive G where
 | fn (f : Nat) | cls (c : Nat) | exc (c : Nat) | bi (b : BI)
mutual
inductive E where
 | abs
 | loc (x : Nat)
 | int (i : Int)
 | str (s : List Nat)
 | bool (b : Bool)
 | none
 | bin (op : Operator) (l r : E)
 | not (e : E)
 | neg (e : E)
 | cmp (op : CmpOp) (l r : E)
 | cmp2 (op op' : CmpOp) (l m r : E)
 | bop (op : BoolOp) (es : Es)
 | ite (t b o : E)
 | callg (n : Nat) (g : G) (as : Es)
 | mcall (o : E) (m : Nat) (as : Es)
 | attr (o : E) (a : Nat)
 | sub (o i : E)
 | slice (o lo hi : E)
 | list (es : Es)
 | tup (es : Es)
 | comp (elt : E) (x : Nat) (iter : E) (conds : Es)
inductive Es where
 | nil
 | cons (e : E) (es : Es)
end
inductive Tg where
 | one (x : Nat)
 | many (xs : List Nat)
mutual
inductive S where
 | expr (e : E)
 | assign (t : Tg) (e : E)
 | assignA (o : E) (a : Nat) (e : E)
 | aug (x : Nat) (op : Operator) (e : E)
 | augsub (o i : E) (op : Operator) (e : E)
 | ite (t : E) (b o : Ss)
 | whil (t : E) (b : Ss)
 | fori (t : Tg) (it : E) (b : Ss)
 | ret (e : E)
 | raise (e : E)
 | tryx (b : Ss) (cn : Nat) (c : Nat) (x : Nat) (h : Ss)
inductive Ss where
 | nil
 | cons (s : S) (ss : Ss)
end
inductive V where
 | none
 | bool (b : Bool)
 | int (i : Int)
 | str (s : List Nat)
 | bytes (b : List Int)
 | tup (vs : List V)
 | range (a b c : Int)
 | ref (i : Nat)
inductive O where
 | list (vs : List V)
 | ba (bs : List Int)
 | inst (c : Nat) (fs : List (Nat × V))
 | exc (c : Nat) (fs : List (Nat × V))
abbrev Hp := List O
abbrev Loc := List (Nat × V)
inductive Out (α : Type) where
 | ok (a : α) (hp : Hp)
 | raise (i : Nat) (hp : Hp)
abbrev P (α : Type) := Hp -> Option (Out α)
noncomputable def P.ret {α : Type} (a : α) : P α := fun hp => some (.ok a hp)
noncomputable def P.fail {α : Type} : P α := fun _ => Option.none
noncomputable def P.bind {α β : Type} (m : P α) (f : α -> P β) : P β := fun hp => match m hp with
 | Option.none => Option.none
 | some (.raise i hp) => some (.raise i hp)
 | some (.ok a hp) => f a hp
noncomputable def P.of {α : Type} (x : Option α) : P α := fun hp => x.map fun a => .ok a hp
inductive OutS where
 | next (lv : Loc) (hp : Hp)
 | ret (v : V) (lv : Loc) (hp : Hp)
 | raise (i : Nat) (lv : Loc) (hp : Hp)
noncomputable def seqS (r : Option OutS) (k : Loc -> Hp -> Option OutS) : Option OutS := match r with
 | some (.next lv hp) => k lv hp
 | r => r
noncomputable def onV {α : Type} (r : Option (Out α)) (lv : Loc) (k : α -> Hp -> Option OutS) : Option OutS := match r with
 | Option.none => Option.none
 | some (.raise i hp) => some (.raise i lv hp)
 | some (.ok a hp) => k a hp
noncomputable def setL (x : Nat) (v : V) (lv : Loc) : Loc := (x, v) :: lv.filter fun y => y.1 != x
noncomputable def getF (fs : List (Nat × V)) (a : Nat) : Option V := fs.lookup a
noncomputable def setF (fs : List (Nat × V)) (a : Nat) (v : V) : List (Nat × V) := match fs with
 | [] => [(a, v)]
 | (b, w) :: r => if b = a then (a, v) :: r else (b, w) :: setF r a v
noncomputable def bytesOk (l : List Int) : Bool := l.all fun i => decide (0 <= i) && decide (i < 256)
noncomputable def V.int? : V -> Option Int
 | .int i => some i
 | _ => Option.none
noncomputable def intsOf : List V -> Option (List Int)
 | [] => some []
 | v :: r => v.int?.bind fun i => (intsOf r).map (i :: ·)
noncomputable def V.ref? : V -> Option Nat
 | .ref i => some i
 | _ => Option.none
noncomputable def one : List V -> Option V
 | [] => Option.none
 | v :: r => if r.isEmpty then some v else Option.none
noncomputable def guard' {α : Type} (c : Prop) [Decidable c] (a : Option α) : Option α := if c then a else Option.none
noncomputable def small64 (a : Int) : Bool := decide (a.natAbs < 2 ^ 64)
noncomputable def mulOk (a b : Int) : Bool := decide (a.natAbs < 2 ^ 400) && decide (b.natAbs < 2 ^ 400)
noncomputable def binInt (op : Operator) (a b : Int) : Option Int := match op with
 | .Add => some (a + b)
 | .Sub => some (a - b)
 | .Mult => if mulOk a b then some (a * b) else Option.none
 | .FloorDiv => if 0 < b /\ b.natAbs < 2 ^ 400 then some (a / b) else Option.none
 | .Mod => if 0 < b /\ b.natAbs < 2 ^ 400 then some (a % b) else Option.none
 | .Pow => if 0 <= b /\ b <= 100000 /\ small64 a then some (a ^ b.toNat) else Option.none
 | .LShift => if 0 <= b /\ b <= 100000 /\ small64 a then some (a * 2 ^ b.toNat) else Option.none
 | .RShift => if 0 <= b then some (a / 2 ^ b.toNat) else Option.none
 | .BitAnd => some (Builtin.bitAnd a b)
 | .BitOr => some (Builtin.bitOr a b)
 | _ => Option.none
noncomputable def O.list? : O -> Option (List V)
 | .list vs => some vs
 | _ => Option.none
noncomputable def O.ba? : O -> Option (List Int)
 | .ba b => some b
 | _ => Option.none
noncomputable def listAt (i : Nat) (hp : Hp) : Option (List V) := hp[i]?.bind O.list?
noncomputable def alloc (o : O) : P V := fun hp => some (.ok (.ref hp.length) (hp ++ [o]))
noncomputable def big : Nat := 100000
noncomputable def Operator.isAdd : Operator -> Bool
 | .Add => true
 | _ => false
noncomputable def binop (op : Operator) (a b : V) : P V := fun hp => match a with
 | .int a => b.int?.bind fun b => (binInt op a b).map fun c => .ok (.int c) hp
 | .str a => (match b with
  | .str b => if Mine.Operator.isAdd op = true /\ a.length + b.length <= big then some (.ok (.str (a ++ b)) hp) else Option.none
  | _ => Option.none)
 | .ref i => b.ref?.bind fun j => (listAt i hp).bind fun vs => (listAt j hp).bind fun ws => if Mine.Operator.isAdd op = true /\ vs.length + ws.length <= big then alloc (.list (vs ++ ws)) hp else Option.none
 | _ => Option.none
noncomputable def kind : V -> Nat
 | .none => 0
 | .int _ => 1
 | .str _ => 2
 | .bool _ => 3
 | .bytes _ => 4
 | _ => 9
noncomputable def V.str? : V -> Option (List Nat)
 | .str s => some s
 | _ => Option.none
noncomputable def V.bool? : V -> Option Bool
 | .bool s => some s
 | _ => Option.none
noncomputable def V.bytes? : V -> Option (List Int)
 | .bytes s => some s
 | _ => Option.none
noncomputable def seqK (a b : V) : Option Bool := match a with
 | .none => some true
 | .int i => b.int?.map fun j => i == j
 | .str i => b.str?.map fun j => i == j
 | .bool i => b.bool?.map fun j => i == j
 | .bytes i => b.bytes?.map fun j => i == j
 | _ => Option.none
noncomputable def seq (a b : V) : Option Bool := if kind a = kind b then seqK a b else if kind a <= 2 /\ kind b <= 2 then some false else Option.none
noncomputable def seqAll : List V -> List V -> Option Bool
 | [], bs => if bs.isEmpty then some true else Option.none
 | a :: as, bs => (match bs with
  | [] => Option.none
  | b :: bs => (seq a b).bind fun t => if t then seqAll as bs else some false)
noncomputable def flat (v : V) : Bool := decide (kind v <= 3)
noncomputable def veq (hp : Hp) (a b : V) : Option Bool := match a with
 | .tup as => (match b with
  | .tup bs => if as.length = bs.length /\ as.all flat = true /\ bs.all flat = true then seqAll as bs else Option.none
  | _ => Option.none)
 | .ref i => b.ref?.bind fun j => ((listAt i hp).bind intsOf).bind fun as => ((listAt j hp).bind intsOf).map fun bs => as == bs
 | a => seq a b
noncomputable def cmpInt : CmpOp -> Int -> Int -> Option Bool
 | .Lt, a, b => some (decide (a < b))
 | .LtE, a, b => some (decide (a <= b))
 | .Gt, a, b => some (decide (b < a))
 | .GtE, a, b => some (decide (b <= a))
 | _, _, _ => Option.none
noncomputable def isNone : V -> Bool
 | .none => true
 | _ => false
noncomputable def ordV (op : CmpOp) (a b : V) : P V := fun hp => a.int?.bind fun a => b.int?.bind fun b => (cmpInt op a b).map fun c => .ok (.bool c) hp
noncomputable def V.tup? : V -> Option (List V)
 | .tup vs => some vs
 | _ => Option.none
noncomputable def inV (n : Bool) (a b : V) : P V := fun hp => a.int?.bind fun a => (b.tup?.bind intsOf).map fun l => .ok (.bool (n != l.contains a)) hp
noncomputable def cmpop (op : CmpOp) (a b : V) : P V := fun hp => match op with
 | .Eq => (veq hp a b).map fun c => .ok (.bool c) hp
 | .NotEq => (veq hp a b).map fun c => .ok (.bool !c) hp
 | .Is => if isNone b then some (.ok (.bool (isNone a)) hp) else Option.none
 | .In => inV false a b hp
 | .NotIn => inV true a b hp
 | .Lt => ordV .Lt a b hp
 | .LtE => ordV .LtE a b hp
 | .Gt => ordV .Gt a b hp
 | .GtE => ordV .GtE a b hp
 | .IsNot => Option.none
noncomputable def truth : V -> Option Bool
 | .none => some false
 | .bool b => some b
 | .int i => some (i != 0)
 | _ => Option.none
noncomputable def boolNot (v : V) : P V := P.of ((truth v).map fun b => .bool !b)
inductive It where
 | range (cur : Int) (left : Nat) (step : Int)
 | seq (vs : List V)
 | list (i k : Nat)
noncomputable def itOf (v : V) : P It := fun hp => match v with
 | .range a b c => if (c = 1 \/ c = -1) /\ a.natAbs < 2 ^ 60 /\ b.natAbs < 2 ^ 60 then some (.ok (.range a (Builtin.Range.rangeSize a b c).toNat c) hp) else Option.none
 | .tup vs => some (.ok (.seq vs) hp)
 | .str s => some (.ok (.seq (s.map fun c => .str [c])) hp)
 | .bytes b => some (.ok (.seq (b.map .int)) hp)
 | .ref i => (listAt i hp).map fun _ => .ok (.list i 0) hp
 | _ => Option.none
noncomputable def nextIt (it : It) (hp : Hp) : Option (Option (V × It)) := match it with
 | .range cur n st => (match n with
  | 0 => some Option.none
  | n + 1 => some (some (.int cur, .range (cur + st) n st)))
 | .seq vs => (match vs with
  | [] => some Option.none
  | v :: vs => some (some (v, .seq vs)))
 | .list i k => (listAt i hp).map fun vs => vs[k]?.map fun v => (v, .list i (k + 1))
noncomputable def huge : Nat := 1099511627776
noncomputable def idxOf (i : Int) (n : Nat) : Option Nat := if huge < n then Option.none else if 0 <= i then (if i < n then some i.toNat else Option.none) else if 0 <= i + n then some (i + n).toNat else Option.none
noncomputable def subscr (o i : V) : P V := fun hp => i.int?.bind fun i => match o with
 | .ref a => (listAt a hp).bind fun vs => (idxOf i vs.length).bind fun k => vs[k]?.map fun v => .ok v hp
 | .tup vs => (idxOf i vs.length).bind fun k => vs[k]?.map fun v => .ok v hp
 | .bytes b => if 0 <= i then (idxOf i b.length).bind fun k => b[k]?.map fun v => .ok (.int v) hp else Option.none
 | _ => Option.none
noncomputable def bound (v : Option V) : Option (Option Nat) := match v with
 | Option.none => some Option.none
 | some v => v.int?.bind fun i => if 0 <= i /\ i.natAbs < 2 ^ 60 then some (some i.toNat) else Option.none
noncomputable def cut {α : Type} (l : List α) (lo hi : Option Nat) : List α := (match hi with | some k => l.take k | Option.none => l).drop (lo.getD 0)
noncomputable def slic (o : V) (lo hi : Option V) : P V := fun hp => (bound lo).bind fun lo => (bound hi).bind fun hi => match o with
 | .ref a => (listAt a hp).bind fun vs => if vs.length <= big then alloc (.list (cut vs lo hi)) hp else Option.none
 | .tup vs => if lo.isSome then Option.none else hi.bind fun k => if k < vs.length /\ vs.length <= big then some (.ok (.tup (vs.take k)) hp) else Option.none
 | .bytes b => if b.length <= big then some (.ok (.bytes (cut b lo hi)) hp) else Option.none
 | _ => Option.none
noncomputable def bytesOf' (o : O) : Option (List Int) := match o with
 | .list vs => (intsOf vs).bind fun l => if bytesOk l then some l else Option.none
 | .ba b => some b
 | _ => Option.none
noncomputable def bytesFrom (v : V) (hp : Hp) : Option (List Int) := match v with
 | .bytes b => some b
 | .ref i => hp[i]?.bind bytesOf'
 | _ => Option.none
noncomputable def lenOf' (o : O) : Option Nat := match o with
 | .list vs => some vs.length
 | .ba b => some b.length
 | _ => Option.none
noncomputable def lenOf (v : V) (hp : Hp) : Option Nat := match v with
 | .str s => some s.length
 | .bytes b => some b.length
 | .tup vs => some vs.length
 | .ref i => hp[i]?.bind lenOf'
 | _ => Option.none
noncomputable def rangeB (l : List Int) : Option V := match l with
 | [] => Option.none
 | a :: l => (match l with
  | [] => some (.range 0 a 1)
  | b :: l => (match l with
   | [] => some (.range a b 1)
   | c :: l => if l.isEmpty = true /\ (c = 1 \/ c = -1) then some (.range a b c) else Option.none))
noncomputable def chr? : V -> Option Nat
 | .str s => (match s with
  | [] => Option.none
  | c :: r => if r.isEmpty then some c else Option.none)
 | _ => Option.none
noncomputable def max2 : List Int -> Option Int
 | [] => Option.none
 | a :: l => (match l with
  | [] => Option.none
  | b :: l => if l.isEmpty then some (max a b) else Option.none)
noncomputable def builtin (hm : Bool) (b : BI) (args : List V) : P V := fun hp => match b with
 | .len => (one args).bind fun v => (lenOf v hp).bind fun n => if n <= huge then some (.ok (.int n) hp) else Option.none
 | .range => (intsOf args).bind fun l => (rangeB l).map fun v => .ok v hp
 | .bytes => (one args).bind fun v => (bytesFrom v hp).bind fun l => if l.length <= big then some (.ok (.bytes l) hp) else Option.none
 | .bytearray => if args.isEmpty then alloc (.ba []) hp else Option.none
 | .ord => ((one args).bind chr?).map fun c : Nat => .ok (.int (c : Int)) hp
 | .chr => ((one args).bind V.int?).bind fun i => if 0 <= i /\ i < 1114112 then some (.ok (.str [i.toNat]) hp) else Option.none
 | .sum => if hm then Option.none else ((one args).bind V.ref?).bind fun i => ((listAt i hp).bind intsOf).map fun l => .ok (.int l.sum) hp
 | .max => if hm then Option.none else (intsOf args).bind fun l => (max2 l).map fun v => .ok (.int v) hp
noncomputable def strsOf : List V -> Option (List (List Nat))
 | [] => some []
 | v :: r => (match v with
  | .str s => (strsOf r).map (s :: ·)
  | _ => Option.none)
structure MNames where
 append : Nat
 extend : Nat
 pop : Nat
 join : Nat
 why : Nat
 at_ : Nat
inductive MK where
 | lapp | lext | lpop | bapp | bext | join | fn (f : Nat)
noncomputable def baAt (i : Nat) (hp : Hp) : Option (List Int) := hp[i]?.bind O.ba?
noncomputable def sepOk : V -> Bool
 | .str s => s.isEmpty
 | _ => false
noncomputable def method (hm : Bool) (k : MK) (o : V) (args : List V) : P V := fun hp => match k with
 | .join => if sepOk o then ((one args).bind V.ref?).bind fun j => ((listAt j hp).bind strsOf).bind fun ss => if ss.flatten.length <= big /\ ss.length <= big then some (.ok (.str ss.flatten) hp) else Option.none else Option.none
 | .lapp => o.ref?.bind fun i => (listAt i hp).bind fun vs => (one args).bind fun v => if vs.length <= big /\ i ≠ 0 then some (.ok .none (hp.set i (.list (vs ++ [v])))) else Option.none
 | .lext => o.ref?.bind fun i => (listAt i hp).bind fun vs => ((one args).bind V.ref?).bind fun j => (listAt j hp).bind fun ws => if vs.length <= big /\ ws.length <= big /\ i ≠ 0 then some (.ok .none (hp.set i (.list (vs ++ ws)))) else Option.none
 | .lpop => o.ref?.bind fun i => (listAt i hp).bind fun vs => if args.isEmpty = true /\ vs.length <= big /\ i ≠ 0 then (vs.getLast?.map fun v => .ok v (hp.set i (.list vs.dropLast))) else Option.none
 | .bapp => o.ref?.bind fun i => (baAt i hp).bind fun b => ((one args).bind V.int?).bind fun x => if b.length <= big /\ 0 <= x /\ x < 256 then some (.ok .none (hp.set i (.ba (b ++ [x])))) else Option.none
 | .bext => o.ref?.bind fun i => (baAt i hp).bind fun b => (one args).bind fun v => if b.length <= big /\ hm = false then (bytesFrom v hp).bind fun l => if l.length <= big then some (.ok .none (hp.set i (.ba (b ++ l)))) else Option.none else Option.none
 | .fn _ => Option.none
structure Fn where
 ps : List Nat
 body : Ss
structure Tab where
 fn : Nat -> Option Fn
 init : Nat -> Option Nat
 meth : Nat -> Nat -> Option Nat
 N : MNames
structure X where
 hm : Bool
 call : Bool -> Nat -> List V -> P V
noncomputable def okOf {α : Type} (r : Option (Out α)) : Option (α × Hp) := r.bind fun o => match o with
 | .ok a hp => some (a, hp)
 | .raise _ _ => Option.none
noncomputable def exF (N : MNames) (c : Nat) (args : List V) : Option (List (Nat × V)) := match args with
 | [] => Option.none
 | w :: r => w.str?.bind fun s => match c with
  | 0 => ((one r).bind V.int?).map fun a => [(N.why, .str s), (N.at_, .int a)]
  | c + 1 => if c = 0 /\ r.isEmpty = true then some [(N.why, .str s)] else Option.none
noncomputable def callG (T : Tab) (x : X) (g : G) (args : List V) : P V := fun hp => match g with
 | .fn f => x.call x.hm f args hp
 | .bi b => builtin x.hm b args hp
 | .cls c => if x.hm then Option.none else (T.init c).bind fun f => (okOf (x.call x.hm f (.ref hp.length :: args) (hp ++ [.inst c []]))).bind fun r => if isNone r.1 then some (.ok (.ref hp.length) r.2) else Option.none
 | .exc c => if x.hm then Option.none else (exF T.N c args).bind fun fs => alloc (.exc c fs) hp
noncomputable def findL (N : MNames) (m : Nat) : Option MK := if m = N.append then some .lapp else if m = N.extend then some .lext else if m = N.pop then some .lpop else Option.none
noncomputable def findB (N : MNames) (m : Nat) : Option MK := if m = N.append then some .bapp else if m = N.extend then some .bext else Option.none
noncomputable def findO (T : Tab) (m : Nat) (o : O) : Option MK := match o with
 | .inst c fs => (T.meth c m).bind fun f => if (getF fs m).isNone then some (.fn f) else Option.none
 | .list _ => findL T.N m
 | .ba _ => findB T.N m
 | .exc _ _ => Option.none
noncomputable def findK (T : Tab) (o : V) (m : Nat) (hp : Hp) : Option MK := match o with
 | .str _ => if m = T.N.join then some .join else Option.none
 | .ref i => hp[i]?.bind (findO T m)
 | _ => Option.none
noncomputable def findM (T : Tab) (o : V) (m : Nat) : P MK := fun hp => (findK T o m hp).map fun k => .ok k hp
noncomputable def callM (x : X) (k : MK) (o : V) (args : List V) : P V := match k with
 | .fn f => x.call x.hm f (o :: args)
 | k => method x.hm k o args
noncomputable def O.flds : O -> Option (List (Nat × V))
 | .inst _ fs => some fs
 | .exc _ fs => some fs
 | _ => Option.none
noncomputable def getA (o : V) (a : Nat) : P V := fun hp => o.ref?.bind fun i => hp[i]?.bind fun o => o.flds.bind fun fs => (getF fs a).map fun v => .ok v hp
noncomputable def turns : Nat := 1000
noncomputable def loopC (hm : Bool) (c : Loc -> P Bool) (e : Loc -> P V) (x : Nat) (lv : Loc) (j : Nat) : Nat -> It -> Hp -> Option Hp
 | 0, _, _ => Option.none
 | n + 1, it, hp => (nextIt it hp).bind fun r => match r with
  | Option.none => some hp
  | some r => (okOf (c ((x, r.1) :: lv) hp)).bind fun t => if t.1 then (okOf (e ((x, r.1) :: lv) t.2)).bind fun w => (listAt j w.2).bind fun vs => if vs.length <= big /\ j ≠ 0 then loopC hm c e x lv j n r.2 (w.2.set j (.list (vs ++ [w.1]))) else Option.none
    else loopC hm c e x lv j n r.2 t.2
noncomputable def isRange : It -> Bool
 | .range .. => true
 | _ => false
noncomputable def isAbs : E -> Bool
 | .abs => true
 | _ => false
noncomputable def optE (b : Bool) (m : P V) : P (Option V) := if b then P.ret Option.none else P.bind m fun v => P.ret (some v)
noncomputable def negV (v : V) : P V := P.of (v.int?.map fun i => .int (-i))
noncomputable def stops : BoolOp -> Bool -> Bool
 | .And, t => !t
 | .Or, t => t
noncomputable def tr (m : P V) : P Bool := P.bind m fun v => P.of (truth v)
noncomputable def mkList (vs : List V) : P V := if vs.length <= big then alloc (.list vs) else P.fail
noncomputable def mkTup (vs : List V) : P V := if vs.length <= big then P.ret (.tup vs) else P.fail
section
variable (T : Tab) (x : X)
mutual
noncomputable def ev : E -> Loc -> P V
 | .abs, _ => P.fail
 | .loc y, lv => P.of (lv.lookup y)
 | .int i, _ => P.ret (.int i)
 | .str s, _ => P.ret (.str s)
 | .bool b, _ => P.ret (.bool b)
 | .none, _ => P.ret .none
 | .bin op l r, lv => P.bind (ev l lv) fun a => P.bind (ev r lv) fun b => binop op a b
 | .not e, lv => P.bind (ev e lv) boolNot
 | .neg e, lv => P.bind (ev e lv) negV
 | .cmp op l r, lv => P.bind (ev l lv) fun a => P.bind (ev r lv) fun b => cmpop op a b
 | .cmp2 op op' l m r, lv => P.bind (ev l lv) fun a => P.bind (ev m lv) fun b => P.bind (cmpop op a b) fun c => P.bind (P.of (truth c)) fun t => if t then P.bind (ev r lv) fun d => cmpop op' b d else P.ret c
 | .bop op es, lv => evB op es lv
 | .ite t b o, lv => P.bind (tr (ev t lv)) fun t => if t then ev b lv else ev o lv
 | .callg _ g as, lv => P.bind (evs as lv) fun vs => callG T x g vs
 | .mcall o m as, lv => P.bind (ev o lv) fun v => P.bind (findM T v m) fun k => P.bind (evs as lv) fun vs => callM x k v vs
 | .attr o a, lv => P.bind (ev o lv) fun v => getA v a
 | .sub o i, lv => P.bind (ev o lv) fun a => P.bind (ev i lv) fun b => subscr a b
 | .slice o lo hi, lv => P.bind (ev o lv) fun a => P.bind (optE (isAbs lo) (ev lo lv)) fun l => P.bind (optE (isAbs hi) (ev hi lv)) fun h => slic a l h
 | .list es, lv => P.bind (evs es lv) mkList
 | .tup es, lv => P.bind (evs es lv) mkTup
 | .comp elt y iter conds, lv => P.bind (P.bind (ev iter lv) itOf) fun it => fun hp =>
   if x.hm && !isRange it then Option.none else
   (loopC x.hm (fun lv => evT conds lv) (fun lv => ev elt lv) y lv hp.length turns it (hp ++ [.list []])).map fun hp' => .ok (.ref hp.length) hp'
noncomputable def evs : Es -> Loc -> P (List V)
 | .nil, _ => P.ret []
 | .cons e es, lv => P.bind (ev e lv) fun v => P.bind (evs es lv) fun vs => P.ret (v :: vs)
noncomputable def evB (op : BoolOp) : Es -> Loc -> P V
 | .nil, _ => P.fail
 | .cons e es, lv => P.bind (ev e lv) fun v => match es with
  | .nil => P.ret v
  | .cons _ _ => P.bind (P.of (truth v)) fun t => if stops op t then P.ret v else evB op es lv
noncomputable def evT : Es -> Loc -> P Bool
 | .nil, _ => P.ret true
 | .cons e es, lv => P.bind (tr (ev e lv)) fun t => if t then evT es lv else P.ret false
end
end
noncomputable def assignT (t : Tg) (v : V) (lv : Loc) : Option Loc := match t with
 | .one y => some (setL y v lv)
 | .many xs => v.tup?.bind fun vs => if vs.length = xs.length then some ((xs.zip vs).foldl (fun lv q => setL q.1 q.2 lv) lv) else Option.none
noncomputable def loopW (c : Loc -> P Bool) (b : Loc -> Hp -> Option OutS) : Nat -> Loc -> Hp -> Option OutS
 | 0, _, _ => Option.none
 | n + 1, lv, hp => onV (c lv hp) lv fun t hp => if t then seqS (b lv hp) (loopW c b n) else some (.next lv hp)
noncomputable def loopF (b : V -> Loc -> Hp -> Option OutS) : Nat -> It -> Loc -> Hp -> Option OutS
 | 0, _, _, _ => Option.none
 | n + 1, it, lv, hp => (nextIt it hp).bind fun r => match r with
  | Option.none => some (.next lv hp)
  | some r => seqS (b r.1 lv hp) (loopF b n r.2)
noncomputable def O.exc? : O -> Option Nat
 | .exc c _ => some c
 | _ => Option.none
noncomputable def excAt (i : Nat) (hp : Hp) : Option Nat := hp[i]?.bind O.exc?
noncomputable def O.inst? : O -> Option (Nat × List (Nat × V))
 | .inst c fs => some (c, fs)
 | _ => Option.none
noncomputable def dropL (y : Nat) (lv : Loc) : Loc := lv.filter fun q => q.1 != y
noncomputable def caught (c : Nat) (k : Nat -> Loc -> Hp -> Option OutS) (o : OutS) : Option OutS := match o with
 | .raise i lv hp => (excAt i hp).bind fun c' => if c = c' then k i lv hp else Option.none
 | .next lv hp => some (.next lv hp)
 | .ret v lv hp => some (.ret v lv hp)
noncomputable def handled (y : Nat) (o : OutS) : Option OutS := match o with
 | .raise _ _ _ => Option.none
 | .next lv hp => some (.next (dropL y lv) hp)
 | .ret v lv hp => some (.ret v (dropL y lv) hp)
noncomputable def outS : OutS -> Out V
 | .next _ hp => .ok .none hp
 | .ret v _ hp => .ok v hp
 | .raise i _ hp => .raise i hp
noncomputable def kAssign (t : Tg) (lv : Loc) : V -> Hp -> Option OutS := fun v hp => (assignT t v lv).map fun lv => .next lv hp
noncomputable def kRet (lv : Loc) : V -> Hp -> Option OutS := fun v hp => some (.ret v lv hp)
noncomputable def kExpr (lv : Loc) : V -> Hp -> Option OutS := fun v hp => if isNone v then some (.next lv hp) else Option.none
noncomputable def kAttr (a : Nat) (v : V) (lv : Loc) : V -> Hp -> Option OutS := fun w hp => w.ref?.bind fun i => (hp[i]?.bind O.inst?).bind fun o => if o.2.length <= big then some (.next lv (hp.set i (.inst o.1 (setF o.2 a v)))) else Option.none
noncomputable def kAug (y : Nat) (op : Operator) (a : V) (lv : Loc) : V -> Hp -> Option OutS := fun b hp => a.int?.bind fun a => b.int?.bind fun b => (binInt op a b).map fun c => .next (setL y (.int c) lv) hp
noncomputable def kAugSub (op : Operator) (a k : V) (lv : Loc) (old : V) : V -> Hp -> Option OutS := fun b hp => old.int?.bind fun o => b.int?.bind fun b => (binInt op o b).bind fun c => a.ref?.bind fun j => k.int?.bind fun k => if j = 0 then Option.none else (listAt j hp).bind fun vs => (idxOf k vs.length).map fun k => .next lv (hp.set j (.list (vs.set k (.int c))))
noncomputable def kRaise (lv : Loc) : V -> Hp -> Option OutS := fun v hp => v.ref?.bind fun i => (excAt i hp).map fun _ => .raise i lv hp
section
variable (T : Tab)
mutual
noncomputable def exec : S -> X -> Loc -> Hp -> Option OutS
 | .expr e, x, lv, hp => onV (ev T x e lv hp) lv (kExpr lv)
 | .assign t e, x, lv, hp => onV (ev T x e lv hp) lv (kAssign t lv)
 | .assignA o a e, x, lv, hp => onV (ev T x e lv hp) lv fun v hp => onV (ev T x o lv hp) lv (kAttr a v lv)
 | .aug y op e, x, lv, hp => (lv.lookup y).bind fun a => onV (ev T x e lv hp) lv (kAug y op a lv)
 | .augsub o i op e, x, lv, hp => onV (ev T x o lv hp) lv fun a hp => onV (ev T x i lv hp) lv fun k hp => onV (subscr a k hp) lv fun old hp => onV (ev T x e lv hp) lv (kAugSub op a k lv old)
 | .ite t b o, x, lv, hp => onV (tr (ev T x t lv) hp) lv fun t hp => if t then execs b x lv hp else execs o x lv hp
 | .whil t b, x, lv, hp => loopW (fun lv => tr (ev T x t lv)) (fun lv hp => execs b x lv hp) turns lv hp
 | .fori t it b, x, lv, hp => if x.hm then Option.none else onV (P.bind (ev T x it lv) itOf hp) lv fun it hp => loopF (fun v lv hp => (assignT t v lv).bind fun lv => execs b x lv hp) turns it lv hp
 | .ret e, x, lv, hp => onV (ev T x e lv hp) lv (kRet lv)
 | .raise e, x, lv, hp => if x.hm then Option.none else onV (ev T x e lv hp) lv (kRaise lv)
 | .tryx b _ c y h, x, lv, hp => if x.hm then Option.none else (execs b x lv hp).bind (caught c fun i lv hp => (execs h { x with hm := true } (setL y (.ref i) lv) hp).bind (handled y))
noncomputable def execs : Ss -> X -> Loc -> Hp -> Option OutS
 | .nil, _, lv, hp => some (.next lv hp)
 | .cons s ss, x, lv, hp => seqS (exec s x lv hp) (execs ss x)
end
noncomputable def callF : Nat -> Bool -> Nat -> List V -> P V
 | 0, _, _, _ => P.fail
 | d + 1, hm, f, args => fun hp => (T.fn f).bind fun r => if r.ps.length = args.length then (execs T r.body ⟨hm, callF d⟩ (r.ps.zip args) hp).map outS else Option.none
end
theorem cps {P : Prop} (key : ∀ G : Prop, (P -> G) -> G) : P := key P id
end Mine
namespace Mine
open PySem PySem.W PyProof.Rows
noncomputable def biV : BI -> Value
 | .len => .builtin "len"
 | .range => .type "range"
 | .bytes => .type "bytes"
 | .bytearray => .type "bytearray"
 | .ord => .builtin "ord"
 | .chr => .builtin "chr"
 | .sum => .builtin "sum"
 | .max => .builtin "max"
noncomputable def G.code : G -> Nat × Nat
 | .fn f => (0, f)
 | .cls c => (1, c)
 | .exc c => (2, c)
 | .bi b => (3, b.ctorIdx)
noncomputable def biOf (n : Nat) : BI := match n with
 | 0 => .len
 | 1 => .range
 | 2 => .bytes
 | 3 => .bytearray
 | 4 => .ord
 | 5 => .chr
 | 6 => .sum
 | _ => .max
noncomputable def G.of (p : Nat × Nat) : G := match p.1 with
 | 0 => .fn p.2
 | 1 => .cls p.2
 | 2 => .exc p.2
 | _ => .bi (biOf p.2)
theorem G.of_code (g : G) : G.of g.code = g := by
 cases g with
 | bi b => cases b <;> rfl
 | _ => rfl
structure Dt where
 nm : Nat -> Str
 T : Tab
 gl : Nat -> Option G
 fa : Nat -> Addr
 ca : Nat -> Addr
 ea : Nat -> Addr
 at_ : Nat -> Bool
structure Cx extends Dt where
 prog : Program
 w : World
 H0 : Heap
 os : OsState
 arg : Obj
 K : Frag
abbrev Cx.M (C : Cx) : Model := model C.prog C.w
noncomputable def Dt.gv (C : Dt) : G -> Value
 | .fn f => .ref (C.fa f)
 | .cls c => .ref (C.ca c)
 | .exc c => .ref (C.ea c)
 | .bi b => biV b
noncomputable def Dt.isGl (C : Dt) (n : Nat) (g : G) : Bool := (C.gl n).any fun g' => g'.code == g.code
theorem Dt.isGl_eq {C : Dt} {n : Nat} {g : G} (h : C.isGl n g = true) : C.gl n = some g := by
 obtain ⟨g', h1, h2⟩ := Option.any_eq_true _ _ |>.mp h
 rw [h1, <- G.of_code g', eq_of_beq h2, G.of_code]
noncomputable def isLocal : NameKind -> Bool
 | .local => true
 | .cell => true
 | _ => false
noncomputable def locOk (sc : Scope) (n : Str) : Bool := n != "__debug__" && (sc.names.lookup n).any isLocal
noncomputable def gloOk (sc : Scope) (n : Str) : Bool := n != "__debug__" && sc.names.lookup n == some .globalImplicit
noncomputable def compScope (sc sc' : Scope) : Scope := { sc' with names := sc'.names.map fun (n, k) => if k == .free && sc.names.lookup n == some .cell then (n, .cell) else (n, k) }
noncomputable def compOk (sc sc' : Scope) (y : Str) : Bool := sc'.kind == .function && !sc'.isGenerator && !sc'.isCoroutine &&
 sc'.names.all (fun x => (x.2 == .local) || (x.2 == .globalImplicit) || (x.2 == .free && sc.names.lookup x.1 == some .cell)) &&
 sc'.names.lookup y == some .local && sc'.names.all (fun x => x.2 != .local || sc'.names.lookup x.1 == some .local) && (sc'.names.filter fun x => (x.2 == .local || x.2 == .cell) && x.1 != (".0" : Str)) == [(y, .local)]
inductive IT where
 | mk (pos : Pos) (k : Nat) (sc : Scope) (kids : List IT)
noncomputable def IT.pos : IT -> Pos
 | .mk p _ _ _ => p
noncomputable def IT.k : IT -> Nat
 | .mk _ k _ _ => k
noncomputable def IT.sc : IT -> Scope
 | .mk _ _ s _ => s
noncomputable def IT.kids : IT -> List IT
 | .mk _ _ _ l => l
noncomputable def IT.nil : IT := .mk default 0 default []
noncomputable def IT.kid (i : IT) (n : Nat) : IT := i.kids.getD n .nil
noncomputable def plainB : E -> Bool
 | .callg _ _ as => (match as with | .nil => false | .cons _ _ => true)
 | _ => true
noncomputable def isCompE : E -> Bool
 | .comp _ _ _ _ => true
 | _ => false
noncomputable def strOf (s : List Nat) : Str := ⟨s.toArray⟩
section
variable (C : Dt)
mutual
noncomputable def toX : E -> IT -> Expr
 | .abs, i => .Name default i.pos
 | .loc x, i => .Name (C.nm x) i.pos
 | .int n, i => .Constant (.int n) i.k i.pos
 | .str s, i => .Constant (.str (strOf s)) i.k i.pos
 | .bool b, i => .Constant (.bool b) i.k i.pos
 | .none, i => .Constant .none i.k i.pos
 | .bin op l r, i => .BinOp (toX l (i.kid 0)) op (toX r (i.kid 1)) i.pos
 | .not e, i => .UnaryOp .Not (toX e (i.kid 0)) i.pos
 | .neg e, i => .UnaryOp .USub (toX e (i.kid 0)) i.pos
 | .cmp op l r, i => .Compare (toX l (i.kid 0)) [op] [toX r (i.kid 1)] i.pos
 | .cmp2 op op' l m r, i => .Compare (toX l (i.kid 0)) [op, op'] [toX m (i.kid 1), toX r (i.kid 2)] i.pos
 | .bop op es, i => .BoolOp op (toXs es i.kids) i.pos
 | .ite t b o, i => .IfExp (toX t (i.kid 0)) (toX b (i.kid 1)) (toX o (i.kid 2)) i.pos
 | .callg n _ as, i => .Call (.Name (C.nm n) (i.kid 0).pos) (toXs as i.kids.tail) [] i.pos
 | .mcall o m as, i => .Call (.Attribute (toX o ((i.kid 0).kid 0)) (C.nm m) (i.kid 0).pos) (toXs as i.kids.tail) [] i.pos
 | .attr o a, i => .Attribute (toX o (i.kid 0)) (C.nm a) i.pos
 | .sub o j, i => .Subscript (toX o (i.kid 0)) (toX j (i.kid 1)) i.pos
 | .slice o lo hi, i => .Subscript (toX o (i.kid 0)) (.Slice (if isAbs lo then none else some (toX lo ((i.kid 1).kid 0))) (if isAbs hi then none else some (toX hi ((i.kid 1).kid 1))) none (i.kid 1).pos) i.pos
 | .list es, i => .List (toXs es i.kids) i.pos
 | .tup es, i => .Tuple (toXs es i.kids) i.k i.pos
 | .comp elt y it cs, i => .ListComp (toX elt (i.kid 0)) [⟨.Name (C.nm y) (i.kid 1).pos, toX it (i.kid 2), toXs cs i.kids.tail.tail.tail, 0⟩] i.sc i.pos
noncomputable def toXs : Es -> List IT -> List Expr
 | .nil, _ => []
 | .cons e es, is => toX e (is.headD .nil) :: toXs es is.tail
end
noncomputable def len : Es -> Nat
 | .nil => 0
 | .cons _ es => len es + 1
mutual
noncomputable def okE (sc : Scope) : E -> IT -> Bool
 | .abs, _ => false
 | .loc x, _ => locOk sc (C.nm x)
 | .int _, _ => true
 | .str s, _ => s.all fun c => decide (c < 1114112)
 | .bool _, _ => true
 | .none, _ => true
 | .bin _ l r, i => okE sc l (i.kid 0) && okE sc r (i.kid 1)
 | .not e, i => okE sc e (i.kid 0)
 | .neg e, i => okE sc e (i.kid 0)
 | .cmp _ l r, i => okE sc l (i.kid 0) && okE sc r (i.kid 1)
 | .cmp2 _ _ l m r, i => okE sc l (i.kid 0) && (okE sc m (i.kid 1) && okE sc r (i.kid 2))
 | .bop _ es, i => okEs sc es i.kids
 | .ite t b o, i => okE sc t (i.kid 0) && (okE sc b (i.kid 1) && okE sc o (i.kid 2))
 | .callg n g as, i => gloOk sc (C.nm n) && (C.isGl n g && (decide (len as < 20) && okEs sc as i.kids.tail))
 | .mcall o _ as, i => plainB o && ((i.kid 0).pos.endLine == i.pos.line && (decide (len as < 20) && (okE sc o ((i.kid 0).kid 0) && okEs sc as i.kids.tail)))
 | .attr o a, i => C.at_ a && (plainB o && okE sc o (i.kid 0))
 | .sub o j, i => okE sc o (i.kid 0) && okE sc j (i.kid 1)
 | .slice o lo hi, i => okE sc o (i.kid 0) && ((isAbs lo || okE sc lo ((i.kid 1).kid 0)) && (isAbs hi || okE sc hi ((i.kid 1).kid 1)))
 | .list es, i => okEs sc es i.kids
 | .tup es, i => okEs sc es i.kids
 | .comp elt y it cs, i => compOk sc i.sc (C.nm y) && (okE sc it (i.kid 2) && (okE (compScope sc i.sc) elt (i.kid 0) && okEs (compScope sc i.sc) cs i.kids.tail.tail.tail))
noncomputable def okEs (sc : Scope) : Es -> List IT -> Bool
 | .nil, _ => true
 | .cons e es, is => okE sc e (is.headD .nil) && okEs sc es is.tail
end
end
noncomputable def nameIn (kindOf : Str -> Option NameKind) (line : Nat) : Expr -> Option Str
 | .Name id pos => if kindOf id == some .local && pos.line == line then some id else none
 | _ => none
noncomputable def isStar : Expr -> Bool
 | .Starred _ _ => true
 | _ => false
noncomputable def swapR (kindOf : Str -> Option NameKind) (ts vs : List Expr) : Option (Option (List Str)) :=
 if !(ts.length == 2 || ts.length == 3) || vs.length != ts.length then some none else
 if vs.any isStar then some none else
 let names := ts.filterMap (nameIn kindOf ((ts.head?.map (·.pos.line)).getD 0))
 if names.length != ts.length || names.eraseDups.length != names.length then some none else
 if vs.all (foldedForSure 8) then some none else
 if vs.all (constantsAlone 8) then none else some (some names)
noncomputable def swOk (names : List Str) : Option (Option (List Str)) -> Bool
 | some none => true
 | some (some l) => l == names
 | none => false
noncomputable def swapE (C : Dt) (kindOf : Str -> Option NameKind) (ts : List Expr) (e : E) (i : IT) : Option (Option (List Str)) := match e with
 | .tup es => swapR kindOf ts (toXs C es i.kids)
 | _ => some none
section
variable (C : Dt)
noncomputable def toNs : List Nat -> List IT -> List Expr
 | [], _ => []
 | x :: xs, is => .Name (C.nm x) (is.headD .nil).pos :: toNs xs is.tail
noncomputable def toTg (t : Tg) (i : IT) : Expr := match t with
 | .one x => .Name (C.nm x) i.pos
 | .many xs => .Tuple (toNs C xs i.kids) i.k i.pos
noncomputable def okTg (sc : Scope) : Tg -> Bool
 | .one x => locOk sc (C.nm x)
 | .many xs => decide xs.Nodup && xs.all fun x => locOk sc (C.nm x)
noncomputable def okSw (sc : Scope) (t : Tg) (i : IT) (e : E) (j : IT) : Bool := match t with
 | .one _ => true
 | .many xs => !isCompE e && swOk (xs.map C.nm) (swapE C (fun n => sc.names.lookup n) (toNs C xs i.kids) e j)
noncomputable def isExcCall : E -> Bool
 | .callg _ g _ => (match g with | .exc _ => true | _ => false)
 | _ => false
noncomputable def addSub : Operator -> Bool
 | .Add => true
 | .Sub => true
 | _ => false
mutual
noncomputable def toS : S -> IT -> Stmt
 | .expr e, i => .Expr (toX C e (i.kid 0)) i.pos
 | .assign t e, i => .Assign [toTg C t (i.kid 0)] (toX C e (i.kid 1)) i.pos
 | .assignA o a e, i => .Assign [.Attribute (toX C o ((i.kid 0).kid 0)) (C.nm a) (i.kid 0).pos] (toX C e (i.kid 1)) i.pos
 | .aug x op e, i => .AugAssign (.Name (C.nm x) (i.kid 0).pos) op (toX C e (i.kid 1)) i.pos
 | .augsub o j op e, i => .AugAssign (.Subscript (toX C o ((i.kid 0).kid 0)) (toX C j ((i.kid 0).kid 1)) (i.kid 0).pos) op (toX C e (i.kid 1)) i.pos
 | .ite t b o, i => .If (toX C t (i.kid 0)) (toSs b (i.kid 1).kids) (toSs o (i.kid 2).kids) i.pos
 | .whil t b, i => .While (toX C t (i.kid 0)) (toSs b (i.kid 1).kids) [] i.pos
 | .fori t it b, i => .For (toTg C t (i.kid 0)) (toX C it (i.kid 1)) (toSs b (i.kid 2).kids) [] i.pos
 | .ret e, i => .Return (some (toX C e (i.kid 0))) i.pos
 | .raise e, i => .Raise (some (toX C e (i.kid 0))) none i.pos
 | .tryx b cn _ y h, i => .Try (toSs b (i.kid 0).kids) [.ExceptHandler (some (.Name (C.nm cn) ((i.kid 1).kid 0).pos)) (some (C.nm y)) (toSs h ((i.kid 1).kid 1).kids) (i.kid 1).pos] [] [] i.pos
noncomputable def toSs : Ss -> List IT -> List Stmt
 | .nil, _ => []
 | .cons s ss, is => toS s (is.headD .nil) :: toSs ss is.tail
end
mutual
noncomputable def okS (sc : Scope) : S -> IT -> Bool
 | .expr e, i => !isCompE e && okE C sc e (i.kid 0)
 | .assign t e, i => okTg C sc t && (okSw C sc t (i.kid 0) e (i.kid 1) && okE C sc e (i.kid 1))
 | .assignA o a e, i => C.at_ a && (okE C sc o ((i.kid 0).kid 0) && okE C sc e (i.kid 1))
 | .aug x op e, i => locOk sc (C.nm x) && (addSub op && okE C sc e (i.kid 1))
 | .augsub o j op e, i => addSub op && (okE C sc o ((i.kid 0).kid 0) && (okE C sc j ((i.kid 0).kid 1) && okE C sc e (i.kid 1)))
 | .ite t b o, i => okE C sc t (i.kid 0) && (okSs sc b (i.kid 1).kids && okSs sc o (i.kid 2).kids)
 | .whil t b, i => okE C sc t (i.kid 0) && okSs sc b (i.kid 1).kids
 | .fori t it b, i => okTg C sc t && (okE C sc it (i.kid 1) && okSs sc b (i.kid 2).kids)
 | .ret e, i => okE C sc e (i.kid 0)
 | .raise e, i => isExcCall e && okE C sc e (i.kid 0)
 | .tryx b cn c y h, i => gloOk sc (C.nm cn) && (C.isGl cn (.exc c) && (sc.names.lookup (C.nm y) == some .local && (okSs sc b (i.kid 0).kids && okSs sc h ((i.kid 1).kid 1).kids)))
noncomputable def okSs (sc : Scope) : Ss -> List IT -> Bool
 | .nil, _ => true
 | .cons s ss, is => okS sc s (is.headD .nil) && okSs sc ss is.tail
end
end
noncomputable def u8s (b : List Int) : Array UInt8 := (b.map fun i => UInt8.ofNat i.toNat).toArray
def InS (s : List Nat) : Prop := ∀ c ∈ s, c < 1114112
def InB (b : List Int) : Prop := ∀ x ∈ b, 0 <= x /\ x < 256
noncomputable def imm (o : Obj) : Bool := match o.data with
 | .seq .. => o.cls == .type "tuple"
 | .fields _ => o.cls == .type "range"
 | _ => false
noncomputable def excLike (o : Obj) : Bool := match o.data with
 | .fields vs => (match o.cls with | .ref _ => vs[2]? == some Value.none | _ => false)
 | _ => false
structure Stable (h h' : Heap) : Prop where
 im : ∀ a o, h.get? a = some o -> imm o = true -> h'.get? a = some o
 ex : ∀ a o, h.get? a = some o -> excLike o = true -> ∃ o', h'.get? a = some o' /\ excLike o' = true
theorem Stable.refl (h : Heap) : Stable h h := ⟨fun _ _ e _ => e, fun _ o e i => ⟨o, e, i⟩⟩
theorem Stable.trans {h₁ h₂ h₃ : Heap} (x : Stable h₁ h₂) (y : Stable h₂ h₃) : Stable h₁ h₃ :=
 ⟨fun a o e i => y.im a o (x.im a o e i) i, fun a o e i => (x.ex a o e i).elim fun o' z => y.ex a o' z.1 z.2⟩
abbrev Env2 := List (Addr × Addr)
abbrev Base := Addr -> Option Obj
mutual
def VRel (ρ : Env2) (h : Heap) : V -> Value -> Prop
 | .none, w => w = .none
 | .bool b, w => w = .bool b
 | .int i, w => ∃ t, w = .int i t
 | .str s, w => InS s /\ ∃ t, w = .str (strOf s) t
 | .bytes b, w => InB b /\ ∃ t, w = .bytes (u8s b) t
 | .tup vs, w => ∃ a ws, w = .ref a /\ IsTup h a ws.toArray /\ VRels ρ h vs ws
 | .range a b c, w => ∃ r t u v, w = .ref r /\ IsRange h r a b c t u v
 | .ref i, w => ∃ x dx, w = .ref x /\ ρ[i]? = some (x, dx)
def VRels (ρ : Env2) (h : Heap) : List V -> List Value -> Prop
 | [], ws => ws = []
 | v :: vs, ws => ∃ w r, ws = w :: r /\ VRel ρ h v w /\ VRels ρ h vs r
end
theorem nn {α : Type} {p : Prop} {a : α} (h : none = some a) : p := nomatch h
theorem no {α : Type} {p : Prop} {x : Option α} {a : α} (h : x = none) (h' : x = some a) : p := nn (h.symm.trans h')
theorem bno {p : Prop} {b : Bool} (h : b = false) (h' : b = true) : p := Bool.noConfusion (h.symm.trans h')
theorem getElem?_pre {α : Type} {l l' : List α} (p : l <+: l') {i : Nat} {x : α} (e : l[i]? = some x) : l'[i]? = some x := by
 obtain ⟨r, rfl⟩ := p
 rw [List.getElem?_append_left]
 ·exact e
 ·exact (List.getElem?_eq_some_iff.mp e).1
mutual
theorem VRel.mono {ρ ρ' : Env2} {h h' : Heap} (p : ρ <+: ρ') (k : Stable h h') : ∀ {v : V} {w : Value}, VRel ρ h v w -> VRel ρ' h' v w
 | .none, _, x => x
 | .bool _, _, x => x
 | .int _, _, x => x
 | .str _, _, x => x
 | .bytes _, _, x => x
 | .tup vs, _, x => x.elim fun a y => y.elim fun ws z => ⟨a, ws, z.1, z.2.1.elim fun o e => ⟨o, k.im a o e.1 (e.2.2.elim fun n d => by rw [imm, d, e.2.1]; rfl), e.2⟩, VRels.mono p k z.2.2⟩
 | .range .., _, x => x.elim fun r y => y.elim fun t y => y.elim fun u y => y.elim fun v y => ⟨r, t, u, v, y.1, k.im r _ y.2 rfl⟩
 | .ref _, _, x => x.elim fun a y => y.elim fun d y => ⟨a, d, y.1, getElem?_pre p y.2⟩
theorem VRels.mono {ρ ρ' : Env2} {h h' : Heap} (p : ρ <+: ρ') (k : Stable h h') : ∀ {v : List V} {w : List Value}, VRels ρ h v w -> VRels ρ' h' v w
 | [], _, x => x
 | _ :: _, _, x => x.elim fun w y => y.elim fun r z => ⟨w, r, z.1, VRel.mono p k z.2.1, VRels.mono p k z.2.2⟩
end
section
variable {ρ : Env2} {h : Heap} {v v' v'' : V} {w : Value} {vs vs' : List V} {ws ws' : List Value}
theorem VRels.cons (x : VRel ρ h v w) (y : VRels ρ h vs ws) : VRels ρ h (v :: vs) (w :: ws) := ⟨w, ws, rfl, x, y⟩
theorem VRels.nil : VRels ρ h [] [] := rfl
theorem VRels.append : ∀ {vs ws}, VRels ρ h vs ws -> VRels ρ h vs' ws' -> VRels ρ h (vs ++ vs') (ws ++ ws')
 | [], _, x, y => by rw [show _ = [] from x]; exact y
 | _ :: _, _, x, y => by
  obtain ⟨w, r, rfl, x, z⟩ := x
  exact .cons x (VRels.append z y)
theorem VRels.length : ∀ {vs ws}, VRels ρ h vs ws -> ws.length = vs.length
 | [], _, x => by rw [show _ = [] from x]; rfl
 | _ :: _, _, x => by
  obtain ⟨w, r, rfl, _, z⟩ := x
  rw [List.length_cons, List.length_cons, VRels.length z]
theorem VRels.get : ∀ {i : Nat} {vs ws}, VRels ρ h vs ws -> vs[i]? = some v -> ∃ w, ws[i]? = some w /\ VRel ρ h v w
 | _, [], _, _, e => nomatch e
 | 0, _ :: _, _, x, e => by
  obtain ⟨w, r, rfl, x, z⟩ := x
  cases e; exact ⟨w, rfl, x⟩
 | i + 1, _ :: _, _, x, e => by
  obtain ⟨w, r, rfl, x, z⟩ := x
  rw [List.getElem?_cons_succ] at e ⊢
  exact VRels.get z e
theorem VRels.take : ∀ (k : Nat) {vs ws}, VRels ρ h vs ws -> VRels ρ h (vs.take k) (ws.take k)
 | 0, _, _, _ => rfl
 | _ + 1, [], _, x => by rw [show _ = [] from x]; rfl
 | k + 1, _ :: _, _, x => by
  obtain ⟨w, r, rfl, x, z⟩ := x
  exact .cons x (VRels.take k z)
theorem VRels.drop : ∀ (k : Nat) {vs ws}, VRels ρ h vs ws -> VRels ρ h (vs.drop k) (ws.drop k)
 | 0, _, _, x => x
 | _ + 1, [], _, x => by rw [show _ = [] from x]; rfl
 | k + 1, _ :: _, _, x => by
  obtain ⟨w, r, rfl, x, z⟩ := x
  exact VRels.drop k z
theorem VRels.set (y : VRel ρ h v w) : ∀ (k : Nat) {vs ws}, VRels ρ h vs ws -> VRels ρ h (vs.set k v) (ws.set k w)
 | _, [], _, x => by rw [show _ = [] from x]; rfl
 | 0, _ :: _, _, x => by
  obtain ⟨u, r, rfl, x, z⟩ := x
  exact .cons y z
 | k + 1, _ :: _, _, x => by
  obtain ⟨u, r, rfl, x, z⟩ := x
  exact .cons x (VRels.set y k z)
theorem VRels.dropLast (x : VRels ρ h vs ws) : VRels ρ h vs.dropLast ws.dropLast := by
 rw [List.dropLast_eq_take, List.dropLast_eq_take, x.length]; exact x.take _
theorem int?_eq {i : Int} (e : v.int? = some i) : v = .int i := by
 cases v <;> first | exact nn e | exact congrArg _ (Option.some.inj e)
theorem ref?_eq {i : Nat} (e : v.ref? = some i) : v = .ref i := by
 cases v <;> first | exact nn e | exact congrArg _ (Option.some.inj e)
theorem str?_eq {i : List Nat} (e : v.str? = some i) : v = .str i := by
 cases v <;> first | exact nn e | exact congrArg _ (Option.some.inj e)
theorem tup?_eq {i : List V} (e : v.tup? = some i) : v = .tup i := by
 cases v <;> first | exact nn e | exact congrArg _ (Option.some.inj e)
theorem bool?_eq {i : Bool} (e : v.bool? = some i) : v = .bool i := by
 cases v <;> first | exact nn e | exact congrArg _ (Option.some.inj e)
theorem bytes?_eq {i : List Int} (e : v.bytes? = some i) : v = .bytes i := by
 cases v <;> first | exact nn e | exact congrArg _ (Option.some.inj e)
theorem VRel.int (x : VRel ρ h v w) {i : Int} (e : v.int? = some i) : ∃ t, w = .int i t := by rw [int?_eq e] at x; exact x
theorem VRel.ref (x : VRel ρ h v w) {i : Nat} (e : v.ref? = some i) : ∃ a d, w = .ref a /\ ρ[i]? = some (a, d) := by rw [ref?_eq e] at x; exact x
theorem VRel.str (x : VRel ρ h v w) {i : List Nat} (e : v.str? = some i) : InS i /\ ∃ t, w = .str (strOf i) t := by rw [str?_eq e] at x; exact x
theorem VRel.tup (x : VRel ρ h v w) {i : List V} (e : v.tup? = some i) : ∃ a ws, w = .ref a /\ IsTup h a ws.toArray /\ VRels ρ h i ws := by rw [tup?_eq e] at x; exact x
theorem VRels.ints : ∀ {vs ws} {l : List Int}, VRels ρ h vs ws -> intsOf vs = some l -> IntsAre ws l
 | [], _, _, x, e => by rw [show _ = [] from x]; cases e; exact .nil
 | _ :: _, _, _, x, e => by
  obtain ⟨w, r, rfl, x, z⟩ := x
  obtain ⟨i, e1, e⟩ := Option.bind_eq_some_iff.mp e
  obtain ⟨l', e2, rfl⟩ := Option.map_eq_some_iff.mp e
  obtain ⟨t, rfl⟩ := x.int e1
  exact .cons _ _ (VRels.ints z e2)
theorem VRels.one (x : VRels ρ h vs ws) (e : one vs = some v) : ∃ w, ws = [w] /\ VRel ρ h v w := by
 match vs, x, e with
 | u :: r, x, e =>
  obtain ⟨w, r', rfl, x, z⟩ := x
  obtain ⟨q, e⟩ := (Option.ite_none_right_eq_some).mp e
  cases e
  rw [List.isEmpty_iff.mp q] at z
  exact ⟨w, by rw [show r' = [] from z], x⟩
end
def EsRel (C : Dt) (ρ : Env2) (h : Heap) : List (Nat × V) -> List DictEntry -> Prop
 | [], es => es = []
 | f :: fs, es => ∃ w hsh t r, es = ⟨hsh, .str (C.nm f.1) t, w⟩ :: r /\ VRel ρ h f.2 w /\ EsRel C ρ h fs r
def Fields (C : Dt) (ρ : Env2) (h : Heap) (fs : List (Nat × V)) (a : Addr) : Prop := ∃ es n, h.get? a = some (dictOf es n) /\ EsRel C ρ h fs es
def ORel (C : Dt) (ρ : Env2) (h : Heap) (p : Addr × Addr) : O -> Prop
 | .list vs => p.2 = p.1 /\ ∃ ws n, h.get? p.1 = some { cls := .type "list", data := .seq ws.toArray n } /\ VRels ρ h vs ws
 | .ba bs => p.2 = p.1 /\ h.get? p.1 = some { cls := .type "bytearray", data := .bytearray (u8s bs) 0 } /\ InB bs
 | .inst c fs => h.get? p.1 = some (instObj (C.ca c) p.2) /\ Fields C ρ h fs p.2
 | .exc c fs => (∃ o vs, h.get? p.1 = some o /\ o.cls = .ref (C.ea c) /\ o.dict = some p.2 /\ o.data = .fields vs /\ excLike o = true) /\ Fields C ρ h fs p.2
noncomputable def framesOf (envs : List Env) : List Addr := envs.filterMap (·.frame)
noncomputable def isFn (env : Env) : Bool := env.frame == some env.locals
noncomputable def ownOf (env : Env) : List Addr := env.locals :: (if isFn env then env.cells.map (·.2) else [])
structure LocRel (C : Dt) (env : Env) (ρ : Env2) (lv : Loc) (h : Heap) : Prop where
 map : ∃ m, h.Ns env.locals m /\ ∀ i v, lv.lookup i = some v -> env.kindOf (C.nm i) = some .local -> ∃ w, m (C.nm i) = some w /\ VRel ρ h v w
 cel : ∀ i v, lv.lookup i = some v -> env.kindOf (C.nm i) = some .cell -> ∃ c w, env.cells.lookup (C.nm i) = some c /\ h.IsCell c (some w) /\ VRel ρ h v w
 all : ∀ x ∈ env.cells, ∃ v, h.IsCell x.2 v
 has : ∀ n, env.kindOf n = some .cell -> (env.cells.lookup n).isSome = true
structure Rel (C : Cx) (g : Base) (envs : List Env) (env : Env) (ρ : Env2) (lv : Loc) (hp : Hp) (h : Heap) : Prop where
 stay : C.H0.StaysIn h
 sub : ∀ b o, C.H0.get? b = some o -> g b = some o
 keep : ∀ b o, g b = some o -> ∃ sl, h.get? b = some { o with slots := sl } /\ (b ∉ framesOf envs -> sl = o.slots)
 frs : h.FunFrames C.H0 envs
 frd : ∀ a ∈ framesOf envs, ∃ o, h.get? a = some o /\ imm o = false
 len : ρ.length = hp.length
 led : ∀ (i : Nat) p o, ρ[i]? = some p -> hp[i]? = some o -> ORel C.toDt ρ h p o
 apart : ∀ (i j : Nat) p q, i ≠ j -> ρ[i]? = some p -> ρ[j]? = some q -> p.1 ≠ q.1 /\ p.1 ≠ q.2 /\ p.2 ≠ q.1 /\ p.2 ≠ q.2
 fresh : ∀ (i : Nat) p a, ρ[i]? = some p -> (a = p.1 \/ a = p.2) -> g a = none /\ a ∉ framesOf envs /\ a ∉ ownOf env
 loc : LocRel C.toDt env ρ lv h
 own : ∀ a ∈ ownOf env, g a = none
 cells : isFn env = true -> env.cells.Pairwise fun x y => x.2 ≠ y.2
 celk : ∀ x ∈ env.cells, x.2 ∈ ownOf env \/ ∃ o, g x.2 = some o
 arg : ∃ a vs, ρ[0]? = some (a, a) /\ hp[0]? = some (.list vs) /\ h.get? a = some C.arg
structure Ext (ρ : Env2) (h : Heap) (ρ' : Env2) (h' : Heap) : Prop where
 pre : ρ <+: ρ'
 st : Stable h h'
theorem Ext.refl (ρ : Env2) (h : Heap) : Ext ρ h ρ h := ⟨List.prefix_refl _, .refl _⟩
theorem Ext.trans {ρ₁ ρ₂ ρ₃ : Env2} {h₁ h₂ h₃ : Heap} (x : Ext ρ₁ h₁ ρ₂ h₂) (y : Ext ρ₂ h₂ ρ₃ h₃) : Ext ρ₁ h₁ ρ₃ h₃ := ⟨x.pre.trans y.pre, x.st.trans y.st⟩
theorem VRel.ext {ρ ρ' : Env2} {h h' : Heap} {v : V} {w : Value} (x : VRel ρ h v w) (e : Ext ρ h ρ' h') : VRel ρ' h' v w := x.mono e.pre e.st
theorem VRels.ext {ρ ρ' : Env2} {h h' : Heap} {v : List V} {w : List Value} (x : VRels ρ h v w) (e : Ext ρ h ρ' h') : VRels ρ' h' v w := x.mono e.pre e.st
section
variable {C : Cx} {D : Dt} {g : Base} {h h' : Heap} {envs : List Env} {env : Env} {ρ ρ' : Env2} {lv : Loc} {hp : Hp}
theorem EsRel.mono (p : ρ <+: ρ') (k : Stable h h') : ∀ {fs : List (Nat × V)} {es : List DictEntry}, EsRel D ρ h fs es -> EsRel D ρ' h' fs es
 | [], _, x => x
 | _ :: _, _, x => x.elim fun w y => y.elim fun a y => y.elim fun t y => y.elim fun r y => ⟨w, a, t, r, y.1, y.2.1.mono p k, EsRel.mono p k y.2.2⟩
theorem Fields.mono {fs : List (Nat × V)} {a : Addr} (p : ρ <+: ρ') (st : Stable h h') (k : ∀ o, h.get? a = some o -> h'.get? a = some o) (x : Fields D ρ h fs a) : Fields D ρ' h' fs a :=
 x.elim fun es y => y.elim fun n y => ⟨es, n, k _ y.1, y.2.mono p st⟩
theorem ORel.keep {p : Addr × Addr} (pr : ρ <+: ρ') (st : Stable h h') (k : ∀ a o, (a = p.1 \/ a = p.2) -> h.get? a = some o -> h'.get? a = some o) {o : O} (x : ORel D ρ h p o) : ORel D ρ' h' p o := by
 cases o with
 | list vs => exact ⟨x.1, x.2.elim fun ws y => y.elim fun n y => ⟨ws, n, k _ _ (.inl rfl) y.1, y.2.mono pr st⟩⟩
 | ba bs => exact ⟨x.1, k _ _ (.inl rfl) x.2.1, x.2.2⟩
 | inst c fs => exact ⟨k _ _ (.inl rfl) x.1, x.2.mono pr st fun o e => k _ o (.inr rfl) e⟩
 | exc c fs => exact ⟨x.1.elim fun o y => y.elim fun vs y => ⟨o, vs, k _ _ (.inl rfl) y.1, y.2⟩, x.2.mono pr st fun o e => k _ o (.inr rfl) e⟩
def Mut (o : Obj) : Prop := imm o = false /\ ∀ v, o.data ≠ .cell v
def O.isExc : O -> Bool
 | .exc _ _ => true
 | _ => false
theorem ORel.obs {p : Addr × Addr} {a : Addr} {o : O} (x : ORel D ρ h p o) (ha : a = p.1 \/ a = p.2) : ∃ ob, h.get? a = some ob /\ Mut ob /\ (o.isExc = false -> excLike ob = false) := by
 cases o with
 | list vs =>
  obtain ⟨q, ws, n, e, _⟩ := x
  rw [show a = p.1 from ha.elim id fun z => z.trans q]
  exact ⟨_, e, ⟨rfl, fun _ z => nomatch z⟩, fun _ => rfl⟩
 | ba bs =>
  obtain ⟨q, e, _⟩ := x
  rw [show a = p.1 from ha.elim id fun z => z.trans q]
  exact ⟨_, e, ⟨rfl, fun _ z => nomatch z⟩, fun _ => rfl⟩
 | inst c fs =>
  obtain ⟨e, es, n, e', _⟩ := x
  cases ha with
  | inl ha => rw [ha]; exact ⟨_, e, ⟨rfl, fun _ z => nomatch z⟩, fun _ => rfl⟩
  | inr ha => rw [ha]; exact ⟨_, e', ⟨rfl, fun _ z => nomatch z⟩, fun _ => rfl⟩
 | exc c fs =>
  obtain ⟨⟨o, vs, e, e1, _, e2, _⟩, es, n, e', _⟩ := x
  cases ha with
  | inl ha => rw [ha]; exact ⟨_, e, ⟨by rw [imm, e2, e1]; rfl, fun _ z => nomatch e2.symm.trans z⟩, fun z => nomatch z⟩
  | inr ha => rw [ha]; exact ⟨_, e', ⟨rfl, fun _ z => nomatch z⟩, fun z => nomatch z⟩
theorem some_uniq {α : Type} {x : Option α} {a b : α} (h : x = some a) (h' : x = some b) : a = b := Option.some.inj (h.symm.trans h')
theorem ORel.mut {p : Addr × Addr} {a : Addr} {o' : Obj} {o : O} (x : ORel D ρ h p o) (ha : a = p.1 \/ a = p.2) (e : h.get? a = some o') : imm o' = false :=
 (x.obs ha).elim fun _ y => some_uniq y.1 e ▸ y.2.1.1
theorem ORel.noExc {p : Addr × Addr} {a : Addr} {o' : Obj} {o : O} (x : ORel D ρ h p o) (hx : o.isExc = false) (ha : a = p.1 \/ a = p.2) (e : h.get? a = some o') : excLike o' = false :=
 (x.obs ha).elim fun _ y => some_uniq y.1 e ▸ y.2.2 hx
theorem Ns_get {h : Heap} {a : Addr} {m : Str -> Option Value} (x : h.Ns a m) : h.get? a ≠ none := by
 obtain ⟨o, _, _, e, _⟩ := x; rw [e]; simp
theorem isCell_get {h : Heap} {a : Addr} {v : Option Value} (x : h.IsCell a v) : h.get? a ≠ none := by
 obtain ⟨o, e, _⟩ := x; rw [e]; simp
theorem own_get (L : LocRel D env ρ lv h) {a : Addr} (ha : a ∈ ownOf env) : h.get? a ≠ none := by
 unfold ownOf at ha
 rcases List.mem_cons.mp ha with rfl | ha
 ·obtain ⟨m, hn, _⟩ := L.map; exact Ns_get hn
 ·split at ha
  ·obtain ⟨x, hx, rfl⟩ := List.mem_map.mp ha
   obtain ⟨v, hv⟩ := L.all x hx; exact isCell_get hv
  ·cases ha
theorem frames_get {base : Heap} (F : h.FunFrames base envs) {a : Addr} (ha : a ∈ framesOf envs) : h.get? a ≠ none := by
 obtain ⟨_, o, e, _⟩ := F.mem ha; rw [e]; simp
theorem Rel.notIn (R : Rel C g envs env ρ lv hp h) {a : Addr} (ha : h.get? a = none) : g a = none /\ a ∉ framesOf envs /\ a ∉ ownOf env := by
 refine ⟨?_, fun q => frames_get R.frs q ha, fun q => own_get R.loc q ha⟩
 cases q : g a with
 | none => rfl
 | some o => exact (R.keep a o q).elim fun _ y => no ha y.1
theorem Ns.upTo {h h' : Heap} {a : Addr} {m : Str -> Option Value} (x : h.Ns a m) (k : ∀ o, h.get? a = some o -> ∃ sl, h'.get? a = some { o with slots := sl }) : h'.Ns a m := by
 obtain ⟨o, es, ep, e, r⟩ := x
 obtain ⟨sl, e'⟩ := k o e
 exact ⟨_, es, ep, e', r⟩
theorem LocRel.keep (pr : ρ <+: ρ') (st : Stable h h') (kL : ∀ o, h.get? env.locals = some o -> ∃ sl, h'.get? env.locals = some { o with slots := sl })
  (kc : ∀ x ∈ env.cells, ∀ o, h.get? x.2 = some o -> h'.get? x.2 = some o) (L : LocRel C.toDt env ρ lv h) : LocRel C.toDt env ρ' lv h' := by
 obtain ⟨⟨m, hn, hm⟩, hc, ha, hh⟩ := L
 refine ⟨⟨m, Ns.upTo hn kL, fun i v e q => let ⟨w, e', r⟩ := hm i v e q; ⟨w, e', r.mono pr st⟩⟩, fun i v e q => ?_, fun x hx => ?_, hh⟩
 ·obtain ⟨c, w, e1, ⟨o, e2, e3⟩, r⟩ := hc i v e q
  exact ⟨c, w, e1, ⟨o, kc _ (mem_of_lookup e1) _ e2, e3⟩, r.mono pr st⟩
 ·obtain ⟨v, o, e2, e3⟩ := ha x hx; exact ⟨v, o, kc x hx _ e2, e3⟩
theorem stable_of_keeps (k : ∀ b o, h.get? b = some o -> h'.get? b = some o) : Stable h h' := ⟨fun a o e _ => k a o e, fun a o e i => ⟨o, k a o e, i⟩⟩
theorem Rel.grow (R : Rel C g envs env ρ lv hp h) (k : ∀ b o, h.get? b = some o -> h'.get? b = some o) : Rel C g envs env ρ lv hp h' where
 stay := fun b o e => k b o (R.stay b o e)
 sub := R.sub
 keep := fun b o e => let ⟨sl, e', r⟩ := R.keep b o e; ⟨sl, k _ _ e', r⟩
 frs := R.frs.of_keeps fun b o e _ => ⟨o, k b o e, rfl⟩
 frd := fun a ha => let ⟨o, e, i⟩ := R.frd a ha; ⟨o, k a o e, i⟩
 len := R.len
 led := fun i p o e1 e2 => (R.led i p o e1 e2).keep (List.prefix_refl _) (stable_of_keeps k) fun a o _ e => k a o e
 apart := R.apart
 fresh := R.fresh
 loc := R.loc.keep (List.prefix_refl _) (stable_of_keeps k) (fun o e => ⟨o.slots, k _ _ e⟩) fun x _ o e => k _ _ e
 own := R.own
 cells := R.cells
 celk := R.celk
 arg := let ⟨a, vs, e1, e2, e3⟩ := R.arg; ⟨a, vs, e1, e2, k _ _ e3⟩
theorem Rel.frame_ne (R : Rel C g envs env ρ lv hp h) {i : Nat} {p : Addr × Addr} {a : Addr} (hi : ρ[i]? = some p) (ha : a = p.1 \/ a = p.2) :
  a ∉ framesOf envs /\ a ≠ env.locals /\ (isFn env = true -> ∀ x ∈ env.cells, x.2 ≠ a) := by
 obtain ⟨_, h2, h3⟩ := R.fresh i p a hi ha
 unfold ownOf at h3
 refine ⟨h2, fun q => h3 (q ▸ List.mem_cons_self), fun q x hx e => h3 ?_⟩
 rw [if_pos q]
 exact List.mem_cons_of_mem _ (List.mem_map.mpr ⟨x, hx, e⟩)
theorem ORel.notCell {p : Addr × Addr} {a : Addr} {v : Option Value} (hv : h.IsCell a v) (ha : a = p.1 \/ a = p.2) {o : O} (x : ORel D ρ h p o) : False :=
 (x.obs ha).elim fun _ y => hv.elim fun _ e => y.2.1.2 v (some_uniq y.1 e.1 ▸ e.2)
theorem funFrames_on {base : Heap} {l : List Env} (k : ∀ b ∈ framesOf l, ∀ o, h.get? b = some o -> (∀ vs, o.data ≠ .fields vs) -> ∃ o', h'.get? b = some o' /\ ∀ vs, o'.data ≠ .fields vs) (F : h.FunFrames base l) : h'.FunFrames base l := by
 induction l with
 | nil => trivial
 | cons env r ih =>
  obtain ⟨hk, ⟨L, o, hf, hn, ho, hd⟩, hr⟩ := F
  have hL : L ∈ framesOf (env :: r) := by unfold framesOf; rw [List.filterMap_cons, hf]; exact List.mem_cons_self
  obtain ⟨o', ho', hd'⟩ := k L hL o ho hd
  refine ⟨hk, ⟨L, o', hf, hn, ho', hd'⟩, ih (fun b hb => k b ?_) hr⟩
  unfold framesOf; rw [List.filterMap_cons, hf]; exact List.mem_cons_of_mem _ hb
theorem Rel.upd (R : Rel C g envs env ρ lv hp h) {i : Nat} {p : Addr × Addr} {o o' : O} (hi : ρ[i]? = some p) (ho : hp[i]? = some o) (hk : ∀ b o, b ≠ p.1 -> b ≠ p.2 -> h.get? b = some o -> h'.get? b = some o)
  (hnew : Stable h h' -> ORel C.toDt ρ h' p o') (hx : o.isExc = false := by rfl) (hz : i = 0 -> ∀ vs, o ≠ .list vs := by intro _ _ z; cases z) : Rel C g envs env ρ lv (hp.set i o') h' /\ Stable h h' := by
 have O := R.led i p o hi ho
 have st : Stable h h' := ⟨fun a ob e im => hk a ob (fun q => bno (O.mut (.inl q) e) im) (fun q => bno (O.mut (.inr q) e) im) e,
  fun a ob e im => ⟨ob, hk a ob (fun q => bno (O.noExc hx (.inl q) e) im) (fun q => bno (O.noExc hx (.inr q) e) im) e, im⟩⟩
 refine ⟨⟨fun b ob e => ?_, R.sub, fun b ob e => ?_, funFrames_on (fun b hb ob e hnf => ?_) R.frs, fun a ha => ?_, by rw [List.length_set]; exact R.len, fun j q oj e1 e2 => ?_, R.apart, R.fresh, ?_, R.own, R.cells, R.celk, ?_⟩, st⟩
 rotate_right
 ·obtain ⟨a, vs, e1, e2, e3⟩ := R.arg
  have hi0 : i ≠ 0 := fun q => by subst q; rw [ho] at e2; cases e2; exact hz rfl vs rfl
  have A := R.apart 0 i _ _ (Ne.symm hi0) e1 hi
  exact ⟨a, vs, e1, by rw [List.getElem?_set_ne hi0]; exact e2, hk a _ A.1 A.2.1 e3⟩
 ·have ng : ∀ a, (a = p.1 \/ a = p.2) -> C.H0.get? a = none := fun a ha => by
   cases z : C.H0.get? a with
   | none => rfl
   | some oz => exact no (R.fresh i p a hi ha).1 (R.sub a oz z)
  exact hk b ob (fun q => no (ng b (.inl q)) e) (fun q => no (ng b (.inr q)) e) (R.stay b ob e)
 ·obtain ⟨sl, e', r⟩ := R.keep b ob e
  exact ⟨sl, hk b _ (fun q => no (R.fresh i p b hi (.inl q)).1 e) (fun q => no (R.fresh i p b hi (.inr q)).1 e) e', r⟩
 ·exact ⟨ob, hk b ob (fun q => (R.frame_ne hi (.inl rfl)).1 (q ▸ hb)) (fun q => (R.frame_ne hi (.inr rfl)).1 (q ▸ hb)) e, hnf⟩
 ·obtain ⟨ob, e, im⟩ := R.frd a ha
  exact ⟨ob, hk a ob (fun q => (R.frame_ne hi (.inl rfl)).1 (q ▸ ha)) (fun q => (R.frame_ne hi (.inr rfl)).1 (q ▸ ha)) e, im⟩
 ·by_cases hij : j = i
  ·subst hij
   rw [hi] at e1; cases e1
   rw [List.getElem?_set_self (by exact (List.getElem?_eq_some_iff.mp ho).1)] at e2
   cases e2; exact hnew st
  ·rw [List.getElem?_set_ne (Ne.symm hij)] at e2
   have A := R.apart j i q p hij e1 hi
   refine (R.led j q oj e1 e2).keep (List.prefix_refl _) st fun a ob ha e => hk a ob (fun z => ?_) (fun z => ?_) e
   ·rcases ha with y | y
    ·exact A.1 (y.symm.trans z)
    ·exact A.2.2.1 (y.symm.trans z)
   ·rcases ha with y | y
    ·exact A.2.1 (y.symm.trans z)
    ·exact A.2.2.2 (y.symm.trans z)
 ·refine R.loc.keep (List.prefix_refl _) st (fun ob e => ⟨ob.slots, hk _ _ (fun q => ((R.frame_ne hi (.inl rfl)).2.1) q.symm) (fun q => ((R.frame_ne hi (.inr rfl)).2.1) q.symm) e⟩) fun x hx ob e => ?_
  obtain ⟨v, hv⟩ := R.loc.all x hx
  exact hk _ _ (fun q => O.notCell hv (.inl q)) (fun q => O.notCell hv (.inr q)) e
theorem Rel.alloc (R : Rel C g envs env ρ lv hp h) (k : ∀ b o, h.get? b = some o -> h'.get? b = some o) {x dx : Addr} {o : O} (hx : h.get? x = none) (hdx : h.get? dx = none)
  (ho : ORel C.toDt (ρ ++ [(x, dx)]) h' (x, dx) o) : Rel C g envs env (ρ ++ [(x, dx)]) lv (hp ++ [o]) h' /\ Ext ρ h (ρ ++ [(x, dx)]) h' := by
 have G := R.grow k
 have st := stable_of_keeps k
 have pr : ρ <+: ρ ++ [(x, dx)] := List.prefix_append _ _
 have old : ∀ (i : Nat) p, ρ[i]? = some p -> h.get? p.1 ≠ none /\ h.get? p.2 ≠ none := fun i p hi => by
  have hl : i < hp.length := R.len ▸ (List.getElem?_eq_some_iff.mp hi).1
  have O := R.led i p _ hi (List.getElem?_eq_getElem hl)
  exact ⟨fun z => (O.obs (.inl rfl)).elim fun _ y => (nomatch z.symm.trans y.1), fun z => (O.obs (.inr rfl)).elim fun _ y => (nomatch z.symm.trans y.1)⟩
 have ne : ∀ (i : Nat) p, ρ[i]? = some p -> p.1 ≠ x /\ p.1 ≠ dx /\ p.2 ≠ x /\ p.2 ≠ dx := fun i p hi => by
  obtain ⟨a, b⟩ := old i p hi
  exact ⟨fun q => a (q ▸ hx), fun q => a (q ▸ hdx), fun q => b (q ▸ hx), fun q => b (q ▸ hdx)⟩
 have cases' : ∀ {i : Nat} {p}, (ρ ++ [(x, dx)])[i]? = some p -> (ρ[i]? = some p /\ i < ρ.length) \/ (i = ρ.length /\ p = (x, dx)) := fun {i p} e => by
  by_cases hi : i < ρ.length
  ·rw [List.getElem?_append_left hi] at e; exact .inl ⟨e, hi⟩
  ·rw [List.getElem?_append_right (by omega)] at e
   have : i - ρ.length = 0 := by
    have := (List.getElem?_eq_some_iff.mp e).1
    simp at this; omega
   rw [this] at e; cases e
   exact .inr ⟨by omega, rfl⟩
 refine ⟨⟨G.stay, G.sub, G.keep, G.frs, G.frd, by simp [R.len], fun i p o' e1 e2 => ?_, fun i j p q hij e1 e2 => ?_, fun i p a e ha => ?_, ?_, G.own, G.cells, G.celk, ?_⟩, ⟨pr, st⟩⟩
 rotate_right
 ·obtain ⟨a, vs, e1, e2, e3⟩ := R.arg
  exact ⟨a, vs, getElem?_pre pr e1, getElem?_pre (List.prefix_append _ _) e2, k _ _ e3⟩
 ·rcases cases' e1 with ⟨e, hi⟩ | ⟨rfl, rfl⟩
  ·rw [List.getElem?_append_left (by rw [<- R.len]; exact hi)] at e2
   exact (R.led i p o' e e2).keep pr st fun a o _ e => k a o e
  ·rw [List.getElem?_append_right (by rw [R.len]; exact Nat.le_refl _), R.len, Nat.sub_self] at e2
   cases e2; exact ho
 ·rcases cases' e1 with ⟨e, hi⟩ | ⟨rfl, rfl⟩ <;> rcases cases' e2 with ⟨e', hj⟩ | ⟨rfl, rfl⟩
  ·exact R.apart i j p q hij e e'
  ·exact ne i p e
  ·have := ne j q e'; exact ⟨Ne.symm this.1, Ne.symm this.2.2.1, Ne.symm this.2.1, Ne.symm this.2.2.2⟩
  ·exact absurd rfl hij
 ·rcases cases' e with ⟨e, hi⟩ | ⟨rfl, rfl⟩
  ·exact R.fresh i p a e ha
  ·rcases ha with rfl | rfl
   ·exact R.notIn hx
   ·exact R.notIn hdx
 ·exact R.loc.keep pr st (fun o e => ⟨o.slots, k _ _ e⟩) fun x _ o e => k _ _ e
theorem Rel.ownUpd (R : Rel C g envs env ρ lv hp h) {lv' : Loc} {a : Addr} (ha : a ∈ ownOf env) (hk : ∀ b o, b ≠ a -> h.get? b = some o -> h'.get? b = some o)
  (hi : ∀ o, h.get? a = some o -> (imm o = false /\ excLike o = false) /\ ∃ o', h'.get? a = some o' /\ imm o' = false /\ ∀ vs, o'.data ≠ .fields vs) (hl : Stable h h' -> LocRel C.toDt env ρ lv' h') :
  Rel C g envs env ρ lv' hp h' /\ Stable h h' := by
 have st : Stable h h' := ⟨fun b o e im => hk b o (fun q => bno (hi o (q ▸ e)).1.1 im) e, fun b o e im => ⟨o, hk b o (fun q => bno (hi o (q ▸ e)).1.2 im) e, im⟩⟩
 have ng := R.own a ha
 refine ⟨⟨fun b o e => hk b o (fun q => ?_) (R.stay b o e), R.sub, fun b o e => ?_, funFrames_on (fun b hb o e nf => ?_) R.frs, fun b hb => ?_, R.len, fun i p o e1 e2 => ?_, R.apart, R.fresh, hl st, R.own, R.cells, R.celk, ?_⟩, st⟩
 rotate_right
 ·obtain ⟨b, vs, e1, e2, e3⟩ := R.arg
  exact ⟨b, vs, e1, e2, hk b _ (fun q => (R.fresh 0 _ b e1 (.inl rfl)).2.2 (q ▸ ha)) e3⟩
 ·exact no ng (q ▸ R.sub _ _ e)
 ·obtain ⟨sl, e', r⟩ := R.keep b o e
  exact ⟨sl, hk b _ (fun q => no ng (q ▸ e)) e', r⟩
 ·by_cases q : b = a
  ·subst q; obtain ⟨_, o', e', _, r⟩ := hi o e; exact ⟨o', e', r⟩
  ·exact ⟨o, hk b o q e, nf⟩
 ·obtain ⟨o, e, im⟩ := R.frd b hb
  by_cases q : b = a
  ·subst q; obtain ⟨_, o', e', r, _⟩ := hi o e; exact ⟨o', e', r⟩
  ·exact ⟨o, hk b o q e, im⟩
 ·exact (R.led i p o e1 e2).keep (List.prefix_refl _) st fun b ob hb e => hk b ob (fun q => (R.fresh i p b e1 hb).2.2 (q ▸ ha)) e
theorem Rel.lookup_set {x : Nat} {v : V} (i : Nat) : (setL x v lv).lookup i = if i = x then some v else lv.lookup i := by
 unfold setL
 rw [List.lookup_cons]
 by_cases q : i = x
 ·subst q; simp
 ·have : (i == x) = false := by simpa using q
  rw [this, if_neg q]
  dsimp only
  induction lv with
  | nil => rfl
  | cons y r ih =>
   obtain ⟨a, w⟩ := y
   rw [List.filter_cons]
   by_cases qa : a = x
   ·subst qa; simp only [bne_self_eq_false, Bool.false_eq_true, if_false, ih, List.lookup_cons, this]
   ·have h1 : (a != x) = true := by simpa using qa
    rw [if_pos h1, List.lookup_cons, List.lookup_cons, ih]
end
structure St (C : Cx) (g : Base) (envs : List Env) (env : Env) (ρ : Env2) (lv : Loc) (hp : Hp) (s : Shared) : Prop where
 R : Rel C g envs env ρ lv hp s.heap
 gens : s.gens = #[]
 os : s.os = C.os
section
variable {C : Cx} {g : Base} {envs : List Env} {env : Env} {ρ : Env2} {lv : Loc} {hp : Hp} {s : Shared} {M : Model} {A : Around} {E : Value -> Shared -> Prop}
theorem St.tok (S : St C g envs env ρ lv hp s) (t : Nat) : St C g envs env ρ lv hp { s with toks := t } := ⟨S.R, S.gens, S.os⟩
theorem St.grow (S : St C g envs env ρ lv hp s) {h' : Heap} (k : ∀ b o, s.heap.get? b = some o -> h'.get? b = some o) (t : Nat) : St C g envs env ρ lv hp { s with heap := h', toks := t } := ⟨S.R.grow k, S.gens, S.os⟩
theorem store_name (inj : ∀ i j, C.nm i = C.nm j -> i = j) (S : St C g envs env ρ lv hp s) (hk : env.scope.kind = .function) {x : Nat} {v : V} {w : Value} {Q : Unit -> Shared -> Prop}
  (hkind : env.kindOf (C.nm x) = some .local \/ (isFn env = true /\ env.kindOf (C.nm x) = some .cell)) (hv : VRel ρ s.heap v w)
  (h : ∀ s', St C g envs env ρ (setL x v lv) hp s' -> Stable s.heap s'.heap -> Q () s') : wpAny M A (storeName env (C.nm x) w) Q E s := by
 obtain ⟨m, hn, hm⟩ := S.R.loc.map
 have L := S.R.loc
 have ncell : ∀ {c : Addr} {u : Option Value} {h : Heap}, h.IsCell c u -> ∀ {m' : Str -> Option Value}, h.Ns env.locals m' -> c ≠ env.locals := fun {c u h} hc m' hn q => by
  obtain ⟨o, e1, e2⟩ := hc
  obtain ⟨o', es, ep, e3, e4, _⟩ := hn
  subst q; rw [e1] at e3; cases e3; rw [e2] at e4; cases e4
 rcases hkind with hl | ⟨hf, hl⟩
 ·refine wpAny_storeName_local hl hn (fun h' hn' hs' => ?_) (by rw [hk]; rfl)
  have hkk : ∀ b o, b ≠ env.locals -> s.heap.get? b = some o -> h'.get? b = some o := fun b o q e => (hs'.2 b q).trans e
  obtain ⟨R', st⟩ := S.R.ownUpd (lv' := setL x v lv) (a := env.locals) List.mem_cons_self hkk (fun o e => by
    obtain ⟨o₁, es, ep, e1, e2, _⟩ := hn
    obtain ⟨o₂, es', ep', e3, e4, _⟩ := hn'
    rw [e1] at e; cases e
    exact ⟨⟨by simp [imm, e2], by simp [excLike, e2]⟩, o₂, e3, by simp [imm, e4], fun vs q => by rw [e4] at q; cases q⟩) (fun st => by
    refine ⟨⟨_, hn', fun i u e q => ?_⟩, fun i u e q => ?_, fun y hy => ?_, L.has⟩
    ·rw [Rel.lookup_set] at e
     by_cases z : i = x
     ·subst z; rw [if_pos rfl] at e; cases e; exact ⟨w, if_pos rfl, hv.mono (List.prefix_refl _) st⟩
     ·rw [if_neg z] at e
      obtain ⟨w', e', r⟩ := hm i u e q
      exact ⟨w', (if_neg fun y => z (inj _ _ y)).trans e', r.mono (List.prefix_refl _) st⟩
    ·rw [Rel.lookup_set] at e
     by_cases z : i = x
     ·subst z; rw [hl] at q; cases q
     ·rw [if_neg z] at e
      obtain ⟨c, w', e1, hc, r⟩ := L.cel i u e q
      exact ⟨c, w', e1, hc.sameBut hs' (ncell hc hn), r.mono (List.prefix_refl _) st⟩
    ·obtain ⟨u, hc⟩ := L.all y hy; exact ⟨u, hc.sameBut hs' (ncell hc hn)⟩)
  exact h _ ⟨R', S.gens, S.os⟩ st
 ·obtain ⟨c, hc⟩ := Option.isSome_iff_exists.mp (L.has _ hl)
  have hmem := mem_of_lookup hc
  obtain ⟨u₀, hu⟩ := L.all _ hmem
  refine wpAny_storeName_cell hk hl hc hu fun h' hc' hs' => ?_
  have hkk : ∀ b o, b ≠ c -> s.heap.get? b = some o -> h'.get? b = some o := fun b o q e => (hs'.2 b q).trans e
  have ha : c ∈ ownOf env := by
   unfold ownOf; rw [if_pos hf]; exact List.mem_cons_of_mem _ (List.mem_map.mpr ⟨_, hmem, rfl⟩)
  obtain ⟨R', st⟩ := S.R.ownUpd (lv' := setL x v lv) (a := c) ha hkk (fun o e => by
    obtain ⟨o₁, e1, e2⟩ := hu
    obtain ⟨o₂, e3, e4⟩ := hc'
    rw [e1] at e; cases e
    exact ⟨⟨by simp [imm, e2], by simp [excLike, e2]⟩, o₂, e3, by simp [imm, e4], fun vs q => by rw [e4] at q; cases q⟩) (fun st => by
    refine ⟨⟨m, hn.sameBut hs' (Ne.symm (ncell hu hn)), fun i u e q => ?_⟩, fun i u e q => ?_, fun y hy => ?_, L.has⟩
    ·rw [Rel.lookup_set] at e
     by_cases z : i = x
     ·subst z; rw [hl] at q; cases q
     ·rw [if_neg z] at e
      obtain ⟨w', e', r⟩ := hm i u e q
      exact ⟨w', e', r.mono (List.prefix_refl _) st⟩
    ·rw [Rel.lookup_set] at e
     by_cases z : i = x
     ·subst z; rw [if_pos rfl] at e; cases e; exact ⟨c, w, hc, hc', hv.mono (List.prefix_refl _) st⟩
     ·rw [if_neg z] at e
      obtain ⟨c₂, w', e1, hc₂, r⟩ := L.cel i u e q
      exact ⟨c₂, w', e1, hc₂.sameBut hs' (fun y => z (inj _ _ (name_of_addr (S.R.cells hf) (mem_of_lookup e1) (y ▸ hmem)))), r.mono (List.prefix_refl _) st⟩
    ·obtain ⟨u, hy'⟩ := L.all y hy
     by_cases z : y.2 = c
     ·exact ⟨_, z ▸ hc'⟩
     ·exact ⟨u, hy'.sameBut hs' z⟩)
  exact h _ ⟨R', S.gens, S.os⟩ st
theorem locOk_kind {n : Str} (ho : locOk env.scope n = true) : env.kindOf n = some .local \/ env.kindOf n = some .cell := by
 obtain ⟨k, e, q⟩ := (Option.any_eq_true _ _).mp (Bool.and_eq_true_iff.mp ho).2
 have e : env.kindOf n = some k := e
 rw [e]
 cases k <;> first | exact .inl rfl | exact .inr rfl | cases q
theorem load_name (S : St C g envs env ρ lv hp s) (hk : env.scope.kind = .function) {x : Nat} {v : V} {Q : Value -> Shared -> Prop} (hx : lv.lookup x = some v) (ho : locOk env.scope (C.nm x) = true)
  (h : ∀ w, VRel ρ s.heap v w -> Q w s) : wpAny M A (loadName env (C.nm x)) Q E s := by
 rcases locOk_kind (env := env) ho with q | q
 ·obtain ⟨m, hn, hm⟩ := S.R.loc.map
  obtain ⟨w, e, r⟩ := hm x v hx q
  exact wpAny_loadName_local hk q hn e (h w r)
 ·obtain ⟨c, w, e1, hc, r⟩ := S.R.loc.cel x v hx q
  exact wpAny_loadName_cell hk q e1 hc (h w r)
end
section
variable (C : Cx) (g : Base) (envs : List Env) (env : Env)
def OkA {α β : Type} (Rl : Env2 -> Heap -> α -> β -> Prop) (ρ : Env2) (lv : Loc) (s : Shared) (out : Out α) (w : β) (s' : Shared) : Prop :=
 match out with
 | .ok v hp' => ∃ ρ', St C g envs env ρ' lv hp' s' /\ Ext ρ s.heap ρ' s'.heap /\ Rl ρ' s'.heap v w
 | .raise _ _ => False
def OkV (ρ : Env2) (lv : Loc) (s : Shared) (out : Out V) (w : Value) (s' : Shared) : Prop := OkA C g envs env VRel ρ lv s out w s'
end
section
variable {C : Cx} {g : Base} {envs : List Env} {env : Env} {ρ : Env2} {lv : Loc} {hp : Hp} {s : Shared} {A : Around} {E : Value -> Shared -> Prop}
theorem OkV.now (S : St C g envs env ρ lv hp s) {v : V} {w : Value} (hv : VRel ρ s.heap v w) : OkV C g envs env ρ lv s (.ok v hp) w s :=
 ⟨ρ, S, .refl _ _, hv⟩
theorem OkV.tok (S : St C g envs env ρ lv hp s) {v : V} {w : Value} (t : Nat) (hv : VRel ρ s.heap v w) : OkV C g envs env ρ lv s (.ok v hp) w { s with toks := t } :=
 ⟨ρ, S.tok t, .refl _ _, hv⟩
theorem bits_of_lt {a : Int} {k : Nat} (h : a.natAbs < 2 ^ k) : Builtin.Int.intBits a <= k := by
 unfold Builtin.Int.intBits
 split
 ·omega
 ·rename_i q
  have hne : a.natAbs ≠ 0 := by
   intro z; apply q; simp at z; simp [z]
  have := (Nat.log2_lt hne).mpr h
  omega
theorem log2_lt_of {a : Int} {k : Nat} (hk : 0 < k) (h : a.natAbs < 2 ^ k) : a.natAbs.log2 < k := by
 by_cases z : a.natAbs = 0
 ·rw [z]; simpa using hk
 ·exact (Nat.log2_lt z).mpr h
theorem ite_some {α : Type} {c : Prop} [Decidable c] {x : Option α} {b : α} (h : (if c then x else none) = some b) : c /\ x = some b := by
 by_cases q : c
 ·rw [if_pos q] at h; exact ⟨q, h⟩
 ·rw [if_neg q] at h; cases h
theorem mul_room {a b : Int} (q : mulOk a b = true) : IntMulOk a b := by
 obtain ⟨q1, q2⟩ := Bool.and_eq_true_iff.mp q
 have h1 := bits_of_lt (of_decide_eq_true q1)
 have h2 := bits_of_lt (of_decide_eq_true q2)
 unfold IntMulOk Builtin.Int.intTooBig
 simp only [Bool.and_eq_true, decide_eq_true_eq, not_and]
 intro _ z
 have : bitsLine = 2 ^ 27 := rfl
 rw [this] at z; omega
theorem fd_room {a b : Int} (h : b.natAbs < 2 ^ 400) : Builtin.divisionGoesByPylong a b = false := PyProof.noPylong_of_log2 (Nat.lt_trans (log2_lt_of (by decide) h) (by decide))
theorem binInt_ok (S : St C g envs env ρ lv hp s) {op : Operator} {a b c : Int} {t u : Tok} (h : binInt op a b = some c) :
  wpAny C.M A (binaryOp op (.int a t) (.int b u)) (OkV C g envs env ρ lv s (.ok (.int c) hp)) E s := by
 have fin : OkV C g envs env ρ lv s (.ok (.int c) hp) (.int c s.toks) { s with toks := s.toks + 1 } := OkV.tok S _ ⟨_, rfl⟩
 cases op with
 | Add => cases h; exact PyProof.Rows.add_int fin
 | Sub => cases h; exact PyProof.Rows.sub_int' fin
 | Mult =>
  obtain ⟨q, e⟩ := ite_some h
  cases e; exact PyProof.Rows.mul_int fin (mul_room q)
 | Mod =>
  obtain ⟨q, e⟩ := ite_some h
  cases e; exact PyProof.Rows.mod_int' (Int.ne_of_gt q.1) (by rw [Int.fmod_eq_emod_of_nonneg _ (Int.le_of_lt q.1)]; exact fin)
 | FloorDiv =>
  obtain ⟨q, e⟩ := ite_some h
  cases e; exact PyProof.Rows.floordiv_int (Int.ne_of_gt q.1) (by rw [Int.fdiv_eq_ediv_of_nonneg _ (Int.le_of_lt q.1)]; exact fin) (.inl (fd_room q.2))
 | Pow =>
  obtain ⟨q, e⟩ := ite_some h
  cases e; exact PyProof.Rows.pow_int_small q.1 (Int.le_trans q.2.1 (by decide)) (of_decide_eq_true q.2.2) fin
 | LShift =>
  obtain ⟨q, e⟩ := ite_some h
  cases e; exact PyProof.Rows.lshift_int_small q.1 (Int.le_trans q.2.1 (by decide)) (of_decide_eq_true q.2.2) fin
 | RShift =>
  obtain ⟨q, e⟩ := ite_some h
  cases e; exact PyProof.Rows.rshift_int q (by rw [Int.fdiv_eq_ediv_of_nonneg _ (Int.pow_nonneg (by decide))]; exact fin)
 | BitOr => cases h; exact PyProof.Rows.or_int fin
 | BitAnd => cases h; exact PyProof.Rows.and_int fin
 | _ => cases h
theorem listO_eq {o : O} {vs : List V} (h : o.list? = some vs) : o = .list vs := by
 cases o <;> first | exact nn h | exact congrArg _ (Option.some.inj h)
theorem baO_eq {o : O} {b : List Int} (h : o.ba? = some b) : o = .ba b := by
 cases o <;> first | exact nn h | exact congrArg _ (Option.some.inj h)
theorem listAt_some {i : Nat} {vs : List V} (h : listAt i hp = some vs) : hp[i]? = some (.list vs) := by
 obtain ⟨o, e, q⟩ := Option.bind_eq_some_iff.mp h
 rw [e, listO_eq q]
theorem baAt_some {i : Nat} {b : List Int} (h : baAt i hp = some b) : hp[i]? = some (.ba b) := by
 obtain ⟨o, e, q⟩ := Option.bind_eq_some_iff.mp h
 rw [e, baO_eq q]
theorem led_at (S : St C g envs env ρ lv hp s) {i : Nat} {o : O} (h : hp[i]? = some o) {p : Addr × Addr} (hi : ρ[i]? = some p) : ORel C.toDt ρ s.heap p o := S.R.led i p o hi h
theorem list_at (S : St C g envs env ρ lv hp s) {i : Nat} {vs : List V} (h : listAt i hp = some vs) {x dx : Addr} (hi : ρ[i]? = some (x, dx)) :
  ∃ ws n, s.heap.get? x = some { cls := .type "list", data := .seq ws.toArray n } /\ VRels ρ s.heap vs ws := (led_at S (listAt_some h) hi).2
theorem isList_at (S : St C g envs env ρ lv hp s) {i : Nat} {vs : List V} (h : listAt i hp = some vs) {x dx : Addr} (hi : ρ[i]? = some (x, dx)) :
  ∃ ws, s.heap.IsList x ws.toArray /\ VRels ρ s.heap vs ws := by
 obtain ⟨ws, n, h1, h4⟩ := list_at S h hi
 exact ⟨ws, ⟨_, h1, rfl, n, rfl⟩, h4⟩
theorem ba_at (S : St C g envs env ρ lv hp s) {i : Nat} {b : List Int} (h : hp[i]? = some (.ba b)) {x dx : Addr} (hi : ρ[i]? = some (x, dx)) :
  s.heap.get? x = some { cls := .type "bytearray", data := .bytearray (u8s b) 0 } /\ InB b := (led_at S h hi).2
noncomputable def sD : V -> PyData
 | .bool b => .bool b
 | .int i => .int i
 | .str s => .str (strOf s)
 | _ => .none
theorem reads_of {ρ : Env2} {h : Heap} {v : V} {w : Value} (x : VRel ρ h v w) (e : flat v = true) : Reads h w (sD v) [] := by
 cases v with
 | none => rw [show w = _ from x]; exact .none
 | bool b => rw [show w = _ from x]; exact .bool b
 | int i => obtain ⟨t, rfl⟩ := x; exact .int i t
 | str s => obtain ⟨_, t, rfl⟩ := x; exact .str _ t
 | _ => exact Bool.noConfusion (show false = true from e)
theorem readsAll_of {ρ : Env2} {h : Heap} : ∀ {vs : List V} {ws : List Value}, VRels ρ h vs ws -> vs.all flat = true -> ReadsAll h ws (vs.map sD) []
 | [], _, x, _ => by rw [show _ = [] from x]; exact .nil
 | _ :: _, _, x, e => by
  obtain ⟨w, r, rfl, x, z⟩ := x
  obtain ⟨e1, e2⟩ := Bool.and_eq_true_iff.mp (List.all_cons ▸ e)
  exact .cons (as := []) (bs := []) (reads_of x e1) (readsAll_of z e2)
theorem strOk_of {s : List Nat} (h : InS s) : PyData.strOk (strOf s) = true := by
 unfold PyData.strOk
 rw [Array.all_eq_true']
 intro c hc
 exact decide_eq_true (h c (List.mem_toArray.mp hc))
theorem can_of {ρ : Env2} {h : Heap} {v : V} {w : Value} (x : VRel ρ h v w) : (sD v).canLay0 = true := by
 cases v with
 | str s => exact strOk_of x.1
 | _ => rfl
theorem canAll_of {ρ : Env2} {h : Heap} : ∀ {vs : List V} {ws : List Value}, VRels ρ h vs ws -> PyData.canLayAll0 (vs.map sD) = true
 | [], _, _ => rfl
 | _ :: _, _, x => by
  obtain ⟨w, r, rfl, x, z⟩ := x
  exact Bool.and_eq_true_iff.mpr ⟨can_of x, canAll_of z⟩
theorem depth_of (v : V) : (sD v).depth = 0 := by cases v <;> rfl
theorem depthAll_of : ∀ vs : List V, PyData.depthAll (vs.map sD) = 0
 | [] => rfl
 | v :: r => by
  show max (sD v).depth (PyData.depthAll (r.map sD)) = 0
  rw [depth_of, depthAll_of r]; rfl
theorem sh_of {ρ : Env2} {h : Heap} {v : V} {w : Value} (x : VRel ρ h v w) : SeqAt.shaped (sD v) = true := by
 unfold SeqAt.shaped; rw [can_of x, depth_of]; rfl
theorem shAll_of {ρ : Env2} {h : Heap} {vs : List V} {ws : List Value} (x : VRels ρ h vs ws) : SeqAt.shaped (.tuple (vs.map sD)) = true :=
 Bool.and_eq_true_iff.mpr ⟨canAll_of x, decide_eq_true (by show PyData.depthAll (vs.map sD) + 1 <= 64; rw [depthAll_of]; decide)⟩
theorem str_eqv (x y : List Nat) : (strOf x == strOf y) = (x == y) := by
 rw [Bool.eq_iff_iff, beq_iff_eq, beq_iff_eq]
 exact ⟨fun h => by cases h; rfl, fun h => h ▸ rfl⟩
theorem eqv_low {a b : V} (h : kind a <= 2) (h' : kind b <= 2) (q : kind a ≠ kind b) : PyData.eqv (sD a) (sD b) = false := by
 have no : ∀ {n : Nat}, ¬ n + 3 <= 2 := by omega
 cases a with
 | none => cases b with
  | none => exact absurd rfl q
  | int | str => rfl
  | _ => exact absurd h' no
 | int => cases b with
  | int => exact absurd rfl q
  | none | str => rfl
  | _ => exact absurd h' no
 | str => cases b with
  | str => exact absurd rfl q
  | none | int => rfl
  | _ => exact absurd h' no
 | _ => exact absurd h no
theorem kind0 {v : V} (h : kind v = 0) : v = .none := by
 cases v <;> first | rfl | exact absurd h (Nat.succ_ne_zero _)
theorem seq_case {a b : V} {r : Bool} (h : seq a b = some r) : (flat a = true /\ flat b = true /\ PyData.eqv (sD a) (sD b) = r) \/ ∃ x y, a = .bytes x /\ b = .bytes y /\ r = (x == y) := by
 by_cases q : kind a = kind b
 ·have h : seqK a b = some r := (if_pos q).symm.trans h
  cases a with
  | none => rw [kind0 q.symm]; exact .inl ⟨rfl, rfl, Option.some.inj h⟩
  | int i =>
   obtain ⟨j, e, z⟩ := Option.map_eq_some_iff.mp h
   rw [int?_eq e]; exact .inl ⟨rfl, rfl, z⟩
  | str i =>
   obtain ⟨j, e, z⟩ := Option.map_eq_some_iff.mp h
   rw [str?_eq e]; exact .inl ⟨rfl, rfl, (str_eqv i j).trans z⟩
  | bool i =>
   obtain ⟨j, e, z⟩ := Option.map_eq_some_iff.mp h
   rw [bool?_eq e]; exact .inl ⟨rfl, rfl, z⟩
  | bytes i =>
   obtain ⟨j, e, z⟩ := Option.map_eq_some_iff.mp h
   exact .inr ⟨i, j, rfl, bytes?_eq e, z.symm⟩
  | _ => exact nn h
 ·obtain ⟨⟨h1, h2⟩, e⟩ := ite_some ((if_neg q).symm.trans h)
  have low : ∀ {n : Nat}, n <= 2 -> n <= 3 := fun h => Nat.le_succ_of_le h
  exact .inl ⟨decide_eq_true (low h1), decide_eq_true (low h2), (eqv_low h1 h2 q).trans (Option.some.inj e)⟩
theorem seqAll_eqv : ∀ {as bs : List V} {r : Bool}, seqAll as bs = some r -> as.all flat = true -> bs.all flat = true -> as.length = bs.length -> PyData.eqvAll (as.map sD) (bs.map sD) = r
 | [], [], r, h, _, _, _ => by cases h; rfl
 | a :: as, b :: bs, r, h, ha, hb, hl => by
  obtain ⟨ha, ha'⟩ := Bool.and_eq_true_iff.mp (List.all_cons ▸ ha)
  obtain ⟨t, q, h⟩ := Option.bind_eq_some_iff.mp h
  show (PyData.eqv (sD a) (sD b) && PyData.eqvAll (as.map sD) (bs.map sD)) = r
  rcases seq_case q with ⟨_, _, e⟩ | ⟨x, y, rfl, _⟩
  ·rw [e]
   cases t with
   | true => rw [seqAll_eqv h ha' (Bool.and_eq_true_iff.mp (List.all_cons ▸ hb)).2 (Nat.succ.inj hl)]; rfl
   | false => cases h; rfl
  ·cases ha
 | [], _ :: _, _, _, _, _, hl => nomatch hl
 | _ :: _, [], _, _, _, _, hl => nomatch hl
theorem u8_inj {x y : Int} (hx : 0 <= x /\ x < 256) (hy : 0 <= y /\ y < 256) (h : UInt8.ofNat x.toNat = UInt8.ofNat y.toNat) : x = y := by
 have h := congrArg UInt8.toNat h
 rw [UInt8.toNat_ofNat', UInt8.toNat_ofNat'] at h
 omega
theorem u8l_inj : ∀ {b c : List Int}, InB b -> InB c -> (b.map fun i => UInt8.ofNat i.toNat) = (c.map fun i => UInt8.ofNat i.toNat) -> b = c
 | [], [], _, _, _ => rfl
 | [], _ :: _, _, _, h => nomatch h
 | _ :: _, [], _, _, h => nomatch h
 | x :: b, y :: c, hb, hc, h => by
  rw [u8_inj (hb x List.mem_cons_self) (hc y List.mem_cons_self) (List.cons.inj h).1, u8l_inj (fun z hz => hb z (List.mem_cons_of_mem _ hz)) (fun z hz => hc z (List.mem_cons_of_mem _ hz)) (List.cons.inj h).2]
theorem u8s_inj {b c : List Int} (hb : InB b) (hc : InB c) (h : u8s b = u8s c) : b = c := u8l_inj hb hc (congrArg Array.toList h)
theorem u8s_beq {b c : List Int} (hb : InB b) (hc : InB c) : ((u8s b).toList == (u8s c).toList) = (b == c) := by
 rw [Bool.eq_iff_iff, beq_iff_eq, beq_iff_eq]
 exact ⟨fun h => u8s_inj hb hc (Array.toList_inj.mp h), fun h => h ▸ rfl⟩
def EqR (C : Cx) (A : Around) (E : Value -> Shared -> Prop) (s : Shared) (va vb : Value) (r : Bool) : Prop :=
 (∀ {Q : Value -> Shared -> Prop}, Q (.bool r) s -> wpAny C.M A (compareOp .Eq va vb) Q E s) /\ ∀ {Q : Value -> Shared -> Prop}, Q (.bool !r) s -> wpAny C.M A (compareOp .NotEq va vb) Q E s
theorem eq_both {da db : PyData} {as bs : List Addr} {va vb : Value} {r : Bool} (hu : A.units + 64 < cLine) (ra : Reads s.heap va da as) (rb : Reads s.heap vb db bs) (sa : SeqAt.shaped da = true) (sb : SeqAt.shaped db = true) (e : PyData.eqv da db = r) : EqR C A E s va vb r :=
 e ▸ ⟨fun k => eq_dataH ra rb sa sb hu k, fun k => ne_dataH ra rb sa sb hu k⟩
theorem seq_both (hu : A.units + 64 < cLine) {a b : V} {va vb : Value} {r : Bool} (ha : VRel ρ s.heap a va) (hb : VRel ρ s.heap b vb) (h : seq a b = some r) : EqR C A E s va vb r := by
 rcases seq_case h with ⟨fa, fb, e⟩ | ⟨x, y, rfl, rfl, rfl⟩
 ·exact eq_both hu (reads_of ha fa) (reads_of hb fb) (sh_of ha) (sh_of hb) e
 ·obtain ⟨hx, t, rfl⟩ := ha
  obtain ⟨hy, u, rfl⟩ := hb
  rw [<- u8s_beq hx hy]
  exact ⟨fun k => eq_bytes k, fun k => ne_bytes k⟩
theorem veq_ok (S : St C g envs env ρ lv hp s) (hu : A.units + 64 < cLine) {a b : V} {va vb : Value} {r : Bool} (ha : VRel ρ s.heap a va) (hb : VRel ρ s.heap b vb) (h : veq hp a b = some r) : EqR C A E s va vb r := by
 cases a with
 | tup as => cases b with
  | tup bs =>
   obtain ⟨⟨q1, q2, q3⟩, h⟩ := ite_some h
   obtain ⟨x, ws, rfl, ⟨o, e1, e2, n, e3⟩, hs⟩ := ha
   obtain ⟨y, us, rfl, ⟨o', e1', e2', n', e3'⟩, hs'⟩ := hb
   exact eq_both hu (.tuple e1 e2 e3 (readsAll_of hs q2)) (.tuple e1' e2' e3' (readsAll_of hs' q3)) (shAll_of hs) (shAll_of hs') (seqAll_eqv h q2 q3 q1)
  | _ => exact nn h
 | ref i =>
  obtain ⟨j, ej, h⟩ := Option.bind_eq_some_iff.mp h
  obtain ⟨as, qa, h⟩ := Option.bind_eq_some_iff.mp h
  obtain ⟨bs, qb, h⟩ := Option.map_eq_some_iff.mp h
  obtain ⟨vs, hvs, ia⟩ := Option.bind_eq_some_iff.mp qa
  obtain ⟨us, hus, ib⟩ := Option.bind_eq_some_iff.mp qb
  obtain ⟨x, dx, rfl, hi⟩ := ha
  obtain ⟨y, dy, rfl, hj⟩ := hb.ref ej
  obtain ⟨ws, l1, r1⟩ := isList_at S hvs hi
  obtain ⟨ws', l2, r2⟩ := isList_at S hus hj
  rw [<- h, show (as == bs) = decide (as = bs) from Bool.eq_iff_iff.mpr (beq_iff_eq.trans (decide_eq_true_iff).symm)]
  exact ⟨fun k => ke_eq_ints l1 l2 (r1.ints ia) (r2.ints ib) hu k, fun k => ke_ne_ints l1 l2 (r1.ints ia) (r2.ints ib) hu k⟩
 | _ => exact seq_both hu ha hb h
theorem truth_ok (S : St C g envs env ρ lv hp s) {v : V} {w : Value} {t : Bool} (hv : VRel ρ s.heap v w) (h : truth v = some t) {Q : Bool -> Shared -> Prop} (k : Q t s) : wpAny C.M A (truthy w) Q E s := by
 cases v with
 | none => rw [show w = _ from hv]; cases h; exact fun _ _ _ => k
 | bool b => rw [show w = _ from hv]; cases h; exact wpAny_truthy_bool k
 | int i => obtain ⟨t, rfl⟩ := hv; cases h; exact P.truthy_int k
 | _ => cases h
end
section
variable {C : Cx} {g : Base} {envs : List Env} {env : Env} {ρ : Env2} {lv : Loc} {hp : Hp} {s : Shared} {A : Around} {E : Value -> Shared -> Prop}
theorem none_at_end (h : Heap) : h.get? h.objs.size = none := by
 cases q : h.get? h.objs.size with
 | none => rfl
 | some o => exact absurd (Heap.lt_size q) (Nat.lt_irrefl _)
theorem none_past {h : Heap} {a : Addr} (ha : h.objs.size <= a) : h.get? a = none := by
 cases q : h.get? a with
 | none => rfl
 | some o => exact absurd (Heap.lt_size q) (Nat.not_lt.mpr ha)
theorem big_le : big <= sizeLine := by rw [sizeLine_eq]; decide
theorem St.newList (S : St C g envs env ρ lv hp s) {h' : Heap} {x : Addr} {ws : List Value} {vs : List V} {n : Nat} (t : Nat) (k : ∀ b o, s.heap.get? b = some o -> h'.get? b = some o) (hx : s.heap.get? x = none)
  (ho : h'.get? x = some { cls := .type "list", data := .seq ws.toArray n }) (hs : VRels ρ s.heap vs ws) :
  OkV C g envs env ρ lv s (.ok (.ref hp.length) (hp ++ [.list vs])) (.ref x) { s with heap := h', toks := t } := by
 have st := stable_of_keeps k
 obtain ⟨R', X⟩ := S.R.alloc k (x := x) (dx := x) (o := .list vs) hx hx ⟨rfl, ws, n, ho, hs.mono (List.prefix_append _ _) st⟩
 exact ⟨_, ⟨R', S.gens, S.os⟩, X, ⟨x, x, rfl, by rw [<- S.R.len, List.getElem?_append_right (Nat.le_refl _), Nat.sub_self]; rfl⟩⟩
theorem St.newBa (S : St C g envs env ρ lv hp s) {h' : Heap} {x : Addr} {b : List Int} (t : Nat) (k : ∀ b o, s.heap.get? b = some o -> h'.get? b = some o) (hx : s.heap.get? x = none)
  (ho : h'.get? x = some { cls := .type "bytearray", data := .bytearray (u8s b) 0 }) (hs : InB b) :
  OkV C g envs env ρ lv s (.ok (.ref hp.length) (hp ++ [.ba b])) (.ref x) { s with heap := h', toks := t } := by
 obtain ⟨R', X⟩ := S.R.alloc k (x := x) (dx := x) (o := .ba b) hx hx ⟨rfl, ho, hs⟩
 exact ⟨_, ⟨R', S.gens, S.os⟩, X, ⟨x, x, rfl, by rw [<- S.R.len, List.getElem?_append_right (Nat.le_refl _), Nat.sub_self]; rfl⟩⟩
theorem strOf_app (a b : List Nat) : strOf a ++ strOf b = strOf (a ++ b) := congrArg Str.mk (List.append_toArray a b)
theorem strOf_len (a : List Nat) : (strOf a).length = a.length := List.size_toArray
theorem str_add (S : St C g envs env ρ lv hp s) {a b : List Nat} {t u : Tok} (ha : InS a) (hb : InS b) (q : a.length + b.length <= big) : wpAny C.M A (binaryOp .Add (.str (strOf a) t) (.str (strOf b) u)) (OkV C g envs env ρ lv s (.ok (.str (a ++ b)) hp)) E s := by
 have fin : ∀ (x : Str) (k : Nat), x = strOf (a ++ b) -> ∀ t', OkV C g envs env ρ lv s (.ok (.str (a ++ b)) hp) (.str x t') { s with toks := k } := fun x k e t' =>
  OkV.tok S _ (e ▸ ⟨fun c hc => (List.mem_append.mp hc).elim (ha c) (hb c), t', rfl⟩)
 have e0 : ∀ {a : List Nat}, (strOf a).length = 0 -> a = [] := fun h => List.length_eq_zero_iff.mp ((strOf_len _).symm.trans h)
 refine P.add_str ?_
 split
 ·rename_i z
  exact fin _ _ (by rw [e0 (eq_of_beq z), List.nil_append]) _
 ·split
  ·rename_i z
   exact fin _ _ (by rw [e0 (eq_of_beq z), List.append_nil]) _
  ·exact ⟨by rw [strOf_app, strOf_len, List.length_append]; exact Nat.le_trans q big_le, fin _ _ (strOf_app a b) _⟩
theorem list_add (S : St C g envs env ρ lv hp s) {i j : Nat} {vs us : List V} {x dx y dy : Addr} (qa : listAt i hp = some vs) (qb : listAt j hp = some us) (hi : ρ[i]? = some (x, dx)) (hj : ρ[j]? = some (y, dy)) (q : vs.length + us.length <= big) :
  wpAny C.M A (binaryOp .Add (.ref x) (.ref y)) (OkV C g envs env ρ lv s (.ok (.ref hp.length) (hp ++ [.list (vs ++ us)]))) E s := by
 obtain ⟨ws, n, ho, r1⟩ := list_at S qa hi
 obtain ⟨ws', n2, ho2, r2⟩ := list_at S qb hj
 refine concat_meets ⟨_, ho, rfl⟩ ⟨_, ho2, rfl⟩ noFill_list_add seq_list_add PySem.F.slot_list_add PySem.F.entry_list_add (PySem.F.args_list_add_2 _ _)
  (list_addW x y ws.toArray ws'.toArray n n2 none none #[] #[] (by rw [List.size_toArray, List.size_toArray, r1.length, r2.length]; exact Nat.le_trans q big_le)) ⟨ho, ho2, ?_⟩
 exact S.newList (ws := ws ++ ws') (n := 0) _ (fun _ _ e => Heap.get?_push_of_some _ e) (none_at_end _) (by rw [<- List.append_toArray]; exact Heap.get?_push_size s.heap rfl) (r1.append r2)
theorem isAdd_eq {op : Operator} (h : Operator.isAdd op = true) : op = .Add := by
 cases op <;> first | rfl | exact Bool.noConfusion (show false = true from h)
theorem binop_ok (S : St C g envs env ρ lv hp s) {op : Operator} {a b : V} {va vb : Value} {out : Out V} (ha : VRel ρ s.heap a va) (hb : VRel ρ s.heap b vb) (h : binop op a b hp = some out) :
  wpAny C.M A (binaryOp op va vb) (OkV C g envs env ρ lv s out) E s := by
 cases a with
 | int a =>
  obtain ⟨b, e, h⟩ := Option.bind_eq_some_iff.mp h
  obtain ⟨c, h', rfl⟩ := Option.map_eq_some_iff.mp h
  obtain ⟨t, rfl⟩ := ha
  obtain ⟨u, rfl⟩ := hb.int e
  exact binInt_ok S h'
 | str a =>
  cases b with
  | str b =>
   obtain ⟨q, h⟩ := ite_some h
   obtain ⟨i1, t, rfl⟩ := ha
   obtain ⟨i2, u, rfl⟩ := hb
   rw [isAdd_eq q.1, <- Option.some.inj h]
   exact str_add S i1 i2 q.2
  | _ => exact nn h
 | ref i =>
  obtain ⟨j, e, h⟩ := Option.bind_eq_some_iff.mp h
  obtain ⟨vs, qa, h⟩ := Option.bind_eq_some_iff.mp h
  obtain ⟨us, qb, h⟩ := Option.bind_eq_some_iff.mp h
  obtain ⟨q, h⟩ := ite_some h
  obtain ⟨x, dx, rfl, hi⟩ := ha
  obtain ⟨y, dy, rfl, hj⟩ := hb.ref e
  rw [isAdd_eq q.1, <- Option.some.inj h]
  exact list_add S qa qb hi hj q.2
 | _ => exact nn h
theorem isNone_ok {v : V} {w : Value} (x : VRel ρ s.heap v w) : plainIs w .none = true /\ (w == .none) = isNone v := by
 cases v with
 | none | bool => rw [show w = _ from x]; exact ⟨rfl, rfl⟩
 | int => obtain ⟨_, rfl⟩ := x; exact ⟨rfl, rfl⟩
 | str | bytes => obtain ⟨_, _, rfl⟩ := x; exact ⟨rfl, rfl⟩
 | range => obtain ⟨_, _, _, _, rfl, _⟩ := x; exact ⟨rfl, rfl⟩
 | tup | ref => obtain ⟨_, _, rfl, _⟩ := x; exact ⟨rfl, rfl⟩
theorem isNone_eq {v : V} (h : isNone v = true) : v = .none := by
 cases v <;> first | rfl | exact Bool.noConfusion (show false = true from h)
theorem ints_any {ws : List Value} {l : List Int} (h : IntsAre ws l) (k : Int) : ws.toArray.any (fun y => match y with | .int i _ => i == k | _ => false) = l.contains k := by
 rw [List.any_toArray]
 induction h with
 | nil => rfl
 | cons n t _ ih => rw [List.any_cons, List.contains_cons, ih]; exact congrArg (· || _) (Bool.eq_iff_iff.mpr ((beq_iff_eq).trans (eq_comm.trans beq_iff_eq.symm)))
theorem ints_eqAt {B : Around} {ws : List Value} {l : List Int} (h : IntsAre ws l) (k : Int) (t : Tok) : ∀ y, y ∈ ws.toArray -> SeqAt.EqAt B s y (.int k t) (match y with | .int i _ => i == k | _ => false) := by
 intro y hy
 rw [List.mem_toArray] at hy
 induction h with
 | nil => cases hy
 | cons n u _ ih =>
  rcases List.mem_cons.mp hy with rfl | hy
  ·exact SeqAt.EqAt.int_int _ _ _ _
  ·exact ih hy
theorem ord_ok (S : St C g envs env ρ lv hp s) {op : CmpOp} {a b : V} {va vb : Value} {out : Out V} (ha : VRel ρ s.heap a va) (hb : VRel ρ s.heap b vb) (h : ordV op a b hp = some out) : ∃ i t j u r, va = .int i t /\ vb = .int j u /\ cmpInt op i j = some r /\ OkV C g envs env ρ lv s out (.bool r) s := by
 obtain ⟨i, e1, h⟩ := Option.bind_eq_some_iff.mp h
 obtain ⟨j, e2, h⟩ := Option.bind_eq_some_iff.mp h
 obtain ⟨r, h', rfl⟩ := Option.map_eq_some_iff.mp h
 obtain ⟨t, rfl⟩ := ha.int e1
 obtain ⟨u, rfl⟩ := hb.int e2
 exact ⟨i, t, j, u, r, rfl, rfl, h', OkV.now S rfl⟩
theorem mem_ok (S : St C g envs env ρ lv hp s) {a b : V} {va vb : Value} {out : Out V} (ha : VRel ρ s.heap a va) (hb : VRel ρ s.heap b vb) {n : Bool} (h : inV n a b hp = some out) : ∃ (l : List Int) (k : Int) (t : Tok) (x : Addr) (ws : List Value), va = .int k t /\ vb = .ref x /\ s.heap.IsTuple x ws.toArray /\ IntsAre ws l /\ OkV C g envs env ρ lv s out (.bool (n != l.contains k)) s := by
 refine cps fun G_ f_ => ?_
 obtain ⟨k, e1, h⟩ := Option.bind_eq_some_iff.mp h
 obtain ⟨l, h', rfl⟩ := Option.map_eq_some_iff.mp h
 obtain ⟨vs, e2, h'⟩ := Option.bind_eq_some_iff.mp h'
 obtain ⟨t, rfl⟩ := ha.int e1
 obtain ⟨x, ws, rfl, ⟨o, d1, d2, n, d3⟩, hs⟩ := hb.tup e2
 refine f_ ?_
 clear f_ G_
 exact ⟨l, k, t, x, ws, rfl, rfl, ⟨o, d1, d2, n, d3⟩, hs.ints h', OkV.now S rfl⟩
theorem cmpop_ok (S : St C g envs env ρ lv hp s) (hu : A.units + 64 < cLine) {op : CmpOp} {a b : V} {va vb : Value} {out : Out V} (ha : VRel ρ s.heap a va) (hb : VRel ρ s.heap b vb) (h : cmpop op a b hp = some out) :
  wpAny C.M A (compareOp op va vb) (OkV C g envs env ρ lv s out) E s := by
 cases op with
 | Eq =>
  obtain ⟨r, h', rfl⟩ := Option.map_eq_some_iff.mp h
  exact (veq_ok S hu ha hb h').1 (OkV.now S rfl)
 | NotEq =>
  obtain ⟨r, h', rfl⟩ := Option.map_eq_some_iff.mp h
  exact (veq_ok S hu ha hb h').2 (OkV.now S rfl)
 | Is =>
  obtain ⟨q, h⟩ := ite_some h
  rw [isNone_eq q] at hb
  obtain ⟨h1, h2⟩ := isNone_ok (s := s) ha
  rw [show vb = _ from hb, <- Option.some.inj h]
  exact wpAny_is_plain h1 (by rw [h2]; exact OkV.now S rfl)
 | In =>
  obtain ⟨l, k, t, x, ws, rfl, rfl, hT, hi, fin⟩ := mem_ok S ha hb h
  exact SeqAt.in_tupleAt _ hT (ints_eqAt hi k t) (by rw [ints_any hi, <- Bool.false_bne (l.contains k)]; exact fin)
 | NotIn =>
  obtain ⟨l, k, t, x, ws, rfl, rfl, hT, hi, fin⟩ := mem_ok S ha hb h
  exact SeqAt.notIn_tupleAt _ hT (ints_eqAt hi k t) (by rw [ints_any hi, <- Bool.true_bne (l.contains k)]; exact fin)
 | Lt =>
  obtain ⟨i, t, j, u, r, rfl, rfl, e, fin⟩ := ord_ok S ha hb h
  exact P.lt_int (Option.some.inj e ▸ fin)
 | LtE =>
  obtain ⟨i, t, j, u, r, rfl, rfl, e, fin⟩ := ord_ok S ha hb h
  exact P.le_int (Option.some.inj e ▸ fin)
 | Gt =>
  obtain ⟨i, t, j, u, r, rfl, rfl, e, fin⟩ := ord_ok S ha hb h
  exact P.gt_int (Option.some.inj e ▸ fin)
 | GtE =>
  obtain ⟨i, t, j, u, r, rfl, rfl, e, fin⟩ := ord_ok S ha hb h
  exact P.ge_int (Option.some.inj e ▸ fin)
 | IsNot => exact nn h
end
section
variable {C : Cx} {g : Base} {envs : List Env} {env : Env} {ρ : Env2} {lv : Loc} {hp : Hp} {s : Shared} {A : Around} {E : Value -> Shared -> Prop}
theorem subTail {value slice : Expr} {o i : Value} {T id : String} {Q : Value -> Shared -> Prop} (hT : s.TypeIs o T)
  (hl : typeLookup (.type T) "__getitem__" = pure (some (.builtin id))) (h : wpAny C.M A (getItem o i) Q E s) : wpAny C.M A (subscriptTail value slice o i) Q E s := by
 unfold subscriptTail
 refine wpAny_bind ?_
 rw [getitemInPython_of_ne hT.not_modules]
 refine wpAny_bind (wpAny_specialOf hT hl ?_)
 have fin : wpAny C.M A (subscripted slice false o i) (fun r s₃ => wpAny C.M A (letTemporaryGo value o r >>= fun _ => pure r) Q E s₃) E s := by
  have h' : wpAny C.M A (getItem o i) (fun r s₃ => wpAny C.M A (letTemporaryGo value o r >>= fun _ => pure r) Q E s₃) E s :=
   wpAny_mono h (fun r s₃ h₃ => wpAny_bind (wpAny_letTemporaryGo (wpAny_pure h₃))) fun _ _ x => x
  unfold subscripted
  split
  ·exact wpAny_operating h'
  ·rename_i q; cases q
  ·exact wpAny_operating h'
 first
  | exact wpAny_pure (wpAny_bind fin)
  | exact wpAny_bind (wpAny_pure (wpAny_bind fin))
  | exact wpAny_bind fin
theorem seqIndex_of {i : Int} {n k : Nat} (h : idxOf i n = some k) : seqIndex? i n = some k /\ k < n /\ n <= huge /\ -(n : Int) <= i /\ i < n /\ (0 <= i -> k = i.toNat) /\ (i < 0 -> k = (i + n).toNat) := by
 unfold idxOf at h
 by_cases hn : huge < n
 ·rw [if_pos hn] at h; exact nn h
 rw [if_neg hn] at h
 by_cases h0 : 0 <= i
 ·rw [if_pos h0] at h
  obtain ⟨q, e⟩ := ite_some h
  obtain rfl := Option.some.inj e
  refine ⟨?_, by omega, by omega, by omega, q, fun _ => rfl, fun z => absurd h0 (Int.not_le.mpr z)⟩
  unfold seqIndex?
  rw [if_neg (Int.not_lt.mpr h0)]
  simp; omega
 ·rw [if_neg h0] at h
  obtain ⟨q, e⟩ := ite_some h
  obtain rfl := Option.some.inj e
  have h0 := Int.not_le.mp h0
  refine ⟨?_, by omega, by omega, by omega, by omega, fun z => absurd h0 (Int.not_lt.mpr z), fun _ => rfl⟩
  unfold seqIndex?
  rw [if_pos h0]
  simp; omega
theorem big_lt : (huge : Int) < 2 ^ 41 := by decide
theorem u8s_get {b : List Int} {i : Nat} {x : Int} (hb : InB b) (h : b[i]? = some x) : ((b.map fun i => UInt8.ofNat i.toNat).getD i 0).toNat = x := by
 have hx := hb x (List.mem_of_getElem? h)
 rw [List.getD_eq_getElem?_getD, List.getElem?_map, h]
 show ((UInt8.ofNat x.toNat).toNat : Int) = x
 rw [UInt8.toNat_ofNat']
 omega
def GetR (C : Cx) (A : Around) (E : Value -> Shared -> Prop) (g : Base) (envs : List Env) (env : Env) (ρ : Env2) (lv : Loc) (s : Shared) (out : Out V) (o i : Value) : Prop := ∃ T id, s.TypeIs o T /\ typeLookup (.type T) "__getitem__" = pure (some (.builtin id)) /\ wpAny C.M A (getItem o i) (OkV C g envs env ρ lv s out) E s
theorem get_list (S : St C g envs env ρ lv hp s) {a k : Nat} {i : Int} {t : Tok} {x dx : Addr} {vs : List V} {v : V} (ha : ρ[a]? = some (x, dx)) (q : listAt a hp = some vs) (hk : idxOf i vs.length = some k) (hv : vs[k]? = some v) :
  GetR C A E g envs env ρ lv s (.ok v hp) (.ref x) (.int i t) := by
 obtain ⟨e1, e2, e3, e4, e5, e6, e7⟩ := seqIndex_of hk
 obtain ⟨ws, hl, r⟩ := isList_at S q ha
 obtain ⟨w, hw, rv⟩ := r.get hv
 have hw : ws.toArray[k]? = some w := (List.getElem?_toArray ..).trans hw
 have b := big_lt
 have hz : (ws.toArray.size : Int) = vs.length := by rw [List.size_toArray, r.length]
 refine ⟨_, _, hl.typeIs, slot_list_getitem.lookup, ?_⟩
 by_cases z : 0 <= i
 ·exact wpAny_getItem_list hl z (by omega) (e6 z ▸ hw) (OkV.now S rv)
 ·exact wpAny_getItem_list_neg hl (by omega) (by rw [hz]; exact e4) (by omega) (by rw [hz, <- e7 (by omega)]; exact hw) (OkV.now S rv)
theorem subscr_get (S : St C g envs env ρ lv hp s) {o i : V} {vo vi : Value} {out : Out V} (ho : VRel ρ s.heap o vo) (hi : VRel ρ s.heap i vi) (h : subscr o i hp = some out) :
  GetR C A E g envs env ρ lv s out vo vi := by
 obtain ⟨i, ei, h⟩ := Option.bind_eq_some_iff.mp h
 obtain ⟨t, rfl⟩ := hi.int ei
 cases o with
 | ref a =>
  obtain ⟨vs, q, h⟩ := Option.bind_eq_some_iff.mp h
  obtain ⟨k, hk, h⟩ := Option.bind_eq_some_iff.mp h
  obtain ⟨v, hv, rfl⟩ := Option.map_eq_some_iff.mp h
  obtain ⟨x, dx, rfl, ha⟩ := ho
  exact get_list S ha q hk hv
 | tup vs =>
  obtain ⟨k, hk, h⟩ := Option.bind_eq_some_iff.mp h
  obtain ⟨v, hv, rfl⟩ := Option.map_eq_some_iff.mp h
  obtain ⟨a, ws, rfl, hT, hs⟩ := ho
  obtain ⟨e1, e2, e3, e4, e5, _⟩ := seqIndex_of hk
  obtain ⟨w, hw, rv⟩ := hs.get hv
  have b := big_lt
  exact ⟨_, _, hT.typeIs, PyProof.Rows.slot_tuple_getitem.lookup, getItem_tuple hT (by omega) (by omega) (by rw [List.size_toArray, hs.length]; exact e1) ((List.getElem?_toArray ..).trans hw) (OkV.now S rv)⟩
 | bytes b =>
  obtain ⟨z, h⟩ := ite_some h
  obtain ⟨k, hk, h⟩ := Option.bind_eq_some_iff.mp h
  obtain ⟨v, hv, rfl⟩ := Option.map_eq_some_iff.mp h
  obtain ⟨hb, tb, rfl⟩ := ho
  obtain ⟨e1, e2, e3, e4, e5, e6, _⟩ := seqIndex_of hk
  refine ⟨_, _, typeIs_bytes _ _ _, FB.slot_bytes_getitem.lookup, getItem_bytes (by rw [List.length_map]; exact Nat.le_trans e3 (by decide)) z (by rw [List.length_map]; exact e5) ?_⟩
  rw [u8s_get hb (e6 z ▸ hv)]
  exact OkV.tok S _ ⟨_, rfl⟩
 | _ => exact nn h
theorem subscr_ok (S : St C g envs env ρ lv hp s) {value slice : Expr} {o i : V} {vo vi : Value} {out : Out V} (ho : VRel ρ s.heap o vo) (hi : VRel ρ s.heap i vi) (h : subscr o i hp = some out) :
  wpAny C.M A (subscriptTail value slice vo vi) (OkV C g envs env ρ lv s out) E s := by
 obtain ⟨T, id, h1, h2, h3⟩ := subscr_get (A := A) (E := E) S ho hi h
 exact subTail h1 h2 h3
def BRel (ρ : Env2) (h : Heap) (v : Option V) (w : Value) : Prop := match v with
 | none => w = .none
 | some v => VRel ρ h v w
noncomputable def toI : Option Nat -> Option Int
 | none => none
 | some n => some (n : Int)
theorem part_of {ρ : Env2} {h : Heap} {v : Option V} {w : Value} {k : Option Nat} (x : BRel ρ h v w) (e : bound v = some k) : IsPart w (toI k) := by
 cases v with
 | none => rw [show w = _ from x, <- Option.some.inj e]; exact .none
 | some v =>
  obtain ⟨i, ei, e⟩ := Option.bind_eq_some_iff.mp e
  obtain ⟨q, e⟩ := ite_some e
  obtain ⟨t, rfl⟩ := VRel.int x ei
  rw [<- Option.some.inj e]
  show IsPart _ (some ((i.toNat : Nat) : Int))
  rw [Int.toNat_of_nonneg q.1]
  exact .int i t
theorem pick_cut {α : Type} (l : List α) (lo hi : Option Nat) : (l.drop ((toI lo).elim 0 (clipAt l.length))).take ((toI hi).elim l.length (clipAt l.length) - (toI lo).elim 0 (clipAt l.length)) = cut l lo hi := by
 unfold cut
 cases lo with
 | none => cases hi with
  | none => simp [toI]
  | some b =>
   simp only [toI, Option.elim, clipAt_nat, List.drop_zero, Nat.sub_zero, Option.getD_none]
   rcases Nat.le_total b l.length with q | q
   ·rw [Nat.min_eq_left q]
   ·rw [Nat.min_eq_right q, List.take_of_length_le (Nat.le_refl _), List.take_of_length_le q]
 | some a => cases hi with
  | none =>
   simp only [toI, Option.elim, clipAt_nat, Option.getD_some]
   rcases Nat.le_total a l.length with q | q
   ·rw [Nat.min_eq_left q, List.take_of_length_le (by simp)]
   ·rw [Nat.min_eq_right q, List.drop_of_length_le (Nat.le_refl _), List.drop_of_length_le q]; simp
  | some b =>
   simp only [toI, Option.elim, clipAt_nat, Option.getD_some]
   rw [List.drop_take]
   rcases Nat.le_total a l.length with q | q
   ·rw [Nat.min_eq_left q]
    rcases Nat.le_total b l.length with q' | q'
    ·rw [Nat.min_eq_left q']
    ·rw [Nat.min_eq_right q', List.take_of_length_le (by simp), List.take_of_length_le (by simp; omega)]
   ·rw [Nat.min_eq_right q, List.drop_of_length_le (Nat.le_refl _), List.drop_of_length_le q]; simp
theorem adjust_upto (b n : Nat) (hb : b < n) : Builtin.Slice.sliceAdjust none (some (b : Int)) 1 (n : Int) = (0, (b : Int)) := by
 unfold Builtin.Slice.sliceAdjust
 have h1 : ¬ ((1 : Int) < 0) := by omega
 have h2 : ¬ ((b : Int) < 0) := by omega
 simp only [h1, h2, if_false]
 congr 1
 omega
theorem places_upto (b : Nat) : Builtin.Slice.slicePlaces 0 (b : Int) 1 = b := by
 unfold Builtin.Slice.slicePlaces
 have h1 : (1 : Int) > 0 := by omega
 simp only [h1, if_true, Int.ediv_one]
 split <;> omega
theorem sliceApplied_upto {sl : Addr} {b n : Nat} {u : Tok} {Q : Int × Int × Nat -> Shared -> Prop} (hs : s.heap.IsSliceOf sl .none (.int b u) .none) (hb : b < n) (h : Q (0, 1, b) s) :
  wpAny C.M A (Builtin.Slice.sliceApplied (.ref sl) (pure (n : Int))) Q E s := by
 obtain ⟨os, hos, hcs, hds⟩ := id hs
 unfold Builtin.Slice.sliceApplied Builtin.Slice.sliceFields
 refine wpAny_bind (wpAny_bind (wpAny_field hos hds (x := .none) rfl (wpAny_bind (wpAny_field hos hds (x := .int b u) rfl (wpAny_bind (wpAny_field hos hds (x := .none) rfl (wpAny_pure ?_)))))))
 refine wpAny_bind (slicePart_none ?_)
 show wpAny _ _ (if ((1 : Int) == 0) = true then _ else _) _ _ s
 rw [if_neg (by decide)]
 refine wpAny_bind (slicePart_none (wpAny_bind (slicePart_int (wpAny_bind (wpAny_pure ?_)))))
 show wpAny _ _ (match Builtin.Slice.sliceAdjust none (some (b : Int)) 1 (n : Int) with | (lo, hi) => pure (lo, (1 : Int), Builtin.Slice.slicePlaces lo hi 1)) _ _ s
 rw [adjust_upto b n hb]
 show wpAny _ _ (pure ((0 : Int), (1 : Int), Builtin.Slice.slicePlaces 0 (b : Int) 1)) _ _ s
 rw [places_upto b]
 exact wpAny_pure h
theorem pick_upto (xs : List Value) (b : Nat) (hb : b < xs.length) : ((List.range b).filterMap fun (k : Nat) => xs.toArray[((0 : Int) + (k : Int) * 1).toNat]?) = xs.take b := by
 have e : (fun (k : Nat) => xs.toArray[((0 : Int) + (k : Int) * 1).toNat]?) = fun k => xs[k]? := by
  funext k
  have : ((0 : Int) + (k : Int) * 1).toNat = k := by omega
  rw [this]; simp
 rw [e]
 induction b with
 | zero => simp
 | succ b ih =>
  rw [List.range_succ, List.filterMap_append, ih (by omega), List.take_add_one]
  simp [List.getElem?_eq_getElem (show b < xs.length by omega)]
theorem getItem_tuple_upto {t sl : Addr} {ws : List Value} {b : Nat} {u : Tok} {Q : Value -> Shared -> Prop} (ht : IsTup s.heap t ws.toArray) (hs : s.heap.IsSliceOf sl .none (.int b u) .none) (hb : b < ws.length) (hsz : ws.length <= big)
  (h : Q (.ref s.heap.objs.size) { s with heap := s.heap.push { cls := .type "tuple", data := .seq (ws.take b).toArray } }) : wpAny C.M A (getItem (.ref t) (.ref sl)) Q E s := by
 have hz : sizeOk (.seq (ws.take b).toArray) := by
  show (ws.take b).toArray.size <= sizeLine
  rw [List.size_toArray, List.length_take]
  have := big_le
  omega
 obtain ⟨os, hos, hcs, hds⟩ := id hs
 have hTs : s.TypeIs (.ref sl) "slice" := ⟨os, hos, hcs⟩
 unfold getItem
 try with_reducible refine wpAny_holding ?_
 first | refine wpAny_bind (wpAny_pure ?_) | skip
 refine wpAny_bind (wpAny_sequenceKey ht.typeIs (by decide) ?_)
 refine wpAny_bind (wpAny_callSpecial?_slot (name := Str.ofString "__getitem__") ht.typeIs PyProof.Rows.slot_tuple_getitem
  (wpAny_call_entry PyProof.Rows.slot_tuple_getitem ht.typeIs PyProof.Rows.entry_tuple_getitem ?_ (args_tuple_getitem _ _)))
 show wpAny _ _ (Builtin.Tuple.tupleItemsOf (.ref t) >>= _) _ _ s
 refine wpAny_bind (tupleItemsOf_ ht ?_)
 refine wpAny_bind (wpAny_typeOf hTs ?_)
 rw [if_pos (by decide)]
 have e : ws.toArray.size = ws.length := by simp
 rw [e]
 refine wpAny_bind (sliceApplied_upto hs hb ?_)
 have hno : ¬ (((0 : Int) == 0 && (1 : Int) == 1 && b == ws.length) = true) := by
  have : (b == ws.length) = false := beq_eq_false_iff_ne.mpr (by omega)
  rw [this]; simp
 show wpAny _ _ (if ((0 : Int) == 0 && (1 : Int) == 1 && b == ws.length) = true then _ else _) _ _ s
 rw [if_neg hno, pick_upto ws b hb]
 first
  | exact wpAny_bind (m := Builtin.Tuple.tupleExact _) (wpAny_newObj_type (wpAny_pure ⟨_, rfl, wpAny_pure h⟩) hz)
  | exact wpAny_bind (m := Builtin.Tuple.tupleExact _) (wpAny_newObj_type (wpAny_bind (wpAny_pure (wpAny_pure ⟨_, rfl, wpAny_pure h⟩))) hz)
  | exact wpAny_bind (wpAny_bind (m := Builtin.Tuple.tupleExact _) (wpAny_newObj_type (wpAny_pure (wpAny_pure ⟨_, rfl, wpAny_pure h⟩)) hz))
  | exact wpAny_bind (wpAny_bind (m := Builtin.Tuple.tupleExact _) (wpAny_newObj_type (wpAny_pure ⟨_, rfl, wpAny_pure h⟩) hz))
theorem u8s_cut (b : List Int) (lo hi : Option Nat) : KBy.picked (u8s b) (toI lo) (toI hi) = u8s (cut b lo hi) := by
 have := pick_cut (b.map fun i => UInt8.ofNat i.toNat) lo hi
 rw [KBc.picked_eq]
 unfold u8s
 simp only [List.size_toArray, this]
 unfold cut
 cases hi <;> simp [List.map_drop, List.map_take]
theorem cut_mem {α : Type} {l : List α} {lo hi : Option Nat} {x : α} (h : x ∈ cut l lo hi) : x ∈ l := by
 unfold cut at h
 have := List.mem_of_mem_drop h
 cases hi with
 | none => exact this
 | some k => exact List.mem_of_mem_take this
theorem VRels.cut {ρ : Env2} {h : Heap} {vs : List V} {ws : List Value} (r : VRels ρ h vs ws) (lo hi : Option Nat) : VRels ρ h (Mine.cut vs lo hi) (Mine.cut ws lo hi) := by
 unfold Mine.cut
 cases hi with
 | none => exact r.drop _
 | some k => exact (r.take k).drop _
noncomputable abbrev slObj (vl vh : Value) : Obj := { cls := .type "slice", data := .fields #[vl, vh, .none] }
theorem slic_list (S : St C g envs env ρ lv hp s) {value slice : Expr} {a : Nat} {x dx : Addr} {vs : List V} {lo hi : Option Nat} {vl vh : Value} (pl : IsPart vl (toI lo)) (ph : IsPart vh (toI hi)) (ha : ρ[a]? = some (x, dx)) (q : listAt a hp = some vs) (z : vs.length <= big) :
  wpAny C.M A (subscriptTail value slice (.ref x) (.ref s.heap.objs.size)) (OkV C g envs env ρ lv s (.ok (.ref hp.length) (hp ++ [.list (cut vs lo hi)]))) E { s with heap := s.heap.push (slObj vl vh) } := by
 obtain ⟨ws, hL, r⟩ := isList_at S q ha
 have hL' := hL.push (slObj vl vh)
 refine subTail (s := { s with heap := _ }) hL'.typeIs slot_list_getitem.lookup (wpAny_getItem_list_slice hL' (Heap.IsSliceOf.new ..) pl ph .none (by intro z; cases z) ?_ (by rw [List.size_toArray, r.length]; exact Nat.le_trans z big_le))
 have e : slicePick ws.toArray (toI lo) (toI hi) none = (cut ws lo hi).toArray := by
  rw [slicePick_plain]; simp only [List.size_toArray]; rw [pick_cut]
 rw [e]
 show OkV C g envs env ρ lv s _ (.ref (s.heap.push _).objs.size) _
 rw [Heap.size_push]
 refine S.newList (n := 0) s.toks (fun _ _ e => Heap.get?_push_of_some _ (Heap.get?_push_of_some _ e)) (none_past (Nat.le_succ _)) ?_ (r.cut lo hi)
 rw [<- Heap.size_push s.heap (slObj vl vh)]; exact Heap.get?_push_size _ rfl
theorem slic_tup (S : St C g envs env ρ lv hp s) {value slice : Expr} {a : Addr} {ws : List Value} {vs : List V} {k : Nat} {vh : Value} (ph : IsPart vh (toI (some k))) (ha : IsTup s.heap a ws.toArray) (hs : VRels ρ s.heap vs ws) (z : k < vs.length /\ vs.length <= big) :
  wpAny C.M A (subscriptTail value slice (.ref a) (.ref s.heap.objs.size)) (OkV C g envs env ρ lv s (.ok (.tup (vs.take k)) hp)) E { s with heap := s.heap.push (slObj .none vh) } := by
 have ph : IsPart vh (some (k : Int)) := ph
 cases ph with
 | int _ u =>
  have pk : ∀ b ob, s.heap.get? b = some ob -> (s.heap.push (slObj .none (.int k u))).get? b = some ob := fun _ _ e => Heap.get?_push_of_some _ e
  have hT : IsTup (s.heap.push (slObj .none (.int k u))) a ws.toArray := ha.elim fun o e => ⟨o, pk _ _ e.1, e.2⟩
  refine subTail (s := { s with heap := _ }) hT.typeIs PyProof.Rows.slot_tuple_getitem.lookup (getItem_tuple_upto hT (Heap.IsSliceOf.new ..) (by rw [hs.length]; exact z.1) (by rw [hs.length]; exact z.2) ?_)
  have k2 : ∀ b ob, s.heap.get? b = some ob -> ((s.heap.push (slObj .none (.int k u))).push { cls := .type "tuple", data := .seq (ws.take k).toArray }).get? b = some ob := fun _ _ e => Heap.get?_push_of_some _ (pk _ _ e)
  exact ⟨_, S.grow k2 _, ⟨List.prefix_refl _, stable_of_keeps k2⟩, _, ws.take k, rfl, ⟨_, Heap.get?_push_size _ rfl, rfl, 0, rfl⟩, (hs.take k).mono (List.prefix_refl _) (stable_of_keeps k2)⟩
theorem slic_ok (S : St C g envs env ρ lv hp s) {value slice : Expr} {o : V} {lo hi : Option V} {vo vl vh : Value} {out : Out V} (ho : VRel ρ s.heap o vo) (hl : BRel ρ s.heap lo vl) (hh : BRel ρ s.heap hi vh) (h : slic o lo hi hp = some out) :
  wpAny C.M A (subscriptTail value slice vo (.ref s.heap.objs.size)) (OkV C g envs env ρ lv s out) E { s with heap := s.heap.push (slObj vl vh) } := by
 obtain ⟨lo', q1, h⟩ := Option.bind_eq_some_iff.mp h
 obtain ⟨hi', q2, h⟩ := Option.bind_eq_some_iff.mp h
 have pl := part_of hl q1
 have ph := part_of hh q2
 clear hl hh q1 q2
 cases o with
 | ref a =>
  obtain ⟨vs, q, h⟩ := Option.bind_eq_some_iff.mp h
  obtain ⟨z, h⟩ := ite_some h
  obtain ⟨x, dx, rfl, ha⟩ := ho
  rw [<- Option.some.inj h]
  exact slic_list S pl ph ha q z
 | tup vs =>
  cases lo' with
  | some _ => exact nn h
  | none =>
   obtain ⟨k, rfl, h⟩ := Option.bind_eq_some_iff.mp h
   obtain ⟨z, h⟩ := ite_some h
   obtain ⟨a, ws, rfl, ha, hs⟩ := ho
   have pl : IsPart vl none := pl
   cases pl
   rw [<- Option.some.inj h]
   exact slic_tup S ph ha hs z
 | bytes b =>
  obtain ⟨z, h⟩ := ite_some h
  obtain ⟨hb, t, rfl⟩ := ho
  rw [<- Option.some.inj h]
  have pk : ∀ b ob, s.heap.get? b = some ob -> (s.heap.push (slObj vl vh)).get? b = some ob := fun _ _ e => Heap.get?_push_of_some _ e
  refine subTail (s := { s with heap := _ }) (typeIs_bytes _ _ _) FB.slot_bytes_getitem.lookup (getItem_meets (typeIs_bytes _ _ _) (by decide) FB.slot_bytes_getitem FB.entry_bytes_getitem (FB.args_bytes_getitem_2 _ _) (KBc.meets_slice2 (u8s b) t _ pl ph)
   ⟨Heap.IsSliceOf.new _ _ _ _, ?_, fun t' k => ?_⟩)
  ·refine Nat.le_trans (KBc.size_picked_le _ _ _) ?_
   show (b.map _).toArray.size <= _
   rw [List.size_toArray, List.length_map]
   exact Nat.le_trans z big_le
  ·rw [u8s_cut]
   exact ⟨_, S.grow pk _, ⟨List.prefix_refl _, stable_of_keeps pk⟩, fun y hy => hb y (cut_mem hy), _, rfl⟩
 | _ => exact nn h
end
end Mine
namespace Mine
open PySem PySem.W PyProof.Rows
open Sem (wp)
def holdIds : List String := ["bytearray.__contains__", "bytearray.__mod__", "bytearray.__rmod__", "_struct.pack_into.held", "bytearray.find.held"]
def calmId (id : String) : Bool := !(Builtin.Bytes.decodersThatHold.contains id) && !(holdIds.contains id)
def calm : Code -> Bool
 | .builtin id _ => calmId id
 | _ => true
def calmL (l : List (Code × Pos)) : Prop := ∀ x ∈ l, calm x.1 = true
def Calm (Γ : Ctx) : Prop := calm Γ.code = true /\ calmL Γ.below
def wpX {α : Type} (M : Model) (A : Around) (t : Sem α) (Q : α -> Shared -> Prop) (E : Value -> Shared -> Prop) (s : Shared) : Prop :=
 ∀ Γ p, Γ.In A -> Calm Γ -> wp M Γ t (fun a _ s' => Q a s') (fun e _ s' => E e s') p s
def codeX (M : Model) (A : Around) (c : Code) (R : Result -> Shared -> Prop) (s : Shared) : Prop :=
 ∀ Γ p, Γ.code = c -> Γ.Below A -> calmL Γ.below -> wpCode M Γ R p s
section
variable {α β : Type} {M : Model} {A : Around} {E : Value -> Shared -> Prop} {s : Shared}
theorem wpX_any {t : Sem α} {Q : α -> Shared -> Prop} (h : wpAny M A t Q E s) : wpX M A t Q E s := fun Γ p hΓ _ => h Γ p hΓ
theorem X_pure {a : α} {Q : α -> Shared -> Prop} (h : Q a s) : wpX M A (pure a) Q E s := fun _ _ _ _ => h
theorem X_mono {t : Sem α} {Q Q' : α -> Shared -> Prop} {E' : Value -> Shared -> Prop} (h : wpX M A t Q E s) (hQ : ∀ a s, Q a s -> Q' a s) (hE : ∀ e s, E e s -> E' e s) : wpX M A t Q' E' s :=
 fun Γ p hΓ hX => Sem.wp_mono M Γ t (fun a _ s => hQ a s) (fun e _ s => hE e s) p s (h Γ p hΓ hX)
theorem X_bind {m : Sem α} {f : α -> Sem β} {Q : β -> Shared -> Prop} (h : wpX M A m (fun a s' => wpX M A (f a) Q E s') E s) : wpX M A (m >>= f) Q E s := fun Γ p hΓ hX => by
 rw [Sem.wp_bind']
 exact Sem.wp_mono M Γ m (fun a p' s' h' => h' Γ p' hΓ hX) (fun _ _ _ h' => h') p s (h Γ p hΓ hX)
theorem X_seq {m : Sem α} {f : α -> Sem β} {Q' : α -> Shared -> Prop} {Q : β -> Shared -> Prop} (h : wpX M A m Q' E s) (k : ∀ a s', Q' a s' -> wpX M A (f a) Q E s') : wpX M A (m >>= f) Q E s :=
 X_bind (X_mono h k fun _ _ x => x)
theorem X_onRaise {m : Sem α} {k : Value -> Sem Unit} {Q : α -> Shared -> Prop} (h : wpX M A m Q (fun e s' => wpX M A (k e) (fun _ s'' => E e s'') E s') s) : wpX M A (m.onRaise k) Q E s := fun Γ p hΓ hX => by
 rw [Sem.wp_onRaise]
 exact Sem.wp_mono M Γ m (fun _ _ _ h' => h') (fun e p' s' h' => h' Γ p' hΓ hX) p s (h Γ p hΓ hX)
theorem X_attempt {m : Sem α} {Q : Except Value α -> Shared -> Prop} (h : wpX M A m (fun a => Q (.ok a)) (fun e => Q (.error e)) s) : wpX M A m.attempt Q E s := fun Γ p hΓ hX => by rw [Sem.wp_attempt]; exact h Γ p hΓ hX
theorem X_holding {vs : List Value} {m : Sem α} {Q : α -> Shared -> Prop} (h : wpX M A m Q E s) : wpX M A (holding vs m) Q E s := fun Γ p hΓ hX => by rw [Sem.wp_holding]; exact h Γ p hΓ hX
theorem X_keep {vs : List Value} {m : Sem α} {Q : α -> Shared -> Prop} (h : wpX M A m Q E s) : wpX M A (m.keep vs) Q E s := fun Γ p hΓ hX => by rw [Sem.wp_keep]; exact h Γ p hΓ hX
theorem X_operate {vs : List Value} {m : Sem Value} {Q : Value -> Shared -> Prop} (h : wpX M A m Q E s) : wpX M A (operate vs m) Q E s := fun Γ p hΓ hX => by rw [Sem.wp_operate]; exact h Γ p hΓ hX
theorem X_release {vs l : List Value} {Q : Unit -> Shared -> Prop} (h : Q () s) : wpX M A (release vs l) Q E s := fun Γ p _ _ => by rw [Sem.wp_release]; exact h
theorem X_standAt {pos : Pos} {Q : Unit -> Shared -> Prop} (h : Q () s) : wpX M A (standAt pos) Q E s := fun _ _ _ _ => h
theorem X_point {Q : Unit -> Shared -> Prop} (h : Q () s) : wpX M A point Q E s := fun _ _ _ _ => h
theorem X_rule {t : String} {Q : Unit -> Shared -> Prop} (h : Q () s) : wpX M A (rule t) Q E s := fun _ _ _ _ => h
theorem X_ask {Q : Setting -> Shared -> Prop} (h : Q ⟨M.prog, M.w.params⟩ s) : wpX M A ask Q E s := fun _ _ _ _ => h
theorem X_at {pos : Pos} {t : Unit -> Sem α} {Q : α -> Shared -> Prop} (h : wpX M A (t ()) Q E s) : wpX M A (standAt pos >>= t) Q E s := X_bind (X_standAt h)
theorem X_eq {m : Sem α} {a : α} {Q : α -> Shared -> Prop} (e : m = pure a) (h : Q a s) : wpX M A m Q E s := by rw [e]; exact X_pure h
theorem X_if_false {c : Bool} {a b : Sem α} {Q : α -> Shared -> Prop} (hc : c = false) (h : wpX M A b Q E s) : wpX M A (if c = true then a else b) Q E s := by
 subst hc; exact h
theorem X_if_true {c : Bool} {a b : Sem α} {Q : α -> Shared -> Prop} (hc : c = true) (h : wpX M A a Q E s) : wpX M A (if c = true then a else b) Q E s := by
 subst hc; exact h
theorem X_storeName {env : Env} {x : Str} {v : Value} {Q : Unit -> Shared -> Prop} (h : wpX M A (storeName env x v) Q E s) : wpX M A (bindName env x v) Q E s :=
 fun Γ p hΓ hX => by rw [Sem.wp_bindName]; exact h Γ p hΓ hX
theorem codeX_mono {c : Code} {R R' : Result -> Shared -> Prop} (h : codeX M A c R s) (hR : ∀ r s, R r s -> R' r s) : codeX M A c R' s :=
 fun Γ p hc hΓ hX => wpCode_mono hR (h Γ p hc hΓ hX)
theorem calm_enter {Γ : Ctx} {p : Pos} (hX : Calm Γ) : calmL ((Γ.code, p) :: Γ.below) := fun x hx => by
 rcases List.mem_cons.mp hx with rfl | hx
 ·exact hX.1
 ·exact hX.2 x hx
theorem X_run {c : Code} {h : Option Value} {Q : Flow -> Shared -> Prop} (hc : codeX M (A.mark h) c (fun r s' => match r with | .ok f => Q f s' | .error e => E e s') s) (hnb : h ≠ some byPass := by intro x; cases x) :
  wpX M A (run c h) Q E s := fun Γ p hΓ hX => by rw [Sem.wp_run]; exact hc _ p rfl (hΓ.enter c h p hnb) (calm_enter hX)
theorem X_runValue {c : Code} {Q : Value -> Shared -> Prop} (hc : codeX M A c (fun r s' => match r with | .ok (.ret v) => Q v s' | .ok _ => False | .error e => E e s') s) : wpX M A (runValue c) Q E s :=
 fun Γ p hΓ hX => by rw [Sem.wp_runValue]; exact hc _ p rfl (hΓ.enter c none p (by intro x; cases x)) (calm_enter hX)
theorem X_call {f : Value} {pos : List Value} {kw : List (Str × Value)} {Q : Value -> Shared -> Prop}
  (hc : codeX M A (.call f ⟨pos, kw⟩) (fun r s' => match r with | .ok (.ret v) => Q v s' | .ok _ => False | .error e => E e s') s) : wpX M A (call f pos kw) Q E s := X_runValue hc
theorem codeX_of_tree {c : Code} {R : Result -> Shared -> Prop} (hq : calm c = true)
  (h : wpX M (A.under c) (M.den c) (fun fin s' => match fin with | .done f => R (.ok f) s' | .again c' => c'.quiet = true /\ codeX M A c' R s') (fun e s' => R (.error e) s') s) : codeX M A c R s := fun Γ p hc hΓ hX => by
 rw [wpCode_iff_wp, hc]
 refine Sem.wp_mono M Γ _ (fun fin p' s' h' => ?_) (fun _ _ _ h' => h') p s (h Γ p (hc ▸ hΓ.in) ⟨by rw [hc]; exact hq, hX⟩)
 cases fin with
 | done f => exact h'
 | again c' => exact ⟨h'.1, h'.2 (Γ.goto c') p' rfl (hΓ.goto c') hX⟩
theorem codeX_loop {c : Code} {R : Result -> Shared -> Prop} (hl : calm c = true) (hq : c.quiet = true) (I : Nat -> Shared -> Prop)
  (turn : ∀ n s, I n s -> wpX M (A.under c) (M.den c)
   (fun fin s' => match fin with | .done f => R (.ok f) s' | .again c' => c' = c /\ ∃ m, m < n /\ I m s') (fun e s' => R (.error e) s') s)
  (n : Nat) (h : I n s) : codeX M A c R s := by
 induction n using Nat.strongRecOn generalizing s with
 | ind n ih =>
  refine codeX_of_tree hl (X_mono (turn n s h) (fun fin s' hf => ?_) fun _ _ h' => h')
  cases fin with
  | done f => exact hf
  | again c' => obtain ⟨rfl, m, hm, hI⟩ := hf; exact ⟨hq, ih m hm hI⟩
theorem calm_ne {id : String} (h : calmId id = true) : Builtin.Bytes.decodersThatHold.contains id = false /\ ∀ s ∈ holdIds, id ≠ s := by
 obtain ⟨h1, h2⟩ := Bool.and_eq_true_iff.mp h
 exact ⟨(Bool.not_eq_true' _).mp h1, fun s hs e => Bool.false_ne_true (((Bool.not_eq_true' _).mp h2).symm.trans (List.contains_iff_mem.mpr (e ▸ hs)))⟩
theorem X_exported {v : Value} {Q : Bool -> Shared -> Prop} (h : Q false s) : wpX M A (Builtin.Bytes.exported v) Q E s := fun Γ p _ hX => by
 have hall := calm_enter (p := p) hX
 unfold Builtin.Bytes.exported
 show Q (List.any ((Γ.code, p) :: Γ.below) _) s
 rw [List.any_eq_false.mpr ?_]
 ·exact h
 ·rintro ⟨c, p⟩ hx
  refine Bool.eq_false_iff.mp ?_
  have hc := hall _ hx
  clear hx hall hX
  cases c with
  | builtin id args =>
   obtain ⟨hd, hn⟩ := calm_ne hc
   delta Builtin.Bytes.exported.match_1
   refine (dif_neg (hn _ (.head _))).trans ?_
   refine (dif_neg (hn _ (.tail _ (.head _)))).trans ?_
   refine (dif_neg (hn _ (.tail _ (.tail _ (.head _))))).trans ?_
   refine (dif_neg (hn _ (.tail _ (.tail _ (.tail _ (.head _)))))).trans ?_
   refine (dif_neg (hn _ (.tail _ (.tail _ (.tail _ (.tail _ (.head _))))))).trans ?_
   obtain ⟨pos, kw⟩ := args
   cases pos with
   | nil => rfl
   | cons u r =>
    show (Builtin.Bytes.sameRef u v && Builtin.Bytes.decodersThatHold.contains id) = false
    rw [hd, Bool.and_false]
  | _ => rfl
end
end Mine
namespace Mine
open PySem PySem.W PyProof.Rows
namespace FBa
theorem plainAttrs : PlainAttrs "bytearray" :=
 ⟨⟨"bytearray.__getattribute__", by rw [typeLookup_type, builtinLookup_eq_fast]; kernel_rfl, by decide +kernel⟩, by rw [typeLookup_type, builtinLookup_eq_fast]; kernel_rfl⟩
theorem slot_append : Slot "bytearray" "append" "bytearray.append" :=
 .of (owner := "bytearray") (n := "append") (by rw [typeLookup_type, builtinLookup_eq_fast]; kernel_rfl) (by decide +kernel) (by decide +kernel) (by decide +kernel)
  (by first | exact .inl (by decide +kernel) | exact .inr (by decide +kernel)) (by rw [isSubtype_type]; kernel_rfl)
theorem slot_extend : Slot "bytearray" "extend" "bytearray.extend" :=
 .of (owner := "bytearray") (n := "extend") (by rw [typeLookup_type, builtinLookup_eq_fast]; kernel_rfl) (by decide +kernel) (by decide +kernel) (by decide +kernel)
  (by first | exact .inl (by decide +kernel) | exact .inr (by decide +kernel)) (by rw [isSubtype_type]; kernel_rfl)
theorem slot_len : Slot "bytearray" "__len__" "bytearray.__len__" :=
 .of (owner := "bytearray") (n := "__len__") (by rw [typeLookup_type, builtinLookup_eq_fast]; kernel_rfl) (by decide +kernel) (by decide +kernel) (by decide +kernel)
  (by first | exact .inl (by decide +kernel) | exact .inr (by decide +kernel)) (by rw [isSubtype_type]; kernel_rfl)
theorem slot_init : Slot "bytearray" "__init__" "bytearray.__init__" :=
 .of (owner := "bytearray") (n := "__init__") (by rw [typeLookup_type, builtinLookup_eq_fast]; kernel_rfl) (by decide +kernel) (by decide +kernel) (by decide +kernel)
  (by first | exact .inl (by decide +kernel) | exact .inr (by decide +kernel)) (by rw [isSubtype_type]; kernel_rfl)
theorem type_append : typeOf (.builtin "bytearray.append") = pure (.type "method_descriptor") := by show builtinType _ = _; rw [builtinType_eq_fast]; kernel_rfl
theorem type_extend : typeOf (.builtin "bytearray.extend") = pure (.type "method_descriptor") := by show builtinType _ = _; rw [builtinType_eq_fast]; kernel_rfl
theorem entry_append : entryFor table "bytearray.append" = some Builtin.«bytearray.append» := entryFor_of_tree (by kernel_rfl)
theorem entry_extend : entryFor table "bytearray.extend" = some Builtin.«bytearray.extend» := entryFor_of_tree (by kernel_rfl)
theorem entry_loop : entryFor table "bytearray.extend.loop" = some Builtin.«bytearray.extend.loop» := by first | exact entryFor_of_tree (by kernel_rfl) | exact entryFor_of_fast (by kernel_rfl)
theorem entry_end : entryFor table "bytearray.extend.end" = some Builtin.«bytearray.extend.end» := by first | exact entryFor_of_tree (by kernel_rfl) | exact entryFor_of_fast (by kernel_rfl)
theorem entry_len : entryFor table "bytearray.__len__" = some Builtin.«bytearray.__len__» := entryFor_of_tree (by kernel_rfl)
theorem entry_init : entryFor table "bytearray.__init__" = some Builtin.«bytearray.__init__» := entryFor_of_tree (by kernel_rfl)
theorem owner : Manifest.owners.lookup (String.ofList ['y', 'a', 'r', 'r', 'a', 'e', 't', 'y', 'b'].reverse) = some Manifest.sig_bytearray := by kernel_rfl
theorem args_append (a b : Value) : argsOk "bytearray.append" ⟨[a, b], []⟩ := by
 unfold argsOk; rw [signature?_of (id := "bytearray.append") (n := ['d', 'n', 'e', 'p', 'p', 'a']) (o := ['y', 'a', 'r', 'r', 'a', 'e', 't', 'y', 'b']) (by kernel_rfl) owner]; kernel_rfl
theorem args_extend (a b : Value) : argsOk "bytearray.extend" ⟨[a, b], []⟩ := by
 unfold argsOk; rw [signature?_of (id := "bytearray.extend") (n := ['d', 'n', 'e', 't', 'x', 'e']) (o := ['y', 'a', 'r', 'r', 'a', 'e', 't', 'y', 'b']) (by kernel_rfl) owner]; kernel_rfl
theorem args_len (a : Value) : argsOk "bytearray.__len__" ⟨[a], []⟩ := by
 unfold argsOk; rw [signature?_of (id := "bytearray.__len__") (n := ['_', '_', 'n', 'e', 'l', '_', '_']) (o := ['y', 'a', 'r', 'r', 'a', 'e', 't', 'y', 'b']) (by kernel_rfl) owner]; kernel_rfl
theorem args_init (a : Value) : argsOk "bytearray.__init__" ⟨[a], []⟩ := by
 unfold argsOk; rw [signature?_of (id := "bytearray.__init__") (n := ['_', '_', 't', 'i', 'n', 'i', '_', '_']) (o := ['y', 'a', 'r', 'r', 'a', 'e', 't', 'y', 'b']) (by kernel_rfl) owner]; kernel_rfl
theorem mro : mroOf (.type "bytearray") = pure [.type "bytearray", .type "object"] := by rw [mroOf_type]; kernel_rfl
theorem lookup_new : typeLookup (.type "bytearray") "__new__" = pure (some (.builtin "bytearray.__new__")) := by rw [typeLookup_type, builtinLookup_eq_fast]; kernel_rfl
theorem called : TypeCalled "bytearray" "bytearray.__new__" "bytearray.__init__" :=
 ⟨by decide +kernel, by decide +kernel, ⟨_, _, mro⟩, madeBy_type mro lookup_new (by decide +kernel), by decide +kernel, by rw [isSubtype_type]; kernel_rfl, slot_init⟩
theorem typeCall : checkTypeCall "bytearray" ⟨[], []⟩ = pure () := by kernel_rfl
theorem newCall : checkBuiltinCall "bytearray.__new__" ⟨[.type "bytearray"], []⟩ = pure () := by kernel_rfl
theorem entry_new : entryFor table "bytearray.__new__" = some Builtin.«list.__new__» := entryFor_alias (id' := "list.__new__") (by rw [fastTable_eq_tree]; kernel_rfl) (by decide +kernel) (by decide +kernel) (by rw [fastTable_eq_tree]; kernel_rfl)
theorem plain_new : plainId "bytearray.__new__" = true := by decide +kernel
theorem owner_new : ("bytearray.__new__".splitOn ".__new__").headD "" = "bytearray" := by simp +decide [String.splitOn, String.splitOnAux]
theorem sub_self : isSubtype (.type "bytearray") (.type "bytearray") = pure true := by rw [isSubtype_type]; kernel_rfl
theorem sub_bytes : isSubtype (.type "bytes") (.type "bytes") = pure true := by rw [isSubtype_type]; kernel_rfl
theorem rel_ba : typeLookup (.type "bytearray") "__release_buffer__" = pure (some (.builtin "bytearray.__release_buffer__")) := by rw [typeLookup_type, builtinLookup_eq_fast]; kernel_rfl
theorem rel_bytes : typeLookup (.type "bytes") "__release_buffer__" = pure none := by rw [typeLookup_type, builtinLookup_eq_fast]; kernel_rfl
theorem no_bytes_ba : typeLookup (.type "bytearray") "__bytes__" = pure none := by rw [typeLookup_type, builtinLookup_eq_fast]; kernel_rfl
theorem bytes_bytes : typeLookup (.type "bytes") "__bytes__" = pure (some (.builtin "bytes.__bytes__")) := by rw [typeLookup_type, builtinLookup_eq_fast]; kernel_rfl
theorem no_index_ba : typeLookup (.type "bytearray") "__index__" = pure none := by rw [typeLookup_type, builtinLookup_eq_fast]; kernel_rfl
theorem bind0 : Builtin.Bytes.bindOptional "bytearray.__init__" "bytearray" ["source", "encoding", "errors"] [] [] = pure [none, none, none] := by kernel_rfl
theorem buf_ba : typeLookup (.type "bytearray") "__buffer__" = pure (some (.builtin "bytearray.__buffer__")) := by rw [typeLookup_type, builtinLookup_eq_fast]; kernel_rfl
theorem buf_bytes : typeLookup (.type "bytes") "__buffer__" = pure (some (.builtin "bytes.__buffer__")) := by rw [typeLookup_type, builtinLookup_eq_fast]; kernel_rfl
theorem no_buf_list : typeLookup (.type "list") "__buffer__" = pure none := by rw [typeLookup_type, builtinLookup_eq_fast]; kernel_rfl
theorem plain_loop : plainId "bytearray.extend.loop" = true := by decide +kernel
theorem plain_end : plainId "bytearray.extend.end" = true := by decide +kernel
end FBa
end Mine
namespace Mine
open PySem PySem.W PyProof.Rows
open PySem.Builtin.Bytes (exported exportsOf checkResize payload payload?)
def baO (b : Array UInt8) : Obj := { cls := .type "bytearray", data := .bytearray b 0 }
section
variable {M : Model} {A : Around} {E : Value -> Shared -> Prop} {s : Shared}
theorem X_checkResize {a : Addr} {b : Array UInt8} {Q : Unit -> Shared -> Prop} (ho : s.heap.get? a = some (baO b)) (h : Q () s) : wpX M A (checkResize (.ref a)) Q E s := by
 unfold checkResize
 refine X_bind (X_bind (X_exported ?_))
 show wpX M A (if false = true then pure true else (do return (<- exportsOf (.ref a)) > 0)) _ E s
 rw [if_neg (by simp)]
 refine X_bind ?_
 unfold exportsOf
 refine X_bind (wpX_any (wpAny_load ho ?_))
 exact X_pure (X_pure (X_pure h))
theorem any_ba {a : Addr} {b : Array UInt8} {f : Array UInt8 -> Array UInt8} {Q : Unit -> Shared -> Prop} (ho : s.heap.get? a = some (baO b)) (hz : (f b).size <= sizeLine)
  (h : ∀ h', h'.get? a = some (baO (f b)) -> Heap.SameBut a s.heap h' -> Q () { s with heap := h' }) : wpAny M A (updateBytearray a f) Q E s := by
 unfold updateBytearray
 refine wpAny_bind (wpAny_load ho ?_)
 show wpAny _ _ (update a (Obj.mapBytearray f) >>= fun _ => lookBehind a) _ _ _
 refine wpAny_bind (wpAny_update ho ?_)
 have h₂ : (s.heap.update a (Obj.mapBytearray f)).get? a = some (baO (f b)) := Heap.get?_update_self (Obj.mapBytearray f) ho rfl
 refine wpAny_lookBehind h₂ ?_ (h _ h₂ (Heap.SameBut.update ..))
 show (if (f b).size > sizeLine then some "bytearray:memory" else none) = none
 rw [if_neg (Nat.not_lt.mpr hz)]
theorem any_payload_ba {a : Addr} {b : Array UInt8} {Q : Array UInt8 -> Shared -> Prop} (ho : s.heap.get? a = some (baO b)) (h : Q b s) : wpAny M A (payload (.ref a)) Q E s := by
 unfold payload payload?
 refine wpAny_bind (wpAny_bind (wpAny_load ho ?_))
 exact wpAny_pure (wpAny_pure h)
theorem any_payload_bytes {t : Tok} {b : Array UInt8} {Q : Array UInt8 -> Shared -> Prop} (h : Q b s) : wpAny M A (payload (.bytes b t)) Q E s := wpAny_pure h
theorem ba_type {a : Addr} {b : Array UInt8} (ho : s.heap.get? a = some (baO b)) : s.TypeIs (.ref a) "bytearray" := ⟨_, ho, rfl⟩
theorem X_call_slot {prog : Program} {w : World} {T : String} {name : Str} {id : String} {B : Builtin} {self : Value} {rest : List Value} {Q : Value -> Shared -> Prop} (slot : Slot T name id) (hT : s.TypeIs self T)
  (entry : entryFor table id = some B) (args : argsOk id ⟨self :: rest, []⟩)
  (h : wpX (model prog w) A.in1 (B ⟨self :: rest, []⟩) (fun fin s' => match fin with | .done f => wants Q E (.ok f) s' | .again c' => c'.quiet = true /\ codeX (model prog w) A c' (wants Q E) s') (fun e s' => E e s') s) (hc : calmId id = true := by decide +kernel) :
  wpX (model prog w) A (call (.builtin id) (self :: rest)) Q E s := by
 refine X_call (codeX_of_tree rfl ?_)
 show wpX _ A.in1 (do checkBuiltinCall id ⟨self :: rest, []⟩; again (.builtin id ⟨self :: rest, []⟩)) _ _ s
 refine X_bind (wpX_any (slot.check _ _ _ _ _ _ _ _ hT args (X_pure (And.intro (plainId_quiet slot.plain _) (codeX_of_tree hc ?_)))))
 rw [Around.under_plainId slot.plain _]
 show wpX _ _ (match entryFor table id with | some b => b ⟨self :: rest, []⟩ | none => unsupported ((withoutEnding? id "#data").getD id)) _ _ s
 rw [entry]; exact h
theorem codeX_builtin_at {prog : Program} {w : World} {R : Result -> Shared -> Prop} {id : String} {args : Args} {b : Builtin} (hc : calmId id = true) (hb : entryFor table id = some b)
  (h : wpX (model prog w) (A.under (.builtin id args)) (b args) (fun fin s' => match fin with | .done f => R (.ok f) s' | .again c' => c'.quiet = true /\ codeX (model prog w) A c' R s') (fun e s' => R (.error e) s') s) :
  codeX (model prog w) A (.builtin id args) R s := by
 refine codeX_of_tree hc ?_
 show wpX _ _ (match entryFor table id with | some b => b args | none => unsupported ((withoutEnding? id "#data").getD id)) _ _ s
 rw [hb]; exact h
theorem codeX_builtin {prog : Program} {w : World} {R : Result -> Shared -> Prop} {id : String} {args : Args} {b : Builtin} (hp : plainId id = true) (hc : calmId id = true) (hb : entryFor table id = some b)
  (h : wpX (model prog w) A.in1 (b args) (fun fin s' => match fin with | .done f => R (.ok f) s' | .again c' => c'.quiet = true /\ codeX (model prog w) A c' R s') (fun e s' => R (.error e) s') s) :
  codeX (model prog w) A (.builtin id args) R s := by
 refine codeX_of_tree hc ?_
 rw [Around.under_plainId hp _]
 show wpX _ _ (match entryFor table id with | some b => b args | none => unsupported ((withoutEnding? id "#data").getD id)) _ _ s
 rw [hb]; exact h
end
section
variable {prog : Program} {w : World} {A : Around} {E : Value -> Shared -> Prop} {s : Shared}
theorem X_byteValue {M : Model} {n : Int} {t : Tok} {Q : UInt8 -> Shared -> Prop} (h0 : 0 <= n) (h1 : n < 256) (h : Q n.toNat.toUInt8 s) : wpAny M A (Builtin.Bytes.byteValue (.int n t)) Q E s := by
 unfold Builtin.Bytes.byteValue
 refine wpAny_bind (wpAny_of_eq (rfl : asIndex (.int n t) = pure n) ?_)
 refine bm_if_false (by simp only [Bool.or_eq_false_iff, decide_eq_false_iff_not]; omega) (wpAny_pure h)
theorem ba_append {a : Addr} {b : Array UInt8} {n : Int} {t : Tok} {Q : Value -> Shared -> Prop} (ho : s.heap.get? a = some (baO b)) (h0 : 0 <= n) (h1 : n < 256) (hz : b.size < sizeLine)
  (h : ∀ h', h'.get? a = some (baO (b.push n.toNat.toUInt8)) -> Heap.SameBut a s.heap h' -> Q .none { s with heap := h' }) :
  wpX (model prog w) A (call (.builtin "bytearray.append") [.ref a, .int n t]) Q E s := by
 refine X_call_slot FBa.slot_append (ba_type ho) FBa.entry_append (FBa.args_append _ _) ?_
 show wpX _ _ (Builtin.Bytes.byteValue (.int n t) >>= fun c => checkResize (.ref a) >>= fun _ => updateBytearray a (·.push c) >>= fun _ => ret .none) _ _ s
 refine X_bind (wpX_any (X_byteValue h0 h1 (X_bind (X_checkResize ho (X_bind (wpX_any (any_ba ho (by rw [Array.size_push]; exact hz) fun h' e1 e2 => X_pure (h h' e1 e2))))))))
end
open PySem.Builtin.Bytes (slotIsOwn buffer? ownRelease takeBufferQuiet? takeBuffer? write)
section
variable {M : Model} {A : Around} {E : Value -> Shared -> Prop} {s : Shared}
theorem any_own {v : Value} {T id : String} {name : String} {Q : Bool -> Shared -> Prop} (hT : s.TypeIs v T) (f1 : typeLookup (.type T) (Str.ofString name) = pure (some (.builtin id))) (e1 : id.endsWith ("." ++ name) = true) (e2 : id.dropRight (name.length + 1) = T)
  (f2 : isSubtype (.type T) (.type T) = pure true) (h : Q true s) : wpAny M A (slotIsOwn v name) Q E s := by
 unfold slotIsOwn
 refine wpAny_bind (wpAny_specialOf hT f1 ?_)
 dsimp only
 rw [e1, e2]
 exact bm_if_false rfl (wpAny_isInstance hT f2 h)
theorem any_own_none {v : Value} {T : String} {name : String} {Q : Bool -> Shared -> Prop} (hT : s.TypeIs v T) (f1 : typeLookup (.type T) (Str.ofString name) = pure none) (h : Q true s) : wpAny M A (slotIsOwn v name) Q E s := by
 unfold slotIsOwn
 exact wpAny_bind (wpAny_specialOf hT f1 (wpAny_pure h))
theorem any_buffer_bytes {id : String} {fu : Bool} {b : Array UInt8} {t : Tok} {Q : Option (Array UInt8) -> Shared -> Prop} (h : Q (some b) s) : wpAny M A (buffer? id (.bytes b t) fu) Q E s := by
 have hT : s.TypeIs (.bytes b t) "bytes" := typeIs_bytes _ _ _
 unfold buffer?
 refine wpAny_bind (wpAny_specialOf hT FBa.buf_bytes ?_)
 dsimp only
 refine wpAny_bind (any_own hT FBa.buf_bytes (by decide +kernel) (by decide +kernel) FBa.sub_bytes ?_)
 refine bm_if_false rfl ?_
 refine wpAny_bind (wpAny_specialOf hT FBa.buf_bytes ?_)
 unfold ownRelease
 refine wpAny_bind (wpAny_bind (any_own_none hT FBa.rel_bytes (wpAny_pure (bm_if_false rfl ?_))))
 exact wpAny_bind (any_payload_bytes (wpAny_pure h))
theorem any_buffer_ba {id : String} {fu : Bool} {a : Addr} {b : Array UInt8} {Q : Option (Array UInt8) -> Shared -> Prop} (ho : s.heap.get? a = some (baO b)) (h : Q (some b) s) : wpAny M A (buffer? id (.ref a) fu) Q E s := by
 have hT : s.TypeIs (.ref a) "bytearray" := ba_type ho
 unfold buffer?
 refine wpAny_bind (wpAny_specialOf hT FBa.buf_ba ?_)
 dsimp only
 refine wpAny_bind (any_own hT FBa.buf_ba (by decide +kernel) (by decide +kernel) FBa.sub_self ?_)
 refine bm_if_false rfl ?_
 refine wpAny_bind (wpAny_specialOf hT FBa.buf_ba ?_)
 unfold ownRelease
 refine wpAny_bind (wpAny_bind (any_own hT FBa.rel_ba (by decide +kernel) (by decide +kernel) FBa.sub_self (wpAny_pure (bm_if_false rfl ?_))))
 exact wpAny_bind (any_payload_ba ho (wpAny_pure h))
theorem any_take_bytes {id : String} {b : Array UInt8} {t : Tok} {Q : Option (Array UInt8 × Option Value) -> Shared -> Prop} (h : Q (some (b, none)) s) : wpAny M A (takeBufferQuiet? id (.bytes b t) 0) Q E s := by
 have hT : s.TypeIs (.bytes b t) "bytes" := typeIs_bytes _ _ _
 unfold takeBufferQuiet?
 refine wpAny_bind (wpAny_attempt ?_)
 unfold takeBuffer?
 refine wpAny_bind (wpAny_specialOf hT FBa.buf_bytes ?_)
 dsimp only
 refine wpAny_bind (any_own hT FBa.buf_bytes (by decide +kernel) (by decide +kernel) FBa.sub_bytes ?_)
 refine bm_if_false rfl ?_
 refine wpAny_bind (wpAny_specialOf hT FBa.buf_bytes ?_)
 exact wpAny_bind (any_buffer_bytes (wpAny_pure (wpAny_pure h)))
theorem any_take_ba {id : String} {a : Addr} {b : Array UInt8} {Q : Option (Array UInt8 × Option Value) -> Shared -> Prop} (ho : s.heap.get? a = some (baO b)) (h : Q (some (b, none)) s) : wpAny M A (takeBufferQuiet? id (.ref a) 0) Q E s := by
 have hT : s.TypeIs (.ref a) "bytearray" := ba_type ho
 unfold takeBufferQuiet?
 refine wpAny_bind (wpAny_attempt ?_)
 unfold takeBuffer?
 refine wpAny_bind (wpAny_specialOf hT FBa.buf_ba ?_)
 dsimp only
 refine wpAny_bind (any_own hT FBa.buf_ba (by decide +kernel) (by decide +kernel) FBa.sub_self ?_)
 refine bm_if_false rfl ?_
 refine wpAny_bind (wpAny_specialOf hT FBa.buf_ba ?_)
 exact wpAny_bind (any_buffer_ba ho (wpAny_pure (wpAny_pure h)))
end
section
variable {prog : Program} {w : World} {A : Around} {E : Value -> Shared -> Prop} {s : Shared}
theorem X_addAtEnd {a : Addr} {b m : Array UInt8} {Q : Fin -> Shared -> Prop} (ho : s.heap.get? a = some (baO b)) (hz : b.size + m.size <= sizeLine)
  (h : ∀ h', h'.get? a = some (baO (b ++ m)) -> Heap.SameBut a s.heap h' -> Q (.done (.ret .none)) { s with heap := h' }) :
  wpX (model prog w) A (do
   if !m.isEmpty then checkResize (.ref a)
   write (.ref a) (· ++ m)
   ret .none) Q E s := by
 have fin : wpX (model prog w) A (do write (.ref a) (· ++ m); ret .none) Q E s :=
  X_bind (wpX_any (any_ba ho (by rw [Array.size_append]; exact hz) fun h' e1 e2 => X_pure (h h' e1 e2)))
 cases z : m.isEmpty with
 | true => exact fin
 | false => exact X_bind (X_checkResize ho fin)
theorem ba_extend_bytes {a : Addr} {b m : Array UInt8} {t : Tok} {Q : Value -> Shared -> Prop} (ho : s.heap.get? a = some (baO b)) (hz : b.size + m.size <= sizeLine)
  (h : ∀ h', h'.get? a = some (baO (b ++ m)) -> Heap.SameBut a s.heap h' -> Q .none { s with heap := h' }) :
  wpX (model prog w) A (call (.builtin "bytearray.extend") [.ref a, .bytes m t]) Q E s := by
 refine X_call_slot FBa.slot_extend (ba_type ho) FBa.entry_extend (FBa.args_extend _ _) ?_
 unfold Builtin.«bytearray.extend»
 refine X_bind (X_pure ?_)
 refine X_bind (wpX_any (wpAny_specialOf (typeIs_bytes _ _ _) FBa.buf_bytes ?_))
 show wpX _ _ (rule _ >>= _) _ _ _
 refine X_bind (X_rule (X_bind (wpX_any (any_payload_ba ho (X_bind (wpX_any (any_take_bytes ?_)))))))
 exact X_addAtEnd ho hz h
theorem ba_extend_ba {a c : Addr} {b m : Array UInt8} {Q : Value -> Shared -> Prop} (ho : s.heap.get? a = some (baO b)) (hc : s.heap.get? c = some (baO m)) (hz : b.size + m.size <= sizeLine)
  (h : ∀ h', h'.get? a = some (baO (b ++ m)) -> Heap.SameBut a s.heap h' -> Q .none { s with heap := h' }) :
  wpX (model prog w) A (call (.builtin "bytearray.extend") [.ref a, .ref c]) Q E s := by
 refine X_call_slot FBa.slot_extend (ba_type ho) FBa.entry_extend (FBa.args_extend _ _) ?_
 unfold Builtin.«bytearray.extend»
 refine X_bind (X_pure ?_)
 refine X_bind (wpX_any (wpAny_specialOf (ba_type hc) FBa.buf_ba ?_))
 show wpX _ _ (rule _ >>= _) _ _ _
 refine X_bind (X_rule (X_bind (wpX_any (any_payload_ba ho (X_bind (wpX_any (any_take_ba hc ?_)))))))
 exact X_addAtEnd ho hz h
end
section
variable {prog : Program} {w : World} {A : Around} {E : Value -> Shared -> Prop} {s : Shared}
theorem ba_loop {R : Result -> Shared -> Prop} {a l I S : Addr} {b : Array UInt8} {vs : List Value} {ns : List Int} (hh : A.handled = none) (hi : IntsAre vs ns) (hr : ∀ n ∈ ns, 0 <= n /\ n < 256) (hz : b.size + ns.length <= sizeLine)
  (hIS : I ≠ S) (hlI : l ≠ I) (hlS : l ≠ S) (haI : a ≠ I) (haS : a ≠ S) :
  ∀ (k i : Nat) (s : Shared), ns.length - i = k -> i <= ns.length -> s.heap.get? a = some (baO b) -> s.heap.IsList l vs.toArray -> s.heap.IsListIter I l i -> s.heap.get? S = some (baO (byteArr (ns.take i))) ->
   (∀ h', h'.get? a = some (baO (b ++ byteArr ns)) -> (∀ c o, c ≠ a -> c ≠ I -> c ≠ S -> s.heap.get? c = some o -> h'.get? c = some o) -> R (.ok (.ret .none)) { s with heap := h' }) ->
   codeX (model prog w) A (.builtin "bytearray.extend.loop" ⟨[.ref a, .ref l, .ref I, .ref S], []⟩) R s := by
 have hlen : vs.length = ns.length := hi.length
 intro k
 induction k with
 | zero =>
  intro i s hk hle ha hl hit hS hR
  have hin : i = ns.length := by omega
  subst hin
  refine codeX_builtin FBa.plain_loop (by decide +kernel) FBa.entry_loop ?_
  show wpX _ A.in1 (pyNext (.ref I) >>= _) _ _ s
  refine X_bind (wpX_any (wpAny_pyNext_list_end hh hit hl (by simp [hlen]) fun h' he => ?_))
  have ha' := he a _ haI ha
  have hS' := he S _ (Ne.symm hIS) hS
  refine X_pure ⟨plainId_quiet FBa.plain_end _, codeX_builtin FBa.plain_end (by decide +kernel) FBa.entry_end ?_⟩
  show wpX _ _ (point >>= fun _ => payload (.ref S) >>= _) _ _ _
  refine X_bind (X_point (X_bind (wpX_any (any_payload_ba hS' ?_))))
  rw [List.take_length]
  exact X_addAtEnd ha' (by rw [byteArr_size]; exact hz) fun h'' e1 e2 => hR h'' e1 fun c o ca cI _ e => (e2.2 c ca).trans (he c o cI e)
 | succ k ih =>
  intro i s hk hle ha hl hit hS hR
  have hlt : i < ns.length := by omega
  obtain ⟨x, hx⟩ : ∃ x, vs[i]? = some x := ⟨vs[i]'(by omega), List.getElem?_eq_getElem (by omega)⟩
  obtain ⟨n, t, rfl, hn⟩ := IntsAre.at hi i x hx
  obtain ⟨h0, h1⟩ := hr n (List.mem_of_getElem? hn)
  refine codeX_builtin FBa.plain_loop (by decide +kernel) FBa.entry_loop ?_
  show wpX _ A.in1 (pyNext (.ref I) >>= _) _ _ s
  refine X_bind (wpX_any (wpAny_pyNext_list_item (x := .int n t) hit hl (by simpa using hx) fun h' hit' hs => ?_))
  have hS' := (hs.2 S (Ne.symm hIS)).trans hS
  have ha' := (hs.2 a haI).trans ha
  refine X_bind (wpX_any (wpAny_tryCatch (wpAny_holding (X_byteValue h0 h1 ?_))))
  refine X_bind (wpX_any (wpAny_letGo (X_bind (wpX_any (any_ba hS' ?_ fun h2 e1 e2 => ?_)))))
  ·rw [Array.size_push, byteArr_size, List.length_take]; omega
  ·refine X_pure ⟨plainId_quiet FBa.plain_loop _, ih (i + 1) { s with heap := h2 } (by omega) hlt ((e2.2 a haS).trans ha') ((hl.extBut hs.extBut hlI).extBut e2.extBut hlS) (hit'.extBut e2.extBut hIS) (by rw [byteArr_take hn]; exact e1) fun h3 g1 g2 => hR h3 g1 fun c o ca cI cS e => ?_⟩
   exact g2 c o ca cI cS ((e2.2 c cS).trans ((hs.2 c cI).trans e))
theorem ba_extend_ints {a l : Addr} {b : Array UInt8} {vs : List Value} {ns : List Int} {Q : Value -> Shared -> Prop} (hh : A.handled = none) (ha : s.heap.get? a = some (baO b)) (hl : s.heap.IsList l vs.toArray) (hi : IntsAre vs ns) (hr : ∀ n ∈ ns, 0 <= n /\ n < 256) (hz : b.size + ns.length <= sizeLine)
  (hQ : ∀ h', h'.get? a = some (baO (b ++ byteArr ns)) -> (∀ c o, c ≠ a -> s.heap.get? c = some o -> h'.get? c = some o) -> Q .none { s with heap := h' }) :
  wpX (model prog w) A (call (.builtin "bytearray.extend") [.ref a, .ref l]) Q E s := by
 refine X_call_slot FBa.slot_extend (ba_type ha) FBa.entry_extend (FBa.args_extend _ _) ?_
 have hT : s.TypeIs (.ref l) "list" := hl.typeIs
 obtain ⟨ol, hol, hoc, nl, hod⟩ := id hl
 unfold Builtin.«bytearray.extend»
 refine X_bind (X_pure ?_)
 refine X_bind (wpX_any (wpAny_specialOf hT FBa.no_buf_list ?_))
 show wpX _ _ ((tryCatch (pyIter (.ref l)) _) >>= _) _ _ _
 refine X_bind (wpX_any (wpAny_tryCatch (wpAny_pyIter_list hl ?_)))
 have hl₁ : (s.heap.push { cls := .type "list_iterator", data := .fields #[.ref l, .int 0 0] }).IsList l vs.toArray := hl.push _
 have hT₁ : ({ s with heap := s.heap.push { cls := .type "list_iterator", data := .fields #[.ref l, .int 0 0] } } : Shared).TypeIs (.ref l) "list" := Heap.IsList.typeIs (s := { s with heap := s.heap.push { cls := .type "list_iterator", data := .fields #[.ref l, .int 0 0] } }) hl₁
 refine X_bind (wpX_any (wpAny_holding ?_))
 unfold Builtin.Bytes.lengthHint
 refine wpAny_bind (wpAny_specialOf hT₁ slot_list_len.lookup ?_)
 dsimp only
 rw [F.bm_split]
 dsimp only
 refine wpAny_bind (wpAny_isInstance hT₁ F.bm_sub_list ?_)
 refine bm_if_false rfl ?_
 refine bm_if_true (by decide +kernel) ?_
 refine wpAny_pure ?_
 refine X_bind (wpX_any ?_)
 unfold Builtin.Bytes.newBytearray
 refine wpAny_newObj_type ?_ (Nat.zero_le _)
 have hsz : (s.heap.push { cls := .type "list_iterator", data := .fields #[.ref l, .int 0 0] }).objs.size = s.heap.objs.size + 1 := Heap.size_push _ _
 have hI : ((s.heap.push { cls := .type "list_iterator", data := .fields #[.ref l, .int 0 0] }).push { cls := .type "bytearray", data := .bytearray #[] }).IsListIter s.heap.objs.size l 0 :=
  ⟨_, Heap.get?_push_of_some _ (Heap.get?_push_size _ rfl), rfl, rfl⟩
 have hlt := Heap.lt_size hol
 have hat := Heap.lt_size ha
 refine X_pure ⟨plainId_quiet FBa.plain_loop _, ?_⟩
 refine ba_loop (l := l) (I := s.heap.objs.size) (S := (s.heap.push { cls := .type "list_iterator", data := .fields #[.ref l, .int 0 0] }).objs.size) hh hi hr hz (by rw [hsz]; exact Nat.ne_of_lt (Nat.lt_succ_self _)) (Nat.ne_of_lt hlt) (by rw [hsz]; exact Nat.ne_of_lt (Nat.lt_succ_of_lt hlt)) (Nat.ne_of_lt hat) (by rw [hsz]; exact Nat.ne_of_lt (Nat.lt_succ_of_lt hat))
  ns.length 0 { s with heap := _ } rfl (Nat.zero_le _) (Heap.get?_push_of_some _ (Heap.get?_push_of_some _ ha)) (hl₁.push _) hI (Heap.get?_push_size _ rfl) fun h' e1 e2 => hQ h' e1 fun c o ca e => ?_
 have := Heap.lt_size e
 exact e2 c o ca (Nat.ne_of_lt this) (by rw [hsz]; exact Nat.ne_of_lt (Nat.lt_succ_of_lt this)) (Heap.get?_push_of_some _ (Heap.get?_push_of_some _ e))
end
section
variable {prog : Program} {w : World} {A : Around} {E : Value -> Shared -> Prop} {s : Shared}
theorem len_ba {a : Addr} {b : Array UInt8} {Q : Value -> Shared -> Prop} (ho : s.heap.get? a = some (baO b)) (hz : b.size <= 1099511627776) (h : Q (.int b.size (s.toks + 1)) { s with toks := s.toks + 1 + 1 }) :
  wpAny (model prog w) A (call (.builtin "len") [.ref a]) Q E s := by
 refine Calls.call_function_entry kind_len plain_len entry_len (args_len1 _) ?_
 unfold Builtin.«len»
 refine wpAny_bind (m := oneArg "len" _) (wpAny_pure ?_)
 refine wpAny_bind (m := callSpecial? (.ref a) (Str.ofString "__len__")) (wpAny_callSpecial?_slot (name := Str.ofString "__len__") (ba_type ho) FBa.slot_len (wpAny_call_entry FBa.slot_len (ba_type ho) FBa.entry_len ?_ (FBa.args_len _)))
 show wpAny _ _ (slotArgs "__len__" 0 ⟨[.ref a], []⟩ >>= _) _ _ _
 refine wpAny_bind (wpAny_pure ?_)
 refine wpAny_bind (any_payload_ba ho ?_)
 refine wpAny_bind (wpAny_mkInt (wpAny_pure ⟨_, rfl, ?_⟩))
 refine wpAny_bind (wpAny_holding (wpAny_pure ?_))
 refine wpAny_bind (wpAny_letGo ?_)
 show wpAny _ _ (if (b.size : Int) < 0 then _ else _) _ _ _
 rw [if_neg (by omega)]
 show wpAny _ _ (if (b.size : Int) ≥ 2 ^ 63 then _ else _) _ _ _
 rw [if_neg (by omega)]
 exact wpAny_bind (wpAny_mkInt (wpAny_pure ⟨_, rfl, h⟩))
end
section
variable {prog : Program} {w : World} {A : Around} {E : Value -> Shared -> Prop} {s : Shared}
theorem bytes_new {v r : Value} {s₁ : Shared} {Q : Value -> Shared -> Prop}
  (hv : ∀ {A : Around} {R : Result -> Shared -> Prop}, R (.ok (.ret r)) s₁ -> wpAny (model prog w) A (Builtin.«bytes.__new__» ⟨[.type "bytes", v], []⟩) (fun fin s' => match fin with | .done f => R (.ok f) s' | .again c' => c'.quiet = true /\ codeAny (model prog w) A c' R s') (fun e s' => R (.error e) s') s)
  (hQ : Q r s₁) : codeAny (model prog w) A (.call (.builtin "bytes.__new__") ⟨[.type "bytes", v], []⟩) (wants Q E) s := by
 refine codeAny_of_tree ?_
 show wpAny _ A.in1 (do checkBuiltinCall "bytes.__new__" ⟨[.type "bytes", v], []⟩; again (.builtin "bytes.__new__" ⟨[.type "bytes", v], []⟩)) _ _ s
 refine wpAny_bind (wpAny_of_eq (F.bm_newCall _) (wpAny_pure ⟨plainId_quiet F.bm_plain _, codeAny_builtin F.bm_entry ?_⟩))
 rw [Around.under_plainId F.bm_plain _]
 refine wpAny_mono (hv (A := A.in1) (R := wants Q E) hQ) (fun fin s' h => ?_) fun _ _ h => h
 cases fin with
 | done f => exact h
 | again c' => exact ⟨h.1, codeAny_of_in1 h.2⟩
theorem bytes_of {v r : Value} {s₁ : Shared} {Q : Value -> Shared -> Prop} (hr : s₁.TypeIs r "bytes")
  (hv : ∀ {A : Around} {R : Result -> Shared -> Prop}, R (.ok (.ret r)) s₁ -> wpAny (model prog w) A (Builtin.«bytes.__new__» ⟨[.type "bytes", v], []⟩) (fun fin s' => match fin with | .done f => R (.ok f) s' | .again c' => c'.quiet = true /\ codeAny (model prog w) A c' R s') (fun e s' => R (.error e) s') s)
  (hQ : Q r s₁) : wpAny (model prog w) A (call (.type "bytes") [v]) Q E s := by
 refine callType_codes (Q₁ := fun obj s₂ => obj = r /\ s₂ = s₁) F.bm_called (F.bm_typeCall _) F.entry_object_init (bytes_new hv ⟨rfl, rfl⟩) fun obj s₂ h₁ => ?_
 obtain ⟨rfl, rfl⟩ := h₁
 exact ⟨hr, F.args_object_init_2 _ _, object_init_meets F.bm_called.init.lookup F.bm_called.made (by decide) prog w A.in1 _ _ ⟨hr, rfl, hQ⟩⟩
theorem bytes_bytes {b : Array UInt8} {t : Tok} {Q : Value -> Shared -> Prop} (hQ : Q (.bytes b t) s) : wpAny (model prog w) A (call (.type "bytes") [.bytes b t]) Q E s := by
 have hT : s.TypeIs (.bytes b t) "bytes" := typeIs_bytes _ _ _
 refine bytes_of hT (fun {A R} h => ?_) hQ
 unfold Builtin.«bytes.__new__»
 refine wpAny_bind (wpAny_of_eq (a := true) rfl ?_)
 refine bm_if_false rfl ?_
 refine wpAny_bind (wpAny_of_eq F.bm_sub ?_)
 refine bm_if_false rfl ?_
 refine wpAny_bind (wpAny_of_eq (F.bm_bind _) ?_)
 refine wpAny_bind (wpAny_of_eq (a := ()) rfl ?_)
 refine wpAny_bind (wpAny_of_eq (a := ()) rfl ?_)
 refine bm_if_false rfl ?_
 refine wpAny_bind (wpAny_specialOf hT FBa.bytes_bytes ?_)
 dsimp only
 refine wpAny_bind (wpAny_rule (wpAny_bind (wpAny_typeOf hT ?_)))
 refine bm_if_true (by decide) ?_
 exact wpAny_pure h
theorem bytes_ba {a : Addr} {b : Array UInt8} {Q : Value -> Shared -> Prop} (ho : s.heap.get? a = some (baO b)) (hz : b.size <= sizeLine) (hQ : Q (.bytes b s.toks) { s with toks := s.toks + 1 }) : wpAny (model prog w) A (call (.type "bytes") [.ref a]) Q E s := by
 have hT : s.TypeIs (.ref a) "bytearray" := ba_type ho
 refine bytes_of (s₁ := { s with toks := s.toks + 1 }) (typeIs_bytes _ _ _) (fun {A R} h => ?_) hQ
 unfold Builtin.«bytes.__new__»
 refine wpAny_bind (wpAny_of_eq (a := true) rfl ?_)
 refine bm_if_false rfl ?_
 refine wpAny_bind (wpAny_of_eq F.bm_sub ?_)
 refine bm_if_false rfl ?_
 refine wpAny_bind (wpAny_of_eq (F.bm_bind _) ?_)
 refine wpAny_bind (wpAny_of_eq (a := ()) rfl ?_)
 refine wpAny_bind (wpAny_of_eq (a := ()) rfl ?_)
 refine bm_if_false rfl ?_
 refine wpAny_bind (wpAny_specialOf hT FBa.no_bytes_ba ?_)
 refine wpAny_bind (wpAny_bind ?_)
 show wpAny _ _ (load a >>= _) _ _ _
 refine wpAny_bind (wpAny_load ho ?_)
 refine wpAny_pure (wpAny_pure ?_)
 refine bm_if_false rfl ?_
 refine wpAny_bind (wpAny_specialOf hT FBa.no_index_ba ?_)
 refine bm_if_true rfl ?_
 show wpAny _ _ (Builtin.Bytes.buffer? "bytes.__new__" (.ref a) true >>= _) _ _ _
 refine wpAny_bind (any_buffer_ba ho ?_)
 refine wpAny_bind (wpAny_rule (wpAny_bind (wpAny_mkBytes ?_ hz)))
 show wpAny _ _ (if (Value.type "bytes" == Value.type "bytes") = true then _ else _) _ _ _
 refine bm_if_true (by decide) ?_
 exact wpAny_pure h
end
section
variable {prog : Program} {w : World} {A : Around} {E : Value -> Shared -> Prop} {s : Shared}
theorem ba_init {a : Addr} {Q : Fin -> Shared -> Prop} (ho : s.heap.get? a = some (baO #[])) (h : ∀ h', h'.get? a = some (baO #[]) -> Heap.SameBut a s.heap h' -> Q (.done (.ret .none)) { s with heap := h' }) :
  wpX (model prog w) A (Builtin.«bytearray.__init__» ⟨[.ref a], []⟩) Q E s := by
 unfold Builtin.«bytearray.__init__»
 unfold Builtin.Bytes.ownRelease
 refine X_bind (X_bind (wpX_any (any_own (ba_type ho) FBa.rel_ba (by decide +kernel) (by decide +kernel) FBa.sub_self (X_pure ?_))))
 show wpX _ _ (Builtin.Bytes.bindOptional "bytearray.__init__" "bytearray" ["source", "encoding", "errors"] [] [] >>= _) _ _ _
 rw [FBa.bind0]
 refine X_bind (X_pure ?_)
 refine X_bind (X_pure ?_)
 refine X_bind (X_pure ?_)
 refine X_bind ?_
 refine X_bind (X_exported ?_)
 show wpX _ _ (if false = true then pure true else (do return (<- exportsOf (.ref a)) > 0)) _ E s
 rw [if_neg (by simp)]
 refine X_bind ?_
 unfold exportsOf
 refine X_bind (wpX_any (wpAny_load ho ?_))
 refine X_pure (X_pure ?_)
 show wpX _ _ (updateBytearray a (fun _ => #[]) >>= _) _ _ _
 refine X_bind (wpX_any (any_ba ho (Nat.zero_le _) fun h' e1 e2 => ?_))
 exact X_bind (X_pure (X_pure (h h' e1 e2)))
theorem code_ba_new {Q₁ : Value -> Shared -> Prop}
  (h : Q₁ (.ref s.heap.objs.size) { s with heap := s.heap.push { cls := .type "bytearray", data := .bytearray #[] } }) :
  codeAny (model prog w) A (.call (.builtin "bytearray.__new__") ⟨[.type "bytearray"], []⟩) (wants Q₁ E) s := by
 refine codeAny_of_tree ?_
 show wpAny _ A.in1 (do checkBuiltinCall "bytearray.__new__" ⟨[.type "bytearray"], []⟩; again (.builtin "bytearray.__new__" ⟨[.type "bytearray"], []⟩)) _ _ s
 refine wpAny_bind (wpAny_of_eq FBa.newCall (wpAny_pure ⟨plainId_quiet FBa.plain_new _, codeAny_builtin_stack FBa.entry_new rfl fun p st => ?_⟩))
 rw [Around.under_plainId FBa.plain_new _]
 have hsub := FBa.sub_self
 have hown := FBa.owner_new
 obtain ⟨hp, g, d, tk, os⟩ := s
 simp only [hown]
 wp_walk
 exact h
theorem ba_make {Q : Value -> Shared -> Prop} (h : ∀ h', h'.get? s.heap.objs.size = some (baO #[]) -> (∀ b o, s.heap.get? b = some o -> h'.get? b = some o) -> Q (.ref s.heap.objs.size) { s with heap := h' }) :
  wpX (model prog w) A (call (.type "bytearray") []) Q E s := by
 refine X_call (codeX_of_tree rfl ?_)
 show wpX _ _ (callAny (.type "bytearray") _) _ _ _
 refine X_pure ⟨Code.quiet_builtin _ (by decide +kernel), codeX_builtin_at (by decide +kernel) F.entry_type_call ?_⟩
 rw [Around.under_plain (weight_type_call_type "bytearray" [] []) rfl]
 have h1 := FBa.called.notType
 have h2 := FBa.called.canCreate
 unfold Builtin.«type.__call__»
 refine X_if_false h1 ?_
 refine X_if_false h2 ?_
 refine X_bind (X_eq FBa.typeCall ?_)
 refine X_bind (X_eq FBa.mro ?_)
 refine X_if_false rfl ?_
 refine X_bind (X_eq FBa.called.made ?_)
 refine X_bind (X_pure ?_)
 refine X_bind (X_holding (wpX_any ?_))
 refine wpAny_call (codeAny_mono (code_ba_new (E := fun e s' => (False : Prop)) (Q₁ := fun v s' => v = .ref s.heap.objs.size /\ s' = { s with heap := s.heap.push (baO #[]) }) ⟨rfl, rfl⟩) fun r s₁ hr => ?_)
 cases r with
 | error e => exact hr.elim
 | ok fl =>
  cases fl with
  | ret obj =>
   obtain ⟨rfl, rfl⟩ := hr
   have ho : (s.heap.push (baO #[])).get? s.heap.objs.size = some (baO #[]) := Heap.get?_push_size _ rfl
   refine X_bind (wpX_any (wpAny_isInstance (ba_type ho) FBa.sub_self ?_))
   refine X_if_false rfl ?_
   refine X_bind (X_holding ?_)
   unfold callSpecial?
   refine X_bind (wpX_any (wpAny_specialOf (ba_type ho) FBa.slot_init.lookup ?_))
   refine X_holding ?_
   refine X_bind (X_eq (FBa.slot_init.bind _) ?_)
   refine X_bind (X_call_slot FBa.slot_init (ba_type ho) FBa.entry_init (FBa.args_init _) ?_)
   refine ba_init ho fun h' e1 e2 => X_pure ?_
   refine X_if_false rfl ?_
   exact X_pure (h h' e1 fun b o e => (e2.2 b (Nat.ne_of_lt (Heap.lt_size e))).trans (Heap.get?_push_of_some _ e))
  | _ => exact hr.elim
end
end Mine
namespace Mine
open PySem PySem.W PyProof.Rows
def Han (A : Around) (h : Heap) : Prop := A.handled = none \/ ∃ x o, A.handled = some (.ref x) /\ h.get? x = some o /\ excLike o = true
theorem Han.mono {A : Around} {h h' : Heap} (x : Han A h) (k : Stable h h') : Han A h' := x.elim .inl fun ⟨a, o, e, e1, e2⟩ => let ⟨o', e1', e2'⟩ := k.ex a o e1 e2; .inr ⟨a, o', e, e1', e2'⟩
theorem Han.none {A : Around} {h : Heap} (x : A.handled = none) : Han A h := .inl x
namespace FBa
theorem entry_unchain : entryFor table "proto.unchain" = some Builtin.«proto.unchain» := by first | exact entryFor_of_tree (by kernel_rfl) | exact entryFor_of_fast (by kernel_rfl)
theorem plain_unchain : plainId "proto.unchain" = true := by decide +kernel
end FBa
section
variable {prog : Program} {w : World} {A : Around} {E : Value -> Shared -> Prop} {s : Shared}
theorem excLike_fields {o : Obj} (h : excLike o = true) : ∃ vs c, o.data = .fields vs /\ o.cls = .ref c /\ vs[2]? = some .none := by
 obtain ⟨cls, d, data, sl⟩ := o
 cases data with
 | fields vs => cases cls with
  | ref c => exact ⟨vs, c, rfl, rfl, eq_of_beq h⟩
  | _ => exact Bool.noConfusion (show false = true from h)
 | _ => exact Bool.noConfusion (show false = true from h)
theorem raise_any {α : Type} {a : Addr} {o : Obj} {vs : Array Value} {T : String} {Q : α -> Shared -> Prop} (H : Han A s.heap) (ho : s.heap.get? a = some o) (hc : o.cls = .type T) (hd : o.data = .fields vs) (hs : 2 < vs.size)
  (h : ∀ h', Heap.SameBut a s.heap h' -> (∃ o', h'.get? a = some o' /\ o'.cls = .type T) -> E (.ref a) { s with heap := h' }) : wpAny (model prog w) A (raiseNew (.ref a) : Sem α) Q E s := by
 unfold raiseNew
 refine wpAny_bind (wpAny_handled ?_)
 rcases H with H | ⟨x, ox, H, hx, hex⟩
 ·rw [H]
  refine wpAny_bind (wpAny_pure (wpAny_throw ?_))
  exact h _ (Heap.SameBut.refl ..) ⟨o, ho, hc⟩
 ·rw [H]
  obtain ⟨vx, c, e1, e2, e3⟩ := excLike_fields hex
  have hne : x ≠ a := fun q => by subst q; rw [hx] at ho; cases ho; rw [hc] at e2; cases e2
  have : (Value.ref x != Value.ref a) = true := bne_iff_ne.mpr fun q => hne (by cases q; rfl)
  refine bm_if_true this ?_
  refine wpAny_bind (wpAny_holding (wpAny_runValue (codeAny_builtin FBa.entry_unchain ?_)))
  rw [Around.under_plainId FBa.plain_unchain _]
  show wpAny _ _ (field (.ref x) 2 >>= _) _ _ _
  refine wpAny_bind (wpAny_field hx e1 e3 ?_)
  show wpAny _ _ (if (Value.none == Value.none) = true then _ else _) _ _ _
  refine bm_if_true rfl ?_
  refine wpAny_bind (wpAny_pure (wpAny_pure ?_))
  refine wpAny_bind ?_
  unfold updateField
  refine wpAny_bind (wpAny_load ho ?_)
  rw [hd]
  show wpAny _ _ (if 2 < vs.size then _ else _) _ _ _
  rw [if_pos hs]
  refine wpAny_update ho (wpAny_throw ?_)
  exact h _ (Heap.SameBut.update ..) ⟨_, Heap.get?_update_self _ ho (Obj.isFreed_of_fields (Obj.data_mapFields hd _)), (Obj.cls_mapFields ..).trans hc⟩
theorem stop_any {α : Type} {Q : α -> Shared -> Prop} (H : Han A s.heap)
  (h : ∀ h' e, (∀ b o, s.heap.get? b = some o -> h'.get? b = some o) -> (∃ o', h'.get? e = some o' /\ o'.cls = .type "StopIteration") -> E (.ref e) { s with heap := h' }) :
  wpAny (model prog w) A (newExc (.type "StopIteration") [] >>= fun e => (raiseNew e : Sem α)) Q E s := by
 refine wpAny_bind ?_
 simp only [newExc, newTuple]
 refine wpAny_bind (wpAny_newObj_type ?_ (by size_fits))
 refine wpAny_bind (m := firstArgMember _ _) (wpAny_of_eq (a := Value.none) (by first | rfl | (simp only [firstArgMember]; rfl)) ?_)
 refine wpAny_newObj_type ?_ (by size_fits)
 have k : ∀ (o₁ o₂ : Obj) b o, s.heap.get? b = some o -> ((s.heap.push o₁).push o₂).get? b = some o := fun o₁ o₂ b o e => Heap.get?_push_of_some _ (Heap.get?_push_of_some _ e)
 refine raise_any (H.mono (stable_of_keeps (k _ _))) (Heap.get?_push_size _ rfl) rfl rfl (by simp; omega) fun h' e1 e2 => h h' _ (fun b o e => (e1.2 b ?_).trans (k _ _ b o e)) e2
 exact Nat.ne_of_lt (by rw [Heap.size_push]; exact Nat.lt_succ_of_lt (Heap.lt_size e))
theorem range_end {it : Addr} {x left step : Int} {Q : Option Value -> Shared -> Prop} (H : Han A s.heap) (hit : IsRangeIter s.heap it x left step) (hleft : left <= 0)
  (hQ : ∀ h', Heap.ExtBut it s.heap h' -> Q none { s with heap := h' }) : wpAny (model prog w) A (pyNext (.ref it)) Q E s := by
 have hT : s.TypeIs (.ref it) "range_iterator" := ⟨_, hit, rfl⟩
 unfold pyNext
 refine wpAny_bind (wpAny_attempt (wpAny_callSpecial?_slot (name := Str.ofString "__next__") hT F.slot_range_iterator_next
  (wpAny_call_entry F.slot_range_iterator_next hT F.entry_range_iterator_next ?_ (F.args_range_iterator_next_1 _))))
 show wpAny _ _ (field (.ref it) 0 >>= _) _ _ s
 refine wpAny_bind (wpAny_field hit rfl (x := rawInt x) rfl ?_)
 show wpAny _ _ (field (.ref it) 1 >>= _) _ _ s
 refine wpAny_bind (wpAny_field hit rfl (x := rawInt left) rfl ?_)
 show wpAny _ _ (field (.ref it) 2 >>= _) _ _ s
 refine wpAny_bind (wpAny_field hit rfl (x := rawInt step) rfl ?_)
 show wpAny _ _ (if left <= 0 then _ else _) _ _ s
 rw [if_pos hleft]
 refine wpAny_bind (wpAny_rule ?_)
 refine wpAny_bind ?_
 refine stop_any (A := A.in1) H fun h' e e1 e2 => ?_
 obtain ⟨oe, e3, e4⟩ := e2
 refine wpAny_bind (wpAny_isInstance (T := "StopIteration") (b := true) ⟨oe, e3, e4⟩ isSubtype_stop ?_)
 exact wpAny_pure (hQ _ fun b o _ e => e1 b o e)
theorem list_end {it l : Addr} {i : Nat} {items : Array Value} {Q : Option Value -> Shared -> Prop} (H : Han A s.heap)
  (hit : s.heap.IsListIter it l i) (hl : s.heap.IsList l items) (hx : items[i]? = none)
  (hQ : ∀ h', Heap.ExtBut it s.heap h' -> Q none { s with heap := h' }) : wpAny (model prog w) A (pyNext (.ref it)) Q E s := by
 obtain ⟨o, ho, hc, hd⟩ := id hit
 obtain ⟨ol, hol, _, nl, hdl⟩ := hl
 unfold pyNext
 refine wpAny_bind (wpAny_attempt (wpAny_callSpecial?_slot (name := Str.ofString "__next__") hit.typeIs slot_listiter_next
  (wpAny_call_entry slot_listiter_next hit.typeIs entry_listiter_next ?_ (args_listiter_next _))))
 show wpAny _ _ (field (.ref it) 0 >>= _) _ _ s
 refine wpAny_bind (wpAny_field ho hd (x := .ref l) rfl ?_)
 show wpAny _ _ (if (Value.ref l == Value.none) = true then _ else _) _ _ s
 rw [if_neg (show ¬ ((Value.ref l == Value.none) = true) from Bool.false_ne_true)]
 show wpAny _ _ (field (.ref it) 1 >>= _) _ _ s
 refine wpAny_bind (wpAny_field ho hd (x := .int i 0) rfl ?_)
 show wpAny _ _ (seqItems? (.ref l) >>= _) _ _ s
 refine wpAny_bind (wpAny_seqItems hol hdl ?_)
 simp only [Int.toNat_natCast, hx]
 refine wpAny_bind (wpAny_rule (wpAny_bind (wpAny_setField ho hd (by simp) ?_)))
 have hsb := Heap.SameBut.update s.heap it (Obj.mapFields (·.setIfInBounds 0 .none))
 have H' : Han A (s.heap.update it (Obj.mapFields (·.setIfInBounds 0 .none))) := by
  rcases H with H | ⟨x, ox, H, hx, hex⟩
  ·exact .inl H
  ·refine .inr ⟨x, ox, H, (hsb.2 x fun q => ?_).trans hx, hex⟩
   subst q; rw [hx] at ho; cases ho
   obtain ⟨_, _, _, e2, _⟩ := excLike_fields hex
   rw [hc] at e2; cases e2
 refine stop_any (A := A.in1) (s := { s with heap := _ }) H' fun h' e e1 e2 => ?_
 obtain ⟨oe, e3, e4⟩ := e2
 refine wpAny_bind (wpAny_isInstance (T := "StopIteration") (b := true) ⟨oe, e3, e4⟩ isSubtype_stop ?_)
 exact wpAny_pure (hQ _ fun b o hb e => e1 b o (hsb.extBut b o hb e))
end
theorem Han.extBut {A : Around} {h h' : Heap} {a : Addr} (H : Han A h) (ha : ∀ o, h.get? a = some o -> excLike o = false) (k : Heap.ExtBut a h h') : Han A h' := by
 rcases H with H | ⟨x, ox, H, hx, hex⟩
 ·exact .inl H
 ·refine .inr ⟨x, ox, H, k x _ (fun q => ?_) hx, hex⟩
  subst q; rw [ha _ hx] at hex; cases hex
theorem excLike_type {o : Obj} {T : String} (h : o.cls = .type T) : excLike o = false := by
 cases q : excLike o with
 | false => rfl
 | true => obtain ⟨_, _, _, e, _⟩ := excLike_fields q; rw [h] at e; cases e
section
variable {prog : Program} {w : World} {A : Around} {E : Value -> Shared -> Prop} {s : Shared}
theorem bytes_loop {R : Result -> Shared -> Prop} {l I S : Addr} {vs : List Value} {ns : List Int} (hi : IntsAre vs ns) (hr : ∀ n ∈ ns, 0 <= n /\ n < 256) (hz : ns.length <= sizeLine) (hIS : I ≠ S) (hlI : l ≠ I) (hlS : l ≠ S) :
  ∀ (k i : Nat) (s : Shared), ns.length - i = k -> i <= ns.length -> Han A s.heap -> s.heap.IsList l vs.toArray -> s.heap.IsListIter I l i -> s.heap.get? S = some (baO (byteArr (ns.take i))) ->
   (∀ h' t k', (∀ b o, b ≠ I -> b ≠ S -> s.heap.get? b = some o -> h'.get? b = some o) -> R (.ok (.ret (.bytes (byteArr ns) t))) { s with heap := h', toks := k' }) ->
   codeAny (model prog w) A (.builtin "bytes.__new__.loop" ⟨[.type "bytes", .ref I, .ref S], []⟩) R s := by
 have hlen : vs.length = ns.length := hi.length
 intro k
 induction k with
 | zero =>
  intro i s hk hle hH hl hit hS hR
  have hin : i = ns.length := by omega
  subst hin
  refine codeAny_builtin F.bm_entry_loop ?_
  rw [Around.under_plainId F.bm_plain_loop _]
  show wpAny _ A.in1 (pyNext (.ref I) >>= _) _ _ s
  refine wpAny_bind (list_end (A := A.in1) hH hit hl (by simp [hlen]) fun h' he => ?_)
  have hS' := he S _ (Ne.symm hIS) hS
  refine wpAny_bind (any_payload_ba hS' ?_)
  rw [List.take_length]
  refine wpAny_bind (wpAny_mkBytes ?_ (by rw [byteArr_size]; exact hz))
  show wpAny _ _ (if (Value.type "bytes" == Value.type "bytes") = true then _ else _) _ _ _
  refine bm_if_true (by decide) ?_
  exact wpAny_pure (hR h' _ _ fun b o hb _ e => he b o hb e)
 | succ k ih =>
  intro i s hk hle hH hl hit hS hR
  have hlt : i < ns.length := by omega
  obtain ⟨x, hx⟩ : ∃ x, vs[i]? = some x := ⟨vs[i]'(by omega), List.getElem?_eq_getElem (by omega)⟩
  obtain ⟨n, t, rfl, hn⟩ := IntsAre.at hi i x hx
  obtain ⟨h0, h1⟩ := hr n (List.mem_of_getElem? hn)
  obtain ⟨oI, hoI, hcI, _⟩ := id hit
  refine codeAny_builtin F.bm_entry_loop ?_
  rw [Around.under_plainId F.bm_plain_loop _]
  show wpAny _ A.in1 (pyNext (.ref I) >>= _) _ _ s
  refine wpAny_bind (wpAny_pyNext_list_item (x := .int n t) hit hl (by simpa using hx) fun h' hit' hs => ?_)
  have hS' := (hs.2 S (Ne.symm hIS)).trans hS
  refine wpAny_bind (wpAny_holding (wpAny_of_eq (rfl : asIndex (.int n t) = pure n) ?_))
  refine wpAny_bind (wpAny_letGo ?_)
  refine bm_if_false (by simp only [Bool.or_eq_false_iff, decide_eq_false_iff_not]; omega) ?_
  refine wpAny_bind (any_ba hS' ?_ fun h2 e1 e2 => ?_)
  ·rw [Array.size_push, byteArr_size, List.length_take]; omega
  ·have H1 : Han A h' := hH.extBut (fun o e => by rw [hoI] at e; cases e; exact excLike_type hcI) hs.extBut
   have H2 : Han A h2 := H1.extBut (fun o e => by rw [hS'] at e; cases e; rfl) e2.extBut
   refine wpAny_pure ⟨plainId_quiet F.bm_plain_loop _, ih (i + 1) { s with heap := h2 } (by omega) hlt H2 ((hl.extBut hs.extBut hlI).extBut e2.extBut hlS) (hit'.extBut e2.extBut hIS) (by rw [byteArr_take hn]; exact e1) fun h3 t' k' hk3 => ?_⟩
   exact hR h3 t' k' fun b o hbI hbS e => hk3 b o hbI hbS ((e2.2 b hbS).trans ((hs.2 b hbI).trans e))
theorem bytes_ints {l : Addr} {vs : List Value} {ns : List Int} {Q : Value -> Shared -> Prop} (H : Han A s.heap) (hl : s.heap.IsList l vs.toArray) (hi : IntsAre vs ns) (hr : ∀ n ∈ ns, 0 <= n /\ n < 256) (hz : vs.length <= sizeLine)
  (hQ : ∀ h' t k, (∀ b o, s.heap.get? b = some o -> h'.get? b = some o) -> Q (.bytes (byteArr ns) t) { s with heap := h', toks := k }) : wpAny (model prog w) A (call (.type "bytes") [.ref l]) Q E s := by
 refine callType_codes (Q₁ := fun obj s₁ => s₁.TypeIs obj "bytes" /\ Q obj s₁) F.bm_called (F.bm_typeCall _) F.entry_object_init ?_ fun obj s₁ h₁ => ?_
 rotate_left
 ·exact ⟨h₁.1, F.args_object_init_2 obj _, object_init_meets F.bm_called.init.lookup F.bm_called.made (by decide) prog w A.in1 _ s₁ ⟨h₁.1, rfl, h₁.2⟩⟩
 refine codeAny_of_tree ?_
 show wpAny _ A.in1.in1 (do checkBuiltinCall "bytes.__new__" ⟨[.type "bytes", .ref l], []⟩; again (.builtin "bytes.__new__" ⟨[.type "bytes", .ref l], []⟩)) _ _ s
 refine wpAny_bind (wpAny_of_eq (F.bm_newCall _) (wpAny_pure ⟨plainId_quiet F.bm_plain _, codeAny_builtin F.bm_entry ?_⟩))
 rw [Around.under_plainId F.bm_plain _]
 have hT : s.TypeIs (.ref l) "list" := hl.typeIs
 obtain ⟨ol, hol, hoc, nl, hod⟩ := id hl
 unfold Builtin.«bytes.__new__»
 refine wpAny_bind (wpAny_of_eq (a := true) rfl ?_)
 refine bm_if_false rfl ?_
 refine wpAny_bind (wpAny_of_eq F.bm_sub ?_)
 refine bm_if_false rfl ?_
 refine wpAny_bind (wpAny_of_eq (F.bm_bind _) ?_)
 refine wpAny_bind (wpAny_of_eq (a := ()) rfl ?_)
 refine wpAny_bind (wpAny_of_eq (a := ()) rfl ?_)
 refine bm_if_false rfl ?_
 refine wpAny_bind (wpAny_specialOf hT F.bm_no_bytes ?_)
 refine wpAny_bind (wpAny_bind ?_)
 show wpAny _ _ (load l >>= _) _ _ _
 refine wpAny_bind (wpAny_load hol ?_)
 rw [hod]
 refine wpAny_pure (wpAny_pure ?_)
 refine bm_if_false rfl ?_
 refine wpAny_bind (wpAny_specialOf hT F.bm_no_index ?_)
 refine bm_if_true rfl ?_
 show wpAny _ _ (Builtin.Bytes.buffer? "bytes.__new__" (.ref l) true >>= _) _ _ _
 refine wpAny_bind ?_
 unfold Builtin.Bytes.buffer?
 refine wpAny_bind (wpAny_specialOf hT F.bm_no_buffer ?_)
 refine wpAny_bind (wpAny_specialOf hT F.bm_no_buffer ?_)
 refine wpAny_pure ?_
 refine wpAny_bind (wpAny_tryCatch (wpAny_pyIter_list hl ?_))
 have hl₁ : (s.heap.push { cls := .type "list_iterator", data := .fields #[.ref l, .int 0 0] }).IsList l vs.toArray := hl.push _
 have hT₁ : ({ s with heap := s.heap.push { cls := .type "list_iterator", data := .fields #[.ref l, .int 0 0] } } : Shared).TypeIs (.ref l) "list" := Heap.IsList.typeIs (s := { s with heap := s.heap.push { cls := .type "list_iterator", data := .fields #[.ref l, .int 0 0] } }) hl₁
 refine wpAny_bind (wpAny_holding ?_)
 unfold Builtin.Bytes.lengthHint
 refine wpAny_bind (wpAny_specialOf hT₁ slot_list_len.lookup ?_)
 dsimp only
 rw [F.bm_split]
 dsimp only
 refine wpAny_bind (wpAny_isInstance hT₁ F.bm_sub_list ?_)
 refine bm_if_false rfl ?_
 refine bm_if_true (by decide +kernel) ?_
 refine wpAny_pure ?_
 refine wpAny_bind ?_
 unfold Builtin.Bytes.newBytearray
 refine wpAny_newObj_type ?_ (Nat.zero_le _)
 have hI : ((s.heap.push { cls := .type "list_iterator", data := .fields #[.ref l, .int 0 0] }).push { cls := .type "bytearray", data := .bytearray #[] }).IsListIter s.heap.objs.size l 0 :=
  ⟨_, Heap.get?_push_of_some _ (Heap.get?_push_size _ rfl), rfl, rfl⟩
 have hlt : l < s.heap.objs.size := Heap.lt_size hol
 have hsz : (s.heap.push { cls := .type "list_iterator", data := .fields #[.ref l, .int 0 0] }).objs.size = s.heap.objs.size + 1 := Heap.size_push _ _
 have kk : ∀ (o₁ o₂ : Obj) b o, s.heap.get? b = some o -> ((s.heap.push o₁).push o₂).get? b = some o := fun o₁ o₂ b o e => Heap.get?_push_of_some _ (Heap.get?_push_of_some _ e)
 refine wpAny_pure ⟨plainId_quiet F.bm_plain_loop _, ?_⟩
 refine bytes_loop (A := A.in1) (l := l) (I := s.heap.objs.size) (S := (s.heap.push { cls := .type "list_iterator", data := .fields #[.ref l, .int 0 0] }).objs.size) hi hr (by rw [<- hi.length]; exact hz) (by rw [hsz]; exact Nat.ne_of_lt (Nat.lt_succ_self _)) (Nat.ne_of_lt hlt) (by rw [hsz]; exact Nat.ne_of_lt (Nat.lt_succ_of_lt hlt))
  ns.length 0 { s with heap := _ } rfl (Nat.zero_le _) (H.mono (stable_of_keeps (kk _ _))) (hl₁.push _) hI (Heap.get?_push_size _ rfl) fun h' t k hk => ⟨PySem.W.typeIs_bytes _ _ _, hQ h' t k fun b o e => hk b o (Nat.ne_of_lt (Heap.lt_size e)) (by rw [hsz]; exact Nat.ne_of_lt (Nat.lt_succ_of_lt (Heap.lt_size e))) (kk _ _ b o e)⟩
end
section
variable {C : Cx} {g : Base} {envs : List Env} {env : Env} {ρ : Env2} {lv : Loc} {hp : Hp} {s : Shared} {A : Around} {E : Value -> Shared -> Prop}
theorem OkV.grow (S : St C g envs env ρ lv hp s) {v : V} {w : Value} {h' : Heap} (t : Nat) (k : ∀ b o, s.heap.get? b = some o -> h'.get? b = some o) (hv : VRel ρ h' v w) : OkV C g envs env ρ lv s (.ok v hp) w { s with heap := h', toks := t } :=
 ⟨ρ, S.grow k t, ⟨List.prefix_refl _, stable_of_keeps k⟩, hv⟩
theorem size_u8s (b : List Int) : (u8s b).size = b.length := by simp [u8s]
theorem bytesOk_in {l : List Int} (h : bytesOk l = true) : InB l := fun x hx => by
 unfold bytesOk at h
 rw [List.all_eq_true] at h
 have := h x hx
 rw [Bool.and_eq_true, decide_eq_true_eq, decide_eq_true_eq] at this
 exact this
theorem huge_le : (huge : Int) < 2 ^ 63 := by decide
theorem range_push (S : St C g envs env ρ lv hp s) {a b c : Int} {t u v : Tok} (k : Nat) :
  OkV C g envs env ρ lv s (.ok (.range a b c) hp) (.ref s.heap.objs.size) { s with heap := s.heap.push { cls := .type "range", data := .fields #[.int a t, .int b u, .int c v] }, toks := k } :=
 OkV.grow S k (fun _ _ e => Heap.get?_push_of_some _ e) ⟨_, t, u, v, rfl, Heap.get?_push_size _ rfl⟩
theorem preSum_ints (ns : List (Int × Tok)) : ∀ k, k <= ns.length -> PySem.preSum (numAt ns.toArray) k = ((ns.take k).map (·.1)).sum := by
 intro k hk
 induction k with
 | zero => rfl
 | succ k ih =>
  have hl : k < ns.length := hk
  rw [List.take_add_one, List.getElem?_eq_getElem hl]
  simp only [Option.toList_some, List.map_append, List.map_cons, List.map_nil, List.sum_append, List.sum_cons, List.sum_nil, PySem.preSum, ih (by omega), numAt]
  simp [hl]
theorem ints_items : ∀ {ws : List Value} {l : List Int}, IntsAre ws l -> ∃ xs : List (Int × Tok), xs.map (·.1) = l /\ intItems xs.toArray = ws.toArray
 | _, _, .nil => ⟨[], rfl, by simp [intItems]⟩
 | _, _, .cons n t r => by
  obtain ⟨xs, e1, e2⟩ := ints_items r
  refine ⟨(n, t) :: xs, by simp [e1], ?_⟩
  simp only [intItems] at e2 ⊢
  simp at e2 ⊢
  exact e2
theorem lenAns (S : St C g envs env ρ lv hp s) {n : Nat} {i : Int} (e : i = n) : OkV C g envs env ρ lv s (.ok (.int n) hp) (.int i (s.toks + 1)) { s with toks := s.toks + 1 + 1 } := by
 subst e; exact OkV.tok S _ ⟨_, rfl⟩
theorem len_ok (S : St C g envs env ρ lv hp s) {v : V} {w : Value} {n : Nat} (hv : VRel ρ s.heap v w) (h : lenOf v hp = some n) (hn : n <= huge) :
  wpAny C.M A (call (.builtin "len") [w]) (OkV C g envs env ρ lv s (.ok (.int n) hp)) E s := by
 have big : ∀ {m : Nat}, m = n -> (m : Int) < 2 ^ 63 := fun e => e ▸ Int.lt_of_le_of_lt (Int.ofNat_le.mpr hn) huge_le
 have ans : ∀ {m : Nat}, m = n -> OkV C g envs env ρ lv s (.ok (.int n) hp) (.int m (s.toks + 1)) { s with toks := s.toks + 1 + 1 } := fun e => lenAns S (congrArg _ e)
 cases v with
 | str x =>
  obtain ⟨hx, t, rfl⟩ := hv
  have e : (strOf x).length = n := (strOf_len x).trans (Option.some.inj h)
  exact P.len_str (Int.not_le.mpr (big e)) (ans e)
 | bytes b =>
  obtain ⟨hx, t, rfl⟩ := hv
  have e : (u8s b).size = n := (size_u8s b).trans (Option.some.inj h)
  exact len_bytes (e ▸ hn) (ans e)
 | tup vs =>
  obtain ⟨a, ws, rfl, hT, hs⟩ := hv
  have e : ws.toArray.size = n := (List.size_toArray ..).trans (hs.length.trans (Option.some.inj h))
  exact PyProof.Rows.len_tuple hT (big e) (ans e)
 | ref i =>
  obtain ⟨x, dx, rfl, hi⟩ := hv
  obtain ⟨o, q, h⟩ := Option.bind_eq_some_iff.mp h
  have L := led_at S q hi
  cases o with
  | list vs =>
   obtain ⟨_, ws, k, ho, r⟩ := L
   have e : ws.toArray.size = n := (List.size_toArray ..).trans (r.length.trans (Option.some.inj h))
   exact Calls.call_len_list ⟨_, ho, rfl, k, rfl⟩ (big e) (ans e)
  | ba b =>
   obtain ⟨_, ho, hb⟩ := L
   have e : (u8s b).size = n := (size_u8s b).trans (Option.some.inj h)
   exact len_ba ho (e ▸ hn) (ans e)
  | _ => exact nn h
 | _ => exact nn h
theorem bytes_ok (S : St C g envs env ρ lv hp s) (H : Han A s.heap) {v : V} {w : Value} {l : List Int} (hv : VRel ρ s.heap v w) (h : bytesFrom v hp = some l) (hn : l.length <= big) :
  wpAny C.M A (call (.type "bytes") [w]) (OkV C g envs env ρ lv s (.ok (.bytes l) hp)) E s := by
 have hz := Nat.le_trans hn big_le
 cases v with
 | bytes b =>
  obtain ⟨hx, t, rfl⟩ := hv
  rw [<- Option.some.inj h]
  exact bytes_bytes (OkV.now S ⟨hx, t, rfl⟩)
 | ref i =>
  obtain ⟨x, dx, rfl, hi⟩ := hv
  obtain ⟨o, q, h⟩ := Option.bind_eq_some_iff.mp h
  have L := led_at S q hi
  cases o with
  | list vs =>
   obtain ⟨_, ws, k, ho, r⟩ := L
   obtain ⟨l', e1, e2⟩ := Option.bind_eq_some_iff.mp h
   obtain ⟨q2, e2⟩ := ite_some e2
   rw [<- Option.some.inj e2] at hz ⊢
   have ia := r.ints e1
   have hb := bytesOk_in q2
   exact bytes_ints H ⟨_, ho, rfl, k, rfl⟩ ia hb (by rw [ia.length]; exact hz) fun h' t k kk => OkV.grow S k kk ⟨hb, t, rfl⟩
  | ba b =>
   obtain ⟨_, ho, hb⟩ := L
   rw [<- Option.some.inj h] at hz ⊢
   exact bytes_ba ho (by rw [size_u8s]; exact hz) (OkV.tok S _ ⟨hb, _, rfl⟩)
  | _ => exact nn h
 | _ => exact nn h
theorem noPy_one (a c : Int) (h : c = 1 \/ c = -1) : Builtin.divisionGoesByPylong a c = false := by
 refine PyProof.noPylong_of_log2 ?_
 rcases h with rfl | rfl <;> decide
theorem max_fin (S : St C g envs env ρ lv hp s) {a b : Int} {t u : Tok} {h' : Heap} (tk : Nat) (k : ∀ b o, s.heap.get? b = some o -> h'.get? b = some o) :
  OkV C g envs env ρ lv s (.ok (.int (max a b)) hp) (if b > a then Value.int b u else Value.int a t) { s with heap := h', toks := tk } := by
 by_cases z : b > a
 ·rw [if_pos z, Int.max_eq_right (Int.le_of_lt z)]; exact OkV.grow S tk k ⟨_, rfl⟩
 ·rw [if_neg z, Int.max_eq_left (Int.not_lt.mp z)]; exact OkV.grow S tk k ⟨_, rfl⟩
theorem ints1 {ws : List Value} {a : Int} (h : IntsAre ws [a]) : ∃ t, ws = [.int a t] := by
 cases h with
 | cons _ t r => cases r; exact ⟨t, rfl⟩
theorem ints2 {ws : List Value} {a b : Int} (h : IntsAre ws [a, b]) : ∃ t u, ws = [.int a t, .int b u] := by
 cases h with
 | cons _ t r => obtain ⟨u, rfl⟩ := ints1 r; exact ⟨t, u, rfl⟩
theorem ints3 {ws : List Value} {a b c : Int} (h : IntsAre ws [a, b, c]) : ∃ t u v, ws = [.int a t, .int b u, .int c v] := by
 cases h with
 | cons _ t r => obtain ⟨u, v, rfl⟩ := ints2 r; exact ⟨t, u, v, rfl⟩
theorem range_ok (S : St C g envs env ρ lv hp s) {l : List Int} {v : V} {ws : List Value} (hv : IntsAre ws l) (h : rangeB l = some v) : wpX C.M A (call (.type "range") ws) (OkV C g envs env ρ lv s (.ok v hp)) E s := by
 cases l with
 | nil => exact nn h
 | cons a l => cases l with
  | nil =>
   obtain ⟨t, rfl⟩ := ints1 hv
   rw [<- Option.some.inj h]; exact wpX_any (call_range_1 (range_push S _))
  | cons b l => cases l with
   | nil =>
    obtain ⟨t, u, rfl⟩ := ints2 hv
    rw [<- Option.some.inj h]; exact wpX_any (call_range_2 (range_push S _))
   | cons c l =>
    obtain ⟨q, h⟩ := ite_some h
    rw [List.isEmpty_iff.mp q.1] at hv
    obtain ⟨t, u, v, rfl⟩ := ints3 hv
    rw [<- Option.some.inj h]
    exact wpX_any (call_range_3 (by rcases q.2 with z | z <;> rw [z] <;> decide) (range_push S _) (.inl (noPy_one _ _ q.2)))
theorem chr?_eq {v : V} {c : Nat} (h : chr? v = some c) : v = .str [c] := by
 cases v with
 | str s => cases s with
  | nil => exact nn h
  | cons d r =>
   obtain ⟨q, e⟩ := ite_some h
   rw [List.isEmpty_iff.mp q, Option.some.inj e]
 | _ => exact nn h
theorem max2_eq {l : List Int} {m : Int} (h : max2 l = some m) : ∃ a b, l = [a, b] /\ m = max a b := by
 cases l with
 | nil => exact nn h
 | cons a l => cases l with
  | nil => exact nn h
  | cons b l =>
   obtain ⟨q, e⟩ := ite_some h
   exact ⟨a, b, by rw [List.isEmpty_iff.mp q], (Option.some.inj e).symm⟩
theorem sum_ok (S : St C g envs env ρ lv hp s) (Hn : A.handled = none) {i : Nat} {x dx : Addr} {l : List Int} (hi : ρ[i]? = some (x, dx)) (h : (listAt i hp).bind intsOf = some l) : wpX C.M A (call (.builtin "sum") [.ref x]) (OkV C g envs env ρ lv s (.ok (.int l.sum) hp)) E s := by
 obtain ⟨vs, e2, e3⟩ := Option.bind_eq_some_iff.mp h
 obtain ⟨ws, hl, r⟩ := isList_at S e2 hi
 obtain ⟨xs, e4, e5⟩ := ints_items (r.ints e3)
 rw [<- e5] at hl
 refine wpX_any (sum_intListG Hn hl fun h' tk t' k => ?_)
 have e : PySem.preSum (numAt xs.toArray) xs.toArray.size = l.sum := by
  rw [List.size_toArray, preSum_ints xs xs.length (Nat.le_refl _), List.take_length, e4]
 rw [e]
 exact OkV.grow S tk k ⟨_, rfl⟩
theorem ite_none {α : Type} {c : Bool} {x : Option α} {b : α} (h : (if c = true then none else x) = some b) : c = false /\ x = some b := by
 cases c with
 | true => exact nn h
 | false => exact ⟨rfl, h⟩
theorem builtin_ok (S : St C g envs env ρ lv hp s) (H : Han A s.heap) {hm : Bool} (Hn : hm = false -> A.handled = none) {b : BI} {args : List V} {ws : List Value} {out : Out V} (hv : VRels ρ s.heap args ws) (h : builtin hm b args hp = some out) :
  wpX C.M A (call (biV b) ws) (OkV C g envs env ρ lv s out) E s := by
 cases b with
 | len =>
  obtain ⟨v, ev, h⟩ := Option.bind_eq_some_iff.mp h
  obtain ⟨n, e1, h⟩ := Option.bind_eq_some_iff.mp h
  obtain ⟨q, h⟩ := ite_some h
  obtain ⟨w, rfl, hw⟩ := hv.one ev
  rw [<- Option.some.inj h]
  exact wpX_any (len_ok S hw e1 q)
 | range =>
  obtain ⟨l, e1, h⟩ := Option.bind_eq_some_iff.mp h
  obtain ⟨v, e2, rfl⟩ := Option.map_eq_some_iff.mp h
  exact range_ok S (hv.ints e1) e2
 | bytes =>
  obtain ⟨v, ev, h⟩ := Option.bind_eq_some_iff.mp h
  obtain ⟨l, e1, h⟩ := Option.bind_eq_some_iff.mp h
  obtain ⟨q, h⟩ := ite_some h
  obtain ⟨w, rfl, hw⟩ := hv.one ev
  rw [<- Option.some.inj h]
  exact wpX_any (bytes_ok S H hw e1 q)
 | bytearray =>
  obtain ⟨q, h⟩ := ite_some h
  rw [List.isEmpty_iff.mp q] at hv
  rw [show ws = [] from hv, <- Option.some.inj h]
  exact ba_make fun h' e k => S.newBa _ k (none_at_end _) e (by intro x hx; cases hx)
 | ord =>
  obtain ⟨c, h', rfl⟩ := Option.map_eq_some_iff.mp h
  obtain ⟨v, ev, e⟩ := Option.bind_eq_some_iff.mp h'
  obtain ⟨w, rfl, hw⟩ := hv.one ev
  obtain ⟨_, t, rfl⟩ := hw.str (i := [c]) (by rw [chr?_eq e]; rfl)
  exact wpX_any (P.ord_of_char (OkV.tok S _ ⟨_, rfl⟩))
 | chr =>
  obtain ⟨i, e, h⟩ := Option.bind_eq_some_iff.mp h
  obtain ⟨q, h⟩ := ite_some h
  obtain ⟨v, ev, e⟩ := Option.bind_eq_some_iff.mp e
  obtain ⟨w, rfl, hw⟩ := hv.one ev
  obtain ⟨t, rfl⟩ := hw.int e
  rw [<- Option.some.inj h]
  refine wpX_any (P.chr_of_int (by simp; omega) (OkV.tok S _ ⟨?_, _, rfl⟩))
  intro c hc
  rw [List.mem_singleton.mp hc]; omega
 | sum =>
  obtain ⟨q, h⟩ := ite_none h
  obtain ⟨i, e, h⟩ := Option.bind_eq_some_iff.mp h
  obtain ⟨l, e1, rfl⟩ := Option.map_eq_some_iff.mp h
  obtain ⟨v, ev, e⟩ := Option.bind_eq_some_iff.mp e
  obtain ⟨w, rfl, hw⟩ := hv.one ev
  obtain ⟨x, dx, rfl, hi⟩ := hw.ref e
  exact sum_ok S (Hn q) hi e1
 | max =>
  obtain ⟨q, h⟩ := ite_none h
  obtain ⟨l, e, h⟩ := Option.bind_eq_some_iff.mp h
  obtain ⟨m, e1, rfl⟩ := Option.map_eq_some_iff.mp h
  obtain ⟨a, b, rfl, rfl⟩ := max2_eq e1
  obtain ⟨t, u, rfl⟩ := ints2 (hv.ints e)
  exact wpX_any (max_two_ints (Hn q) fun h' tk k => max_fin S tk k)
end
noncomputable def MK.id : MK -> String
 | .lapp => "list.append"
 | .lext => "list.extend"
 | .lpop => "list.pop"
 | .bapp => "bytearray.append"
 | .bext => "bytearray.extend"
 | .join => "str.join"
 | .fn _ => ""
structure NmOk (C : Dt) : Prop where
 inj : ∀ i j, C.nm i = C.nm j -> i = j
 dot : ∀ i, C.nm i ≠ (".0" : Str)
 append : C.nm C.T.N.append = Str.ofString "append"
 extend : C.nm C.T.N.extend = Str.ofString "extend"
 pop : C.nm C.T.N.pop = Str.ofString "pop"
 join : C.nm C.T.N.join = Str.ofString "join"
 why : C.nm C.T.N.why = Str.ofString "why"
 at_ : C.nm C.T.N.at_ = Str.ofString "at"
section
variable {C : Cx} {g : Base} {envs : List Env} {env : Env} {ρ : Env2} {lv : Loc} {hp : Hp} {s : Shared} {A : Around} {E : Value -> Shared -> Prop}
theorem St.setList (S : St C g envs env ρ lv hp s) {i : Nat} {x dx : Addr} {vs vs' : List V} {ws' : List Value} {n : Nat} {h' : Heap} (t : Nat) (hi : ρ[i]? = some (x, dx)) (ho : listAt i hp = some vs) (hz : i ≠ 0) (k : ∀ b o, b ≠ x -> s.heap.get? b = some o -> h'.get? b = some o)
  (e : h'.get? x = some { cls := .type "list", data := .seq ws'.toArray n }) (r : VRels ρ s.heap vs' ws') :
  St C g envs env ρ lv (hp.set i (.list vs')) { s with heap := h', toks := t } /\ Ext ρ s.heap ρ h' := by
 obtain ⟨R', st⟩ := S.R.upd (h' := h') (o' := .list vs') hi (listAt_some ho) (fun b o hb _ e => k b o hb e) (fun st => ⟨(led_at S (listAt_some ho) hi).1, ws', n, e, r.mono (List.prefix_refl _) st⟩) rfl (fun q => absurd q hz)
 exact ⟨⟨R', S.gens, S.os⟩, List.prefix_refl _, st⟩
theorem St.setBa (S : St C g envs env ρ lv hp s) {i : Nat} {x dx : Addr} {b b' : List Int} {h' : Heap} (t : Nat) (hi : ρ[i]? = some (x, dx)) (ho : baAt i hp = some b) (k : ∀ b o, b ≠ x -> s.heap.get? b = some o -> h'.get? b = some o)
  (e : h'.get? x = some (baO (u8s b'))) (r : InB b') :
  St C g envs env ρ lv (hp.set i (.ba b')) { s with heap := h', toks := t } /\ Ext ρ s.heap ρ h' := by
 obtain ⟨R', st⟩ := S.R.upd (h' := h') (o' := .ba b') hi (baAt_some ho) (fun b o hb _ e => k b o hb e) (fun st => ⟨(led_at S (baAt_some ho) hi).1, e, r⟩)
 exact ⟨⟨R', S.gens, S.os⟩, List.prefix_refl _, st⟩
theorem strs_of {ρ : Env2} {h : Heap} : ∀ {vs : List V} {ws : List Value} {ss : List (List Nat)}, VRels ρ h vs ws -> strsOf vs = some ss -> ∃ l : List (Str × Tok), ws = strValues l /\ l.map (·.1) = ss.map strOf /\ ∀ s ∈ ss, InS s
 | [], _, _, x, e => by
  rw [show _ = [] from x, <- Option.some.inj e]; exact ⟨[], rfl, rfl, fun _ h => nomatch h⟩
 | v :: vs, _, _, x, e => by
  obtain ⟨w, r, rfl, x, z⟩ := x
  cases v with
  | str s =>
   obtain ⟨ss, e', rfl⟩ := Option.map_eq_some_iff.mp e
   obtain ⟨hx, t, rfl⟩ := x
   obtain ⟨l, rfl, e2, e3⟩ := strs_of z e'
   exact ⟨(strOf s, t) :: l, rfl, congrArg (strOf s :: ·) e2, fun y hy => (List.mem_cons.mp hy).elim (fun q => q ▸ hx) (e3 y)⟩
  | _ => exact nn e
theorem glued_nil : ∀ (ss : List (List Nat)), Builtin.Str.glued (⟨#[]⟩ : Str) (ss.map strOf) = strOf ss.flatten := by
 have key : ∀ (ss : List (List Nat)) (acc : Array Nat), (ss.map strOf).foldl (fun acc p => acc ++ (⟨#[]⟩ : Str).cps ++ p.cps) acc = acc ++ ss.flatten.toArray := by
  intro ss
  induction ss with
  | nil => intro acc; simp
  | cons s r ih => intro acc; rw [List.map_cons, List.foldl_cons, ih, List.flatten_cons]; simp [strOf, Array.append_assoc]
 intro ss
 cases ss with
 | nil => rfl
 | cons s r =>
  show (⟨(r.map strOf).foldl _ s.toArray⟩ : Str) = _
  rw [key, List.flatten_cons, strOf, List.append_toArray]
theorem joinLen (ss : List (List Nat)) : ∀ (acc : Nat), ((ss.map strOf).foldl (fun n s => n + s.length + 0) acc) = acc + ss.flatten.length := by
 induction ss with
 | nil => intro acc; simp
 | cons s r ih => intro acc; rw [List.map_cons, List.foldl_cons, ih, strOf_len, List.flatten_cons, List.length_append, Nat.add_zero, Nat.add_assoc]
theorem join_ok (S : St C g envs env ρ lv hp s) {t : Tok} {j : Nat} {x dx : Addr} {vs : List V} {ss : List (List Nat)} (hj : ρ[j]? = some (x, dx)) (h : listAt j hp = some vs) (hss : strsOf vs = some ss) (hz : ss.flatten.length <= big) :
  wpAny C.M A (call (.builtin "str.join") [.str ⟨#[]⟩ t, .ref x]) (OkV C g envs env ρ lv s (.ok (.str ss.flatten) hp)) E s := by
 obtain ⟨ws, hl, r⟩ := isList_at S h hj
 obtain ⟨l, rfl, e2, e3⟩ := strs_of r hss
 have hb := Nat.le_trans hz big_le
 have hlen : (l.map (·.1)).toArray.foldl (· + ·.length + (⟨#[]⟩ : Str).length) 0 = ss.flatten.length := by
  rw [e2, List.foldl_toArray]
  exact (joinLen ss 0).trans (Nat.zero_add _)
 have hin : InS ss.flatten := fun c hc => (List.mem_flatten.mp hc).elim fun y q => e3 y q.1 c q.2
 have fin : ∀ t' k, OkV C g envs env ρ lv s (.ok (.str ss.flatten) hp) (.str (strOf ss.flatten) t') { s with toks := k } := fun t' k => OkV.tok S k ⟨hin, _, rfl⟩
 have gen : (Made.str (Builtin.Str.glued ⟨#[]⟩ (l.map (·.1)))).post (fun v s' => wants (OkV C g envs env ρ lv s (.ok (.str ss.flatten) hp)) E (.ok (.ret v)) s') s := by
  rw [e2, glued_nil]
  exact ⟨(strOf_len _).symm ▸ hb, fin _ _⟩
 refine call_meets F.slot_str_join (typeIs_str _ _ _) F.entry_str_join (F.args_str_join_2 _ _) (meets_str_join_list _ t x l (by rw [hlen]; exact decide_eq_false (Nat.not_lt.mpr hb))) ⟨hl, ?_⟩
 clear hl hlen hb r
 cases l with
 | nil => exact gen
 | cons p l => cases l with
  | cons _ _ => exact gen
  | nil =>
   have e : p.1 = strOf ss.flatten := by
    rw [<- glued_nil, <- e2]; rfl
   show OkV C g envs env ρ lv s _ (.str p.1 p.2) s
   rw [e]
   exact fin p.2 s.toks
theorem u8s_push (b : List Int) (n : Int) : (u8s b).push n.toNat.toUInt8 = u8s (b ++ [n]) := by simp [u8s, Nat.toUInt8]
theorem u8s_append (b c : List Int) : u8s b ++ u8s c = u8s (b ++ c) := by simp [u8s]
theorem setAns {s' : Shared} {i : Nat} {o : O} (x : St C g envs env ρ lv (hp.set i o) s' /\ Ext ρ s.heap ρ s'.heap) : OkV C g envs env ρ lv s (.ok .none (hp.set i o)) .none s' :=
 ⟨_, x.1, x.2, rfl⟩
theorem baFin (S : St C g envs env ρ lv hp s) {i : Nat} {x dx : Addr} {b l : List Int} (hi : ρ[i]? = some (x, dx)) (q : baAt i hp = some b) (hin : InB b) (h' : Heap) (hl : InB l) (e1 : h'.get? x = some (baO (u8s b ++ u8s l)))
  (e2 : ∀ c o, c ≠ x -> s.heap.get? c = some o -> h'.get? c = some o) : OkV C g envs env ρ lv s (.ok .none (hp.set i (.ba (b ++ l)))) .none { s with heap := h' } := by
 rw [u8s_append] at e1
 exact setAns (S.setBa s.toks hi q e2 e1 fun z hz => (List.mem_append.mp hz).elim (hin z) (hl z))
theorem sepOk_eq {v : V} (h : sepOk v = true) : v = .str [] := by
 cases v with
 | str s => exact congrArg _ (List.isEmpty_iff.mp h)
 | _ => exact Bool.noConfusion (show false = true from h)
theorem room2 {a b : Nat} (h : a <= big) (h' : b <= big) : a + b <= sizeLine := Nat.le_trans (Nat.add_le_add h h') (by rw [sizeLine_eq]; decide)
theorem room1 {a : Nat} (h : a <= big) : a < sizeLine := Nat.lt_of_le_of_lt h (by rw [sizeLine_eq]; decide)
theorem lapp_ok (S : St C g envs env ρ lv hp s) {i : Nat} {x dx : Addr} {vs : List V} {v : V} {w : Value} (hi : ρ[i]? = some (x, dx)) (q : listAt i hp = some vs) (hv : VRel ρ s.heap v w) (qb : vs.length <= big /\ i ≠ 0) :
  wpAny C.M A (call (.builtin "list.append") [.ref x, w]) (OkV C g envs env ρ lv s (.ok .none (hp.set i (.list (vs ++ [v]))))) E s := by
 obtain ⟨us, n, ho, r⟩ := list_at S q hi
 refine wpAny_list_append_plain (hl := ⟨n, ho⟩) (fun h' e1 e2 => ?_) (by rw [List.size_toArray, r.length]; exact Nat.le_of_lt (room1 qb.1))
 obtain ⟨n', e1⟩ := e1
 exact setAns (S.setList s.toks hi q qb.2 (fun b o hb e => (e2.2 b hb).trans e) (n := n') (ws' := us ++ [w]) (by rw [<- List.push_toArray]; exact e1) (r.append (.cons hv .nil)))
theorem lext_ok (S : St C g envs env ρ lv hp s) {i j : Nat} {x dx y dy : Addr} {vs vs₂ : List V} (hi : ρ[i]? = some (x, dx)) (q : listAt i hp = some vs) (hj : ρ[j]? = some (y, dy)) (q2 : listAt j hp = some vs₂) (qb : vs.length <= big /\ vs₂.length <= big /\ i ≠ 0) :
  wpAny C.M A (call (.builtin "list.extend") [.ref x, .ref y]) (OkV C g envs env ρ lv s (.ok .none (hp.set i (.list (vs ++ vs₂))))) E s := by
 obtain ⟨us, n, ho, r⟩ := list_at S q hi
 obtain ⟨us', n', ho', r'⟩ := list_at S q2 hj
 have hl := room2 (r.length.symm ▸ qb.1) (r'.length.symm ▸ qb.2.1)
 have hs : us.toArray.size + us'.toArray.size <= sizeLine := by rw [List.size_toArray, List.size_toArray]; exact hl
 have e1 := Heap.get?_update_self (Obj.mapSeq fun x => x ++ us'.toArray) ho rfl
 refine call_meets PySem.F.slot_list_extend ⟨_, ho, rfl⟩ PySem.F.entry_list_extend (PySem.F.args_list_extend_2 _ _)
  (PySem.AutoSeq1.list_extend_list_list_0 x us.toArray n y us'.toArray n' ?_ ?_ ?_) ⟨ho, ho', ?_⟩
 ·simp only [Builtin.List.listTooLong, List.size_toArray]
  simp
  intro _
  omega
 ·omega
 ·omega
 ·have e1 : (s.heap.update x (Obj.mapSeq fun x => x ++ us'.toArray)).get? x = some { cls := .type "list", data := .seq (us ++ us').toArray (if (us.toArray ++ us'.toArray).size == us.toArray.size then n else n + 1) } := by rw [<- List.append_toArray]; exact e1
  exact setAns (S.setList s.toks hi q qb.2.2 (fun b o hb e => ((Heap.SameBut.update ..).2 b hb).trans e) e1 (r.append r'))
theorem lpop_ok (S : St C g envs env ρ lv hp s) {i : Nat} {x dx : Addr} {vs : List V} {v : V} (hi : ρ[i]? = some (x, dx)) (q : listAt i hp = some vs) (qb : vs.length <= big /\ i ≠ 0) (e1 : vs.getLast? = some v) :
  wpAny C.M A (call (.builtin "list.pop") [.ref x]) (OkV C g envs env ρ lv s (.ok v (hp.set i (.list vs.dropLast)))) E s := by
 obtain ⟨us, n, ho, r⟩ := list_at S q hi
 rw [List.getLast?_eq_getElem?] at e1
 obtain ⟨y, ey, ry⟩ := r.get e1
 refine Copied.pop_at (y := y) ho (by rw [List.getElem?_toArray, List.size_toArray, r.length]; exact ey) (fun h' e2 e3 => ?_) (by rw [List.size_toArray, r.length]; exact Nat.le_of_lt (room1 qb.1))
 have e3' : h'.get? x = some { cls := .type "list", data := .seq us.dropLast.toArray (n + 1) } := by rw [<- List.pop_toArray]; exact e3
 obtain ⟨S', X⟩ := S.setList s.toks hi q qb.2 (fun b o hb e => (e2.2 b hb).trans e) e3' r.dropLast
 exact ⟨_, S', X, ry.ext X⟩
theorem bapp_ok (S : St C g envs env ρ lv hp s) {i : Nat} {x dx : Addr} {b : List Int} {n : Int} {t : Tok} (hi : ρ[i]? = some (x, dx)) (q : baAt i hp = some b) (qb : b.length <= big /\ 0 <= n /\ n < 256) :
  wpX C.M A (call (.builtin "bytearray.append") [.ref x, .int n t]) (OkV C g envs env ρ lv s (.ok .none (hp.set i (.ba (b ++ [n]))))) E s := by
 obtain ⟨ho, hin⟩ := ba_at S (baAt_some q) hi
 refine ba_append ho qb.2.1 qb.2.2 (by rw [size_u8s]; exact room1 qb.1) fun h' e1 e2 => ?_
 rw [u8s_push] at e1
 exact setAns (S.setBa s.toks hi q (fun b o hb e => (e2.2 b hb).trans e) e1 fun z hz => (List.mem_append.mp hz).elim (hin z) fun hz => List.mem_singleton.mp hz ▸ qb.2)
theorem bext_ok (S : St C g envs env ρ lv hp s) (Hn : A.handled = none) {i : Nat} {x dx : Addr} {b l : List Int} {v : V} {w : Value} (hi : ρ[i]? = some (x, dx)) (q : baAt i hp = some b) (hv : VRel ρ s.heap v w) (e1 : bytesFrom v hp = some l) (qb : b.length <= big) (ql : l.length <= big) :
  wpX C.M A (call (.builtin "bytearray.extend") [.ref x, w]) (OkV C g envs env ρ lv s (.ok .none (hp.set i (.ba (b ++ l))))) E s := by
 obtain ⟨ho, hin⟩ := ba_at S (baAt_some q) hi
 have room : ∀ {m : List Int}, m = l -> (u8s b).size + (u8s m).size <= sizeLine := fun e => by rw [e, size_u8s, size_u8s]; exact room2 qb ql
 cases v with
 | bytes m =>
  obtain ⟨hm', t, rfl⟩ := hv
  have e := Option.some.inj e1
  exact ba_extend_bytes ho (room e) fun h' e1 e2 => e ▸ baFin S hi q hin h' hm' e1 fun c o hc e => (e2.2 c hc).trans e
 | ref j =>
  obtain ⟨y, dy, rfl, hj⟩ := hv
  obtain ⟨o, q2, e1⟩ := Option.bind_eq_some_iff.mp e1
  have L := led_at S q2 hj
  cases o with
  | list vs =>
   obtain ⟨_, us, n, hl, r⟩ := L
   obtain ⟨l', e3, e4⟩ := Option.bind_eq_some_iff.mp e1
   obtain ⟨q3, e4⟩ := ite_some e4
   have e := Option.some.inj e4
   exact ba_extend_ints Hn ho ⟨_, hl, rfl, n, rfl⟩ (r.ints e3) (bytesOk_in q3) (by rw [size_u8s, e]; exact room2 qb ql) fun h' e5 e6 => e ▸ baFin S hi q hin h' (bytesOk_in q3) e5 e6
  | ba b₂ =>
   obtain ⟨_, ho2, hin2⟩ := L
   have e := Option.some.inj e1
   exact ba_extend_ba ho ho2 (room e) fun h' e1 e2 => e ▸ baFin S hi q hin h' hin2 e1 fun c o hc e => (e2.2 c hc).trans e
  | _ => exact nn e1
 | _ => exact nn e1
theorem method_ok (S : St C g envs env ρ lv hp s) {hm : Bool} (Hn : hm = false -> A.handled = none) {k : MK} {o : V} {args : List V} {w : Value} {ws : List Value} {out : Out V}
  (hw : VRel ρ s.heap o w) (hv : VRels ρ s.heap args ws) (h : method hm k o args hp = some out) : wpX C.M A (call (.builtin k.id) (w :: ws)) (OkV C g envs env ρ lv s out) E s := by
 cases k with
 | join =>
  obtain ⟨q, h⟩ := ite_some h
  obtain ⟨j, e, h⟩ := Option.bind_eq_some_iff.mp h
  obtain ⟨ss, e1, h⟩ := Option.bind_eq_some_iff.mp h
  obtain ⟨qz, h⟩ := ite_some h
  obtain ⟨vs, e3, e4⟩ := Option.bind_eq_some_iff.mp e1
  obtain ⟨v, ev, e⟩ := Option.bind_eq_some_iff.mp e
  obtain ⟨u, rfl, hu⟩ := hv.one ev
  obtain ⟨x, dx, rfl, hj⟩ := hu.ref e
  rw [sepOk_eq q] at hw
  obtain ⟨_, t, rfl⟩ := hw
  rw [<- Option.some.inj h]
  exact wpX_any (join_ok S hj e3 e4 qz.1)
 | lapp =>
  obtain ⟨i, ei, h⟩ := Option.bind_eq_some_iff.mp h
  obtain ⟨vs, q, h⟩ := Option.bind_eq_some_iff.mp h
  obtain ⟨v, ev, h⟩ := Option.bind_eq_some_iff.mp h
  obtain ⟨qb, h⟩ := ite_some h
  obtain ⟨x, dx, rfl, hi⟩ := hw.ref ei
  obtain ⟨u, rfl, hu⟩ := hv.one ev
  rw [<- Option.some.inj h]
  exact wpX_any (lapp_ok S hi q hu qb)
 | lext =>
  obtain ⟨i, ei, h⟩ := Option.bind_eq_some_iff.mp h
  obtain ⟨vs, q, h⟩ := Option.bind_eq_some_iff.mp h
  obtain ⟨j, e, h⟩ := Option.bind_eq_some_iff.mp h
  obtain ⟨vs₂, q2, h⟩ := Option.bind_eq_some_iff.mp h
  obtain ⟨qb, h⟩ := ite_some h
  obtain ⟨v, ev, e⟩ := Option.bind_eq_some_iff.mp e
  obtain ⟨x, dx, rfl, hi⟩ := hw.ref ei
  obtain ⟨u, rfl, hu⟩ := hv.one ev
  obtain ⟨y, dy, rfl, hj⟩ := hu.ref e
  rw [<- Option.some.inj h]
  exact wpX_any (lext_ok S hi q hj q2 qb)
 | lpop =>
  obtain ⟨i, ei, h⟩ := Option.bind_eq_some_iff.mp h
  obtain ⟨vs, q, h⟩ := Option.bind_eq_some_iff.mp h
  obtain ⟨qb, h⟩ := ite_some h
  obtain ⟨v, e1, rfl⟩ := Option.map_eq_some_iff.mp h
  obtain ⟨x, dx, rfl, hi⟩ := hw.ref ei
  rw [List.isEmpty_iff.mp qb.1] at hv
  rw [show ws = [] from hv]
  exact wpX_any (lpop_ok S hi q qb.2 e1)
 | bapp =>
  obtain ⟨i, ei, h⟩ := Option.bind_eq_some_iff.mp h
  obtain ⟨b, q, h⟩ := Option.bind_eq_some_iff.mp h
  obtain ⟨n, e, h⟩ := Option.bind_eq_some_iff.mp h
  obtain ⟨qb, h⟩ := ite_some h
  obtain ⟨v, ev, e⟩ := Option.bind_eq_some_iff.mp e
  obtain ⟨x, dx, rfl, hi⟩ := hw.ref ei
  obtain ⟨u, rfl, hu⟩ := hv.one ev
  obtain ⟨t, rfl⟩ := hu.int e
  rw [<- Option.some.inj h]
  exact bapp_ok S hi q qb
 | bext =>
  obtain ⟨i, ei, h⟩ := Option.bind_eq_some_iff.mp h
  obtain ⟨b, q, h⟩ := Option.bind_eq_some_iff.mp h
  obtain ⟨v, ev, h⟩ := Option.bind_eq_some_iff.mp h
  obtain ⟨qb, h⟩ := ite_some h
  obtain ⟨l, e1, h⟩ := Option.bind_eq_some_iff.mp h
  obtain ⟨ql, h⟩ := ite_some h
  obtain ⟨x, dx, rfl, hi⟩ := hw.ref ei
  obtain ⟨u, rfl, hu⟩ := hv.one ev
  rw [<- Option.some.inj h]
  exact bext_ok S (Hn qb.2) hi q hu e1 qb.1 ql
 | fn f => exact nn h
end
end Mine
namespace Mine
open PySem PySem.W PyProof.Rows
open PySem.Builtin.ObjectAttr
structure ClsOk (C : Cx) (a : Addr) (ga : String) : Prop where
 ga : findIn C.K (.ref a) "__getattribute__" = some (some (.builtin ga))
 gt : findIn C.K (.ref a) "__getattr__" = some none
 cd : hasDictIn C.K a = true
 no : ∀ n, C.at_ n = true -> findIn C.K (.ref a) (C.nm n) = some none
structure CxCls (C : Cx) : Prop where
 nm : NmOk C.toDt
 kin : C.K.In C.H0
 inst : ∀ c, ClsOk C (C.ca c) "object.__getattribute__"
 exc : ∀ c, ClsOk C (C.ea c) "BaseException.__getattribute__"
 sub : ∀ c, subIn C.K (.ref (C.ea c)) (.type "BaseException") = some true
 meth : ∀ c m f, C.T.meth c m = some f -> findIn C.K (.ref (C.ca c)) (C.nm m) = some (some (.ref (C.fa f))) /\ typeIn C.K (.ref (C.fa f)) = some (.type "function")
 init : ∀ c f, C.T.init c = some f -> findIn C.K (.ref (C.ca c)) "__init__" = some (some (.ref (C.fa f))) /\ typeIn C.K (.ref (C.fa f)) = some (.type "function")
 makes : ∀ c, makesIn C.K (C.ca c) = true
 set : ∀ c, findIn C.K (.ref (C.ca c)) "__setattr__" = some (some (.builtin "object.__setattr__")) /\ plainOver C.K (C.ca c) = true
namespace FBa
theorem slot_bga : Slot "BaseException" "__getattribute__" "BaseException.__getattribute__" :=
 .of (owner := "BaseException") (n := "__getattribute__") (by rw [typeLookup_type, builtinLookup_eq_fast]; kernel_rfl) (by decide +kernel) (by decide +kernel) (by decide +kernel)
  (by first | exact .inl (by decide +kernel) | exact .inr (by decide +kernel)) (by rw [isSubtype_type]; kernel_rfl)
end FBa
theorem VRel.handed {ρ : Env2} {h : Heap} {v : V} {w : Value} (x : VRel ρ h v w) : handedIn w = true := by
 cases v with
 | none | bool => rw [show w = _ from x]; rfl
 | int => obtain ⟨_, rfl⟩ := x; rfl
 | str | bytes => obtain ⟨_, _, rfl⟩ := x; rfl
 | range => obtain ⟨_, _, _, _, rfl, _⟩ := x; rfl
 | tup | ref => obtain ⟨_, _, rfl, _⟩ := x; rfl
section
variable {C : Cx} {D : Dt} {g : Base} {envs : List Env} {env : Env} {ρ : Env2} {lv : Loc} {hp : Hp} {s : Shared} {A : Around} {E : Value -> Shared -> Prop} {h : Heap}
theorem isStr_str (n m : Str) (t : Tok) : (Value.str n t).isStr m = (n == m) := rfl
theorem EsRel.noRef : ∀ {fs : List (Nat × V)} {es : List DictEntry}, EsRel D ρ h fs es -> es.any (·.refKey) = false
 | [], _, x => by rw [show _ = [] from x]; rfl
 | _ :: _, _, x => by
  obtain ⟨w, a, t, r, rfl, _, x⟩ := x
  rw [List.any_cons, EsRel.noRef x]; rfl
theorem EsRel.len : ∀ {fs : List (Nat × V)} {es : List DictEntry}, EsRel D ρ h fs es -> es.length = fs.length
 | [], _, x => by rw [show _ = [] from x]; rfl
 | _ :: _, _, x => by
  obtain ⟨w, a, t, r, rfl, _, x⟩ := x
  exact congrArg Nat.succ (EsRel.len x)
theorem EsRel.find (inj : ∀ i j, D.nm i = D.nm j -> i = j) (a : Nat) : ∀ {fs : List (Nat × V)} {es : List DictEntry}, EsRel D ρ h fs es ->
  (∀ v, getF fs a = some v -> ∃ e w, es.find? (·.key.isStr (D.nm a)) = some e /\ e.val = w /\ VRel ρ h v w) /\ (getF fs a = none -> es.find? (·.key.isStr (D.nm a)) = none)
 | [], _, x => by rw [show _ = [] from x]; exact ⟨fun v e => nn e, fun _ => rfl⟩
 | (b, u) :: fs, _, x => by
  obtain ⟨w, hh, t, r, rfl, hv, x⟩ := x
  have ih := EsRel.find inj a x
  by_cases q : a = b
  ·have e1 : getF ((b, u) :: fs) a = some u := by rw [q]; exact List.lookup_cons_self
   have e2 : List.find? (·.key.isStr (D.nm a)) (⟨hh, .str (D.nm b) t, w⟩ :: r) = some (⟨hh, .str (D.nm b) t, w⟩ : DictEntry) := List.find?_cons_of_pos (by rw [q]; exact beq_self_eq_true _)
   rw [e1, e2]
   exact ⟨fun v e => ⟨_, w, rfl, rfl, Option.some.inj e ▸ hv⟩, fun e => nn e.symm⟩
  ·have e1 : getF ((b, u) :: fs) a = getF fs a := by show List.lookup a ((b, u) :: fs) = _; rw [List.lookup_cons, beq_eq_false_iff_ne.mpr q]; rfl
   have e2 : List.find? (·.key.isStr (D.nm a)) (⟨hh, .str (D.nm b) t, w⟩ :: r) = List.find? (·.key.isStr (D.nm a)) r := List.find?_cons_of_neg (by rw [isStr_str, beq_iff_eq]; exact fun z => q (inj _ _ z.symm))
   rw [e1, e2]
   exact ih
theorem EsRel.get (inj : ∀ i j, D.nm i = D.nm j -> i = j) {a : Nat} {v : V} {fs : List (Nat × V)} {es : List DictEntry} (r : EsRel D ρ h fs es) (e : getF fs a = some v) : ∃ w, getL (D.nm a) es = some (some w) /\ VRel ρ h v w := by
 obtain ⟨en, w, e1, e2, e3⟩ := (r.find inj a).1 v e
 refine ⟨w, ?_, e3⟩
 unfold getL
 rw [e1, <- e2]
theorem EsRel.miss (inj : ∀ i j, D.nm i = D.nm j -> i = j) {a : Nat} {fs : List (Nat × V)} {es : List DictEntry} (r : EsRel D ρ h fs es) (e : getF fs a = none) : getL (D.nm a) es = some none := by
 unfold getL
 rw [(r.find inj a).2 e, r.noRef]; rfl
theorem EsRel.put (inj : ∀ i j, D.nm i = D.nm j -> i = j) {a : Nat} {v : V} {w : Value} (hsh : Int) (t : Tok) (hv : VRel ρ h v w) : ∀ {fs : List (Nat × V)} {es : List DictEntry}, EsRel D ρ h fs es -> EsRel D ρ h (setF fs a v) (putL (D.nm a) hsh (.str (D.nm a) t) w es)
 | [], _, x => by rw [show _ = [] from x]; exact ⟨w, hsh, t, [], rfl, hv, rfl⟩
 | (b, u) :: fs, _, x => by
  obtain ⟨w', hh, t', r, rfl, hu, x⟩ := x
  by_cases q : b = a
  ·have e1 : setF ((b, u) :: fs) a v = (a, v) :: fs := if_pos q
   have e2 : putL (D.nm a) hsh (.str (D.nm a) t) w (⟨hh, .str (D.nm b) t', w'⟩ :: r) = ⟨hh, .str (D.nm b) t', w⟩ :: r := if_pos (by rw [isStr_str, q]; exact beq_self_eq_true _)
   rw [e1, e2, q]; exact ⟨w, hh, t', r, rfl, hv, x⟩
  ·have e1 : setF ((b, u) :: fs) a v = (b, u) :: setF fs a v := if_neg q
   have e2 : putL (D.nm a) hsh (.str (D.nm a) t) w (⟨hh, .str (D.nm b) t', w'⟩ :: r) = ⟨hh, .str (D.nm b) t', w'⟩ :: putL (D.nm a) hsh (.str (D.nm a) t) w r := if_neg (by rw [isStr_str, beq_iff_eq]; exact fun z => q (inj _ _ z))
   rw [e1, e2]; exact ⟨w', hh, t', _, rfl, hu, EsRel.put inj hsh t hv x⟩
theorem St.kin (X : CxCls C) (S : St C g envs env ρ lv hp s) : C.K.In s.heap := X.kin.keeps S.R.stay
theorem inst_at {p : Addr × Addr} {c : Nat} {es : List DictEntry} {n : Nat} (h1 : h.get? p.1 = some (instObj (C.ca c) p.2)) (h2 : h.get? p.2 = some (dictOf es n)) : InstAt h p.1 (instObj (C.ca c) p.2) (C.ca c) (some (dictOf es n)) := ⟨h1, rfl, rfl, h2⟩
theorem exc_at {p : Addr × Addr} {c : Nat} {es : List DictEntry} {n : Nat} {o : Obj} {vs : Array Value} (h1 : h.get? p.1 = some o) (hc : o.cls = .ref (C.ea c)) (hd : o.dict = some p.2) (hv : o.data = .fields vs) (h2 : h.get? p.2 = some (dictOf es n)) :
  InstAt h p.1 o (C.ea c) (some (dictOf es n)) := ⟨h1, hc, by unfold notCls; rw [hv], by rw [hd]; exact h2⟩
theorem findObj_here {a : Addr} {ga : String} (X : ClsOk C a ga) {n : Nat} (hn : C.at_ n = true) {od : Obj} {v : Value} (hl : lookIn (C.nm n) od = some (some v)) : findObj C.K a (some od) (C.nm n) = some (.value v) :=
 findObj_own X.cd (X.no n hn) rfl hl
theorem get_exc {K : Frag} {x Ce : Addr} {ox : Obj} {od : Option Obj} {name : Str} {expr : Bool} {v : Value} {Q : Value -> Shared -> Prop} (X : K.In s.heap) (I : InstAt s.heap x ox Ce od) (hga : findIn K (.ref Ce) "__getattribute__" = some (some (.builtin "BaseException.__getattribute__")))
  (hgt : findIn K (.ref Ce) "__getattr__" = some none) (hb : subIn K (.ref Ce) (.type "BaseException") = some true)
  (hf : findObj K Ce od name = some (.value v)) (hh : handedIn v = true) (hq : Q v { s with toks := s.toks + 1 }) : wpAny C.M A (getAttr (.ref x) name expr) Q E s := by
 obtain ⟨hh', g, d, t, os⟩ := s
 have L0 := I.type (M := C.M)
 have L1 := looks_findIn (M := C.M) X hga
 have L1' := looks_find (M := C.M) X I hf
 have L3 := looks_subIn (M := C.M) X hb
 unfold getAttr getAttrBy
 refine wpAny_bind (wpAny_mkText (wpAny_holding (wpAny_bind (L0.at (wpAny_bind (L1.at ?_))))))
 dsimp only
 rw [show (onTheHeap (Value.ref Ce) && Value.builtin "BaseException.__getattribute__" == Value.builtin "object.__getattribute__") = false from by rw [show (Value.builtin "BaseException.__getattribute__" == Value.builtin "object.__getattribute__") = false from by decide +kernel, Bool.and_false], if_neg (by decide)]
 unfold getAttrByItsOwn
 refine wpAny_bind ?_
 refine (looks_hook (M := C.M) (mc := .ref Ce) (r := none) X (by rw [if_pos (by rfl)]; exact hgt)).at ?_
 refine wpAny_bind (wpAny_attempt (wpAny_holding ?_))
 unfold callGetattribute
 rw [show (expr && onTheHeap (Value.builtin "BaseException.__getattribute__")) = false from Bool.and_false _, if_neg (by decide)]
 unfold boundAndCalled
 rw [FBa.slot_bga.bind]
 refine wpAny_bind (wpAny_pure ?_)
 show wpAny _ _ (call (.builtin "BaseException.__getattribute__") [.ref x, .str name t]) _ _ _
 refine wpAny_call ?_
 refine codeAny_call_builtin FBa.slot_bga.plain F.entry_bexc_ga ?_
 refine @check_slot C.M _ _ ⟨hh', g, d, t + 1, os⟩ "BaseException.__getattribute__" "BaseException" "__getattribute__" (.ref x) [.str name t] [] _ (by decide +kernel) (by decide +kernel) (L0.andThen L3) (F.args_bexc_ga _ _) ?_
 refine wpAny_bind (wpAny_pure (wpAny_bind (wpAny_pure (wpAny_bind (L0.at (wpAny_bind (L1'.at ?_)))))))
 refine wpAny_pure ?_
 show wpAny _ _ (handedOut v) _ _ _
 rw [handedOut_of hh]; exact wpAny_pure hq
theorem getA_ok (X : CxCls C) (S : St C g envs env ρ lv hp s) {o : V} {a : Nat} {w : Value} {out : Out V} {expr : Bool} (hw : VRel ρ s.heap o w) (ha : C.at_ a = true) (h : getA o a hp = some out) :
  wpAny C.M A (getAttr w (C.nm a) expr) (OkV C g envs env ρ lv s out) E s := by
 have KI := S.kin X
 obtain ⟨i, ei, h⟩ := Option.bind_eq_some_iff.mp h
 obtain ⟨o, q, h⟩ := Option.bind_eq_some_iff.mp h
 obtain ⟨fs, ef, h⟩ := Option.bind_eq_some_iff.mp h
 obtain ⟨v, e, rfl⟩ := Option.map_eq_some_iff.mp h
 obtain ⟨x, dx, rfl, hi⟩ := hw.ref ei
 have L := led_at S q hi
 cases o with
 | inst c fs' =>
  obtain ⟨h1, es, n, h2, r⟩ := L
  obtain ⟨u, e1, ru⟩ := r.get X.nm.inj ((Option.some.inj ef).symm ▸ e)
  exact get_value KI (inst_at h1 h2) (X.inst c).ga (findObj_here (X.inst c) ha e1) ru.handed (OkV.tok S _ ru)
 | exc c fs' =>
  obtain ⟨⟨ob, vs, h1, hc, hd, hv, _⟩, es, n, h2, r⟩ := L
  obtain ⟨u, e1, ru⟩ := r.get X.nm.inj ((Option.some.inj ef).symm ▸ e)
  exact get_exc KI (exc_at h1 hc hd hv h2) (X.exc c).ga (X.exc c).gt (X.sub c) (findObj_here (X.exc c) ha e1) ru.handed (OkV.tok S _ ru)
 | _ => exact nn ef
noncomputable def MK.fv (C : Dt) : MK -> Value
 | .fn f => .ref (C.fa f)
 | k => .builtin k.id
def Has (C : Cx) (A : Around) (E : Value -> Shared -> Prop) (s : Shared) (w : Value) (n : Str) (k : MK) : Prop := ∀ pl, wpAny C.M A (getMethod w n pl) (fun r s' => s' = s /\ r = (k.fv C.toDt, [w])) E s
theorem findL_ok (N : NmOk C.toDt) {m : Nat} {x : Addr} {ws : Array Value} {n : Nat} {k : MK} (ho : s.heap.get? x = some { cls := .type "list", data := .seq ws n }) (h : findL C.T.N m = some k) : Has C A E s (.ref x) (C.nm m) k := fun pl => by
 have hd : ∀ a, Value.ref x = .ref a -> ∃ o, s.heap.get? a = some o /\ o.dict = none := fun a e => ⟨_, (Value.ref.inj e) ▸ ho, rfl⟩
 have hT : s.TypeIs (.ref x) "list" := ⟨_, ho, rfl⟩
 unfold findL at h
 by_cases q : m = C.T.N.append
 ·rw [if_pos q] at h
  rw [q, N.append, <- Option.some.inj h]; exact getMethod_builtin hT PySem.F.plainAttrs_list PySem.F.slot_list_append PySem.F.type_list_append hd ⟨rfl, rfl⟩
 rw [if_neg q] at h
 by_cases q : m = C.T.N.extend
 ·rw [if_pos q] at h
  rw [q, N.extend, <- Option.some.inj h]; exact getMethod_builtin hT PySem.F.plainAttrs_list PySem.F.slot_list_extend PySem.F.type_list_extend hd ⟨rfl, rfl⟩
 rw [if_neg q] at h
 obtain ⟨q, h⟩ := ite_some h
 rw [q, N.pop, <- Option.some.inj h]; exact getMethod_builtin hT PySem.F.plainAttrs_list PySem.F.slot_list_pop PySem.F.type_list_pop hd ⟨rfl, rfl⟩
theorem findB_ok (N : NmOk C.toDt) {m : Nat} {x : Addr} {b : Array UInt8} {k : MK} (ho : s.heap.get? x = some { cls := .type "bytearray", data := .bytearray b 0 }) (h : findB C.T.N m = some k) : Has C A E s (.ref x) (C.nm m) k := fun pl => by
 have hd : ∀ a, Value.ref x = .ref a -> ∃ o, s.heap.get? a = some o /\ o.dict = none := fun a e => ⟨_, (Value.ref.inj e) ▸ ho, rfl⟩
 have hT : s.TypeIs (.ref x) "bytearray" := ⟨_, ho, rfl⟩
 unfold findB at h
 by_cases q : m = C.T.N.append
 ·rw [if_pos q] at h
  rw [q, N.append, <- Option.some.inj h]; exact getMethod_builtin hT FBa.plainAttrs FBa.slot_append FBa.type_append hd ⟨rfl, rfl⟩
 rw [if_neg q] at h
 obtain ⟨q, h⟩ := ite_some h
 rw [q, N.extend, <- Option.some.inj h]; exact getMethod_builtin hT FBa.plainAttrs FBa.slot_extend FBa.type_extend hd ⟨rfl, rfl⟩
theorem findK_ok (X : CxCls C) (S : St C g envs env ρ lv hp s) {o : V} {m : Nat} {w : Value} {k : MK} (hw : VRel ρ s.heap o w) (h : findK C.T o m hp = some k) : Has C A E s w (C.nm m) k := by
 cases o with
 | str x =>
  obtain ⟨q, h⟩ := ite_some h
  obtain ⟨_, t, rfl⟩ := hw
  rw [q, X.nm.join, <- Option.some.inj h]
  exact fun pl => getMethod_builtin (typeIs_str _ _ _) PySem.F.plainAttrs_str F.slot_str_join F.type_str_join (fun _ e => nomatch e) ⟨rfl, rfl⟩
 | ref i =>
  obtain ⟨x, dx, rfl, hi⟩ := hw
  obtain ⟨o, q, h⟩ := Option.bind_eq_some_iff.mp h
  have L := led_at S q hi
  cases o with
  | inst c fs =>
   obtain ⟨f, e, h⟩ := Option.bind_eq_some_iff.mp h
   obtain ⟨z, h⟩ := ite_some h
   obtain ⟨h1, es, n, h2, r⟩ := L
   obtain ⟨m1, m2⟩ := X.meth c m f e
   rw [<- Option.some.inj h]
   refine fun pl => method_fn (S.kin X) (inst_at h1 h2) (X.inst c).ga (X.inst c).gt m1 m2 ?_ ⟨rfl, rfl⟩
   show (lookIn (C.nm m) (dictOf es n)).map (·.isSome) = some false
   rw [lookIn_dict, r.miss X.nm.inj (Option.isNone_iff_eq_none.mp z)]; rfl
  | list vs =>
   obtain ⟨_, ws, n, ho, _⟩ := L
   exact findL_ok X.nm ho h
  | ba b =>
   obtain ⟨_, ho, _⟩ := L
   exact findB_ok X.nm ho h
  | exc _ _ => exact nn h
 | _ => exact nn h
theorem St.setInst (S : St C g envs env ρ lv hp s) {i : Nat} {p : Addr × Addr} {c : Nat} {fs fs' : List (Nat × V)} {es' : List DictEntry} {n' : Nat} {h' : Heap} (t : Nat) (hi : ρ[i]? = some p) (ho : hp[i]? = some (.inst c fs)) (hs : Heap.SameBut p.2 s.heap h')
  (e : h'.get? p.2 = some (dictOf es' n')) (r : EsRel C.toDt ρ s.heap fs' es') :
  St C g envs env ρ lv (hp.set i (.inst c fs')) { s with heap := h', toks := t } /\ Ext ρ s.heap ρ h' := by
 obtain ⟨h1, es, n, h2, _⟩ := S.R.led i _ _ hi ho
 have hne : p.1 ≠ p.2 := fun q => by rw [q, h2] at h1; cases h1
 obtain ⟨R', st⟩ := S.R.upd (h' := h') (o' := .inst c fs') hi ho (fun b o _ hb e => (hs.2 b hb).trans e) fun st => ⟨(hs.2 _ hne).trans h1, es', n', e, r.mono (List.prefix_refl _) st⟩
 exact ⟨⟨R', S.gens, S.os⟩, List.prefix_refl _, st⟩
theorem setF_len (a : Nat) (v : V) : ∀ l : List (Nat × V), (setF l a v).length <= l.length + 1
 | [] => Nat.le_refl _
 | (b, u) :: l => by
  by_cases q : b = a
  ·rw [show setF ((b, u) :: l) a v = (a, v) :: l from if_pos q]; exact Nat.le_succ _
  ·rw [show setF ((b, u) :: l) a v = (b, u) :: setF l a v from if_neg q]; exact Nat.succ_le_succ (setF_len a v l)
theorem setA_ok (X : CxCls C) (S : St C g envs env ρ lv hp s) {i : Nat} {a c : Nat} {v : V} {x dx : Addr} {w : Value} {fs : List (Nat × V)} {Q : Unit -> Shared -> Prop} (hi : ρ[i]? = some (x, dx)) (hv : VRel ρ s.heap v w) (ha : C.at_ a = true) (h : hp[i]? = some (.inst c fs)) (hz : fs.length <= big)
  (hQ : ∀ s', St C g envs env ρ lv (hp.set i (.inst c (setF fs a v))) s' -> Ext ρ s.heap ρ s'.heap -> Q () s') : wpAny C.M A (setAttr (.ref x) (C.nm a) w) Q E s := by
 have KI := S.kin X
 obtain ⟨h1, es, n, h2, r⟩ := S.R.led _ _ _ hi h
 obtain ⟨s1, s2⟩ := X.set c
 refine set_plain KI (inst_at h1 h2) s1 ?_
 refine osa_open (s := { s with toks := s.toks + 1 }) (r := none) KI (inst_at h1 h2) s2 (by unfold takerIn; rw [(X.inst c).no a ha]; rfl) fun b => ?_
 obtain ⟨cd, hc, hd'⟩ := any_some (X.inst c).cd
 refine wpAny_bind (wpAny_pure (wpAny_bind (wpAny_bind (wpAny_loadPart h1 (wpAny_bind (looks_clsIn KI hc _ _ _ _ (fun _ _ e => e) ?_))))))
 rw [hd']
 refine wpAny_pure (a := some dx) (wpAny_bind (wpAny_pure (wpAny_bind ?_)))
 unfold nsSet
 refine wpAny_bind (wpAny_bind (wpAny_askSetting (wpAny_pure (wpAny_bind (wpAny_mkText (wpAny_bind (wpAny_loadPart h2 ?_)))))))
 have cc : (!es.toArray.any (·.key.isStr (C.nm a)) && es.toArray.any (·.refKey)) = false := by
  rw [show es.toArray.any (·.refKey) = false by rw [List.any_toArray]; exact r.noRef, Bool.and_false]
 dsimp only
 rw [aRefKeyMayBeTheName_at, cc]
 refine wpAny_updatePart h2 ?_
 have hput := putName_dict (C.nm a) (PyData.keyHash C.w.params (C.nm a)) (.str (C.nm a) (s.toks + 1)) w es n
 have h3 : (s.heap.update dx (Obj.putName (C.nm a) (PyData.keyHash C.w.params (C.nm a)) (.str (C.nm a) (s.toks + 1)) w)).get? dx = some (dictOf (putL (C.nm a) (PyData.keyHash C.w.params (C.nm a)) (.str (C.nm a) (s.toks + 1)) w es) (putN (C.nm a) es n)) := by
  rw [<- hput]; exact Heap.get?_update_self _ h2 (by rw [hput]; rfl)
 have r' := r.put X.nm.inj (a := a) (PyData.keyHash C.w.params (C.nm a)) (s.toks + 1) hv
 refine wpAny_bind (wpAny_lookBehind h3 (pastItsLine_dict (by rw [List.size_toArray, r'.len]; exact Nat.le_trans (setF_len a v fs) (Nat.le_trans (Nat.succ_le_succ hz) (Nat.le_succ_of_le (room1 (Nat.le_refl _)))))) ?_)
 obtain ⟨S', E'⟩ := S.setInst (p := (x, dx)) (s.toks + 2) hi h (Heap.SameBut.update ..) h3 r'
 exact wpAny_pure (hQ _ S' E')
end
end Mine
namespace Mine
open PySem PySem.W PyProof.Rows
section
variable {C : Cx} {A : Around} {E : Value -> Shared -> Prop} {s : Shared}
theorem X_looks {M : Model} {α : Type} {t : Sem α} {a : α} {Q : α -> Shared -> Prop} (x : Looks M s.heap t a) (h : Q a s) : wpX M A t Q E s := wpX_any (x _ _ _ _ (fun _ _ e => e) h)
theorem codeX_call_builtin_at {id : String} {args : Args} {R : Result -> Shared -> Prop} {b : Builtin} (hq : (Code.builtin id args).quiet = true) (hc : calmId id = true) (hb : entryFor table id = some b)
  (hchk : ∀ {A : Around} {Q : Unit -> Shared -> Prop} {E : Value -> Shared -> Prop}, Q () s -> wpAny C.M A (checkBuiltinCall id args) Q E s)
  (h : wpX C.M (A.under (.builtin id args)) (b args)
   (fun fin s' => match fin with | .done f => R (.ok f) s' | .again c' => c'.quiet = true /\ codeX C.M A c' R s') (fun e s' => R (.error e) s') s) : codeX C.M A (.call (.builtin id) args) R s := by
 refine codeX_of_tree rfl ?_
 show wpX _ A.in1 (do checkBuiltinCall id args; again (.builtin id args)) _ _ s
 exact X_bind (wpX_any (hchk (X_pure (And.intro hq (codeX_builtin_at hc hb h)))))
theorem make_X (X : CxCls C) (KI : C.K.In s.heap) {c f : Nat} (hi : C.T.init c = some f) {ws : List Value} {Q : Value -> Shared -> Prop}
  (hq : codeX C.M (A.under (.builtin "type.__call__" ⟨.ref (C.ca c) :: ws, []⟩)) (.call (.ref (C.fa f)) ⟨.ref (s.heap.objs.size + 1) :: ws, []⟩)
   (fun r s' => match r with | .ok (.ret v) => v = .none /\ Q (.ref (s.heap.objs.size + 1)) s' | .ok _ => False | .error e => E e s') { s with heap := (s.heap.push emptyDict).push (instObj (C.ca c) s.heap.objs.size) }) :
  wpX C.M A (call (.ref (C.ca c)) ws) Q E s := by
 obtain ⟨hh, g, d, t, os⟩ := s
 have Y := makes_of (M := C.M) KI (X.makes c)
 obtain ⟨i1, i2⟩ := X.init c f hi
 have hi' : Looks C.M hh (typeLookup (.ref (C.ca c)) "__init__") (some (.ref (C.fa f))) := looks_findIn KI i1
 have hbind : ∀ self, Looks C.M hh (bindSpecial (.ref (C.fa f)) self) (.ref (C.fa f), [self]) := fun self => bind_fn KI self i2
 have Y' := Y
 obtain ⟨⟨oc, od, cd, sl, hC, e1, e2, e4⟩, made, base, self, top, call, typ⟩ := Y
 have hm : Looks C.M hh (mroOf (.ref (C.ca c))) cd.mro := ((Looks.ld (part := none) hC).andThen .now).andThen .now
 refine X_call (codeX_of_tree rfl ?_)
 show wpX _ _ (callAny (.ref (C.ca c)) _) _ _ _
 refine X_bind (wpX_any (wpAny_load hC ?_))
 show wpX _ _ (callAny.viaDunder (.ref (C.ca c)) _) _ _ _
 unfold callAny.viaDunder
 refine X_bind (X_looks call ?_)
 dsimp only
 rw [tc_bind]
 refine X_bind (X_pure (X_bind (X_pure ?_)))
 refine X_pure (a := Fin.again (.call (.builtin "type.__call__") ⟨.ref (C.ca c) :: ws, []⟩)) (And.intro rfl ?_)
 refine codeX_call_builtin_at (C := C) (Code.quiet_builtin _ (by decide +kernel)) (by decide +kernel) entry_typeCall (fun q => check_slot tc_kind tc_split typ (tc_args _ _ _) q) ?_
 unfold Builtin.«type.__call__»
 refine X_if_false (by rfl) ?_
 refine X_bind (X_looks hm ?_)
 refine X_if_false e4 ?_
 refine X_bind (X_looks made ?_)
 refine X_bind (X_pure ?_)
 refine X_bind (X_holding (wpX_any ?_))
 refine wpAny_call ?_
 refine codeAny_mono (new_K (R := fun r s' => r = .ok (.ret (.ref (hh.objs.size + 1))) /\ s' = ⟨(hh.push emptyDict).push (instObj (C.ca c) hh.objs.size), g, d, t, os⟩) Y' hi' (.inl rfl) ⟨rfl, rfl⟩) fun r s' z => ?_
 obtain ⟨rfl, rfl⟩ := z
 have k : ∀ b o, hh.get? b = some o -> ((hh.push emptyDict).push (instObj (C.ca c) hh.objs.size)).get? b = some o := fun b o e => Heap.get?_push_of_some _ (Heap.get?_push_of_some _ e)
 have hx : ((hh.push emptyDict).push (instObj (C.ca c) hh.objs.size)).get? (hh.objs.size + 1) = some (instObj (C.ca c) hh.objs.size) := by heap_get
 have t1 : Looks C.M ((hh.push emptyDict).push (instObj (C.ca c) hh.objs.size)) (typeOf (.ref (hh.objs.size + 1))) (.ref (C.ca c)) := (Looks.ld hx).andThen .now
 have s1 := self.keeps k
 have i1 := hi'.keeps k
 have b1 := (hbind (.ref (hh.objs.size + 1))).keeps k
 refine X_bind (X_looks (t1.andThen s1) ?_)
 refine X_if_false rfl ?_
 refine X_bind (X_holding ?_)
 unfold callSpecial? specialOf
 refine X_bind (X_looks (t1.andThen i1) ?_)
 refine X_holding ?_
 refine X_bind (X_looks b1 ?_)
 refine X_bind (X_call (codeX_mono hq fun r s' z => ?_))
 rcases r with e | (v | _ | _ | _) <;> first | exact z | exact z.elim | skip
 obtain ⟨rfl, z⟩ := z
 refine X_pure ?_
 refine X_if_false rfl ?_
 exact X_pure z
end
structure Loose (g : Base) (envs : List Env) (env : Env) (ρ : Env2) (a : Addr) : Prop where
 g : g a = none
 fr : a ∉ framesOf envs
 own : a ∉ ownOf env
 led : ∀ (i : Nat) p, ρ[i]? = some p -> a ≠ p.1 /\ a ≠ p.2
section
variable {C : Cx} {g : Base} {h h' : Heap} {envs : List Env} {env : Env} {ρ ρ' : Env2} {lv : Loc} {hp : Hp}
theorem Rel.stir (R : Rel C g envs env ρ lv hp h) (hf : isFn env = true) {i : Nat} {x dx : Addr} {c : Nat} {fs : List (Nat × V)} (hi : ρ[i]? = some (x, dx)) (ho : hp[i]? = some (.exc c fs))
  (P : Addr -> Prop) (hP : ∀ a, P a -> Loose g envs env ρ a) (hI : ∀ a o, P a -> h.get? a = some o -> imm o = false /\ excLike o = false)
  (kf : ∀ b o, b ∈ framesOf envs -> h.get? b = some o -> ∃ sl, h'.get? b = some { o with slots := sl })
  (k : ∀ b o, b ∉ framesOf envs -> ¬ P b -> b ≠ x -> h.get? b = some o -> h'.get? b = some o)
  (kx : ∀ o, h.get? x = some o -> ∃ vs', h'.get? x = some { o with data := .fields vs' } /\ excLike { o with data := .fields vs' } = true) :
  Rel C g envs env ρ lv hp h' /\ Stable h h' := by
 have O := R.led i _ _ hi ho
 obtain ⟨⟨ox, vs, x1, x2, x3, x4, x5⟩, es, n, x6, x7⟩ := id O
 have hxf : x ∉ framesOf envs := (R.fresh i _ x hi (.inl rfl)).2.1
 have hxg : g x = none := (R.fresh i _ x hi (.inl rfl)).1
 have hxo : x ∉ ownOf env := (R.fresh i _ x hi (.inl rfl)).2.2
 have hPx : ¬ P x := fun q => ((hP x q).led i _ hi).1 rfl
 have fnf : ∀ b o, b ∈ framesOf envs -> h.get? b = some o -> imm o = false /\ excLike o = false := fun b o hb e => by
  obtain ⟨o', e', im⟩ := R.frd b hb
  rw [e] at e'; cases e'
  obtain ⟨_, o'', e'', nf⟩ := R.frs.mem hb
  rw [e] at e''; cases e''
  refine ⟨im, ?_⟩
  cases z : excLike o with
  | false => rfl
  | true => obtain ⟨vs, _, e1, _⟩ := excLike_fields z; exact absurd e1 (nf vs)
 have st : Stable h h' := by
  refine ⟨fun a o e im => ?_, fun a o e im => ?_⟩
  ·by_cases z : a ∈ framesOf envs
   ·exact bno (fnf a o z e).1 im
   ·by_cases z2 : P a
    ·exact bno (hI a o z2 e).1 im
    ·refine k a o z z2 (fun q => ?_) e
     exact bno (O.mut (.inl q) e) im
  ·by_cases z : a ∈ framesOf envs
   ·exact bno (fnf a o z e).2 im
   ·by_cases z2 : P a
    ·exact bno (hI a o z2 e).2 im
    ·by_cases z3 : a = x
     ·subst z3; obtain ⟨vs', e1, e2⟩ := kx o e; exact ⟨_, e1, e2⟩
     ·exact ⟨o, k a o z z2 z3 e, im⟩
 have upTo : ∀ b o, ¬ P b -> b ≠ x -> h.get? b = some o -> ∃ sl, h'.get? b = some { o with slots := sl } := fun b o z2 z3 e => by
  by_cases z : b ∈ framesOf envs
  ·exact kf b o z e
  ·exact ⟨o.slots, k b o z z2 z3 e⟩
 have ownN : ∀ a ∈ ownOf env, ¬ P a /\ a ≠ x := fun a ha => ⟨fun q => (hP a q).own ha, fun q => hxo (q ▸ ha)⟩
 refine ⟨⟨fun b o e => ?_, R.sub, fun b o e => ?_, funFrames_on (fun b hb o e nf => ?_) R.frs, fun b hb => ?_, R.len, fun j p o e1 e2 => ?_, R.apart, R.fresh, ?_, R.own, R.cells, R.celk, ?_⟩, st⟩
 rotate_right
 ·obtain ⟨b, vs, e1, e2, e3⟩ := R.arg
  have hi0 : i ≠ 0 := fun q => by subst q; rw [ho] at e2; cases e2
  have A := R.apart 0 i _ _ (Ne.symm hi0) e1 hi
  exact ⟨b, vs, e1, e2, k b _ (R.fresh 0 _ b e1 (.inl rfl)).2.1 (fun q => ((hP b q).led 0 _ e1).1 rfl) A.1 e3⟩
 ·have hg := R.sub b o e
  refine k b o (fun q => ?_) (fun q => ?_) (fun q => ?_) (R.stay b o e)
  ·exact no (R.frs.mem q).1 e
  ·exact no (hP b q).g hg
  ·exact no hxg (q ▸ hg)
 ·obtain ⟨sl, e', r⟩ := R.keep b o e
  have n1 : ¬ P b := fun q => no (hP b q).g e
  have n2 : b ≠ x := fun q => no hxg (q ▸ e)
  by_cases z : b ∈ framesOf envs
  ·obtain ⟨sl', e''⟩ := kf b _ z e'
   exact ⟨sl', e'', fun q => absurd z q⟩
  ·exact ⟨sl, k b _ z n1 n2 e', r⟩
 ·obtain ⟨sl, e'⟩ := kf b o hb e
  exact ⟨_, e', nf⟩
 ·obtain ⟨o, e, im⟩ := R.frd b hb
  obtain ⟨sl, e'⟩ := kf b o hb e
  exact ⟨_, e', im⟩
 ·by_cases hij : j = i
  ·subst hij
   rw [hi] at e1; rw [ho] at e2
   cases e1; cases e2
   obtain ⟨vs', y1, y2⟩ := kx ox x1
   have hd : dx ≠ x := fun q => by subst q; simp only at x1 x6; rw [x6] at x1; cases x1; cases x4
   have hdf := R.fresh _ _ dx hi (.inr rfl)
   refine ⟨⟨_, vs', y1, x2, x3, rfl, y2⟩, es, n, ?_, x7.mono (List.prefix_refl _) st⟩
   exact k dx _ hdf.2.1 (fun q => ((hP dx q).led _ _ hi).2 rfl) hd x6
  ·have Ap := R.apart j i p (x, dx) hij e1 hi
   refine (R.led j p o e1 e2).keep (List.prefix_refl _) st fun a ob ha e => ?_
   have fa := R.fresh j p a e1 ha
   refine k a ob fa.2.1 (fun q => ?_) (fun q => ?_) e
   ·have := (hP a q).led j p e1
    rcases ha with ha | ha
    ·exact this.1 ha
    ·exact this.2 ha
   ·rcases ha with ha | ha
    ·exact Ap.1 (ha.symm.trans q)
    ·exact Ap.2.2.1 (ha.symm.trans q)
 ·obtain ⟨⟨m, hn, hm⟩, hc, ha, hh⟩ := R.loc
  have cell : ∀ {a v}, a ∈ ownOf env -> h.IsCell a v -> h'.IsCell a v := fun {a v} z ⟨o, e1, e2⟩ => by
   obtain ⟨sl, e'⟩ := upTo a o (ownN a z).1 (ownN a z).2 e1
   exact ⟨_, e', e2⟩
  have inOwn : ∀ y ∈ env.cells, y.2 ∈ ownOf env := fun y hy => by
   unfold ownOf; rw [if_pos hf]; exact List.mem_cons_of_mem _ (List.mem_map.mpr ⟨y, hy, rfl⟩)
  refine ⟨⟨m, Ns.upTo hn fun o e => upTo _ o (ownN _ List.mem_cons_self).1 (ownN _ List.mem_cons_self).2 e, fun j v e q => let ⟨w, e', r⟩ := hm j v e q; ⟨w, e', r.mono (List.prefix_refl _) st⟩⟩, fun j v e q => ?_, fun y hy => ?_, hh⟩
  ·obtain ⟨c', w, e1, e2, r⟩ := hc j v e q
   exact ⟨c', w, e1, cell (inOwn _ (mem_of_lookup e1)) e2, r.mono (List.prefix_refl _) st⟩
  ·obtain ⟨v, hv⟩ := ha y hy; exact ⟨v, cell (inOwn y hy) hv⟩
def FlyNew (h : Heap) (x : Addr) : Prop := ∃ o vs, h.get? x = some o /\ o.data = .fields vs /\ vs[1]? = some .none
def FlyAt (g : Base) (envs : List Env) (env : Env) (ρ : Env2) (h : Heap) (x : Addr) (f : Value) : Prop :=
 ∃ o vs tb ot vt, h.get? x = some o /\ o.data = .fields vs /\ vs[1]? = some (.ref tb) /\ h.get? tb = some ot /\ ot.cls = .type "traceback" /\ ot.data = .fields vt /\ vt[3]? = some f /\ Loose g envs env ρ tb
def Fly (g : Base) (envs : List Env) (env : Env) (ρ : Env2) (h : Heap) (x : Addr) : Prop := FlyNew h x \/ ∃ f, FlyAt g envs env ρ h x f
end
section
variable {C : Cx} {g : Base} {envs : List Env} {env : Env} {ρ : Env2} {lv : Loc} {hp : Hp} {s : Shared} {A : Around} {E : Value -> Shared -> Prop}
theorem excLike_set {o : Obj} {vs : Array Value} (hx : excLike o = true) (hd : o.data = .fields vs) {k : Nat} (hk : k ≠ 2) (v : Value) : excLike { o with data := .fields (vs.setIfInBounds k v) } = true := by
 obtain ⟨vs', c, e1, e2, e3⟩ := excLike_fields hx
 rw [hd] at e1
 cases e1
 simp only [excLike, e2]
 rw [Array.getElem?_setIfInBounds_ne hk, e3]; rfl
theorem mapFields_eq {o : Obj} {vs : Array Value} (hd : o.data = .fields vs) (f : Array Value -> Array Value) : Obj.mapFields f o = { o with data := .fields (f vs) } := by
 obtain ⟨c, d, dt, sl⟩ := o
 simp only at hd
 subst hd
 rfl
theorem Rel.some_of {h : Heap} (R : Rel C g envs env ρ lv hp h) {i : Nat} {p : Addr × Addr} (hi : ρ[i]? = some p) : h.get? p.1 ≠ none /\ h.get? p.2 ≠ none := by
 have hl : i < hp.length := R.len ▸ (List.getElem?_eq_some_iff.mp hi).1
 have O := R.led i p _ hi (List.getElem?_eq_getElem hl)
 exact ⟨fun z => (O.obs (.inl rfl)).elim fun _ y => no z y.1, fun z => (O.obs (.inr rfl)).elim fun _ y => no z y.1⟩
theorem St.loose (S : St C g envs env ρ lv hp s) {a : Addr} (ha : s.heap.get? a = none) : Loose g envs env ρ a := by
 obtain ⟨h1, h2, h3⟩ := S.R.notIn ha
 refine ⟨h1, h2, h3, fun i p hi => ?_⟩
 obtain ⟨e1, e2⟩ := S.R.some_of hi
 exact ⟨fun q => e1 (q ▸ ha), fun q => e2 (q ▸ ha)⟩
theorem setFlight_ok (S : St C g envs env ρ lv hp s) (hf : isFn env = true) {i : Nat} {x dx : Addr} {c : Nat} {fs : List (Nat × V)} (hi : ρ[i]? = some (x, dx)) (ho : hp[i]? = some (.exc c fs)) {f0 : Value} (F : FlyAt g envs env ρ s.heap x f0) {fr : Option Addr} {Q : Unit -> Shared -> Prop}
  (h : ∀ s', St C g envs env ρ lv hp s' -> Ext ρ s.heap ρ s'.heap -> FlyAt g envs env ρ s'.heap x (fr.elim .none fun f => rawInt f) -> Q () s') : wpAny C.M A (setFlight (.ref x) fr) Q E s := by
 obtain ⟨o, vs, tb, ot, vt, e1, e2, e3, e4, e5, e6, e7, L⟩ := F
 have hne : tb ≠ x := (L.led i _ hi).1
 unfold setFlight
 refine wpAny_bind (wpAny_field e1 e2 e3 ?_)
 rw [if_pos (show (Value.ref tb != Value.none) = true from by simp)]
 refine wpAny_setField e4 e6 (Array.getElem?_eq_some_iff.mp e7).1 ?_
 have hsb := Heap.SameBut.update s.heap tb (Obj.mapFields (·.setIfInBounds 3 (fr.elim Value.none fun f => rawInt f)))
 have hT := Heap.get?_update_self (Obj.mapFields (·.setIfInBounds 3 (fr.elim Value.none fun f => rawInt f))) e4 (Obj.isFreed_of_fields (Obj.data_mapFields e6 _))
 obtain ⟨R', st⟩ := S.R.stir hf hi ho (· = tb) (fun a q => q ▸ L) (fun a ob q e => by subst q; rw [e4] at e; cases e; exact ⟨by simp [imm, e6, e5], excLike_type e5⟩)
  (fun b ob hb e => ⟨ob.slots, (hsb.2 b fun q => L.fr (q ▸ hb)).trans e⟩) (fun b ob _ hb _ e => (hsb.2 b hb).trans e)
  (fun ob e => by
   rw [e1] at e; cases e
   refine ⟨vs, (hsb.2 x (Ne.symm hne)).trans ?_, ?_⟩
   ·rw [e1, <- e2]
   ·obtain ⟨⟨ox, _, x1, _, _, _, x5⟩, _⟩ := S.R.led i _ _ hi ho
    rw [e1] at x1; cases x1
    rw [<- e2]; exact x5)
 refine h _ ⟨R', S.gens, S.os⟩ ⟨List.prefix_refl _, st⟩ ⟨o, vs, tb, _, _, (hsb.2 x (Ne.symm hne)).trans e1, e2, e3, hT, (Obj.cls_mapFields ..).trans e5, Obj.data_mapFields e6 _, ?_, L⟩
 rw [Array.getElem?_setIfInBounds_self_of_lt (Array.getElem?_eq_some_iff.mp e7).1]
theorem entry_ok (S : St C g (env :: envs) env ρ lv hp s) (hA : A.frames = some (env :: envs)) (hf : isFn env = true) {i : Nat} {x dx : Addr} {c : Nat} {fs : List (Nat × V)} (hi : ρ[i]? = some (x, dx)) (ho : hp[i]? = some (.exc c fs)) {o : Obj} {vs : Array Value}
  (e1 : s.heap.get? x = some o) (e2 : o.data = .fields vs) (hsz : 1 < vs.size) {head : Value} {hadNext : Bool} {Q : Unit -> Shared -> Prop}
  (h : ∀ s', St C g (env :: envs) env ρ lv hp s' -> Ext ρ s.heap ρ s'.heap -> FlyAt g (env :: envs) env ρ s'.heap x (rawInt env.locals) -> Q () s') :
  wpAny C.M A (do let a <- frameOf env; let pl <- entryPlaceOf env.locals hadNext; let b <- EntryCells.newEntry head a .none (rawInt env.locals) .none pl; setField (.ref x) 1 b) Q E s := by
 have hfr : env.frame = some env.locals := by unfold isFn at hf; exact eq_of_beq hf
 refine wpAny_bind (wpAny_frameOf_fun hA S.R.frs hfr fun h₁ hs₁ => ?_)
 refine wpAny_bind (wpAny_entryPlaceOf fun pl hpl => ?_)
 unfold EntryCells.newEntry newFields
 refine wpAny_bind (wpAny_newObj_type ?_ (hpl.sizeOk5 _ _ _ _ _))
 have hxf : x ∉ framesOf (env :: envs) := (S.R.fresh i _ x hi (.inl rfl)).2.1
 have he₁ : h₁.get? x = some o := (hs₁.2.1 x hxf).trans e1
 have hn : s.heap.get? h₁.objs.size = none := by rw [hs₁.1]; exact none_at_end _
 have L := S.loose hn
 have he₂ := Heap.get?_push_of_some (h := h₁) { cls := .type "traceback", dict := none, data := .fields ([head, .ref env.locals, .none, rawInt env.locals, .none] ++ (if pl.isEmpty then List.replicate 6 Value.none else pl)).toArray } he₁
 refine wpAny_setField he₂ e2 hsz ?_
 have hTe : h₁.objs.size ≠ x := (L.led i _ hi).1
 have hd₃ := Obj.data_mapFields e2 (·.setIfInBounds 1 (Value.ref h₁.objs.size))
 have he₃ := Heap.get?_update_self (Obj.mapFields (·.setIfInBounds 1 (Value.ref h₁.objs.size))) he₂ (Obj.isFreed_of_fields hd₃)
 have hT₃ := (Heap.get?_update_other (h₁.push { cls := .type "traceback", dict := none, data := .fields ([head, .ref env.locals, .none, rawInt env.locals, .none] ++ (if pl.isEmpty then List.replicate 6 Value.none else pl)).toArray })
  (Obj.mapFields (·.setIfInBounds 1 (Value.ref h₁.objs.size))) (Ne.symm hTe)).trans (Heap.get?_push_size h₁ rfl)
 have keep : ∀ b ob, b ≠ x -> h₁.get? b = some ob ->
   ((h₁.push { cls := .type "traceback", dict := none, data := .fields ([head, .ref env.locals, .none, rawInt env.locals, .none] ++ (if pl.isEmpty then List.replicate 6 Value.none else pl)).toArray }).update x (Obj.mapFields (·.setIfInBounds 1 (Value.ref h₁.objs.size)))).get? b = some ob := fun b ob hbe hb => by
  rw [Heap.get?_update_other _ _ (Ne.symm hbe)]
  exact Heap.get?_push_of_some _ hb
 obtain ⟨R', st⟩ := S.R.stir hf hi ho (· = h₁.objs.size) (fun a q => q ▸ L) (fun a ob q e => by subst q; rw [hn] at e; cases e)
  (fun b ob hb e => by obtain ⟨sl, e'⟩ := hs₁.2.2 b ob e; exact ⟨sl, keep b _ (fun q => hxf (q ▸ hb)) e'⟩) (fun b ob hb _ hbx e => keep b ob hbx ((hs₁.2.1 b hb).trans e))
  (fun ob e => by
   rw [e1] at e; cases e
   refine ⟨_, he₃.trans (by rw [mapFields_eq e2]), excLike_set ?_ e2 (by decide) _⟩
   obtain ⟨⟨ox, _, x1, _, _, _, x5⟩, _⟩ := S.R.led i _ _ hi ho
   rw [e1] at x1; cases x1; exact x5)
 exact h _ ⟨R', S.gens, S.os⟩ ⟨List.prefix_refl _, st⟩ ⟨_, _, h₁.objs.size, _, _, he₃, hd₃, by simp [hsz], hT₃, rfl, rfl, by simp, L⟩
theorem note_ok (S : St C g (env :: envs) env ρ lv hp s) (hA : A.frames = some (env :: envs)) (hf : isFn env = true) {i : Nat} {x dx : Addr} {c : Nat} {fs : List (Nat × V)} (hi : ρ[i]? = some (x, dx)) (ho : hp[i]? = some (.exc c fs)) (F : Fly g (env :: envs) env ρ s.heap x) {Q : Unit -> Shared -> Prop}
  (h : ∀ s', St C g (env :: envs) env ρ lv hp s' -> Ext ρ s.heap ρ s'.heap -> FlyAt g (env :: envs) env ρ s'.heap x (rawInt env.locals) -> Q () s') :
  wpAny C.M A (noteFrame (.ref x) env) Q E s := by
 have hfr : env.frame = some env.locals := by unfold isFn at hf; exact eq_of_beq hf
 unfold noteFrame
 simp only [hfr]
 rcases F with ⟨o, vs, e1, e2, e3⟩ | ⟨f, F⟩
 ·refine wpAny_bind (wpAny_field e1 e2 e3 ?_)
  rw [if_neg (by decide)]
  exact entry_ok S hA hf hi ho e1 e2 (Array.getElem?_eq_some_iff.mp e3).1 h
 ·obtain ⟨o, vs, tb, ot, vt, e1, e2, e3, e4, e5, e6, e7, L⟩ := id F
  have hne : tb ≠ x := (L.led i _ hi).1
  refine wpAny_bind (wpAny_field e1 e2 e3 ?_)
  rw [if_pos (show (Value.ref tb != Value.none) = true from by simp)]
  refine wpAny_bind (wpAny_field e4 e6 e7 ?_)
  cases z : (f == rawInt env.locals) with
  | true =>
   rw [if_pos rfl]
   have := eq_of_beq z
   subst this
   exact wpAny_pure (h _ S (Ext.refl _ _) F)
  | false =>
   rw [if_neg (by simp)]
   refine wpAny_bind (wpAny_setField e4 e6 (Array.getElem?_eq_some_iff.mp e7).1 ?_)
   have hsb := Heap.SameBut.update s.heap tb (Obj.mapFields (·.setIfInBounds 3 Value.none))
   have hx : (s.heap.update tb (Obj.mapFields (·.setIfInBounds 3 Value.none))).get? x = some o := (hsb.2 x (Ne.symm hne)).trans e1
   obtain ⟨R', st⟩ := S.R.stir hf hi ho (· = tb) (fun a q => q ▸ L) (fun a ob q e => by subst q; rw [e4] at e; cases e; exact ⟨by simp [imm, e6, e5], excLike_type e5⟩)
    (fun b ob hb e => ⟨ob.slots, (hsb.2 b fun q => L.fr (q ▸ hb)).trans e⟩) (fun b ob _ hb _ e => (hsb.2 b hb).trans e)
    (fun ob e => by
     rw [e1] at e; cases e
     refine ⟨vs, hx.trans ?_, ?_⟩
     ·rw [<- e2]
     ·obtain ⟨⟨ox, _, x1, _, _, _, x5⟩, _⟩ := S.R.led i _ _ hi ho
      rw [e1] at x1; cases x1
      rw [<- e2]; exact x5)
   have S₂ : St C g (env :: envs) env ρ lv hp { s with heap := s.heap.update tb (Obj.mapFields (·.setIfInBounds 3 Value.none)) } := ⟨R', S.gens, S.os⟩
   exact entry_ok S₂ hA hf hi ho hx e2 (Array.getElem?_eq_some_iff.mp e3).1 fun s' S' X' F' => h s' S' ((Ext.mk (List.prefix_refl _) st).trans X') F'
end
section
variable {M : Model} {A : Around} {E : Value -> Shared -> Prop} {s : Shared} {env : Env}
theorem X_BinOp {l : Expr} {op : Operator} {r : Expr} {pos : Pos} {Q : Value -> Shared -> Prop} (h : wpX M A (eval l env) (fun a s₁ => wpX M A (eval r env) (fun b s₂ => wpX M A (binaryOp op a b) Q E s₂) E s₁) E s) :
  wpX M A (eval (.BinOp l op r pos) env) Q E s := by
 rw [arm_eval_BinOp]
 exact X_seq h fun a s₁ h₁ => X_seq (X_holding h₁) fun b s₂ h₂ => X_at (X_operate h₂)
theorem X_UnaryOp {op : UnaryOp} {x : Expr} {pos : Pos} {Q : Value -> Shared -> Prop} (h : wpX M A (eval x env) (fun v s₁ => wpX M A (unaryOp op v) Q E s₁) E s) : wpX M A (eval (.UnaryOp op x pos) env) Q E s := by
 rw [arm_eval_UnaryOp]
 exact X_seq h fun v s₁ h₁ => X_at (X_holding h₁)
theorem X_IfExp {t b o : Expr} {pos : Pos} {Q : Value -> Shared -> Prop} (h : wpX M A (isTrue t env (eval t env)) (fun c s₁ => if c then wpX M A (eval b env) Q E s₁ else wpX M A (eval o env) Q E s₁) E s) :
  wpX M A (eval (.IfExp t b o pos) env) Q E s := by
 rw [arm_eval_IfExp]
 refine X_seq h fun c s₁ h₁ => ?_
 cases c <;> exact h₁
theorem markedEach_one {op : CmpOp} {r : Expr} {t : Sem Value} (h : behindInMarks op r = false) : markedEach [op] [r] [t] = [t] := by
 show [markedBehindIn op r t] = [t]
 rw [markedBehindIn_of_false h]
theorem X_Compare1 {l r : Expr} {op : CmpOp} {pos : Pos} {Q : Value -> Shared -> Prop} (hm : behindInMarks op r = false) (h : wpX M A (eval l env) (fun a s₁ => wpX M A (eval r env) (fun b s₂ => wpX M A (compareOp op a b) Q E s₂) E s₁) E s) :
  wpX M A (eval (.Compare l [op] [r] pos) env) Q E s := by
 rw [arm_eval_Compare]
 refine X_seq h fun a s₁ h₁ => ?_
 rw [arm_evalEach_cons, arm_evalEach_nil, markedEach_one hm]
 show wpX M A (do let rv <- holding [a] (eval r env); standAt pos; operate [a, rv] (compareOp op a rv)) Q E s₁
 exact X_seq (X_holding h₁) fun b s₂ h₂ => X_at (X_operate h₂)
theorem X_isTrue_Compare1 {l r : Expr} {op : CmpOp} {pos : Pos} {w : Sem Value} {Q : Bool -> Shared -> Prop} (hm : behindInMarks op r = false)
  (h : wpX M A (eval l env) (fun a s₁ => wpX M A (eval r env) (fun b s₂ => wpX M A (compareOp op a b) (fun c s₃ => wpX M A (truthy c) Q E s₃) E s₂) E s₁) E s) :
  wpX M A (isTrue (.Compare l [op] [r] pos) env w) Q E s := by
 rw [arm_isTrue_Compare]
 refine X_seq h fun a s₁ h₁ => ?_
 rw [arm_evalEach_cons, arm_evalEach_nil, markedEach_one hm]
 show wpX M A (do let rv <- holding [a] (eval r env); standAt pos; let c <- operate [a, rv] (compareOp op a rv); holding [c] (truthy c)) Q E s₁
 exact X_seq (X_holding h₁) fun b s₂ h₂ => X_at (X_seq (X_operate h₂) fun c s₃ h₃ => X_holding h₃)
theorem X_Compare2 {l m r : Expr} {op op' : CmpOp} {pos : Pos} {Q : Value -> Shared -> Prop} (hm : behindInMarks op' r = false)
  (h : wpX M A (eval l env) (fun a s₁ => wpX M A (eval m env) (fun b s₂ => wpX M A (compareOp op a b) (fun c s₃ => wpX M A (truthy c) (fun t s₄ =>
   if t then wpX M A (eval r env) (fun d s₅ => wpX M A (compareOp op' b d) Q E s₅) E s₄ else Q c s₄) E s₃) E s₂) E s₁) E s) :
  wpX M A (eval (.Compare l [op, op'] [m, r] pos) env) Q E s := by
 rw [arm_eval_Compare]
 refine X_seq h fun a s₁ h₁ => ?_
 rw [arm_evalEach_cons, arm_evalEach_cons, arm_evalEach_nil]
 show wpX M A (compareChain pos a [op, op'] (eval m env :: markedEach [op'] [r] [eval r env])) Q E s₁
 rw [markedEach_one hm]
 show wpX M A (do
  let rv <- holding [a] (eval m env)
  standAt pos
  let c <- holding [a, rv] (compareOp op a rv)
  release [a, rv] [c]
  if <- holding [c, rv] (truthy c) then (do let rv' <- holding [rv] (eval r env); standAt pos; operate [rv, rv'] (compareOp op' rv rv')) else pure c) Q E s₁
 refine X_seq (X_holding h₁) fun b s₂ h₂ => X_at (X_seq (X_holding h₂) fun c s₃ h₃ => X_bind (X_release (X_seq (X_holding h₃) fun t s₄ h₄ => ?_)))
 cases t with
 | true => exact X_seq (X_holding h₄) fun d s₅ h₅ => X_at (X_operate h₅)
 | false => exact X_pure h₄
theorem X_isTrue_Compare2 {l m r : Expr} {op op' : CmpOp} {pos : Pos} {w : Sem Value} {Q : Bool -> Shared -> Prop} (hm : behindInMarks op' r = false)
  (h : wpX M A (eval l env) (fun a s₁ => wpX M A (eval m env) (fun b s₂ => wpX M A (compareOp op a b) (fun c s₃ => wpX M A (truthy c) (fun t s₄ =>
   if t then wpX M A (eval r env) (fun d s₅ => wpX M A (compareOp op' b d) (fun c' s₆ => wpX M A (truthy c') Q E s₆) E s₅) E s₄ else Q false s₄) E s₃) E s₂) E s₁) E s) :
  wpX M A (isTrue (.Compare l [op, op'] [m, r] pos) env w) Q E s := by
 rw [arm_isTrue_Compare]
 refine X_seq h fun a s₁ h₁ => ?_
 rw [arm_evalEach_cons, arm_evalEach_cons, arm_evalEach_nil]
 show wpX M A (testChain pos a [op, op'] (eval m env :: markedEach [op'] [r] [eval r env])) Q E s₁
 rw [markedEach_one hm]
 show wpX M A (do
  let rv <- holding [a] (eval m env)
  standAt pos
  let c <- holding [a, rv] (compareOp op a rv)
  release [a, rv] [c]
  if <- holding [c, rv] (truthy c) then (do let rv' <- holding [rv] (eval r env); standAt pos; let c' <- operate [rv, rv'] (compareOp op' rv rv'); holding [c'] (truthy c')) else pure false) Q E s₁
 refine X_seq (X_holding h₁) fun b s₂ h₂ => X_at (X_seq (X_holding h₂) fun c s₃ h₃ => X_bind (X_release (X_seq (X_holding h₃) fun t s₄ h₄ => ?_)))
 cases t with
 | true => exact X_seq (X_holding h₄) fun d s₅ h₅ => X_at (X_seq (X_operate h₅) fun c' s₆ h₆ => X_holding h₆)
 | false => exact X_pure h₄
theorem starEach_cons {e : Expr} {r : List Expr} (h : isStar e = false) : starEach (e :: r) env = (false, eval e env) :: starEach r env := by
 cases e <;> first | rfl | exact Bool.noConfusion (show true = false from h)
theorem backTo_plain {pos : Pos} : ∀ {es : List Expr}, (∀ e ∈ es, isStar e = false) -> backTo pos (starEach es env) = es.map fun e => (false, eval e env)
 | [], _ => rfl
 | e :: r, h => by
  rw [starEach_cons (h e List.mem_cons_self)]
  show (false, eval e env) :: backTo pos (starEach r env) = _
  rw [backTo_plain fun x hx => h x (List.mem_cons_of_mem _ hx)]; rfl
theorem X_spliced_cons {x : Sem Value} {rest : List (Bool × Sem Value)} {Q : List Value -> Shared -> Prop} (h : wpX M A x (fun v s₁ => wpX M A (spliced rest) (fun vs s₂ => Q (v :: vs) s₂) E s₁) E s) : wpX M A (spliced ((false, x) :: rest)) Q E s := by
 rw [spliced]
 refine X_seq h fun v s₁ h₁ => ?_
 refine X_if_false rfl ?_
 exact X_bind (X_pure (X_seq (X_holding h₁) fun vs s₂ h₂ => X_pure h₂))
theorem X_evalArgs {f : Value} {es : List Expr} {Q : List Value -> Shared -> Prop} (h : wpX M A (spliced (es.map fun e => (false, eval e env))) Q E s) :
  wpX M A (evalArgs f true (es.map fun e => (false, eval e env)) []) (fun a s' => a.kw = [] /\ Q a.pos s') E s := by
 unfold evalArgs
 cases es with
 | nil =>
  show wpX M A (spliced [] >>= _) _ E s
  refine X_seq h fun vs s' h' => X_holding ?_
  exact X_bind (X_pure (X_bind (X_pure (X_pure ⟨rfl, h'⟩))))
 | cons e r =>
  show wpX M A (spliced ((false, eval e env) :: r.map fun e => (false, eval e env)) >>= _) _ E s
  refine X_seq h fun vs s' h' => X_holding ?_
  exact X_bind (X_pure (X_bind (X_pure (X_pure ⟨rfl, h'⟩))))
theorem any_plain (es : List Expr) : (es.map fun e => (false, eval e env)).any (·.1) = false := by
 rw [List.any_map, List.any_eq_false]; intro e _; simp
theorem X_callWith {pos : Pos} {f : Value} {first : List Value} {es : List Expr} {Q : Value -> Shared -> Prop}
  (h : wpX M A (spliced (es.map fun e => (false, eval e env))) (fun vs s₁ => wpX M A (keeperOf f) (fun k s₂ => (k = .machine \/ k = .frame) /\ wpX M A (call f (first ++ vs)) Q E s₂) E s₁) E s) :
  wpX M A (callWith pos f first (es.map fun e => (false, eval e env)) []) Q E s := by
 unfold callWith
 refine X_seq (X_holding (X_evalArgs h)) fun a s₁ h₁ => X_at ?_
 obtain ⟨pos', kw'⟩ := a
 obtain ⟨hkw, h₁⟩ := h₁
 simp only at hkw
 subst hkw
 have tail : ∀ {t : Sem Value} {s₁ : Shared}, wpX M A t Q E s₁ -> wpX M A (t >>= fun r => holding [r] point >>= fun _ => pure r) Q E s₁ := fun ht => X_seq ht fun r s₂ hr => X_bind (X_holding (X_point (X_pure hr)))
 simp only [any_plain, List.any_nil, Bool.or_false]
 refine X_bind (m := keeperOf f) (X_mono h₁ (fun k s₂ h₂ => ?_) fun _ _ x => x)
 obtain ⟨rfl | rfl, h₂⟩ := h₂
 ·exact tail h₂
 ·dsimp only
  split
  ·exact tail h₂
  ·exact tail (by unfold callMarked; exact X_keep h₂)
theorem X_CallName {n : Str} {p pos : Pos} {es : List Expr} {Q : Value -> Shared -> Prop} (hs : ∀ e ∈ es, isStar e = false)
  (h : wpX M A (eval (.Name n p) env) (fun f s₁ => wpX M A (callWith pos f [] (es.map fun e => (false, eval e env)) []) Q E s₁) E s) : wpX M A (eval (.Call (.Name n p) es [] pos) env) Q E s := by
 show wpX M A (eval (.Name n p) env >>= fun f => callWith pos f [] (backTo pos (starEach es env)) []) Q E s
 rw [backTo_plain hs]
 exact X_bind h
theorem all_plain (es : List Expr) : (es.map fun e => (false, eval e env)).all (!·.1) = true := by
 rw [List.all_map, List.all_eq_true]; intro e _; rfl
theorem X_CallMeth {o : Expr} {name : Str} {apos pos : Pos} {es : List Expr} {Q : Value -> Shared -> Prop} (ho : ∀ a t, attributeBase o a env t = t) (hp : (apos.endLine == pos.line) = true) (hn : es.length < 20) (hs : ∀ e ∈ es, isStar e = false)
  (h : wpX M A (eval o env) (fun ov s₁ => wpX M A (getMethod ov name (do return (<- importBound o env).getD true)) (fun fx s₂ => wpX M A (callWith pos fx.1 fx.2 (es.map fun e => (false, eval e env)) []) Q E s₂) E s₁) E s) :
  wpX M A (eval (.Call (.Attribute o name apos) es [] pos) env) Q E s := by
 rw [arm_eval_Call, ho]
 refine X_seq h fun ov s₁ h₁ => X_at ?_
 show wpX M A (methodCall o name apos pos env ov (es.length + 0) (backTo pos (starEach es env)) []) Q E s₁
 rw [backTo_plain hs]
 unfold methodCall
 have hf : methodCallForm (es.length + 0) (es.map fun e => (false, eval e env)) [] = true := by
  unfold methodCallForm
  rw [all_plain]
  simp
  omega
 rw [hf]
 unfold calleeOf methodCallPos
 rw [if_pos rfl, if_pos (by rw [hp]; rfl)]
 refine X_seq (X_holding h₁) fun fx s₂ h₂ => ?_
 obtain ⟨f, first⟩ := fx
 exact X_bind (X_pure h₂)
theorem X_Attr {prog : Program} {w : World} {o : Expr} {name : Str} {pos : Pos} {Q : Value -> Shared -> Prop} (ho : ∀ a t, attributeBase o a env t = t) (h : wpX (model prog w) A (eval o env) (fun ov s₁ => wpX (model prog w) A (getAttr ov name true) Q E s₁) E s) : wpX (model prog w) A (eval (.Attribute o name pos) env) Q E s := by
 rw [arm_eval_Attribute, ho]
 exact X_seq h fun ov s₁ h₁ => X_at (X_seq (X_holding h₁) fun r s₂ h₂ => X_bind (wpX_any (wpAny_letTemporaryGo (X_pure h₂))))
theorem X_Sub {o i : Expr} {pos : Pos} {Q : Value -> Shared -> Prop} (h : wpX M A (eval o env) (fun ov s₁ => wpX M A (eval i env) (fun iv s₂ => wpX M A (subscriptTail o i ov iv) Q E s₂) E s₁) E s) : wpX M A (eval (.Subscript o i pos) env) Q E s := by
 have e : eval (.Subscript o i pos) env = (do
   let ov <- eval o env
   let iv <- holding [ov] (eval i env)
   standAt pos
   subscriptTail o i ov iv) := rfl
 rw [e]
 exact X_seq h fun ov s₁ h₁ => X_seq (X_holding h₁) fun iv s₂ h₂ => X_at h₂
theorem X_Slice {lo hi : Option Expr} {pos : Pos} {Q : Value -> Shared -> Prop}
  (h : wpX M A (valueOrNone (evalOpt lo env)) (fun l s₁ => wpX M A (valueOrNone (evalOpt hi env)) (fun u s₂ => Q (.ref s₂.heap.objs.size) { s₂ with heap := s₂.heap.push { cls := .type "slice", data := .fields #[l, u, .none] } }) E s₁) E s) :
  wpX M A (eval (.Slice lo hi none pos) env) Q E s := by
 rw [arm_eval_Slice]
 refine X_seq h fun l s₁ h₁ => X_seq (X_holding h₁) fun u s₂ h₂ => ?_
 refine X_bind (X_holding ?_)
 show wpX M A (pure Value.none) _ E s₂
 refine X_pure (wpX_any ?_)
 unfold newFields
 exact wpAny_newObj_type h₂ (by show 3 <= sizeLine + 2; rw [sizeLine_eq]; decide)
theorem X_List {es : List Expr} {pos : Pos} {Q : Value -> Shared -> Prop} (hs : ∀ e ∈ es, isStar e = false) (h : wpX M A (spliced (es.map fun e => (false, eval e env))) (fun vs s₁ => wpX M A (newList vs) Q E s₁) E s) : wpX M A (eval (.List es pos) env) Q E s := by
 rw [arm_eval_List, backTo_plain hs]
 exact X_at (X_bind h)
theorem X_Tuple {es : List Expr} {c : Nat} {pos : Pos} {Q : Value -> Shared -> Prop} (hs : ∀ e ∈ es, isStar e = false) (h : wpX M A (spliced (es.map fun e => (false, eval e env))) (fun vs s₁ => wpX M A (newTuple vs) Q E s₁) E s) : wpX M A (eval (.Tuple es c pos) env) Q E s := by
 rw [arm_eval_Tuple, backTo_plain hs]
 exact X_at (X_bind h)
end
def TupIt (ρ : Env2) (h : Heap) (a : Addr) (vs : List V) : Prop := ∃ (t : Addr) (ws : List Value) (k : Nat), h.IsTupleIter a t k /\ IsTup h t ws.toArray /\ VRels ρ h vs (ws.drop k)
def StrIt (h : Heap) (a : Addr) (vs : List V) : Prop := ∃ (T : String) (x : List Nat) (t : Tok) (k : Nat), (T = "str_ascii_iterator" \/ T = "str_iterator") /\ h.IsStrIter a T (strOf x) t k /\ InS x /\ vs = (x.drop k).map fun c => .str [c]
def BytIt (h : Heap) (a : Addr) (vs : List V) : Prop := ∃ (b : List Int) (t : Tok) (k : Nat), KBw.IsBytesIter h a (u8s b) t k /\ InB b /\ vs = (b.drop k).map .int
def ItRel (ρ : Env2) (h : Heap) (a : Addr) : It -> Prop
 | .range cur n step => IsRangeIter h a cur n step
 | .seq vs => TupIt ρ h a vs \/ StrIt h a vs \/ BytIt h a vs
 | .list i k => ∃ x dx, h.IsListIter a x k /\ ρ[i]? = some (x, dx)
section
variable {ρ ρ' : Env2} {h h' : Heap} {a : Addr}
theorem isTup_mono {a : Addr} {xs : Array Value} (st : Stable h h') (x : IsTup h a xs) : IsTup h' a xs := x.elim fun o e => ⟨o, st.im a o e.1 (e.2.2.elim fun n d => by rw [imm, d, e.2.1]; rfl), e.2⟩
theorem ItRel.mono (p : ρ <+: ρ') (st : Stable h h') (k : ∀ o, h.get? a = some o -> h'.get? a = some o) {it : It} (x : ItRel ρ h a it) : ItRel ρ' h' a it := by
 cases it with
 | range cur n step => exact k _ x
 | seq vs =>
  rcases x with ⟨t, ws, j, ⟨oi, e, r⟩, ht, hs⟩ | ⟨T, x, t, j, hT, ⟨oi, e, r⟩, hx⟩ | ⟨b, t, j, ⟨oi, e, r⟩, hb⟩
  ·exact .inl ⟨t, ws, j, ⟨oi, k _ e, r⟩, isTup_mono st ht, hs.mono p st⟩
  ·exact .inr (.inl ⟨T, x, t, j, hT, ⟨oi, k _ e, r⟩, hx⟩)
  ·exact .inr (.inr ⟨b, t, j, ⟨oi, k _ e, r⟩, hb⟩)
 | list i j =>
  obtain ⟨x, dx, ⟨oi, e, r⟩, hr⟩ := x
  exact ⟨x, dx, ⟨oi, k _ e, r⟩, getElem?_pre p hr⟩
theorem ItRel.type {it : It} (x : ItRel ρ h a it) : ∃ o T, h.get? a = some o /\ o.cls = .type T /\ imm o = false := by
 have key : ∀ {o : Obj} {T : String} {vs : Array Value}, h.get? a = some o -> o.cls = .type T -> o.data = .fields vs -> (T == "range") = false -> ∃ o T, h.get? a = some o /\ o.cls = .type T /\ imm o = false :=
  fun {o T vs} e c d hT => ⟨o, T, e, c, by rw [imm, d, c]; exact beq_eq_false_iff_ne.mpr fun z => beq_eq_false_iff_ne.mp hT (Value.type.inj z)⟩
 cases it with
 | range cur n step => exact ⟨_, _, x, rfl, rfl⟩
 | seq vs =>
  rcases x with ⟨t, ws, j, ⟨oi, e, c, d⟩, _⟩ | ⟨T, x, t, j, hT, ⟨oi, e, c, d⟩, hx⟩ | ⟨b, t, j, ⟨oi, e, c, d⟩, hb⟩
  ·exact key e c d (by decide)
  ·exact key e c d (by rcases hT with rfl | rfl <;> decide)
  ·exact key e c d (by decide)
 | list i j =>
  obtain ⟨x, dx, ⟨oi, e, c, d⟩, hr⟩ := x
  exact key e c d (by decide)
end
section
variable {C : Cx} {g : Base} {envs : List Env} {env : Env} {ρ : Env2} {lv : Loc} {hp : Hp} {s : Shared} {A : Around} {E : Value -> Shared -> Prop}
theorem small_of {a b c : Int} (hc : c = 1 \/ c = -1) (ha : a.natAbs < 2 ^ 60) (hb : b.natAbs < 2 ^ 60) : Builtin.Range.small a b c = true := by
 have h60 : (2 : Nat) ^ 60 = 1152921504606846976 := by decide
 rw [h60] at ha hb
 unfold Builtin.Range.small Builtin.Range.rangeFitsLong Builtin.Range.rangeSize
 rcases hc with rfl | rfl
 ·simp only [show ((1 : Int) > 0) from by decide, if_true, Int.ediv_one]
  simp only [Bool.and_eq_true, Bool.or_eq_true, decide_eq_true_eq]
  refine ⟨⟨⟨⟨by omega, by omega⟩, by omega⟩, by split <;> omega⟩, ?_⟩
  right; omega
 ·simp only [show ¬ ((-1 : Int) > 0) from by decide, if_false, Int.neg_neg, Int.ediv_one]
  simp only [Bool.and_eq_true, Bool.or_eq_true, decide_eq_true_eq]
  refine ⟨⟨⟨⟨by omega, by omega⟩, by omega⟩, by split <;> omega⟩, ?_⟩
  right; omega
theorem rangeSize_nonneg {a b c : Int} (hc : c = 1 \/ c = -1) : 0 <= Builtin.Range.rangeSize a b c := by
 unfold Builtin.Range.rangeSize
 rcases hc with rfl | rfl
 ·simp only [show ((1 : Int) > 0) from by decide, if_true, Int.ediv_one]; split <;> omega
 ·simp only [show ¬ ((-1 : Int) > 0) from by decide, if_false, Int.neg_neg, Int.ediv_one]; split <;> omega
theorem itOf_ok (S : St C g envs env ρ lv hp s) {v : V} {w : Value} {it : It} {hp' : Hp} {Q : Value -> Shared -> Prop} (hv : VRel ρ s.heap v w) (h : itOf v hp = some (.ok it hp'))
  (hQ : ∀ o, ItRel ρ (s.heap.push o) s.heap.objs.size it -> hp' = hp -> Q (.ref s.heap.objs.size) { s with heap := s.heap.push o }) : wpAny C.M A (pyIter w) Q E s := by
 have kp : ∀ (o : Obj) b ob, s.heap.get? b = some ob -> (s.heap.push o).get? b = some ob := fun o b ob e => Heap.get?_push_of_some _ e
 cases v with
 | range a b c =>
  obtain ⟨q, h⟩ := ite_some h
  obtain ⟨r, t, u, z, rfl, hr⟩ := hv
  cases h
  refine wpAny_pyIter_range hr (small_of q.1 q.2.1 q.2.2) (hQ _ ?_ rfl)
  show IsRangeIter _ _ _ _ _
  rw [Int.toNat_of_nonneg (rangeSize_nonneg q.1)]
  exact Heap.get?_push_size _ rfl
 | tup vs =>
  obtain ⟨a, ws, rfl, hT, hs⟩ := hv
  cases h
  have st := stable_of_keeps (kp { cls := .type "tuple_iterator", data := .fields #[.ref a, .int 0 0] })
  exact wpAny_pyIter_tuple hT (hQ _ (.inl ⟨a, ws, 0, ⟨_, Heap.get?_push_size _ rfl, rfl, rfl⟩, isTup_mono st hT, by rw [List.drop_zero]; exact hs.mono (List.prefix_refl _) st⟩) rfl)
 | str x =>
  obtain ⟨hx, t, rfl⟩ := hv
  cases h
  cases q : (strOf x).cps.all (· < 128) with
  | true => exact wpAny_pyIter_ascii q (hQ _ (.inr (.inl ⟨_, x, t, 0, .inl rfl, ⟨_, Heap.get?_push_size _ rfl, rfl, rfl⟩, hx, rfl⟩)) rfl)
  | false => exact wpAny_pyIter_wide q (hQ _ (.inr (.inl ⟨_, x, t, 0, .inr rfl, ⟨_, Heap.get?_push_size _ rfl, rfl, rfl⟩, hx, rfl⟩)) rfl)
 | bytes b =>
  obtain ⟨hb, t, rfl⟩ := hv
  cases h
  exact KBw.pyIter_bytes (hQ _ (.inr (.inr ⟨b, t, 0, ⟨_, Heap.get?_push_size _ rfl, rfl, rfl⟩, hb, rfl⟩)) rfl)
 | ref i =>
  obtain ⟨vs, e, h⟩ := Option.map_eq_some_iff.mp h
  obtain ⟨x, dx, rfl, hi⟩ := hv
  cases h
  obtain ⟨ws, hl, _⟩ := isList_at S e hi
  exact wpAny_pyIter_list hl (hQ _ ⟨x, dx, ⟨_, Heap.get?_push_size _ rfl, rfl, rfl⟩, hi⟩ rfl)
 | _ => exact nn h
theorem it_self {a : Addr} {it : It} (I : ItRel ρ s.heap a it) {Q : Value -> Shared -> Prop} (h : Q (.ref a) s) : wpAny C.M A (pyIter (.ref a)) Q E s := by
 cases it with
 | range cur n step => exact wpAny_pyIter_rangeiter I h
 | seq vs =>
  rcases I with ⟨t, ws, k, hi, _⟩ | ⟨T, x, t, k, hT, hi, _⟩ | ⟨b, t, k, hi, _⟩
  ·exact wpAny_pyIter_tupleiter hi h
  ·rcases hT with rfl | rfl
   ·exact wpAny_pyIter_striter_ascii hi h
   ·exact wpAny_pyIter_striter_wide hi h
  ·exact KBw.pyIter_self hi h
 | list i k =>
  obtain ⟨x, dx, hi, hr⟩ := I
  exact wpAny_pyIter_listiter hi h
def NextRel (ρ : Env2) (h : Heap) (a : Addr) (r : Option (V × It)) (w : Option Value) : Prop := match r with
 | none => w = none
 | some (v, it) => ∃ u, w = some u /\ VRel ρ h v u /\ ItRel ρ h a it
def NextQ (ρ : Env2) (s : Shared) (a : Addr) (Q : Option Value -> Shared -> Prop) (r : Option (V × It)) : Prop := ∀ h' t w, (∀ b o, b ≠ a -> s.heap.get? b = some o -> h'.get? b = some o) -> NextRel ρ h' a r w -> Q w { s with heap := h', toks := t }
theorem next_tup {a : Addr} {vs : List V} (I : TupIt ρ s.heap a vs) (Hn : A.handled = none) {Q : Option Value -> Shared -> Prop} (st : ∀ {h' : Heap}, (∀ b o, b ≠ a -> s.heap.get? b = some o -> h'.get? b = some o) -> Stable s.heap h')
  (hQ : ∀ r, nextIt (.seq vs) hp = some r -> NextQ ρ s a Q r) : wpAny C.M A (pyNext (.ref a)) Q E s := by
 obtain ⟨t, ws, k, hi, hT, hs⟩ := I
 have hne : t ≠ a := fun q => by
  obtain ⟨oi, e, c, d⟩ := hi
  obtain ⟨ot, e', c', _⟩ := hT
  rw [q, e] at e'
  cases e'
  rw [c] at c'
  exact absurd (Value.type.inj c') (by decide)
 cases vs with
 | nil =>
  have hl : ws.toArray[k]? = none := (List.getElem?_toArray ..).trans (List.getElem?_eq_none (List.drop_eq_nil_iff.mp hs))
  exact wpAny_pyNext_tuple_end Hn hi hT hl fun h' he => hQ none rfl h' _ none (fun b o hb e => he b o hb e) rfl
 | cons v vs =>
  obtain ⟨w, us, hdr, hv, hr⟩ := hs
  have hk : ws.toArray[k]? = some w := by rw [List.getElem?_toArray, <- List.head?_drop, hdr]; rfl
  have hus : ws.drop (k + 1) = us := by rw [<- List.drop_drop, hdr]; rfl
  refine wpAny_pyNext_tuple_item hi hT hk fun h' hi' hsb => ?_
  have k' : ∀ b o, b ≠ a -> s.heap.get? b = some o -> h'.get? b = some o := fun b o hb e => (hsb.2 b hb).trans e
  exact hQ _ rfl h' _ (some w) k' ⟨w, rfl, hv.mono (List.prefix_refl _) (st k'), .inl ⟨t, ws, k + 1, hi', isTup_mono (st k') hT, by rw [hus]; exact hr.mono (List.prefix_refl _) (st k')⟩⟩
theorem next_str {a : Addr} {vs : List V} (I : StrIt s.heap a vs) (Hn : A.handled = none) {Q : Option Value -> Shared -> Prop} (hQ : ∀ r, nextIt (.seq vs) hp = some r -> NextQ ρ s a Q r) : wpAny C.M A (pyNext (.ref a)) Q E s := by
 obtain ⟨T, x, t, k, hT, hi, hx, rfl⟩ := I
 have hg : (strOf x).cps[k]? = x[k]? := List.getElem?_toArray ..
 by_cases z : k < x.length
 ·rw [List.drop_eq_getElem_cons z] at hQ
  have hk : (strOf x).cps[k]? = some x[k] := hg.trans (List.getElem?_eq_getElem z)
  have hc : InS [x[k]] := fun c hc => by rw [List.mem_singleton.mp hc]; exact hx _ (List.getElem_mem z)
  have fin : ∀ h' tk, h'.IsStrIter a T (strOf x) t (k + 1) -> NextRel ρ h' a (some (.str [x[k]], .seq ((x.drop (k + 1)).map fun c => .str [c]))) (some (.str (strOf [x[k]]) tk)) := fun h' tk hi' =>
   ⟨_, rfl, ⟨hc, _, rfl⟩, .inr (.inl ⟨T, x, t, k + 1, hT, hi', hx, rfl⟩)⟩
  rcases hT with rfl | rfl
  ·exact wpAny_pyNext_ascii_item hi hk fun h' hi' hsb => hQ _ rfl h' _ (some _) (fun b o hb e => (hsb.2 b hb).trans e) (fin h' _ hi')
  ·exact wpAny_pyNext_wide_item hi hk fun h' hi' hsb => hQ _ rfl h' _ (some _) (fun b o hb e => (hsb.2 b hb).trans e) (fin h' _ hi')
 ·have z := Nat.not_lt.mp z
  rw [List.drop_eq_nil_of_le z] at hQ
  have hk : (strOf x).cps[k]? = none := hg.trans (List.getElem?_eq_none z)
  rcases hT with rfl | rfl
  ·exact wpAny_pyNext_ascii_end Hn hi hk fun h' he => hQ none rfl h' _ none (fun b o hb e => he b o hb e) rfl
  ·exact wpAny_pyNext_wide_end Hn hi hk fun h' he => hQ none rfl h' _ none (fun b o hb e => he b o hb e) rfl
theorem u8_val {x : Int} (h : 0 <= x /\ x < 256) : ((UInt8.ofNat x.toNat).toNat : Int) = x := by rw [UInt8.toNat_ofNat']; omega
theorem next_byt {a : Addr} {vs : List V} (I : BytIt s.heap a vs) (Hn : A.handled = none) {Q : Option Value -> Shared -> Prop} (hQ : ∀ r, nextIt (.seq vs) hp = some r -> NextQ ρ s a Q r) : wpAny C.M A (pyNext (.ref a)) Q E s := by
 obtain ⟨b, t, k, hi, hb, rfl⟩ := I
 have hg : (u8s b)[k]? = b[k]?.map fun i => UInt8.ofNat i.toNat := (List.getElem?_toArray ..).trans (List.getElem?_map ..)
 by_cases z : k < b.length
 ·rw [List.drop_eq_getElem_cons z] at hQ
  have hx := hb _ (List.getElem_mem z)
  refine KBw.next_item (c := UInt8.ofNat b[k].toNat) hi (by rw [hg, List.getElem?_eq_getElem z]; rfl) fun h' hi' hsb => hQ _ rfl h' _ (some _) (fun b o hb e => (hsb.2 b hb).trans e) ⟨_, rfl, ?_, .inr (.inr ⟨b, t, k + 1, hi', hb, rfl⟩)⟩
  rw [u8_val hx]
  exact ⟨_, rfl⟩
 ·have z := Nat.not_lt.mp z
  rw [List.drop_eq_nil_of_le z] at hQ
  exact KBw.next_end Hn hi (by rw [hg, List.getElem?_eq_none z]; rfl) fun h' he => hQ none rfl h' _ none (fun b o hb e => he b o hb e) rfl
theorem nextIt_ok (S : St C g envs env ρ lv hp s) {a : Addr} {it : It} (I : ItRel ρ s.heap a it) (H : Han A s.heap) (Hn : isRange it = false -> A.handled = none) {r : Option (V × It)} (h : nextIt it hp = some r) {Q : Option Value -> Shared -> Prop}
  (hQ : NextQ ρ s a Q r) : wpAny C.M A (pyNext (.ref a)) Q E s := by
 have st : ∀ {h' : Heap}, (∀ b o, b ≠ a -> s.heap.get? b = some o -> h'.get? b = some o) -> Stable s.heap h' := fun {h'} k => by
  obtain ⟨oa, T, e, c, i⟩ := I.type
  exact ⟨fun b o e' i' => k b o (fun q => bno i (some_uniq (q ▸ e') e ▸ i')) e', fun b o e' i' => ⟨o, k b o (fun q => bno (excLike_type c) (some_uniq (q ▸ e') e ▸ i')) e', i'⟩⟩
 have hQ' : ∀ r', nextIt it hp = some r' -> NextQ ρ s a Q r' := fun r' e => some_uniq h e ▸ hQ
 clear hQ
 cases it with
 | range cur n step =>
  cases n with
  | zero => exact range_end H I (by decide) fun h' he => hQ' none rfl h' _ none (fun b o hb e => he b o hb e) rfl
  | succ n =>
   refine wpAny_pyNext_range_item I (by omega) fun h' hi' hs => hQ' _ rfl h' _ (some _) (fun b o hb e => (hs.2 b hb).trans e) ⟨_, rfl, ⟨_, rfl⟩, ?_⟩
   rw [show ((n + 1 : Nat) : Int) - 1 = n by omega] at hi'
   exact hi'
 | seq vs =>
  rcases I with I | I | I
  ·exact next_tup I (Hn rfl) st hQ'
  ·exact next_str I (Hn rfl) hQ'
  ·exact next_byt I (Hn rfl) hQ'
 | list i k =>
  obtain ⟨vs, q, h⟩ := Option.map_eq_some_iff.mp h
  obtain ⟨x, dx, hi, hr⟩ := I
  obtain ⟨ws, hl, r⟩ := isList_at S q hr
  have hn : nextIt (.list i k) hp = some (vs[k]?.map fun v => (v, .list i (k + 1))) := by show (listAt i hp).map _ = _; rw [q]; rfl
  have hQ := hQ' _ hn
  have hg : ws.toArray[k]? = ws[k]? := List.getElem?_toArray ..
  cases hv : vs[k]? with
  | none =>
   rw [hv] at hQ
   refine list_end H hi hl (hg.trans ?_) fun h' he => hQ h' _ none (fun b o hb e => he b o hb e) rfl
   rw [List.getElem?_eq_none_iff] at hv ⊢; rw [r.length]; exact hv
  | some v =>
   rw [hv] at hQ
   obtain ⟨w, hw, rv⟩ := r.get hv
   refine wpAny_pyNext_list_item (x := w) hi hl (hg.trans hw) fun h' hi' hsb => ?_
   have k' : ∀ b o, b ≠ a -> s.heap.get? b = some o -> h'.get? b = some o := fun b o hb e => (hsb.2 b hb).trans e
   exact hQ h' _ (some w) k' ⟨w, rfl, rv.mono (List.prefix_refl _) (st k'), x, dx, hi', hr⟩
end
end Mine
namespace Mine
open PySem PySem.W PyProof.Rows
open Classical in
noncomputable def rest (ρ : Env2) (own : List Addr) (h : Heap) : Base := fun a => if a ∈ own \/ ∃ p ∈ ρ, a = p.1 \/ a = p.2 then none else h.get? a
section
variable {C : Cx} {g : Base} {h h' : Heap} {envs : List Env} {env : Env} {ρ ρ' : Env2} {lv lv' : Loc} {hp hp' : Hp} {own : List Addr}
theorem rest_some {a : Addr} {o : Obj} (h1 : a ∉ own) (h2 : ∀ p ∈ ρ, a ≠ p.1 /\ a ≠ p.2) (e : h.get? a = some o) : rest ρ own h a = some o := by
 unfold rest
 rw [if_neg, e]
 rintro (q | ⟨p, hp, q | q⟩)
 ·exact h1 q
 ·exact (h2 p hp).1 q
 ·exact (h2 p hp).2 q
theorem rest_get {a : Addr} {o : Obj} (e : rest ρ own h a = some o) : h.get? a = some o /\ a ∉ own /\ ∀ p ∈ ρ, a ≠ p.1 /\ a ≠ p.2 := by
 unfold rest at e
 split at e
 ·cases e
 ·rename_i q
  exact ⟨e, fun z => q (.inl z), fun p hp => ⟨fun z => q (.inr ⟨p, hp, .inl z⟩), fun z => q (.inr ⟨p, hp, .inr z⟩)⟩⟩
theorem rest_none_own {a : Addr} (ha : a ∈ own) : rest ρ own h a = none := by unfold rest; rw [if_pos (.inl ha)]
theorem rest_none_led {a : Addr} {p : Addr × Addr} (hp : p ∈ ρ) (ha : a = p.1 \/ a = p.2) : rest ρ own h a = none := by unfold rest; rw [if_pos (.inr ⟨p, hp, ha⟩)]
theorem rest_none {a : Addr} (ha : h.get? a = none) : rest ρ own h a = none := by unfold rest; rw [ha]; split <;> rfl
theorem rest_is_none {a : Addr} (e : rest ρ own h a = none) : h.get? a = none \/ a ∈ own \/ ∃ p ∈ ρ, a = p.1 \/ a = p.2 := by
 unfold rest at e
 split at e
 ·rename_i q; exact .inr q
 ·exact .inl e
theorem Rel.fresh_mem (R : Rel C g envs env ρ lv hp h) {p : Addr × Addr} {a : Addr} (hm : p ∈ ρ) (ha : a = p.1 \/ a = p.2) : g a = none /\ a ∉ framesOf envs /\ a ∉ ownOf env := by
 obtain ⟨i, hi, e⟩ := List.mem_iff_getElem.mp hm
 exact R.fresh i p a (by rw [List.getElem?_eq_getElem hi, e]) ha
theorem Rel.g_rest (R : Rel C g envs env ρ lv hp h) (hown : ∀ a ∈ own, a ∈ ownOf env) {b : Addr} {o : Obj} (e : g b = some o) : ∃ sl, rest ρ own h b = some { o with slots := sl } /\ (b ∉ framesOf envs -> sl = o.slots) := by
 obtain ⟨sl, e', r⟩ := R.keep b o e
 refine ⟨sl, rest_some (fun q => ?_) (fun p hm => ⟨fun q => ?_, fun q => ?_⟩) e', r⟩
 ·exact no (R.own b (hown b q)) e
 ·exact no (R.fresh_mem hm (.inl q)).1 e
 ·exact no (R.fresh_mem hm (.inr q)).1 e
theorem Rel.h_rest (R : Rel C g envs env ρ lv hp h) (hown : ∀ a ∈ own, a ∈ ownOf env) {b : Addr} {o : Obj} (e : C.H0.get? b = some o) : rest ρ own h b = some o := by
 have hg := R.sub b o e
 refine rest_some (fun q => ?_) (fun p hm => ⟨fun q => ?_, fun q => ?_⟩) (R.stay b o e)
 ·exact no (R.own b (hown b q)) hg
 ·exact no (R.fresh_mem hm (.inl q)).1 hg
 ·exact no (R.fresh_mem hm (.inr q)).1 hg
theorem Rel.widen (R : Rel C g envs env ρ lv hp h) : Rel C (rest ρ (ownOf env) h) envs env ρ lv hp h where
 stay := R.stay
 sub := fun _ _ e => R.h_rest (fun _ q => q) e
 keep := fun b o e => ⟨o.slots, (rest_get e).1, fun _ => rfl⟩
 frs := R.frs
 frd := R.frd
 len := R.len
 led := R.led
 apart := R.apart
 fresh := fun i p a e ha => ⟨rest_none_led (List.mem_of_getElem? e) ha, (R.fresh i p a e ha).2⟩
 loc := R.loc
 own := fun a ha => rest_none_own ha
 cells := R.cells
 celk := fun x hx => (R.celk x hx).elim .inl fun ⟨_, e⟩ => let ⟨_, e', _⟩ := R.g_rest (own := ownOf env) (fun _ q => q) e; .inr ⟨_, e'⟩
 arg := R.arg
theorem Rel.narrow (R : Rel C g envs env ρ lv hp h) (R' : Rel C (rest ρ (ownOf env) h) envs env ρ' lv' hp' h') : Rel C g envs env ρ' lv' hp' h' where
 stay := R'.stay
 sub := R.sub
 keep := fun b o e => by
  obtain ⟨sl, e', r⟩ := R.g_rest (own := ownOf env) (fun _ q => q) e
  obtain ⟨sl', e'', r'⟩ := R'.keep b _ e'
  exact ⟨sl', e'', fun q => (r' q).trans (r q)⟩
 frs := R'.frs
 frd := R'.frd
 len := R'.len
 led := R'.led
 apart := R'.apart
 fresh := fun i p a e ha => by
  obtain ⟨f1, f2, f3⟩ := R'.fresh i p a e ha
  refine ⟨?_, f2, f3⟩
  rcases rest_is_none f1 with q | q | ⟨p', hm, q⟩
  ·exact (R.notIn q).1
  ·exact absurd q f3
  ·exact (R.fresh_mem hm q).1
 loc := R'.loc
 own := R.own
 cells := R'.cells
 celk := R.celk
 arg := R'.arg
theorem St.widen {s : Shared} (S : St C g envs env ρ lv hp s) : St C (rest ρ (ownOf env) s.heap) envs env ρ lv hp s := ⟨S.R.widen, S.gens, S.os⟩
theorem St.narrow {s s' : Shared} (S : St C g envs env ρ lv hp s) (S' : St C (rest ρ (ownOf env) s.heap) envs env ρ' lv' hp' s') : St C g envs env ρ' lv' hp' s' := ⟨S.R.narrow S'.R, S'.gens, S'.os⟩
theorem LocRel.keep' (pr : ρ <+: ρ') (st : Stable h h') (kL : ∀ a o, a ∈ env.locals :: env.cells.map (·.2) -> h.get? a = some o -> ∃ sl, h'.get? a = some { o with slots := sl })
  (L : LocRel C.toDt env ρ lv h) : LocRel C.toDt env ρ' lv h' := by
 obtain ⟨⟨m, hn, hm⟩, hc, ha, hh⟩ := L
 have cell : ∀ {n c v}, (n, c) ∈ env.cells -> h.IsCell c v -> h'.IsCell c v := fun {n c v} q ⟨o, e1, e2⟩ => by
  obtain ⟨sl, e'⟩ := kL c o (List.mem_cons_of_mem _ (List.mem_map.mpr ⟨_, q, rfl⟩)) e1
  exact ⟨_, e', e2⟩
 refine ⟨⟨m, Ns.upTo hn fun o e => kL _ o List.mem_cons_self e, fun i v e q => let ⟨w, e', r⟩ := hm i v e q; ⟨w, e', r.mono pr st⟩⟩, fun i v e q => ?_, fun x hx => ?_, hh⟩
 ·obtain ⟨c, w, e1, e2, r⟩ := hc i v e q
  exact ⟨c, w, e1, cell (mem_of_lookup e1) e2, r.mono pr st⟩
 ·obtain ⟨v, hv⟩ := ha x hx; exact ⟨v, cell (n := x.1) hx hv⟩
theorem Rel.enter (R : Rel C g envs env ρ lv hp h) {fenv : Env} {lv0 : Loc} (k : ∀ b o, h.get? b = some o -> h'.get? b = some o) (hk : fenv.scope.kind = .function) (hf : fenv.frame = some fenv.locals)
  (hnew : ∀ a ∈ ownOf fenv, h.get? a = none) (hobj : ∃ o, h'.get? fenv.locals = some o /\ imm o = false /\ ∀ vs, o.data ≠ .fields vs) (hl : LocRel C.toDt fenv ρ lv0 h') (hc : fenv.cells.Pairwise fun x y => x.2 ≠ y.2) :
  Rel C (rest ρ [] h) (fenv :: envs) fenv ρ lv0 hp h' where
 stay := fun b o e => k b o (R.stay b o e)
 sub := fun _ _ e => R.h_rest (fun _ q => by cases q) e
 keep := fun b o e => ⟨o.slots, k b o (rest_get e).1, fun _ => rfl⟩
 frs := by
  obtain ⟨o, e, _, nf⟩ := hobj
  refine ⟨by rw [hk]; decide, ⟨fenv.locals, o, hf, ?_, e, nf⟩, R.frs.of_keeps fun b o e _ => ⟨o, k b o e, rfl⟩⟩
  cases q : C.H0.get? fenv.locals with
  | none => rfl
  | some o' =>
   have := R.stay _ _ q
   rw [hnew _ (by unfold ownOf; exact List.mem_cons_self)] at this; cases this
 frd := fun a ha => by
  unfold framesOf at ha
  rw [List.filterMap_cons, hf] at ha
  rcases List.mem_cons.mp ha with rfl | ha
  ·obtain ⟨o, e, i, _⟩ := hobj; exact ⟨o, e, i⟩
  ·obtain ⟨o, e, i⟩ := R.frd a ha; exact ⟨o, k a o e, i⟩
 len := R.len
 led := fun i p o e1 e2 => (R.led i p o e1 e2).keep (List.prefix_refl _) (stable_of_keeps k) fun a o _ e => k a o e
 apart := R.apart
 fresh := fun i p a e ha => by
  have hx : h.get? a ≠ none := by
   have hl : i < hp.length := R.len ▸ (List.getElem?_eq_some_iff.mp e).1
   have O := R.led i p _ e (List.getElem?_eq_getElem hl)
   intro q
   revert O
   cases hp[i] with
   | list vs => rintro ⟨z, ws, n, h1, _⟩; rcases ha with rfl | rfl; rw [h1] at q; cases q; rw [z, h1] at q; cases q
   | ba b => rintro ⟨z, h1, _⟩; rcases ha with rfl | rfl; rw [h1] at q; cases q; rw [z, h1] at q; cases q
   | inst c fs => rintro ⟨h1, es, n, hn, _⟩; rcases ha with rfl | rfl; rw [h1] at q; cases q; rw [hn] at q; cases q
   | exc c fs => rintro ⟨⟨o, vs, h1, _⟩, es, n, hn, _⟩; rcases ha with rfl | rfl; rw [h1] at q; cases q; rw [hn] at q; cases q
  refine ⟨rest_none_led (List.mem_of_getElem? e) ha, fun q => ?_, fun q => hx (hnew a q)⟩
  unfold framesOf at q
  rw [List.filterMap_cons, hf] at q
  rcases List.mem_cons.mp q with rfl | q
  ·exact hx (hnew _ (by unfold ownOf; exact List.mem_cons_self))
  ·exact (R.fresh i p a e ha).2.1 q
 loc := hl
 own := fun a ha => rest_none (hnew a ha)
 cells := fun _ => hc
 celk := fun x hx => .inl (by unfold ownOf; rw [if_pos (by unfold isFn; rw [hf]; exact beq_self_eq_true _)]; exact List.mem_cons_of_mem _ (List.mem_map.mpr ⟨x, hx, rfl⟩))
 arg := let ⟨a, vs, e1, e2, e3⟩ := R.arg; ⟨a, vs, e1, e2, k _ _ e3⟩
theorem Rel.leave (R : Rel C g envs env ρ lv hp h) {fenv : Env} (hf : fenv.frame = some fenv.locals) (hL : h.get? fenv.locals = none) (R' : Rel C (rest ρ [] h) (fenv :: envs) fenv ρ' lv' hp' h') (X : Ext ρ h ρ' h') : Rel C g envs env ρ' lv hp' h' where
 stay := R'.stay
 sub := R.sub
 keep := fun b o e => by
  obtain ⟨sl, e', r⟩ := R.g_rest (own := []) (fun _ q => by cases q) e
  obtain ⟨sl', e'', r'⟩ := R'.keep b _ e'
  refine ⟨sl', e'', fun q => (r' fun z => ?_).trans (r q)⟩
  unfold framesOf at z
  rw [List.filterMap_cons, hf] at z
  rcases List.mem_cons.mp z with z | z
  ·have := (rest_get e').1; rw [z, hL] at this; cases this
  ·exact q z
 frs := R'.frs.2.2
 frd := fun a ha => R'.frd a (by unfold framesOf; rw [List.filterMap_cons, hf]; exact List.mem_cons_of_mem _ ha)
 len := R'.len
 led := R'.led
 apart := R'.apart
 fresh := fun i p a e ha => by
  obtain ⟨f1, f2, f3⟩ := R'.fresh i p a e ha
  rcases rest_is_none f1 with q | q | ⟨p', hm, q⟩
  ·exact R.notIn q
  ·cases q
  ·exact R.fresh_mem hm q
 loc := R.loc.keep' X.pre X.st fun a o ha e => by
  have hr : rest ρ [] h a = some o := by
   refine rest_some (by simp) (fun p hm => ?_) e
   have key : ∀ q : a = p.1 \/ a = p.2, False := fun q => by
    obtain ⟨f1, _, f3⟩ := R.fresh_mem hm q
    rcases List.mem_cons.mp ha with z | z
    ·exact f3 (by unfold ownOf; rw [z]; exact List.mem_cons_self)
    ·obtain ⟨x, hx, rfl⟩ := List.mem_map.mp z
     rcases R.celk x hx with y | ⟨o, y⟩
     ·exact f3 y
     ·rw [f1] at y; cases y
   exact ⟨fun q => key (.inl q), fun q => key (.inr q)⟩
  obtain ⟨sl, e', _⟩ := R'.keep a o hr
  exact ⟨sl, e'⟩
 own := R.own
 cells := R.cells
 celk := R.celk
 arg := R'.arg
end
end Mine
namespace Mine
open PySem PySem.W PyProof.Rows
structure FnOk (C : Cx) (f : Nat) (r : Fn) (fd : FuncData) (body : List Stmt) : Prop where
 obj : ∃ o, C.K.lookup (C.fa f) = some o /\ o.data = .func fd
 bd : fd.body = .stmts body
 mt : ∃ its, body = toSs C.toDt r.body its /\ okSs C.toDt fd.scope r.body its = true
 co : fd.scope.isCoroutine = false
 gen : fd.scope.isGenerator = false
 kind : fd.scope.kind = .function
 code : codeIn C.K fd.code fd.qualname = true
 gl : fd.globals = mainGlobals
 bu : fd.builtins = builtinsNs
 clo : fd.closure = []
 bind : ∀ ws : List Value, ws.length = r.ps.length -> ∀ S, peek C.K S (bindArgs fd ⟨ws, []⟩) = some ((r.ps.map C.nm).zip ws)
 ps : ∀ p ∈ r.ps, locOk fd.scope (C.nm p) = true
 nodup : r.ps.Nodup
structure CxOk (C : Cx) : Prop extends CxCls C where
 fn : ∀ f r, C.T.fn f = some r -> ∃ fd body, FnOk C f r fd body
 glob : ∃ mg mb, C.H0.Ns mainGlobals mg /\ C.H0.Ns builtinsNs mb /\ ∀ n g, C.gl n = some g -> mg (C.nm n) = some (C.gv g) \/ (mg (C.nm n) = none /\ mb (C.nm n) = some (C.gv g))
 lim : C.H0.NoLimit
 methFn : ∀ c m f, C.T.meth c m = some f -> (C.T.fn f).isSome = true
 glFn : ∀ n f, C.gl n = some (.fn f) -> (C.T.fn f).isSome = true
 excCls : ∀ c, ∃ oc od cd sl, C.K.lookup (C.ea c) = some ⟨oc, od, .cls cd, sl⟩ /\ specialIn C.K (.ref (C.ea c)) "__call__" = some (some (.builtin "type.__call__"))
structure Here (C : Cx) (hm : Bool) (d : Nat) (A : Around) (envs : List Env) (env : Env) : Prop where
 frames : A.frames = some envs
 depth : A.depth + 2 * d + 3 < recursionLimit
 units : A.units + 4 * d + 101 < cLine
 hn : hm = false -> A.handled = none
 fk : env.scope.kind = .function
 gl : env.globals = mainGlobals
 bu : env.builtins = builtinsNs
 frm : ∃ L, env.frame = some L /\ L ∈ framesOf envs
section
variable (C : Cx) (g : Base) (envs : List Env) (env : Env)
def RsV {α : Type} (ρ : Env2) (lv : Loc) (s : Shared) (out : Out α) (e : Value) (s' : Shared) : Prop :=
 match out with
 | .ok _ _ => False
 | .raise i hp' => ∃ ρ' x dx, St C g envs env ρ' lv hp' s' /\ Ext ρ s.heap ρ' s'.heap /\ ρ'[i]? = some (x, dx) /\ (∃ c fs, hp'[i]? = some (.exc c fs)) /\ e = .ref x /\ Fly g envs env ρ' s'.heap x
def ResV (ρ : Env2) (lv : Loc) (s : Shared) (out : Out V) (r : Result) (s' : Shared) : Prop := match r with
 | .ok (.ret v) => OkV C g envs env ρ lv s out v s'
 | .ok _ => False
 | .error e => RsV C g envs env ρ lv s out e s'
end
def CallOk (C : Cx) (d : Nat) (call : Bool -> Nat -> List V -> P V) : Prop :=
 ∀ (hm : Bool) (f : Nat) (args : List V) (hp : Hp) (out : Out V), call hm f args hp = some out -> ∀ (g : Base) (envs : List Env) (env : Env) (ρ : Env2) (lv : Loc) (s : Shared) (A : Around) (ws : List Value),
  St C g envs env ρ lv hp s -> A.frames = some envs -> A.depth + 2 * d + 2 < recursionLimit -> A.units + 4 * d + 100 < cLine -> (hm = false -> A.handled = none) -> Han A s.heap -> VRels ρ s.heap args ws ->
  codeX C.M A (.call (.ref (C.fa f)) ⟨ws, []⟩) (ResV C g envs env ρ lv s out) s
section
variable {C : Cx} {g : Base} {envs : List Env} {env : Env} {ρ ρ₀ : Env2} {lv : Loc} {hp : Hp} {s s₀ : Shared} {A : Around} {hm : Bool} {d : Nat}
theorem OkA.trans {α β : Type} {Rl : Env2 -> Heap -> α -> β -> Prop} {out : Out α} {w : β} {s' : Shared} (X : Ext ρ₀ s₀.heap ρ s.heap) (z : OkA C g envs env Rl ρ lv s out w s') : OkA C g envs env Rl ρ₀ lv s₀ out w s' := by
 cases out with
 | ok v hp' => exact z.elim fun ρ' z => ⟨ρ', z.1, X.trans z.2.1, z.2.2⟩
 | raise => exact z
theorem RsV.trans {α : Type} {out : Out α} {e : Value} {s' : Shared} (X : Ext ρ₀ s₀.heap ρ s.heap) (z : RsV C g envs env ρ lv s out e s') : RsV C g envs env ρ₀ lv s₀ out e s' := by
 cases out with
 | ok => exact z
 | raise i hp' => exact z.elim fun ρ' z => z.elim fun x z => z.elim fun dx z => ⟨ρ', x, dx, z.1, X.trans z.2.1, z.2.2⟩
theorem A_seq {α α' β : Type} {Rl : Env2 -> Heap -> α -> α' -> Prop} {m : P α} {f : α -> P β} {out : Out β} {t : Sem α'} {Q : α' -> Shared -> Prop} {E : Value -> Shared -> Prop} (h : P.bind m f hp = some out)
  (h1 : ∀ out₁, m hp = some out₁ -> wpX C.M A t (OkA C g envs env Rl ρ lv s out₁) (RsV C g envs env ρ lv s out₁) s)
  (h2 : ∀ v hp₁, f v hp₁ = some out -> ∀ w ρ₁ s₁, St C g envs env ρ₁ lv hp₁ s₁ -> Ext ρ s.heap ρ₁ s₁.heap -> Rl ρ₁ s₁.heap v w -> Q w s₁)
  (hE : ∀ e s', RsV C g envs env ρ lv s out e s' -> E e s') : wpX C.M A t Q E s := by
 cases q : m hp with
 | none => unfold P.bind at h; rw [q] at h; exact nn h
 | some o =>
  unfold P.bind at h
  rw [q] at h
  cases o with
  | raise i hp' =>
   rw [<- Option.some.inj h] at hE
   exact X_mono (h1 _ q) (fun w s₁ hw => hw.elim) fun e s' he => hE e s' he
  | ok v hp₁ => exact X_mono (h1 _ q) (fun w s₁ hw => hw.elim fun ρ₁ z => h2 _ _ h w ρ₁ s₁ z.1 z.2.1 z.2.2) fun e s' he => he.elim
theorem V_seq {β : Type} {m : P V} {f : V -> P β} {out : Out β} {t : Sem Value} {Q : Value -> Shared -> Prop} {E : Value -> Shared -> Prop} (h : P.bind m f hp = some out)
  (h1 : ∀ out₁, m hp = some out₁ -> wpX C.M A t (OkV C g envs env ρ lv s out₁) (RsV C g envs env ρ lv s out₁) s)
  (h2 : ∀ v hp₁, f v hp₁ = some out -> ∀ w ρ₁ s₁, St C g envs env ρ₁ lv hp₁ s₁ -> Ext ρ s.heap ρ₁ s₁.heap -> VRel ρ₁ s₁.heap v w -> Q w s₁)
  (hE : ∀ e s', RsV C g envs env ρ lv s out e s' -> E e s') : wpX C.M A t Q E s := A_seq (Rl := VRel) h h1 h2 hE
theorem of_some {α : Type} {x : Option α} {out : Out α} (h : P.of x hp = some out) : ∃ a, x = some a /\ out = .ok a hp := by
 exact (Option.map_eq_some_iff.mp h).elim fun a z => ⟨a, z.1, z.2.symm⟩
theorem leaf {out : Out V} {t : Sem Value} (h : ∀ E, wpAny C.M A t (OkV C g envs env ρ lv s out) E s) : wpX C.M A t (OkV C g envs env ρ lv s out) (RsV C g envs env ρ lv s out) s := wpX_any (h _)
theorem kindOf_eq (env : Env) (n : Str) : env.kindOf n = env.scope.names.lookup n := rfl
theorem eval_name {x : Nat} {n : Str} {pos : Pos} {v : V} {E : Value -> Shared -> Prop} (S : St C g envs env ρ lv hp s) (H : Here C hm d A envs env) (hx : lv.lookup x = some v) (ho : locOk env.scope n = true) (hn : C.nm x = n) {Q : Value -> Shared -> Prop} (h : ∀ w, VRel ρ s.heap v w -> Q w s) :
  wpX C.M A (eval (.Name n pos) env) Q E s := by
 subst hn
 have hd : (C.nm x == ("__debug__" : Str)) = false := by
  unfold locOk at ho
  rw [Bool.and_eq_true] at ho
  have := ho.1
  simpa using this
 rw [arm_eval_Name, hd]
 exact X_at (wpX_any (load_name S H.fk hx ho h))
theorem eval_global {n : Nat} {m : Str} {pos : Pos} {G : G} {E : Value -> Shared -> Prop} (X : CxOk C) (S : St C g envs env ρ lv hp s) (H : Here C hm d A envs env) (hg : C.gl n = some G) (ho : gloOk env.scope m = true) (hn : C.nm n = m) {Q : Value -> Shared -> Prop} (h : Q (C.gv G) s) :
  wpX C.M A (eval (.Name m pos) env) Q E s := by
 subst hn
 unfold gloOk at ho
 rw [Bool.and_eq_true] at ho
 have hd : (C.nm n == ("__debug__" : Str)) = false := by have := ho.1; simpa using this
 have hk : env.kindOf (C.nm n) = some .globalImplicit := eq_of_beq ho.2
 obtain ⟨mg, mb, h1, h2, h3⟩ := X.glob
 have e1 : s.heap.Ns env.globals mg := by rw [H.gl]; exact h1.keeps S.R.stay
 have e2 : s.heap.Ns env.builtins mb := by rw [H.bu]; exact h2.keeps S.R.stay
 refine wpX_any (Calls.Name_function_global H.fk hk ?_ hd)
 rcases h3 n G hg with q | ⟨q1, q2⟩
 ·exact Calls.loadGlobal_global e1 q h
 ·exact Calls.loadGlobal_builtin e1 q1 e2 q2 h
end
def ExcMk (C : Cx) : Prop := ∀ (c : Nat) (args : List V) (hp : Hp) (out : Out V) (x : X), callG C.T x (.exc c) args hp = some out -> ∀ (g : Base) (envs : List Env) (env : Env) (ρ : Env2) (lv : Loc) (s : Shared) (A : Around) (ws : List Value) (d : Nat),
  St C g envs env ρ lv hp s -> Here C x.hm d A envs env -> VRels ρ s.heap args ws -> wpX C.M A (call (.ref (C.ea c)) ws) (OkV C g envs env ρ lv s out) (RsV C g envs env ρ lv s out) s
section
variable {C : Cx} {g : Base} {envs : List Env} {env : Env} {ρ ρ₀ : Env2} {lv : Loc} {hp : Hp} {s s₀ : Shared} {A : Around} {hm : Bool} {d : Nat} {x : X}
theorem keeper_ok (X : CxOk C) (S : St C g envs env ρ lv hp s) {G : G} (hG : ∀ f, G = .fn f -> (C.T.fn f).isSome = true) {E : Value -> Shared -> Prop} : wpX C.M A (keeperOf (C.gv G)) (fun k s' => s' = s /\ (k = .machine \/ k = .frame)) E s := by
 have KI := S.kin X.toCxCls
 cases G with
 | fn f =>
  obtain ⟨r, hr⟩ := Option.isSome_iff_exists.mp (hG f rfl)
  obtain ⟨fd, body, F⟩ := X.fn f r hr
  obtain ⟨o, ho, hd⟩ := F.obj
  show wpX _ _ (keeperOf (.ref (C.fa f))) _ _ _
  unfold keeperOf
  refine X_bind (wpX_any (wpAny_load (KI _ _ ho) ?_))
  rw [hd]
  exact X_pure ⟨rfl, .inr rfl⟩
 | cls c =>
  obtain ⟨⟨oc, od, cd, sl, hC, e1, e2, e4⟩, made, base, self, top, call, typ⟩ := makes_of (M := C.M) KI (X.makes c)
  show wpX _ _ (keeperOf (.ref (C.ca c))) _ _ _
  unfold keeperOf
  refine X_bind (wpX_any (wpAny_load hC ?_))
  refine X_bind (X_looks call ?_)
  rw [if_pos (by decide)]
  exact X_pure ⟨rfl, .inl rfl⟩
 | exc c =>
  obtain ⟨oc, od, cd, sl, h1, h2⟩ := X.excCls c
  show wpX _ _ (keeperOf (.ref (C.ea c))) _ _ _
  unfold keeperOf
  refine X_bind (wpX_any (wpAny_load (KI _ _ h1) ?_))
  refine X_bind (X_looks (looks_specialIn KI h2) ?_)
  rw [if_pos (by decide)]
  exact X_pure ⟨rfl, .inl rfl⟩
 | bi b => cases b <;> exact X_pure ⟨rfl, .inl rfl⟩
theorem okOf_some {α : Type} {r : Option (Out α)} {p : α × Hp} (h : okOf r = some p) : r = some (.ok p.1 p.2) := by
 obtain ⟨o, e, h⟩ := Option.bind_eq_some_iff.mp h
 cases o with
 | ok a hp' => rw [e, <- Option.some.inj h]
 | raise => exact nn h
theorem call_fn (CO : CallOk C d x.call) (H : Here C x.hm d A envs env) (S : St C g envs env ρ lv hp s) (Hh : Han A s.heap) {f : Nat} {args : List V} {ws : List Value} {out : Out V} (hv : VRels ρ s.heap args ws) (h : x.call x.hm f args hp = some out) :
  wpX C.M A (call (.ref (C.fa f)) ws) (OkV C g envs env ρ lv s out) (RsV C g envs env ρ lv s out) s :=
 X_call (codeX_mono (CO _ _ _ _ _ h g envs env ρ lv s A ws S H.frames (Nat.lt_trans (Nat.lt_succ_self _) H.depth) (Nat.lt_trans (Nat.lt_succ_self _) H.units) H.hn Hh hv) fun _ _ z => z)
theorem new_inst (X : CxOk C) (CO : CallOk C d x.call) (H : Here C x.hm d A envs env) (S : St C g envs env ρ lv hp s) (Hh : Han A s.heap) {c f : Nat} {args : List V} {ws : List Value} {hp' : Hp} (hv : VRels ρ s.heap args ws) (hf : C.T.init c = some f)
  (q : x.call x.hm f (V.ref hp.length :: args) (hp ++ [O.inst c []]) = some (.ok .none hp')) : wpX C.M A (call (.ref (C.ca c)) ws) (OkV C g envs env ρ lv s (.ok (.ref hp.length) hp')) (RsV C g envs env ρ lv s (Out.ok (V.ref hp.length) hp')) s := by
 have k : ∀ b o, s.heap.get? b = some o -> ((s.heap.push emptyDict).push (instObj (C.ca c) s.heap.objs.size)).get? b = some o := fun b o e => Heap.get?_push_of_some _ (Heap.get?_push_of_some _ e)
 have hx : ((s.heap.push emptyDict).push (instObj (C.ca c) s.heap.objs.size)).get? (s.heap.objs.size + 1) = some (instObj (C.ca c) s.heap.objs.size) := by
  rw [<- Heap.size_push s.heap emptyDict]; exact Heap.get?_push_size _ rfl
 have hdx : ((s.heap.push emptyDict).push (instObj (C.ca c) s.heap.objs.size)).get? s.heap.objs.size = some (dictOf [] 0) := Heap.get?_push_of_some _ (Heap.get?_push_size _ rfl)
 obtain ⟨R', X'⟩ := S.R.alloc k (x := s.heap.objs.size + 1) (dx := s.heap.objs.size) (o := .inst c []) (none_past (Nat.le_succ _)) (none_at_end _) ⟨hx, [], 0, hdx, rfl⟩
 have S' : St C g envs env (ρ ++ [(s.heap.objs.size + 1, s.heap.objs.size)]) lv (hp ++ [O.inst c []]) { s with heap := (s.heap.push emptyDict).push (instObj (C.ca c) s.heap.objs.size) } := ⟨R', S.gens, S.os⟩
 have hlen : (ρ ++ [(s.heap.objs.size + 1, s.heap.objs.size)])[hp.length]? = some (s.heap.objs.size + 1, s.heap.objs.size) := by rw [<- S.R.len, List.getElem?_append_right (Nat.le_refl _), Nat.sub_self]; rfl
 have hd := H.depth
 have hu := H.units
 refine make_X X.toCxCls (S.kin X.toCxCls) hf (codeX_mono (CO _ _ _ _ _ q g envs env _ lv _ _ _ S' H.frames (by show A.depth + 1 + 2 * d + 2 < recursionLimit; omega) (by show A.units + 1 + 4 * d + 100 < cLine; omega) H.hn (Hh.mono X'.st) (.cons ⟨_, _, rfl, hlen⟩ (hv.ext X'))) fun r s' z => ?_)
 cases r with
 | error e => exact z.elim
 | ok fl => cases fl with
  | ret v =>
   obtain ⟨ρ', S₂, X₂, rv⟩ := z
   exact ⟨rv, ρ', S₂, X'.trans X₂, _, _, rfl, getElem?_pre X₂.pre hlen⟩
  | _ => exact z
theorem callG_ok (X : CxOk C) (XE : ExcMk C) (CO : CallOk C d x.call) (H : Here C x.hm d A envs env) (S : St C g envs env ρ lv hp s) (Hh : Han A s.heap) {G : G} {args : List V} {ws : List Value} {out : Out V} (hv : VRels ρ s.heap args ws) (h : callG C.T x G args hp = some out) :
  wpX C.M A (call (C.gv G) ws) (OkV C g envs env ρ lv s out) (RsV C g envs env ρ lv s out) s := by
 cases G with
 | fn f => exact call_fn CO H S Hh hv h
 | bi b => exact builtin_ok S Hh H.hn hv h
 | cls c =>
  obtain ⟨_, h⟩ := ite_none h
  obtain ⟨f, hf, h⟩ := Option.bind_eq_some_iff.mp h
  obtain ⟨r, q, h⟩ := Option.bind_eq_some_iff.mp h
  obtain ⟨qn, h⟩ := ite_some h
  have q := okOf_some q
  rw [isNone_eq qn] at q
  rw [<- Option.some.inj h]
  exact new_inst X CO H S Hh hv hf q
 | exc c => exact XE c args hp out x h g envs env ρ lv s A ws d S H hv
end
section
variable {C : Cx} {g : Base} {h h' : Heap} {envs : List Env} {env : Env} {ρ ρ' : Env2} {lv lv' : Loc} {hp hp' : Hp}
theorem Rel.loose (R : Rel C g envs env ρ lv hp h) {a : Addr} (L : Loose g envs env ρ a) (hI : ∀ o, h.get? a = some o -> imm o = false /\ excLike o = false) (hc : ∀ x ∈ env.cells, x.2 ≠ a) (k : ∀ b o, b ≠ a -> h.get? b = some o -> h'.get? b = some o) :
  Rel C g envs env ρ lv hp h' /\ Stable h h' := by
 have st : Stable h h' := ⟨fun b o e im => k b o (fun q => bno (hI o (q ▸ e)).1 im) e, fun b o e im => ⟨o, k b o (fun q => bno (hI o (q ▸ e)).2 im) e, im⟩⟩
 refine ⟨⟨fun b o e => k b o (fun q => ?_) (R.stay b o e), R.sub, fun b o e => ?_, funFrames_on (fun b hb o e nf => ⟨o, k b o (fun q => L.fr (q ▸ hb)) e, nf⟩) R.frs, fun b hb => ?_, R.len, fun j p o e1 e2 => ?_, R.apart, R.fresh, ?_, R.own, R.cells, R.celk, ?_⟩, st⟩
 rotate_right
 ·obtain ⟨b, vs, e1, e2, e3⟩ := R.arg
  exact ⟨b, vs, e1, e2, k b _ (fun q => (L.led 0 _ e1).1 q.symm) e3⟩
 ·have hg := R.sub b o e
  exact no L.g (q ▸ hg)
 ·obtain ⟨sl, e', r⟩ := R.keep b o e
  exact ⟨sl, k b _ (fun q => no L.g (q ▸ e)) e', r⟩
 ·obtain ⟨o, e, im⟩ := R.frd b hb
  exact ⟨o, k b o (fun q => L.fr (q ▸ hb)) e, im⟩
 ·refine (R.led j p o e1 e2).keep (List.prefix_refl _) st fun b ob ha e => k b ob (fun q => ?_) e
  subst q
  have := L.led j p e1
  rcases ha with ha | ha
  ·exact this.1 ha
  ·exact this.2 ha
 ·refine R.loc.keep (List.prefix_refl _) st (fun o e => ⟨o.slots, k _ o (fun q => L.own (q ▸ List.mem_cons_self)) e⟩) fun x hx o e => k _ o (hc x hx) e
theorem LocRel.congr (hl : ∀ i, lv'.lookup i = lv.lookup i) (L : LocRel C.toDt env ρ lv h) : LocRel C.toDt env ρ lv' h := by
 obtain ⟨⟨m, hn, hm⟩, hc, ha, hh⟩ := L
 exact ⟨⟨m, hn, fun i v e q => hm i v (by rw [<- hl i]; exact e) q⟩, fun i v e q => hc i v (by rw [<- hl i]; exact e) q, ha, hh⟩
theorem Rel.congr (hl : ∀ i, lv'.lookup i = lv.lookup i) (R : Rel C g envs env ρ lv hp h) : Rel C g envs env ρ lv' hp h := { R with loc := R.loc.congr hl }
theorem St.congr {s : Shared} (hl : ∀ i, lv'.lookup i = lv.lookup i) (S : St C g envs env ρ lv hp s) : St C g envs env ρ lv' hp s := ⟨S.R.congr hl, S.gens, S.os⟩
theorem Rel.within (R : Rel C g envs env ρ lv hp h) {cenv : Env} {lv0 : Loc} {I : List Addr} (hI : ∀ a ∈ I, Loose g envs env ρ a) (k : ∀ b o, h.get? b = some o -> h'.get? b = some o) (hf : isFn cenv = false) (hL : h.get? cenv.locals = none) (hcI : ∀ x ∈ cenv.cells, x.2 ∉ I)
  (hcl : ∀ x ∈ cenv.cells, ∃ v, h.IsCell x.2 v) (hl : LocRel C.toDt cenv ρ lv0 h') : Rel C (rest ρ I h) envs cenv ρ lv0 hp h' where
 stay := fun b o e => k b o (R.stay b o e)
 sub := fun b o e => by
  have hg := R.sub b o e
  refine rest_some (fun q => ?_) (fun p hm => ⟨fun q => ?_, fun q => ?_⟩) (R.stay b o e)
  ·exact no (hI b q).g hg
  ·exact no (R.fresh_mem hm (.inl q)).1 hg
  ·exact no (R.fresh_mem hm (.inr q)).1 hg
 keep := fun b o e => ⟨o.slots, k b o (rest_get e).1, fun _ => rfl⟩
 frs := R.frs.of_keeps fun b o e _ => ⟨o, k b o e, rfl⟩
 frd := fun a ha => let ⟨o, e, i⟩ := R.frd a ha; ⟨o, k a o e, i⟩
 len := R.len
 led := fun i p o e1 e2 => (R.led i p o e1 e2).keep (List.prefix_refl _) (stable_of_keeps k) fun a o _ e => k a o e
 apart := R.apart
 fresh := fun i p a e ha => by
  have hx : h.get? a ≠ none := by
   obtain ⟨x1, x2⟩ := R.some_of e
   rcases ha with rfl | rfl
   ·exact x1
   ·exact x2
  refine ⟨rest_none_led (List.mem_of_getElem? e) ha, (R.fresh i p a e ha).2.1, fun q => ?_⟩
  unfold ownOf at q
  rw [hf] at q
  rcases List.mem_cons.mp q with rfl | q
  ·exact hx hL
  ·cases q
 loc := hl
 own := fun a ha => by
  unfold ownOf at ha
  rw [hf] at ha
  rcases List.mem_cons.mp ha with rfl | ha
  ·exact rest_none hL
  ·cases ha
 cells := fun q => by rw [hf] at q; cases q
 celk := fun x hx => by
  obtain ⟨v, o, e1, e2⟩ := hcl x hx
  refine .inr ⟨o, rest_some (hcI x hx) (fun p hm => ?_) e1⟩
  obtain ⟨i, hi, e⟩ := List.mem_iff_getElem.mp hm
  have hi' : ρ[i]? = some p := by rw [List.getElem?_eq_getElem hi, e]
  have hl : i < hp.length := R.len ▸ hi
  have O := R.led i p _ hi' (List.getElem?_eq_getElem hl)
  exact ⟨fun q => O.notCell ⟨o, e1, e2⟩ (.inl q), fun q => O.notCell ⟨o, e1, e2⟩ (.inr q)⟩
 arg := let ⟨a, vs, e1, e2, e3⟩ := R.arg; ⟨a, vs, e1, e2, k _ _ e3⟩
theorem Rel.back (R : Rel C g envs env ρ lv hp h) {cenv : Env} {I : List Addr} (hI : ∀ a ∈ I, Loose g envs env ρ a) (R' : Rel C (rest ρ I h) envs cenv ρ' lv' hp' h') (X : Ext ρ h ρ' h') : Rel C g envs env ρ' lv hp' h' where
 stay := R'.stay
 sub := R.sub
 keep := fun b o e => by
  obtain ⟨sl, e', r⟩ := R.keep b o e
  have hr : rest ρ I h b = some { o with slots := sl } := by
   refine rest_some (fun q => ?_) (fun p hm => ⟨fun q => ?_, fun q => ?_⟩) e'
   ·exact no (hI b q).g e
   ·exact no (R.fresh_mem hm (.inl q)).1 e
   ·exact no (R.fresh_mem hm (.inr q)).1 e
  obtain ⟨sl', e'', r'⟩ := R'.keep b _ hr
  exact ⟨sl', e'', fun q => (r' q).trans (r q)⟩
 frs := R'.frs
 frd := R'.frd
 len := R'.len
 led := R'.led
 apart := R'.apart
 fresh := fun i p a e ha => by
  obtain ⟨f1, f2, f3⟩ := R'.fresh i p a e ha
  rcases rest_is_none f1 with q | q | ⟨p', hm, q⟩
  ·exact R.notIn q
  ·exact ⟨(hI a q).g, (hI a q).fr, (hI a q).own⟩
  ·exact R.fresh_mem hm q
 loc := R.loc.keep' X.pre X.st fun a o ha e => by
  have hr : rest ρ I h a = some o := by
   have hoc : a ∈ ownOf env \/ ∃ o, g a = some o := by
    rcases List.mem_cons.mp ha with z | z
    ·exact .inl (by unfold ownOf; rw [z]; exact List.mem_cons_self)
    ·obtain ⟨x, hx, rfl⟩ := List.mem_map.mp z
     exact R.celk x hx
   refine rest_some (fun q => ?_) (fun p hm => ?_) e
   ·rcases hoc with y | ⟨o', y⟩
    ·exact (hI a q).own y
    ·exact no (hI a q).g y
   ·have key : ∀ q : a = p.1 \/ a = p.2, False := fun q => by
     obtain ⟨f1, _, f3⟩ := R.fresh_mem hm q
     rcases hoc with y | ⟨o', y⟩
     ·exact f3 y
     ·exact no f1 y
    exact ⟨fun q => key (.inl q), fun q => key (.inr q)⟩
  obtain ⟨sl, e', _⟩ := R'.keep a o hr
  exact ⟨sl, e'⟩
 own := R.own
 cells := R.cells
 celk := R.celk
 arg := R'.arg
end
noncomputable def condsT (cs : List Expr) (env : Env) : Sem Bool := forIn cs true fun c ok => if ok = true then (isTrue c env (eval c env) >>= fun b => pure (ForInStep.yield b)) else pure (ForInStep.yield ok)
theorem compTurn_eq (elt target iter : Expr) (cs : List Expr) (scope : Scope) (pos : Pos) (it acc : Value) (env : Env) :
  compTurn (.ListComp elt [⟨target, iter, cs, 0⟩] scope pos) 0 it acc env = (standAt iter.pos >>= fun _ => pyNext it >>= fun r => match r with
   | none => pure (.done .next)
   | some v => letOwnedTupleGo target it v >>= fun _ => assign target env v >>= fun _ => condsT cs env >>= fun ok =>
    if ok = true then ((eval elt env >>= fun x => call (.builtin "list.append") [acc, x] >>= fun _ => pure ()) >>= fun _ => again (.compLoop (.ListComp elt [⟨target, iter, cs, 0⟩] scope pos) 0 it acc env))
    else again (.compLoop (.ListComp elt [⟨target, iter, cs, 0⟩] scope pos) 0 it acc env)) := by rfl
theorem condsF (env : Env) : ∀ cs : List Expr, (forIn cs false fun c ok => if ok = true then (isTrue c env (eval c env) >>= fun b => pure (ForInStep.yield b)) else pure (ForInStep.yield ok)) = (pure false : Sem Bool)
 | [] => rfl
 | c :: cs => by
  rw [List.forIn_cons, if_neg Bool.false_ne_true, pure_bind]
  exact condsF env cs
theorem X_conds_cons {M : Model} {A : Around} {E : Value -> Shared -> Prop} {s : Shared} {env : Env} {c : Expr} {cs : List Expr} {Q : Bool -> Shared -> Prop} (h : wpX M A (isTrue c env (eval c env)) (fun b s' => if b then wpX M A (condsT cs env) Q E s' else Q false s') E s) : wpX M A (condsT (c :: cs) env) Q E s := by
 unfold condsT
 rw [List.forIn_cons, if_pos rfl]
 refine X_bind (X_bind (X_mono h (fun b s' h' => X_pure ?_) fun _ _ x => x))
 dsimp only
 cases b with
 | true => exact h'
 | false => rw [condsF]; exact X_pure h'
theorem lookup_drop (y : Nat) : ∀ (l : Loc) (i : Nat), (dropL y l).lookup i = if i = y then none else l.lookup i
 | [], i => by split <;> rfl
 | (a, v) :: r, i => by
  have ih := lookup_drop y r i
  by_cases qa : a = y
  ·have e : dropL y ((a, v) :: r) = dropL y r := List.filter_cons_of_neg (by rw [qa]; simp)
   rw [e, ih, List.lookup_cons]
   by_cases qi : i = y
   ·rw [if_pos qi, if_pos qi]
   ·rw [if_neg qi, if_neg qi, beq_eq_false_iff_ne.mpr (qa ▸ qi)]
  ·have e : dropL y ((a, v) :: r) = (a, v) :: dropL y r := List.filter_cons_of_pos (bne_iff_ne.mpr qa)
   rw [e, List.lookup_cons, List.lookup_cons, ih]
   by_cases qi : i = a
   ·rw [if_neg (qi ▸ qa), if_neg (qi ▸ qa)]
   ·rw [beq_eq_false_iff_ne.mpr qi]
section
variable {C : Cx} {g : Base} {envs : List Env} {env : Env} {ρ ρ' : Env2} {lv lv' : Loc} {hp hp' : Hp} {s s' : Shared} {A : Around}
theorem LocRel.weaken {h : Heap} (hl : ∀ i v, lv'.lookup i = some v -> lv.lookup i = some v) (L : LocRel C.toDt env ρ lv h) : LocRel C.toDt env ρ lv' h := by
 obtain ⟨⟨m, hn, hm⟩, hc, ha, hh⟩ := L
 exact ⟨⟨m, hn, fun i v e q => hm i v (hl i v e) q⟩, fun i v e q => hc i v (hl i v e) q, ha, hh⟩
theorem St.weaken (hl : ∀ i v, lv'.lookup i = some v -> lv.lookup i = some v) (S : St C g envs env ρ lv hp s) : St C g envs env ρ lv' hp s := ⟨{ S.R with loc := S.R.loc.weaken hl }, S.gens, S.os⟩
theorem keep_it (S : St C g envs env ρ lv hp s) (S' : St C (rest ρ (ownOf env) s.heap) envs env ρ' lv' hp' s') (X : Ext ρ s.heap ρ' s'.heap) {I : Addr} {it : It} (L : Loose g envs env ρ I) (R : ItRel ρ s.heap I it) :
  Loose g envs env ρ' I /\ ItRel ρ' s'.heap I it /\ ∀ o, s.heap.get? I = some o -> s'.heap.get? I = some o := by
 have hr : ∀ o, s.heap.get? I = some o -> rest ρ (ownOf env) s.heap I = some o := fun o e => rest_some L.own (fun p hm => by
  obtain ⟨i, hi, e'⟩ := List.mem_iff_getElem.mp hm
  exact L.led i p (by rw [List.getElem?_eq_getElem hi, e'])) e
 have kk : ∀ o, s.heap.get? I = some o -> s'.heap.get? I = some o := fun o e => by
  obtain ⟨sl, e', r⟩ := S'.R.keep I o (hr o e)
  rw [r L.fr] at e'
  exact e'
 refine ⟨⟨L.g, L.fr, L.own, fun i p hi => ?_⟩, R.mono X.pre X.st kk, kk⟩
 obtain ⟨o, T, e, _⟩ := R.type
 have hs := hr o e
 exact ⟨fun q => no (S'.R.fresh i p _ hi (.inl q)).1 hs, fun q => no (S'.R.fresh i p _ hi (.inr q)).1 hs⟩
def CondOk (C : Cx) (A : Around) (envs : List Env) (env : Env) (lv : Loc) (y : Nat) (c : Loc -> P Bool) (t : Sem Bool) : Prop := ∀ (g' : Base) (ρ : Env2) (hp : Hp) (s : Shared) (v : V) (b : Bool) (hp' : Hp), c ((y, v) :: lv) hp = some (.ok b hp') -> St C g' envs env ρ ((y, v) :: lv) hp s -> Han A s.heap ->
 wpX C.M A t (fun ok s' => ok = b /\ ∃ ρ', St C g' envs env ρ' ((y, v) :: lv) hp' s' /\ Ext ρ s.heap ρ' s'.heap) (fun _ _ => False) s
def EltOk (C : Cx) (A : Around) (envs : List Env) (env : Env) (lv : Loc) (y : Nat) (e : Loc -> P V) (t : Sem Value) : Prop := ∀ (g' : Base) (ρ : Env2) (hp : Hp) (s : Shared) (v w : V) (hp' : Hp), e ((y, v) :: lv) hp = some (.ok w hp') -> St C g' envs env ρ ((y, v) :: lv) hp s -> Han A s.heap ->
 wpX C.M A t (fun x s' => ∃ ρ', St C g' envs env ρ' ((y, v) :: lv) hp' s' /\ Ext ρ s.heap ρ' s'.heap /\ VRel ρ' s'.heap w x) (fun _ _ => False) s
def LoopR (C : Cx) (g : Base) (envs : List Env) (env : Env) (lv : Loc) (hp : Hp) (ρ : Env2) (h : Heap) (r : Result) (s' : Shared) : Prop := r = .ok .next /\ ∃ ρ', St C g envs env ρ' lv hp s' /\ Ext ρ h ρ' s'.heap
theorem LoopR.trans {h₀ h : Heap} {ρ₀ : Env2} {r : Result} (X : Ext ρ₀ h₀ ρ h) (z : LoopR C g envs env lv hp ρ h r s) : LoopR C g envs env lv hp ρ₀ h₀ r s := ⟨z.1, z.2.elim fun ρ' z => ⟨ρ', z.1, X.trans z.2⟩⟩
def FinR (C : Cx) (A : Around) (R : Result -> Shared -> Prop) (fin : Fin) (s' : Shared) : Prop := match fin with
 | .done f => R (.ok f) s'
 | .again c' => c'.quiet = true /\ codeX C.M A c' R s'
theorem next_range {it it' : It} {v : V} (q : nextIt it hp = some (some (v, it'))) : isRange it' = isRange it := by
 cases it with
 | range cur n st => cases n with
  | zero => exact nn (Option.some.inj q)
  | succ n => rw [<- (Prod.mk.inj (Option.some.inj (Option.some.inj q))).2]; rfl
 | seq vs => cases vs with
  | nil => exact nn (Option.some.inj q)
  | cons u vs => rw [<- (Prod.mk.inj (Option.some.inj (Option.some.inj q))).2]; rfl
 | list i k =>
  obtain ⟨vs, _, q⟩ := Option.map_eq_some_iff.mp q
  obtain ⟨u, _, q⟩ := Option.map_eq_some_iff.mp q
  rw [<- (Prod.mk.inj q).2]; rfl
theorem St.moved (S : St C g envs env ρ lv hp s) {I : Addr} {it : It} (L : Loose g envs env ρ I) (IR : ItRel ρ s.heap I it) (hIc : ∀ x ∈ env.cells, x.2 ≠ I) {h' : Heap} (t : Nat) (k : ∀ b o, b ≠ I -> s.heap.get? b = some o -> h'.get? b = some o) :
  St C g envs env ρ lv hp { s with heap := h', toks := t } /\ Ext ρ s.heap ρ h' := by
 obtain ⟨oI, TI, eI, cI, iI⟩ := IR.type
 obtain ⟨R', st⟩ := S.R.loose L (fun o e => some_uniq eI e ▸ ⟨iI, excLike_type cI⟩) hIc k
 exact ⟨⟨R', S.gens, S.os⟩, List.prefix_refl _, st⟩
theorem cons_lookup {y : Nat} {v : V} (i : Nat) : ((y, v) :: lv).lookup i = (setL y v (dropL y lv)).lookup i := by
 rw [Rel.lookup_set, lookup_drop, List.lookup_cons]
 by_cases z : i = y
 ·rw [z, beq_self_eq_true, if_pos rfl]
 ·rw [beq_eq_false_iff_ne.mpr z, if_neg z, if_neg z]
theorem lapp_here (S : St C g envs env ρ lv hp s) {j : Nat} {a da : Addr} {vs : List V} {v : V} {w : Value} (hj : ρ[j]? = some (a, da)) (q : listAt j hp = some vs) (hv : VRel ρ s.heap v w) (qb : vs.length <= big /\ j ≠ 0) :
  wpX C.M A (call (.builtin "list.append") [.ref a, w]) (fun _ s' => ∃ ρ', St C g envs env ρ' lv (hp.set j (.list (vs ++ [v]))) s' /\ Ext ρ s.heap ρ' s'.heap) (fun _ _ => False) s :=
 wpX_any (wpAny_mono (lapp_ok S hj q hv qb) (fun _ s' z => z.elim fun ρ' z => ⟨ρ', z.1, z.2.1⟩) fun _ _ z => z)
theorem comp_loop {hm : Bool} {d : Nat} {y : Nat} {py pos : Pos} {elt iter : Expr} {cs : List Expr} {sc : Scope} {c : Loc -> P Bool} {e : Loc -> P V} {j : Nat} {I a da : Addr} (N : NmOk C.toDt) (H : Here C hm d A envs env) (hk : env.kindOf (C.nm y) = some .local)
  (hc : CondOk C A envs env lv y c (condsT cs env)) (he : EltOk C A envs env lv y e (eval elt env)) :
  ∀ (n : Nat) (it : It) (hp hp' : Hp) (ρ : Env2) (s : Shared), loopC hm c e y lv j n it hp = some hp' -> St C g envs env ρ (dropL y lv) hp s -> ItRel ρ s.heap I it -> ρ[j]? = some (a, da) -> Loose g envs env ρ I -> (∀ x ∈ env.cells, x.2 ≠ I) -> Han A s.heap ->
   (hm && !isRange it) = false ->
   codeX C.M A (.compLoop (.ListComp elt [⟨.Name (C.nm y) py, iter, cs, 0⟩] sc pos) 0 (.ref I) (.ref a) env) (LoopR C g envs env (dropL y lv) hp' ρ s.heap) s
 | 0, it, hp, hp', ρ, s, h, _, _, _, _, _, _, _ => nn h
 | n + 1, it, hp, hp', ρ, s, h, S, IR, hj, L, hIc, Hh, hmr => by
  have ih := comp_loop (py := py) (pos := pos) (iter := iter) (sc := sc) (j := j) (I := I) (a := a) (da := da) N H hk hc he n
  obtain ⟨r, q, h⟩ := Option.bind_eq_some_iff.mp h
  refine codeX_of_tree rfl ?_
  show wpX _ _ ((compTurn (.ListComp elt [⟨.Name (C.nm y) py, iter, cs, 0⟩] sc pos) 0 (.ref I) (.ref a) env).onRaise (fun x => do noteFrame x env; theTreesLotGoes x)) _ _ s
  rw [compTurn_eq]
  refine X_onRaise (X_mono (E := fun _ _ => False) (Q := FinR C A (LoopR C g envs env (dropL y lv) hp' ρ s.heap)) ?_ (fun fin _ x => by cases fin <;> exact x) fun _ _ x => x.elim)
  have hHn : isRange it = false -> A.handled = none := fun q => H.hn (by rw [q] at hmr; exact (Bool.and_true hm).symm.trans hmr)
  refine X_at (X_bind (wpX_any (nextIt_ok S IR Hh hHn q fun h₁ t w k rel => ?_)))
  obtain ⟨S₁, X₁⟩ := S.moved L IR hIc t k
  have Hh₁ := Hh.mono X₁.st
  clear k
  cases r with
  | none =>
   rw [show w = none from rel]
   rw [<- Option.some.inj h]
   exact X_pure ⟨rfl, ρ, S₁, X₁⟩
  | some r =>
   refine cps fun G_ f_ => ?_
   obtain ⟨v, it'⟩ := r
   obtain ⟨w, rfl, rv, IR₁⟩ := rel
   refine f_ ?_
   clear f_ G_
   refine X_bind (X_pure (X_bind ?_))
   show wpX _ _ (assign (.Name (C.nm y) py) env w) _ _ _
   rw [arm_assign_Name]
   refine X_at (X_storeName (wpX_any ?_))
   refine store_name N.inj S₁.widen H.fk (.inl hk) rv fun s₂ S₂ st₂ => ?_
   have X₂ : Ext ρ h₁ ρ s₂.heap := ⟨List.prefix_refl _, st₂⟩
   have S₂' : St C (rest ρ (ownOf env) h₁) envs env ρ ((y, v) :: lv) hp s₂ := S₂.congr cons_lookup
   have back : ∀ {ρ₄ : Env2} {hp₄ : Hp} {s₄ : Shared}, St C (rest ρ (ownOf env) h₁) envs env ρ₄ ((y, v) :: lv) hp₄ s₄ -> Ext ρ h₁ ρ₄ s₄.heap -> loopC hm c e y lv j n it' hp₄ = some hp' ->
     codeX C.M A (.compLoop (.ListComp elt [⟨.Name (C.nm y) py, iter, cs, 0⟩] sc pos) 0 (.ref I) (.ref a) env) (LoopR C g envs env (dropL y lv) hp' ρ s.heap) s₄ := fun {ρ₄ hp₄ s₄} S₄ X₄ h₄ => by
    obtain ⟨L₄, IR₄, _⟩ := keep_it (s := { s with heap := h₁, toks := t }) S₁ S₄ X₄ L IR₁
    have S₄' : St C g envs env ρ₄ (dropL y lv) hp₄ s₄ := (St.narrow (s := { s with heap := h₁, toks := t }) S₁ S₄).weaken fun i u eu => by
     rw [lookup_drop] at eu
     by_cases z : i = y
     ·rw [if_pos z] at eu; exact nn eu
     ·rw [if_neg z] at eu
      rw [List.lookup_cons, beq_eq_false_iff_ne.mpr z]; exact eu
    exact codeX_mono (ih it' hp₄ hp' ρ₄ s₄ h₄ S₄' IR₄ (getElem?_pre X₄.pre hj) L₄ hIc (Hh₁.mono X₄.st) (by rw [next_range q]; exact hmr)) fun r s' z => z.trans (X₁.trans X₄)
   obtain ⟨⟨b, hp₃⟩, qc, h⟩ := Option.bind_eq_some_iff.mp h
   have qc := okOf_some qc
   refine X_bind (X_mono (hc _ ρ hp s₂ v b hp₃ qc S₂' (Hh₁.mono st₂)) (fun ok s₃ z => ?_) fun _ _ x => x.elim)
   obtain ⟨rfl, ρ₃, S₃, X₃⟩ := z
   cases ok with
   | false => exact X_pure ⟨rfl, back S₃ (X₂.trans X₃) h⟩
   | true =>
    refine cps fun G_ f_ => ?_
    obtain ⟨⟨w', hp₄⟩, qe, h⟩ := Option.bind_eq_some_iff.mp h
    obtain ⟨vs, ql, h⟩ := Option.bind_eq_some_iff.mp h
    obtain ⟨qb, h⟩ := ite_some h
    refine f_ ?_
    clear f_ G_
    have qe := okOf_some qe
    refine X_bind (X_bind (X_mono (he _ ρ₃ hp₃ s₃ v w' hp₄ qe S₃ ((Hh₁.mono st₂).mono X₃.st)) (fun x s₄ z => ?_) fun _ _ x => x.elim))
    obtain ⟨ρ₄, S₄, X₄, rw'⟩ := z
    refine X_bind (X_mono (lapp_here S₄ (getElem?_pre X₄.pre (getElem?_pre X₃.pre hj)) ql rw' qb) (fun u s₅ z => ?_) fun _ _ x => x.elim)
    obtain ⟨ρ₅, S₅, X₅⟩ := z
    exact X_pure (X_pure ⟨rfl, back S₅ (((X₂.trans X₃).trans X₄).trans X₅) h⟩)
end
section
variable {M : Model} {A : Around} {E : Value -> Shared -> Prop} {s : Shared} {env : Env}
theorem X_comprehension {e : Expr} {scope : Scope} {pos : Pos} {newAcc first : Sem Value} {g : Comprehension} {cl : List (Str × Addr)} {use : Option (Value -> Sem Unit)} {Q : Value -> Shared -> Prop}
  (hcl : clausesOf e = [g]) (hs : ∀ x, foldedSetIterable g.iter env x = pure x) (hclos : closureFor scope env = pure cl) (hkind : scope.kind = .function) (hnames : ∀ x ∈ scope.names, x.2 = .local -> scope.names.lookup x.1 = some .local)
  (h : wpX M A first (fun x s₁ => wpX M A (pyIter x) (fun it s₂ => wpX M A newAcc (fun acc s₃ => wpX M A (newFunctionEnv scope env.globals cl [] env.qual none .none (some env)) (fun cenv s₄ =>
   codeX M A (.compStart e 0 it acc { cenv with scope := relabel scope env }) (fun r s' => r = .ok .next /\ match use with
    | none => ∃ m, s'.heap.Ns cenv.locals m /\ ∀ h', Heap.SameBut cenv.locals s'.heap h' -> Q acc { s' with heap := h' }
    | some u => wpX M A (u acc) (fun _ s'' => ∃ m, s''.heap.Ns cenv.locals m /\ ∀ h', Heap.SameBut cenv.locals s''.heap h' -> Q .none { s'' with heap := h' }) E s') s₄) E s₃) E s₂) E s₁) E s) :
  wpX M A (comprehension e scope env pos newAcc false first use) Q E s := by
 unfold comprehension
 rw [hclos, hcl]
 have standIf : ∀ {c : Prop} [Decidable c] {pos : Pos} {k : PUnit -> Sem Value} {s : Shared}, wpX M A (k ()) Q E s -> wpX M A (if c then (standAt pos >>= k) else k ()) Q E s := fun {c _ pos k s} h => by
  split
  ·exact X_at h
  ·exact h
 refine X_seq h fun x s₁ h₁ => X_at (X_bind (X_eq (hs x) (X_seq (X_holding h₁) fun it s₂ h₂ => standIf (X_seq h₂ fun acc s₃ h₃ => X_bind (X_pure (X_seq h₃ fun cenv s₄ h₄ => ?_))))))
 dsimp only
 have hv : ∀ x ∈ (scope.names.filter fun x => (x.2 == .local || x.2 == .cell) && x.1 != (".0" : Str)).reverse, x.2 = .local ->
   Env.kindOf { cenv with scope := relabel scope env } x.1 = some .local := fun x hx hl => lookup_relabel_local (hnames x (List.mem_filter.mp (List.mem_reverse.mp hx)).1 hl)
 have hv' : ∀ x ∈ (scope.names.filter fun x => (x.2 == .local || x.2 == .cell) && x.1 != (".0" : Str)).reverse.drop 1 ++ (scope.names.filter fun x => (x.2 == .local || x.2 == .cell) && x.1 != (".0" : Str)).reverse.take 1,
   x.2 = .local -> Env.kindOf { cenv with scope := relabel scope env } x.1 = some .local := fun x hx hl => by
  rcases List.mem_append.mp hx with h1 | h1
  ·exact hv x (List.mem_of_mem_drop h1) hl
  ·exact hv x (List.mem_of_mem_take h1) hl
 refine X_holding (X_bind (X_attempt (X_holding (X_run (codeX_mono h₄ fun r s' hr => ?_)))))
 obtain ⟨rfl, hr⟩ := hr
 cases use with
 | none =>
  obtain ⟨m, hn, hr⟩ := hr
  exact X_bind (X_holding (wpX_any (wpAny_comp_letGo (cenv := { cenv with scope := relabel scope env }) hkind _ s' m hv hn fun h' m' _ hs' => X_pure (hr h' hs'))))
 | some u =>
  refine X_bind (X_rule (X_bind (X_holding (X_mono hr (fun _ s'' h'' => ?_) fun _ _ x => x))))
  obtain ⟨m, hn, h''⟩ := h''
  exact X_bind (wpX_any (wpAny_comp_letGo (cenv := { cenv with scope := relabel scope env }) hkind _ s'' m hv' hn fun h' m' _ hs' => X_pure (h'' h' hs')))
end
def cloL (env : Env) : List (Str × NameKind) -> List (Str × Addr) -> List (Str × Addr)
 | [], acc => acc
 | (n, k) :: r, acc => cloL env r (if k == .free then (n, (env.cells.lookup n).getD 0) :: acc else acc)
theorem cloL_eq {env : Env} : ∀ (names : List (Str × NameKind)) (acc : List (Str × Addr)), (∀ x ∈ names, x.2 = .free -> (env.cells.lookup x.1).isSome = true) ->
  (forIn names acc fun x cs => if (x.2 == NameKind.free) = true then (cellOf env x.1 >>= fun a => pure (ForInStep.yield ((x.1, a) :: cs))) else pure (ForInStep.yield cs)) = (pure (cloL env names acc) : Sem (List (Str × Addr)))
 | [], _, _ => rfl
 | (n, k) :: r, acc, h => by
  rw [List.forIn_cons]
  unfold cloL
  cases hk : k == NameKind.free with
  | true =>
   have hk' := eq_of_beq hk
   obtain ⟨c, hc⟩ := Option.isSome_iff_exists.mp (h (n, k) List.mem_cons_self hk')
   have hco : cellOf env n = pure c := by unfold cellOf; rw [hc]
   simp only [if_true, hco, pure_bind, hc, Option.getD_some]
   exact cloL_eq r _ fun x hx => h x (List.mem_cons_of_mem _ hx)
  | false =>
   simp only [Bool.false_eq_true, if_false, pure_bind]
   exact cloL_eq r _ fun x hx => h x (List.mem_cons_of_mem _ hx)
theorem closureFor_eq {env : Env} {scope : Scope} (h : ∀ x ∈ scope.names, x.2 = .free -> (env.cells.lookup x.1).isSome = true) : closureFor scope env = pure (cloL env scope.names []) := by
 have := cloL_eq scope.names [] h
 unfold closureFor
 refine Eq.trans ?_ ((bind_pure _).trans this)
 rfl
theorem cloL_mem {env : Env} : ∀ (names : List (Str × NameKind)) (acc : List (Str × Addr)), (∀ x ∈ names, x.2 = .free -> (env.cells.lookup x.1).isSome = true) -> (∀ n c, (n, c) ∈ acc -> env.cells.lookup n = some c) ->
  ∀ n c, (n, c) ∈ cloL env names acc -> env.cells.lookup n = some c
 | [], _, _, h, n, c, hm => h n c hm
 | (m, k) :: r, acc, hx, h, n, c, hm => by
  unfold cloL at hm
  refine cloL_mem r _ (fun x hx' => hx x (List.mem_cons_of_mem _ hx')) (fun n c hm => ?_) n c hm
  split at hm
  ·rename_i hk
   rcases List.mem_cons.mp hm with e | hm
   ·cases e
    obtain ⟨c', hc⟩ := Option.isSome_iff_exists.mp (hx (m, k) List.mem_cons_self (eq_of_beq hk))
    rw [hc]; rfl
   ·exact h n c hm
  ·exact h n c hm
theorem cloL_acc {env : Env} {p : Str × Addr} : ∀ (names : List (Str × NameKind)) (acc : List (Str × Addr)), p ∈ acc -> p ∈ cloL env names acc
 | [], _, h => h
 | (_, k) :: r, acc, h => by
  unfold cloL
  refine cloL_acc r _ ?_
  split
  ·exact List.mem_cons_of_mem _ h
  ·exact h
theorem cloL_has {env : Env} {n : Str} : ∀ (names : List (Str × NameKind)) (acc : List (Str × Addr)), (n, NameKind.free) ∈ names -> ∃ c, (n, c) ∈ cloL env names acc
 | (m, k) :: r, acc, h => by
  unfold cloL
  rcases List.mem_cons.mp h with e | h
  ·cases e
   exact ⟨_, cloL_acc r _ (by rw [if_pos (by rfl)]; exact List.mem_cons_self)⟩
  ·exact cloL_has r _ h
theorem lookup_of_mem {α : Type} {n : Str} {c : α} : ∀ {l : List (Str × α)}, (n, c) ∈ l -> (l.lookup n).isSome = true
 | (k, v) :: r, h => by
  rw [List.lookup_cons]
  rcases List.mem_cons.mp h with e | h
  ·cases e; simp
  ·cases n == k with
   | true => rfl
   | false => exact lookup_of_mem h
theorem relabel_kind {scope : Scope} {env : Env} (n : Str) (k : NameKind) (h : (relabel scope env).names.lookup n = some k) :
  (scope.names.lookup n = some k /\ ¬ (k = .free /\ env.scope.kind = .function /\ env.kindOf n = some .cell)) \/ (k = .cell /\ scope.names.lookup n = some .free /\ env.kindOf n = some .cell) := by
 unfold relabel at h
 simp only at h
 revert h
 induction scope.names with
 | nil => intro h; cases h
 | cons p r ih =>
  obtain ⟨m, k'⟩ := p
  intro h
  rw [List.map_cons] at h
  simp only at h
  split at h
  ·rename_i q
   rw [List.lookup_cons] at h ⊢
   cases z : n == m with
   | true =>
    rw [z] at h
    simp only at h
    cases h
    simp only [Bool.and_eq_true] at q
    rw [eq_of_beq z]
    exact .inr ⟨rfl, by rw [eq_of_beq q.1.1], eq_of_beq q.2⟩
   | false => rw [z] at h; exact ih h
  ·rename_i q
   rw [List.lookup_cons] at h ⊢
   cases z : n == m with
   | true =>
    rw [z] at h
    simp only at h
    cases h
    refine .inl ⟨rfl, fun ⟨a, b, c⟩ => q ?_⟩
    rw [eq_of_beq z] at c
    simp [a, b, c]
   | false => rw [z] at h; exact ih h
structure CompOk (sc sc' : Scope) (y : Str) : Prop where
 kind : sc'.kind = .function
 all : ∀ x ∈ sc'.names, x.2 = .local \/ x.2 = .globalImplicit \/ (x.2 = .free /\ sc.names.lookup x.1 = some .cell)
 yl : sc'.names.lookup y = some .local
 only : ∀ n, (n, NameKind.local) ∈ sc'.names -> n = y \/ n = (".0" : Str)
 names : ∀ x ∈ sc'.names, x.2 = .local -> sc'.names.lookup x.1 = some .local
theorem compOk_of {sc sc' : Scope} {y : Str} (h : compOk sc sc' y = true) : CompOk sc sc' y := by
 unfold compOk at h
 simp only [Bool.and_eq_true] at h
 obtain ⟨⟨⟨⟨⟨⟨h1, _⟩, _⟩, h4⟩, h5⟩, h7⟩, h6⟩ := h
 refine ⟨eq_of_beq h1, fun x hx => ?_, eq_of_beq h5, fun n hn => ?_, fun x hx e => ?_⟩
 ·have := List.all_eq_true.mp h4 x hx
  simp only [Bool.or_eq_true, Bool.and_eq_true, beq_iff_eq] at this
  rcases this with (h | h) | h
  ·exact .inl h
  ·exact .inr (.inl h)
  ·exact .inr (.inr h)
 ·by_cases z : n = (".0" : Str)
  ·exact .inr z
  ·have hm : (n, NameKind.local) ∈ sc'.names.filter fun x => (x.2 == .local || x.2 == .cell) && x.1 != (".0" : Str) := List.mem_filter.mpr ⟨hn, by simp [z]⟩
   rw [eq_of_beq h6] at hm
   have := List.mem_singleton.mp hm
   exact .inl (Prod.mk.inj this).1
 ·have := List.all_eq_true.mp h7 x hx
  simpa [e] using this
theorem relabel_scope {sc' : Scope} {env : Env} (hk : env.scope.kind = .function) : relabel sc' env = compScope env.scope sc' := by
 unfold relabel compScope
 congr 1
 apply List.map_congr_left
 intro x _
 obtain ⟨n, k⟩ := x
 simp only [hk]
 show (if (k == NameKind.free && (ScopeKind.function == ScopeKind.function) && env.scope.names.lookup n == some NameKind.cell) = true then _ else _) = _
 rw [show (ScopeKind.function == ScopeKind.function) = true from by decide, Bool.and_true]
theorem bind_assoc {α β γ : Type} (m : P α) (f : α -> P β) (k : β -> P γ) : P.bind (P.bind m f) k = P.bind m fun a => P.bind (f a) k := by
 funext hp
 unfold P.bind
 cases m hp with
 | none => rfl
 | some o => cases o <;> rfl
section
variable {C : Cx} {g : Base} {envs : List Env} {env : Env} {ρ : Env2} {lv : Loc} {hp : Hp} {s : Shared} {A : Around}
theorem comp_loc (N : NmOk C.toDt) (S : St C g envs env ρ lv hp s) {h' : Heap} {sc' : Scope} {y : Nat} (K : CompOk env.scope sc' (C.nm y)) (hk : env.scope.kind = .function) {cenv : Env} (hsc : cenv.scope = relabel sc' env) (hce : cenv.cells = cloL env sc'.names [])
  (k : ∀ b o, s.heap.get? b = some o -> h'.get? b = some o) (hn : h'.Ns cenv.locals fun _ => none) :
  LocRel C.toDt cenv ρ (dropL y lv) h' /\ (∀ x ∈ cenv.cells, ∃ v, s.heap.IsCell x.2 v) /\ (∀ x ∈ cenv.cells, x ∈ env.cells) /\ cenv.kindOf (C.nm y) = some .local := by
 have L := S.R.loc
 have hfree : ∀ x ∈ sc'.names, x.2 = .free -> (env.cells.lookup x.1).isSome = true := fun x hx e => by
  rcases K.all x hx with q | q | ⟨_, q⟩
  ·rw [q] at e; cases e
  ·rw [q] at e; cases e
  ·exact L.has x.1 q
 have hcl : ∀ n c, (n, c) ∈ cenv.cells -> env.cells.lookup n = some c := fun n c hm => by
  rw [hce] at hm
  exact cloL_mem _ _ hfree (fun _ _ q => by cases q) n c hm
 have hsub : ∀ x ∈ cenv.cells, x ∈ env.cells := fun x hx => mem_of_lookup (hcl x.1 x.2 hx)
 have kc : ∀ n, cenv.kindOf n = some .cell -> sc'.names.lookup n = some .free /\ env.kindOf n = some .cell := fun n q => by
  have q' : (relabel sc' env).names.lookup n = some .cell := by rw [<- hsc]; exact q
  rcases relabel_kind n .cell q' with ⟨e, _⟩ | ⟨_, e1, e2⟩
  ·rcases K.all _ (mem_of_lookup e) with z | z | ⟨z, _⟩ <;> cases z
  ·exact ⟨e1, e2⟩
 have khas : ∀ n, cenv.kindOf n = some .cell -> ∃ c, cenv.cells.lookup n = some c /\ env.cells.lookup n = some c := fun n q => by
  obtain ⟨e1, e2⟩ := kc n q
  obtain ⟨c, hc⟩ := cloL_has (env := env) sc'.names [] (mem_of_lookup e1)
  obtain ⟨c', hc'⟩ := Option.isSome_iff_exists.mp (lookup_of_mem (by rw [<- hce] at hc; exact hc))
  exact ⟨c', hc', hcl n c' (mem_of_lookup hc')⟩
 refine ⟨⟨⟨_, hn, fun i v e q => ?_⟩, fun i v e q => ?_, fun x hx => ?_, fun n q => ?_⟩, fun x hx => L.all x (hsub x hx), hsub, ?_⟩
 ·have q' : (relabel sc' env).names.lookup (C.nm i) = some .local := by rw [<- hsc]; exact q
  rcases relabel_kind _ .local q' with ⟨e', _⟩ | ⟨e', _⟩
  ·rcases K.only _ (mem_of_lookup e') with z | z
   ·have := N.inj _ _ z
    subst this
    rw [lookup_drop, if_pos rfl] at e; exact nn e
   ·exact absurd z (N.dot i)
  ·cases e'
 ·obtain ⟨c, h1, h2⟩ := khas _ q
  obtain ⟨e1, e2⟩ := kc _ q
  have hi : lv.lookup i = some v := by
   rw [lookup_drop] at e
   by_cases z : i = y
   ·rw [if_pos z] at e; exact nn e
   ·rw [if_neg z] at e; exact e
  obtain ⟨c', w, a1, a2, a3⟩ := L.cel i v hi e2
  rw [h2] at a1; cases a1
  exact ⟨c, w, h1, a2.keeps k, a3.mono (List.prefix_refl _) (stable_of_keeps k)⟩
 ·obtain ⟨v, hv⟩ := L.all x (hsub x hx)
  exact ⟨v, hv.keeps k⟩
 ·obtain ⟨c, h1, _⟩ := khas n q; rw [h1]; rfl
 ·show cenv.scope.names.lookup _ = _
  rw [hsc]
  exact lookup_relabel_local K.yl
theorem Ns_notCell {h : Heap} {a : Addr} {m : Str -> Option Value} {v : Option Value} (hn : h.Ns a m) (hc : h.IsCell a v) : False := by
 obtain ⟨o, es, ep, e1, e2, _⟩ := hn
 obtain ⟨o', e3, e4⟩ := hc
 exact nomatch (some_uniq e1 e3 ▸ e2).symm.trans e4
theorem Ns_plain {h : Heap} {a : Addr} {m : Str -> Option Value} (hn : h.Ns a m) {ob : Obj} (e : h.get? a = some ob) : imm ob = false /\ excLike ob = false := by
 obtain ⟨o, es, ep, e1, e2, _⟩ := hn
 rw [some_uniq e e1]
 exact ⟨by rw [imm, e2], by rw [excLike, e2]⟩
theorem St.mapGoes (S : St C g envs env ρ lv hp s) {a : Addr} (L : Loose g envs env ρ a) (hn : ∃ m, s.heap.Ns a m) {h' : Heap} (hsb : Heap.SameBut a s.heap h') : St C g envs env ρ lv hp { s with heap := h' } /\ Stable s.heap h' := by
 obtain ⟨m, hn⟩ := hn
 obtain ⟨R', st⟩ := S.R.loose L (fun o e => Ns_plain hn e) (fun x hx q => (S.R.loc.all x hx).elim fun v hv => Ns_notCell (q ▸ hn) hv) (fun b ob hb e => (hsb.2 b hb).trans e)
 exact ⟨⟨R', S.gens, S.os⟩, st⟩
def Left (C : Cx) (g : Base) (envs : List Env) (env : Env) (lv : Loc) (hp : Hp) (ρ : Env2) (h : Heap) (a : Addr) (s' : Shared) : Prop := ∃ ρ', St C g envs env ρ' lv hp s' /\ Ext ρ h ρ' s'.heap /\ Loose g envs env ρ' a /\ ∃ m, s'.heap.Ns a m
theorem comp_block {hm : Bool} {d : Nat} {y j : Nat} {py pos : Pos} {elt iter : Expr} {cs : List Expr} {sc' : Scope} {c : Loc -> P Bool} {e : Loc -> P V} {I a da : Addr} {it : It} {hpL : Hp} (N : NmOk C.toDt) (H : Here C hm d A envs env) (S : St C g envs env ρ lv hp s) (Hh : Han A s.heap) (K : CompOk env.scope sc' (C.nm y))
  (L : Loose g envs env ρ I) (IR : ItRel ρ s.heap I it) (hj : ρ[j]? = some (a, da)) {h₄ : Heap} {t : Nat} (k4 : ∀ b o, s.heap.get? b = some o -> h₄.get? b = some o) {cenv : Env} (hLc : s.heap.get? cenv.locals = none) (hn : h₄.Ns cenv.locals fun _ => none)
  (hsc : cenv.scope = relabel sc' env) (hce : cenv.cells = cloL env sc'.names []) (hfr : cenv.frame = env.frame) (H' : Here C hm d A envs cenv)
  (hc : CondOk C A envs cenv lv y c (condsT cs cenv)) (he : EltOk C A envs cenv lv y e (eval elt cenv)) (hL : loopC hm c e y lv j turns it hp = some hpL) (hmr : (hm && !isRange it) = false) :
  codeX C.M A (.compStart (.ListComp elt [⟨.Name (C.nm y) py, iter, cs, 0⟩] sc' pos) 0 (.ref I) (.ref a) cenv) (fun r s' => r = .ok .next /\ Left C g envs env lv hpL ρ s.heap cenv.locals s') { s with heap := h₄, toks := t } := by
 have hfn : isFn cenv = false := by
  obtain ⟨Lf, hLf1, hLf2⟩ := H.frm
  unfold isFn
  rw [hfr, hLf1]
  exact beq_eq_false_iff_ne.mpr fun q => frames_get S.R.frs hLf2 (Option.some.inj q ▸ hLc)
 refine cps fun G_ f_ => ?_
 obtain ⟨loc4, hcells, hsub, hky⟩ := comp_loc (cenv := cenv) N S K H.fk hsc hce k4 hn
 obtain ⟨oI, TI, eI, _⟩ := IR.type
 refine f_ ?_
 clear f_ G_
 have hcI : ∀ x ∈ cenv.cells, x.2 ≠ I := fun x hx q => (hcells x hx).elim fun v hv => hv.elim fun oc z => by
  have := L.own
  have h2 : x ∈ env.cells := hsub x hx
  rcases S.R.celk x h2 with y | ⟨o', y⟩
  ·exact this (q ▸ y)
  ·exact no L.g (q ▸ y)
 have X₄ : Ext ρ s.heap ρ h₄ := ⟨List.prefix_refl _, stable_of_keeps k4⟩
 have Rw := S.R.within (I := [I]) (cenv := cenv) (fun b hb => by rw [List.mem_singleton.mp hb]; exact L) k4 hfn hLc (fun x hx q => hcI x hx (List.mem_singleton.mp q)) hcells loc4
 have S₄ : St C (rest ρ [I] s.heap) envs cenv ρ (dropL y lv) hp { s with heap := h₄, toks := t } := ⟨Rw, S.gens, S.os⟩
 have L₄ : Loose (rest ρ [I] s.heap) envs cenv ρ I := by
  refine ⟨rest_none_own (List.mem_singleton.mpr rfl), L.fr, fun q => ?_, L.led⟩
  unfold ownOf at q
  rw [hfn] at q
  rcases List.mem_cons.mp q with q | q
  ·exact no hLc (q ▸ eI)
  ·cases q
 have IR₄ := IR.mono X₄.pre X₄.st fun ob e => k4 _ ob e
 have loop := comp_loop (s := { s with heap := h₄, toks := t }) (py := py) (pos := pos) (iter := iter) (sc := sc') N H' hky hc he turns it hp hpL _ hL S₄ IR₄ hj L₄ hcI (Hh.mono X₄.st) hmr
 refine codeX_mono (R := LoopR C (rest ρ [I] s.heap) envs cenv (dropL y lv) hpL ρ h₄) ?_ fun r s' z => ?_
 ·refine codeX_of_tree rfl ?_
  show wpX _ _ ((compStart (.ListComp elt [⟨.Name (C.nm y) py, iter, cs, 0⟩] sc' pos) 0 (.ref I) (.ref a) cenv).onRaise (fun x => do noteFrame x cenv; standAt theWindowsPlace)) _ _ _
  refine X_onRaise (X_mono (E := fun _ _ => False) (Q := FinR C A (LoopR C (rest ρ [I] s.heap) envs cenv (dropL y lv) hpL ρ h₄)) ?_ (fun fin _ x => by cases fin <;> exact x) fun _ _ x => x.elim)
  unfold compStart
  show wpX _ _ (ask >>= _) _ _ _
  refine X_bind (X_ask ?_)
  split
  ·exact X_bind (X_pure (X_pure (And.intro rfl loop)))
  ·refine X_bind (X_rule ?_)
   show wpX _ _ (standAt iter.pos >>= _) _ _ _
   exact X_at (X_bind (wpX_any (it_self IR₄ (X_pure (And.intro rfl loop)))))
 ·obtain ⟨rfl, ρ', S', X'⟩ := z
  have X₅ : Ext ρ s.heap ρ' s'.heap := X₄.trans X'
  have Lc := S.loose hLc
  exact ⟨rfl, ρ', ⟨S.R.back (fun b hb => by rw [List.mem_singleton.mp hb]; exact L) S'.R X₅, S'.gens, S'.os⟩, X₅,
   ⟨Lc.g, Lc.fr, Lc.own, fun i p e => ⟨fun q => (S'.R.fresh i p _ e (.inl q)).2.2 List.mem_cons_self, fun q => (S'.R.fresh i p _ e (.inr q)).2.2 List.mem_cons_self⟩⟩, S'.R.loc.map.elim fun m z => ⟨m, z.1⟩⟩
theorem itOf_ok' {v : V} {out : Out It} (h : itOf v hp = some out) : ∃ it, out = .ok it hp := by
 cases v with
 | range => exact ⟨_, (Option.some.inj (ite_some h).2).symm⟩
 | tup | str | bytes => exact ⟨_, (Option.some.inj h).symm⟩
 | ref => exact (Option.map_eq_some_iff.mp h).elim fun _ z => ⟨_, z.2.symm⟩
 | _ => exact nn h
def UseOk (C : Cx) (A : Around) (g : Base) (envs : List Env) (env : Env) (ρ : Env2) (lv : Loc) (s : Shared) (out : Out V) (lw : V -> Loc) (Q : Value -> Shared -> Prop) (use : Option (Value -> Sem Unit)) : Prop := match use with
 | none => ∀ w s', OkV C g envs env ρ lv s out w s' -> Q w s'
 | some u => (∀ (g' : Base) (ρ' : Env2) (hp' : Hp) (v : V) (w : Value) (s' : Shared), St C g' envs env ρ' lv hp' s' -> VRel ρ' s'.heap v w -> wpX C.M A (u w) (fun _ s'' => St C g' envs env ρ' (lw v) hp' s'' /\ Stable s'.heap s''.heap) (fun _ _ => False) s') /\
  ∀ v hp' ρ' s', out = .ok v hp' -> St C g envs env ρ' (lw v) hp' s' -> Ext ρ s.heap ρ' s'.heap -> Q .none s'
theorem use_ok {ρ₃ : Env2} {h₃ : Heap} {hpL : Hp} {j : Nat} {aL da c : Addr} {s' : Shared} {lw : V -> Loc} {Q : Value -> Shared -> Prop} {E : Value -> Shared -> Prop} {use : Option (Value -> Sem Unit)} (hU : UseOk C A g envs env ρ lv s (.ok (.ref j) hpL) lw Q use) (X : Ext ρ s.heap ρ₃ h₃) (hj : ρ₃[j]? = some (aL, da)) (z : Left C g envs env lv hpL ρ₃ h₃ c s') :
  match (generalizing := false) use with
   | none => ∃ m, s'.heap.Ns c m /\ ∀ h', Heap.SameBut c s'.heap h' -> Q (.ref aL) { s' with heap := h' }
   | some u => wpX C.M A (u (.ref aL)) (fun _ s'' => ∃ m, s''.heap.Ns c m /\ ∀ h', Heap.SameBut c s''.heap h' -> Q .none { s'' with heap := h' }) E s' := by
 refine cps fun G_ f_ => ?_
 obtain ⟨ρ', S, X', L, m, hn⟩ := z
 refine f_ ?_
 clear f_ G_
 have Xall := X.trans X'
 have hacc : VRel ρ' s'.heap (.ref j) (.ref aL) := ⟨aL, da, rfl, getElem?_pre X'.pre hj⟩
 cases use with
 | none =>
  refine ⟨m, hn, fun h' hsb => hU _ _ ?_⟩
  obtain ⟨S₆, st⟩ := S.mapGoes L ⟨m, hn⟩ hsb
  exact ⟨ρ', S₆, Xall.trans ⟨List.prefix_refl _, st⟩, hacc.mono (List.prefix_refl _) st⟩
 | some u =>
  obtain ⟨hU1, hU2⟩ := hU
  refine X_mono (hU1 _ ρ' hpL (.ref j) _ s' S.widen hacc) (fun _ s'' z => ?_) fun _ _ x => x.elim
  obtain ⟨S₆, st₆⟩ := z
  have hn'' : s''.heap.Ns c m := by
   obtain ⟨o', es, ep, e1, e2⟩ := hn
   have hr : rest ρ' (ownOf env) s'.heap c = some o' := rest_some L.own (fun p hm => (List.mem_iff_getElem.mp hm).elim fun i z => z.elim fun hi e' => L.led i p (by rw [List.getElem?_eq_getElem hi, e'])) e1
   obtain ⟨sl, e', r⟩ := S₆.R.keep _ _ hr
   rw [r L.fr] at e'
   exact ⟨o', es, ep, e', e2⟩
  refine ⟨m, hn'', fun h' hsb => ?_⟩
  obtain ⟨S₇, st₇⟩ := (S.narrow S₆).mapGoes L ⟨m, hn''⟩ hsb
  exact hU2 _ _ ρ' _ rfl S₇ ((Xall.trans ⟨List.prefix_refl _, st₆⟩).trans ⟨List.prefix_refl _, st₇⟩)
theorem comp_ok {hm : Bool} {d : Nat} {y : Nat} {py pos pos' : Pos} {elt iter : Expr} {cs : List Expr} {sc' : Scope} {m : P V} {c : Loc -> P Bool} {e : Loc -> P V} {out : Out V} (N : NmOk C.toDt) (H : Here C hm d A envs env) (S : St C g envs env ρ lv hp s) (Hh : Han A s.heap)
  (K : CompOk env.scope sc' (C.nm y)) (hs : ∀ x, foldedSetIterable iter env x = pure x)
  (h : P.bind (P.bind m itOf) (fun it => fun hp => if hm && !isRange it then Option.none else (loopC hm c e y lv hp.length turns it (hp ++ [.list []])).map fun hp' => .ok (.ref hp.length) hp') hp = some out)
  (hm' : ∀ out₁, m hp = some out₁ -> wpX C.M A (eval iter env) (OkV C g envs env ρ lv s out₁) (RsV C g envs env ρ lv s out₁) s)
  (hc : ∀ cenv, Here C hm d A envs cenv -> cenv.scope = compScope env.scope sc' -> CondOk C A envs cenv lv y c (condsT cs cenv)) (he : ∀ cenv, Here C hm d A envs cenv -> cenv.scope = compScope env.scope sc' -> EltOk C A envs cenv lv y e (eval elt cenv))
  (use : Option (Value -> Sem Unit)) {Q : Value -> Shared -> Prop} {E : Value -> Shared -> Prop} {lw : V -> Loc} (hU : UseOk C A g envs env ρ lv s out lw Q use) (hE : ∀ e s', RsV C g envs env ρ lv s out e s' -> E e s') :
  wpX C.M A (comprehension (.ListComp elt [⟨.Name (C.nm y) py, iter, cs, 0⟩] sc' pos) sc' env pos' (newList []) false (eval iter env) use) Q E s := by
 have hfree : ∀ x ∈ sc'.names, x.2 = .free -> (env.cells.lookup x.1).isSome = true := fun x hx e => by
  rcases K.all x hx with q | q | ⟨_, q⟩
  ·exact nomatch q.symm.trans e
  ·exact nomatch q.symm.trans e
  ·exact S.R.loc.has x.1 q
 have hcell : ∀ x ∈ sc'.names, x.2 ≠ .cell := fun x hx e => by
  rcases K.all x hx with q | q | ⟨q, _⟩ <;> exact nomatch q.symm.trans e
 refine X_comprehension (e := .ListComp elt [⟨.Name (C.nm y) py, iter, cs, 0⟩] sc' pos) (g := ⟨.Name (C.nm y) py, iter, cs, 0⟩) (cl := cloL env sc'.names []) rfl hs (closureFor_eq hfree) K.kind K.names ?_
 rw [bind_assoc] at h
 refine V_seq h hm' (fun v hp₁ h₁ w ρ₁ s₁ S₁ X₁ rv => ?_) hE
 cases q : itOf v hp₁ with
 | none => unfold P.bind at h₁; rw [q] at h₁; exact nn h₁
 | some o₁ =>
  obtain ⟨it, rfl⟩ := itOf_ok' q
  refine wpX_any (itOf_ok S₁ rv q fun o IR _ => ?_)
  unfold P.bind at h₁
  rw [q] at h₁
  refine cps fun G_ f_ => ?_
  obtain ⟨hmr, h₁⟩ := ite_none h₁
  obtain ⟨hpL, hL, rfl⟩ := Option.map_eq_some_iff.mp h₁
  refine f_ ?_
  clear f_ G_
  refine wpX_any (wpAny_newList (wpX_any (wpAny_newFunctionEnv hcell (by intro y hy; cases hy) (fun h₄ hns hsb => ?_) K.kind)) (by size_fits))
  have sz2 : (s₁.heap.push o).objs.size = s₁.heap.objs.size + 1 := Heap.size_push _ _
  have k3 : ∀ b ob, (s₁.heap.push o).get? b = some ob -> ((s₁.heap.push o).push { cls := .type "list", data := .seq #[] }).get? b = some ob := fun b ob e => Heap.get?_push_of_some _ e
  have ha3 : ((s₁.heap.push o).push { cls := .type "list", data := .seq #[] }).get? (s₁.heap.push o).objs.size = some { cls := .type "list", data := .seq ([] : List Value).toArray 0 } := Heap.get?_push_size (s₁.heap.push o) rfl
  have ha0 : s₁.heap.get? (s₁.heap.push o).objs.size = none := none_past (by rw [sz2]; exact Nat.le_succ _)
  obtain ⟨R₃, X₃⟩ := S₁.R.alloc (fun b ob e => k3 b ob (Heap.get?_push_of_some _ e)) (x := (s₁.heap.push o).objs.size) (dx := (s₁.heap.push o).objs.size) (o := .list []) ha0 ha0 ⟨rfl, [], 0, ha3, rfl⟩
  have hj : (ρ₁ ++ [((s₁.heap.push o).objs.size, (s₁.heap.push o).objs.size)])[hp₁.length]? = some ((s₁.heap.push o).objs.size, (s₁.heap.push o).objs.size) := by rw [<- S₁.R.len, List.getElem?_append_right (Nat.le_refl _), Nat.sub_self]; rfl
  have L₁ := S₁.loose (none_at_end s₁.heap)
  have L₃ : Loose g envs env (ρ₁ ++ [((s₁.heap.push o).objs.size, (s₁.heap.push o).objs.size)]) s₁.heap.objs.size := ⟨L₁.g, L₁.fr, L₁.own, fun i p e => by
   rcases List.mem_append.mp (List.mem_of_getElem? e) with z | z
   ·exact (List.mem_iff_getElem.mp z).elim fun i z => z.elim fun hi e => L₁.led i p (by rw [List.getElem?_eq_getElem hi, e])
   ·rw [List.mem_singleton.mp z, sz2]; exact ⟨Nat.ne_of_lt (Nat.lt_succ_self _), Nat.ne_of_lt (Nat.lt_succ_self _)⟩⟩
  have IR₃ := IR.mono (List.prefix_append ρ₁ [((s₁.heap.push o).objs.size, (s₁.heap.push o).objs.size)]) (stable_of_keeps k3) fun ob e => k3 _ ob e
  have S₃ : St C g envs env (ρ₁ ++ [((s₁.heap.push o).objs.size, (s₁.heap.push o).objs.size)]) lv (hp₁ ++ [.list []]) { s₁ with heap := (s₁.heap.push o).push { cls := .type "list", data := .seq #[] } } := ⟨R₃, S₁.gens, S₁.os⟩
  have Xn : Ext ρ s.heap (ρ₁ ++ [((s₁.heap.push o).objs.size, (s₁.heap.push o).objs.size)]) ((s₁.heap.push o).push { cls := .type "list", data := .seq #[] }) := X₁.trans X₃
  generalize ρ₁ ++ [((s₁.heap.push o).objs.size, (s₁.heap.push o).objs.size)] = ρ₃ at *
  generalize (s₁.heap.push o).objs.size = aL at *
  generalize (s₁.heap.push o).push { cls := .type "list", data := .seq #[] } = h₃ at *
  exact codeX_mono (comp_block (s := { s₁ with heap := h₃ }) N H S₃ (Hh.mono Xn.st) K L₃ IR₃ hj (fun b ob e => (hsb.2 b (Nat.ne_of_lt (Heap.lt_size e))).trans (Heap.get?_push_of_some _ e)) (none_at_end _) hns rfl rfl rfl
   ⟨H.frames, H.depth, H.units, H.hn, K.kind, H.gl, H.bu, H.frm⟩ (hc _ ⟨H.frames, H.depth, H.units, H.hn, K.kind, H.gl, H.bu, H.frm⟩ (relabel_scope H.fk)) (he _ ⟨H.frames, H.depth, H.units, H.hn, K.kind, H.gl, H.bu, H.frm⟩ (relabel_scope H.fk)) hL hmr) fun r s' z => ⟨z.1, use_ok hU Xn hj z.2⟩
end
def Sd {α β : Type} (C : Cx) (A : Around) (envs : List Env) (env : Env) (lv : Loc) (Rl : Env2 -> Heap -> α -> β -> Prop) (m : P α) (t : Sem β) : Prop := ∀ (g : Base) (ρ : Env2) (hp : Hp) (s : Shared) (out : Out α), m hp = some out -> St C g envs env ρ lv hp s -> Han A s.heap ->
 wpX C.M A t (OkA C g envs env Rl ρ lv s out) (RsV C g envs env ρ lv s out) s
def RB (_ : Env2) (_ : Heap) (a b : Bool) : Prop := b = a
structure Pt (C : Cx) (A : Around) (g : Base) (envs : List Env) (env : Env) (lv : Loc) (ρ₀ : Env2) (s₀ : Shared) (ρ : Env2) (hp : Hp) (s : Shared) : Prop where
 S : St C g envs env ρ lv hp s
 X : Ext ρ₀ s₀.heap ρ s.heap
 Hh : Han A s.heap
section
variable {C : Cx} {g : Base} {envs : List Env} {env : Env} {ρ ρ₀ : Env2} {lv : Loc} {hp : Hp} {s s₀ : Shared} {A : Around}
theorem Pt.start (S : St C g envs env ρ lv hp s) (Hh : Han A s.heap) : Pt C A g envs env lv ρ s ρ hp s := ⟨S, .refl _ _, Hh⟩
theorem Pt.seq {α α' β : Type} {Rl : Env2 -> Heap -> α -> α' -> Prop} {m : P α} {f : α -> P β} {out : Out β} {t : Sem α'} {Q : α' -> Shared -> Prop} (p : Pt C A g envs env lv ρ₀ s₀ ρ hp s) (h : P.bind m f hp = some out)
  (h1 : ∀ out₁, m hp = some out₁ -> wpX C.M A t (OkA C g envs env Rl ρ lv s out₁) (RsV C g envs env ρ lv s out₁) s)
  (k : ∀ v hp₁ w ρ₁ s₁, f v hp₁ = some out -> Pt C A g envs env lv ρ₀ s₀ ρ₁ hp₁ s₁ -> Ext ρ s.heap ρ₁ s₁.heap -> Rl ρ₁ s₁.heap v w -> Q w s₁) : wpX C.M A t Q (RsV C g envs env ρ₀ lv s₀ out) s :=
 A_seq h h1 (fun v hp₁ h₁ w ρ₁ s₁ S₁ X₁ r => k v hp₁ w ρ₁ s₁ h₁ ⟨S₁, p.X.trans X₁, p.Hh.mono X₁.st⟩ X₁ r) fun _ _ z => z.trans p.X
theorem Pt.go {α α' β : Type} {Rl : Env2 -> Heap -> α -> α' -> Prop} {m : P α} {f : α -> P β} {out : Out β} {t : Sem α'} {Q : α' -> Shared -> Prop} (p : Pt C A g envs env lv ρ₀ s₀ ρ hp s) (d : Sd C A envs env lv Rl m t) (h : P.bind m f hp = some out)
  (k : ∀ v hp₁ w ρ₁ s₁, f v hp₁ = some out -> Pt C A g envs env lv ρ₀ s₀ ρ₁ hp₁ s₁ -> Ext ρ s.heap ρ₁ s₁.heap -> Rl ρ₁ s₁.heap v w -> Q w s₁) : wpX C.M A t Q (RsV C g envs env ρ₀ lv s₀ out) s :=
 p.seq h (fun _ q => d g ρ hp s _ q p.S p.Hh) k
theorem Pt.fin {α β : Type} {Rl : Env2 -> Heap -> α -> β -> Prop} {out : Out α} {t : Sem β} (p : Pt C A g envs env lv ρ₀ s₀ ρ hp s) (h : wpX C.M A t (OkA C g envs env Rl ρ lv s out) (RsV C g envs env ρ lv s out) s) : wpX C.M A t (OkA C g envs env Rl ρ₀ lv s₀ out) (RsV C g envs env ρ₀ lv s₀ out) s :=
 X_mono h (fun _ _ => OkA.trans p.X) fun _ _ => RsV.trans p.X
theorem Pt.run {α β : Type} {Rl : Env2 -> Heap -> α -> β -> Prop} {m : P α} {out : Out α} {t : Sem β} (p : Pt C A g envs env lv ρ₀ s₀ ρ hp s) (d : Sd C A envs env lv Rl m t) (h : m hp = some out) : wpX C.M A t (OkA C g envs env Rl ρ₀ lv s₀ out) (RsV C g envs env ρ₀ lv s₀ out) s := p.fin (d g ρ hp s out h p.S p.Hh)
theorem Pt.ret {α β : Type} {Rl : Env2 -> Heap -> α -> β -> Prop} {v : α} {w : β} {out : Out α} (p : Pt C A g envs env lv ρ₀ s₀ ρ hp s) (h : P.ret v hp = some out) (r : Rl ρ s.heap v w) : OkA C g envs env Rl ρ₀ lv s₀ out w s := by
 rw [<- Option.some.inj h]; exact ⟨ρ, p.S, p.X, r⟩
theorem P.assoc {α β γ : Type} {m : P α} {f : α -> P β} {k : β -> P γ} {out : Out γ} (h : P.bind (P.bind m f) k hp = some out) : P.bind m (fun a => P.bind (f a) k) hp = some out := (congrFun (bind_assoc m f k) hp).symm.trans h
theorem bind_of {α β : Type} {o : Option α} {f : α -> P β} {out : Out β} (h : P.bind (P.of o) f hp = some out) : ∃ a, o = some a /\ f a hp = some out := by
 cases o with
 | none => exact nn h
 | some a => exact ⟨a, rfl, h⟩
theorem Pt.truth {out : Out Bool} {v : V} {w : Value} (p : Pt C A g envs env lv ρ₀ s₀ ρ hp s) (h : P.of (truth v) hp = some out) (r : VRel ρ s.heap v w) {E : Value -> Shared -> Prop} : wpX C.M A (truthy w) (OkA C g envs env RB ρ₀ lv s₀ out) E s := by
 obtain ⟨b, hb, rfl⟩ := of_some h
 exact wpX_any (truth_ok p.S r hb ⟨ρ, p.S, p.X, rfl⟩)
theorem Sd.plain {m : P V} {t : Sem Value} {pos : Pos} (d : Sd C A envs env lv VRel m t) : Sd C A envs env lv RB (tr m) (t >>= fun v => standAt pos >>= fun _ => holding [v] (truthy v)) := fun g ρ hp s out h S Hh =>
 X_bind ((Pt.start S Hh).go d h fun v hp₁ w ρ₁ s₁ h₁ p _ r => X_at (X_holding (p.truth h₁ r)))
theorem tr_boolNot (m : P V) : tr (P.bind m boolNot) = P.bind (tr m) fun t => P.ret (!t) := by
 funext hp
 unfold tr P.bind
 cases m hp with
 | none => rfl
 | some o => cases o with
  | raise => rfl
  | ok v hp₁ =>
   show P.bind (boolNot v) _ hp₁ = P.bind (P.of (truth v)) _ hp₁
   unfold boolNot P.of P.bind
   cases truth v <;> rfl
theorem noStar (D : Dt) (e : E) (i : IT) : isStar (toX D e i) = false := by cases e <;> rfl
theorem noMarks (D : Dt) (op : CmpOp) (e : E) (i : IT) : behindInMarks op (toX D e i) = false := by cases e <;> rfl
theorem noFold (D : Dt) (e : E) (i : IT) (env : Env) (v : Value) : foldedSetIterable (toX D e i) env v = pure v := by cases e <;> rfl
theorem noStars (D : Dt) : ∀ (es : Es) (is : List IT), ∀ x ∈ toXs D es is, isStar x = false
 | .nil, _ => fun _ h => (nomatch h)
 | .cons e es, is => fun x h => (List.mem_cons.mp h).elim (fun q => q ▸ noStar D e _) (noStars D es is.tail x)
theorem len_toXs (D : Dt) : ∀ (es : Es) (is : List IT), (toXs D es is).length = len es
 | .nil, _ => rfl
 | .cons _ es, is => congrArg (· + 1) (len_toXs D es is.tail)
end
noncomputable def isPlain : E -> Bool
 | .not _ => false
 | .bop _ _ => false
 | .ite _ _ _ => false
 | .cmp _ _ _ => false
 | .cmp2 _ _ _ _ _ => false
 | _ => true
theorem plain_isTrue (D : Dt) {e : E} (h : isPlain e = true) (i : IT) (env : Env) : isTrue (toX D e i) env (eval (toX D e i) env) = (eval (toX D e i) env >>= fun v => standAt (toX D e i).pos >>= fun _ => holding [v] (truthy v)) := by
 cases e <;> first | rfl | exact Bool.noConfusion (show false = true from h)
section
variable (C : Cx) (d : Nat) (x : X)
def EvOk (e : E) : Prop := ∀ (env : Env) (i : IT), okE C.toDt env.scope e i = true -> ∀ (envs : List Env) (A : Around) (lv : Loc), Here C x.hm d A envs env -> Sd C A envs env lv VRel (ev C.T x e lv) (eval (toX C.toDt e i) env)
def TrOk (e : E) : Prop := ∀ (env : Env) (i : IT), okE C.toDt env.scope e i = true -> ∀ (envs : List Env) (A : Around) (lv : Loc), Here C x.hm d A envs env -> Sd C A envs env lv RB (tr (ev C.T x e lv)) (isTrue (toX C.toDt e i) env (eval (toX C.toDt e i) env))
def EvsOk (es : Es) : Prop := ∀ (env : Env) (is : List IT), okEs C.toDt env.scope es is = true -> ∀ (envs : List Env) (A : Around) (lv : Loc), Here C x.hm d A envs env -> Sd C A envs env lv VRels (evs C.T x es lv) (spliced ((toXs C.toDt es is).map fun e => (false, eval e env)))
def EvBOk (es : Es) : Prop := ∀ (env : Env) (is : List IT) (op : BoolOp) (pos : Pos), okEs C.toDt env.scope es is = true -> ∀ (envs : List Env) (A : Around) (lv : Loc), Here C x.hm d A envs env ->
 Sd C A envs env lv VRel (evB C.T x op es lv) (boolOp pos op (evalEach (toXs C.toDt es is) env)) /\ Sd C A envs env lv RB (tr (evB C.T x op es lv)) (allTrue op (toXs C.toDt es is) env)
def EvTOk (es : Es) : Prop := ∀ (env : Env) (is : List IT), okEs C.toDt env.scope es is = true -> ∀ (envs : List Env) (A : Around) (lv : Loc), Here C x.hm d A envs env -> Sd C A envs env lv RB (evT C.T x es lv) (condsT (toXs C.toDt es is) env)
end
theorem and2 {a b : Bool} (h : (a && b) = true) : a = true /\ b = true := Bool.and_eq_true_iff.mp h
section
variable {C : Cx} {d : Nat} {x : X}
theorem tr_plain {e : E} (he : EvOk C d x e) (h : isPlain e = true) : TrOk C d x e := fun env i hm envs A lv H => by
 rw [plain_isTrue C.toDt h]
 exact (he env i hm envs A lv H).plain
theorem ev_loc (v : Nat) : EvOk C d x (.loc v) := fun env i hm envs A lv H g ρ hp s out h S Hh => by
 obtain ⟨a, ha, rfl⟩ := of_some h
 exact eval_name S H ha hm rfl fun w r => OkV.now S r
theorem ev_int (n : Int) : EvOk C d x (.int n) := fun env i hm envs A lv H g ρ hp s out h S Hh => by
 rw [<- Option.some.inj h]
 exact wpX_any (wpAny_Constant_int (OkV.tok S _ ⟨_, rfl⟩))
theorem ev_str (t : List Nat) : EvOk C d x (.str t) := fun env i hm envs A lv H g ρ hp s out h S Hh => by
 rw [<- Option.some.inj h]
 exact wpX_any (Calls.Constant_str (OkV.tok S _ ⟨fun c hc => of_decide_eq_true (List.all_eq_true.mp hm c hc), _, rfl⟩))
theorem ev_bool (b : Bool) : EvOk C d x (.bool b) := fun env i hm envs A lv H g ρ hp s out h S Hh => by
 rw [<- Option.some.inj h]
 exact X_pure (OkV.now S rfl)
theorem ev_none : EvOk C d x .none := fun env i hm envs A lv H g ρ hp s out h S Hh => by
 rw [<- Option.some.inj h]
 exact X_pure (OkV.now S rfl)
theorem ev_bin {op : Operator} {l r : E} (il : EvOk C d x l) (ir : EvOk C d x r) : EvOk C d x (.bin op l r) := fun env i hm envs A lv H g ρ hp s out h S Hh =>
 X_BinOp ((Pt.start S Hh).go (il env _ (and2 hm).1 envs A lv H) h fun v hp₁ w ρ₁ s₁ h₁ p₁ _ rv => p₁.go (ir env _ (and2 hm).2 envs A lv H) h₁ fun v₂ hp₂ w₂ ρ₂ s₂ h₂ p₂ X₂ rv₂ =>
  p₂.fin (leaf fun E => binop_ok p₂.S (rv.ext X₂) rv₂ h₂))
theorem ev_not {e : E} (ie : EvOk C d x e) : EvOk C d x (.not e) := fun env i hm envs A lv H g ρ hp s out h S Hh =>
 X_UnaryOp ((Pt.start S Hh).go (ie env _ hm envs A lv H) h fun v hp₁ w ρ₁ s₁ h₁ p₁ _ rv => by
  obtain ⟨a, ha, rfl⟩ := of_some h₁
  obtain ⟨b, hb, rfl⟩ := Option.map_eq_some_iff.mp ha
  exact wpX_any (not_of (truth_ok p₁.S rv hb ⟨_, p₁.S, p₁.X, rfl⟩)))
theorem tr_not {e : E} (ie : TrOk C d x e) : TrOk C d x (.not e) := fun env i hm envs A lv H g ρ hp s out h S Hh => by
 have h' : P.bind (tr (ev C.T x e lv)) (fun t => P.ret (!t)) hp = some out := (congrFun (tr_boolNot (ev C.T x e lv)) hp).symm.trans h
 show wpX C.M A (isTrue (.UnaryOp .Not (toX C.toDt e (i.kid 0)) i.pos) env _) _ _ s
 rw [arm_isTrue_UnaryOp]
 exact X_bind ((Pt.start S Hh).go (ie env _ hm envs A lv H) h' fun b hp₁ w ρ₁ s₁ h₁ p₁ _ rv => X_pure (p₁.ret h₁ (congrArg (!·) rv)))
theorem ev_neg {e : E} (ie : EvOk C d x e) : EvOk C d x (.neg e) := fun env i hm envs A lv H g ρ hp s out h S Hh =>
 X_UnaryOp ((Pt.start S Hh).go (ie env _ hm envs A lv H) h fun v hp₁ w ρ₁ s₁ h₁ p₁ _ rv => by
  obtain ⟨a, ha, rfl⟩ := of_some h₁
  obtain ⟨n, hn, rfl⟩ := Option.map_eq_some_iff.mp ha
  obtain rfl := int?_eq hn
  obtain ⟨t, rfl⟩ := rv
  exact p₁.fin (Rl := VRel) (leaf fun E => PySem.P.neg_int (OkV.tok p₁.S _ ⟨_, rfl⟩)))
theorem units_ok {hm : Bool} {A : Around} {envs : List Env} {env : Env} (H : Here C hm d A envs env) : A.units + 64 < cLine := Nat.lt_of_le_of_lt (by omega) H.units
theorem ev_cmp {op : CmpOp} {l r : E} (il : EvOk C d x l) (ir : EvOk C d x r) : EvOk C d x (.cmp op l r) := fun env i hm envs A lv H g ρ hp s out h S Hh =>
 X_Compare1 (noMarks _ _ _ _) ((Pt.start S Hh).go (il env _ (and2 hm).1 envs A lv H) h fun v hp₁ w ρ₁ s₁ h₁ p₁ _ rv => p₁.go (ir env _ (and2 hm).2 envs A lv H) h₁ fun v₂ hp₂ w₂ ρ₂ s₂ h₂ p₂ X₂ rv₂ =>
  p₂.fin (leaf fun E => cmpop_ok p₂.S (units_ok H) (rv.ext X₂) rv₂ h₂))
theorem tr_cmp {op : CmpOp} {l r : E} (il : EvOk C d x l) (ir : EvOk C d x r) : TrOk C d x (.cmp op l r) := fun env i hm envs A lv H g ρ hp s out h S Hh =>
 X_isTrue_Compare1 (noMarks _ _ _ _) ((Pt.start S Hh).go (il env _ (and2 hm).1 envs A lv H) (P.assoc h) fun v hp₁ w ρ₁ s₁ h₁ p₁ _ rv => p₁.go (ir env _ (and2 hm).2 envs A lv H) (P.assoc h₁) fun v₂ hp₂ w₂ ρ₂ s₂ h₂ p₂ X₂ rv₂ =>
  p₂.seq h₂ (fun _ q => leaf fun E => cmpop_ok p₂.S (units_ok H) (rv.ext X₂) rv₂ q) fun v₃ hp₃ w₃ ρ₃ s₃ h₃ p₃ _ rv₃ => p₃.truth h₃ rv₃)
theorem ev_cmp2 {op op' : CmpOp} {l m r : E} (il : EvOk C d x l) (im : EvOk C d x m) (ir : EvOk C d x r) : EvOk C d x (.cmp2 op op' l m r) := fun env i hm envs A lv H g ρ hp s out h S Hh =>
 X_Compare2 (noMarks _ _ _ _) ((Pt.start S Hh).go (il env _ (and2 hm).1 envs A lv H) h fun v hp₁ w ρ₁ s₁ h₁ p₁ _ rv => p₁.go (im env _ (and2 (and2 hm).2).1 envs A lv H) h₁ fun v₂ hp₂ w₂ ρ₂ s₂ h₂ p₂ X₂ rv₂ =>
  p₂.seq h₂ (fun _ q => leaf fun E => cmpop_ok p₂.S (units_ok H) (rv.ext X₂) rv₂ q) fun v₃ hp₃ w₃ ρ₃ s₃ h₃ p₃ X₃ rv₃ => by
   obtain ⟨b, hb, h₄⟩ := bind_of h₃
   refine wpX_any (truth_ok p₃.S rv₃ hb ?_)
   cases b with
   | false => exact p₃.ret (Rl := VRel) h₄ rv₃
   | true => exact p₃.go (ir env _ (and2 (and2 hm).2).2 envs A lv H) h₄ fun v₄ hp₄ w₄ ρ₄ s₄ h₅ p₄ X₄ rv₄ => p₄.fin (leaf fun E => cmpop_ok p₄.S (units_ok H) ((rv₂.ext X₃).ext X₄) rv₄ h₅))
theorem tr_cmp2 {op op' : CmpOp} {l m r : E} (il : EvOk C d x l) (im : EvOk C d x m) (ir : EvOk C d x r) : TrOk C d x (.cmp2 op op' l m r) := fun env i hm envs A lv H g ρ hp s out h S Hh =>
 X_isTrue_Compare2 (noMarks _ _ _ _) ((Pt.start S Hh).go (il env _ (and2 hm).1 envs A lv H) (P.assoc h) fun v hp₁ w ρ₁ s₁ h₁ p₁ _ rv => p₁.go (im env _ (and2 (and2 hm).2).1 envs A lv H) (P.assoc h₁) fun v₂ hp₂ w₂ ρ₂ s₂ h₂ p₂ X₂ rv₂ =>
  p₂.seq (P.assoc h₂) (fun _ q => leaf fun E => cmpop_ok p₂.S (units_ok H) (rv.ext X₂) rv₂ q) fun v₃ hp₃ w₃ ρ₃ s₃ h₃ p₃ X₃ rv₃ => by
   obtain ⟨b, hb, h₄⟩ := bind_of (P.assoc h₃)
   refine wpX_any (truth_ok p₃.S rv₃ hb ?_)
   cases b with
   | false =>
    have h₄ : P.of (truth v₃) hp₃ = some out := h₄
    rw [hb] at h₄
    exact p₃.ret (Rl := RB) h₄ rfl
   | true =>
    exact p₃.go (ir env _ (and2 (and2 hm).2).2 envs A lv H) (P.assoc h₄) fun v₄ hp₄ w₄ ρ₄ s₄ h₅ p₄ X₄ rv₄ =>
     p₄.seq h₅ (fun _ q => leaf fun E => cmpop_ok p₄.S (units_ok H) ((rv₂.ext X₃).ext X₄) rv₄ q) fun v₅ hp₅ w₅ ρ₅ s₅ h₆ p₅ _ rv₅ => p₅.truth h₆ rv₅)
theorem ev_ite {t b o : E} (it : TrOk C d x t) (ib : EvOk C d x b) (io : EvOk C d x o) : EvOk C d x (.ite t b o) := fun env i hm envs A lv H g ρ hp s out h S Hh =>
 X_IfExp ((Pt.start S Hh).go (it env _ (and2 hm).1 envs A lv H) h fun c hp₁ w ρ₁ s₁ h₁ p₁ _ rv => by
  rw [show w = c from rv]
  cases c with
  | true => exact p₁.run (ib env _ (and2 (and2 hm).2).1 envs A lv H) h₁
  | false => exact p₁.run (io env _ (and2 (and2 hm).2).2 envs A lv H) h₁)
theorem tr_ite {t b o : E} (it : TrOk C d x t) (ib : TrOk C d x b) (io : TrOk C d x o) : TrOk C d x (.ite t b o) := fun env i hm envs A lv H g ρ hp s out h S Hh => by
 show wpX C.M A (isTrue (.IfExp (toX C.toDt t (i.kid 0)) (toX C.toDt b (i.kid 1)) (toX C.toDt o (i.kid 2)) i.pos) env _) _ _ s
 rw [arm_isTrue_IfExp]
 refine X_bind ((Pt.start S Hh).go (it env _ (and2 hm).1 envs A lv H) (P.assoc h) fun c hp₁ w ρ₁ s₁ h₁ p₁ _ rv => ?_)
 rw [show w = c from rv]
 cases c with
 | true => exact p₁.run (ib env _ (and2 (and2 hm).2).1 envs A lv H) h₁
 | false => exact p₁.run (io env _ (and2 (and2 hm).2).2 envs A lv H) h₁
theorem ev_bop {op : BoolOp} {es : Es} (ie : EvBOk C d x es) : EvOk C d x (.bop op es) := fun env i hm envs A lv H => (ie env _ op _ hm envs A lv H).1
theorem tr_bop {op : BoolOp} {es : Es} (ie : EvBOk C d x es) : TrOk C d x (.bop op es) := fun env i hm envs A lv H => (ie env _ op default hm envs A lv H).2
end
section
variable {C : Cx} {g : Base} {envs : List Env} {env : Env} {ρ ρ₀ : Env2} {lv : Loc} {hp : Hp} {s s₀ : Shared} {A : Around} {d : Nat} {x : X}
theorem ev_callg (XO : CxOk C) (XE : ExcMk C) (CO : CallOk C d x.call) {n : Nat} {G : G} {as : Es} (ia : EvsOk C d x as) : EvOk C d x (.callg n G as) := fun env i hm envs A lv H g ρ hp s out h S Hh => by
 obtain ⟨h2, hm⟩ := and2 hm
 obtain ⟨h3, hm⟩ := and2 hm
 have h3 := Dt.isGl_eq h3
 refine X_CallName (noStars _ _ _) (eval_global XO S H h3 h2 rfl (X_callWith ?_))
 refine (Pt.start S Hh).go (ia env _ (and2 hm).2 envs A lv H) h fun vs hp₁ ws ρ₁ s₁ h₁ p₁ _ rv => ?_
 refine X_mono (keeper_ok (E := RsV C g envs env ρ lv s out) XO p₁.S fun f e => XO.glFn n f (e ▸ h3)) (fun k s₂ z => ?_) fun _ _ z => z
 rw [z.1]
 exact ⟨z.2, p₁.fin (Rl := VRel) (callG_ok XO XE CO H p₁.S p₁.Hh rv h₁)⟩
theorem findM_bind {β : Type} {T : Tab} {o : V} {m : Nat} {f : MK -> P β} {out : Out β} (h : P.bind (findM T o m) f hp = some out) : ∃ k, findK T o m hp = some k /\ f k hp = some out := by
 unfold P.bind findM at h
 cases q : findK T o m hp with
 | none => rw [q] at h; exact nn h
 | some k => rw [q] at h; exact ⟨k, rfl, h⟩
theorem findK_fn {T : Tab} {o : V} {m f : Nat} (h : findK T o m hp = some (.fn f)) : ∃ c, T.meth c m = some f := by
 cases o with
 | str s => exact nomatch Option.some.inj (ite_some h).2
 | ref i =>
  obtain ⟨o, _, h⟩ := Option.bind_eq_some_iff.mp h
  cases o with
  | inst c fs =>
   obtain ⟨f', e, h⟩ := Option.bind_eq_some_iff.mp h
   exact ⟨c, by rw [e]; cases (ite_some h).2; rfl⟩
  | list vs =>
   have h : findL T.N m = some (.fn f) := h
   unfold findL at h
   by_cases q1 : m = T.N.append
   ·rw [if_pos q1] at h; exact nomatch Option.some.inj h
   ·rw [if_neg q1] at h
    by_cases q2 : m = T.N.extend
    ·rw [if_pos q2] at h; exact nomatch Option.some.inj h
    ·rw [if_neg q2] at h; exact nomatch Option.some.inj (ite_some h).2
  | ba b =>
   have h : findB T.N m = some (.fn f) := h
   unfold findB at h
   by_cases q1 : m = T.N.append
   ·rw [if_pos q1] at h; exact nomatch Option.some.inj h
   ·rw [if_neg q1] at h; exact nomatch Option.some.inj (ite_some h).2
  | exc => exact nn h
 | _ => exact nn h
theorem callM_ok (CO : CallOk C d x.call) (H : Here C x.hm d A envs env) (S : St C g envs env ρ lv hp s) (Hh : Han A s.heap) {k : MK} {o : V} {w : Value} {args : List V} {ws : List Value} {out : Out V} (hw : VRel ρ s.heap o w) (hv : VRels ρ s.heap args ws) (h : callM x k o args hp = some out) :
  wpX C.M A (call (k.fv C.toDt) (w :: ws)) (OkV C g envs env ρ lv s out) (RsV C g envs env ρ lv s out) s := by
 cases k with
 | fn f => exact call_fn CO H S Hh (args := o :: args) ⟨w, ws, rfl, hw, hv⟩ h
 | _ => exact method_ok S H.hn hw hv h
theorem plain_base (D : Dt) {e : E} (h : plainB e = true) (i : IT) (a : Str) (env : Env) (t : Sem Value) : attributeBase (toX D e i) a env t = t := by
 cases e with
 | callg n G as => cases as with
  | nil => exact Bool.noConfusion (show false = true from h)
  | cons e es => rfl
 | _ => rfl
theorem ev_mcall (XO : CxOk C) (CO : CallOk C d x.call) {o : E} {m : Nat} {as : Es} (io : EvOk C d x o) (ia : EvsOk C d x as) : EvOk C d x (.mcall o m as) := fun env i hm envs A lv H g ρ hp s out h S Hh => by
 obtain ⟨h2, hm⟩ := and2 hm
 obtain ⟨h3, hm⟩ := and2 hm
 obtain ⟨h6, hm⟩ := and2 hm
 refine X_CallMeth (fun a t => plain_base _ h2 _ a env t) h3 (by rw [len_toXs]; exact of_decide_eq_true h6) (noStars _ _ _) ((Pt.start S Hh).go (io env _ (and2 hm).1 envs A lv H) h fun v hp₁ w ρ₁ s₁ h₁ p₁ _ rv => ?_)
 obtain ⟨k, hk, h₂⟩ := findM_bind h₁
 refine wpX_any (wpAny_mono (findK_ok (A := A) (E := RsV C g envs env ρ lv s out) XO.toCxCls p₁.S rv hk _) (fun fx s₂ z => ?_) fun _ _ z => z)
 rw [z.1, z.2]
 refine X_callWith (p₁.go (ia env _ (and2 hm).2 envs A lv H) h₂ fun vs hp₃ ws ρ₃ s₃ h₃ p₃ X₃ rvs => ?_)
 have keep : wpX C.M A (keeperOf (k.fv C.toDt)) (fun k s' => s' = s₃ /\ (k = .machine \/ k = .frame)) (RsV C g envs env ρ lv s out) s₃ := by
  cases k with
  | fn f => exact keeper_ok (G := .fn f) XO p₃.S fun f' e => by cases e; exact (findK_fn hk).elim fun c hc => XO.methFn c m _ hc
  | _ => exact X_pure ⟨rfl, .inl rfl⟩
 refine X_mono keep (fun k' s₄ z => ?_) fun _ _ z => z
 rw [z.1]
 exact ⟨z.2, p₃.fin (Rl := VRel) (callM_ok CO H p₃.S p₃.Hh (rv.ext X₃) rvs h₃)⟩
theorem ev_attr (XO : CxOk C) {o : E} {a : Nat} (io : EvOk C d x o) : EvOk C d x (.attr o a) := fun env i hm envs A lv H g ρ hp s out h S Hh =>
 X_Attr (fun a t => plain_base _ (and2 (and2 hm).2).1 _ a env t) ((Pt.start S Hh).go (io env _ (and2 (and2 hm).2).2 envs A lv H) h fun v hp₁ w ρ₁ s₁ h₁ p₁ _ rv => p₁.fin (leaf fun E => getA_ok XO.toCxCls p₁.S rv (and2 hm).1 h₁))
theorem ev_sub {o j : E} (io : EvOk C d x o) (ij : EvOk C d x j) : EvOk C d x (.sub o j) := fun env i hm envs A lv H g ρ hp s out h S Hh =>
 X_Sub ((Pt.start S Hh).go (io env _ (and2 hm).1 envs A lv H) h fun v hp₁ w ρ₁ s₁ h₁ p₁ _ rv => p₁.go (ij env _ (and2 hm).2 envs A lv H) h₁ fun v₂ hp₂ w₂ ρ₂ s₂ h₂ p₂ X₂ rv₂ =>
  p₂.fin (leaf fun E => subscr_ok p₂.S (rv.ext X₂) rv₂ h₂))
theorem evO_ok {e : E} (ie : EvOk C d x e) {env : Env} {i : IT} {envs : List Env} (H : Here C x.hm d A envs env) : ∀ (b : Bool), (b || okE C.toDt env.scope e i) = true -> Sd C A envs env lv BRel (optE b (ev C.T x e lv)) (valueOrNone (evalOpt (if b then none else some (toX C.toDt e i)) env))
 | true, _ => fun g ρ hp s out h S Hh => X_pure ((Pt.start S Hh).ret (Rl := BRel) h rfl)
 | false, hm => fun g ρ hp s out h S Hh => X_mono ((Pt.start S Hh).go (Q := OkA C g envs env BRel ρ lv s out) (ie env i hm envs A lv H) h fun v hp₁ w ρ₁ s₁ h₁ p₁ _ rv => p₁.ret (Rl := BRel) h₁ rv) (fun _ _ z => z) fun _ _ z => z
theorem BRel.ext {ρ' : Env2} {h h' : Heap} (e : Ext ρ h ρ' h') : ∀ {v : Option V} {w : Value}, BRel ρ h v w -> BRel ρ' h' v w
 | none, _, x => x
 | some _, _, x => VRel.ext x e
theorem ev_slice {o lo hi : E} (io : EvOk C d x o) (il : EvOk C d x lo) (ih : EvOk C d x hi) : EvOk C d x (.slice o lo hi) := fun env i hm envs A lv H g ρ hp s out h S Hh =>
 X_Sub ((Pt.start S Hh).go (io env _ (and2 hm).1 envs A lv H) h fun v hp₁ w ρ₁ s₁ h₁ p₁ _ rv => X_Slice (p₁.go (evO_ok il H _ (and2 (and2 hm).2).1) h₁ fun l hp₂ wl ρ₂ s₂ h₂ p₂ X₂ bl => p₂.go (evO_ok ih H _ (and2 (and2 hm).2).2) h₂ fun u hp₃ wu ρ₃ s₃ h₃ p₃ X₃ bu =>
  wpX_any (wpAny_mono (slic_ok (A := A) (E := RsV C g envs env ρ lv s out) p₃.S ((rv.ext X₂).ext X₃) (BRel.ext X₃ bl) bu h₃) (fun w' s' z => OkA.trans (s := s₃) p₃.X z) fun _ _ z => z)))
theorem size_le {ρ : Env2} {h : Heap} {vs : List V} {ws : List Value} (rv : VRels ρ h vs ws) (q : vs.length <= big) : ws.toArray.size <= sizeLine := by
 rw [List.size_toArray, rv.length]; exact Nat.le_trans q big_le
theorem ev_list {es : Es} (ia : EvsOk C d x es) : EvOk C d x (.list es) := fun env i hm envs A lv H g ρ hp s out h S Hh =>
 X_List (noStars _ _ _) ((Pt.start S Hh).go (ia env _ hm envs A lv H) h fun vs hp₁ ws ρ₁ s₁ h₁ p₁ _ rv => by
  unfold mkList at h₁
  by_cases qb : vs.length <= big
  ·rw [if_pos qb] at h₁
   rw [<- Option.some.inj h₁]
   exact wpX_any (wpAny_newList (OkA.trans p₁.X (p₁.S.newList (n := 0) s₁.toks (fun _ _ e => Heap.get?_push_of_some _ e) (none_at_end _) (Heap.get?_push_size _ rfl) rv)) (size_le rv qb))
  ·rw [if_neg qb] at h₁; exact nn h₁)
theorem tup_grow {vs : List V} {ws : List Value} (S : St C g envs env ρ lv hp s) (rv : VRels ρ s.heap vs ws) : OkV C g envs env ρ lv s (.ok (.tup vs) hp) (.ref s.heap.objs.size) { s with heap := s.heap.push { cls := .type "tuple", data := .seq ws.toArray } } :=
 have k : ∀ b o, s.heap.get? b = some o -> (s.heap.push { cls := .type "tuple", data := .seq ws.toArray }).get? b = some o := fun _ _ e => Heap.get?_push_of_some _ e
 OkV.grow S s.toks k ⟨_, ws, rfl, ⟨_, Heap.get?_push_size _ rfl, rfl, 0, rfl⟩, rv.mono (List.prefix_refl _) (stable_of_keeps k)⟩
theorem ev_tup {es : Es} (ia : EvsOk C d x es) : EvOk C d x (.tup es) := fun env i hm envs A lv H g ρ hp s out h S Hh =>
 X_Tuple (noStars _ _ _) ((Pt.start S Hh).go (ia env _ hm envs A lv H) h fun vs hp₁ ws ρ₁ s₁ h₁ p₁ _ rv => by
  unfold mkTup at h₁
  by_cases qb : vs.length <= big
  ·rw [if_pos qb] at h₁
   rw [<- Option.some.inj h₁]
   exact wpX_any (wpAny_newTuple (OkA.trans p₁.X (tup_grow p₁.S rv)) (size_le rv qb))
  ·rw [if_neg qb] at h₁; exact nn h₁)
theorem evT_comp {cs : Es} {is : List IT} {sc : Scope} {y : Nat} (ic : EvTOk C d x cs) (hm : okEs C.toDt sc cs is = true) (lv : Loc) (cenv : Env) (H' : Here C x.hm d A envs cenv) (hsc : cenv.scope = sc) : CondOk C A envs cenv lv y (evT C.T x cs) (condsT (toXs C.toDt cs is) cenv) := fun g' ρ hp s v b hp' h S Hh =>
 X_mono (ic cenv is (hsc ▸ hm) envs A _ H' g' ρ hp s _ h S Hh) (fun ok s' z => ⟨z.elim fun ρ' z => z.2.2, z.elim fun ρ' z => ⟨ρ', z.1, z.2.1⟩⟩) fun e s' z => z
theorem ev_comp_elt {e : E} {i : IT} {sc : Scope} {y : Nat} (ie : EvOk C d x e) (hm : okE C.toDt sc e i = true) (lv : Loc) (cenv : Env) (H' : Here C x.hm d A envs cenv) (hsc : cenv.scope = sc) : EltOk C A envs cenv lv y (ev C.T x e) (eval (toX C.toDt e i) cenv) := fun g' ρ hp s v w hp' h S Hh =>
 X_mono (ie cenv i (hsc ▸ hm) envs A _ H' g' ρ hp s _ h S Hh) (fun u s' z => z) fun e s' z => z
theorem ev_use (XO : CxOk C) {elt it : E} {y : Nat} {cs : Es} (ie : EvOk C d x elt) (ii : EvOk C d x it) (ic : EvTOk C d x cs) {env : Env} {i : IT} (hm : okE C.toDt env.scope (.comp elt y it cs) i = true) {envs : List Env} (H : Here C x.hm d A envs env) {out : Out V} (h : ev C.T x (.comp elt y it cs) lv hp = some out) (S : St C g envs env ρ lv hp s) (Hh : Han A s.heap)
  {pos' : Pos} (use : Option (Value -> Sem Unit)) {Q : Value -> Shared -> Prop} {lw : V -> Loc} (hU : UseOk C A g envs env ρ lv s out lw Q use) :
  wpX C.M A (comprehension (toX C.toDt (.comp elt y it cs) i) i.sc env pos' (newList []) false (eval (toX C.toDt it (i.kid 2)) env) use) Q (RsV C g envs env ρ lv s out) s := by
 obtain ⟨h2, hm⟩ := and2 hm
 obtain ⟨h3, hm⟩ := and2 hm
 exact comp_ok XO.nm H S Hh (compOk_of h2) (noFold _ _ _ env) h (fun _ q => ii env _ h3 envs A lv H g ρ hp s _ q S Hh) (evT_comp ic (and2 hm).2 lv) (ev_comp_elt ie (and2 hm).1 lv) use hU fun _ _ z => z
theorem ev_comp (XO : CxOk C) {elt it : E} {y : Nat} {cs : Es} (ie : EvOk C d x elt) (ii : EvOk C d x it) (ic : EvTOk C d x cs) : EvOk C d x (.comp elt y it cs) := fun env i hm envs A lv H g ρ hp s out h S Hh => by
 show wpX C.M A (eval (.ListComp (toX C.toDt elt (i.kid 0)) [⟨.Name (C.nm y) (i.kid 1).pos, toX C.toDt it (i.kid 2), toXs C.toDt cs i.kids.tail.tail.tail, 0⟩] i.sc i.pos) env) _ _ s
 rw [arm_eval_ListComp]
 exact ev_use XO ie ii ic hm H h S Hh none (lw := fun _ => lv) fun w s' z => z
theorem evs_nil : EvsOk C d x .nil := fun env is hm envs A lv H g ρ hp s out h S Hh => X_pure ((Pt.start S Hh).ret (Rl := VRels) h rfl)
theorem evs_cons {e : E} {es : Es} (ie : EvOk C d x e) (ia : EvsOk C d x es) : EvsOk C d x (.cons e es) := fun env is hm envs A lv H g ρ hp s out h S Hh =>
 X_spliced_cons ((Pt.start S Hh).go (ie env _ (and2 hm).1 envs A lv H) h fun v hp₁ w ρ₁ s₁ h₁ p₁ _ rv => p₁.go (ia env _ (and2 hm).2 envs A lv H) h₁ fun vs hp₂ ws ρ₂ s₂ h₂ p₂ X₂ rvs =>
  p₂.ret (Rl := VRels) h₂ ⟨w, ws, rfl, rv.ext X₂, rvs⟩)
theorem evB_nil : EvBOk C d x .nil := fun env is op pos hm envs A lv H => ⟨fun g ρ hp s out h => nn h, fun g ρ hp s out h => nn h⟩
theorem evB_one {e : E} (ie : EvOk C d x e) (it : TrOk C d x e) : EvBOk C d x (.cons e .nil) := fun env is op pos hm envs A lv H => by
 have e1 : P.bind (ev C.T x e lv) (fun v => P.ret v) = ev C.T x e lv := by
  funext hp
  unfold P.bind
  cases ev C.T x e lv hp with
  | none => rfl
  | some o => cases o <;> rfl
 have e2 : evB C.T x op (.cons e .nil) lv = ev C.T x e lv := e1
 rw [e2]
 refine ⟨ie env _ (and2 hm).1 envs A lv H, fun g ρ hp s out h S Hh => ?_⟩
 show wpX C.M A (allTrue op (toX C.toDt e (is.headD .nil) :: []) env) _ _ s
 rw [arm_allTrue_cons]
 refine X_bind (X_mono (it env _ (and2 hm).1 envs A lv H g ρ hp s out h S Hh) (fun b s' z => ?_) fun _ _ z => z)
 cases op <;> cases b <;> exact X_pure z
theorem tr_more {β : Type} (m : P V) (op : BoolOp) (k : P V) (f : V -> P β) (r : Bool -> P β) (hr : ∀ v b, truth v = some b -> f v = r b) :
  P.bind (P.bind m fun v => P.bind (P.of (truth v)) fun t => if stops op t then P.ret v else k) f = P.bind (tr m) fun t => if stops op t then r t else P.bind k f := by
 unfold tr
 rw [bind_assoc, bind_assoc]
 refine congrArg (P.bind m) (funext fun v => funext fun hp => ?_)
 cases hv : truth v with
 | none => rfl
 | some b =>
  show P.bind (if stops op b = true then P.ret v else k) f hp = (if stops op b = true then r b else P.bind k f) hp
  cases stops op b with
  | false => rfl
  | true => exact congrFun (hr v b hv) hp
theorem evB_more {e e' : E} {es : Es} (ie : EvOk C d x e) (it : TrOk C d x e) (ib : EvBOk C d x (.cons e' es)) : EvBOk C d x (.cons e (.cons e' es)) := fun env is op pos hm envs A lv H => by
 obtain ⟨i1, i2⟩ := ib env is.tail op pos (and2 hm).2 envs A lv H
 refine ⟨fun g ρ hp s out h S Hh => ?_, fun g ρ hp s out h S Hh => ?_⟩
 ·show wpX C.M A (do
   let v <- eval (toX C.toDt e (is.headD .nil)) env
   standAt pos
   let t <- holding [v] (truthy v)
   match op, t with
   | .And, false | .Or, true => pure v
   | _, _ => boolOp pos op (evalEach (toXs C.toDt (.cons e' es) is.tail) env)) _ _ s
  refine X_bind ((Pt.start S Hh).go (ie env _ (and2 hm).1 envs A lv H) h fun v hp₁ w ρ₁ s₁ h₁ p₁ _ rv => ?_)
  obtain ⟨b, hb, h₂⟩ := bind_of h₁
  refine X_at (X_bind (X_holding (wpX_any (truth_ok p₁.S rv hb ?_))))
  cases op with
  | And => cases b with
   | true => exact p₁.run i1 h₂
   | false => exact X_pure (p₁.ret (Rl := VRel) h₂ rv)
  | Or => cases b with
   | true => exact X_pure (p₁.ret (Rl := VRel) h₂ rv)
   | false => exact p₁.run i1 h₂
 ·have h' := (congrFun (tr_more (ev C.T x e lv) op (evB C.T x op (.cons e' es) lv) (fun v => P.of (truth v)) (fun b => P.ret b) fun v b hv => by rw [hv]; rfl) hp).symm.trans h
  show wpX C.M A (allTrue op (toX C.toDt e (is.headD .nil) :: toXs C.toDt (.cons e' es) is.tail) env) _ _ s
  rw [arm_allTrue_cons]
  refine X_bind ((Pt.start S Hh).go (it env _ (and2 hm).1 envs A lv H) h' fun b hp₁ w ρ₁ s₁ h₁ p₁ _ rv => ?_)
  rw [show w = b from rv]
  cases op with
  | And => cases b with
   | true => exact p₁.run i2 h₁
   | false => exact X_pure (p₁.ret (Rl := RB) h₁ rfl)
  | Or => cases b with
   | true => exact X_pure (p₁.ret (Rl := RB) h₁ rfl)
   | false => exact p₁.run i2 h₁
theorem evT_nil : EvTOk C d x .nil := fun env is hm envs A lv H g ρ hp s out h S Hh => X_pure ((Pt.start S Hh).ret (Rl := RB) h rfl)
theorem evT_cons {e : E} {es : Es} (it : TrOk C d x e) (ic : EvTOk C d x es) : EvTOk C d x (.cons e es) := fun env is hm envs A lv H g ρ hp s out h S Hh =>
 X_conds_cons ((Pt.start S Hh).go (it env _ (and2 hm).1 envs A lv H) h fun b hp₁ w ρ₁ s₁ h₁ p₁ _ rv => by
  rw [show w = b from rv]
  cases b with
  | true => exact p₁.run (ic env _ (and2 hm).2 envs A lv H) h₁
  | false => exact p₁.ret (Rl := RB) h₁ rfl)
end
section
variable {C : Cx} {d : Nat} {x : X} (XO : CxOk C) (XE : ExcMk C) (CO : CallOk C d x.call)
def EvTr (C : Cx) (d : Nat) (x : X) (e : E) : Prop := EvOk C d x e /\ TrOk C d x e
theorem EvTr.of {e : E} (a : EvOk C d x e) (h : isPlain e = true) : EvTr C d x e := ⟨a, tr_plain a h⟩
include XO XE CO
mutual
theorem ev_ok : ∀ e : E, EvTr C d x e
 | .abs => ⟨fun env i hm => Bool.noConfusion (show false = true from hm), fun env i hm => Bool.noConfusion (show false = true from hm)⟩
 | .loc v => .of (ev_loc v) rfl
 | .int i => .of (ev_int i) rfl
 | .str t => .of (ev_str t) rfl
 | .bool b => .of (ev_bool b) rfl
 | .none => .of ev_none rfl
 | .bin op l r => .of (ev_bin (ev_ok l).1 (ev_ok r).1) rfl
 | .not e => ⟨ev_not (ev_ok e).1, tr_not (ev_ok e).2⟩
 | .neg e => .of (ev_neg (ev_ok e).1) rfl
 | .cmp op l r => ⟨ev_cmp (ev_ok l).1 (ev_ok r).1, tr_cmp (ev_ok l).1 (ev_ok r).1⟩
 | .cmp2 op op' l m r => ⟨ev_cmp2 (ev_ok l).1 (ev_ok m).1 (ev_ok r).1, tr_cmp2 (ev_ok l).1 (ev_ok m).1 (ev_ok r).1⟩
 | .bop op es => ⟨ev_bop (evs_ok es).2.1, tr_bop (evs_ok es).2.1⟩
 | .ite t b o => ⟨ev_ite (ev_ok t).2 (ev_ok b).1 (ev_ok o).1, tr_ite (ev_ok t).2 (ev_ok b).2 (ev_ok o).2⟩
 | .callg n G as => .of (ev_callg XO XE CO (evs_ok as).1) rfl
 | .mcall o m as => .of (ev_mcall XO CO (ev_ok o).1 (evs_ok as).1) rfl
 | .attr o a => .of (ev_attr XO (ev_ok o).1) rfl
 | .sub o i => .of (ev_sub (ev_ok o).1 (ev_ok i).1) rfl
 | .slice o lo hi => .of (ev_slice (ev_ok o).1 (ev_ok lo).1 (ev_ok hi).1) rfl
 | .list es => .of (ev_list (evs_ok es).1) rfl
 | .tup es => .of (ev_tup (evs_ok es).1) rfl
 | .comp elt y it cs => .of (ev_comp XO (ev_ok elt).1 (ev_ok it).1 (evs_ok cs).2.2) rfl
theorem evs_ok : ∀ es : Es, EvsOk C d x es /\ EvBOk C d x es /\ EvTOk C d x es
 | .nil => ⟨evs_nil, evB_nil, evT_nil⟩
 | .cons e .nil => ⟨evs_cons (ev_ok e).1 evs_nil, evB_one (ev_ok e).1 (ev_ok e).2, evT_cons (ev_ok e).2 evT_nil⟩
 | .cons e (.cons e' es) => let r := evs_ok (.cons e' es); ⟨evs_cons (ev_ok e).1 r.1, evB_more (ev_ok e).1 (ev_ok e).2 r.2.1, evT_cons (ev_ok e).2 r.2.2⟩
end
end
section
variable (C : Cx) (g : Base) (envs : List Env) (env : Env)
def OkS (ρ : Env2) (s : Shared) (out : OutS) (f : Flow) (s' : Shared) : Prop := match out with
 | .next lv' hp' => ∃ ρ', St C g envs env ρ' lv' hp' s' /\ Ext ρ s.heap ρ' s'.heap /\ f = .next
 | .ret v lv' hp' => ∃ ρ', St C g envs env ρ' lv' hp' s' /\ Ext ρ s.heap ρ' s'.heap /\ ∃ w, f = .ret w /\ VRel ρ' s'.heap v w
 | .raise _ _ _ => False
def RsG (F : Env2 -> Heap -> Addr -> Prop) (ρ : Env2) (s : Shared) (out : OutS) (e : Value) (s' : Shared) : Prop := match out with
 | .raise i lv' hp' => ∃ ρ' x dx, St C g envs env ρ' lv' hp' s' /\ Ext ρ s.heap ρ' s'.heap /\ ρ'[i]? = some (x, dx) /\ (∃ c fs, hp'[i]? = some (.exc c fs)) /\ e = .ref x /\ F ρ' s'.heap x
 | _ => False
abbrev RsS (ρ : Env2) (s : Shared) (out : OutS) (e : Value) (s' : Shared) : Prop := RsG C g envs env (Fly g envs env) ρ s out e s'
end
def SdS (C : Cx) (A : Around) (envs : List Env) (env : Env) (lv : Loc) (m : Hp -> Option OutS) (t : Sem Flow) : Prop := ∀ (g : Base) (ρ : Env2) (hp : Hp) (s : Shared) (out : OutS), m hp = some out -> St C g envs env ρ lv hp s -> Han A s.heap ->
 wpX C.M A t (OkS C g envs env ρ s out) (RsS C g envs env ρ s out) s
section
variable (C : Cx) (d : Nat) (call : Bool -> Nat -> List V -> P V)
def ExOk (st : S) : Prop := ∀ (env : Env) (i : IT), okS C.toDt env.scope st i = true -> ∀ (hm : Bool) (outer : List Env) (A : Around) (lv : Loc), Here C hm d A (env :: outer) env -> isFn env = true ->
 SdS C A (env :: outer) env lv (exec C.T st ⟨hm, call⟩ lv) (PySem.exec (toS C.toDt st i) env)
def ExsOk (ss : Ss) : Prop := ∀ (env : Env) (is : List IT), okSs C.toDt env.scope ss is = true -> ∀ (hm : Bool) (outer : List Env) (A : Around) (lv : Loc), Here C hm d A (env :: outer) env -> isFn env = true ->
 SdS C A (env :: outer) env lv (execs C.T ss ⟨hm, call⟩ lv) (PySem.execs (toSs C.toDt ss is) env)
end
section
variable {C : Cx} {g : Base} {envs : List Env} {env : Env} {ρ ρ₀ : Env2} {lv : Loc} {hp : Hp} {s s₀ : Shared} {A : Around} {d : Nat} {call : Bool -> Nat -> List V -> P V}
theorem OkS.trans {out : OutS} {f : Flow} {s' : Shared} (X : Ext ρ₀ s₀.heap ρ s.heap) (z : OkS C g envs env ρ s out f s') : OkS C g envs env ρ₀ s₀ out f s' := by
 cases out with
 | next | ret => exact z.elim fun ρ' z => ⟨ρ', z.1, X.trans z.2.1, z.2.2⟩
 | raise => exact z
theorem RsG.trans {F : Env2 -> Heap -> Addr -> Prop} {out : OutS} {e : Value} {s' : Shared} (X : Ext ρ₀ s₀.heap ρ s.heap) (z : RsG C g envs env F ρ s out e s') : RsG C g envs env F ρ₀ s₀ out e s' := by
 cases out with
 | raise => exact z.elim fun ρ' z => z.elim fun x z => z.elim fun dx z => ⟨ρ', x, dx, z.1, X.trans z.2.1, z.2.2⟩
 | _ => exact z
theorem Pt.onG {α β : Type} {Rl : Env2 -> Heap -> α -> β -> Prop} {m : Option (Out α)} {k : α -> Hp -> Option OutS} {out : OutS} {t : Sem β} {Q : β -> Shared -> Prop} (p : Pt C A g envs env lv ρ₀ s₀ ρ hp s) (h : onV m lv k = some out)
  (h1 : ∀ out₁, m = some out₁ -> wpX C.M A t (OkA C g envs env Rl ρ lv s out₁) (RsV C g envs env ρ lv s out₁) s)
  (kk : ∀ v hp₁ w ρ₁ s₁, k v hp₁ = some out -> Pt C A g envs env lv ρ₀ s₀ ρ₁ hp₁ s₁ -> Ext ρ s.heap ρ₁ s₁.heap -> Rl ρ₁ s₁.heap v w -> Q w s₁) : wpX C.M A t Q (RsS C g envs env ρ₀ s₀ out) s := by
 cases m with
 | none => exact nn h
 | some o => cases o with
  | raise i hp' =>
   rw [<- Option.some.inj h]
   exact X_mono (h1 _ rfl) (fun w s₁ hw => hw.elim) fun e s' he => RsG.trans (F := Fly g envs env) (out := .raise i lv hp') p.X he
  | ok v hp₁ => exact X_mono (h1 _ rfl) (fun w s₁ hw => hw.elim fun ρ₁ z => kk v hp₁ w ρ₁ s₁ h ⟨z.1, p.X.trans z.2.1, p.Hh.mono z.2.1.st⟩ z.2.1 z.2.2) fun e s' he => he.elim
theorem Pt.on {α β : Type} {Rl : Env2 -> Heap -> α -> β -> Prop} {m : P α} {k : α -> Hp -> Option OutS} {out : OutS} {t : Sem β} {Q : β -> Shared -> Prop} (p : Pt C A g envs env lv ρ₀ s₀ ρ hp s) (d : Sd C A envs env lv Rl m t) (h : onV (m hp) lv k = some out)
  (kk : ∀ v hp₁ w ρ₁ s₁, k v hp₁ = some out -> Pt C A g envs env lv ρ₀ s₀ ρ₁ hp₁ s₁ -> Ext ρ s.heap ρ₁ s₁.heap -> Rl ρ₁ s₁.heap v w -> Q w s₁) : wpX C.M A t Q (RsS C g envs env ρ₀ s₀ out) s :=
 p.onG h (fun _ q => d g ρ hp s _ q p.S p.Hh) kk
theorem Pt.flow {m : Hp -> Option OutS} {k : Loc -> Hp -> Option OutS} {out : OutS} {t : Sem Flow} {Q : Flow -> Shared -> Prop} (p : Pt C A g envs env lv ρ₀ s₀ ρ hp s) (d : SdS C A envs env lv m t) (h : seqS (m hp) k = some out)
  (h2 : ∀ lv₁ hp₁ ρ₁ s₁, k lv₁ hp₁ = some out -> Pt C A g envs env lv₁ ρ₀ s₀ ρ₁ hp₁ s₁ -> Q .next s₁)
  (h3 : ∀ w s', OkS C g envs env ρ₀ s₀ out (.ret w) s' -> Q (.ret w) s') : wpX C.M A t Q (RsS C g envs env ρ₀ s₀ out) s := by
 have d := d g ρ hp s
 cases q : m hp with
 | none => rw [q] at h; exact nn h
 | some o =>
  rw [q] at h
  have d := d o q p.S p.Hh
  cases o with
  | next lv₁ hp₁ => exact X_mono d (fun f s₁ z => z.elim fun ρ₁ z => by rw [z.2.2]; exact h2 lv₁ hp₁ ρ₁ s₁ h ⟨z.1, p.X.trans z.2.1, p.Hh.mono z.2.1.st⟩) fun e s' z => z.elim
  | ret v lv₁ hp₁ =>
   rw [<- Option.some.inj h] at h3 ⊢
   refine X_mono d (fun f s₁ z => ?_) fun e s' z => z.elim
   obtain ⟨ρ₁, S₁, X₁, w, rfl, r⟩ := z
   exact h3 w s₁ ⟨ρ₁, S₁, p.X.trans X₁, w, rfl, r⟩
  | raise i lv₁ hp₁ =>
   rw [<- Option.some.inj h]
   exact X_mono d (fun f s₁ z => z.elim) fun e s' z => RsG.trans (F := Fly g envs env) (out := .raise i lv₁ hp₁) p.X z
theorem Pt.runS {m : Hp -> Option OutS} {out : OutS} {t : Sem Flow} (p : Pt C A g envs env lv ρ₀ s₀ ρ hp s) (d : SdS C A envs env lv m t) (h : m hp = some out) : wpX C.M A t (OkS C g envs env ρ₀ s₀ out) (RsS C g envs env ρ₀ s₀ out) s :=
 X_mono (d g ρ hp s out h p.S p.Hh) (fun _ _ => OkS.trans p.X) fun _ _ => RsG.trans p.X
theorem Pt.next {lv' : Loc} {hp' : Hp} {out : OutS} (p : Pt C A g envs env lv ρ₀ s₀ ρ hp s) {s' : Shared} (h : some (OutS.next lv' hp') = some out) (S : St C g envs env ρ lv' hp' s') (X : Stable s.heap s'.heap) : OkS C g envs env ρ₀ s₀ out .next s' := by
 rw [<- Option.some.inj h]; exact ⟨ρ, S, p.X.trans ⟨List.prefix_refl _, X⟩, rfl⟩
theorem Pt.same {out : OutS} (p : Pt C A g envs env lv ρ₀ s₀ ρ hp s) (h : some (OutS.next lv hp) = some out) : OkS C g envs env ρ₀ s₀ out .next s := p.next h p.S (.refl _)
theorem notInteractive (hk : env.scope.kind = .function) : interactive env = false := by
 unfold interactive; rw [hk]; rfl
theorem isComp_none (D : Dt) {e : E} (h : isCompE e = false) (i : IT) (t : Option Expr) (l : Nat) (env : Env) : swapsWith (toX D e i) t l env = pure false := by
 cases e <;> first | rfl | exact Bool.noConfusion (show true = false from h)
theorem not_eq {b : Bool} (h : (!b) = true) : b = false := (Bool.not_eq_true' b).mp h
theorem ex_expr {e : E} (ie : ∀ hm, EvOk C d ⟨hm, call⟩ e) : ExOk C d call (.expr e) := fun env i hm hmode outer A lv H hf g ρ hp s out h S Hh => by
 show wpX C.M A (PySem.exec (.Expr (toX C.toDt e (i.kid 0)) i.pos) env) _ _ s
 rw [arm_exec_Expr]
 refine X_at ?_
 rw [if_neg (by rw [notInteractive H.fk]; exact Bool.false_ne_true), isComp_none _ (not_eq (and2 hm).1)]
 refine X_bind (X_pure (X_if_false rfl (X_bind ((Pt.start S Hh).on (ie hmode env _ (and2 hm).2 _ A lv H) h fun v hp₁ w ρ₁ s₁ h₁ p₁ _ rv => ?_))))
 obtain ⟨q, h₁⟩ := ite_some h₁
 obtain rfl := isNone_eq q
 obtain rfl : w = Value.none := rv
 rw [dropValue_plain (fun a q => by cases q)]
 exact X_pure (p₁.same h₁)
theorem ex_ret {e : E} (ie : ∀ hm, EvOk C d ⟨hm, call⟩ e) : ExOk C d call (.ret e) := fun env i hm hmode outer A lv H hf g ρ hp s out h S Hh => by
 show wpX C.M A (PySem.exec (.Return (some (toX C.toDt e (i.kid 0))) i.pos) env) _ _ s
 rw [arm_exec_Return]
 refine X_at ?_
 show wpX _ _ (eval (toX C.toDt e (i.kid 0)) env >>= fun v => pure (Flow.ret v)) _ _ _
 refine X_bind ((Pt.start S Hh).on (ie hmode env _ hm _ A lv H) h fun v hp₁ w ρ₁ s₁ h₁ p₁ _ rv => X_pure ?_)
 rw [<- Option.some.inj h₁]
 exact ⟨ρ₁, p₁.S, p₁.X, w, rfl, rv⟩
theorem ex_ite {t : E} {b o : Ss} (it : ∀ hm, TrOk C d ⟨hm, call⟩ t) (ib : ExsOk C d call b) (io : ExsOk C d call o) : ExOk C d call (.ite t b o) := fun env i hm hmode outer A lv H hf g ρ hp s out h S Hh => by
 show wpX C.M A (PySem.exec (.If (toX C.toDt t (i.kid 0)) (toSs C.toDt b (i.kid 1).kids) (toSs C.toDt o (i.kid 2).kids) i.pos) env) _ _ s
 rw [arm_exec_If]
 refine X_at (X_bind ((Pt.start S Hh).on (it hmode env _ (and2 hm).1 _ A lv H) h fun c hp₁ w ρ₁ s₁ h₁ p₁ _ rv => ?_))
 rw [show w = c from rv]
 cases c with
 | true => exact p₁.runS (ib env _ (and2 (and2 hm).2).1 hmode outer A lv H hf) h₁
 | false => exact p₁.runS (io env _ (and2 (and2 hm).2).2 hmode outer A lv H hf) h₁
theorem exs_nil : ExsOk C d call .nil := fun env is hm hmode outer A lv H hf g ρ hp s out h S Hh => X_pure ((Pt.start S Hh).same h)
theorem exs_cons {a : S} {r : Ss} (ia : ExOk C d call a) (ir : ExsOk C d call r) : ExsOk C d call (.cons a r) := fun env is hm hmode outer A lv H hf g ρ hp s out h S Hh => by
 show wpX C.M A (PySem.execs (toS C.toDt a (is.headD .nil) :: toSs C.toDt r is.tail) env) _ _ s
 rw [arm_execs_cons]
 exact X_bind ((Pt.start S Hh).flow (ia env _ (and2 hm).1 hmode outer A lv H hf) h (fun lv₁ hp₁ ρ₁ s₁ h₁ p₁ => p₁.runS (ir env _ (and2 hm).2 hmode outer A lv₁ H hf) h₁) fun w s' z => X_pure z)
end
section
variable {C : Cx} {g : Base} {envs : List Env} {env : Env} {ρ ρ₀ : Env2} {lv : Loc} {hp : Hp} {s s₀ : Shared} {A : Around} {d : Nat} {call : Bool -> Nat -> List V -> P V}
theorem bind_name {E : Value -> Shared -> Prop} (N : NmOk C.toDt) (S : St C g envs env ρ lv hp s) (hk : env.scope.kind = .function) (hf : isFn env = true) {y : Nat} {v : V} {w : Value} (ho : locOk env.scope (C.nm y) = true) (rv : VRel ρ s.heap v w) {Q : Unit -> Shared -> Prop}
  (h : ∀ s', St C g envs env ρ (setL y v lv) hp s' -> Stable s.heap s'.heap -> Q () s') : wpX C.M A (bindName env (C.nm y) w) Q E s :=
 X_storeName (wpX_any (store_name N.inj S hk ((locOk_kind ho).imp id fun q => ⟨hf, q⟩) rv h))
theorem assign_name {E : Value -> Shared -> Prop} (N : NmOk C.toDt) (S : St C g envs env ρ lv hp s) (hk : env.scope.kind = .function) (hf : isFn env = true) {y : Nat} {pos : Pos} {v : V} {w : Value} (ho : locOk env.scope (C.nm y) = true) (rv : VRel ρ s.heap v w) {Q : Unit -> Shared -> Prop}
  (h : ∀ s', St C g envs env ρ (setL y v lv) hp s' -> Stable s.heap s'.heap -> Q () s') : wpX C.M A (assign (.Name (C.nm y) pos) env w) Q E s := by
 rw [arm_assign_Name]
 exact X_at (bind_name N S hk hf ho rv h)
theorem ev_thenUse (XO : CxOk C) (XE : ExcMk C) (CO : CallOk C d call) {e : E} {hm : Bool} {i : IT} (hme : okE C.toDt env.scope e i = true) (hc : isCompE e = true) {out : Out V} (h : ev C.T ⟨hm, call⟩ e lv hp = some out) (H : Here C hm d A envs env) (S : St C g envs env ρ lv hp s) (Hh : Han A s.heap)
  {u : Value -> Sem Unit} {lw : V -> Loc} {Q : Unit -> Shared -> Prop}
  (hU : ∀ (g' : Base) (ρ' : Env2) (hp' : Hp) (v : V) (w : Value) (s' : Shared), St C g' envs env ρ' lv hp' s' -> VRel ρ' s'.heap v w -> wpX C.M A (u w) (fun _ s'' => St C g' envs env ρ' (lw v) hp' s'' /\ Stable s'.heap s''.heap) (fun _ _ => False) s')
  (hQ : ∀ v hp' ρ' s', out = .ok v hp' -> St C g envs env ρ' (lw v) hp' s' -> Ext ρ s.heap ρ' s'.heap -> Q () s') :
  wpX C.M A (evalThenUse (toX C.toDt e i) env u) Q (RsV C g envs env ρ lv s out) s := by
 cases e with
 | comp elt y it cs =>
  show wpX C.M A (evalThenUse (.ListComp (toX C.toDt elt (i.kid 0)) [⟨.Name (C.nm y) (i.kid 1).pos, toX C.toDt it (i.kid 2), toXs C.toDt cs i.kids.tail.tail.tail, 0⟩] i.sc i.pos) env u) _ _ s
  rw [arm_evalThenUse_ListComp]
  exact X_bind (ev_use XO (ev_ok (x := ⟨hm, call⟩) XO XE CO elt).1 (ev_ok (x := ⟨hm, call⟩) XO XE CO it).1 (evs_ok (x := ⟨hm, call⟩) XO XE CO cs).2.2 hme H h S Hh (some u) (lw := lw) ⟨hU, fun v hp' ρ' s' e1 e2 e3 => X_pure (hQ v hp' ρ' s' e1 e2 e3)⟩)
 | _ => exact Bool.noConfusion (show false = true from hc)
theorem swap_name (D : Dt) (e : E) (i : IT) (n : Str) (p : Pos) (l : Nat) (env : Env) : ∃ b, swapsWith (toX D e i) (some (.Name n p)) l env = pure b /\ (b = true -> isCompE e = true) := by
 cases e <;> first | exact ⟨_, rfl, fun _ => rfl⟩ | exact ⟨false, rfl, fun q => nomatch q⟩
theorem swap_attr (D : Dt) (e : E) (i : IT) (o : Expr) (n : Str) (p : Pos) (l : Nat) (env : Env) : swapsWith (toX D e i) (some (.Attribute o n p)) l env = pure false := by
 cases e <;> rfl
theorem ex_assign1 (XO : CxOk C) (XE : ExcMk C) (CO : CallOk C d call) {y : Nat} {e : E} : ExOk C d call (.assign (.one y) e) := fun env i hm hmode outer A lv H hf g ρ hp s out h S Hh => by
 obtain ⟨ho, hm⟩ := and2 hm
 have hm := (and2 hm).2
 show wpX C.M A (PySem.exec (.Assign [.Name (C.nm y) (i.kid 0).pos] (toX C.toDt e (i.kid 1)) i.pos) env) _ _ s
 rw [arm_exec_Assign]
 refine X_at ?_
 have plain : wpX C.M A (eval (toX C.toDt e (i.kid 1)) env >>= fun v => swappedStores [.Name (C.nm y) (i.kid 0).pos] (toX C.toDt e (i.kid 1)) env >>= fun r => assignStores env v r ((assignEach [.Name (C.nm y) (i.kid 0).pos] env).map (·.2))) (OkS C g (env :: outer) env ρ s out) (RsS C g (env :: outer) env ρ s out) s := by
  refine X_bind ((Pt.start S Hh).on ((ev_ok (x := ⟨hmode, call⟩) XO XE CO e).1 env _ hm _ A lv H) h fun v hp₁ w ρ₁ s₁ h₁ p₁ _ rv => ?_)
  refine X_bind (X_pure ?_)
  show wpX C.M A (assign (.Name (C.nm y) (i.kid 0).pos) env w >>= fun _ => pure Flow.next) _ _ s₁
  exact X_bind (assign_name XO.nm p₁.S H.fk hf ho rv fun s' S' st => X_pure (p₁.next h₁ S' st))
 obtain ⟨b, hb, hc⟩ := swap_name C.toDt e (i.kid 1) (C.nm y) (i.kid 0).pos i.pos.line env
 show wpX C.M A (swapsWith (toX C.toDt e (i.kid 1)) (some (.Name (C.nm y) (i.kid 0).pos)) i.pos.line env >>= _) _ _ s
 rw [hb]
 refine X_bind (X_pure ?_)
 cases b with
 | false => exact plain
 | true =>
  refine X_if_true rfl ?_
  have h : onV (ev C.T ⟨hmode, call⟩ e lv hp) lv (kAssign (.one y) lv) = some out := h
  cases q : ev C.T ⟨hmode, call⟩ e lv hp with
  | none => rw [q] at h; exact nn h
  | some o =>
   rw [q] at h
   refine X_bind (X_mono (ev_thenUse XO XE CO (lw := fun v => setL y v lv) (Q := fun _ s' => wpX C.M A (pure Flow.next) (OkS C g (env :: outer) env ρ s out) (RsS C g (env :: outer) env ρ s out) s') hm (hc rfl) q H S Hh (fun g' ρ' hp' v w s' S' rv => assign_name XO.nm S' H.fk hf ho rv fun s'' S'' st => ⟨S'', st⟩) fun v hp' ρ' s' e1 e2 e3 => ?_) (fun _ _ z => z) fun e s' z => ?_)
   ·rw [e1] at h
    rw [<- Option.some.inj h]
    exact X_pure ⟨ρ', e2, e3, rfl⟩
   ·cases o with
    | ok => exact z.elim
    | raise => rw [<- Option.some.inj h]; exact z
theorem inst?_eq {o : O} {p : Nat × List (Nat × V)} (h : o.inst? = some p) : o = .inst p.1 p.2 := by
 cases o <;> first | exact nn h | (cases h; rfl)
theorem ex_assignA (XO : CxOk C) {o e : E} {a : Nat} (io : ∀ hm, EvOk C d ⟨hm, call⟩ o) (ie : ∀ hm, EvOk C d ⟨hm, call⟩ e) : ExOk C d call (.assignA o a e) := fun env i hm hmode outer A lv H hf g ρ hp s out h S Hh => by
 obtain ⟨ha, hm⟩ := and2 hm
 show wpX C.M A (PySem.exec (.Assign [.Attribute (toX C.toDt o ((i.kid 0).kid 0)) (C.nm a) (i.kid 0).pos] (toX C.toDt e (i.kid 1)) i.pos) env) _ _ s
 rw [arm_exec_Assign]
 refine X_at ?_
 show wpX C.M A (swapsWith (toX C.toDt e (i.kid 1)) (some (.Attribute (toX C.toDt o ((i.kid 0).kid 0)) (C.nm a) (i.kid 0).pos)) i.pos.line env >>= _) _ _ s
 rw [swap_attr]
 refine X_bind (X_pure (X_if_false rfl ?_))
 refine X_bind ((Pt.start S Hh).on (ie hmode env _ (and2 hm).2 _ A lv H) h fun v hp₁ w ρ₁ s₁ h₁ p₁ _ rv => ?_)
 refine X_bind (X_pure ?_)
 show wpX C.M A (assign (.Attribute (toX C.toDt o ((i.kid 0).kid 0)) (C.nm a) (i.kid 0).pos) env w >>= fun _ => pure Flow.next) _ _ s₁
 rw [arm_assign_Attribute]
 refine X_bind (X_bind (X_holding (p₁.on (io hmode env _ (and2 hm).1 _ A lv H) h₁ fun v₂ hp₂ w₂ ρ₂ s₂ h₂ p₂ X₂ rv₂ => ?_)))
 refine X_at (X_bind (X_holding ?_))
 refine cps fun G_ f_ => ?_
 obtain ⟨j, ej, h₂⟩ := Option.bind_eq_some_iff.mp h₂
 obtain ⟨⟨c, fs⟩, ec, h₂⟩ := Option.bind_eq_some_iff.mp h₂
 obtain ⟨o', eo, ec⟩ := Option.bind_eq_some_iff.mp ec
 obtain ⟨qz, h₂⟩ := ite_some h₂
 obtain ⟨x, dx, rfl, hi⟩ := rv₂.ref ej
 refine f_ ?_
 clear f_ G_
 exact wpX_any (setA_ok XO.toCxCls p₂.S hi (rv.ext X₂) ha (inst?_eq ec ▸ eo) qz fun s₃ S₃ X₃ => X_release (X_pure (p₂.next h₂ S₃ X₃.st)))
end
section
variable {C : Cx} {g : Base} {envs : List Env} {env : Env} {ρ ρ₀ : Env2} {lv : Loc} {hp : Hp} {s s₀ : Shared} {A : Around} {d : Nat} {call : Bool -> Nat -> List V -> P V} {E : Value -> Shared -> Prop}
theorem tuple_end {it t : Addr} {i : Nat} {items : Array Value} {Q : Option Value -> Shared -> Prop} (H : Han A s.heap) (hit : s.heap.IsTupleIter it t i) (ht : s.heap.IsTuple t items) (hx : items[i]? = none)
  (hQ : ∀ h', Heap.ExtBut it s.heap h' -> Q none { s with heap := h' }) : wpAny C.M A (pyNext (.ref it)) Q E s := by
 obtain ⟨o, ho, hc, hd⟩ := id hit
 obtain ⟨ol, hol, _, nl, hdl⟩ := ht
 unfold pyNext
 refine wpAny_bind (wpAny_attempt (wpAny_callSpecial?_slot (name := Str.ofString "__next__") hit.typeIs F.slot_tuple_iterator_next
  (wpAny_call_entry F.slot_tuple_iterator_next hit.typeIs F.entry_tuple_iterator_next ?_ (F.args_tuple_iterator_next_1 _))))
 show wpAny _ _ (field (.ref it) 0 >>= _) _ _ s
 refine wpAny_bind (wpAny_field ho hd (x := .ref t) rfl ?_)
 show wpAny _ _ (if (Value.ref t == Value.none) = true then _ else _) _ _ s
 rw [if_neg (show ¬ ((Value.ref t == Value.none) = true) from Bool.false_ne_true)]
 show wpAny _ _ (field (.ref it) 1 >>= _) _ _ s
 refine wpAny_bind (wpAny_field ho hd (x := .int i 0) rfl ?_)
 show wpAny _ _ (seqItems? (.ref t) >>= _) _ _ s
 refine wpAny_bind (wpAny_seqItems hol hdl ?_)
 dsimp only
 rw [Int.toNat_natCast, hx]
 refine wpAny_bind (wpAny_rule (wpAny_bind (wpAny_setField ho hd (Nat.zero_lt_succ 1) ?_)))
 have hsb := Heap.SameBut.update s.heap it (Obj.mapFields (·.setIfInBounds 0 .none))
 have H' : Han A (s.heap.update it (Obj.mapFields (·.setIfInBounds 0 .none))) := H.extBut (fun o' e => some_uniq e ho ▸ excLike_type hc) hsb.extBut
 refine stop_any (A := A.in1) (s := { s with heap := _ }) H' fun h' e e1 e2 => ?_
 obtain ⟨oe, e3, e4⟩ := e2
 refine wpAny_bind (wpAny_isInstance (T := "StopIteration") (b := true) ⟨oe, e3, e4⟩ isSubtype_stop ?_)
 exact wpAny_pure (hQ _ fun b o hb e => e1 b o (hsb.extBut b o hb e))
theorem draw_tuple {I t : Addr} {ws : List Value} (hIt : t ≠ I) : ∀ (k i : Nat) (s : Shared) (Q : List Value -> Shared -> Prop), i + k = ws.length -> s.heap.IsTupleIter I t i -> s.heap.IsTuple t ws.toArray ->
  (∀ h', h'.IsTupleIter I t ws.length -> Heap.SameBut I s.heap h' -> Q (ws.drop i) { s with heap := h' }) -> wpAny C.M A (draw (.ref I) k) Q E s
 | 0, i, s, Q, hk, hi, ht, hQ => by
  rw [List.drop_eq_nil_of_le (show ws.length <= i from Nat.le_of_eq hk.symm)] at hQ
  exact wpAny_pure (hQ s.heap (hk ▸ hi) (Heap.SameBut.refl ..))
 | k + 1, i, s, Q, hk, hi, ht, hQ => by
  have hlt : i < ws.length := hk ▸ Nat.lt_add_of_pos_right (Nat.succ_pos k)
  rw [draw]
  refine wpAny_bind (wpAny_pyNext_tuple_item (items := ws.toArray) (x := ws[i]) hi ht (by rw [List.getElem?_toArray, List.getElem?_eq_getElem hlt]) fun h' hi' hs => ?_)
  refine wpAny_bind (wpAny_holding (draw_tuple hIt k (i + 1) { s with heap := h' } _ ((Nat.succ_add_eq_add_succ i k).trans hk) hi' (ht.extBut hs.extBut hIt) fun h'' hi'' hs'' => ?_))
  rw [<- List.drop_eq_getElem_cons hlt]
  exact wpAny_pure (hQ h'' hi'' (hs.trans hs''))
theorem unpack_ok (S : St C g envs env ρ lv hp s) (Hh : Han A s.heap) {vs : List V} {w : Value} {n : Nat} (rv : VRel ρ s.heap (.tup vs) w) (hn : vs.length = n) {Q : List Value -> Shared -> Prop}
  (hQ : ∀ h' ws, (∀ b o, s.heap.get? b = some o -> h'.get? b = some o) -> VRels ρ h' vs ws -> Q ws { s with heap := h' }) : wpAny C.M A (unpackItems w n none) Q E s := by
 obtain ⟨a, ws, rfl, ⟨o, ho, hc, m, hd⟩, hs⟩ := rv
 have hT : s.heap.IsTuple a ws.toArray := ⟨o, ho, hc, m, hd⟩
 have hlen : ws.length = n := hs.length.trans hn
 have k1 : ∀ b ob, s.heap.get? b = some ob -> (s.heap.push { cls := .type "tuple_iterator", data := .fields #[.ref a, .int 0 0] }).get? b = some ob := fun b ob e => Heap.get?_push_of_some _ e
 have hne : a ≠ s.heap.objs.size := Nat.ne_of_lt (Heap.lt_size ho)
 unfold unpackItems notIterableAtAll
 refine wpAny_bind (wpAny_bind (wpAny_specialOf hT.typeIs F.slot_tuple_iter.lookup (wpAny_pure ?_)))
 refine bm_if_false rfl (wpAny_bind (wpAny_holding (wpAny_pyIter_tuple hT ?_)))
 dsimp only
 refine wpAny_bind (wpAny_holding (draw_tuple (ws := ws) hne n 0 { s with heap := _ } _ ((Nat.zero_add n).trans hlen.symm) ⟨_, Heap.get?_push_size _ rfl, rfl, rfl⟩ (hT.push _) fun h' hi hsb => ?_))
 rw [List.drop_zero, if_neg (Nat.not_lt_of_le (Nat.le_of_eq hlen.symm))]
 have kk : ∀ b ob, s.heap.get? b = some ob -> h'.get? b = some ob := fun b ob e => (hsb.2 b (Nat.ne_of_lt (Heap.lt_size e))).trans (k1 b ob e)
 refine wpAny_bind (wpAny_holding (tuple_end (s := { s with heap := h' }) (Hh.mono (stable_of_keeps kk)) hi ((hT.push _).extBut hsb.extBut hne) (by rw [List.getElem?_toArray, List.getElem?_eq_none (Nat.le_refl _)]) fun h'' he => ?_))
 have k2 : ∀ b ob, s.heap.get? b = some ob -> h''.get? b = some ob := fun b ob e => he b ob (Nat.ne_of_lt (Heap.lt_size e)) (kk b ob e)
 exact bm_if_false rfl (wpAny_pure (hQ h'' ws k2 (hs.mono (List.prefix_refl _) (stable_of_keeps k2))))
noncomputable def setAll (l : List (Nat × V)) (lv : Loc) : Loc := l.foldl (fun lv q => setL q.1 q.2 lv) lv
def Fit (C : Cx) (A : Around) (E : Value -> Shared -> Prop) (g : Base) (envs : List Env) (env : Env) (ρ : Env2) (hp : Hp) (x : Nat) (f : Value -> Sem Unit) : Prop := ∀ (lv : Loc) (s : Shared) (v : V) (w : Value) (Q : Unit -> Shared -> Prop), St C g envs env ρ lv hp s -> VRel ρ s.heap v w -> (∀ s', St C g envs env ρ (setL x v lv) hp s' -> Stable s.heap s'.heap -> Q () s') -> wpX C.M A (f w) Q E s
def Fits (C : Cx) (A : Around) (E : Value -> Shared -> Prop) (g : Base) (envs : List Env) (env : Env) (ρ : Env2) (hp : Hp) : List Nat -> List (Value -> Sem Unit) -> Prop
 | [], fs => fs = []
 | x :: xs, fs => ∃ f r, fs = f :: r /\ Fit C A E g envs env ρ hp x f /\ Fits C A E g envs env ρ hp xs r
theorem assign_all : ∀ (xs : List Nat) (vs : List V) (fs : List (Value -> Sem Unit)) (ws : List Value) (lv : Loc) (s : Shared), vs.length = xs.length -> Fits C A E g envs env ρ hp xs fs ->
  St C g envs env ρ lv hp s -> VRels ρ s.heap vs ws -> ∀ Q : Unit -> Shared -> Prop, (∀ s', St C g envs env ρ (setAll (xs.zip vs) lv) hp s' -> Stable s.heap s'.heap -> Q () s') -> wpX C.M A (assignInOrder fs ws) Q E s
 | [], [], fs, ws, lv, s, _, hf, S, rv, Q, hQ => by
  rw [show fs = [] from hf, show ws = [] from rv]
  exact X_pure (hQ s S (Stable.refl _))
 | x :: xs, v :: vs, fs, ws, lv, s, hl, hf, S, rv, Q, hQ => by
  obtain ⟨f, fs, rfl, h1, h2⟩ := hf
  obtain ⟨w, ws, rfl, hv, hs⟩ := rv
  exact X_bind (X_holding (h1 lv s v w _ S hv fun s' S' st => assign_all xs vs fs ws (setL x v lv) s' (Nat.succ.inj hl) h2 S' (hs.mono (List.prefix_refl _) st) Q fun s'' S'' st' => hQ s'' S'' (st.trans st')))
 | [], _ :: _, _, _, _, _, hl, _, _, _, _, _ => nomatch hl
 | _ :: _, [], _, _, _, _, hl, _, _, _, _, _ => nomatch hl
theorem fits_names (N : NmOk C.toDt) (hk : env.scope.kind = .function) (hf : isFn env = true) : ∀ (xs : List Nat) (is : List IT), (xs.all fun x => locOk env.scope (C.nm x)) = true -> Fits C A E g envs env ρ hp xs ((toNs C.toDt xs is).map fun t => assign t env)
 | [], _, _ => rfl
 | x :: xs, is, h => ⟨_, _, rfl, fun lv s v w Q S rv hQ => assign_name N S hk hf (and2 (List.all_cons ▸ h)).1 rv hQ, fits_names N hk hf xs is.tail (and2 (List.all_cons ▸ h)).2⟩
theorem fits_binds (N : NmOk C.toDt) (hk : env.scope.kind = .function) (hf : isFn env = true) : ∀ (xs : List Nat), (∀ x ∈ xs, locOk env.scope (C.nm x) = true) -> Fits C A E g envs env ρ hp xs ((xs.map C.nm).map fun n => bindName env n)
 | [], _ => rfl
 | x :: xs, h => ⟨_, _, rfl, fun lv s v w Q S rv hQ => bind_name N S hk hf (h x List.mem_cons_self) rv hQ, fits_binds N hk hf xs fun y hy => h y (List.mem_cons_of_mem _ hy)⟩
theorem len_toNs (D : Dt) : ∀ (xs : List Nat) (is : List IT), (toNs D xs is).length = xs.length
 | [], _ => rfl
 | _ :: xs, is => congrArg (· + 1) (len_toNs D xs is.tail)
theorem each_names (D : Dt) : ∀ (xs : List Nat) (is : List IT), assignEach (toNs D xs is) env = (toNs D xs is).map fun t => (false, assign t env)
 | [], _ => rfl
 | x :: xs, is => congrArg (_ :: ·) (each_names D xs is.tail)
theorem findIdx_false : ∀ (ts : List Expr), (ts.map fun t => (false, assign t env)).findIdx? (·.1) = none
 | [] => rfl
 | t :: ts => by rw [List.map_cons, List.findIdx?_cons, if_neg Bool.false_ne_true, findIdx_false ts]; rfl
theorem assign_target (N : NmOk C.toDt) (S : St C g envs env ρ lv hp s) (Hh : Han A s.heap) (hk : env.scope.kind = .function) (hf : isFn env = true) {t : Tg} {i : IT} (hm : okTg C.toDt env.scope t = true) {v : V} {w : Value} {lv' : Loc} (h : assignT t v lv = some lv') (rv : VRel ρ s.heap v w) {Q : Unit -> Shared -> Prop}
  (hQ : ∀ s', St C g envs env ρ lv' hp s' -> Stable s.heap s'.heap -> Q () s') : wpX C.M A (assign (toTg C.toDt t i) env w) Q E s := by
 cases t with
 | one y =>
  rw [<- Option.some.inj h] at hQ
  exact assign_name N S hk hf hm rv hQ
 | many xs =>
  obtain ⟨vs, ev, h⟩ := Option.bind_eq_some_iff.mp h
  obtain ⟨hlen, h⟩ := ite_some h
  rw [<- Option.some.inj h] at hQ
  rw [tup?_eq ev] at rv
  show wpX C.M A (assign (.Tuple (toNs C.toDt xs i.kids) i.k i.pos) env w) Q E s
  rw [arm_assign_Tuple]
  refine X_at ?_
  rw [each_names]
  unfold unpack
  rw [findIdx_false]
  refine X_bind (X_holding (wpX_any (unpack_ok S Hh rv (by rw [List.length_map, len_toNs]; exact hlen) fun h' ws kk rvs => ?_)))
  rw [List.map_map]
  exact assign_all xs vs _ ws lv { s with heap := h' } hlen (fits_names N hk hf xs i.kids (and2 hm).2) (S.grow kk s.toks) rvs Q fun s'' S'' st' => hQ s'' S'' ((stable_of_keeps kk).trans st')
end
theorem ite2 {α β : Type} {c : Prop} [Decidable c] {x : Option (Option α)} {y b : Sem (Option α)} {r : Option α} (h : (if c then some none else x) = some r) (k : x = some r -> y = pure r) : (if c then pure none else y) = pure r := by
 by_cases q : c
 ·rw [if_pos q] at h ⊢; rw [Option.some.inj h]
 ·rw [if_neg q] at h ⊢; exact k h
theorem swapped_tup {env : Env} {ts vs : List Expr} {k k' : Nat} {p p' : Pos} (hk : env.scope.kind = .function) {r : Option (List Str)} (h : swapR (fun n => env.scope.names.lookup n) ts vs = some r) : swappedStores [.Tuple ts k p] (.Tuple vs k' p') env = pure r := by
 have hb : (env.blockKind != .function) = false := by unfold Env.blockKind; rw [hk]; rfl
 unfold swappedStores
 dsimp only
 rw [hb, Bool.or_false]
 refine ite2 (β := Unit) (b := pure none) h fun h => ite2 (β := Unit) (b := pure none) h fun h => ite2 (β := Unit) (b := pure none) h fun h => ite2 (β := Unit) (b := pure none) h fun h => ?_
 obtain ⟨q, h⟩ := ite_none h
 rw [<- Option.some.inj h]
 exact if_neg (Bool.eq_false_iff.mp q)
theorem swapped_eq {D : Dt} {env : Env} {ts : List Expr} {k : Nat} {p : Pos} {e : E} {j : IT} (hk : env.scope.kind = .function) {r : Option (List Str)} (h : swapE D (fun n => env.scope.names.lookup n) ts e j = some r) : swappedStores [.Tuple ts k p] (toX D e j) env = pure r := by
 cases e with
 | tup es => exact swapped_tup hk h
 | _ => rw [<- Option.some.inj h]; rfl
theorem swOk_some {l : List Str} {r : Option (Option (List Str))} (h : swOk l r = true) : r = some none \/ r = some (some l) := by
 cases r with
 | none => exact Bool.noConfusion (show false = true from h)
 | some r => cases r with
  | none => exact .inl rfl
  | some l' => exact .inr (by rw [eq_of_beq (show (l' == l) = true from h)])
theorem mem_zip {xs : List Nat} {vs : List V} (h : vs.length = xs.length) : (xs.zip vs).map (·.1) = xs := List.map_fst_zip (Nat.le_of_eq h.symm)
theorem setAll_app (l r : List (Nat × V)) (lv : Loc) : setAll (l ++ r) lv = setAll r (setAll l lv) := List.foldl_append
theorem setAll_lookup (x : Nat) (v : V) (i : Nat) : ∀ (l : List (Nat × V)) (lv : Loc), x ∉ l.map (·.1) -> (setAll l (setL x v lv)).lookup i = if i = x then some v else (setAll l lv).lookup i
 | [], lv, _ => Rel.lookup_set i
 | (y, u) :: r, lv, h => by
  have hne : x ≠ y := fun q => h (q ▸ List.mem_cons_self)
  have hr : x ∉ r.map (·.1) := fun q => h (List.mem_cons_of_mem _ q)
  have c : ∀ j, (setL y u (setL x v lv)).lookup j = (setL x v (setL y u lv)).lookup j := fun j => by
   rw [Rel.lookup_set, Rel.lookup_set, Rel.lookup_set, Rel.lookup_set]
   by_cases q : j = y
   ·rw [if_pos q, if_neg (fun z => hne (z.symm.trans q)), if_pos q]
   ·rw [if_neg q, if_neg q]
  exact (congr r _ _ c i).trans (setAll_lookup x v i r (setL y u lv) hr)
where
 congr : ∀ (l : List (Nat × V)) (a b : Loc), (∀ j, a.lookup j = b.lookup j) -> ∀ i, (setAll l a).lookup i = (setAll l b).lookup i
  | [], _, _, h, i => h i
  | p :: l, a, b, h, i => congr l (setL p.1 p.2 a) (setL p.1 p.2 b) (fun j => by rw [Rel.lookup_set, Rel.lookup_set, h j]) i
theorem setAll_reverse (i : Nat) : ∀ (l : List (Nat × V)) (lv : Loc), (l.map (·.1)).Nodup -> (setAll l lv).lookup i = (setAll l.reverse lv).lookup i
 | [], _, _ => rfl
 | (x, v) :: r, lv, h => by
  obtain ⟨h1, h2⟩ := List.nodup_cons.mp h
  rw [List.reverse_cons, setAll_app]
  show (setAll r (setL x v lv)).lookup i = (setL x v (setAll r.reverse lv)).lookup i
  rw [setAll_lookup x v i r lv h1, Rel.lookup_set, setAll_reverse i r lv h2]
theorem zip_reverse {xs : List Nat} {vs : List V} (h : vs.length = xs.length) : xs.reverse.zip vs.reverse = (xs.zip vs).reverse := (List.reverse_zipWith h.symm).symm
theorem VRels.reverse {ρ : Env2} {h : Heap} : ∀ {vs : List V} {ws : List Value}, VRels ρ h vs ws -> VRels ρ h vs.reverse ws.reverse
 | [], _, x => by rw [show _ = [] from x]; rfl
 | v :: vs, _, x => by
  obtain ⟨w, r, rfl, x, z⟩ := x
  rw [List.reverse_cons, List.reverse_cons]
  exact (VRels.reverse z).append ⟨w, [], rfl, x, rfl⟩
section
variable {C : Cx} {d : Nat} {call : Bool -> Nat -> List V -> P V}
theorem ex_assignMany (XO : CxOk C) {xs : List Nat} {e : Mine.E} (ie : ∀ hm, EvOk C d ⟨hm, call⟩ e) : ExOk C d call (.assign (.many xs) e) := fun env i hm hmode outer A lv H hf g ρ hp s out h S Hh => by
 obtain ⟨h1, hm⟩ := and2 hm
 obtain ⟨h2, hm⟩ := and2 hm
 obtain ⟨hc, h2⟩ := and2 h2
 show wpX C.M A (PySem.exec (.Assign [.Tuple (toNs C.toDt xs (i.kid 0).kids) (i.kid 0).k (i.kid 0).pos] (toX C.toDt e (i.kid 1)) i.pos) env) _ _ s
 rw [arm_exec_Assign]
 refine X_at ?_
 show wpX C.M A (swapsWith (toX C.toDt e (i.kid 1)) (some (.Tuple (toNs C.toDt xs (i.kid 0).kids) (i.kid 0).k (i.kid 0).pos)) i.pos.line env >>= _) _ _ s
 rw [isComp_none _ (not_eq hc)]
 refine X_bind (X_pure (X_if_false rfl (X_bind ((Pt.start S Hh).on (ie hmode env _ hm _ A lv H) h fun v hp₁ w ρ₁ s₁ h₁ p₁ _ rv => ?_))))
 obtain ⟨lv', hlv, h₁⟩ := Option.map_eq_some_iff.mp h₁
 have h₁ := congrArg some h₁
 rcases swOk_some h2 with hr | hr
 ·rw [swapped_eq H.fk hr]
  refine X_bind (X_pure ?_)
  show wpX C.M A (assign (toTg C.toDt (.many xs) (i.kid 0)) env w >>= fun _ => pure Flow.next) _ _ s₁
  exact X_bind (assign_target XO.nm p₁.S p₁.Hh H.fk hf h1 hlv rv fun s' S' st => X_pure (p₁.next h₁ S' st))
 ·rw [swapped_eq H.fk hr]
  refine X_bind (X_pure ?_)
  obtain ⟨vs, ev, hlv⟩ := Option.bind_eq_some_iff.mp hlv
  obtain ⟨hlen, hlv⟩ := ite_some hlv
  rw [tup?_eq ev] at rv
  unfold assignStores
  refine X_bind (X_rule (X_bind (wpX_any (unpack_ok p₁.S p₁.Hh rv (by rw [List.length_map]; exact hlen) fun h' ws kk rvs => ?_))))
  rw [<- List.map_reverse]
  refine X_bind (assign_all xs.reverse vs.reverse _ ws.reverse lv { s₁ with heap := h' } (by rw [List.length_reverse, List.length_reverse]; exact hlen) (fits_binds XO.nm H.fk hf xs.reverse fun x hx => List.all_eq_true.mp (and2 h1).2 x (List.mem_reverse.mp hx)) (p₁.S.grow kk s₁.toks) rvs.reverse _ fun s'' S'' st' => X_pure ?_)
  refine p₁.next h₁ (S''.congr fun i => ?_) ((stable_of_keeps kk).trans st')
  rw [zip_reverse hlen, <- Option.some.inj hlv]
  exact setAll_reverse i (xs.zip vs) lv (by rw [mem_zip hlen]; exact of_decide_eq_true (and2 h1).1)
end
section
variable {C : Cx} {g : Base} {envs : List Env} {env : Env} {ρ ρ₀ : Env2} {lv : Loc} {hp : Hp} {s s₀ : Shared} {A : Around} {d : Nat} {call : Bool -> Nat -> List V -> P V}
theorem store_at {M : Model} {E : Value -> Shared -> Prop} {x : Addr} {ws : List Value} {n : Nat} (ho : s.heap.get? x = some { cls := .type "list", data := .seq ws.toArray n }) {k : Nat} (e2 : k < ws.length) {w : Value} {Q : Unit -> Shared -> Prop}
  (hQ : ∀ h' m, h'.get? x = some { cls := .type "list", data := .seq (ws.set k w).toArray m } -> (∀ b o, b ≠ x -> s.heap.get? b = some o -> h'.get? b = some o) -> Q () { s with heap := h' }) : wpAny M A (setSeqItemAt x k w) Q E s := by
 refine wpAny_setSeqItemAt ho rfl (hQ _ (if ((ws.set k w).toArray.size == ws.toArray.size) = true then n else n + 1) ?_ fun b o hb e => ((Heap.SameBut.update s.heap x (Obj.mapSeq (·.setIfInBounds k w))).2 b hb).trans e)
 refine (Heap.get?_update_self _ ho (Obj.isFreed_of_seq rfl)).trans ?_
 unfold Obj.mapSeq
 dsimp only
 rw [List.setIfInBounds_toArray]
theorem setItem_at {E : Value -> Shared -> Prop} {x : Addr} {ws : List Value} {n : Nat} (ho : s.heap.get? x = some { cls := .type "list", data := .seq ws.toArray n }) {i : Int} {t : Tok} {k : Nat} (hk : idxOf i ws.length = some k) {w : Value} {Q : Unit -> Shared -> Prop}
  (hQ : ∀ h' m, h'.get? x = some { cls := .type "list", data := .seq (ws.set k w).toArray m } -> (∀ b o, b ≠ x -> s.heap.get? b = some o -> h'.get? b = some o) -> Q () { s with heap := h' }) :
  wpAny C.M A (setItem (.ref x) (.int i t) w) Q E s := by
 obtain ⟨e1, e2, e3, e4, e5, e6, _⟩ := seqIndex_of hk
 have hl : s.heap.IsList x ws.toArray := ⟨_, ho, rfl, n, rfl⟩
 have fit : Builtin.List.listFitsIndex i = true := by
  have b := big_lt
  unfold Builtin.List.listFitsIndex
  rw [Bool.and_eq_true, decide_eq_true_eq, decide_eq_true_eq]
  omega
 have hx : ws.toArray[k]? = some (ws[k]'e2) := (List.getElem?_toArray ..).trans (List.getElem?_eq_getElem e2)
 have fin := fun (fr : Fin -> Shared -> Prop) (hfr : ∀ h', Q () { s with heap := h' } -> fr (.done (.ret .none)) { s with heap := h' }) => (wpAny_bind (store_at (M := C.M) (A := A.in1) (E := E) ho e2 (w := w) fun h' m q1 q2 => wpAny_pure (hfr h' (hQ h' m q1 q2))) : wpAny C.M A.in1 (setSeqItemAt x k w >>= fun _ => pure (.done (.ret Value.none))) fr E s)
 unfold setItem
 refine wpAny_holding ?_
 refine wpAny_bind (wpAny_sequenceKey hl.typeIs (by decide) ?_)
 refine wpAny_bind (wpAny_callSpecial?_slot (name := Str.ofString "__setitem__") hl.typeIs slot_list_setitem
  (wpAny_call_entry slot_list_setitem hl.typeIs entry_list_setitem ?_ (args_list_setitem _ _ _)))
 show wpAny _ _ (Builtin.List.listSubscript? (.int i t) >>= _) _ _ s
 refine wpAny_bind (wpAny_listSubscript_int fit ?_)
 cases i with
 | ofNat j =>
  obtain rfl : k = j := e6 (Int.natCast_nonneg j)
  show wpAny _ _ ((seqItemAt x k >>= fun r => pure (r.map (k, ·))) >>= _) _ _ s
  refine wpAny_bind (wpAny_bind (wpAny_seqItemAt ho rfl (wpAny_pure ?_)))
  rw [hx]
  exact fin _ fun h' z => ⟨_, rfl, wpAny_pure z⟩
 | negSucc j =>
  show wpAny _ _ ((Builtin.List.listItems (.ref x) >>= fun xs => pure ((seqIndex? (Int.negSucc j) xs.size).bind fun i => xs[i]?.map (i, ·))) >>= _) _ _ s
  refine wpAny_bind (wpAny_bind ?_)
  show wpAny _ _ (seqItems? (.ref x) >>= _) _ _ s
  refine wpAny_bind (wpAny_seqItems ho rfl (wpAny_pure (wpAny_pure ?_)))
  rw [List.size_toArray, e1]
  rw [Option.bind_some, hx]
  exact fin _ fun h' z => ⟨_, rfl, wpAny_pure z⟩
theorem ite_none' {α : Type} {c : Prop} [Decidable c] {x : Option α} {b : α} (h : (if c then none else x) = some b) : ¬ c /\ x = some b := by
 by_cases q : c
 ·rw [if_pos q] at h; exact nn h
 ·rw [if_neg q] at h; exact ⟨q, h⟩
theorem inplace_ok {E : Value -> Shared -> Prop} {op : Operator} (hop : addSub op = true) {a b c : Int} {t u : Tok} (h : binInt op a b = some c) {Q : Value -> Shared -> Prop}
  (hQ : Q (.int c s.toks) { s with toks := s.toks + 1 }) : wpAny C.M A (inplaceOp op (.int a t) (.int b u)) Q E s := by
 cases op with
 | Add => rw [<- Option.some.inj h] at hQ; exact PyProof.Rows.iadd_int hQ
 | Sub => rw [<- Option.some.inj h] at hQ; exact PyProof.Rows.isub_int hQ
 | _ => exact Bool.noConfusion (show false = true from hop)
theorem ex_aug (XO : CxOk C) {y : Nat} {op : Operator} {e : E} (ie : ∀ hm, EvOk C d ⟨hm, call⟩ e) : ExOk C d call (.aug y op e) := fun env i hm hmode outer A lv H hf g ρ hp s out h S Hh => by
 obtain ⟨ho, hm⟩ := and2 hm
 obtain ⟨a, qa, h⟩ := Option.bind_eq_some_iff.mp h
 show wpX C.M A (PySem.exec (.AugAssign (.Name (C.nm y) (i.kid 0).pos) op (toX C.toDt e (i.kid 1)) i.pos) env) _ _ s
 rw [arm_exec_AugAssign]
 refine X_at (X_bind (wpX_any (load_name S H.fk qa ho fun wa ra => ?_)))
 refine X_bind (X_holding ((Pt.start S Hh).on (ie hmode env _ (and2 hm).2 _ A lv H) h fun v hp₁ w ρ₁ s₁ h₁ p₁ X₁ rv => ?_))
 refine X_at ?_
 obtain ⟨ia, ea, h₁⟩ := Option.bind_eq_some_iff.mp h₁
 obtain ⟨ib, eb, h₁⟩ := Option.bind_eq_some_iff.mp h₁
 obtain ⟨c, hc, h₁⟩ := Option.map_eq_some_iff.mp h₁
 obtain ⟨ta, rfl⟩ := ra.int ea
 obtain ⟨tb, rfl⟩ := rv.int eb
 exact X_bind (X_operate (wpX_any (inplace_ok (and2 hm).1 hc (X_at (X_bind (bind_name XO.nm (p₁.S.tok (s₁.toks + 1)) H.fk hf ho (show VRel ρ₁ s₁.heap (.int c) (.int c s₁.toks) from ⟨s₁.toks, rfl⟩) fun s' S' st => X_pure (p₁.next (congrArg some h₁) S' st)))))))
theorem augStore_eq (D : Dt) (e : E) (i : IT) (ov iv new : Value) : augStore (toX D e i) ov iv new = (holding [new, ov, iv] (setItem ov iv new) >>= fun _ => release [new, ov, iv] [] >>= fun _ => pure .next) := by
 cases e <;> rfl
theorem ex_augsub {o i e : E} {op : Operator} (io : ∀ hm, EvOk C d ⟨hm, call⟩ o) (ii : ∀ hm, EvOk C d ⟨hm, call⟩ i) (ie : ∀ hm, EvOk C d ⟨hm, call⟩ e) : ExOk C d call (.augsub o i op e) := fun env it hm hmode outer A lv H hf g ρ hp s out h S Hh => by
 obtain ⟨hop, hm⟩ := and2 hm
 obtain ⟨h2, hm⟩ := and2 hm
 show wpX C.M A (PySem.exec (.AugAssign (.Subscript (toX C.toDt o ((it.kid 0).kid 0)) (toX C.toDt i ((it.kid 0).kid 1)) (it.kid 0).pos) op (toX C.toDt e (it.kid 1)) it.pos) env) _ _ s
 rw [arm_exec_AugAssign_3]
 refine X_at ?_
 refine X_bind ((Pt.start S Hh).on (io hmode env _ h2 _ A lv H) h fun vo hp₁ wo ρ₁ s₁ h₁ p₁ _ ro => ?_)
 refine X_bind (X_holding (p₁.on (ii hmode env _ (and2 hm).1 _ A lv H) h₁ fun vi hp₂ wi ρ₂ s₂ h₂ p₂ X₂ ri => ?_))
 replace ro := ro.ext X₂
 refine X_bind (X_holding (X_at (X_bind (p₂.onG h₂ (fun _ q => wpX_any ((subscr_get p₂.S ro ri q).elim fun _ z => z.elim fun _ z => z.2.2)) fun vold hp₃ wold ρ₃ s₃ h₃ p₃ X₃ rold => ?_))))
 replace ro := ro.ext X₃
 replace ri := ri.ext X₃
 refine X_bind (X_holding (p₃.on (ie hmode env _ (and2 hm).2 _ A lv H) h₃ fun vb hp₄ wb ρ₄ s₄ h₄ p₄ X₄ rb => X_at ?_))
 refine cps fun G_ f_ => ?_
 obtain ⟨ia, ea, h₄⟩ := Option.bind_eq_some_iff.mp h₄
 obtain ⟨ib, eb, h₄⟩ := Option.bind_eq_some_iff.mp h₄
 obtain ⟨c, hc, h₄⟩ := Option.bind_eq_some_iff.mp h₄
 obtain ⟨j, ej, h₄⟩ := Option.bind_eq_some_iff.mp h₄
 obtain ⟨k, ek, h₄⟩ := Option.bind_eq_some_iff.mp h₄
 obtain ⟨hj0, h₄⟩ := ite_none' h₄
 obtain ⟨vs, q1, h₄⟩ := Option.bind_eq_some_iff.mp h₄
 obtain ⟨k', hk, h₄⟩ := Option.map_eq_some_iff.mp h₄
 obtain ⟨ta, rfl⟩ := (rold.ext X₄).int ea
 obtain ⟨tb, rfl⟩ := rb.int eb
 obtain ⟨x, dx, rfl, hi⟩ := (ro.ext X₄).ref ej
 obtain ⟨tk, rfl⟩ := (ri.ext X₄).int ek
 obtain ⟨ws, n, ho, r⟩ := list_at p₄.S q1 hi
 refine f_ ?_
 clear f_ G_
 refine X_operate (wpX_any (inplace_ok hop hc (X_at ?_)))
 rw [augStore_eq]
 refine X_bind (X_holding (wpX_any (setItem_at (C := C) (s := { s₄ with toks := s₄.toks + 1 }) ho (by rw [r.length]; exact hk) fun h' m e1 e2 => ?_)))
 obtain ⟨S₆, X₆⟩ := (p₄.S.tok (s₄.toks + 1)).setList (s₄.toks + 1) hi q1 hj0 e2 e1 (r.set (v := .int c) ⟨s₄.toks, rfl⟩ k')
 exact X_bind (X_release (X_pure (p₄.next (congrArg some h₄) S₆ X₆.st)))
end
structure CxExc (C : Cx) : Prop where
 typ : ∀ c, typeIn C.K (.ref (C.ea c)) = some (.type "type")
 self : ∀ c, subIn C.K (.ref (C.ea c)) (.ref (C.ea c)) = some true
def NewR (C : Cx) (g : Base) (envs : List Env) (env : Env) (ρ : Env2) (lv : Loc) (s : Shared) (out : Out V) (w : Value) (s' : Shared) : Prop := OkV C g envs env ρ lv s out w s' /\ ∃ a, w = .ref a /\ FlyNew s'.heap a
def ExcNew (C : Cx) : Prop := ∀ (c : Nat) (args : List V) (hp : Hp) (out : Out V) (x : X), callG C.T x (.exc c) args hp = some out -> ∀ (g : Base) (envs : List Env) (env : Env) (ρ : Env2) (lv : Loc) (s : Shared) (A : Around) (ws : List Value) (d : Nat),
  St C g envs env ρ lv hp s -> Here C x.hm d A envs env -> VRels ρ s.heap args ws -> wpX C.M A (call (.ref (C.ea c)) ws) (NewR C g envs env ρ lv s out) (RsV C g envs env ρ lv s out) s
theorem ExcNew.mk {C : Cx} (X : ExcNew C) : ExcMk C := fun c args hp out x h g envs env ρ lv s A ws d S H r => X_mono (X c args hp out x h g envs env ρ lv s A ws d S H r) (fun _ _ z => z.1) fun _ _ z => z
section
variable {C : Cx} {g : Base} {envs : List Env} {env : Env} {ρ ρ₀ : Env2} {lv : Loc} {hp : Hp} {s s₀ : Shared} {A : Around} {d : Nat} {call : Bool -> Nat -> List V -> P V} {x : X}
theorem ev_excNew (XO : CxOk C) (XN : ExcNew C) {n c : Nat} {as : Es} (ia : EvsOk C d x as) {i : IT} (hm : okE C.toDt env.scope (.callg n (.exc c) as) i = true) {out : Out V} (h : ev C.T x (.callg n (.exc c) as) lv hp = some out) (H : Here C x.hm d A envs env) (S : St C g envs env ρ lv hp s) (Hh : Han A s.heap) :
  wpX C.M A (eval (toX C.toDt (.callg n (.exc c) as) i) env) (NewR C g envs env ρ lv s out) (RsV C g envs env ρ lv s out) s := by
 obtain ⟨h2, hm⟩ := and2 hm
 obtain ⟨h3, hm⟩ := and2 hm
 have h3 := Dt.isGl_eq h3
 refine X_CallName (noStars _ _ _) (eval_global XO S H h3 h2 rfl (X_callWith ?_))
 refine (Pt.start S Hh).go (ia env _ (and2 hm).2 envs A lv H) h fun vs hp₁ ws ρ₁ s₁ h₁ p₁ _ rv => ?_
 refine X_mono (keeper_ok (E := RsV C g envs env ρ lv s out) XO p₁.S fun f e => by cases e) (fun k s₂ z => ?_) fun _ _ z => z
 rw [z.1]
 exact ⟨z.2, X_mono (XN _ _ _ _ _ h₁ g envs env ρ₁ lv s₁ A ws d p₁.S H rv) (fun _ _ z => ⟨OkA.trans p₁.X z.1, z.2⟩) fun _ _ z => RsV.trans p₁.X z⟩
def Raised (C : Cx) (g : Base) (envs : List Env) (env : Env) (E : Value -> Shared -> Prop) (w : Value) (s' : Shared) : Prop := ∃ (ρ : Env2) (lv : Loc) (hp : Hp) (i : Nat) (a da : Addr) (c : Nat) (fs : List (Nat × V)), w = .ref a /\ St C g envs env ρ lv hp s' /\ ρ[i]? = some (a, da) /\ hp[i]? = some (O.exc c fs) /\ FlyNew s'.heap a /\ E (.ref a) s'
theorem raise_ok (XO : CxOk C) (XX : CxExc C) (hh : A.handled = none) {t : Sem Value} {E : Value -> Shared -> Prop} {Q : Flow -> Shared -> Prop}
  (ht : wpX C.M A t (Raised C g envs env E) E s₀) : wpX C.M A (raiseStmt env (some t) none) Q E s₀ := by
 unfold raiseStmt
 refine X_bind (X_mono ht (fun w s z => ?_) fun _ _ z => z)
 refine cps fun G_ f_ => ?_
 obtain ⟨ρ, lv, hp, i, a, da, c, fs, rfl, S, hi, ho, F, hE⟩ := z
 obtain ⟨⟨o, vs, e1, e2, e3, e4, e5⟩, _⟩ := S.R.led i _ _ hi ho
 obtain ⟨o', vs', f1, f2, f3⟩ := F
 obtain rfl := some_uniq e1 f1
 obtain rfl : vs = vs' := Data.fields.inj (e4.symm.trans f2)
 refine f_ ?_
 clear f_ G_
 have KI := S.kin XO.toCxCls
 have isT : ∀ {Q : Bool -> Shared -> Prop}, Q false s -> wpX C.M A (isType (.ref a)) Q E s := fun hq => wpX_any (by
  unfold isType
  refine wpAny_bind (wpAny_loadPart e1 ?_)
  rw [e4]
  exact wpAny_pure hq)
 have isI : ∀ {Q : Bool -> Shared -> Prop}, Q true s -> wpX C.M A (isInstance (.ref a) (.type "BaseException")) Q E s := fun hq => by
  unfold isInstance
  refine X_bind (wpX_any (wpAny_bind (wpAny_loadPart e1 (wpAny_pure ?_))))
  show wpX C.M A (isSubtype o.cls _) _ E s
  rw [e2]
  exact X_looks (looks_subIn KI (XO.sub c)) hq
 refine X_bind (X_pure ?_)
 refine X_bind (X_holding ?_)
 unfold excFromValue isExcClass
 refine X_bind (X_bind (isT ?_))
 refine X_pure ?_
 refine X_if_false rfl ?_
 refine X_bind (isI (X_if_true rfl (X_pure ?_)))
 show wpX C.M A (isType (.ref a) >>= _) Q E s
 refine X_bind (isT ?_)
 refine X_if_false rfl ?_
 show wpX C.M A (raisedInstance (.ref a) >>= _) Q E s
 unfold raisedInstance
 refine X_bind (X_bind (wpX_any (wpAny_bind (wpAny_loadPart e1 (wpAny_pure ?_)))))
 show wpX C.M A (typeOf o.cls >>= _) _ E s
 rw [e2]
 refine X_bind (X_looks (looks_typeIn KI (XX.typ c)) ?_)
 refine X_if_true (by decide) (X_pure ?_)
 unfold setFlight
 refine X_bind (X_bind (wpX_any (wpAny_field e1 e4 f3 ?_)))
 refine X_if_false (by decide) (X_pure ?_)
 exact wpX_any (wpAny_raiseNew_none hh hE)
theorem exc?_eq {o : O} {c : Nat} (h : o.exc? = some c) : ∃ fs, o = .exc c fs := by
 cases o <;> first | exact nn h | exact ⟨_, by rw [<- Option.some.inj h]⟩
theorem excAt_some {i c : Nat} (h : excAt i hp = some c) : ∃ fs, hp[i]? = some (.exc c fs) := by
 obtain ⟨o, e, h⟩ := Option.bind_eq_some_iff.mp h
 exact (exc?_eq h).elim fun fs q => ⟨fs, q ▸ e⟩
theorem ex_raise (XO : CxOk C) (XX : CxExc C) (XN : ExcNew C) {n c : Nat} {as : Es} (ia : ∀ hm, EvsOk C d ⟨hm, call⟩ as) : ExOk C d call (.raise (.callg n (.exc c) as)) := fun env i hm hmode outer A lv H hf g ρ hp s out h S Hh => by
 obtain ⟨hq, h⟩ := ite_none h
 show wpX C.M A (PySem.exec (.Raise (some (toX C.toDt (.callg n (.exc c) as) (i.kid 0))) none i.pos) env) _ _ s
 rw [arm_exec_Raise]
 refine X_at ?_
 show wpX C.M A (raiseStmt env (some (eval (toX C.toDt (.callg n (.exc c) as) (i.kid 0)) env >>= fun v => standAt i.pos >>= fun _ => pure v)) none) _ _ s
 refine raise_ok (g := g) (envs := env :: outer) XO XX (H.hn hq) ?_
 cases q : ev C.T ⟨hmode, call⟩ (.callg n (.exc c) as) lv hp with
 | none => rw [q] at h; exact nn h
 | some o =>
  rw [q] at h
  refine X_bind (X_mono (ev_excNew (x := ⟨hmode, call⟩) XO XN (ia hmode) (show okE C.toDt env.scope (.callg n (.exc c) as) (i.kid 0) = true from hm) q H S Hh) (fun w s' z => ?_) fun _ _ z => ?_)
  ·cases o with
   | raise => exact z.1.elim
   | ok v hp₁ =>
    refine cps fun G_ f_ => ?_
    obtain ⟨⟨ρ', S', X', rv⟩, a, rfl, F⟩ := z
    obtain ⟨j, ej, h⟩ := Option.bind_eq_some_iff.mp h
    obtain ⟨c', ec, h⟩ := Option.map_eq_some_iff.mp h
    obtain ⟨fs, ho⟩ := excAt_some ec
    obtain ⟨_, da, e, hi⟩ := rv.ref ej
    refine f_ ?_
    clear f_ G_
    cases e
    rw [<- h]
    exact X_at (X_pure ⟨ρ', lv, hp₁, j, a, da, c', fs, rfl, S', hi, ho, F, ρ', a, da, S', X', hi, ⟨c', fs, ho⟩, rfl, .inl F⟩)
  ·cases o with
   | ok => exact z.elim
   | raise => rw [<- Option.some.inj h]; exact z
end
abbrev RsF (C : Cx) (g : Base) (envs : List Env) (env : Env) (ρ : Env2) (s : Shared) (out : OutS) (e : Value) (s' : Shared) : Prop := RsG C g envs env (fun ρ h x => FlyAt g envs env ρ h x (rawInt env.locals)) ρ s out e s'
def ResS (Q : Flow -> Shared -> Prop) (E : Value -> Shared -> Prop) (r : Result) (s' : Shared) : Prop := match r with
 | .ok f => Q f s'
 | .error e => E e s'
section
variable {C : Cx} {g : Base} {outer : List Env} {env : Env} {ρ ρ₀ : Env2} {lv : Loc} {hp : Hp} {s s₀ : Shared} {A : Around} {d : Nat} {call : Bool -> Nat -> List V -> P V}
theorem noted_X {α : Type} {m : Sem α} {out : OutS} {Q : α -> Shared -> Prop} (hA : A.frames = some (env :: outer)) (hf : isFn env = true) (h : wpX C.M A m Q (RsS C g (env :: outer) env ρ s out) s₀) :
  wpX C.M A (m.onRaise fun x => do noteFrame x env; theTreesLotGoes x) Q (RsF C g (env :: outer) env ρ s out) s₀ := by
 refine X_onRaise (X_mono h (fun _ _ z => z) fun e s' z => ?_)
 cases out with
 | raise i lv' hp' =>
  obtain ⟨ρ', x, dx, S, X, hi, ⟨c, fs, ho⟩, rfl, F⟩ := z
  exact X_bind (wpX_any (note_ok S hA hf hi ho F fun s'' S' X' F' => wpX_any (wpAny_theTreesLotGoes ⟨ρ', x, dx, S', X.trans X', hi, ⟨c, fs, ho⟩, rfl, F'⟩)))
 | _ => exact z.elim
theorem runOwn_X {c : Code} {out : OutS} {Q : Flow -> Shared -> Prop} {hd : Option Value} (hf : isFn env = true) (hnb : hd ≠ some byPass)
  (h : codeX C.M (A.mark hd) c (ResS Q (RsF C g (env :: outer) env ρ s out)) s₀) :
  wpX C.M A (runOwn c env hd) Q (RsS C g (env :: outer) env ρ s out) s₀ := by
 unfold runOwn
 refine X_onRaise (X_run (codeX_mono h fun r s' z => ?_) hnb)
 cases r with
 | ok f => exact z
 | error e => cases out with
  | raise i lv' hp' =>
   refine cps fun G_ f_ => ?_
   obtain ⟨ρ', x, dx, S, X, hi, ⟨c, fs, ho⟩, rfl, F⟩ := z
   obtain ⟨o, vs, tb, ot, vt, e1, e2, e3, _⟩ := id F
   refine f_ ?_
   clear f_ G_
   exact X_bind (wpX_any (wpAny_field e1 e2 e3 (X_if_false rfl (wpX_any (setFlight_ok S hf hi ho F fun s'' S' X' F' => ⟨ρ', x, dx, S', X.trans X', hi, ⟨c, fs, ho⟩, rfl, .inr ⟨_, F'⟩⟩)))))
  | _ => exact z.elim
theorem noBy : (none : Option Value) ≠ some byPass := fun x => nomatch x
def LoopI (C : Cx) (A : Around) (g : Base) (envs : List Env) (env : Env) (ρ₀ : Env2) (s₀ : Shared) (k : Nat -> Loc -> Hp -> Prop) (n : Nat) (s : Shared) : Prop := ∃ ρ lv hp, Pt C A g envs env lv ρ₀ s₀ ρ hp s /\ k n lv hp
theorem ex_whil {t : E} {b : Ss} (it : ∀ hm, TrOk C d ⟨hm, call⟩ t) (ib : ExsOk C d call b) : ExOk C d call (.whil t b) := fun env i hm hmode outer A lv H hf g ρ hp s out h S Hh => by
 show wpX C.M A (PySem.exec (.While (toX C.toDt t (i.kid 0)) (toSs C.toDt b (i.kid 1).kids) [] i.pos) env) _ _ s
 rw [arm_exec_While]
 refine X_at (runOwn_X hf noBy ?_)
 show codeX C.M A (.whileLoop (toX C.toDt t (i.kid 0)) (toSs C.toDt b (i.kid 1).kids) [] env) _ s
 refine codeX_loop rfl rfl (LoopI C A g (env :: outer) env ρ s fun n lv hp => loopW (fun lv => tr (ev C.T ⟨hmode, call⟩ t lv)) (fun lv hp => execs C.T b ⟨hmode, call⟩ lv hp) n lv hp = some out) (fun n s' I => ?_) turns ⟨ρ, lv, hp, .start S Hh, h⟩
 refine cps fun G_ f_ => ?_
 obtain ⟨ρ', lv', hp', p, h'⟩ := I
 refine f_ ?_
 clear f_ G_
 cases n with
 | zero => exact nn h'
 | succ n =>
  show wpX C.M A ((whileTurn (toX C.toDt t (i.kid 0)) (toSs C.toDt b (i.kid 1).kids) [] env).onRaise fun x => do noteFrame x env; theTreesLotGoes x) _ _ s'
  refine noted_X H.frames hf ?_
  unfold whileTurn
  refine X_bind (p.on (it hmode env _ (and2 hm).1 _ A lv' H) h' fun c hp₁ w ρ₁ s₁ h₁ p₁ _ rv => ?_)
  rw [show w = c from rv]
  cases c with
  | true => exact X_if_true rfl (X_bind (p₁.flow (ib env _ (and2 hm).2 hmode outer A lv' H hf) h₁ (fun lv₂ hp₂ ρ₂ s₂ h₂ p₂ => X_pure ⟨rfl, n, Nat.lt_succ_self n, ρ₂, lv₂, hp₂, p₂, h₂⟩) fun w s₂ z => X_pure z))
  | false =>
   refine X_if_false rfl ?_
   rw [arm_execs_nil]
   exact X_bind (X_pure (X_pure (p₁.same h₁)))
end
section
variable {C : Cx} {g g' : Base} {envs envs' : List Env} {outer : List Env} {env env' : Env} {ρ ρ' ρ₀ : Env2} {lv lv' : Loc} {hp hp' : Hp} {s s' s₀ : Shared} {A : Around} {d : Nat} {call : Bool -> Nat -> List V -> P V}
theorem FlyAt.imp (k : ∀ a, Loose g envs env ρ a -> Loose g' envs' env' ρ a) {h : Heap} {x : Addr} {f : Value} (F : FlyAt g envs env ρ h x f) : FlyAt g' envs' env' ρ h x f := by
 obtain ⟨o, vs, tb, ot, vt, e1, e2, e3, e4, e5, e6, e7, L⟩ := F
 exact ⟨o, vs, tb, ot, vt, e1, e2, e3, e4, e5, e6, e7, k _ L⟩
theorem Loose.narrow (S : St C g envs env ρ lv hp s) (p : ρ <+: ρ') {a : Addr} (L : Loose (rest ρ (ownOf env) s.heap) envs env ρ' a) : Loose g envs env ρ' a where
 g := by
  rcases rest_is_none L.g with q | q | ⟨p', hm, q⟩
  ·exact (S.R.notIn q).1
  ·exact absurd q L.own
  ·obtain ⟨i, hi, e⟩ := List.mem_iff_getElem.mp hm
   have := L.led i p' (getElem?_pre p (by rw [List.getElem?_eq_getElem hi, e]))
   exact (q.elim this.1 this.2).elim
 fr := L.fr
 own := L.own
 led := L.led
theorem OkS.narrow (S : St C g envs env ρ lv hp s) {out : OutS} {f : Flow} (z : OkS C (rest ρ (ownOf env) s.heap) envs env ρ s out f s') : OkS C g envs env ρ s out f s' := by
 cases out with
 | next | ret => exact z.elim fun ρ' z => ⟨ρ', S.narrow z.1, z.2⟩
 | raise => exact z
theorem RsS.narrow (S : St C g envs env ρ lv hp s) {out : OutS} {e : Value} (z : RsS C (rest ρ (ownOf env) s.heap) envs env ρ s out e s') : RsS C g envs env ρ s out e s' := by
 cases out with
 | raise =>
  obtain ⟨ρ', x, dx, S', X, hi, ho, e, F⟩ := z
  exact ⟨ρ', x, dx, S.narrow S', X, hi, ho, e, F.imp id fun F => F.elim fun f F => ⟨f, F.imp fun _ L => L.narrow S X.pre⟩⟩
 | _ => exact z
noncomputable def owns (T : String) : Bool := ["enumerate", "zip", "dict_itemiterator", "dict_reverseitemiterator", "odict_iterator", "itertools.zip_longest", "itertools.pairwise"].contains T
theorem ItRel.owns {h : Heap} {a : Addr} {it : It} (I : ItRel ρ h a it) : ∃ o T, h.get? a = some o /\ o.cls = .type T /\ owns T = false := by
 cases it with
 | range cur n step => exact ⟨_, _, I, rfl, by decide⟩
 | seq vs =>
  rcases I with ⟨t, ws, j, ⟨oi, e, c, d⟩, _⟩ | ⟨T, x, t, j, hT, ⟨oi, e, c, d⟩, hx⟩ | ⟨b, t, j, ⟨oi, e, c, d⟩, hb⟩
  ·exact ⟨oi, _, e, c, by decide⟩
  ·exact ⟨oi, _, e, c, by rcases hT with rfl | rfl <;> decide⟩
  ·exact ⟨oi, _, e, c, by decide⟩
 | list i j =>
  obtain ⟨x, dx, ⟨oi, e, c, d⟩, hr⟩ := I
  exact ⟨oi, _, e, c, by decide⟩
theorem ItRel.plain {a : Addr} {it : It} (I : ItRel ρ s.heap a it) {E : Value -> Shared -> Prop} {D : Dt} {t : Tg} {i : IT} {v : Value} {Q : Unit -> Shared -> Prop} (h : Q () s) : wpAny C.M A (letOwnedTupleGo (toTg D t i) (.ref a) v) Q E s := by
 cases t with
 | one => exact wpAny_pure h
 | many =>
  obtain ⟨o, T, e, c, hT⟩ := I.owns
  cases v with
  | ref a' =>
   refine wpAny_bind (wpAny_load e ?_)
   rw [c]
   cases o.data with
   | fields vs =>
    show wpAny C.M A (if (Mine.owns T && vs[0]? == some (rawInt a')) = true then _ else _) Q E s
    rw [hT, Bool.false_and]
    exact wpAny_pure h
   | _ => exact wpAny_pure h
  | _ => exact wpAny_pure h
end
section
variable {C : Cx} {g : Base} {envs : List Env} {outer : List Env} {env : Env} {ρ ρ' ρ₀ : Env2} {lv lv' : Loc} {hp hp' : Hp} {s s' s₀ : Shared} {A : Around} {d : Nat} {call : Bool -> Nat -> List V -> P V}
theorem Pt.moved (p : Pt C A g envs env lv ρ₀ s₀ ρ hp s) {I : Addr} {it : It} (IR : ItRel ρ s.heap I it) (L : Loose g envs env ρ I) (hIc : ∀ x ∈ env.cells, x.2 ≠ I) {h' : Heap} (t : Nat) (k : ∀ b o, b ≠ I -> s.heap.get? b = some o -> h'.get? b = some o) : Pt C A g envs env lv ρ₀ s₀ ρ hp { s with heap := h', toks := t } := by
 obtain ⟨oI, TI, eI, cI, iI⟩ := IR.type
 obtain ⟨R', st⟩ := p.S.R.loose L (fun o e => some_uniq e eI ▸ ⟨iI, excLike_type cI⟩) hIc k
 exact ⟨⟨R', p.S.gens, p.S.os⟩, p.X.trans ⟨List.prefix_refl _, st⟩, p.Hh.mono st⟩
theorem own_cells (hf : isFn env = true) {a : Addr} (h : a ∉ ownOf env) : ∀ x ∈ env.cells, x.2 ≠ a := fun x hx q => h (by
 unfold ownOf; rw [if_pos hf]; exact q ▸ List.mem_cons_of_mem _ (List.mem_map.mpr ⟨x, hx, rfl⟩))
noncomputable def forB (T : Tab) (t : Tg) (b : Ss) (x : X) : V -> Loc -> Hp -> Option OutS := fun v lv hp => (assignT t v lv).bind fun lv => execs T b x lv hp
theorem for_loop (XO : CxOk C) {t : Tg} {b : Ss} (ib : ExsOk C d call b) {hm : Bool} {i : IT} {is : List IT} {I : Addr} (h1 : okTg C.toDt env.scope t = true) (h2 : okSs C.toDt env.scope b is = true) (hA : A.handled = none) (H : Here C hm d A (env :: outer) env) (hf : isFn env = true) {out : OutS} :
  ∀ (n : Nat) (it : It) (lv : Loc) (hp : Hp) (ρ : Env2) (s : Shared), loopF (forB C.T t b ⟨hm, call⟩) n it lv hp = some out -> Pt C A g (env :: outer) env lv ρ₀ s₀ ρ hp s -> ItRel ρ s.heap I it -> Loose g (env :: outer) env ρ I ->
   codeX C.M A (.forLoop (toTg C.toDt t i) (.ref I) (toSs C.toDt b is) [] env) (ResS (OkS C g (env :: outer) env ρ₀ s₀ out) (RsF C g (env :: outer) env ρ₀ s₀ out)) s := by
 intro n
 induction n with
 | zero => intro it lv hp ρ s h; exact nn h
 | succ n ih =>
  intro it lv hp ρ s h p IR L
  obtain ⟨r, q, h⟩ := Option.bind_eq_some_iff.mp h
  have hIc := own_cells hf L.own
  refine codeX_of_tree rfl ?_
  show wpX C.M A ((forTurn (toTg C.toDt t i) (.ref I) (toSs C.toDt b is) [] env).onRaise (fun x => do noteFrame x env; theTreesLotGoes x)) _ (RsF C g (env :: outer) env ρ₀ s₀ out) s
  refine noted_X H.frames hf ?_
  unfold forTurn
  refine X_at (X_bind (X_onRaise (wpX_any (nextIt_ok p.S IR p.Hh (fun _ => hA) q fun h₁ tk w k r' => ?_))))
  have p₁ := p.moved IR L hIc tk k
  cases r with
  | none =>
   rw [show w = none from r']
   refine X_pure ⟨rfl, codeX_of_tree rfl ?_⟩
   show wpX C.M A (((PySem.execs [] env).onRaise (fun x => do noteFrame x env; theTreesLotGoes x)) >>= fun f => pure (Fin.done f)) _ _ _
   rw [arm_execs_nil]
   exact X_bind (X_onRaise (X_pure (X_pure (p₁.same h))))
  | some r =>
   obtain ⟨w, rfl, rv, IR₁⟩ := r'
   refine X_bind (wpX_any (ItRel.plain (C := C) (s := { s with heap := h₁, toks := tk }) IR₁ ?_))
   cases ha : assignT t r.1 lv with
   | none =>
    have h : seqS ((assignT t r.1 lv).bind _) _ = some out := h
    rw [ha] at h; exact nn h
   | some lv₁ =>
    have h : seqS ((assignT t r.1 lv).bind fun lv => execs C.T b ⟨hm, call⟩ lv hp) (loopF (forB C.T t b ⟨hm, call⟩) n r.2) = some out := h
    rw [ha] at h
    refine X_bind (assign_target XO.nm p₁.S.widen p₁.Hh H.fk hf h1 ha rv fun s₂ S₂ st₂ => ?_)
    have p₂ : Pt C A (rest ρ (ownOf env) h₁) (env :: outer) env lv₁ ρ { s with heap := h₁, toks := tk } ρ hp s₂ := ⟨S₂, ⟨List.prefix_refl _, st₂⟩, p₁.Hh.mono st₂⟩
    refine X_bind (X_mono (p₂.flow (ib env _ h2 hm outer A lv₁ H hf) h (fun lv₃ hp₃ ρ₃ s₃ h₃ p₃ => ?_) fun w s₃ z => ?_) (fun _ _ z => z) fun e s₃ z => RsG.trans (F := Fly g (env :: outer) env) p₁.X (RsS.narrow p₁.S z))
    ·obtain ⟨L₃, IR₃, _⟩ := keep_it (s := { s with heap := h₁, toks := tk }) p₁.S p₃.S p₃.X L IR₁
     exact X_pure ⟨rfl, ih r.2 lv₃ hp₃ ρ₃ s₃ h₃ ⟨p₁.S.narrow p₃.S, p₁.X.trans p₃.X, p₃.Hh⟩ IR₃ L₃⟩
    ·exact X_pure (OkS.trans p₁.X (OkS.narrow p₁.S z))
theorem ex_fori (XO : CxOk C) {t : Tg} {e : E} {b : Ss} (ie : ∀ hm, EvOk C d ⟨hm, call⟩ e) (ib : ExsOk C d call b) : ExOk C d call (.fori t e b) := fun env i hm hmode outer A lv H hf g ρ hp s out h S Hh => by
 obtain ⟨hq, h⟩ := ite_none h
 obtain ⟨h1, hm⟩ := and2 hm
 show wpX C.M A (PySem.exec (.For (toTg C.toDt t (i.kid 0)) (toX C.toDt e (i.kid 1)) (toSs C.toDt b (i.kid 2).kids) [] i.pos) env) _ _ s
 rw [arm_exec_For]
 refine X_at ?_
 have body : ∀ it hp₁ ρ₁ s₁ w v, itOf v hp₁ = some (.ok it hp₁) -> loopF (forB C.T t b ⟨hmode, call⟩) turns it lv hp₁ = some out -> Pt C A g (env :: outer) env lv ρ s ρ₁ hp₁ s₁ -> VRel ρ₁ s₁.heap v w ->
   wpX C.M A (pyIter w) (fun it s' => wpX C.M A (runOwn (.forLoop (toTg C.toDt t (i.kid 0)) it (toSs C.toDt b (i.kid 2).kids) [] env) env none) (OkS C g (env :: outer) env ρ s out) (RsS C g (env :: outer) env ρ s out) s') (RsS C g (env :: outer) env ρ s out) s₁ := fun it hp₁ ρ₁ s₁ w v q h p rv =>
  wpX_any (itOf_ok p.S rv q fun ob IR _ => by
   have k : ∀ b o, s₁.heap.get? b = some o -> (s₁.heap.push ob).get? b = some o := fun b o e => Heap.get?_push_of_some _ e
   have st := stable_of_keeps k
   exact runOwn_X hf noBy (for_loop XO ib h1 (and2 hm).2 (H.hn hq) (H : Here C hmode d (A.mark none) (env :: outer) env) hf turns it lv hp₁ ρ₁ _ h ⟨p.S.grow k s₁.toks, p.X.trans ⟨List.prefix_refl _, st⟩, p.Hh.mono st⟩ IR (p.S.loose (none_at_end _))))
 have done : ∀ w s₁, wpX C.M A (pyIter w) (fun it s' => wpX C.M A (runOwn (.forLoop (toTg C.toDt t (i.kid 0)) it (toSs C.toDt b (i.kid 2).kids) [] env) env none) (OkS C g (env :: outer) env ρ s out) (RsS C g (env :: outer) env ρ s out) s') (RsS C g (env :: outer) env ρ s out) s₁ ->
   wpX C.M A (foldedSetIterable (toX C.toDt e (i.kid 1)) env w >>= fun v => standAt (toX C.toDt e (i.kid 1)).pos >>= fun _ => holding [v] (pyIter v) >>= fun it => runOwn (.forLoop (toTg C.toDt t (i.kid 0)) it (toSs C.toDt b (i.kid 2).kids) [] env) env none) (OkS C g (env :: outer) env ρ s out) (RsS C g (env :: outer) env ρ s out) s₁ := fun w s₁ z => by
  rw [noFold]
  exact X_bind (X_pure (X_at (X_bind (X_holding z))))
 cases qe : ev C.T ⟨hmode, call⟩ e lv hp with
 | none =>
  have h : onV (P.bind (ev C.T ⟨hmode, call⟩ e lv) itOf hp) lv _ = some out := h
  unfold P.bind at h; rw [qe] at h; exact nn h
 | some o =>
  have h : onV (P.bind (ev C.T ⟨hmode, call⟩ e lv) itOf hp) lv (fun it hp => loopF (forB C.T t b ⟨hmode, call⟩) turns it lv hp) = some out := h
  unfold P.bind at h
  rw [qe] at h
  refine X_bind (X_mono (ie hmode env _ (and2 hm).1 _ A lv H g ρ hp s o qe S Hh) (fun w s₁ z => ?_) fun e s' z => ?_)
  ·cases o with
   | raise => exact z.elim
   | ok v hp₁ =>
    obtain ⟨ρ₁, S₁, X₁, rv⟩ := z
    cases qi : itOf v hp₁ with
    | none =>
     have h : onV (itOf v hp₁) lv _ = some out := h
     rw [qi] at h; exact nn h
    | some oi =>
     have h : onV (itOf v hp₁) lv (fun it hp => loopF (forB C.T t b ⟨hmode, call⟩) turns it lv hp) = some out := h
     obtain ⟨it, rfl⟩ := itOf_ok' qi
     rw [qi] at h
     exact done w s₁ (body it _ ρ₁ s₁ w v qi h ⟨S₁, X₁, Hh.mono X₁.st⟩ rv)
  ·cases o with
   | ok => exact z.elim
   | raise => rw [<- Option.some.inj h]; exact z
end
section
variable {M : Model} {A : Around} {E : Value -> Shared -> Prop} {s : Shared} {env : Env}
theorem X_try {body orelse : Sem Flow} {h₀ : ExceptHandler} {hs : List ExceptHandler} {Q : Flow -> Shared -> Prop}
  (h : wpX M A body (fun f s₁ => match f with | .next => wpX M A orelse Q E s₁ | f => Q f s₁)
   (fun e s₁ => wpX M A (noteFrame e env) (fun _ s₂ => wpX M A (setFlight e none) (fun _ s₃ => wpX M A (handleBy e env (h₀ :: hs)) Q E s₃) E s₂) E s₁) s) :
  wpX M A (tryStmt false body (h₀ :: hs) orelse [] env) Q E s := by
 unfold tryStmt
 simp only [List.isEmpty_nil, if_true, List.isEmpty_cons, Bool.false_and, Bool.false_eq_true, if_false]
 refine X_bind (X_attempt (X_mono h (fun f s₁ h₁ => ?_) fun e s₁ h₁ => ?_))
 ·cases f <;> first | exact h₁ | exact X_pure h₁
 ·exact X_bind (X_mono h₁ (fun _ _ h₂ => X_bind h₂) fun _ _ x => x)
theorem X_handleBy {e : Value} {t : Expr} {n : Str} {body : List Stmt} {pos : Pos} {rest : List ExceptHandler} {Q : Flow -> Shared -> Prop} (hnb : e ≠ byPass)
  (h : codeX M (A.mark (some e)) (.handlers e [.ExceptHandler (some t) none [] pos] env) (fun r s₁ => r = .ok .brk /\
   codeX M (A.mark (some e)) (.handlers e [.ExceptHandler none (some n) body pos] env) (fun r s₂ => match r with
    | .ok f => wpX M A (do bindName env n .none; unbindBehindTheSuite env n pos) (fun _ s₃ => Q f s₃) E s₂
    | .error _ => False) s₁) s) :
  wpX M A (handleBy e env (.ExceptHandler (some t) (some n) body pos :: rest)) Q E s := by
 rw [handleBy]
 have hnb' : (some e : Option Value) ≠ some byPass := fun x => hnb (Option.some.inj x)
 refine X_bind (X_holding ?_)
 unfold runOwn
 refine X_onRaise (X_run (codeX_mono h (fun r s₁ h₁ => ?_)) hnb')
 obtain ⟨rfl, h₁⟩ := h₁
 refine X_bind (X_pure ?_)
 simp only [Bool.not_true, Bool.false_eq_true, if_false]
 refine X_bind (X_holding ?_)
 refine X_onRaise (X_run (codeX_mono h₁ (fun r s₂ h₂ => ?_)) hnb')
 cases r with
 | error x => exact h₂.elim
 | ok f => exact X_bind (X_holding (X_mono h₂ (fun _ s₃ h₃ => X_pure h₃) fun _ _ x => x))
end
section
variable {C : Cx} {g : Base} {envs : List Env} {outer : List Env} {env : Env} {ρ ρ' ρ₀ : Env2} {lv lv' : Loc} {hp hp' : Hp} {s s' s₀ : Shared} {A : Around} {d : Nat} {call : Bool -> Nat -> List V -> P V}
theorem sub_type_tuple : isSubtype (.type "type") (.type "tuple") = pure false := by rw [isSubtype_type]; kernel_rfl
theorem matches_ok (XO : CxOk C) (XX : CxExc C) {E : Value -> Shared -> Prop} (S : St C g envs env ρ lv hp s) {i : Nat} {x dx : Addr} {c : Nat} {fs : List (Nat × V)} (hi : ρ[i]? = some (x, dx)) (ho : hp[i]? = some (.exc c fs)) {Q : Bool -> Shared -> Prop} (h : Q true s) :
  wpX C.M A (excMatches (.ref x) (.ref (C.ea c))) Q E s := by
 have KI := S.kin XO.toCxCls
 obtain ⟨⟨o, vs, e1, e2, e3, e4, e5⟩, _⟩ := S.R.led i _ _ hi ho
 obtain ⟨oc, od, cd, sl, hc, _⟩ := XO.excCls c
 have isT : ∀ {Q : Bool -> Shared -> Prop}, Q true s -> wpX C.M A (isType (.ref (C.ea c))) Q E s := fun hq => wpX_any (by
  unfold isType
  exact wpAny_bind (wpAny_loadPart (KI _ _ hc) (wpAny_pure hq)))
 have tyO : ∀ {Q : Value -> Shared -> Prop}, Q (.ref (C.ea c)) s -> wpX C.M A (typeOf (.ref x)) Q E s := fun hq => wpX_any (by
  refine wpAny_bind (wpAny_loadPart e1 (wpAny_pure ?_))
  rw [e2]; exact hq)
 unfold excMatches
 refine X_bind (m := isInstance (.ref (C.ea c)) (.type "tuple")) ?_
 unfold isInstance
 refine X_bind (X_looks (looks_typeIn KI (XX.typ c)) ?_)
 rw [sub_type_tuple]
 refine X_pure (X_if_false rfl (X_bind (X_pure ?_)))
 simp only [List.forIn_cons, List.forIn_nil]
 refine X_bind (X_bind ?_)
 unfold isExcClass
 refine X_bind ?_
 refine X_bind (isT ?_)
 refine X_if_true rfl (X_looks (looks_subIn KI (XO.sub c)) ?_)
 refine X_if_false rfl (X_pure (X_pure ?_))
 refine X_bind (tyO ?_)
 refine X_bind (X_bind (X_bind (X_looks (looks_subIn KI (XX.self c)) (X_if_true rfl (X_pure (X_pure ?_))))))
 exact X_pure h
end
section
variable {C : Cx} {g : Base} {envs : List Env} {outer : List Env} {env : Env} {ρ ρ' ρ₀ : Env2} {lv lv' : Loc} {hp hp' : Hp} {s s' s₀ : Shared} {M : Model} {A : Around} {d : Nat} {call : Bool -> Nat -> List V -> P V}
theorem cell_ne {h : Heap} {a c : Addr} {u : Option Value} {m : Str -> Option Value} (hn : h.Ns a m) (hc : h.IsCell c u) : c ≠ a := fun q => Ns_notCell hn (q ▸ hc)
theorem Ns_data {h : Heap} {a : Addr} {m : Str -> Option Value} (hn : h.Ns a m) : ∃ o, h.get? a = some o /\ imm o = false /\ ∀ vs, o.data ≠ .fields vs := by
 obtain ⟨o, es, ep, e1, e2, _⟩ := hn
 exact ⟨o, e1, by rw [imm, e2], fun vs q => nomatch e2.symm.trans q⟩
theorem unbind_name {E : Value -> Shared -> Prop} (inj : ∀ i j, C.nm i = C.nm j -> i = j) (S : St C g envs env ρ lv hp s) (hk : env.scope.kind = .function) {y : Nat} {v : V} (hy : lv.lookup y = some v) (hl : env.kindOf (C.nm y) = some .local) {Q : Unit -> Shared -> Prop}
  (h : ∀ s', St C g envs env ρ (dropL y lv) hp s' -> Stable s.heap s'.heap -> Q () s') : wpAny M A (unbindName env (C.nm y)) Q E s := by
 obtain ⟨m, hn, hm⟩ := S.R.loc.map
 have L := S.R.loc
 obtain ⟨w, hw, _⟩ := hm y v hy hl
 refine wpAny_unbindName_local hl hn hw (by rw [hk]; rfl) fun h' u₀ hn' hs' => ?_
 have drop : ∀ {i : Nat} {u : V}, (dropL y lv).lookup i = some u -> i ≠ y /\ lv.lookup i = some u := fun {i u} e => by
  rw [lookup_drop] at e
  by_cases z : i = y
  ·rw [if_pos z] at e; exact nn e
  ·rw [if_neg z] at e; exact ⟨z, e⟩
 obtain ⟨R', st⟩ := S.R.ownUpd (lv' := dropL y lv) (a := env.locals) List.mem_cons_self (fun b o q e => (hs'.2 b q).trans e) (fun o e => ⟨Ns_plain hn e, Ns_data hn'⟩) fun st => by
   refine ⟨⟨_, hn', fun i u e q => ?_⟩, fun i u e q => ?_, fun y hy => (L.all y hy).elim fun u hc => ⟨u, hc.sameBut hs' (cell_ne hn hc)⟩, L.has⟩
   ·obtain ⟨z, e⟩ := drop e
    obtain ⟨w', e', r⟩ := hm i u e q
    exact ⟨w', (if_neg fun y => z (inj _ _ y)).trans e', r.mono (List.prefix_refl _) st⟩
   ·obtain ⟨z, e⟩ := drop e
    obtain ⟨c, w', e1, hc, r⟩ := L.cel i u e q
    exact ⟨c, w', e1, hc.sameBut hs' (cell_ne hn hc), r.mono (List.prefix_refl _) st⟩
 exact h _ ⟨R', S.gens, S.os⟩ st
theorem unbind_after {E : Value -> Shared -> Prop} (N : NmOk C.toDt) (S : St C g envs env ρ lv hp s) (hk : env.scope.kind = .function) {y : Nat} {pos : Pos} (hl : env.scope.names.lookup (C.nm y) = some .local) {Q : Unit -> Shared -> Prop}
  (h : ∀ s', St C g envs env ρ (dropL y lv) hp s' -> Stable s.heap s'.heap -> Q () s') : wpX C.M A (do bindName env (C.nm y) .none; unbindBehindTheSuite env (C.nm y) pos) Q E s := by
 refine X_bind (X_storeName (wpX_any (store_name N.inj S hk (.inl hl) (v := .none) rfl fun s₁ S₁ st₁ => ?_)))
 unfold unbindBehindTheSuite
 refine X_onRaise (wpX_any (unbind_name N.inj S₁ hk (v := .none) (by rw [Rel.lookup_set, if_pos rfl]) hl fun s₂ S₂ st₂ => ?_))
 refine h s₂ (S₂.congr fun i => ?_) (st₁.trans st₂)
 rw [lookup_drop, lookup_drop, Rel.lookup_set]
 by_cases z : i = y
 ·rw [if_pos z, if_pos z]
 ·rw [if_neg z, if_neg z, if_neg z]
theorem after_ok {E : Value -> Shared -> Prop} (N : NmOk C.toDt) (hk : env.scope.kind = .function) {y : Nat} {pos : Pos} (hl : env.scope.names.lookup (C.nm y) = some .local) {o out : OutS} (h : handled y o = some out) {f : Flow} (X : Ext ρ₀ s₀.heap ρ s.heap) (z : OkS C g envs env ρ s o f s') :
  wpX C.M A (do bindName env (C.nm y) .none; unbindBehindTheSuite env (C.nm y) pos) (fun _ s₇ => OkS C g envs env ρ₀ s₀ out f s₇) E s' := by
 cases o with
 | next lv hp =>
  obtain ⟨ρ₆, S₆, X₆, rfl⟩ := z
  rw [<- Option.some.inj h]
  exact unbind_after N S₆ hk hl fun s₇ S₇ st₇ => ⟨ρ₆, S₇, (X.trans X₆).trans ⟨List.prefix_refl _, st₇⟩, rfl⟩
 | ret v lv hp =>
  obtain ⟨ρ₆, S₆, X₆, w, rfl, rv⟩ := z
  rw [<- Option.some.inj h]
  exact unbind_after N S₆ hk hl fun s₇ S₇ st₇ => ⟨ρ₆, S₇, (X.trans X₆).trans ⟨List.prefix_refl _, st₇⟩, w, rfl, rv.mono (List.prefix_refl _) st₇⟩
 | raise => exact z.elim
theorem handler_ok (XO : CxOk C) (XX : CxExc C) {h : Ss} {cn c y i : Nat} {is : List IT} {hpos np : Pos} (ih : ExsOk C d call h) (hf : isFn env = true) {hmode : Bool} (H : Here C hmode d A (env :: outer) env) (h1 : gloOk env.scope (C.nm cn) = true) (h2 : C.gl cn = some (.exc c)) (h5 : env.scope.names.lookup (C.nm y) = some .local) (h7 : okSs C.toDt env.scope h is = true)
  (p : Pt C A g (env :: outer) env lv ρ₀ s₀ ρ hp s) {x dx : Addr} {fs : List (Nat × V)} (hi : ρ[i]? = some (x, dx)) (ho : hp[i]? = some (.exc c fs)) (F : Fly g (env :: outer) env ρ s.heap x) {o out : OutS} (q : execs C.T h ⟨true, call⟩ (setL y (.ref i) lv) hp = some o) (hout : handled y o = some out) {E : Value -> Shared -> Prop} :
  wpX C.M A (noteFrame (.ref x) env) (fun _ s₂ => wpX C.M A (setFlight (.ref x) none) (fun _ s₃ => wpX C.M A (handleBy (.ref x) env [.ExceptHandler (some (.Name (C.nm cn) np)) (some (C.nm y)) (toSs C.toDt h is) hpos]) (OkS C g (env :: outer) env ρ₀ s₀ out) E s₃) E s₂) E s := by
 refine wpX_any (note_ok p.S H.frames hf hi ho F fun s₂ S₂ X₂ F₂ => ?_)
 refine wpX_any (setFlight_ok S₂ hf hi ho F₂ fun s₃ S₃ X₃ F₃ => ?_)
 have X₃' := (p.X.trans X₂).trans X₃
 have H' : Here C true d (A.mark (some (.ref x))) (env :: outer) env := ⟨H.frames, H.depth, H.units, (fun z => nomatch z), H.fk, H.gl, H.bu, H.frm⟩
 refine X_handleBy (fun z => nomatch z) (codeX_of_tree rfl ?_)
 show wpX C.M (A.mark (some (.ref x))) ((handleWith (.ref x) env [.ExceptHandler (some (.Name (C.nm cn) np)) none [] hpos]).onRaise (fun x => do noteFrame x env; theTreesLotGoes x) >>= fun f => pure (Fin.done f)) _ _ s₃
 refine X_bind (X_onRaise ?_)
 unfold handleWith
 refine X_at (X_bind (eval_global XO S₃ H' h2 h1 rfl (X_at (X_bind (matches_ok XO XX S₃ hi ho (X_pure (X_pure ⟨rfl, codeX_of_tree rfl ?_⟩)))))))
 show wpX C.M (A.mark (some (.ref x))) ((handleWith (.ref x) env [.ExceptHandler none (some (C.nm y)) (toSs C.toDt h is) hpos]).onRaise (fun x => do noteFrame x env; theTreesLotGoes x) >>= fun f => pure (Fin.done f)) _ _ s₃
 refine X_bind (X_onRaise ?_)
 unfold handleWith
 refine X_at (X_bind (wpX_any (setFlight_ok S₃ hf hi ho F₃ fun s₄ S₄ X₄ F₄ => ?_)))
 refine X_bind (X_storeName (wpX_any (store_name XO.nm.inj S₄ H.fk (.inl h5) (v := .ref i) ⟨x, dx, rfl, hi⟩ fun s₅ S₅ st₅ => ?_)))
 have X₅ := (X₃'.trans X₄).trans ⟨List.prefix_refl _, st₅⟩
 have Hh₅ : Han (A.mark (some (.ref x))) s₅.heap := by
  obtain ⟨⟨o, vs, e1, e2, e3, e4, e5⟩, _⟩ := S₅.R.led i _ _ hi ho
  exact .inr ⟨x, o, rfl, e1, e5⟩
 refine X_bind (X_attempt (X_mono (ih env _ h7 true outer _ _ H' hf g ρ hp s₅ _ q S₅ Hh₅) (fun f s₆ z => X_pure (X_pure (after_ok XO.nm H.fk h5 hout X₅ z))) fun e s₆ z => ?_))
 cases o with
 | raise => exact nn hout
 | _ => exact z.elim
theorem ex_tryx (XO : CxOk C) (XX : CxExc C) {b h : Ss} {cn c y : Nat} (ib : ExsOk C d call b) (ih : ExsOk C d call h) : ExOk C d call (.tryx b cn c y h) := fun env i hm hmode outer A lv H hf g ρ hp s out hx S Hh => by
 obtain ⟨h1, hm⟩ := and2 hm
 obtain ⟨h2, hm⟩ := and2 hm
 obtain ⟨h5, hm⟩ := and2 hm
 obtain ⟨hq, hx⟩ := ite_none hx
 obtain ⟨o, q, hx⟩ := Option.bind_eq_some_iff.mp hx
 show wpX C.M A (PySem.exec (.Try (toSs C.toDt b (i.kid 0).kids) [.ExceptHandler (some (.Name (C.nm cn) ((i.kid 1).kid 0).pos)) (some (C.nm y)) (toSs C.toDt h ((i.kid 1).kid 1).kids) (i.kid 1).pos] [] [] i.pos) env) _ _ s
 rw [arm_exec_Try]
 refine X_at (X_try (X_mono (ib env _ (and2 hm).1 hmode outer A lv H hf g ρ hp s _ q S Hh) (fun f s₁ z => ?_) fun e s₁ z => ?_))
 ·cases o with
  | next lv' hp' =>
   obtain ⟨ρ', S', X', rfl⟩ := z
   rw [<- Option.some.inj hx]
   exact X_pure ⟨ρ', S', X', rfl⟩
  | ret v lv' hp' =>
   rw [<- Option.some.inj hx]
   obtain ⟨ρ', S', X', w, rfl, rv⟩ := z
   exact ⟨ρ', S', X', w, rfl, rv⟩
  | raise => exact z.elim
 ·cases o with
  | raise j lv' hp' =>
   refine cps fun G_ f_ => ?_
   obtain ⟨ρ', x, dx, S', X', hi, ⟨c', fs, ho⟩, rfl, F⟩ := z
   obtain ⟨c₂, ec, hx⟩ := Option.bind_eq_some_iff.mp hx
   obtain ⟨rfl, hx'⟩ := ite_some hx
   obtain ⟨o₂, q₂, hx'⟩ := Option.bind_eq_some_iff.mp hx'
   obtain ⟨fs', ho'⟩ := excAt_some ec
   refine f_ ?_
   clear f_ G_
   exact handler_ok XO XX ih hf H h1 (Dt.isGl_eq h2) (eq_of_beq h5) (and2 hm).2 ⟨S', X', Hh.mono X'.st⟩ hi ho' F q₂ hx'
  | _ => exact z.elim
end
section
variable {C : Cx} {d : Nat} {call : Bool -> Nat -> List V -> P V} (XO : CxOk C) (XX : CxExc C) (XN : ExcNew C) (CO : CallOk C d call)
theorem ex_raise' (XO : CxOk C) (XX : CxExc C) (XN : ExcNew C) (ia : ∀ as hm, EvsOk C d ⟨hm, call⟩ as) (e : E) : ExOk C d call (.raise e) := fun env i hm => by
 have hq := (and2 hm).1
 cases e with
 | callg n G as => cases G with
  | exc c => exact ex_raise XO XX XN (ia as) env i hm
  | _ => exact Bool.noConfusion (show false = true from hq)
 | _ => exact Bool.noConfusion (show false = true from hq)
include XO XX XN CO
theorem ev_all (e : E) (hm : Bool) : EvTr C d ⟨hm, call⟩ e := ev_ok XO XN.mk CO e
mutual
theorem exec_ok : ∀ st : S, ExOk C d call st
 | .expr e => ex_expr fun hm => (ev_all XO XX XN CO e hm).1
 | .assign (.one y) e => ex_assign1 XO XN.mk CO
 | .assign (.many ys) e => ex_assignMany XO fun hm => (ev_all XO XX XN CO e hm).1
 | .assignA o a e => ex_assignA XO (fun hm => (ev_all XO XX XN CO o hm).1) fun hm => (ev_all XO XX XN CO e hm).1
 | .aug y op e => ex_aug XO fun hm => (ev_all XO XX XN CO e hm).1
 | .augsub o i op e => ex_augsub (fun hm => (ev_all XO XX XN CO o hm).1) (fun hm => (ev_all XO XX XN CO i hm).1) fun hm => (ev_all XO XX XN CO e hm).1
 | .ite t b o => ex_ite (fun hm => (ev_all XO XX XN CO t hm).2) (execs_ok b) (execs_ok o)
 | .whil t b => ex_whil (fun hm => (ev_all XO XX XN CO t hm).2) (execs_ok b)
 | .fori t e b => ex_fori XO (fun hm => (ev_all XO XX XN CO e hm).1) (execs_ok b)
 | .ret e => ex_ret fun hm => (ev_all XO XX XN CO e hm).1
 | .raise e => ex_raise' XO XX XN (fun as hm => (evs_ok (x := ⟨hm, call⟩) XO XN.mk CO as).1) e
 | .tryx b cn c y hd => ex_tryx XO XX (execs_ok b) (execs_ok hd)
theorem execs_ok : ∀ ss : Ss, ExsOk C d call ss
 | .nil => exs_nil
 | .cons s r => exs_cons (exec_ok s) (execs_ok r)
end
end
section
variable {kindOf : Str -> Option NameKind}
theorem lookup_notMem {α : Type} : ∀ {l : List (Str × α)} {n : Str}, n ∉ l.map (·.1) -> l.lookup n = none
 | [], _, _ => rfl
 | (a, v) :: r, n, h => by
  rw [List.lookup_cons, beq_eq_false_iff_ne.mpr fun q : n = a => h (q ▸ List.mem_cons_self)]
  exact lookup_notMem fun q => h (List.mem_cons_of_mem _ q)
theorem bindL_or (n : Str) (hk : kindOf n = some .local) : ∀ (binds : List (Str × Value)) (m : Str -> Option Value), (binds.map (·.1)).Nodup -> bindL kindOf binds m n = (binds.lookup n).or (m n)
 | [], _, _ => rfl
 | (a, v) :: r, m, hd => by
  obtain ⟨h1, h2⟩ := List.nodup_cons.mp hd
  rw [bindL, bindL_or n hk r _ h2, List.lookup_cons]
  by_cases z : n = a
  ·subst z
   rw [lookup_notMem h1, if_pos hk, beq_self_eq_true]
   exact if_pos rfl
  ·rw [beq_eq_false_iff_ne.mpr z]
   by_cases q : kindOf a = some .local
   ·rw [if_pos q]; exact congrArg (Option.or (r.lookup n)) (if_neg z)
   ·rw [if_neg q]
theorem bindL_at {binds : List (Str × Value)} {m : Str -> Option Value} {n : Str} {v : Value} (hk : kindOf n = some .local) (hd : (binds.map (·.1)).Nodup) (h : binds.lookup n = some v) : bindL kindOf binds m n = some v := by
 rw [bindL_or n hk binds m hd, h]; rfl
theorem bindC_or (n : Str) (hk : kindOf n ≠ some .local) : ∀ (binds : List (Str × Value)) (m : Str -> Option Value), (binds.map (·.1)).Nodup -> bindC kindOf binds m n = (binds.lookup n).or (m n)
 | [], _, _ => rfl
 | (a, v) :: r, m, hd => by
  obtain ⟨h1, h2⟩ := List.nodup_cons.mp hd
  rw [bindC, bindC_or n hk r _ h2, List.lookup_cons]
  by_cases z : n = a
  ·subst z
   rw [lookup_notMem h1, if_neg hk, beq_self_eq_true]
   exact if_pos rfl
  ·rw [beq_eq_false_iff_ne.mpr z]
   by_cases q : kindOf a = some .local
   ·rw [if_pos q]
   ·rw [if_neg q]; exact congrArg (Option.or (r.lookup n)) (if_neg z)
theorem bindC_at {binds : List (Str × Value)} {m : Str -> Option Value} {n : Str} {v : Value} (hk : kindOf n ≠ some .local) (hd : (binds.map (·.1)).Nodup) (h : binds.lookup n = some v) : bindC kindOf binds m n = some v := by
 rw [bindC_or n hk binds m hd, h]; rfl
theorem args_at {nm : Nat -> Str} (inj : ∀ i j, nm i = nm j -> i = j) {ρ : Env2} {h : Heap} {i : Nat} {v : V} : ∀ {ps : List Nat} {vs : List V} {ws : List Value}, VRels ρ h vs ws -> (ps.zip vs).lookup i = some v -> ∃ w, ((ps.map nm).zip ws).lookup (nm i) = some w /\ VRel ρ h v w
 | [], _, _, _, e => nn e
 | _ :: _, [], _, _, e => nn e
 | p :: ps, u :: vs, _, x, e => by
  obtain ⟨w, ws, rfl, hv, hs⟩ := x
  rw [List.zip_cons_cons, List.lookup_cons] at e
  rw [List.map_cons, List.zip_cons_cons, List.lookup_cons]
  by_cases z : i = p
  ·rw [z, beq_self_eq_true] at e
   rw [z, beq_self_eq_true]
   exact ⟨w, rfl, Option.some.inj e ▸ hv⟩
  ·rw [beq_eq_false_iff_ne.mpr z] at e
   rw [beq_eq_false_iff_ne.mpr fun q => z (inj _ _ q)]
   exact args_at inj hs e
theorem cellsFrom_keys : ∀ (names : List (Str × NameKind)) (n : Nat) (acc : List (Str × Addr)), (names.map (·.1)).Nodup -> (∀ x ∈ names, x.1 ∉ acc.map (·.1)) -> (acc.map (·.1)).Nodup -> ((cellsFrom n names acc).map (·.1)).Nodup
 | [], _, _, _, _, h => h
 | (name, kind) :: r, n, acc, hd, ha, h => by
  rw [List.map_cons, List.nodup_cons] at hd
  rw [cellsFrom]
  split
  ·refine cellsFrom_keys r _ _ hd.2 (fun x hx q => ?_) ?_
   ·rw [List.map_cons] at q
    rcases List.mem_cons.mp q with q | q
    ·exact hd.1 (q ▸ List.mem_map.mpr ⟨x, hx, rfl⟩)
    ·exact ha x (List.mem_cons_of_mem _ hx) q
   ·rw [List.map_cons, List.nodup_cons]
    exact ⟨ha _ List.mem_cons_self, h⟩
  ·exact cellsFrom_keys r _ _ hd.2 (fun x hx => ha x (List.mem_cons_of_mem _ hx)) h
theorem lookup_of_memN {α : Type} : ∀ {l : List (Str × α)} {n : Str} {c : α}, (l.map (·.1)).Nodup -> (n, c) ∈ l -> l.lookup n = some c
 | (a, v) :: r, n, c, hd, h => by
  obtain ⟨h1, h2⟩ := List.nodup_cons.mp hd
  rw [List.lookup_cons]
  rcases List.mem_cons.mp h with h | h
  ·rw [(Prod.mk.inj h).1, (Prod.mk.inj h).2, beq_self_eq_true]
  ·rw [beq_eq_false_iff_ne.mpr fun q : n = a => h1 (q ▸ List.mem_map.mpr ⟨_, h, rfl⟩)]
   exact lookup_of_memN h2 h
end
section
variable {prog : Program} {w : World} {A : Around} {R : Result -> Shared -> Prop} {s : Shared}
theorem codeX_func {body : List Stmt} {env : Env}
  (h : wpX (model prog w) (A.deeper env) (PySem.execs body env) (fun f s' => R (.ok (.ret (match f with | .ret v => v | _ => .none))) s')
   (fun e s' => wpX (model prog w) (A.deeper env) (leaving env e) (fun _ s'' => R (.error e) s'') (fun e' s'' => R (.error e') s'') s') s) :
  codeX (model prog w) A (.func body env) R s := by
 refine codeX_of_tree rfl ?_
 show wpX _ (A.deeper env) (do point; match <- (PySem.execs body env).onRaise (leaving env) with | .ret v => ret v | _ => ret .none) _ _ s
 refine X_bind (X_point (X_bind (X_onRaise (X_mono h (fun f s' h' => ?_) fun _ _ h' => h'))))
 cases f <;> exact X_pure h'
theorem codeX_call_function {a : Addr} {args : Args} {o : Obj} {fd : FuncData} {body : List Stmt} (hroom : A.depth < recursionLimit)
  (ho : s.heap.get? a = some o)
  (hd' : o.data = .func fd) (hco : fd.scope.isCoroutine = false) (hgen : fd.scope.isGenerator = false) (hbody : fd.body = .stmts body) (hcd : s.heap.CodeRec fd.code fd.qualname)
  (h : wpX (model prog w) A.in1 (bindArgs fd args) (fun binds s₁ =>
   wpX (model prog w) A.in1 (newFunctionEnv fd.scope fd.globals fd.closure binds (fd.qualname ++ ".<locals>.") (some a) fd.code none fd.builtins)
    (fun env s₂ => s₂.heap.NoLimit /\ codeX (model prog w) A (.func body env) R s₂) (fun e s' => R (.error e) s') s₁) (fun e s' => R (.error e) s') s) :
  codeX (model prog w) A (.call (.ref a) args) R s := by
 refine codeX_of_tree rfl ?_
 show wpX _ A.in1 (callAny (.ref a) args) _ _ s
 simp only [callAny]
 refine X_bind (wpX_any (wpAny_load ho ?_))
 refine cps fun G_ f_ => ?_
 obtain ⟨c, oc, vs, tq, hc, hoc, hdc, hq⟩ := hcd
 refine f_ ?_
 clear f_ G_
 simp only [hd', callFunction, hco, hgen, hbody, hc]
 rw [hc] at h
 refine X_bind (m := field (.ref c) 1) (wpX_any (wpAny_field hoc hdc hq ?_))
 refine X_bind (X_pure ?_)
 exact X_bind (X_mono h (fun binds s₁ h₁ => X_bind (X_mono h₁ (fun env s₂ h₂ => X_bind (wpX_any (wpAny_enterFrame h₂.1 hroom
  (X_pure (And.intro rfl h₂.2))))) fun _ _ h' => h')) fun _ _ h' => h')
end
structure CxFn (C : Cx) : Prop where
 names : ∀ f r fd o, C.T.fn f = some r -> C.K.lookup (C.fa f) = some o -> o.data = .func fd -> (fd.scope.names.map (·.1)).Nodup
section
variable {C : Cx} {g : Base} {envs : List Env} {fenv env : Env} {ρ ρ' : Env2} {lv lv' : Loc} {hp hp' : Hp} {h h' : Heap} {s s' : Shared} {A : Around} {d : Nat}
theorem Loose.leave (R : Rel C g envs env ρ lv hp h) (p : ρ <+: ρ') {a : Addr} (L : Loose (rest ρ [] h) (fenv :: envs) fenv ρ' a) : Loose g envs env ρ' a := by
 have hn : h.get? a = none := by
  rcases rest_is_none L.g with q | q | ⟨p', hm, q⟩
  ·exact q
  ·exact nomatch q
  ·obtain ⟨i, hi, e⟩ := List.mem_iff_getElem.mp hm
   have := L.led i p' (getElem?_pre p (by rw [List.getElem?_eq_getElem hi, e]))
   exact (q.elim this.1 this.2).elim
 obtain ⟨h1, h2, h3⟩ := R.notIn hn
 exact ⟨h1, h2, h3, L.led⟩
def DoneR (C : Cx) (G : Base) (envs : List Env) (fenv : Env) (ρ' : Env2) (lv' : Loc) (out : Out V) (r : Result) (s' : Shared) : Prop := match out with
 | .ok v hp' => St C G (fenv :: envs) fenv ρ' lv' hp' s' /\ ∃ w, r = .ok (.ret w) /\ VRel ρ' s'.heap v w
 | .raise i hp' => St C G (fenv :: envs) fenv ρ' lv' hp' s' /\ ∃ x dx, ρ'[i]? = some (x, dx) /\ (∃ c fs, hp'[i]? = some (.exc c fs)) /\ r = .error (.ref x) /\ ∃ f, FlyAt G (fenv :: envs) fenv ρ' s'.heap x f
def Done (C : Cx) (G : Base) (envs : List Env) (ρ : Env2) (h : Heap) (out : Out V) (r : Result) (s' : Shared) : Prop :=
 ∃ fenv lv' ρ', fenv.frame = some fenv.locals /\ h.get? fenv.locals = none /\ Ext ρ h ρ' s'.heap /\ DoneR C G envs fenv ρ' lv' out r s'
theorem of_outS {m : Option OutS} {out : Out V} (h : m.map outS = some out) : ∃ o, m = some o /\ outS o = out := Option.map_eq_some_iff.mp h
theorem fn_loc (N : NmOk C.toDt) {s₁ : Shared} {ps : List Nat} {args : List V} {ws : List Value} {names : List (Str × NameKind)} {n0 : Nat} (hcells : fenv.cells = cellsFrom n0 names []) (hsc : fenv.scope.names = names) (nodupN : (names.map (·.1)).Nodup)
  (hnd : (((ps.map C.nm).zip ws).map (·.1)).Nodup) (IC : InCallC s fenv.locals (bindL fenv.kindOf ((ps.map C.nm).zip ws) fun _ => none) fenv.cells (bindC fenv.kindOf ((ps.map C.nm).zip ws) fun _ => none) s₁) {h₁ : Heap} (eh : s₁.heap = h₁) (rv₁ : VRels ρ h₁ args ws) : LocRel C.toDt fenv ρ (ps.zip args) h₁ := by
 subst eh
 have ckeys : (fenv.cells.map (·.1)).Nodup := by
  rw [hcells]; exact cellsFrom_keys _ _ _ nodupN (fun x _ q => nomatch q) List.nodup_nil
 have has : ∀ n, fenv.kindOf n = some .cell -> (fenv.cells.lookup n).isSome = true := fun n q => by rw [hcells]; exact cellsFrom_some _ _ _ (.inl (hsc ▸ q))
 refine ⟨⟨_, IC.toInCall.ns, fun i v e q => ?_⟩, fun i v e q => ?_, fun x hx => ⟨_, IC.cell x.1 x.2 (lookup_of_memN ckeys hx)⟩, has⟩
 ·obtain ⟨w, e1, r1⟩ := args_at N.inj rv₁ e
  exact ⟨w, bindL_at q hnd e1, r1⟩
 ·obtain ⟨w, e1, r1⟩ := args_at N.inj rv₁ e
  obtain ⟨c, hc⟩ := Option.isSome_iff_exists.mp (has _ q)
  have hb := bindC_at (kindOf := fenv.kindOf) (m := fun _ => none) (by rw [q]; exact fun z => nomatch Option.some.inj z) hnd e1
  exact ⟨c, w, hc, hb ▸ IC.cell _ _ hc, r1⟩
def EnterOk (C : Cx) (G : Base) (envs : List Env) (ρ : Env2) (hp : Hp) (h : Heap) : Prop := ∀ (fenv : Env) (lv0 : Loc) (h₁ : Heap), (∀ b o, h.get? b = some o -> h₁.get? b = some o) -> fenv.scope.kind = .function -> fenv.frame = some fenv.locals -> (∀ a ∈ ownOf fenv, h.get? a = none) ->
   (∃ o, h₁.get? fenv.locals = some o /\ imm o = false /\ ∀ vs, o.data ≠ .fields vs) -> LocRel C.toDt fenv ρ lv0 h₁ -> (fenv.cells.Pairwise fun x y => x.2 ≠ y.2) -> Rel C G (fenv :: envs) fenv ρ lv0 hp h₁
theorem body_ok (XO : CxOk C) (XX : CxExc C) (XN : ExcNew C) (CO : CallOk C d (callF C.T d)) {hm : Bool} {b : Ss} {its : List IT} {o : OutS} {G : Base} {h₀ : Heap} (hok : okSs C.toDt fenv.scope b its = true) (H : Here C hm d A (fenv :: envs) fenv) (hfr : fenv.frame = some fenv.locals) (hL : h₀.get? fenv.locals = none) (X₀ : Ext ρ h₀ ρ s.heap)
  (q : execs C.T b ⟨hm, callF C.T d⟩ lv hp = some o) (S : St C G (fenv :: envs) fenv ρ lv hp s) (Hh : Han A s.heap) :
  wpX C.M A (PySem.execs (toSs C.toDt b its) fenv) (fun f s' => Done C G envs ρ h₀ (outS o) (.ok (.ret (match f with | .ret v => v | _ => .none))) s')
   (fun e s' => wpX C.M A (leaving fenv e) (fun _ s'' => Done C G envs ρ h₀ (outS o) (.error e) s'') (fun e' s'' => Done C G envs ρ h₀ (outS o) (.error e') s'') s') s := by
 have hfn : isFn fenv = true := by unfold isFn; rw [hfr]; exact beq_self_eq_true _
 refine X_mono (execs_ok XO XX XN CO b fenv its hok hm envs A lv H hfn G ρ hp s o q S Hh) (fun fl s' z => ?_) fun e s' z => ?_
 ·cases o with
  | next lv' hp' =>
   obtain ⟨ρ', S', X', rfl⟩ := z
   exact ⟨fenv, lv', ρ', hfr, hL, X₀.trans X', S', .none, rfl, rfl⟩
  | ret v lv' hp' =>
   obtain ⟨ρ', S', X', w, rfl, r'⟩ := z
   exact ⟨fenv, lv', ρ', hfr, hL, X₀.trans X', S', w, rfl, r'⟩
  | raise => exact z.elim
 ·cases o with
  | raise i lv' hp' =>
   refine cps fun G_ f_ => ?_
   obtain ⟨ρ', x, dx, S', X', hi, ⟨c, fs, hoe⟩, rfl, Fl⟩ := z
   refine f_ ?_
   clear f_ G_
   unfold leaving
   refine X_bind (wpX_any (note_ok S' H.frames hfn hi hoe Fl fun s₂ S₂ X₂ F₂ => ?_))
   exact wpX_any (setFlight_ok S₂ hfn hi hoe F₂ fun s₃ S₃ X₃ F₃ => ⟨fenv, lv', ρ', hfr, hL, X₀.trans ((X'.trans X₂).trans X₃), S₃, x, dx, hi, ⟨c, fs, hoe⟩, rfl, _, F₃⟩)
  | _ => exact z.elim
theorem block_ok (XO : CxOk C) (XX : CxExc C) (XN : ExcNew C) (XF : CxFn C) (CO : CallOk C d (callF C.T d)) {hm : Bool} {f : Nat} {args : List V} {out : Out V} (h : callF C.T (d + 1) hm f args hp = some out) {G : Base} {ws : List Value}
  (KI : C.K.In s.heap) (lim : s.heap.NoLimit) (hA : A.frames = some envs) (hdep : A.depth + 2 * (d + 1) + 2 < recursionLimit) (hun : A.units + 4 * (d + 1) + 100 < cLine) (hhn : hm = false -> A.handled = none) (Hh : Han A s.heap) (rv : VRels ρ s.heap args ws)
  (gens : s.gens = #[]) (os : s.os = C.os) (enter : EnterOk C G envs ρ hp s.heap) :
  codeX C.M A (.call (.ref (C.fa f)) ⟨ws, []⟩) (Done C G envs ρ s.heap out) s := by
 refine cps fun G_ f_ => ?_
 obtain ⟨r, hr, h⟩ := Option.bind_eq_some_iff.mp h
 obtain ⟨hlen, h⟩ := ite_some h
 obtain ⟨ob, hb, h⟩ := of_outS h
 obtain ⟨fd, body, F⟩ := XO.fn f r hr
 obtain ⟨o, ho, hd⟩ := F.obj
 obtain ⟨its, hbody, hok⟩ := F.mt
 refine f_ ?_
 clear f_ G_
 have lws : ws.length = r.ps.length := rv.length.trans hlen.symm
 have hbn : (((r.ps.map C.nm).zip ws).map (·.1)) = r.ps.map C.nm := List.map_fst_zip (by rw [List.length_map]; exact Nat.le_of_eq lws.symm)
 have hnd : (((r.ps.map C.nm).zip ws).map (·.1)).Nodup := by
  rw [hbn]
  exact List.Pairwise.map _ (fun a b q z => q (XO.nm.inj _ _ z)) F.nodup
 refine codeX_call_function (by omega) (KI _ _ ho) hd F.co F.gen F.bd (codeRec_of KI F.code) ?_
 refine wpX_any (Looks.here (Looks.of_peek KI (F.bind ws lws _)) ?_)
 rw [F.clo]
 refine wpX_any (wpAny_newFunctionEnv_cells F.kind (fun x hx => ?_) fun fenv he s₁ IC => ?_)
 ·obtain ⟨p, hp, hpe⟩ := List.mem_map.mp (hbn ▸ List.mem_map.mpr ⟨x, hx, rfl⟩ : x.1 ∈ r.ps.map C.nm)
  have hl := F.ps p hp
  rw [hpe] at hl
  obtain ⟨k, e, q⟩ := (Option.any_eq_true _ _).mp (and2 hl).2
  cases k with
  | «local» => exact .inl e
  | cell => exact .inr ⟨e, cellsFrom_some _ _ _ (.inl e)⟩
  | _ => exact Bool.noConfusion (show false = true from q)
 ·have hloc : fenv.locals = s.heap.objs.size := by rw [he]; rfl
  have hfr : fenv.frame = some fenv.locals := by rw [he]; rfl
  have hcells : fenv.cells = cellsFrom (s.heap.objs.size + 1) fd.scope.names [] := by rw [he]; rfl
  have hsc : fenv.scope = fd.scope := by rw [he]; rfl
  have hgl : fenv.globals = mainGlobals := by rw [he]; exact F.gl
  have hbu : fenv.builtins = builtinsNs := by rw [he]; exact F.bu
  clear he
  have hk : fenv.scope.kind = .function := by rw [hsc]; exact F.kind
  obtain ⟨h₁, tk, es, kk⟩ := IC.done
  have st := stable_of_keeps kk
  have LR := fn_loc XO.nm hcells (by rw [hsc]) (XF.names f r fd o hr ho hd) hnd IC (by rw [es]) (rv.mono (List.prefix_refl ρ) st)
  have hL : s.heap.get? fenv.locals = none := by rw [hloc]; exact none_at_end _
  have hnew : ∀ a ∈ ownOf fenv, s.heap.get? a = none := fun a ha => by
   rcases List.mem_cons.mp ha with rfl | ha
   ·exact hL
   ·by_cases hf : isFn fenv = true
    ·rw [if_pos hf] at ha
     obtain ⟨x, hx, rfl⟩ := List.mem_map.mp ha
     exact none_past (Nat.le_of_lt (hloc ▸ IC.above x.1 x.2 hx))
    ·rw [if_neg hf] at ha; exact nomatch ha
  have hobj := Ns_data IC.toInCall.ns
  have ap := IC.apart
  rw [es] at hobj
  clear IC
  subst es
  have S₁ : St C G (fenv :: envs) fenv ρ (r.ps.zip args) hp { s with heap := h₁, toks := tk } :=
   ⟨enter fenv _ h₁ kk hk hfr hnew hobj LR ap, gens, os⟩
  refine ⟨lim.keeps kk, codeX_func ?_⟩
  rw [hbody, <- h]
  refine body_ok XO XX XN CO (hsc ▸ hok) ⟨?_, ?_, ?_, hhn, hk, hgl, hbu, ⟨fenv.locals, hfr, ?_⟩⟩ hfr hL ⟨List.prefix_refl _, st⟩ hb S₁ (Hh.mono st)
  ·show A.frames.map (fenv :: ·) = _; rw [hA]; rfl
  ·show A.depth + 1 + 2 * d + 3 < recursionLimit; omega
  ·show A.units + 3 + 4 * d + 101 < cLine; omega
  ·unfold framesOf; rw [List.filterMap_cons, hfr]; exact List.mem_cons_self
theorem callF_ok (XO : CxOk C) (XX : CxExc C) (XN : ExcNew C) (XF : CxFn C) : ∀ d, CallOk C d (callF C.T d)
 | 0 => fun hm f args hp out h => nn h
 | d + 1 => fun hm f args hp out h g envs env ρ lv s A ws S hA hdep hun hhn Hh rv => by
  refine codeX_mono (block_ok XO XX XN XF (callF_ok XO XX XN XF d) h (S.kin XO.toCxCls) (XO.lim.keeps S.R.stay) hA hdep hun hhn Hh rv S.gens S.os (G := rest ρ [] s.heap) fun fenv lv0 h₁ kk hk hfr hnew hobj LR ap => S.R.enter kk hk hfr hnew hobj LR ap) fun r s' z => ?_
  obtain ⟨fenv, lv', ρ', hfr, hL, X', z⟩ := z
  cases out with
  | ok v hp' =>
   obtain ⟨S', w, rfl, r'⟩ := z
   exact ⟨ρ', ⟨S.R.leave hfr hL S'.R X', S'.gens, S'.os⟩, X', r'⟩
  | raise i hp' =>
   obtain ⟨S', x, dx, hi, ho, rfl, f, F₃⟩ := z
   exact ⟨ρ', x, dx, ⟨S.R.leave hfr hL S'.R X', S'.gens, S'.os⟩, X', hi, ho, rfl, .inr ⟨f, F₃.imp fun _ L => L.leave S.R X'.pre⟩⟩
theorem frames_one (hfr : fenv.frame = some fenv.locals) {b : Addr} (hb : b ∈ framesOf [fenv]) : b = fenv.locals := by
 unfold framesOf at hb
 rw [List.filterMap_cons, hfr] at hb
 exact List.mem_singleton.mp hb
theorem sole {p q : Addr × Addr} {i : Nat} (e : ([p] : Env2)[i]? = some q) : i = 0 /\ q = p := by
 cases i with
 | zero => exact ⟨rfl, (Option.some.inj e).symm⟩
 | succ i => exact nn e
open Classical in
theorem top_enter {a : Addr} {vs : List V} (stay : ∀ b o, C.H0.get? b = some o -> h.get? b = some o) (hn : C.H0.get? a = none) {ws : List Value} {n : Nat} (ha : h.get? a = some { cls := .type "list", data := .seq ws.toArray n }) (harg : C.arg = { cls := .type "list", data := .seq ws.toArray n }) (rv : VRels [(a, a)] h vs ws) :
  EnterOk C (fun b => if b = a then none else h.get? b) [] [(a, a)] [.list vs] h := fun fenv lv0 h₁ kk hk hfr hnew hobj LR ap => by
 have hL : h.get? fenv.locals = none := hnew _ List.mem_cons_self
 have ha' : a ≠ fenv.locals := fun q => no hL (q ▸ ha)
 have kp : ∀ b o, (if b = a then none else h.get? b) = some o -> h₁.get? b = some o := fun b o e => kk b o (ite_none' e).2
 exact {
  stay := fun b o e => kk b o (stay b o e)
  sub := fun b o e => (if_neg fun q => no hn (q ▸ e)).trans (stay b o e)
  keep := fun b o e => ⟨o.slots, kp b o e, fun _ => rfl⟩
  frs := by
   obtain ⟨o, e, _, nf⟩ := hobj
   refine ⟨by rw [hk]; decide, ⟨fenv.locals, o, hfr, ?_, e, nf⟩, trivial⟩
   cases q : C.H0.get? fenv.locals with
   | none => rfl
   | some o' => exact no hL (stay _ _ q)
  frd := fun b hb => hobj.elim fun o z => ⟨o, by rw [frames_one hfr hb]; exact z.1, z.2.1⟩
  len := rfl
  led := fun i p o e1 e2 => by
   obtain ⟨rfl, rfl⟩ := sole e1
   rw [<- Option.some.inj e2]
   exact ⟨rfl, ws, n, kk _ _ ha, rv.mono (List.prefix_refl _) (stable_of_keeps kk)⟩
  apart := fun i j p q hij e1 e2 => absurd ((sole e1).1.trans (sole e2).1.symm) hij
  fresh := fun i p b e hb => by
   obtain rfl : b = a := by rw [(sole e).2] at hb; exact hb.elim id id
   exact ⟨if_pos rfl, fun q => ha' (frames_one hfr q), fun q => no (hnew _ q) ha⟩
  loc := LR
  own := fun b hb => by
   by_cases q : b = a
   ·exact if_pos q
   ·exact (if_neg q).trans (hnew b hb)
  cells := fun _ => ap
  celk := fun x hx => .inl (by unfold ownOf; rw [if_pos (by unfold isFn; rw [hfr]; exact beq_self_eq_true _)]; exact List.mem_cons_of_mem _ (List.mem_map.mpr ⟨x, hx, rfl⟩))
  arg := ⟨a, vs, rfl, rfl, by rw [harg]; exact kk _ _ ha⟩ }
def TopR (s : Shared) (v : V) (r : Result) (s' : Shared) : Prop := ∃ w ρ', r = .ok (.ret w) /\ VRel ρ' s'.heap v w /\ (∀ b o, s.heap.get? b = some o -> s'.heap.get? b = some o) /\ s'.gens = #[] /\ s'.os = s.os
theorem top_ok (XO : CxOk C) (XX : CxExc C) (XN : ExcNew C) (XF : CxFn C) {a : Addr} {vs : List V} {f : Nat} {v : V} {hp' : Hp} (h : callF C.T (d + 1) false f [.ref 0] [.list vs] = some (.ok v hp'))
  (KI : C.K.In s.heap) (stay : ∀ b o, C.H0.get? b = some o -> s.heap.get? b = some o) (hn : C.H0.get? a = none) (lim : s.heap.NoLimit) (hA : A.frames = some []) (hdep : A.depth + 2 * (d + 1) + 2 < recursionLimit) (hun : A.units + 4 * (d + 1) + 100 < cLine) (hhn : A.handled = none) (Hh : Han A s.heap)
  (gens : s.gens = #[]) (os : s.os = C.os) {ws : List Value} {n : Nat} (ha : s.heap.get? a = some { cls := .type "list", data := .seq ws.toArray n }) (harg : C.arg = { cls := .type "list", data := .seq ws.toArray n }) (rv : VRels [(a, a)] s.heap vs ws) :
  codeX C.M A (.call (.ref (C.fa f)) ⟨[.ref a], []⟩) (TopR s v) s := by
 classical
 refine codeX_mono (block_ok XO XX XN XF (callF_ok XO XX XN XF d) h (ρ := [(a, a)]) KI lim hA hdep hun (fun _ => hhn) Hh ⟨.ref a, [], rfl, ⟨a, a, rfl, rfl⟩, rfl⟩ gens os (top_enter stay hn ha harg rv)) fun r s' z => ?_
 obtain ⟨fenv, lv', ρ', hfr, hL, X', S', w, rfl, r'⟩ := z
 refine ⟨w, ρ', rfl, r', fun b o e => ?_, S'.gens, S'.os.trans os.symm⟩
 by_cases q : b = a
 ·obtain ⟨a', vs', e1, _, e3⟩ := S'.R.arg
  have ea := some_uniq (getElem?_pre X'.pre (show ([(a, a)] : Env2)[0]? = some (a, a) from rfl)) e1
  rw [q] at e ⊢
  rw [(Prod.mk.inj ea).1, e3, harg, <- ha]; exact e
 ·obtain ⟨sl, e', hs⟩ := S'.R.keep b o ((if_neg q).trans e)
  rw [e', hs fun z => no hL (frames_one hfr z ▸ e)]
end
noncomputable def isTy (s : String) : Value -> Bool
 | .type a => a == s
 | _ => false
noncomputable def typesAre : List String -> List Value -> Bool
 | [], l => l.isEmpty
 | s :: ss, l => (match l with
  | [] => false
  | v :: r => isTy s v && typesAre ss r)
noncomputable def isRef : Value -> Bool
 | .ref _ => true
 | _ => false
noncomputable def excLine : List Value -> Bool
 | [] => false
 | v :: r => if isRef v then excLine r else typesAre ["Exception", "BaseException", "object"] (v :: r)
theorem passes_exc (self : Value) : refuseLoop self "__setattr__" [.type "Exception", .type "BaseException", .type "object"] = pure () := by kernel_rfl
theorem isTy_eq {s : String} {v : Value} (h : isTy s v = true) : v = .type s := by
 cases v with
 | type a => rw [eq_of_beq (show (a == s) = true from h)]
 | _ => exact Bool.noConfusion (show false = true from h)
theorem typesAre_eq : ∀ {ss : List String} {l : List Value}, typesAre ss l = true -> l = ss.map .type
 | [], l, h => List.isEmpty_iff.mp h
 | s :: ss, [], h => Bool.noConfusion (show false = true from h)
 | s :: ss, v :: r, h => by rw [isTy_eq (and2 h).1, typesAre_eq (and2 h).2]; rfl
theorem isRef_eq {v : Value} (h : isRef v = true) : ∃ a, v = .ref a := by
 cases v with
 | ref a => exact ⟨a, rfl⟩
 | _ => exact Bool.noConfusion (show false = true from h)
theorem refuse_exc (self : Value) : ∀ {l : List Value}, excLine l = true -> refuseLoop self "__setattr__" l = pure ()
 | [], h => Bool.noConfusion (show false = true from h)
 | v :: r, h => by
  have h : (if isRef v = true then excLine r else typesAre ["Exception", "BaseException", "object"] (v :: r)) = true := h
  by_cases q : isRef v = true
  ·rw [if_pos q] at h
   obtain ⟨a, rfl⟩ := isRef_eq q
   rw [refuseLoop_ref]
   exact refuse_exc self h
  ·rw [if_neg q] at h
   rw [typesAre_eq h]
   exact passes_exc self
section
variable {C : Cx} {A : Around} {E : Value -> Shared -> Prop} {s : Shared}
theorem storeIn_ok {d : Addr} {es : List DictEntry} {n : Nat} (hd : s.heap.get? d = some (dictOf es n)) (hr : es.any (·.refKey) = false) (hl : es.length <= 100) {name : Str} {tk : Tok} {v : Value} {Q : Fin -> Shared -> Prop}
  (h : ∀ h' t k, h'.get? d = some (dictOf (putL name (PyData.keyHash C.w.params name) (.str name t) v es) (putN name es n)) -> Heap.SameBut d s.heap h' -> Q (.done (.ret .none)) { s with heap := h', toks := k }) :
  wpAny C.M A (PySem.Builtin.ObjectAttr.storeInDict d (.str name tk) name v) Q E s := by
 unfold PySem.Builtin.ObjectAttr.storeInDict PySem.Builtin.ObjectAttr.newKeyGuard
 refine wpAny_bind (wpAny_pure (wpAny_bind ?_))
 unfold nsSet
 refine wpAny_bind (wpAny_bind (wpAny_askSetting (wpAny_pure (wpAny_bind (wpAny_mkText (wpAny_bind (wpAny_loadPart hd ?_)))))))
 have cc : (!es.toArray.any (·.key.isStr name) && es.toArray.any (·.refKey)) = false := by
  rw [show es.toArray.any (·.refKey) = false by rw [List.any_toArray]; exact hr, Bool.and_false]
 dsimp only
 rw [aRefKeyMayBeTheName_at, cc]
 refine wpAny_updatePart hd ?_
 have hput := putName_dict name (PyData.keyHash C.w.params name) (.str name s.toks) v es n
 have h3 : (s.heap.update d (Obj.putName name (PyData.keyHash C.w.params name) (.str name s.toks) v)).get? d = some (dictOf (putL name (PyData.keyHash C.w.params name) (.str name s.toks) v es) (putN name es n)) := by
  rw [<- hput]; exact Heap.get?_update_self _ hd (by rw [hput]; rfl)
 have hlen : (putL name (PyData.keyHash C.w.params name) (.str name s.toks) v es).length <= es.length + 1 := by
  have : ∀ l : List DictEntry, (putL name (PyData.keyHash C.w.params name) (.str name s.toks) v l).length <= l.length + 1 := by
   intro l
   induction l with
   | nil => simp [putL]
   | cons y l ih => simp only [putL]; split <;> simp <;> omega
  exact this es
 have hb := big_le
 have hb' : 101 <= big := by decide
 refine wpAny_bind (wpAny_lookBehind h3 (pastItsLine_dict (by rw [List.size_toArray]; exact Nat.le_trans hlen (by omega))) ?_)
 exact wpAny_pure (h _ s.toks _ h3 (Heap.SameBut.update ..))
end
structure ExcCls (K : Frag) (Ca : Addr) (cd : ClassData) : Prop where
 cls : clsIn K Ca = some cd
 line : excLine cd.mro = true
 dct : cd.hasDict = true
 set : findIn K (.ref Ca) "__setattr__" = some (some (.builtin "object.__setattr__"))
 obj : mroIn K Ca (.type "object") = some true
section
variable {C : Cx} {A : Around} {E : Value -> Shared -> Prop} {R : Result -> Shared -> Prop} {s : Shared} {x Ca : Addr} {cd : ClassData}
theorem osa_exc {ox : Obj} {od : Option Obj} {name : Str} {tk : Tok} {v : Value} (X : C.K.In s.heap) (I : InstAt s.heap x ox Ca od) (X1 : ExcCls C.K Ca cd) (hn : findIn C.K (.ref Ca) name = some none)
  (h : wpAny C.M A.in1 (PySem.Builtin.ObjectAttr.storeInOwnDict (.ref x) (.ref Ca) (.str name tk) name v false)
   (fun fin s' => match fin with | .done f => R (.ok f) s' | .again c' => c'.quiet = true /\ codeAny C.M A c' R s') (fun e s' => R (.error e) s') s) :
  codeAny C.M A (.call (.builtin "object.__setattr__") ⟨[.ref x, .str name tk, v], []⟩) R s := by
 have SF := PySem.F.store_object
 have sub : Looks C.M s.heap (isInstance (.ref x) (.type "object")) true := I.type.andThen (looks_mroIn X X1.obj)
 refine codeAny_call_builtin SF.slot.plain SF.entry (@check_slot C.M _ _ s "object.__setattr__" "object" "__setattr__" (.ref x) [.str name tk, v] [] _ SF.kind SF.split sub (SF.args (.ref x) (.str name tk) v) ?_)
 have hm : Looks C.M s.heap (mroOf (.ref Ca)) cd.mro := (looks_clsIn X X1.cls).andThen .now
 rw [osa_eq, refuse_eq]
 refine wpAny_bind (wpAny_bind (I.type.here (wpAny_bind (hm.here ?_))))
 rw [refuse_exc _ X1.line]
 exact wpAny_pure (wpAny_bind (I.type.here (wpAny_bind ((looks_findIn X hn).here (wpAny_bind (wpAny_pure h))))))
theorem set_exc0 {vs : Array Value} {sl : Array (Option Value)} {name : Str} {v : Value} {Q : Unit -> Shared -> Prop} (X : C.K.In s.heap) (X1 : ExcCls C.K Ca cd) (hn : findIn C.K (.ref Ca) name = some none)
  (hx : s.heap.get? x = some ⟨.ref Ca, none, .fields vs, sl⟩)
  (h : ∀ h' k t, h'.get? x = some ⟨.ref Ca, some s.heap.objs.size, .fields vs, sl⟩ -> h'.get? s.heap.objs.size = some (dictOf [⟨PyData.keyHash C.w.params name, .str name t, v⟩] 1) -> (∀ b o, b ≠ x -> s.heap.get? b = some o -> h'.get? b = some o) -> Q () { s with heap := h', toks := k }) :
  wpAny C.M A (setAttr (.ref x) name v) Q E s := by
 have I : InstAt s.heap x ⟨.ref Ca, none, .fields vs, sl⟩ Ca none := ⟨hx, rfl, rfl, trivial⟩
 refine set_plain X I X1.set ?_
 refine osa_exc (s := { s with toks := s.toks + 1 }) X I X1 hn ?_
 unfold PySem.Builtin.ObjectAttr.storeInOwnDict
 refine wpAny_bind (wpAny_pure ?_)
 refine wpAny_bind ?_
 unfold PySem.Builtin.ObjectAttr.ownDictForStores instanceDict
 refine wpAny_bind (wpAny_loadPart (s := { s with toks := s.toks + 1 }) hx ?_)
 refine wpAny_bind (looks_clsIn X X1.cls _ _ _ _ (fun _ _ e => e) ?_)
 rw [X1.dct]
 refine wpAny_bind (wpAny_alloc ?_)
 have hxn : s.heap.objs.size ≠ x := fun q => no (none_at_end _) (q ▸ hx)
 have hx1 : (s.heap.push (dictOf [] 0)).get? x = some ⟨.ref Ca, none, .fields vs, sl⟩ := Heap.get?_push_of_some _ hx
 have hd1 : (s.heap.push (dictOf [] 0)).get? s.heap.objs.size = some (dictOf [] 0) := Heap.get?_push_size _ rfl
 refine wpAny_bind (wpAny_update hx1 ?_)
 have hx2 := Heap.get?_update_self (fun o => { o with dict := some s.heap.objs.size }) hx1 rfl
 have sb := Heap.SameBut.update (s.heap.push (dictOf [] 0)) x (fun o => { o with dict := some s.heap.objs.size })
 have hd2 := (sb.2 _ hxn).trans hd1
 refine wpAny_bind (wpAny_pure (wpAny_pure ?_))
 refine storeIn_ok (C := C) (s := { s with heap := _, toks := s.toks + 1 }) hd2 rfl (by decide) fun h' t k e1 sb2 => ?_
 refine h h' k t ((sb2.2 x (Ne.symm hxn)).trans hx2) e1 fun b o hb e => (sb2.2 b fun q => no (none_at_end _) (q ▸ e)).trans ((sb.2 b hb).trans (Heap.get?_push_of_some _ e))
theorem set_exc1 {vs : Array Value} {sl : Array (Option Value)} {d : Addr} {es : List DictEntry} {n : Nat} {name : Str} {v : Value} {Q : Unit -> Shared -> Prop} (X : C.K.In s.heap) (X1 : ExcCls C.K Ca cd) (hn : findIn C.K (.ref Ca) name = some none)
  (hx : s.heap.get? x = some ⟨.ref Ca, some d, .fields vs, sl⟩) (hd : s.heap.get? d = some (dictOf es n)) (hr : es.any (·.refKey) = false) (hl : es.length <= 100)
  (h : ∀ h' k t, h'.get? d = some (dictOf (putL name (PyData.keyHash C.w.params name) (.str name t) v es) (putN name es n)) -> Heap.SameBut d s.heap h' -> Q () { s with heap := h', toks := k }) :
  wpAny C.M A (setAttr (.ref x) name v) Q E s := by
 have I : InstAt s.heap x ⟨.ref Ca, some d, .fields vs, sl⟩ Ca (some (dictOf es n)) := ⟨hx, rfl, rfl, hd⟩
 refine set_plain X I X1.set ?_
 refine osa_exc (s := { s with toks := s.toks + 1 }) X I X1 hn ?_
 unfold PySem.Builtin.ObjectAttr.storeInOwnDict
 refine wpAny_bind (wpAny_pure ?_)
 refine wpAny_bind ?_
 unfold PySem.Builtin.ObjectAttr.ownDictForStores instanceDict
 refine wpAny_bind (wpAny_loadPart (s := { s with toks := s.toks + 1 }) hx ?_)
 refine wpAny_bind (looks_clsIn X X1.cls _ _ _ _ (fun _ _ e => e) ?_)
 rw [X1.dct]
 refine wpAny_pure ?_
 exact storeIn_ok (C := C) (s := { s with toks := s.toks + 1 }) hd hr hl fun h' t k e1 sb2 => h h' k t e1 sb2
end
section
variable {M : Model} {A : Around} {E : Value -> Shared -> Prop} {h : Heap} {g : Array GenState} {d : Drawn} {t : Nat} {os : OsState}
variable {nm q : Str} {C N : Addr} {bs bm : List Value} {hdct : Bool} {sn : List Str} {sub : List Value} {ab : Bool} {col : Option Bool} {dd : Option Addr} {k0 k1 k2 k3 k5 : Option Value} {B newId initId : String} {bmB : List Value}
theorem check_new_own (F : ExcBaseFacts B newId initId bmB) (hB : bm.contains (.type B) = true) {rest : List Value} {Q : Unit -> Shared -> Prop} (hC : h.get? C = some (excClassObj nm q C N bs bm hdct sn sub ab col dd k0 k1 k2 k3 k5 newId))
  (hq : Q () ⟨h, g, d, t, os⟩) : wpAny M A (checkBuiltinCall newId ⟨.ref C :: rest, []⟩) Q E ⟨h, g, d, t, os⟩ := by
 have hcont : (Value.ref C :: bm).contains (.type B) = true := by rw [List.contains_cons, hB, Bool.or_true]
 have hstar := F.noStar
 simp only [checkBuiltinCall, F.newKind, F.newSplit, F.newRow]
 repeat (first | refine wpAny_loadPart_at hC ?_ | (refine wpAny_isSubtype_exc hC ?_; rw [hcont]) | refine wpAny_staticBase_exc hC ?_ | refine wpAny_madeBy_exc hC ?_ | simp only [bne_self_eq_false, Bool.false_eq_true, if_false] | wp_step)
 exact hq
end
section
variable {prog : Program} {w : World} {A : Around} {R : Result -> Shared -> Prop} {E : Value -> Shared -> Prop} {h : Heap} {g : Array GenState} {d : Drawn} {t : Nat} {os : OsState}
variable {nm q : Str} {C N : Addr} {bs bm : List Value} {hdct : Bool} {sn : List Str} {sub : List Value} {ab : Bool} {col : Option Bool} {dd : Option Addr} {k0 k1 k2 k3 k5 : Option Value} {B newId initId : String} {bmB : List Value}
theorem exc_new_own (F : ExcBaseFacts B newId initId bmB) (hB : bm.contains (.type B) = true) (hA : bm.contains (.type "AttributeError") = false) (hN : bm.contains (.type "NameError") = false) {rest : List Value} (hC : h.get? C = some (excClassObj nm q C N bs bm hdct sn sub ab col dd k0 k1 k2 k3 k5 newId))
  (hq : R (.ok (.ret (.ref (h.objs.size + 1)))) ⟨(h.push { cls := .type "tuple", data := .seq rest.toArray }).push
   { cls := .ref C, data := .fields #[.ref h.objs.size, .none, .none, .none, .bool false, .none] }, g, d, t, os⟩) (hrest : rest.length <= sizeLine) :
  codeAny (model prog w) A (.builtin newId ⟨.ref C :: rest, []⟩) R ⟨h, g, d, t, os⟩ := by
 have hends := F.ends
 have hcB : (Value.ref C :: bm).contains (.type B) = true := by rw [List.contains_cons, hB, Bool.or_true]
 have hcA : (Value.ref C :: bm).contains (.type "AttributeError") = false := by rw [List.contains_cons, hA]; rfl
 have hcN : (Value.ref C :: bm).contains (.type "NameError") = false := by rw [List.contains_cons, hN]; rfl
 refine codeAny_builtinAt F.entry ?_
 unfold Builtin.«BaseException.__new__»
 refine PySem.wpAt_bind ?_
 show PySem.wpAt _ _ _ (stack >>= _) _ _ _
 refine PySem.wpAt_bind (PySem.wpAt_stack fun p below => PySem.wpAt_of_wpAny ?_)
 wp_walk
 refine PySem.wpAt_of_wpAny ?_
 rw [F.owner]
 repeat (first | with_reducible refine wpAny_madeHere_exc F.canon hC ?_ | with_reducible refine wpAny_loadPart_at hC ?_ | (with_reducible refine wpAny_isSubtype_exc hC ?_; first | rw [hcB] | rw [hcA] | rw [hcN]) | wp_step)
 show R _ _
 rw [Heap.size_push]
 exact hq
theorem tc_exc_own (F : ExcBaseFacts B newId initId bmB) (hB : bm.contains (.type B) = true) (hA : bm.contains (.type "AttributeError") = false) (hN : bm.contains (.type "NameError") = false) {K : Frag} (X : K.In h) {rest : List Value} {fI : Addr} {Q : Fin -> Shared -> Prop}
  (hC : h.get? C = some (excClassObj nm q C N bs bm hdct sn sub ab col dd k0 k1 k2 k3 k5 newId)) (hi : findIn K (.ref C) "__init__" = some (some (.ref fI))) (hf : typeIn K (.ref fI) = some (.type "function"))
  (hq : ∀ h' e, Heap.MadeExcOf h h' e (.ref C) rest ->
   wpAny (model prog w) A (call (.ref fI) (.ref e :: rest)) (fun r s' => r = .none /\ Q (.done (.ret (.ref e))) s') E ⟨h', g, d, t, os⟩) (hrest : rest.length <= sizeLine) :
  wpAny (model prog w) A (Builtin.«type.__call__» ⟨.ref C :: rest, []⟩) Q E ⟨h, g, d, t, os⟩ := by
 repeat (first | with_reducible refine wpAny_loadPart_at hC ?_ | with_reducible refine wpAny_madeBy_exc hC ?_ | wp_step)
 refine codeAny_call_builtin_code (Code.quiet_builtin _ F.quiet) (check_new_own F hB hC ?_)
 refine exc_new_own F hB hA hN hC ?_ hrest
 show wpAny _ _ _ _ _ _
 have k : ∀ b o, h.get? b = some o -> ((h.push { cls := .type "tuple", data := .seq rest.toArray }).push { cls := .ref C, data := .fields #[.ref h.objs.size, .none, .none, .none, .bool false, .none] }).get? b = some o := fun b o e => Heap.get?_push_of_some _ (Heap.get?_push_of_some _ e)
 have hC₁ := k _ _ hC
 have X₁ := X.keeps k
 have hget : ((h.push { cls := .type "tuple", data := .seq rest.toArray }).push
   { cls := .ref C, data := .fields #[.ref h.objs.size, .none, .none, .none, .bool false, .none] }).get? (h.objs.size + 1) = some
   { cls := .ref C, data := .fields #[.ref h.objs.size, .none, .none, .none, .bool false, .none] } := by heap_get
 have hcC : (Value.ref C :: bm).contains (.ref C) = true := by simp
 unfold isInstance
 repeat (first | with_reducible refine wpAny_loadPart_at hget ?_ | (with_reducible refine wpAny_isSubtype_exc hC₁ ?_; rw [hcC]) | wp_step)
 show wpAny _ _ (typeLookup (.ref C) _) _ _ _
 refine (looks_findIn X₁ hi).here ?_
 refine wpAny_holding (wpAny_bind ((bind_fn (K := K) X₁ (.ref (h.objs.size + 1)) hf).here ?_))
 refine wpAny_bind (wpAny_mono (hq _ (h.objs.size + 1) ⟨k, Heap.get?_none_of_le (Nat.le_succ _), h.objs.size, hget, Heap.get?_none_of_le (Nat.le_refl _), ?_⟩) (fun r s' hr => ?_) fun _ _ x => x)
 ·exact Heap.get?_push_of_some _ (Heap.get?_push_at rfl rfl)
 ·obtain ⟨rfl, hQ⟩ := hr
  wp_walk
  exact hQ
theorem call_exc_own (F : ExcBaseFacts B newId initId bmB) (hB : bm.contains (.type B) = true) (hA : bm.contains (.type "AttributeError") = false) (hN : bm.contains (.type "NameError") = false) {K : Frag} (X : K.In h) {rest : List Value} {fI : Addr} {Q : Value -> Shared -> Prop}
  (hC : h.get? C = some (excClassObj nm q C N bs bm hdct sn sub ab col dd k0 k1 k2 k3 k5 newId)) (hi : findIn K (.ref C) "__init__" = some (some (.ref fI))) (hf : typeIn K (.ref fI) = some (.type "function"))
  (hq : ∀ h' e, Heap.MadeExcOf h h' e (.ref C) rest ->
   wpAny (model prog w) (A.under (.builtin "type.__call__" ⟨.ref C :: rest, []⟩)) (call (.ref fI) (.ref e :: rest)) (fun r s' => r = .none /\ Q (.ref e) s') E ⟨h', g, d, t, os⟩) (hrest : rest.length <= sizeLine) :
  wpAny (model prog w) A (call (.ref C) rest) Q E ⟨h, g, d, t, os⟩ := by
 have f1 := tc_lookup
 have f2 := tc_bind (.ref C)
 have hT : (⟨h, g, d, t, os⟩ : Shared).TypeIs (.ref C) "type" := ⟨_, hC, rfl⟩
 refine wpAny_call (codeAny_of_tree ?_)
 show wpAny _ _ (callAny (.ref C) _) _ _ _
 repeat (any_goals (first | assumption | with_reducible refine wpAny_loadPart_at hC ?_ | wp_step))
 refine ⟨rfl, ?_⟩
 refine codeAny_call_builtin_at (Code.quiet_builtin _ (by decide +kernel)) entry_typeCall (wpAny_check_type_call_sub hC (tc_exc_own F hB hA hN X hC hi hf (fun h' e hm => ?_) hrest))
 exact hq h' e hm
end
section
variable {M : Model} {A : Around} {E : Value -> Shared -> Prop} {s : Shared} {env : Env}
theorem any_seq {α β : Type} {m : Sem α} {f : α -> Sem β} {Q' : α -> Shared -> Prop} {Q : β -> Shared -> Prop} (h : wpAny M A m Q' E s) (k : ∀ a s', Q' a s' -> wpAny M A (f a) Q E s') : wpAny M A (m >>= f) Q E s :=
 wpAny_bind (wpAny_mono h k fun _ _ x => x)
theorem any_spliced_nil {Q : List Value -> Shared -> Prop} (h : Q [] s) : wpAny M A (spliced []) Q E s := wpAny_pure h
theorem any_spliced_cons {x : Sem Value} {rest : List (Bool × Sem Value)} {Q : List Value -> Shared -> Prop} (h : wpAny M A x (fun v s₁ => wpAny M A (spliced rest) (fun vs s₂ => Q (v :: vs) s₂) E s₁) E s) : wpAny M A (spliced ((false, x) :: rest)) Q E s := by
 rw [spliced]
 refine any_seq h fun v s₁ h₁ => ?_
 rw [if_neg (by decide)]
 exact wpAny_bind (wpAny_pure (any_seq (wpAny_holding h₁) fun vs s₂ h₂ => wpAny_pure h₂))
theorem any_evalArgs {f : Value} {es : List Expr} {Q : List Value -> Shared -> Prop} (h : wpAny M A (spliced (es.map fun e => (false, eval e env))) Q E s) :
  wpAny M A (evalArgs f true (es.map fun e => (false, eval e env)) []) (fun a s' => a.kw = [] /\ Q a.pos s') E s := by
 unfold evalArgs
 cases es with
 | nil =>
  show wpAny M A (spliced [] >>= _) _ E s
  refine any_seq h fun vs s' h' => wpAny_holding ?_
  exact wpAny_bind (wpAny_pure (wpAny_bind (wpAny_pure (wpAny_pure ⟨rfl, h'⟩))))
 | cons e r =>
  show wpAny M A (spliced ((false, eval e env) :: r.map fun e => (false, eval e env)) >>= _) _ E s
  refine any_seq h fun vs s' h' => wpAny_holding ?_
  exact wpAny_bind (wpAny_pure (wpAny_bind (wpAny_pure (wpAny_pure ⟨rfl, h'⟩))))
theorem any_callWith {pos : Pos} {f : Value} {first : List Value} {es : List Expr} {Q : Value -> Shared -> Prop}
  (h : wpAny M A (spliced (es.map fun e => (false, eval e env))) (fun vs s₁ => wpAny M A (keeperOf f) (fun k s₂ => (k = .machine \/ k = .frame) /\ wpAny M A (call f (first ++ vs)) Q E s₂) E s₁) E s) :
  wpAny M A (callWith pos f first (es.map fun e => (false, eval e env)) []) Q E s := by
 unfold callWith
 refine any_seq (wpAny_holding (any_evalArgs h)) fun a s₁ h₁ => wpAny_bind (wpAny_standAt ?_)
 obtain ⟨pos', kw'⟩ := a
 obtain ⟨hkw, h₁⟩ := h₁
 simp only at hkw
 subst hkw
 have tail : ∀ {t : Sem Value} {s₁ : Shared}, wpAny M A t Q E s₁ -> wpAny M A (t >>= fun r => holding [r] point >>= fun _ => pure r) Q E s₁ := fun ht => any_seq ht fun r s₂ hr => wpAny_bind (wpAny_holding (wpAny_point (wpAny_pure hr)))
 simp only [any_plain, List.any_nil, Bool.or_false]
 refine wpAny_bind (m := keeperOf f) (wpAny_mono h₁ (fun k s₂ h₂ => ?_) fun _ _ x => x)
 obtain ⟨rfl | rfl, h₂⟩ := h₂
 ·exact tail h₂
 ·dsimp only
  split
  ·exact tail h₂
  ·exact tail (by unfold callMarked; exact fun Γ p hΓ => by rw [Sem.wp_keep]; exact h₂ Γ p hΓ)
theorem any_CallMeth {o : Expr} {name : Str} {apos pos : Pos} {es : List Expr} {Q : Value -> Shared -> Prop} (ho : ∀ a t, attributeBase o a env t = t) (hp : (apos.endLine == pos.line) = true) (hn : es.length < 20) (hs : ∀ e ∈ es, isStar e = false)
  (h : wpAny M A (eval o env) (fun ov s₁ => wpAny M A (getMethod ov name (do return (<- importBound o env).getD true)) (fun fx s₂ => wpAny M A (callWith pos fx.1 fx.2 (es.map fun e => (false, eval e env)) []) Q E s₂) E s₁) E s) :
  wpAny M A (eval (.Call (.Attribute o name apos) es [] pos) env) Q E s := by
 rw [arm_eval_Call, ho]
 refine any_seq h fun ov s₁ h₁ => wpAny_bind (wpAny_standAt ?_)
 show wpAny M A (methodCall o name apos pos env ov (es.length + 0) (backTo pos (starEach es env)) []) Q E s₁
 rw [backTo_plain hs]
 unfold methodCall
 have hf : methodCallForm (es.length + 0) (es.map fun e => (false, eval e env)) [] = true := by
  unfold methodCallForm
  rw [all_plain]
  simp
  omega
 rw [hf]
 unfold calleeOf methodCallPos
 rw [if_pos rfl, if_pos (by rw [hp]; rfl)]
 refine any_seq (wpAny_holding h₁) fun fx s₂ h₂ => ?_
 obtain ⟨f, first⟩ := fx
 exact wpAny_bind (wpAny_pure h₂)
end
structure DefOk (K : Frag) (f : Addr) (fd : FuncData) (body : List Stmt) (names : List Str) : Prop where
 obj : ∃ o, K.lookup f = some o /\ o.data = .func fd
 bd : fd.body = .stmts body
 co : fd.scope.isCoroutine = false
 gen : fd.scope.isGenerator = false
 kind : fd.scope.kind = .function
 code : codeIn K fd.code fd.qualname = true
 gl : fd.globals = mainGlobals
 bu : fd.builtins = builtinsNs
 clo : fd.closure = []
 bind : ∀ ws : List Value, ws.length = names.length -> ∀ S, peek K S (bindArgs fd ⟨ws, []⟩) = some (names.zip ws)
 cell : ∀ x ∈ fd.scope.names, x.2 ≠ .cell
 loc : ∀ n ∈ names, fd.scope.names.lookup n = some .local
 nodup : names.Nodup
section
variable {M : Model} {A : Around} {E : Value -> Shared -> Prop} {s : Shared} {env : Env}
theorem any_local {n : Str} {pos : Pos} {m : Str -> Option Value} {v : Value} {Q : Value -> Shared -> Prop} (hk : env.scope.kind = .function) (hl : env.kindOf n = some .local) (hn : s.heap.Ns env.locals m) (e : m n = some v) (hd : (n == ("__debug__" : Str)) = false) (h : Q v s) :
  wpAny M A (eval (.Name n pos) env) Q E s := by
 rw [arm_eval_Name, hd]
 exact wpAny_bind (wpAny_standAt (wpAny_loadName_local hk hl hn e h))
end
section
variable {C : Cx} {A : Around} {E : Value -> Shared -> Prop} {R : Result -> Shared -> Prop} {s : Shared} {K : Frag}
theorem def_call {f : Addr} {fd : FuncData} {body : List Stmt} {names : List Str} (D : DefOk K f fd body names) (X : K.In s.heap) (hlim : s.heap.NoLimit) {ws : List Value} (hl : ws.length = names.length) (hroom : A.depth < recursionLimit)
  (h : ∀ (env : Env) (h₀ : Heap) (k : Nat) (m : Str -> Option Value), env.scope = fd.scope -> env.globals = mainGlobals -> env.builtins = builtinsNs -> env.locals = s.heap.objs.size -> h₀.Ns env.locals m -> (∀ n v, (names.zip ws).lookup n = some v -> m n = some v) -> (∀ b o, s.heap.get? b = some o -> h₀.get? b = some o) ->
   wpAny C.M (A.deeper env) (PySem.execs body env) (fun f s' => R (.ok (.ret (match f with | .ret v => v | _ => .none))) s') (fun _ _ => False) { s with heap := h₀, toks := k }) :
  codeAny C.M A (.call (.ref f) ⟨ws, []⟩) R s := by
 obtain ⟨o, ho, hd⟩ := D.obj
 have hz : (names.zip ws).map (·.1) = names := List.map_fst_zip (by omega)
 refine codeAny_call_def (binds := names.zip ws) hroom (X _ _ ho) hd hlim (codeRec_of X D.code) D.bd (fun M A E Q q => ?_) D.cell (fun x hx => D.loc _ (hz ▸ List.mem_map.mpr ⟨x, hx, rfl⟩)) (fun h₀ hn hk => ?_) D.co D.gen D.kind
 ·exact Looks.here (Looks.of_peek X (D.bind ws hl _)) q
 ·refine wpAny_mono (h (callEnv fd s.heap.objs.size f) h₀ _ _ rfl D.gl D.bu rfl hn (fun n v e => ?_) hk) (fun _ _ z => z) fun _ _ z => z.elim
  refine lookup_of_memN ?_ (List.mem_reverse.mpr (mem_of_lookup e))
  rw [List.map_reverse, hz]
  exact List.pairwise_reverse.mpr (D.nodup.imp fun q => Ne.symm q)
end
section
variable {prog : Program} {w : World} {A : Around} {E : Value -> Shared -> Prop} {h : Heap} {g : Array GenState} {d : Drawn} {t : Nat} {os : OsState}
variable {nm q : Str} {C N : Addr} {bs bm : List Value} {hdct : Bool} {sn : List Str} {sub : List Value} {ab : Bool} {col : Option Bool} {dd : Option Addr} {k0 k1 k2 k3 k5 : Option Value} {B newId initId : String} {bmB : List Value}
theorem check_init_own (F : ExcBaseFacts B newId initId bmB) (hB : bm.contains (.type B) = true) {M : Model} {e : Addr} {oe : Obj} {rest : List Value} {Q : Unit -> Shared -> Prop}
  (hC : h.get? C = some (excClassObj nm q C N bs bm hdct sn sub ab col dd k0 k1 k2 k3 k5 newId)) (he : h.get? e = some oe) (hcls : oe.cls = .ref C) (hq : Q () ⟨h, g, d, t, os⟩) :
  wpAny M A (checkBuiltinCall initId ⟨.ref e :: rest, []⟩) Q E ⟨h, g, d, t, os⟩ := by
 have hcB : (Value.ref C :: bm).contains (.type B) = true := by rw [List.contains_cons, hB, Bool.or_true]
 have hshort := F.noStar
 simp only [checkBuiltinCall, F.initKind, F.initSplit, F.initRow]
 repeat (first | (with_reducible refine wpAny_loadPart_at he ?_; rw [hcls]) | with_reducible refine wpAny_loadPart_at hC ?_ | (with_reducible refine wpAny_isSubtype_exc hC ?_; rw [hcB]) | wp_step)
 refine wpAny_onRaise ?_
 rw [show ∀ (a b : String) (n : Nat), Bind.check ⟨.positional, "*", B, .self, [⟨"args", .varPos, false⟩]⟩ a b n (List.map (fun x => x.fst) ({ pos := Value.ref e :: rest } : Args).kw) = pure () from
  fun a b n => check_star_args _ _ _ _ _ _]
 exact wpAny_pure hq
theorem init_own (F : ExcBaseFacts B newId initId bmB) (hB : bm.contains (.type B) = true) {e t0 : Addr} {dct : Option Addr} {vs : Array Value} {sl : Array (Option Value)} {rest : List Value} {Q : Value -> Shared -> Prop}
  (hC : h.get? C = some (excClassObj nm q C N bs bm hdct sn sub ab col dd k0 k1 k2 k3 k5 newId)) (he : h.get? e = some ⟨.ref C, dct, .fields vs, sl⟩) (h0 : vs[0]? = some (.ref t0)) (hrest : rest.length <= sizeLine)
  (hq : ∀ h', h'.get? e = some ⟨.ref C, dct, .fields (vs.setIfInBounds 0 (.ref h.objs.size)), sl⟩ -> (∀ b o, b ≠ e -> h.get? b = some o -> h'.get? b = some o) -> Q .none ⟨h', g, d, t, os⟩) :
  wpAny (model prog w) A (call (.builtin initId) (.ref e :: rest)) Q E ⟨h, g, d, t, os⟩ := by
 refine wpAny_call (codeAny_call_builtin F.init.plain F.initEntry (check_init_own F hB hC he rfl ?_))
 unfold Builtin.«BaseException.__init__»
 dsimp only
 rw [if_neg (by simp)]
 unfold newTuple Builtin.BaseException.bexcPut
 have hsz : 0 < vs.size := (Array.getElem?_eq_some_iff.mp h0).1
 have he₁ := Heap.get?_push_of_some (h := h) { cls := .type "tuple", data := .seq rest.toArray } he
 refine wpAny_bind (wpAny_newObj_type (wpAny_bind (wpAny_bind (wpAny_field he₁ rfl h0 (wpAny_bind (wpAny_setField he₁ rfl hsz ?_))))) (by show rest.toArray.size <= sizeLine; rw [List.size_toArray]; exact hrest))
 refine wpAny_letGo (wpAny_pure (hq _ ?_ fun b o hb eb => ?_))
 ·rw [Heap.get?_update_self _ he₁ rfl]
  rfl
 ·rw [Heap.get?_update_other _ _ (Ne.symm hb)]
  exact Heap.get?_push_of_some _ eb
end
theorem swapsSole_name {t : Expr} {n : Str} {p : Pos} {l : Nat} {env : Env} : swapsWithSole [t] (.Name n p) l env = pure false := rfl
theorem swapsNone_call {f : Expr} {as : List Expr} {ks : List Keyword} {p : Pos} {l : Nat} {env : Env} : swapsWith (.Call f as ks p) none l env = pure false := rfl
section
variable {M : Model} {A : Around} {E : Value -> Shared -> Prop} {s : Shared} {env : Env}
theorem init_two {B me x y attr : Str} {p1 p2 p3 p4 p5 p6 p7 p8 p9 ap : Pos} {m : Str -> Option Value} {bv fv wx wy : Value} {e : Addr} {Q : Flow -> Shared -> Prop} {Post : Shared -> Prop}
  (hk : env.scope.kind = .function) (hm : env.kindOf me = some .local) (hx : env.kindOf x = some .local) (hy : env.kindOf y = some .local)
  (dm : (me == ("__debug__" : Str)) = false) (dx : (x == ("__debug__" : Str)) = false) (dy : (y == ("__debug__" : Str)) = false)
  (em : m me = some (.ref e)) (ex : m x = some wx) (ey : m y = some wy) (hap : (ap.endLine == p4.line) = true)
  (hn : s.heap.Ns env.locals m)
  (hB : ∀ {Q : Value -> Shared -> Prop}, Q bv s -> wpAny M A (eval (.Name B p1) env) Q E s)
  (hM : ∀ {Q : Value × List Value -> Shared -> Prop} {pl : Sem Bool}, Q (fv, []) { s with toks := s.toks + 1 } -> wpAny M A (getMethod bv "__init__" pl) Q E s)
  (hK : ∀ {Q : Keeper -> Shared -> Prop} {t : Nat} {k : Keeper}, (∀ k, k = .machine \/ k = .frame -> Q k { s with toks := t }) -> wpAny M A (keeperOf fv) Q E { s with toks := t })
  (hC : wpAny M A (call fv [.ref e, wx]) (fun r s' => r = .none /\ Post s') E { s with toks := s.toks + 1 })
  (h2 : ∀ s', Post s' -> s'.heap.Ns env.locals m /\ wpAny M A (setAttr (.ref e) attr wy) (fun _ s'' => Q .next s'') E s') :
  wpAny M A (PySem.execs [.Expr (.Call (.Attribute (.Name B p1) "__init__" ap) [.Name me p2, .Name x p3] [] p4) p5, .Assign [.Attribute (.Name me p6) attr p7] (.Name y p8) p9] env) Q E s := by
 rw [arm_execs_cons, arm_exec_Expr]
 refine wpAny_bind (wpAny_bind (wpAny_standAt ?_))
 rw [if_neg (by rw [notInteractive hk]; exact Bool.false_ne_true), swapsNone_call]
 refine wpAny_bind (wpAny_pure ?_)
 rw [if_neg Bool.false_ne_true]
 refine wpAny_bind ?_
 refine any_CallMeth (fun _ _ => rfl) hap (by show 2 < 20; decide) (by intro e he; simp at he; rcases he with rfl | rfl <;> rfl) (hB (hM (any_callWith ?_)))
 have hn1 : ({ s with toks := s.toks + 1 } : Shared).heap.Ns env.locals m := hn
 refine any_spliced_cons (any_local hk hm hn1 em dm ?_)
 refine any_spliced_cons (any_local hk hx hn1 ex dx ?_)
 refine any_spliced_nil (hK (k := .machine) fun k hkk => ⟨hkk, ?_⟩)
 refine wpAny_mono hC (fun r s' z => ?_) fun _ _ z => z
 obtain ⟨rfl, hP⟩ := z
 obtain ⟨hn2, h2⟩ := h2 s' hP
 rw [dropValue_plain (fun a q => by cases q)]
 refine wpAny_pure ?_
 show wpAny M A (PySem.execs [.Assign [.Attribute (.Name me p6) attr p7] (.Name y p8) p9] env) Q E s'
 rw [arm_execs_cons, arm_exec_Assign]
 refine wpAny_bind (wpAny_bind (wpAny_standAt ?_))
 rw [swapsSole_name]
 refine wpAny_bind (wpAny_pure ?_)
 rw [if_neg Bool.false_ne_true]
 refine wpAny_bind (any_local hk hy hn2 ey dy ?_)
 refine wpAny_bind (wpAny_pure ?_)
 show wpAny M A (assign (.Attribute (.Name me p6) attr p7) env wy >>= fun _ => pure Flow.next) _ _ s'
 rw [arm_assign_Attribute]
 refine wpAny_bind (wpAny_bind (wpAny_holding (any_local hk hm hn2 em dm ?_)))
 refine wpAny_bind (wpAny_standAt ?_)
 refine wpAny_bind (wpAny_holding (wpAny_mono h2 (fun _ s'' z => ?_) fun _ _ z => z))
 exact wpAny_release (wpAny_pure (wpAny_pure z))
end
theorem type_exc : typeOf (.type "Exception") = pure (.type "type") := by kernel_rfl
theorem stub_exc : Manifest.isStub "Exception" = false := by decide +kernel
theorem keeper_bi {M : Model} {A : Around} {E : Value -> Shared -> Prop} {s : Shared} {id : String} {Q : Keeper -> Shared -> Prop} {t : Nat} {k0 : Keeper} (h : ∀ k, k = Keeper.machine \/ k = Keeper.frame -> Q k { s with toks := t }) :
  wpAny M A (keeperOf (.builtin id)) Q E { s with toks := t } := wpAny_pure (h _ (.inl rfl))
def twoBody (B : Str) (x y attr : Str) (body : List Stmt) : Prop := ∃ p1 p2 p3 p4 p5 p6 p7 p8 p9 ap : Pos, (ap.endLine == p4.line) = true /\
 body = [.Expr (.Call (.Attribute (.Name B p1) "__init__" ap) [.Name "self" p2, .Name x p3] [] p4) p5, .Assign [.Attribute (.Name "self" p6) attr p7] (.Name y p8) p9]
structure InitOk (C : Cx) (W fW fM : Addr) : Prop where
 glob : ∃ mg mb, C.H0.Ns mainGlobals mg /\ C.H0.Ns builtinsNs mb /\ mg "Exception" = none /\ mb "Exception" = some (.type "Exception") /\ mg "WasmFault" = some (.ref W)
 ini : findCls C.K (.type "Exception") (.type "type") "__init__" = some (.val (.builtin "Exception.__init__"))
 rd : readsIn C.K W (.type "type") = true
 wini : findCls C.K (.ref W) (.type "type") "__init__" = some (.val (.ref fW))
 wga : specialIn C.K (.ref W) "__getattribute__" = some (some (.builtin "type.__getattribute__"))
 defW : ∃ fd body, DefOk C.K fW fd body ["self", "why"] /\ twoBody "Exception" "why" "why" "why" body /\ fd.scope.names.lookup ("Exception" : Str) = some .globalImplicit
 defM : ∃ fd body, DefOk C.K fM fd body ["self", "why", "at"] /\ twoBody "WasmFault" "why" "at" "at" body /\ fd.scope.names.lookup ("WasmFault" : Str) = some .globalImplicit
structure ExcObj (K : Frag) (Ca : Addr) (cd : ClassData) (bm : List Value) : Prop extends ExcCls K Ca cd where
 lit : ∃ (nm q : Str) (N : Addr) (bs : List Value) (hdct : Bool) (sn : List Str) (sub : List Value) (ab : Bool) (col : Option Bool) (dd : Option Addr) (k0 k1 k2 k3 k5 : Option Value), K.lookup Ca = some (excClassObj nm q Ca N bs bm hdct sn sub ab col dd k0 k1 k2 k3 k5 "Exception.__new__")
 bmB : bm.contains (.type "Exception") = true
 bmA : bm.contains (.type "AttributeError") = false
 bmN : bm.contains (.type "NameError") = false
 noWhy : findIn K (.ref Ca) "why" = some none
 noAt : findIn K (.ref Ca) "at" = some none
section
variable {C : Cx} {A : Around} {E : Value -> Shared -> Prop} {s : Shared} {W fW fM Ca e t0 : Addr} {cd : ClassData} {bm : List Value} {vs : Array Value} {sl : Array (Option Value)}
def MadeR (Ca e : Addr) (vs : Array Value) (sl : Array (Option Value)) (s : Shared) (D : Obj -> Prop) (s' : Shared) : Prop := ∃ h' k dx vs' od, s' = { s with heap := h', toks := k } /\ h'.get? e = some ⟨.ref Ca, some dx, .fields vs', sl⟩ /\ (vs'[1]? = vs[1]? /\ vs'[2]? = vs[2]?) /\ h'.get? dx = some od /\ D od /\ s.heap.get? dx = none /\ (∀ b o, b ≠ e -> s.heap.get? b = some o -> h'.get? b = some o)
def WhyD (C : Cx) (w : Value) (od : Obj) : Prop := ∃ t, od = dictOf [⟨PyData.keyHash C.w.params "why", .str "why" t, w⟩] 1
def AtD (C : Cx) (w w2 : Value) (od : Obj) : Prop := ∃ t t2, od = dictOf (putL "at" (PyData.keyHash C.w.params "at") (.str "at" t2) w2 [⟨PyData.keyHash C.w.params "why", .str "why" t, w⟩]) (putN "at" [⟨PyData.keyHash C.w.params "why", .str "why" t, w⟩] 1)
def BaseR (Ca e : Addr) (vs : Array Value) (sl : Array (Option Value)) (s : Shared) (t0 : Addr) (s' : Shared) : Prop := ∃ h', s' = { s with heap := h', toks := s.toks + 1 } /\ h'.get? e = some ⟨.ref Ca, none, .fields (vs.setIfInBounds 0 (.ref t0)), sl⟩ /\ (∀ b o, b ≠ e -> s.heap.get? b = some o -> h'.get? b = some o)
theorem fresh_ne {h : Heap} {a b : Addr} {o : Obj} (hn : h.get? a = none) (hb : h.get? b = some o) : b ≠ a := fun q => no hn (q ▸ hb)
theorem none_back {h h' : Heap} {e dx : Addr} (k : ∀ b o, b ≠ e -> h.get? b = some o -> h'.get? b = some o) (hne : dx ≠ e) (hn : h'.get? dx = none) : h.get? dx = none := by
 cases hd : h.get? dx with
 | none => rfl
 | some o => exact no hn (k dx o hne hd)
theorem Ns_but {h h' : Heap} {e a : Addr} {m : Str -> Option Value} (k : ∀ b o, b ≠ e -> h.get? b = some o -> h'.get? b = some o) (hne : a ≠ e) (x : h.Ns a m) : h'.Ns a m := by
 obtain ⟨o, es, ep, b1, b2⟩ := x
 exact ⟨o, es, ep, k _ _ hne b1, b2⟩
theorem In_but {K : Frag} {h h' : Heap} {e : Addr} (k : ∀ b o, b ≠ e -> h.get? b = some o -> h'.get? b = some o) (hke : K.lookup e = none) (x : K.In h) : K.In h' := fun b o eb => k b o (fun qb => no hke (qb ▸ eb)) (x b o eb)
theorem initW_ok (I : InitOk C W fW fM) (X1 : ExcObj C.K Ca cd bm) (X : C.K.In s.heap) (stay : ∀ b o, C.H0.get? b = some o -> s.heap.get? b = some o) (hlim : s.heap.NoLimit) (hroom : A.depth < recursionLimit)
  (he : s.heap.get? e = some ⟨.ref Ca, none, .fields vs, sl⟩) (h0 : vs[0]? = some (.ref t0)) (hke : C.K.lookup e = none) {w : Value} :
  wpAny C.M A (call (.ref fW) [.ref e, w]) (fun r s' => r = .none /\ MadeR Ca e vs sl s (WhyD C w) s') E s := by
 refine cps fun G_ f_ => ?_
 obtain ⟨fd, body, D, ⟨p1, p2, p3, p4, p5, p6, p7, p8, p9, ap, hap, rfl⟩, hB⟩ := I.defW
 obtain ⟨mg, mb, g1, g2, g3, g4, g5⟩ := I.glob
 refine f_ ?_
 clear f_ G_
 refine wpAny_call (def_call D X hlim rfl hroom fun env h₀ k m q1 q2 q3 q4 q5 q6 q7 => ?_)
 have kin : C.K.In h₀ := X.keeps q7
 have hk : env.scope.kind = .function := by rw [q1]; exact D.kind
 have kself : env.kindOf "self" = some .local := by rw [kindOf_eq, q1]; exact D.loc _ List.mem_cons_self
 have kwhy : env.kindOf "why" = some .local := by rw [kindOf_eq, q1]; exact D.loc _ (List.mem_cons_of_mem _ List.mem_cons_self)
 have xe := q7 _ _ he
 have hne : env.locals ≠ e := by rw [q4]; exact (fresh_ne (none_at_end _) he).symm
 refine cps fun G_ f_ => ?_
 obtain ⟨nm, q, N, bs, hdct, sn, sub, ab, col, dd, k0, k1, k2, k3, k5, hlit⟩ := X1.lit
 refine f_ ?_
 clear f_ G_
 refine wpAny_mono (Q := fun f s' => f = .next /\ MadeR Ca e vs sl s (WhyD C w) s') ?_ (fun f s' z => by rw [z.1]; exact ⟨rfl, z.2⟩) fun _ _ z => z
 refine init_two (s := { s with heap := h₀, toks := k }) (m := m) (bv := .type "Exception") (fv := .builtin "Exception.__init__") (wx := w) (wy := w) (e := e) (Post := BaseR Ca e vs sl { s with heap := h₀, toks := k } h₀.objs.size) hk kself kwhy kwhy (by decide) (by decide) (by decide) (q6 _ _ rfl) (q6 _ _ rfl) (q6 _ _ rfl) hap q5 (fun {Q} hQ => ?_) (fun {Q pl} hQ => ?_) (fun h => keeper_bi (k0 := .machine) h) ?_ ?_
 ·exact Calls.Name_function_global hk (by rw [kindOf_eq, q1]; exact hB) (Calls.loadGlobal_builtin (by rw [q2]; exact (g1.keeps stay).keeps q7) g3 (by rw [q3]; exact (g2.keeps stay).keeps q7) g4 hQ) (by decide)
 ·exact method_type (h₀ := s.heap) (L := env.locals) (m := m) (s := { s with heap := h₀, toks := k }) ⟨q5, q7, by rw [q4]; exact Nat.le_refl _⟩ X type_exc stub_exc I.ini (by rfl) hQ
 ·exact init_own (h := h₀) PySem.F.excBase_Exception X1.bmB (kin _ _ hlit) xe h0 (by show 1 <= sizeLine; decide) fun h' a1 a2 => ⟨rfl, h', rfl, a1, a2⟩
 ·rintro s' ⟨h', rfl, a1, a2⟩
  refine ⟨Ns_but a2 hne q5, set_exc0 (s := { s with heap := h', toks := k + 1 }) (In_but a2 hke kin) X1.toExcCls X1.noWhy a1 fun h'' k' t c1 c2 c3 => ⟨rfl, h'', k', _, _, _, rfl, c1, ⟨Array.getElem?_setIfInBounds_ne (by decide), Array.getElem?_setIfInBounds_ne (by decide)⟩, c2, ⟨t, rfl⟩, ?_, fun b o hb eb => c3 b o hb (a2 b o hb (q7 b o eb))⟩⟩
  exact none_back (fun b o hb eb => a2 b o hb (q7 b o eb)) (fresh_ne (none_at_end _) a1).symm (none_at_end _)
theorem initM_ok (I : InitOk C W fW fM) (X1 : ExcObj C.K Ca cd bm) (X : C.K.In s.heap) (stay : ∀ b o, C.H0.get? b = some o -> s.heap.get? b = some o) (hlim : s.heap.NoLimit) (hroom : A.depth + 1 < recursionLimit)
  (he : s.heap.get? e = some ⟨.ref Ca, none, .fields vs, sl⟩) (h0 : vs[0]? = some (.ref t0)) (hke : C.K.lookup e = none) {w w2 : Value} :
  wpAny C.M A (call (.ref fM) [.ref e, w, w2]) (fun r s' => r = .none /\ MadeR Ca e vs sl s (AtD C w w2) s') E s := by
 refine cps fun G_ f_ => ?_
 obtain ⟨fd, body, D, ⟨p1, p2, p3, p4, p5, p6, p7, p8, p9, ap, hap, rfl⟩, hB⟩ := I.defM
 obtain ⟨fdW, bodyW, DW, -, -⟩ := I.defW
 obtain ⟨mg, mb, g1, g2, g3, g4, g5⟩ := I.glob
 refine f_ ?_
 clear f_ G_
 refine wpAny_call (def_call D X hlim rfl (Nat.lt_of_succ_lt hroom) fun env h₀ k m q1 q2 q3 q4 q5 q6 q7 => ?_)
 have kin : C.K.In h₀ := X.keeps q7
 have hk : env.scope.kind = .function := by rw [q1]; exact D.kind
 have kself : env.kindOf "self" = some .local := by rw [kindOf_eq, q1]; exact D.loc _ List.mem_cons_self
 have kwhy : env.kindOf "why" = some .local := by rw [kindOf_eq, q1]; exact D.loc _ (List.mem_cons_of_mem _ List.mem_cons_self)
 have kat : env.kindOf "at" = some .local := by rw [kindOf_eq, q1]; exact D.loc _ (List.mem_cons_of_mem _ (List.mem_cons_of_mem _ List.mem_cons_self))
 have xe := q7 _ _ he
 have hne : env.locals ≠ e := by rw [q4]; exact (fresh_ne (none_at_end _) he).symm
 refine wpAny_mono (Q := fun f s' => f = .next /\ MadeR Ca e vs sl s (AtD C w w2) s') ?_ (fun f s' z => by rw [z.1]; exact ⟨rfl, z.2⟩) fun _ _ z => z
 refine init_two (s := { s with heap := h₀, toks := k }) (m := m) (bv := .ref W) (fv := .ref fW) (wx := w) (wy := w2) (e := e) (Post := MadeR Ca e vs sl { s with heap := h₀, toks := k } (WhyD C w)) hk kself kwhy kat (by decide) (by decide) (by decide) (q6 _ _ rfl) (q6 _ _ rfl) (q6 _ _ rfl) hap q5 (fun {Q} hQ => ?_) (fun {Q pl} hQ => ?_) (fun {Q t k'} hQ => ?_) ?_ ?_
 ·exact Calls.Name_function_global hk (by rw [kindOf_eq, q1]; exact hB) (Calls.loadGlobal_global (by rw [q2]; exact (g1.keeps stay).keeps q7) g5 hQ) (by decide)
 ·exact method_cls kin I.wga (cls_value (s := { s with heap := h₀, toks := k }) kin I.rd I.wini (by rfl) hQ)
 ·obtain ⟨o, ho, hd⟩ := DW.obj
  unfold keeperOf
  refine wpAny_bind (wpAny_load (kin _ _ ho) ?_)
  rw [hd]
  exact wpAny_pure (hQ _ (.inr rfl))
 ·refine wpAny_mono (initW_ok (s := { s with heap := h₀, toks := k + 1 }) (A := A.deeper env) I X1 kin (fun b o eb => q7 b o (stay b o eb)) (hlim.keeps q7) hroom xe h0 hke) (fun r s' z => ⟨z.1, ?_⟩) fun _ _ z => z
  obtain ⟨h', k', dx, vs', od, rfl, r⟩ := z.2
  exact ⟨h', k', dx, vs', od, rfl, r⟩
 ·rintro s' ⟨h', k', dx, vs', od, rfl, a1, a2, a4, ⟨t, rfl⟩, a5, a6⟩
  have hdx : dx ≠ e := (fresh_ne a5 xe).symm
  have hsn : s.heap.get? dx = none := none_back (fun b o _ => q7 b o) hdx a5
  exact ⟨Ns_but a6 hne q5, set_exc1 (s := { s with heap := h', toks := k' }) (In_but a6 hke kin) X1.toExcCls X1.noAt a1 a4 rfl (by show 1 <= 100; decide) fun h'' k'' t2 c1 c2 => ⟨rfl, h'', k'', dx, vs', _, rfl, (c2.2 e (Ne.symm hdx)).trans a1, a2, c1, ⟨t, t2, rfl⟩, hsn, fun b o hb eb => (c2.2 b (fresh_ne hsn eb)).trans (a6 b o hb (q7 b o eb))⟩⟩
end
section
variable {C : Cx} {W fW fM : Addr}
theorem putL_at (h1 h2 : Int) (t t2 : Tok) (w w2 : Value) : putL "at" h2 (.str "at" t2) w2 [⟨h1, .str "why" t, w⟩] = [⟨h1, .str "why" t, w⟩, ⟨h2, .str "at" t2, w2⟩] := by
 rfl
section
variable {g : Base} {envs : List Env} {env : Env} {ρ : Env2} {lv : Loc} {hp : Hp} {s : Shared} {A : Around} {E : Value -> Shared -> Prop}
def FsD (C : Cx) (ρ : Env2) (fs : List (Nat × V)) (h : Heap) (od : Obj) : Prop := ∃ es n, od = dictOf es n /\ EsRel C.toDt ρ h fs es
theorem made_rel (S : St C g envs env ρ lv hp s) {h₁ : Heap} {s' : Shared} {e : Addr} {c : Nat} {fs : List (Nat × V)} {vs : Array Value} {sl : Array (Option Value)} {D : Obj -> Prop}
  (hn : s.heap.get? e = none) (keep : ∀ b o, s.heap.get? b = some o -> h₁.get? b = some o) (v1 : vs[1]? = some .none) (v2 : vs[2]? = some .none)
  (z : MadeR (C.ea c) e vs sl { s with heap := h₁ } D s') (hD : ∀ od, D od -> FsD C ρ fs s.heap od) :
  NewR C g envs env ρ lv s (.ok (.ref hp.length) (hp ++ [.exc c fs])) (.ref e) s' := by
 refine cps fun G_ f_ => ?_
 obtain ⟨h', k, dx, vs', od, rfl, he, ⟨w1, w2⟩, hd, od', hdn, kk⟩ := z
 obtain ⟨es, n, rfl, hr⟩ := hD od od'
 refine f_ ?_
 clear f_ G_
 have kall : ∀ b o, s.heap.get? b = some o -> h'.get? b = some o := fun b o eb => kk b o (fresh_ne hn eb) (keep b o eb)
 have hdn' : s.heap.get? dx = none := by
  cases q : s.heap.get? dx with
  | none => rfl
  | some o => exact no hdn (keep _ _ q)
 obtain ⟨R', X'⟩ := S.R.alloc kall (x := e) (dx := dx) (o := .exc c fs) hn hdn' ⟨⟨_, vs', he, rfl, rfl, rfl, by show (vs'[2]? == some Value.none) = true; rw [w2, v2]; rfl⟩, es, n, hd, hr.mono (List.prefix_append _ _) (stable_of_keeps kall)⟩
 exact ⟨⟨_, ⟨R', S.gens, S.os⟩, X', e, dx, rfl, by rw [<- S.R.len, List.getElem?_append_right (Nat.le_refl _), Nat.sub_self]; rfl⟩, e, rfl, _, vs', he, rfl, w1.trans v1⟩
theorem exc_call {Ca f : Addr} {cd : ClassData} {bm : List Value} (X0 : ExcObj C.K Ca cd bm) (KI : C.K.In s.heap) (i0 : findIn C.K (.ref Ca) "__init__" = some (some (.ref f))) (tM : typeIn C.K (.ref f) = some (.type "function")) {ws : List Value} (hz : ws.length <= sizeLine) {Q : Value -> Shared -> Prop}
  (h : ∀ h' e t0, (∀ b o, s.heap.get? b = some o -> h'.get? b = some o) -> s.heap.get? e = none -> C.K.lookup e = none -> h'.get? e = some ⟨.ref Ca, none, .fields #[.ref t0, .none, .none, .none, .bool false, .none], #[]⟩ ->
   wpAny C.M (A.under (.builtin "type.__call__" ⟨.ref Ca :: ws, []⟩)) (call (.ref f) (.ref e :: ws)) (fun r s' => r = .none /\ Q (.ref e) s') E { s with heap := h' }) : wpX C.M A (call (.ref Ca) ws) Q E s := by
 refine cps fun G_ f_ => ?_
 obtain ⟨hh, gs, dr, t, os⟩ := s
 obtain ⟨nm, q, N, bs, hdct, sn, sub, ab, col, dd, k0, k1, k2, k3, k5, hlit⟩ := X0.lit
 refine f_ ?_
 clear f_ G_
 refine wpX_any (call_exc_own (K := C.K) PySem.F.excBase_Exception X0.bmB X0.bmA X0.bmN KI (KI _ _ hlit) i0 tM (fun h' e hm => ?_) hz)
 obtain ⟨keep, new, t0, m1, m2, m3⟩ := hm
 refine h h' e t0 keep new ?_ m1
 cases hq : C.K.lookup e with
 | none => rfl
 | some o => exact no new (KI _ _ hq)
end
theorem excNew_of (XO : CxOk C) (I : InitOk C W fW fM) (nw : C.nm C.T.N.why = "why") (na : C.nm C.T.N.at_ = "at")
  (X0 : ∃ cd bm, ExcObj C.K (C.ea 0) cd bm) (i0 : findIn C.K (.ref (C.ea 0)) "__init__" = some (some (.ref fM))) (tM : typeIn C.K (.ref fM) = some (.type "function"))
  (X1 : ∃ cd bm, ExcObj C.K (C.ea 1) cd bm) (i1 : findIn C.K (.ref (C.ea 1)) "__init__" = some (some (.ref fW))) (tW : typeIn C.K (.ref fW) = some (.type "function")) : ExcNew C := by
 intro c args hp out x h g envs env ρ lv s A ws d S H rv
 have hdep := H.depth
 have KI := S.kin XO.toCxCls
 have lim : s.heap.NoLimit := XO.lim.keeps S.R.stay
 obtain ⟨_, h⟩ := ite_none h
 obtain ⟨fs, hfs, h⟩ := Option.bind_eq_some_iff.mp h
 rw [<- Option.some.inj h]
 cases args with
 | nil => exact nn hfs
 | cons w r =>
  obtain ⟨ww, wr, rfl, r1, rs⟩ := rv
  obtain ⟨sw, es, hfs⟩ := Option.bind_eq_some_iff.mp hfs
  obtain ⟨hin, tw, rfl⟩ := r1.str es
  have why : ∀ t, EsRel C.toDt ρ s.heap [(C.T.N.why, .str sw)] [⟨PyData.keyHash C.w.params "why", .str "why" t, .str (strOf sw) tw⟩] := fun t => ⟨_, _, t, [], by rw [nw], ⟨hin, tw, rfl⟩, rfl⟩
  cases c with
  | zero =>
   obtain ⟨a, ea, hfs⟩ := Option.map_eq_some_iff.mp hfs
   obtain ⟨v, ev, ea⟩ := Option.bind_eq_some_iff.mp ea
   obtain ⟨wv, rfl, r2⟩ := rs.one ev
   obtain ⟨ta, rfl⟩ := r2.int ea
   obtain ⟨cd, bm, X0⟩ := X0
   refine exc_call X0 KI i0 tM (by show 2 <= sizeLine; decide) fun h' e t0 keep new hke m1 => ?_
   refine wpAny_mono (initM_ok (s := { s with heap := h' }) I X0 (KI.keeps keep) (fun b o eb => keep b o (S.R.stay b o eb)) (lim.keeps keep) (by show A.depth + 1 + 1 < recursionLimit; omega) m1 rfl hke) (fun r' s' z => ⟨z.1, ?_⟩) fun _ _ z => z
   refine made_rel S new keep rfl rfl z.2 fun od z => ?_
   obtain ⟨t, t2, rfl⟩ := z
   rw [<- hfs]
   exact ⟨_, _, rfl, by rw [putL_at]; exact ⟨_, _, t, _, by rw [nw], ⟨hin, tw, rfl⟩, _, _, t2, [], by rw [na], ⟨ta, rfl⟩, rfl⟩⟩
  | succ c =>
   obtain ⟨⟨rfl, q⟩, hfs'⟩ := ite_some hfs
   rw [List.isEmpty_iff.mp q] at rs
   obtain rfl : wr = [] := rs
   obtain ⟨cd, bm, X1⟩ := X1
   refine exc_call X1 KI i1 tW (by show 1 <= sizeLine; decide) fun h' e t0 keep new hke m1 => ?_
   refine wpAny_mono (initW_ok (s := { s with heap := h' }) I X1 (KI.keeps keep) (fun b o eb => keep b o (S.R.stay b o eb)) (lim.keeps keep) (by show A.depth + 1 < recursionLimit; omega) m1 rfl hke) (fun r' s' z => ⟨z.1, ?_⟩) fun _ _ z => z
   refine made_rel S new keep rfl rfl z.2 fun od z => ?_
   obtain ⟨t, rfl⟩ := z
   rw [<- Option.some.inj hfs']
   exact ⟨_, _, rfl, why t⟩
end
structure Prog where
 names : List Str
 fns : List Fn
 meths : List ((Nat × Nat) × Nat)
 inits : List (Nat × Nat)
 gls : List (Nat × G)
 fas : List Addr
noncomputable def Prog.tab (P : Prog) : Tab := ⟨fun f => P.fns[f]?, fun c => P.inits.lookup c, fun c m => P.meths.lookup (c, m), ⟨1, 2, 3, 4, 5, 6⟩⟩
noncomputable def nmOf (names : List Str) (i : Nat) : Str := match names[i]? with
 | some n => n
 | none => ⟨(List.replicate (i + 1) 63).toArray⟩
noncomputable def dt (P : Prog) : Dt where
 nm := nmOf P.names
 T := P.tab
 gl := fun n => P.gls.lookup n
 fa := fun f => P.fas.getD f 0
 ca := fun c => if c = 0 then 181 else 251
 ea := fun c => if c = 0 then 51 else 63
 at_ := fun n => [5, 6, 7, 8].contains n
noncomputable def cx (P : Prog) (prog : Program) (w : World) (H0 : Heap) (os : OsState) (arg : Obj) (K : Frag) : Cx where
 toDt := dt P
 prog := prog
 w := w
 H0 := H0
 os := os
 arg := arg
 K := K
theorem lookup_memB {α β : Type} [BEq α] [LawfulBEq α] : ∀ {l : List (α × β)} {a : α} {b : β}, l.lookup a = some b -> (a, b) ∈ l
 | (k, c) :: r, a, b, h => by
  rw [List.lookup_cons] at h
  cases q : a == k with
  | true => rw [q] at h; rw [eq_of_beq q, <- Option.some.inj h]; exact List.mem_cons_self
  | false => rw [q] at h; exact List.mem_cons_of_mem _ (lookup_memB h)
noncomputable def namesB (names : List Str) : Bool := decide names.Nodup && (names.all (fun n => n.cps.toList.head? != some 63 && n != (".0" : Str)) &&
 (names.take 7).drop 1 == [Str.ofString "append", Str.ofString "extend", Str.ofString "pop", Str.ofString "join", Str.ofString "why", Str.ofString "at"])
theorem nmOf_at {names : List Str} {i : Nat} {n : Str} (h : names[i]? = some n) : nmOf names i = n := by unfold nmOf; rw [h]
theorem nmOf_past {names : List Str} {i : Nat} (h : names[i]? = none) : nmOf names i = ⟨(List.replicate (i + 1) 63).toArray⟩ := by unfold nmOf; rw [h]
theorem nmOf_inj {names : List Str} (h : namesB names = true) : ∀ i j, nmOf names i = nmOf names j -> i = j := by
 unfold namesB at h
 simp only [Bool.and_eq_true, decide_eq_true_eq, List.all_eq_true, bne_iff_ne] at h
 obtain ⟨h1, h2, _⟩ := h
 have key : ∀ i j, names[i]? = none -> nmOf names i = nmOf names j -> i = j := fun i j hi e => by
  rw [nmOf_past hi] at e
  cases hj : names[j]? with
  | none =>
   rw [nmOf_past hj] at e
   have := congrArg (fun s : Str => s.cps.size) e
   simp at this; omega
  | some n =>
   rw [nmOf_at hj] at e
   have := (h2 n (List.mem_of_getElem? hj)).1
   rw [<- e] at this
   exact absurd (by simp [List.replicate_succ]) this
 intro i j e
 cases hi : names[i]? with
 | none => exact key i j hi e
 | some n =>
  cases hj : names[j]? with
  | none => exact (key j i hj e.symm).symm
  | some m =>
   rw [nmOf_at hi, nmOf_at hj] at e
   subst e
   obtain ⟨li, ei⟩ := List.getElem?_eq_some_iff.mp hi
   obtain ⟨lj, ej⟩ := List.getElem?_eq_some_iff.mp hj
   have P := List.pairwise_iff_getElem.mp h1
   rcases Nat.lt_trichotomy i j with q | q | q
   ·exact absurd (ei.trans ej.symm) (P i j li lj q)
   ·exact q
   ·exact absurd (ej.trans ei.symm) (P j i lj li q)
theorem nmOf_dot {names : List Str} (h : namesB names = true) : ∀ i, nmOf names i ≠ (".0" : Str) := by
 unfold namesB at h
 simp only [Bool.and_eq_true, List.all_eq_true, bne_iff_ne] at h
 obtain ⟨_, h2, _⟩ := h
 intro i e
 cases hi : names[i]? with
 | none =>
  rw [nmOf_past hi] at e
  have := congrArg (fun s : Str => s.cps.toList.head?) e
  simp [List.replicate_succ] at this
  revert this; decide +kernel
 | some n => rw [nmOf_at hi] at e; exact (h2 n (List.mem_of_getElem? hi)).2 e
theorem nmOf_told {names : List Str} (h : namesB names = true) : nmOf names 1 = Str.ofString "append" /\ nmOf names 2 = Str.ofString "extend" /\ nmOf names 3 = Str.ofString "pop" /\ nmOf names 4 = Str.ofString "join" /\ nmOf names 5 = Str.ofString "why" /\ nmOf names 6 = Str.ofString "at" := by
 unfold namesB at h
 simp only [Bool.and_eq_true, beq_iff_eq] at h
 have h := h.2.2
 have at_ : ∀ k n, ((names.take 7).drop 1)[k]? = some n -> nmOf names (1 + k) = n := fun k n e => by
  rw [List.getElem?_drop] at e
  rw [List.getElem?_take] at e
  split at e
  ·exact nmOf_at e
  ·cases e
 rw [h] at at_
 exact ⟨at_ 0 _ rfl, at_ 1 _ rfl, at_ 2 _ rfl, at_ 3 _ rfl, at_ 4 _ rfl, at_ 5 _ rfl⟩
noncomputable def kidsE : Expr -> List Expr
 | .BinOp l _ r _ => [l, r]
 | .UnaryOp _ e _ => [e]
 | .Compare l _ rs _ => l :: rs
 | .BoolOp _ es _ => es
 | .IfExp a b c _ => [a, b, c]
 | .Call f as _ _ => f :: as
 | .Attribute o _ _ => [o]
 | .Subscript o i _ => [o, i]
 | .Slice lo hi _ _ => [lo.getD default, hi.getD default]
 | .List es _ => es
 | .Tuple es _ _ => es
 | .ListComp elt gens _ _ => elt :: gens.flatMap fun g => g.target :: g.iter :: g.ifs
 | _ => []
noncomputable def kE : Expr -> Nat
 | .Constant _ k _ => k
 | .Tuple _ k _ => k
 | _ => 0
noncomputable def scE : Expr -> Scope
 | .ListComp _ _ sc _ => sc
 | _ => default
noncomputable def itE : Nat -> Expr -> IT
 | 0, _ => .nil
 | n + 1, e => .mk e.pos (kE e) (scE e) ((kidsE e).map (itE n))
noncomputable def exsS : Stmt -> List Expr
 | .Expr e _ => [e]
 | .Assign ts v _ => ts ++ [v]
 | .AugAssign t _ v _ => [t, v]
 | .If t _ _ _ => [t]
 | .While t _ _ _ => [t]
 | .For t i _ _ _ => [t, i]
 | .Return v _ => v.toList
 | .Raise v _ _ => v.toList
 | _ => []
noncomputable def blksS : Stmt -> List (List Stmt)
 | .If _ b o _ => [b, o]
 | .While _ b _ _ => [b]
 | .For _ _ b _ _ => [b]
 | .Try b _ _ _ _ => [b]
 | _ => []
noncomputable def hdsS : Stmt -> List (Pos × Option Expr × List Stmt)
 | .Try _ hs _ _ _ => hs.map fun | .ExceptHandler t _ b p => (p, t, b)
 | _ => []
noncomputable def itS : Nat -> Stmt -> IT
 | 0, _ => .nil
 | n + 1, s => .mk s.pos 0 default ((exsS s).map (itE 40) ++ ((blksS s).map (fun b => .mk default 0 default (b.map (itS n))) ++ (hdsS s).map fun h => .mk h.1 0 default [itE 40 (h.2.1.getD default), .mk default 0 default (h.2.2.map (itS n))]))
noncomputable def stm : FuncBody -> List Stmt
 | .stmts b => b
 | _ => []
noncomputable def itsOf (b : FuncBody) : List IT := (stm b).map (itS 40)
noncomputable def dtB (P : Prog) (B : Str) : Dt := { dt P with nm := nmOf [B, Str.ofString "__init__", Str.ofString "self", Str.ofString "why", Str.ofString "at"] }
noncomputable def twoS (y : Nat) : Ss := .cons (.expr (.mcall (.loc 0) 1 (.cons (.loc 2) (.cons (.loc 3) .nil)))) (.cons (.assignA (.loc 2) y (.loc y)) .nil)
noncomputable def twoP (is : List IT) : Bool := (((is.headD .nil).kid 0).kid 0).pos.endLine == ((is.headD .nil).kid 0).pos.line
theorem two_of {P : Prog} {B : Str} {is : List IT} (h : twoP is = true) : twoBody B "why" "why" "why" (toSs (dtB P B) (twoS 3) is) := ⟨_, _, _, _, _, _, _, _, _, _, h, rfl⟩
theorem two_of' {P : Prog} {B : Str} {is : List IT} (h : twoP is = true) : twoBody B "why" "at" "at" (toSs (dtB P B) (twoS 4) is) := ⟨_, _, _, _, _, _, _, _, _, _, h, rfl⟩
abbrev Df := FuncBody × Scope
noncomputable def terms (P : Prog) : List (Dt × Ss) := (dtB P "Exception", twoS 3) :: (dtB P "WasmFault", twoS 4) :: P.fns.map fun r => (dt P, r.body)
noncomputable def reB (p : Dt × Ss) (b : FuncBody) : FuncBody := .stmts (toSs p.1 p.2 (itsOf b))
noncomputable def plainS (sc : Scope) : Bool := !sc.isCoroutine && (!sc.isGenerator && (sc.kind == .function && decide (sc.names.map (·.1)).Nodup))
noncomputable def okFn (D : Dt) (r : Fn) (d : Df) : Bool := plainS d.2 && (okSs D d.2 r.body (itsOf d.1) && (r.ps.all (fun p => locOk d.2 (D.nm p)) && (decide r.ps.Nodup && decide (r.ps.length <= 5))))
noncomputable def okTwo (B : Str) (ns : List Str) (d : Df) : Bool := plainS d.2 && (twoP (itsOf d.1) && (d.2.names.all (fun x => x.2 != .cell) && (ns.all (fun n => d.2.names.lookup n == some .local) && d.2.names.lookup B == some .globalImplicit)))
noncomputable def nsW : List Str := [Str.ofString "self", Str.ofString "why"]
noncomputable def nsM : List Str := [Str.ofString "self", Str.ofString "why", Str.ofString "at"]
noncomputable def okAll (P : Prog) : List Df -> Bool
 | [] => false
 | d :: r => (match r with
  | [] => false
  | d' :: r => okTwo "Exception" nsW d && (okTwo "WasmFault" nsM d' && (P.fas.length == P.fns.length && (P.fns.zip r).all fun x => okFn (dt P) x.1 x.2)))
structure Said (P : Prog) (ds : List Df) : Prop where
 names : namesB P.names = true
 re : (terms P).zipWith (fun p d => reB p d.1) ds = ds.map (·.1)
 ok : okAll P ds = true
noncomputable def fragOf (as : List Addr) (h : Heap) : Frag := as.filterMap fun a => (h.get? a).map (a, ·)
theorem fragOf_in {h : Heap} : ∀ {as : List Addr}, (fragOf as h).In h
 | [] => fun a o e => nn e
 | b :: r => fun a o e => by
  have ih := fragOf_in (h := h) (as := r)
  unfold fragOf at e ih
  cases q : h.get? b with
  | none =>
   rw [List.filterMap_cons, q] at e
   exact ih a o e
  | some ob =>
   rw [List.filterMap_cons, q] at e
   replace e : List.lookup a ((b, ob) :: _) = some o := e
   rw [List.lookup_cons] at e
   cases z : a == b with
   | true => rw [z] at e; rw [eq_of_beq z, q]; exact e
   | false => rw [z] at e; exact ih a o e
noncomputable def Data.func? : Data -> Option FuncData
 | .func fd => some fd
 | _ => none
noncomputable def Data.cls? : Data -> Option ClassData
 | .cls cd => some cd
 | _ => none
theorem Data.func?_eq {d : Data} {fd : FuncData} (h : Data.func? d = some fd) : d = .func fd := by
 cases d <;> first | exact nn h | exact congrArg _ (Option.some.inj h)
theorem Data.cls?_eq {d : Data} {cd : ClassData} (h : Data.cls? d = some cd) : d = .cls cd := by
 cases d <;> first | exact nn h | exact congrArg _ (Option.some.inj h)
noncomputable def fdIn (K : Frag) (a : Addr) : Option FuncData := (K.lookup a).bind fun o => Data.func? o.data
noncomputable def fdOf (K : Frag) (a : Addr) : FuncData := (fdIn K a).getD default
noncomputable def lookFn (K : Frag) (a : Addr) : Bool := (fdIn K a).isSome && (codeIn K (fdOf K a).code (fdOf K a).qualname && ((fdOf K a).globals == mainGlobals && ((fdOf K a).builtins == builtinsNs && (fdOf K a).closure.isEmpty)))
noncomputable def fnAs (P : Prog) : List Addr := 28 :: 48 :: P.fas
noncomputable def psOf (P : Prog) : List (List Str) := nsW :: nsM :: P.fns.map fun r => r.ps.map (nmOf P.names)
noncomputable def five (w1 w2 w3 w4 w5 : Value) (k : Nat) : List Value := [w1, w2, w3, w4, w5].take k
abbrev Bnd := Setting -> Value -> Value -> Value -> Value -> Value -> List (Option (List (Str × Value)))
noncomputable def bndK (P : Prog) (K : Frag) : Bnd := fun S w1 w2 w3 w4 w5 => (fnAs P).zipWith (fun a ns => peek K S (bindArgs (fdOf K a) ⟨five w1 w2 w3 w4 w5 ns.length, []⟩)) (psOf P)
noncomputable def bndP (P : Prog) : Bnd := fun _ w1 w2 w3 w4 w5 => (psOf P).map fun ns => some (ns.zip (five w1 w2 w3 w4 w5 ns.length))
def Binds (K : Frag) (a : Addr) (names : List Str) : Prop := ∀ ws : List Value, ws.length = names.length -> ∀ S, peek K S (bindArgs (fdOf K a) ⟨ws, []⟩) = some (names.zip ws)
theorem five_eq : ∀ {ws : List Value}, ws.length <= 5 -> ∃ w1 w2 w3 w4 w5, five w1 w2 w3 w4 w5 ws.length = ws
 | [], _ => ⟨.none, .none, .none, .none, .none, rfl⟩
 | [a], _ => ⟨a, .none, .none, .none, .none, rfl⟩
 | [a, b], _ => ⟨a, b, .none, .none, .none, rfl⟩
 | [a, b, c], _ => ⟨a, b, c, .none, .none, rfl⟩
 | [a, b, c, d], _ => ⟨a, b, c, d, .none, rfl⟩
 | [a, b, c, d, e], _ => ⟨a, b, c, d, e, rfl⟩
 | _ :: _ :: _ :: _ :: _ :: _ :: _, h => absurd h (by show ¬ _ + 6 <= 5; omega)
theorem binds_of {P : Prog} {K : Frag} (h : bndK P K = bndP P) {i : Nat} {a : Addr} {ns : List Str} (ha : (fnAs P)[i]? = some a) (hn : (psOf P)[i]? = some ns) (h5 : ns.length <= 5) : Binds K a ns := fun ws hl S => by
 obtain ⟨w1, w2, w3, w4, w5, e⟩ := five_eq (hl ▸ h5 : ws.length <= 5)
 have z := congrArg (fun f : Bnd => (f S w1 w2 w3 w4 w5)[i]?) h
 have z : ((fnAs P).zipWith (fun a ns => peek K S (bindArgs (fdOf K a) ⟨five w1 w2 w3 w4 w5 ns.length, []⟩)) (psOf P))[i]? = ((psOf P).map fun ns => some (ns.zip (five w1 w2 w3 w4 w5 ns.length)))[i]? := z
 rw [List.getElem?_zipWith, List.getElem?_map, ha, hn] at z
 have z : peek K S (bindArgs (fdOf K a) ⟨five w1 w2 w3 w4 w5 ns.length, []⟩) = some (ns.zip (five w1 w2 w3 w4 w5 ns.length)) := Option.some.inj z
 rw [<- hl, e] at z
 exact z
structure DefIs (K : Frag) (a : Addr) (d : Df) : Prop where
 look : lookFn K a = true
 bd : (fdOf K a).body = d.1
 sc : (fdOf K a).scope = d.2
theorem fdIn_some {K : Frag} {a : Addr} (h : (fdIn K a).isSome = true) : ∃ o, K.lookup a = some o /\ o.data = .func (fdOf K a) := by
 obtain ⟨fd, e⟩ := Option.isSome_iff_exists.mp h
 obtain ⟨o, e1, e2⟩ := Option.bind_eq_some_iff.mp e
 exact ⟨o, e1, by unfold fdOf; rw [e]; exact Data.func?_eq e2⟩
theorem fnOk_of {C : Cx} {f : Nat} {r : Fn} {d : Df} (D : DefIs C.K (C.fa f) d) (h : okFn C.toDt r d = true) (re : reB (C.toDt, r.body) d.1 = d.1) (hb : Binds C.K (C.fa f) (r.ps.map C.nm)) : FnOk C f r (fdOf C.K (C.fa f)) (toSs C.toDt r.body (itsOf d.1)) := by
 obtain ⟨l1, l2⟩ := and2 D.look
 obtain ⟨l2, l3⟩ := and2 l2
 obtain ⟨l3, l4⟩ := and2 l3
 obtain ⟨l4, l5⟩ := and2 l4
 obtain ⟨h1, h2⟩ := and2 h
 obtain ⟨h2, h3⟩ := and2 h2
 obtain ⟨h3, h4⟩ := and2 h3
 obtain ⟨s1, s2⟩ := and2 h1
 obtain ⟨s2, s3⟩ := and2 s2
 rw [<- D.sc] at h2 h3 s1 s2 s3
 exact ⟨fdIn_some l1, D.bd.trans re.symm, ⟨_, rfl, h2⟩, not_eq s1, not_eq s2, eq_of_beq (and2 s3).1, l2, eq_of_beq l3, eq_of_beq l4, List.isEmpty_iff.mp l5, fun ws hl => hb ws (by rw [hl, List.length_map]), fun p hp => List.all_eq_true.mp h3 p hp, of_decide_eq_true (and2 h4).1⟩
theorem defOk_of {K : Frag} {P : Prog} {a : Addr} {d : Df} {B : Str} {ns : List Str} {s : Ss} {D0 : Dt} (D : DefIs K a d) (h : okTwo B ns d = true) (re : reB (D0, s) d.1 = d.1) (hb : Binds K a ns) (hn : ns.Nodup) : DefOk K a (fdOf K a) (toSs D0 s (itsOf d.1)) ns /\ (fdOf K a).scope.names.lookup B = some .globalImplicit /\ twoP (itsOf d.1) = true := by
 refine cps fun G_ f_ => ?_
 obtain ⟨l1, l2⟩ := and2 D.look
 obtain ⟨l2, l3⟩ := and2 l2
 obtain ⟨l3, l4⟩ := and2 l3
 obtain ⟨l4, l5⟩ := and2 l4
 obtain ⟨h1, h2⟩ := and2 h
 obtain ⟨h2, h3⟩ := and2 h2
 obtain ⟨h3, h4⟩ := and2 h3
 obtain ⟨h4, h5⟩ := and2 h4
 obtain ⟨s1, s2⟩ := and2 h1
 obtain ⟨s2, s3⟩ := and2 s2
 refine f_ ?_
 clear f_ G_
 rw [<- D.sc] at h3 h4 h5 s1 s2 s3
 exact ⟨⟨fdIn_some l1, D.bd.trans re.symm, not_eq s1, not_eq s2, eq_of_beq (and2 s3).1, l2, eq_of_beq l3, eq_of_beq l4, List.isEmpty_iff.mp l5, hb, fun x hx => bne_iff_ne.mp (List.all_eq_true.mp h3 x hx), fun n hn => eq_of_beq (List.all_eq_true.mp h4 n hn), hn⟩, eq_of_beq h5, h2⟩
noncomputable def isV (r : Option (Option Value)) (v : Option Value) : Bool := r == some v
theorem isV_eq {r : Option (Option Value)} {v : Option Value} (h : isV r v = true) : r = some v := eq_of_beq h
noncomputable def clsB (P : Prog) (K : Frag) (a : Addr) (ga : String) : Bool := isV (findIn K (.ref a) "__getattribute__") (some (.builtin ga)) && (isV (findIn K (.ref a) "__getattr__") none && (hasDictIn K a && [5, 6, 7, 8].all fun n => isV (findIn K (.ref a) (nmOf P.names n)) none))
noncomputable def osa : Value := .builtin "object.__setattr__"
noncomputable def instB (K : Frag) (a : Addr) : Bool := makesIn K a && (isV (findIn K (.ref a) "__setattr__") (some osa) && plainOver K a)
noncomputable def newAt (l : List (Option Value)) : Bool := l.length == 6 && l[4]? == some (some (.builtin "Exception.__new__"))
noncomputable def litB (a : Addr) (o : Obj) : Bool := o.cls == .type "type" && (newAt o.slots.toList && ((Data.cls? o.data).any fun cd => cd.mro == .ref a :: cd.mro.tail && (!cd.hasDel && (excLine cd.mro && (cd.hasDict && (cd.mro.tail.contains (.type "Exception") && (!(cd.mro.tail.contains (.type "AttributeError")) && !(cd.mro.tail.contains (.type "NameError")))))))))
noncomputable def excB (K : Frag) (a : Addr) : Bool := (K.lookup a).any (litB a) && (subIn K (.ref a) (.type "BaseException") == some true && (typeIn K (.ref a) == some (.type "type") && (subIn K (.ref a) (.ref a) == some true && (isV (specialIn K (.ref a) "__call__") (some (.builtin "type.__call__")) &&
 (isV (findIn K (.ref a) "__setattr__") (some osa) && (mroIn K a (.type "object") == some true && (isV (findIn K (.ref a) "why") none && isV (findIn K (.ref a) "at") none)))))))
noncomputable def isFnAt (K : Frag) (a : Addr) : Bool := typeIn K (.ref a) == some (.type "function")
noncomputable def G.below (k : Nat) : G -> Bool
 | .fn f => decide (f < k)
 | _ => true
noncomputable def glB (P : Prog) (K : Frag) (x : Nat × G) : Bool := x.2.below P.fns.length &&
 (isV (nsIn K mainGlobals (nmOf P.names x.1)) (some ((dt P).gv x.2)) || (isV (nsIn K mainGlobals (nmOf P.names x.1)) none && (bootBuiltins (nmOf P.names x.1) == some ((dt P).gv x.2) && nmOf P.names x.1 != "__name__")))
noncomputable def methB (P : Prog) (K : Frag) (x : (Nat × Nat) × Nat) : Bool := isV (findIn K (.ref ((dt P).ca x.1.1)) (nmOf P.names x.1.2)) (some (.ref ((dt P).fa x.2))) && (isFnAt K ((dt P).fa x.2) && decide (x.2 < P.fns.length))
noncomputable def initB (P : Prog) (K : Frag) (x : Nat × Nat) : Bool := isV (findIn K (.ref ((dt P).ca x.1)) "__init__") (some (.ref ((dt P).fa x.2))) && isFnAt K ((dt P).fa x.2)
noncomputable def isCls (r : Option CFound) (v : Value) : Bool := match r with
 | some (.val u) => u == v
 | _ => false
noncomputable def baseB (K : Frag) : Bool := isV (nsIn K mainGlobals "Exception") none && (isV (nsIn K mainGlobals "WasmFault") (some (.ref 31)) && (isCls (findCls K (.type "Exception") (.type "type") "__init__") (.builtin "Exception.__init__") && (readsIn K 31 (.type "type") && (isCls (findCls K (.ref 31) (.type "type") "__init__") (.ref 28) &&
 (isV (specialIn K (.ref 31) "__getattribute__") (some (.builtin "type.__getattribute__")) && (isV (findIn K (.ref 51) "__init__") (some (.ref 48)) && (isV (findIn K (.ref 63) "__init__") (some (.ref 28)) && (isFnAt K 28 && isFnAt K 48))))))))
noncomputable def lookB (P : Prog) (K : Frag) : Bool := (clsB P K 181 "object.__getattribute__" && clsB P K 251 "object.__getattribute__") && ((clsB P K 51 "BaseException.__getattribute__" && clsB P K 63 "BaseException.__getattribute__") && ((instB K 181 && instB K 251) && ((excB K 51 && excB K 63) && ((P.meths.all (methB P K) && (P.inits.all (initB P K) && P.gls.all (glB P K))) && (baseB K && (fnAs P).all (lookFn K))))))
theorem isCls_eq {r : Option CFound} {v : Value} (h : isCls r v = true) : r = some (.val v) := by
 cases r with
 | none => exact Bool.noConfusion (show false = true from h)
 | some f => cases f with
  | val u => rw [eq_of_beq (show (u == v) = true from h)]
  | _ => exact Bool.noConfusion (show false = true from h)
theorem clsOk_of {P : Prog} {C : Cx} (hd : C.toDt = dt P) {a : Addr} {ga : String} (h : clsB P C.K a ga = true) : ClsOk C a ga := by
 obtain ⟨h1, h⟩ := and2 h
 obtain ⟨h2, h⟩ := and2 h
 obtain ⟨h3, h4⟩ := and2 h
 exact ⟨isV_eq h1, isV_eq h2, h3, fun n hn => by
  rw [hd] at hn
  show findIn C.K (.ref a) (C.toDt.nm n) = _
  rw [hd]
  exact isV_eq (List.all_eq_true.mp h4 n (List.contains_iff_mem.mp hn))⟩
theorem list6 {α : Type} : ∀ {l : List α}, l.length = 6 -> ∃ a b c d e f, l = [a, b, c, d, e, f]
 | [a, b, c, d, e, f], _ => ⟨a, b, c, d, e, f, rfl⟩
theorem cd_eta {a : Addr} : ∀ {cd : ClassData}, cd.mro = .ref a :: cd.mro.tail -> cd.hasDel = false -> cd = { name := cd.name, bases := cd.bases, mro := .ref a :: cd.mro.tail, ns := cd.ns, qualname := cd.qualname, hasDict := cd.hasDict, slotNames := cd.slotNames, subclasses := cd.subclasses, abstract := cd.abstract, collection := cd.collection, hasDel := false }
 | ⟨n, b, m, ns, q, hd, sn, sb, ab, co, del⟩, h1, h2 => by
  replace h1 : m = .ref a :: m.tail := h1
  obtain rfl : del = false := h2
  show (⟨n, b, m, ns, q, hd, sn, sb, ab, co, false⟩ : ClassData) = ⟨n, b, .ref a :: m.tail, ns, q, hd, sn, sb, ab, co, false⟩
  rw [<- h1]
theorem exc_of {K : Frag} {a : Addr} (h : excB K a = true) : (∃ cd bm, ExcObj K a cd bm) /\ (∃ oc od cd sl, K.lookup a = some ⟨oc, od, .cls cd, sl⟩ /\ specialIn K (.ref a) "__call__" = some (some (.builtin "type.__call__"))) /\ subIn K (.ref a) (.type "BaseException") = some true /\ typeIn K (.ref a) = some (.type "type") /\ subIn K (.ref a) (.ref a) = some true := by
 refine cps fun G_ f_ => ?_
 obtain ⟨h0, h⟩ := and2 h
 obtain ⟨h1, h⟩ := and2 h
 obtain ⟨h2, h⟩ := and2 h
 obtain ⟨h3, h⟩ := and2 h
 obtain ⟨h4, h⟩ := and2 h
 obtain ⟨h5, h⟩ := and2 h
 obtain ⟨h6, h⟩ := and2 h
 obtain ⟨h7, h8⟩ := and2 h
 obtain ⟨⟨oc, od, dd, sl⟩, e, h0⟩ := (Option.any_eq_true _ _).mp h0
 obtain ⟨a1, h0⟩ := and2 h0
 obtain ⟨a2, h0⟩ := and2 h0
 obtain ⟨cd, ec, h0⟩ := (Option.any_eq_true _ _).mp h0
 obtain ⟨a3, h0⟩ := and2 h0
 obtain ⟨a4, h0⟩ := and2 h0
 obtain ⟨a5, h0⟩ := and2 h0
 obtain ⟨a6, h0⟩ := and2 h0
 obtain ⟨a7, h0⟩ := and2 h0
 obtain ⟨a8, a9⟩ := and2 h0
 obtain ⟨a2, b2⟩ := and2 a2
 obtain ⟨k0, k1, k2, k3, k4, k5, es⟩ := list6 (eq_of_beq a2)
 refine f_ ?_
 clear f_ G_
 replace es : sl.toList = [k0, k1, k2, k3, k4, k5] := es
 replace b2 : sl.toList[4]? = some (some (.builtin "Exception.__new__")) := eq_of_beq b2
 rw [es] at b2
 obtain rfl : k4 = some (.builtin "Exception.__new__") := Option.some.inj b2
 obtain rfl : oc = .type "type" := eq_of_beq a1
 obtain rfl : dd = .cls cd := Data.cls?_eq ec
 have hsl : sl = #[k0, k1, k2, k3, some (.builtin "Exception.__new__"), k5] := by rw [<- Array.toArray_toList (xs := sl), es]
 refine ⟨⟨cd, cd.mro.tail, { cls := by unfold clsIn; rw [e], line := a5, dct := a6, set := isV_eq h5, obj := eq_of_beq h6, lit := ⟨cd.name, cd.qualname, cd.ns, cd.bases, cd.hasDict, cd.slotNames, cd.subclasses, cd.abstract, cd.collection, od, k0, k1, k2, k3, k5, ?_⟩, bmB := a7, bmA := not_eq a8, bmN := not_eq a9, noWhy := isV_eq h7, noAt := isV_eq h8 }⟩, ⟨_, od, cd, sl, e, isV_eq h4⟩, eq_of_beq h1, eq_of_beq h2, eq_of_beq h3⟩
 rw [e, hsl]
 exact congrArg (fun x => some (⟨.type "type", od, .cls x, #[k0, k1, k2, k3, some (.builtin "Exception.__new__"), k5]⟩ : Obj)) (cd_eta (eq_of_beq a3) (not_eq a4))
noncomputable def Data.dict? : Data -> Option (Array DictEntry)
 | .dict es _ => some es
 | _ => none
theorem nsIn_some {K : Frag} {a : Addr} {x : Str} {r : Option Value} (e : nsIn K a x = some r) : ∃ o es, K.lookup a = some o /\ Data.dict? o.data = some es /\ (es.toList.find? (·.key.isStr x)).map (·.val) = r := by
 unfold nsIn at e
 cases q : K.lookup a with
 | none => rw [q] at e; exact nn e
 | some o =>
  rw [q] at e
  obtain ⟨oc, od, dd, sl⟩ := o
  cases dd with
  | dict es n =>
   refine ⟨_, es, rfl, rfl, ?_⟩
   cases z : es.toList.find? (·.key.isStr x) with
   | some en =>
    have e : (match es.toList.find? (·.key.isStr x) with | some e => some (some e.val) | none => if es.toList.any (·.refKey) then none else some none) = some r := e
    rw [z] at e; exact Option.some.inj e
   | none =>
    have e : (match es.toList.find? (·.key.isStr x) with | some e => some (some e.val) | none => if es.toList.any (·.refKey) then none else some none) = some r := e
    rw [z] at e
    exact Option.some.inj (ite_none e).2
  | _ => exact nn e
theorem ns_of {K : Frag} {h : Heap} {a : Addr} {m : Str -> Option Value} {x : Str} {r : Option Value} (X : K.In h) (hn : h.Ns a m) (e : nsIn K a x = some r) : m x = r := by
 obtain ⟨o, es, e1, e2, e3⟩ := nsIn_some e
 obtain ⟨o', es', ep, f1, f2, f3, f4⟩ := hn
 obtain rfl := some_uniq (X _ _ e1) f1
 rw [f2] at e2
 obtain rfl := Option.some.inj e2
 rw [<- f4, <- e3]
 unfold nsFind findBy
 rw [<- Array.find?_toList]
structure Looked (P : Prog) (K : Frag) (ds : List Df) : Prop where
 b : lookB P K = true
 defs : (fnAs P).map (fun a => ((fdOf K a).body, (fdOf K a).scope)) = ds
 binds : bndK P K = bndP P
section
variable {P : Prog} {prog : Program} {w : World} {H0 : Heap} {os : OsState} {arg : Obj} {K : Frag} {mg mb : Str -> Option Value} {ds : List Df}
theorem two_c {p : Addr -> Prop} (h1 : p 181) (h2 : p 251) (c : Nat) : p ((dt P).ca c) := by
 show p (if c = 0 then 181 else 251)
 by_cases q : c = 0
 ·rw [if_pos q]; exact h1
 ·rw [if_neg q]; exact h2
theorem two_e {p : Addr -> Prop} (h1 : p 51) (h2 : p 63) (c : Nat) : p ((dt P).ea c) := by
 show p (if c = 0 then 51 else 63)
 by_cases q : c = 0
 ·rw [if_pos q]; exact h1
 ·rw [if_neg q]; exact h2
theorem defIs (L : Looked P K ds) {i : Nat} {a : Addr} (ha : (fnAs P)[i]? = some a) : ∃ d, ds[i]? = some d /\ DefIs K a d := by
 obtain ⟨_, h⟩ := and2 L.b
 obtain ⟨_, h⟩ := and2 h
 obtain ⟨_, h⟩ := and2 h
 obtain ⟨_, h⟩ := and2 h
 obtain ⟨_, h⟩ := and2 h
 exact ⟨_, by rw [<- L.defs, List.getElem?_map, ha]; rfl, List.all_eq_true.mp (and2 h).2 a (List.mem_of_getElem? ha), rfl, rfl⟩
theorem re_at (S : Said P ds) {i : Nat} {p : Dt × Ss} {d : Df} (hp : (terms P)[i]? = some p) (hd : ds[i]? = some d) : reB p d.1 = d.1 := by
 have z := congrArg (·[i]?) S.re
 have z : ((terms P).zipWith (fun p d => reB p d.1) ds)[i]? = (ds.map (·.1))[i]? := z
 rw [List.getElem?_zipWith, List.getElem?_map, hp, hd] at z
 exact Option.some.inj z
theorem ok_parts {ds : List Df} (h : okAll P ds = true) : ∃ d d' r, ds = d :: d' :: r /\ okTwo "Exception" nsW d = true /\ okTwo "WasmFault" nsM d' = true /\ P.fas.length = P.fns.length /\ (P.fns.zip r).all (fun x => okFn (dt P) x.1 x.2) = true := by
 cases ds with
 | nil => exact Bool.noConfusion (show false = true from h)
 | cons d r => cases r with
  | nil => exact Bool.noConfusion (show false = true from h)
  | cons d' r =>
   obtain ⟨h1, h⟩ := and2 h
   obtain ⟨h2, h⟩ := and2 h
   exact ⟨d, d', r, rfl, h1, h2, eq_of_beq (and2 h).1, (and2 h).2⟩
theorem fn_at (S : Said P ds) (L : Looked P K ds) {C : Cx} (hC : C.toDt = dt P) (hK : C.K = K) {f : Nat} {r : Fn} (h : P.fns[f]? = some r) : ∃ d : Df, FnOk C f r (fdOf C.K (C.fa f)) (toSs C.toDt r.body (itsOf d.1)) /\ plainS d.2 = true /\ (fdOf C.K (C.fa f)).scope = d.2 := by
 obtain ⟨d, d', rs, rfl, _, _, hl, hall⟩ := ok_parts S.ok
 obtain ⟨a, ha⟩ := Option.isSome_iff_exists.mp (show (P.fas[f]?).isSome = true by rw [List.getElem?_eq_getElem (hl ▸ (List.getElem?_eq_some_iff.mp h).1)]; rfl)
 have hfa : C.fa f = a := by
  show C.toDt.fa f = a
  rw [hC]
  show P.fas.getD f 0 = a
  rw [List.getD_eq_getElem?_getD, ha]; rfl
 obtain ⟨x, hx, D⟩ := defIs (i := f + 2) L (a := a) ha
 have hx : rs[f]? = some x := hx
 have ok := List.all_eq_true.mp hall (r, x) (List.mem_of_getElem? (i := f) (List.getElem?_zip_eq_some.mpr ⟨h, hx⟩))
 have re := re_at S (i := f + 2) (p := (dt P, r.body)) (d := x) (by show (P.fns.map fun r => (dt P, r.body))[f]? = _; rw [List.getElem?_map, h]; rfl) hx
 have h5 := (and2 (and2 (and2 (and2 ok).2).2).2).2
 have hb := binds_of (i := f + 2) (a := a) (ns := r.ps.map (nmOf P.names)) L.binds ha (by show (P.fns.map fun r => r.ps.map (nmOf P.names))[f]? = _; rw [List.getElem?_map, h]; rfl) (by rw [List.length_map]; exact of_decide_eq_true h5)
 rw [<- hK, <- hfa] at D hb
 exact ⟨x, fnOk_of D (hC ▸ ok) (hC ▸ re) (by rw [show C.nm = nmOf P.names by show C.toDt.nm = _; rw [hC]; rfl]; exact hb), (and2 ok).1, D.sc⟩
theorem cxOk_of (S : Said P ds) (L : Looked P K ds) (X : K.In H0) (hg : H0.Ns mainGlobals mg) (hb : H0.Ns builtinsNs mb) (hbb : ∀ x : Str, x ≠ "__name__" -> mb x = bootBuiltins x) (lim : H0.NoLimit) : CxOk (cx P prog w H0 os arg K) := by
 obtain ⟨t1, t2, t3, t4, t5, t6⟩ := nmOf_told S.names
 obtain ⟨c1, h⟩ := and2 L.b
 obtain ⟨c2, h⟩ := and2 h
 obtain ⟨c3, h⟩ := and2 h
 obtain ⟨c4, h⟩ := and2 h
 obtain ⟨c5, _⟩ := and2 h
 obtain ⟨cm, c5⟩ := and2 c5
 obtain ⟨ci, cg⟩ := and2 c5
 obtain ⟨i1, i2⟩ := and2 c3
 obtain ⟨i3, i4⟩ := and2 i1
 obtain ⟨i5, i6⟩ := and2 i2
 obtain ⟨x1, x2⟩ := and2 c4
 have e1 := exc_of x1
 have e2 := exc_of x2
 have hm := fun x hx => List.all_eq_true.mp cm x hx
 have hi := fun x hx => List.all_eq_true.mp ci x hx
 have hgl := fun x hx => List.all_eq_true.mp cg x hx
 have isFn : ∀ {f : Nat}, f < P.fns.length -> ((dt P).T.fn f).isSome = true := fun {f} hf => by
  show (P.fns[f]?).isSome = true
  rw [List.getElem?_eq_getElem hf]; rfl
 exact {
     nm := { inj := nmOf_inj S.names, dot := nmOf_dot S.names, append := t1, extend := t2, pop := t3, join := t4, why := t5, at_ := t6 }
     kin := X
     inst := two_c (p := fun a => ClsOk (cx P prog w H0 os arg K) a "object.__getattribute__") (clsOk_of rfl (and2 c1).1) (clsOk_of rfl (and2 c1).2)
     exc := two_e (p := fun a => ClsOk (cx P prog w H0 os arg K) a "BaseException.__getattribute__") (clsOk_of rfl (and2 c2).1) (clsOk_of rfl (and2 c2).2)
     sub := two_e (p := fun a => subIn K (.ref a) (.type "BaseException") = some true) e1.2.2.1 e2.2.2.1
     meth := fun c m f h => have z := and2 (hm _ (lookup_memB h)); ⟨isV_eq z.1, eq_of_beq (and2 z.2).1⟩
     init := fun c f h => have z := and2 (hi _ (lookup_memB h)); ⟨isV_eq z.1, eq_of_beq z.2⟩
     makes := two_c (p := fun a => makesIn K a = true) i3 i5
     set := two_c (p := fun a => findIn K (.ref a) "__setattr__" = some (some (.builtin "object.__setattr__")) /\ plainOver K a = true) ⟨isV_eq (and2 i4).1, (and2 i4).2⟩ ⟨isV_eq (and2 i6).1, (and2 i6).2⟩
     fn := fun f r h => (fn_at S L (C := cx P prog w H0 os arg K) rfl rfl h).elim fun d z => ⟨_, _, z.1⟩
     glob := ⟨mg, mb, hg, hb, fun n g h => by
      rcases Bool.or_eq_true_iff.mp (and2 (hgl _ (lookup_memB h))).2 with q | q
      ·exact .inl (ns_of X hg (isV_eq q))
      ·exact .inr ⟨ns_of X hg (isV_eq (and2 q).1), (hbb _ (bne_iff_ne.mp (and2 (and2 q).2).2)).trans (eq_of_beq (and2 (and2 q).2).1)⟩⟩
     lim := lim
     methFn := fun c m f h => isFn (of_decide_eq_true (and2 (and2 (hm _ (lookup_memB h))).2).2)
     glFn := fun n f h => isFn (of_decide_eq_true (show decide (f < P.fns.length) = true from (and2 (hgl _ (lookup_memB h))).1))
     excCls := two_e (p := fun a => ∃ oc od cd sl, K.lookup a = some ⟨oc, od, .cls cd, sl⟩ /\ specialIn K (.ref a) "__call__" = some (some (.builtin "type.__call__"))) e1.2.1 e2.2.1 }
theorem cxExc_of (L : Looked P K ds) : CxExc (cx P prog w H0 os arg K) := by
 obtain ⟨_, h⟩ := and2 L.b
 obtain ⟨_, h⟩ := and2 h
 obtain ⟨_, h⟩ := and2 h
 obtain ⟨x1, x2⟩ := and2 (and2 h).1
 have e1 := (exc_of x1).2.2.2
 have e2 := (exc_of x2).2.2.2
 exact ⟨two_e (p := fun a => typeIn K (.ref a) = some (.type "type")) e1.1 e2.1, two_e (p := fun a => subIn K (.ref a) (.ref a) = some true) e1.2 e2.2⟩
theorem excNew_looked (S : Said P ds) (L : Looked P K ds) (X : K.In H0) (hg : H0.Ns mainGlobals mg) (hb : H0.Ns builtinsNs mb) (hbb : ∀ x : Str, x ≠ "__name__" -> mb x = bootBuiltins x) (hx : bootBuiltins "Exception" = some (.type "Exception")) (XO : CxOk (cx P prog w H0 os arg K)) : ExcNew (cx P prog w H0 os arg K) := by
 refine cps fun G_ f_ => ?_
 obtain ⟨_, h⟩ := and2 L.b
 obtain ⟨_, h⟩ := and2 h
 obtain ⟨_, h⟩ := and2 h
 obtain ⟨x, h⟩ := and2 h
 obtain ⟨x1, x2⟩ := and2 x
 obtain ⟨_, h⟩ := and2 h
 obtain ⟨h1, h⟩ := and2 (and2 h).1
 obtain ⟨h2, h⟩ := and2 h
 obtain ⟨h3, h⟩ := and2 h
 obtain ⟨h4, h⟩ := and2 h
 obtain ⟨h5, h⟩ := and2 h
 obtain ⟨h6, h⟩ := and2 h
 obtain ⟨h7, h⟩ := and2 h
 obtain ⟨h8, h⟩ := and2 h
 obtain ⟨h9, h10⟩ := and2 h
 obtain ⟨d, d', rs, rfl, o1, o2, _, _⟩ := ok_parts S.ok
 obtain ⟨y, ey, D⟩ := defIs (i := 0) L (a := 28) rfl
 obtain rfl : d = y := Option.some.inj ey
 obtain ⟨y', ey', D'⟩ := defIs (i := 1) L (a := 48) rfl
 obtain rfl : d' = y' := Option.some.inj ey'
 refine f_ ?_
 clear f_ G_
 have A := defOk_of (P := P) (s := twoS 3) (D0 := dtB P "Exception") D o1 (re_at S (i := 0) rfl rfl) (binds_of (i := 0) (ns := nsW) L.binds rfl rfl (by decide)) (by decide)
 have B := defOk_of (P := P) (s := twoS 4) (D0 := dtB P "WasmFault") D' o2 (re_at S (i := 1) rfl rfl) (binds_of (i := 1) (ns := nsM) L.binds rfl rfl (by decide)) (by decide)
 exact excNew_of (C := cx P prog w H0 os arg K) (W := 31) (fW := 28) (fM := 48) XO
  { glob := ⟨mg, mb, hg, hb, ns_of X hg (isV_eq h1), (hbb _ (by decide)).trans hx, ns_of X hg (isV_eq h2)⟩, ini := isCls_eq h3, rd := h4, wini := isCls_eq h5, wga := isV_eq h6, defW := ⟨_, _, A.1, two_of A.2.2, A.2.1⟩, defM := ⟨_, _, B.1, two_of' B.2.2, B.2.1⟩ }
  (nmOf_told S.names).2.2.2.2.1 (nmOf_told S.names).2.2.2.2.2 (exc_of x1).1 (isV_eq h7) (eq_of_beq h10) (exc_of x2).1 (isV_eq h8) (eq_of_beq h9)
theorem cxFn_of (S : Said P ds) (L : Looked P K ds) : CxFn (cx P prog w H0 os arg K) := by
 refine ⟨fun f r fd o h e1 e2 => ?_⟩
 obtain ⟨d, F, pl, sc⟩ := fn_at S L (C := cx P prog w H0 os arg K) rfl rfl h
 obtain ⟨o', e3, e4⟩ := F.obj
 obtain rfl := some_uniq e1 e3
 obtain rfl : fd = _ := Data.func.inj (e2.symm.trans e4)
 rw [sc]
 exact of_decide_eq_true (and2 (and2 (and2 pl).2).2).2
end
theorem caller_calm : Calm (⟨.builtin "claim.caller" {}, none, none, [], none⟩ : Ctx) := ⟨by decide +kernel, fun x hx => by cases hx⟩
theorem ends_X {prog : Program} {w : World} {t : Sem Fin} {s : Shared} {R : Result -> Shared -> Prop} (hz : s.asleep)
  (h : wpX (model prog w) callerA t (fun fin s' => ∃ f, fin = .done f /\ R (.ok f) s' /\ leftWithCleanup s'.gens = false) (fun e s' => R (.error e) s' /\ leftWithCleanup s'.gens = false) s) :
  ∃ n r s' s'', runN (denote table) prog w n s ⟨t, .builtin "claim.caller" {}, default, []⟩ = .halted (outcomeOf r) s' /\ schedN (denote table) prog w n (.single s ⟨t, .builtin "claim.caller" {}, default, []⟩) = .halted (outcomeOf r) s' /\ s'.forget = s''.forget /\ R r s'' := by
 have hw : Sem.wp (model prog w) ⟨.builtin "claim.caller" {}, none, none, [], none⟩ t (Sem.finPost (model prog w) ⟨.builtin "claim.caller" {}, none, none, [], none⟩ fun r s' => R r s' /\ leftWithCleanup s'.gens = false) (fun e _ s' => R (.error e) s' /\ leftWithCleanup s'.gens = false) default s := by
  refine Sem.wp_mono _ _ t (fun fin p' s' z => ?_) (fun _ _ _ z => z) default s (h _ default caller_in caller_calm)
  obtain ⟨f, rfl, z⟩ := z
  exact z
 obtain ⟨n, r, s₁, s₂, e1, e2, e3, e4⟩ := wp_halts_full (M := model prog w) (R := R) hz hw
 exact ⟨n, r, s₂, s₁, e2, e1, e3, e4⟩
abbrev WalkT (q : Program) (loose : List Str) (XP : (Str -> Option Value) -> Heap -> Prop) (YP : World -> Heap -> Prop) (r : RowW) : Prop :=
 ∀ (w : World) (s₀ s₁ : Shared) (mg mb : Str -> Option Value), Ground q loose r.records XP w s₀ mg mb s₀.heap -> YP w s₀.heap -> ∀ (args : List WData) (vs : List Value) (as : List Addr),
  r.claim.pre args = true -> WData.layableAll args = true -> Laid r.records w s₀ s₁ args vs as -> sysModules < s₀.heap.objs.size -> ∃ f, mg r.name = some f /\
   wpX (model r.prog w) callerA (PySem.call f vs) (fun v s' => GoodWG r.claim (classAt s₀.heap) (ExcName.means s₀.heap) args s₁ (.ok (.ret v)) s') (fun e s' => GoodWG r.claim (classAt s₀.heap) (ExcName.means s₀.heap) args s₁ (.error e) s') s₁
theorem pre_law {l : OpenLaw} {args : List WData} (hm : l.most = some 63) (hb : l.bound = none) (h : l.row.toRowW.claim.pre args = true) : ∃ ns : List Int, args = [.list (ns.map .int)] /\ ns.length <= 63 := by
 have h : (WShape.hasAll [] args [.list .int] && l.pre.holds [] { args := args }) = true := h
 obtain ⟨h1, h2⟩ := Bool.and_eq_true_iff.mp h
 match args, h1 with
 | [d], h1 =>
  simp only [WShape.hasAll, List.isEmpty_nil, Bool.and_true] at h1
  obtain ⟨xs, rfl, hx⟩ := hasW_list h1
  obtain ⟨ns, rfl⟩ := items_int hx
  refine ⟨ns, rfl, ?_⟩
  unfold OpenLaw.pre at h2
  rw [hm, hb] at h2
  by_cases q : (63 : Int) < ns.length
  ·exfalso
   simp [WTm.holds, WTm.value, less?, Num.less?, q] at h2
  ·omega
 | d :: d' :: r, h1 => simp [WShape.hasAll] at h1
theorem post_law {l : OpenLaw} (args : List WData) : l.row.toRowW.claim.post args (.bool true) args = true := by
 show (WShape.has [] (.bool true) .bool && (WTm.eq .res (.lit (.bool true))).holds [] { args := args, res := some (.bool true), after := args }) = true
 simp [WShape.has, WShape.arms, WTm.holds, WTm.value, same]
theorem vrels_ints {ρ : Env2} {h : Heap} {w : Params} : ∀ {ws : List Value} {ns : List Int}, WellAll w h ws (ns.map .int) -> VRels ρ h (ns.map .int) ws
 | _, [], x => by cases x; rfl
 | _, n :: ns, x => by
  cases x with
  | cons a b => cases a; exact ⟨_, _, rfl, ⟨_, rfl⟩, vrels_ints b⟩
theorem laid_list {R : List (Str × List (Str × WShape))} {w : World} {s₀ s₁ : Shared} {ns : List Int} {vs : List Value} {as : List Addr} (L : Laid R w s₀ s₁ [.list (ns.map .int)] vs as) : ∃ x ws, vs = [.ref x] /\ s₁.heap.get? x = some { cls := .type "list", data := .seq ws.toArray 0 } /\ VRels [(x, x)] s₁.heap (ns.map .int) ws /\ s₀.heap.get? x = none := by
 have W := L.well
 have RD := L.reads
 cases W with
 | cons W1 W2 =>
 cases W2
 cases W1 with
 | list ho hws =>
 rename_i x ws
 refine ⟨x, ws, rfl, ho, vrels_ints hws, ?_⟩
 cases RD with
 | cons r1 r2 => cases r1 with
  | list e1 e2 e3 e4 => exact Heap.get?_none_of_le (L.within.2.2 x (by simp)).1
theorem good_true {l : OpenLaw} {args : List WData} {s₀ s₁ s' : Shared} {v : V} {r : Result} {h0 : v = .bool true} (z : TopR s₁ v r s') : ∃ w, r = .ok (.ret w) /\ GoodWG l.row.toRowW.claim (classAt s₀.heap) (ExcName.means s₀.heap) args s₁ (.ok (.ret w)) s' := by
 obtain ⟨w, ρ', rfl, r, keep, hg, hos⟩ := z
 subst h0
 obtain rfl : w = .bool true := r
 exact ⟨_, rfl, .inl ⟨.bool true, .bool true, [], rfl, fun _ => rfl, .bool true, post_law _, fun _ => ⟨List.nodup_nil, fun _ h => nomatch h⟩⟩, .of_keep keep, hos, .of_eq hg⟩
def LookP (P : Prog) (ds : List Df) (n : Str) (a : Addr) (h : Heap) : Prop := ∃ K : Frag, K.In h /\ Looked P K ds /\ isV (nsIn K mainGlobals n) (some (.ref a)) = true
theorem walk_law {l : OpenLaw} {P : Prog} {ds : List Df} {q : Program} {loose : List Str} {XP : (Str -> Option Value) -> Heap -> Prop} {YP : World -> Heap -> Prop} {d k : Nat} {a : Addr} (hm : l.most = some 63) (hbd : l.bound = none) (hd : d < 300)
  (S : Said P ds) (hY : ∀ w h, YP w h -> LookP P ds l.name a h) (hx : bootBuiltins "Exception" = some (.type "Exception")) (ha : P.fas.getD k 0 = a)
  (plain : ∀ ns : List Int, ns.length <= 63 -> ∃ hp', callF P.tab (d + 1) false k [.ref 0] [.list (ns.map .int)] = some (.ok (.bool true) hp')) : WalkT q loose XP YP l.row.toRowW := by
 intro w s₀ s₁ mg mb G Y args vs as hpre hlay L low
 obtain ⟨K, X0, LK, hname⟩ := hY w _ Y
 refine ⟨.ref a, ns_of X0 G.T.g (isV_eq hname), ?_⟩
 obtain ⟨ns, rfl, hlen⟩ := pre_law hm hbd hpre
 obtain ⟨hp', hrun⟩ := plain ns hlen
 obtain ⟨x, ws, rfl, ho, rv, hx0⟩ := laid_list L
 subst ha
 have XO := cxOk_of (prog := l.prog) (w := w) (os := s₁.os) (arg := { cls := .type "list", data := .seq ws.toArray 0 }) S LK X0 G.T.g G.T.b G.T.builtins G.T.nolimit
 have u1 : 1 + claimMargin + 2 * (d + 1) + 2 < recursionLimit := by
  have : claimMargin = 300 := rfl
  have : recursionLimit = 1000 := rfl
  omega
 have u2 : 4 + 4 * (d + 1) + 100 < cLine := by
  have : cLine = 9900 := rfl
  omega
 refine X_call (codeX_mono (top_ok XO (cxExc_of LK) (excNew_looked S LK X0 G.T.g G.T.b G.T.builtins hx XO) (cxFn_of S LK) (d := d) (f := k) hrun (X0.keeps L.keeps) L.keeps hx0 (G.T.nolimit.keeps L.keeps) rfl u1 u2 rfl (.none rfl) L.gens rfl (n := 0) ho rfl rv) fun r s' z => ?_)
 obtain ⟨w', rfl, g⟩ := good_true (h0 := rfl) z
 exact g
end Mine
namespace Mine.P2
open Mine PySem
noncomputable def names : List Str := [Str.ofString "self", Str.ofString "append", Str.ofString "extend", Str.ofString "pop", Str.ofString "join", Str.ofString "why", Str.ofString "at", Str.ofString "octets", Str.ofString "end", Str.ofString "left", Str.ofString "is_done", Str.ofString "peek", Str.ofString "octet", Str.ofString "take", Str.ofString "part", Str.ofString "unsigned", Str.ofString "signed", Str.ofString "u32", Str.ofString "s7", Str.ofString "s32", Str.ofString "s33", Str.ofString "s64", Str.ofString "name", Str.ofString "put", Str.ofString "many", Str.ofString "sized", Str.ofString "len", Str.ofString "Malformed", Str.ofString "found", Str.ofString "bytes", Str.ofString "Cursor", Str.ofString "bits", Str.ofString "shift", Str.ofString "begin", Str.ofString "text_of", Str.ofString "bytearray", Str.ofString "number", Str.ofString "Misused", Str.ofString "text", Str.ofString "utf8_of", Str.ofString "sink", Str.ofString "sign", Str.ofString "point", Str.ofString "ord", Str.ofString "signs", Str.ofString "follow", Str.ofString "least", Str.ofString "head_of", Str.ofString "chr", Str.ofString "script", Str.ofString "kind", Str.ofString "flavour", Str.ofString "points", Str.ofString "k", Str.ofString "range", Str.ofString "_law_width", Str.ofString "_law_points", Str.ofString "is_signed", Str.ofString "behind", Str.ofString "head", Str.ofString "value", Str.ofString "_law_groups", Str.ofString "body", Str.ofString "_law_octets", Str.ofString "_law_sign", Str.ofString "nodes", Str.ofString "_law_form", Str.ofString "stack", Str.ofString "which", Str.ofString "_law_digit", Str.ofString "inner", Str.ofString "_law_node", Str.ofString "_law_value", Str.ofString "Sink", Str.ofString "_law_write", Str.ofString "cursor", Str.ofString "_law_next", Str.ofString "fault", Str.ofString "due", Str.ofString "_law_peeked", Str.ofString "_law_stands", Str.ofString "stand", Str.ofString "told", Str.ofString "_law_told", Str.ofString "_law_is_read", Str.ofString "_law_tree", Str.ofString "_law_is_refused", Str.ofString "around", Str.ofString "cut"]
noncomputable def b0 : Ss := (.cons (.assignA (.loc 0) 7 (.loc 7))
 (.cons (.assignA (.loc 0) 6 (.loc 6))
 (.cons (.assignA (.loc 0) 8 (.ite (.cmp .Is (.loc 8) (.none)) (.callg 26 (.bi .len) (.cons (.loc 7) .nil)) (.loc 8)))
 .nil)))
noncomputable def f0 : Fn := ⟨[0, 7, 6, 8], b0⟩
noncomputable def b1 : Ss := (.cons (.ret (.bin .Sub (.attr (.loc 0) 8) (.attr (.loc 0) 6)))
 .nil)
noncomputable def f1 : Fn := ⟨[0], b1⟩
noncomputable def b2 : Ss := (.cons (.ret (.cmp .GtE (.attr (.loc 0) 6) (.attr (.loc 0) 8)))
 .nil)
noncomputable def f2 : Fn := ⟨[0], b2⟩
noncomputable def b3 : Ss := (.cons (.ite (.cmp .GtE (.attr (.loc 0) 6) (.attr (.loc 0) 8)) (.cons (.raise (.callg 27 (.exc 0) (.cons (.str [117, 110, 101, 120, 112, 101, 99, 116, 101, 100, 32, 101, 110, 100]) (.cons (.attr (.loc 0) 6) .nil))))
 .nil) .nil)
 (.cons (.ret (.sub (.attr (.loc 0) 7) (.attr (.loc 0) 6)))
 .nil))
noncomputable def f3 : Fn := ⟨[0], b3⟩
noncomputable def b4 : Ss := (.cons (.assign (.one 28) (.mcall (.loc 0) 11 .nil))
 (.cons (.assignA (.loc 0) 6 (.bin .Add (.attr (.loc 0) 6) (.int 1)))
 (.cons (.ret (.loc 28))
 .nil)))
noncomputable def f4 : Fn := ⟨[0], b4⟩
noncomputable def b5 : Ss := (.cons (.ite (.cmp .Gt (.loc 24) (.mcall (.loc 0) 9 .nil)) (.cons (.raise (.callg 27 (.exc 0) (.cons (.str [117, 110, 101, 120, 112, 101, 99, 116, 101, 100, 32, 101, 110, 100]) (.cons (.attr (.loc 0) 8) .nil))))
 .nil) .nil)
 (.cons (.assign (.one 28) (.callg 29 (.bi .bytes) (.cons (.slice (.attr (.loc 0) 7) (.attr (.loc 0) 6) (.bin .Add (.attr (.loc 0) 6) (.loc 24))) .nil)))
 (.cons (.assignA (.loc 0) 6 (.bin .Add (.attr (.loc 0) 6) (.loc 24)))
 (.cons (.ret (.loc 28))
 .nil))))
noncomputable def f5 : Fn := ⟨[0, 24], b5⟩
noncomputable def b6 : Ss := (.cons (.ite (.cmp .Gt (.loc 24) (.mcall (.loc 0) 9 .nil)) (.cons (.raise (.callg 27 (.exc 0) (.cons (.str [108, 101, 110, 103, 116, 104, 32, 111, 117, 116, 32, 111, 102, 32, 98, 111, 117, 110, 100, 115]) (.cons (.attr (.loc 0) 6) .nil))))
 .nil) .nil)
 (.cons (.assign (.one 28) (.callg 30 (.cls 0) (.cons (.attr (.loc 0) 7) (.cons (.attr (.loc 0) 6) (.cons (.bin .Add (.attr (.loc 0) 6) (.loc 24)) .nil)))))
 (.cons (.assignA (.loc 0) 6 (.bin .Add (.attr (.loc 0) 6) (.loc 24)))
 (.cons (.ret (.loc 28))
 .nil))))
noncomputable def f6 : Fn := ⟨[0, 24], b6⟩
noncomputable def b7 : Ss := (.cons (.assign (.many [28, 32, 33]) (.tup (.cons (.int 0) (.cons (.int 0) (.cons (.attr (.loc 0) 6) .nil)))))
 (.cons (.whil (.bool true) (.cons (.assign (.one 12) (.mcall (.loc 0) 12 .nil))
 (.cons (.assign (.one 9) (.bin .Sub (.loc 31) (.loc 32)))
 (.cons (.ite (.bop .And (.cons (.cmp .Lt (.loc 9) (.int 7)) (.cons (.cmp .NotEq (.bin .RShift (.bin .BitAnd (.loc 12) (.int 127)) (.loc 9)) (.int 0)) .nil))) (.cons (.raise (.callg 27 (.exc 0) (.cons (.str [105, 110, 116, 101, 103, 101, 114, 32, 116, 111, 111, 32, 108, 97, 114, 103, 101]) (.cons (.loc 33) .nil))))
 .nil) .nil)
 (.cons (.ite (.bop .And (.cons (.cmp .LtE (.loc 9) (.int 7)) (.cons (.cmp .GtE (.loc 12) (.int 128)) .nil))) (.cons (.raise (.callg 27 (.exc 0) (.cons (.str [105, 110, 116, 101, 103, 101, 114, 32, 114, 101, 112, 114, 101, 115, 101, 110, 116, 97, 116, 105, 111, 110, 32, 116, 111, 111, 32, 108, 111, 110, 103]) (.cons (.loc 33) .nil))))
 .nil) .nil)
 (.cons (.assign (.one 28) (.bin .Add (.loc 28) (.bin .LShift (.bin .BitAnd (.loc 12) (.int 127)) (.loc 32))))
 (.cons (.ite (.cmp .Lt (.loc 12) (.int 128)) (.cons (.ret (.loc 28))
 .nil) .nil)
 (.cons (.assign (.one 32) (.bin .Add (.loc 32) (.int 7)))
 .nil))))))))
 .nil))
noncomputable def f7 : Fn := ⟨[0, 31], b7⟩
noncomputable def b8 : Ss := (.cons (.assign (.many [28, 32, 33]) (.tup (.cons (.int 0) (.cons (.int 0) (.cons (.attr (.loc 0) 6) .nil)))))
 (.cons (.whil (.bool true) (.cons (.assign (.one 12) (.mcall (.loc 0) 12 .nil))
 (.cons (.assign (.one 9) (.bin .Sub (.loc 31) (.loc 32)))
 (.cons (.ite (.bop .And (.cons (.cmp .Lt (.loc 9) (.int 7)) (.cons (.cmp .NotIn (.bin .RShift (.bin .BitAnd (.loc 12) (.int 127)) (.bin .Sub (.loc 9) (.int 1))) (.tup (.cons (.int 0) (.cons (.bin .RShift (.int 127) (.bin .Sub (.loc 9) (.int 1))) .nil)))) .nil))) (.cons (.raise (.callg 27 (.exc 0) (.cons (.str [105, 110, 116, 101, 103, 101, 114, 32, 116, 111, 111, 32, 108, 97, 114, 103, 101]) (.cons (.loc 33) .nil))))
 .nil) .nil)
 (.cons (.ite (.bop .And (.cons (.cmp .LtE (.loc 9) (.int 7)) (.cons (.cmp .GtE (.loc 12) (.int 128)) .nil))) (.cons (.raise (.callg 27 (.exc 0) (.cons (.str [105, 110, 116, 101, 103, 101, 114, 32, 114, 101, 112, 114, 101, 115, 101, 110, 116, 97, 116, 105, 111, 110, 32, 116, 111, 111, 32, 108, 111, 110, 103]) (.cons (.loc 33) .nil))))
 .nil) .nil)
 (.cons (.assign (.one 28) (.bin .Add (.loc 28) (.bin .LShift (.bin .BitAnd (.loc 12) (.int 127)) (.loc 32))))
 (.cons (.assign (.one 32) (.bin .Add (.loc 32) (.int 7)))
 (.cons (.ite (.cmp .Lt (.loc 12) (.int 128)) (.cons (.ret (.ite (.bin .BitAnd (.loc 12) (.int 64)) (.bin .Sub (.loc 28) (.bin .LShift (.int 1) (.loc 32))) (.loc 28)))
 .nil) .nil)
 .nil))))))))
 .nil))
noncomputable def f8 : Fn := ⟨[0, 31], b8⟩
noncomputable def b9 : Ss := (.cons (.ret (.mcall (.loc 0) 15 (.cons (.int 32) .nil)))
 .nil)
noncomputable def f9 : Fn := ⟨[0], b9⟩
noncomputable def b10 : Ss := (.cons (.ret (.mcall (.loc 0) 16 (.cons (.int 7) .nil)))
 .nil)
noncomputable def f10 : Fn := ⟨[0], b10⟩
noncomputable def b11 : Ss := (.cons (.ret (.mcall (.loc 0) 16 (.cons (.int 32) .nil)))
 .nil)
noncomputable def f11 : Fn := ⟨[0], b11⟩
noncomputable def b12 : Ss := (.cons (.ret (.mcall (.loc 0) 16 (.cons (.int 33) .nil)))
 .nil)
noncomputable def f12 : Fn := ⟨[0], b12⟩
noncomputable def b13 : Ss := (.cons (.ret (.mcall (.loc 0) 16 (.cons (.int 64) .nil)))
 .nil)
noncomputable def f13 : Fn := ⟨[0], b13⟩
noncomputable def b14 : Ss := (.cons (.assign (.one 24) (.mcall (.loc 0) 17 .nil))
 (.cons (.ite (.cmp .Gt (.loc 24) (.mcall (.loc 0) 9 .nil)) (.cons (.raise (.callg 27 (.exc 0) (.cons (.str [108, 101, 110, 103, 116, 104, 32, 111, 117, 116, 32, 111, 102, 32, 98, 111, 117, 110, 100, 115]) (.cons (.attr (.loc 0) 6) .nil))))
 .nil) .nil)
 (.cons (.assign (.one 33) (.attr (.loc 0) 6))
 (.cons (.ret (.callg 34 (.fn 25) (.cons (.mcall (.loc 0) 13 (.cons (.loc 24) .nil)) (.cons (.loc 33) .nil))))
 .nil))))
noncomputable def f14 : Fn := ⟨[0], b14⟩
noncomputable def b15 : Ss := (.cons (.assignA (.loc 0) 7 (.callg 35 (.bi .bytearray) .nil))
 .nil)
noncomputable def f15 : Fn := ⟨[0], b15⟩
noncomputable def b16 : Ss := (.cons (.expr (.mcall (.attr (.loc 0) 7) 1 (.cons (.loc 36) .nil)))
 .nil)
noncomputable def f16 : Fn := ⟨[0, 36], b16⟩
noncomputable def b17 : Ss := (.cons (.expr (.mcall (.attr (.loc 0) 7) 2 (.cons (.loc 7) .nil)))
 .nil)
noncomputable def f17 : Fn := ⟨[0, 7], b17⟩
noncomputable def b18 : Ss := (.cons (.ite (.cmp .Lt (.loc 36) (.int 0)) (.cons (.raise (.callg 37 (.exc 1) (.cons (.str [97, 110, 32, 117, 110, 115, 105, 103, 110, 101, 100, 32, 110, 117, 109, 98, 101, 114, 32, 98, 101, 108, 111, 119, 32, 48]) .nil)))
 .nil) .nil)
 (.cons (.whil (.cmp .GtE (.loc 36) (.int 128)) (.cons (.expr (.mcall (.attr (.loc 0) 7) 1 (.cons (.bin .BitOr (.bin .BitAnd (.loc 36) (.int 127)) (.int 128)) .nil)))
 (.cons (.assign (.one 36) (.bin .RShift (.loc 36) (.int 7)))
 .nil)))
 (.cons (.expr (.mcall (.attr (.loc 0) 7) 1 (.cons (.loc 36) .nil)))
 .nil)))
noncomputable def f18 : Fn := ⟨[0, 36], b18⟩
noncomputable def b19 : Ss := (.cons (.whil (.not (.cmp2 .LtE .Lt (.neg (.int 64)) (.loc 36) (.int 64))) (.cons (.expr (.mcall (.attr (.loc 0) 7) 1 (.cons (.bin .BitOr (.bin .BitAnd (.loc 36) (.int 127)) (.int 128)) .nil)))
 (.cons (.assign (.one 36) (.bin .RShift (.loc 36) (.int 7)))
 .nil)))
 (.cons (.expr (.mcall (.attr (.loc 0) 7) 1 (.cons (.bin .BitAnd (.loc 36) (.int 127)) .nil)))
 .nil))
noncomputable def f19 : Fn := ⟨[0, 36], b19⟩
noncomputable def b20 : Ss := (.cons (.expr (.mcall (.loc 0) 15 (.cons (.loc 36) .nil)))
 .nil)
noncomputable def f20 : Fn := ⟨[0, 36], b20⟩
noncomputable def b21 : Ss := (.cons (.assign (.one 7) (.callg 39 (.fn 23) (.cons (.loc 38) .nil)))
 (.cons (.expr (.mcall (.loc 0) 15 (.cons (.callg 26 (.bi .len) (.cons (.loc 7) .nil)) .nil)))
 (.cons (.expr (.mcall (.attr (.loc 0) 7) 2 (.cons (.loc 7) .nil)))
 .nil)))
noncomputable def f21 : Fn := ⟨[0, 38], b21⟩
noncomputable def b22 : Ss := (.cons (.expr (.mcall (.loc 0) 15 (.cons (.callg 26 (.bi .len) (.cons (.attr (.loc 40) 7) .nil)) .nil)))
 (.cons (.expr (.mcall (.attr (.loc 0) 7) 2 (.cons (.attr (.loc 40) 7) .nil)))
 .nil))
noncomputable def f22 : Fn := ⟨[0, 40], b22⟩
noncomputable def b23 : Ss := (.cons (.assign (.one 28) (.callg 35 (.bi .bytearray) .nil))
 (.cons (.fori (.one 41) (.loc 38) (.cons (.assign (.one 42) (.callg 43 (.bi .ord) (.cons (.loc 41) .nil)))
 (.cons (.ite (.cmp2 .LtE .Lt (.int 55296) (.loc 42) (.int 57344)) (.cons (.raise (.callg 37 (.exc 1) (.cons (.str [97, 32, 115, 117, 114, 114, 111, 103, 97, 116, 101, 32, 105, 110, 32, 97, 32, 110, 97, 109, 101]) .nil)))
 .nil) .nil)
 (.cons (.ite (.cmp .Lt (.loc 42) (.int 128)) (.cons (.expr (.mcall (.loc 28) 1 (.cons (.loc 42) .nil)))
 .nil) (.cons (.ite (.cmp .Lt (.loc 42) (.int 2048)) (.cons (.expr (.mcall (.loc 28) 2 (.cons (.list (.cons (.bin .BitOr (.int 192) (.bin .RShift (.loc 42) (.int 6))) (.cons (.bin .BitOr (.int 128) (.bin .BitAnd (.loc 42) (.int 63))) .nil))) .nil)))
 .nil) (.cons (.ite (.cmp .Lt (.loc 42) (.int 65536)) (.cons (.expr (.mcall (.loc 28) 2 (.cons (.list (.cons (.bin .BitOr (.int 224) (.bin .RShift (.loc 42) (.int 12))) (.cons (.bin .BitOr (.int 128) (.bin .BitAnd (.bin .RShift (.loc 42) (.int 6)) (.int 63))) (.cons (.bin .BitOr (.int 128) (.bin .BitAnd (.loc 42) (.int 63))) .nil)))) .nil)))
 .nil) (.cons (.expr (.mcall (.loc 28) 2 (.cons (.list (.cons (.bin .BitOr (.int 240) (.bin .RShift (.loc 42) (.int 18))) (.cons (.bin .BitOr (.int 128) (.bin .BitAnd (.bin .RShift (.loc 42) (.int 12)) (.int 63))) (.cons (.bin .BitOr (.int 128) (.bin .BitAnd (.bin .RShift (.loc 42) (.int 6)) (.int 63))) (.cons (.bin .BitOr (.int 128) (.bin .BitAnd (.loc 42) (.int 63))) .nil))))) .nil)))
 .nil))
 .nil))
 .nil))
 .nil))))
 (.cons (.ret (.callg 29 (.bi .bytes) (.cons (.loc 28) .nil)))
 .nil)))
noncomputable def f23 : Fn := ⟨[38], b23⟩
noncomputable def b24 : Ss := (.cons (.ite (.cmp .Lt (.loc 12) (.int 128)) (.cons (.ret (.tup (.cons (.int 0) (.cons (.loc 12) (.cons (.int 0) .nil)))))
 .nil) .nil)
 (.cons (.ite (.cmp2 .LtE .Lt (.int 192) (.loc 12) (.int 224)) (.cons (.ret (.tup (.cons (.int 1) (.cons (.bin .BitAnd (.loc 12) (.int 31)) (.cons (.int 128) .nil)))))
 .nil) .nil)
 (.cons (.ite (.cmp2 .LtE .Lt (.int 224) (.loc 12) (.int 240)) (.cons (.ret (.tup (.cons (.int 2) (.cons (.bin .BitAnd (.loc 12) (.int 15)) (.cons (.int 2048) .nil)))))
 .nil) .nil)
 (.cons (.ite (.cmp2 .LtE .Lt (.int 240) (.loc 12) (.int 248)) (.cons (.ret (.tup (.cons (.int 3) (.cons (.bin .BitAnd (.loc 12) (.int 7)) (.cons (.int 65536) .nil)))))
 .nil) .nil)
 (.cons (.raise (.callg 27 (.exc 0) (.cons (.str [109, 97, 108, 102, 111, 114, 109, 101, 100, 32, 85, 84, 70, 45, 56, 32, 101, 110, 99, 111, 100, 105, 110, 103]) (.cons (.loc 6) .nil))))
 .nil)))))
noncomputable def f24 : Fn := ⟨[12, 6], b24⟩
noncomputable def b25 : Ss := (.cons (.assign (.many [44, 6]) (.tup (.cons (.list .nil) (.cons (.int 0) .nil))))
 (.cons (.whil (.cmp .Lt (.loc 6) (.callg 26 (.bi .len) (.cons (.loc 7) .nil))) (.cons (.assign (.many [45, 42, 46]) (.callg 47 (.fn 24) (.cons (.sub (.loc 7) (.loc 6)) (.cons (.bin .Add (.loc 33) (.loc 6)) .nil))))
 (.cons (.ite (.cmp .GtE (.bin .Add (.loc 6) (.loc 45)) (.callg 26 (.bi .len) (.cons (.loc 7) .nil))) (.cons (.raise (.callg 27 (.exc 0) (.cons (.str [109, 97, 108, 102, 111, 114, 109, 101, 100, 32, 85, 84, 70, 45, 56, 32, 101, 110, 99, 111, 100, 105, 110, 103]) (.cons (.bin .Add (.loc 33) (.loc 6)) .nil))))
 .nil) .nil)
 (.cons (.fori (.one 12) (.slice (.loc 7) (.bin .Add (.loc 6) (.int 1)) (.bin .Add (.bin .Add (.loc 6) (.int 1)) (.loc 45))) (.cons (.ite (.cmp .NotEq (.bin .BitAnd (.loc 12) (.int 192)) (.int 128)) (.cons (.raise (.callg 27 (.exc 0) (.cons (.str [109, 97, 108, 102, 111, 114, 109, 101, 100, 32, 85, 84, 70, 45, 56, 32, 101, 110, 99, 111, 100, 105, 110, 103]) (.cons (.bin .Add (.loc 33) (.loc 6)) .nil))))
 .nil) .nil)
 (.cons (.assign (.one 42) (.bin .BitOr (.bin .LShift (.loc 42) (.int 6)) (.bin .BitAnd (.loc 12) (.int 63))))
 .nil)))
 (.cons (.ite (.bop .Or (.cons (.cmp .Lt (.loc 42) (.loc 46)) (.cons (.cmp .Gt (.loc 42) (.int 1114111)) (.cons (.cmp2 .LtE .Lt (.int 55296) (.loc 42) (.int 57344)) .nil)))) (.cons (.raise (.callg 27 (.exc 0) (.cons (.str [109, 97, 108, 102, 111, 114, 109, 101, 100, 32, 85, 84, 70, 45, 56, 32, 101, 110, 99, 111, 100, 105, 110, 103]) (.cons (.bin .Add (.loc 33) (.loc 6)) .nil))))
 .nil) .nil)
 (.cons (.expr (.mcall (.loc 44) 1 (.cons (.callg 48 (.bi .chr) (.cons (.loc 42) .nil)) .nil)))
 (.cons (.assign (.one 6) (.bin .Add (.bin .Add (.loc 6) (.int 1)) (.loc 45)))
 .nil)))))))
 (.cons (.ret (.mcall (.str []) 4 (.cons (.loc 44) .nil)))
 .nil)))
noncomputable def f25 : Fn := ⟨[7, 33], b25⟩
noncomputable def b26 : Ss := (.cons (.ret (.ite (.cmp .Lt (.loc 6) (.callg 26 (.bi .len) (.cons (.loc 49) .nil))) (.sub (.loc 49) (.loc 6)) (.int 0)))
 .nil)
noncomputable def f26 : Fn := ⟨[49, 6], b26⟩
noncomputable def b27 : Ss := (.cons (.ite (.cmp .In (.loc 50) (.tup (.cons (.int 4) (.cons (.int 10) .nil)))) (.cons (.ret (.bin .Sub (.int 64) (.bin .Mod (.loc 51) (.int 64))))
 .nil) .nil)
 (.cons (.ret (.sub (.list (.cons (.int 32) (.cons (.int 0) (.cons (.int 32) (.cons (.int 0) (.cons (.int 0) (.cons (.int 0) (.cons (.int 8) (.cons (.int 0) (.cons (.int 33) (.cons (.int 64) (.cons (.int 0) (.cons (.int 7) .nil))))))))))))) (.loc 50)))
 .nil))
noncomputable def f27 : Fn := ⟨[50, 51], b27⟩
noncomputable def b28 : Ss := (.cons (.assign (.one 52) (.list .nil))
 (.cons (.fori (.one 53) (.callg 54 (.bi .range) (.cons (.loc 24) .nil)) (.cons (.assign (.one 42) (.bin .Mod (.bin .Add (.bin .FloorDiv (.loc 36) (.bin .Pow (.int 1112064) (.loc 53))) (.bin .Mult (.int 700) (.bin .Pow (.loc 53) (.int 3)))) (.int 1112064)))
 (.cons (.expr (.mcall (.loc 52) 1 (.cons (.ite (.cmp .Lt (.loc 42) (.int 55296)) (.loc 42) (.bin .Add (.loc 42) (.int 2048))) .nil)))
 .nil)))
 (.cons (.ret (.loc 52))
 .nil)))
noncomputable def f28 : Fn := ⟨[36, 24], b28⟩
noncomputable def b29 : Ss := (.cons (.assign (.one 31) (.callg 55 (.fn 27) (.cons (.loc 50) (.cons (.loc 51) .nil))))
 (.cons (.ite (.cmp .Eq (.loc 50) (.int 3)) (.cons (.ret (.mcall (.str []) 4 (.cons (.comp (.callg 48 (.bi .chr) (.cons (.loc 42) .nil)) 42 (.callg 56 (.fn 28) (.cons (.loc 36) (.cons (.bin .Sub (.int 4) (.bin .Mod (.loc 51) (.int 5))) .nil))) .nil) .nil)))
 .nil) .nil)
 (.cons (.ite (.cmp .Eq (.loc 50) (.int 7)) (.cons (.ret (.callg 29 (.bi .bytes) (.cons (.comp (.bin .Mod (.bin .FloorDiv (.loc 36) (.bin .Pow (.int 256) (.loc 53))) (.int 256)) 53 (.callg 54 (.bi .range) (.cons (.bin .Sub (.int 4) (.bin .Mod (.loc 51) (.int 5))) .nil)) .nil) .nil)))
 .nil) .nil)
 (.cons (.ite (.cmp .In (.loc 50) (.tup (.cons (.int 0) (.cons (.int 4) (.cons (.int 6) .nil))))) (.cons (.ret (.bin .Mod (.loc 36) (.bin .Pow (.int 2) (.loc 31))))
 .nil) .nil)
 (.cons (.ret (.bin .Sub (.bin .Mod (.bin .Add (.loc 36) (.bin .Pow (.int 2) (.bin .Sub (.loc 31) (.int 1)))) (.bin .Pow (.int 2) (.loc 31))) (.bin .Pow (.int 2) (.bin .Sub (.loc 31) (.int 1)))))
 .nil)))))
noncomputable def f29 : Fn := ⟨[50, 36, 51], b29⟩
noncomputable def b30 : Ss := (.cons (.assign (.one 24) (.int 1))
 (.cons (.assign (.many [46, 58]) (.ite (.loc 57) (.tup (.cons (.neg (.int 64)) (.cons (.int 64) .nil))) (.tup (.cons (.int 0) (.cons (.int 128) .nil)))))
 (.cons (.whil (.bop .Or (.cons (.cmp .Lt (.loc 36) (.bin .Mult (.loc 46) (.bin .Pow (.int 128) (.bin .Sub (.loc 24) (.int 1))))) (.cons (.cmp .GtE (.loc 36) (.bin .Mult (.loc 58) (.bin .Pow (.int 128) (.bin .Sub (.loc 24) (.int 1))))) .nil))) (.cons (.assign (.one 24) (.bin .Add (.loc 24) (.int 1)))
 .nil))
 (.cons (.ret (.comp (.bin .Add (.bin .Mod (.bin .FloorDiv (.loc 36) (.bin .Pow (.int 128) (.loc 53))) (.int 128)) (.ite (.cmp .Lt (.loc 53) (.bin .Sub (.loc 24) (.int 1))) (.int 128) (.int 0))) 53 (.callg 54 (.bi .range) (.cons (.loc 24) .nil)) .nil))
 .nil))))
noncomputable def f30 : Fn := ⟨[36, 57], b30⟩
noncomputable def b31 : Ss := (.cons (.assign (.one 45) (.callg 26 (.bi .len) (.cons (.comp (.loc 46) 46 (.tup (.cons (.int 128) (.cons (.int 2048) (.cons (.int 65536) .nil)))) (.cons (.cmp .GtE (.loc 42) (.loc 46)) .nil)) .nil)))
 (.cons (.assign (.one 59) (.bin .Add (.sub (.list (.cons (.int 0) (.cons (.int 192) (.cons (.int 224) (.cons (.int 240) .nil))))) (.loc 45)) (.bin .FloorDiv (.loc 42) (.bin .Pow (.int 64) (.loc 45)))))
 (.cons (.ret (.bin .Add (.list (.cons (.loc 59) .nil)) (.comp (.bin .Add (.int 128) (.bin .Mod (.bin .FloorDiv (.loc 42) (.bin .Pow (.int 64) (.loc 53))) (.int 64))) 53 (.callg 54 (.bi .range) (.cons (.bin .Sub (.loc 45) (.int 1)) (.cons (.neg (.int 1)) (.cons (.neg (.int 1)) .nil)))) .nil)))
 .nil)))
noncomputable def f31 : Fn := ⟨[42], b31⟩
noncomputable def b32 : Ss := (.cons (.ite (.cmp .In (.loc 50) (.tup (.cons (.int 0) (.cons (.int 4) .nil)))) (.cons (.ret (.tup (.cons (.callg 61 (.fn 30) (.cons (.loc 60) (.cons (.bool false) .nil))) (.cons (.list .nil) .nil))))
 .nil) .nil)
 (.cons (.ite (.cmp .Eq (.loc 50) (.int 6)) (.cons (.ret (.tup (.cons (.list (.cons (.loc 60) .nil)) (.cons (.list .nil) .nil))))
 .nil) .nil)
 (.cons (.ite (.cmp .Eq (.loc 50) (.int 7)) (.cons (.ret (.tup (.cons (.list .nil) (.cons (.comp (.loc 12) 12 (.loc 60) .nil) .nil))))
 .nil) .nil)
 (.cons (.ite (.cmp .Eq (.loc 50) (.int 1)) (.cons (.assign (.one 62) (.callg 63 (.fn 33) (.cons (.loc 60) .nil)))
 (.cons (.ret (.tup (.cons (.callg 61 (.fn 30) (.cons (.callg 26 (.bi .len) (.cons (.loc 62) .nil)) (.cons (.bool false) .nil))) (.cons (.loc 62) .nil))))
 .nil)) .nil)
 (.cons (.ite (.cmp .Eq (.loc 50) (.int 3)) (.cons (.assign (.one 62) (.list .nil))
 (.cons (.fori (.one 41) (.loc 60) (.cons (.expr (.mcall (.loc 62) 2 (.cons (.callg 64 (.fn 31) (.cons (.callg 43 (.bi .ord) (.cons (.loc 41) .nil)) .nil)) .nil)))
 .nil))
 (.cons (.ret (.tup (.cons (.callg 61 (.fn 30) (.cons (.callg 26 (.bi .len) (.cons (.loc 62) .nil)) (.cons (.bool false) .nil))) (.cons (.loc 62) .nil))))
 .nil))) .nil)
 (.cons (.ret (.tup (.cons (.callg 61 (.fn 30) (.cons (.loc 60) (.cons (.bool true) .nil))) (.cons (.list .nil) .nil))))
 .nil))))))
noncomputable def f32 : Fn := ⟨[50, 60], b32⟩
noncomputable def b33 : Ss := (.cons (.assign (.one 7) (.list .nil))
 (.cons (.fori (.many [50, 60, 51, 59, 62]) (.loc 65) (.cons (.expr (.mcall (.loc 7) 2 (.cons (.loc 59) .nil)))
 (.cons (.expr (.mcall (.loc 7) 2 (.cons (.loc 62) .nil)))
 .nil)))
 (.cons (.ret (.loc 7))
 .nil)))
noncomputable def f33 : Fn := ⟨[65], b33⟩
noncomputable def b34 : Ss := (.cons (.assign (.many [59, 62]) (.callg 66 (.fn 32) (.cons (.loc 50) (.cons (.loc 60) .nil))))
 (.cons (.ret (.tup (.cons (.loc 50) (.cons (.loc 60) (.cons (.loc 51) (.cons (.loc 59) (.cons (.loc 62) .nil)))))))
 .nil))
noncomputable def f34 : Fn := ⟨[50, 60, 51], b34⟩
noncomputable def b35 : Ss := (.cons (.assign (.one 67) (.list (.cons (.list .nil) .nil)))
 (.cons (.fori (.one 53) (.callg 54 (.bi .range) (.cons (.int 12) .nil)) (.cons (.assign (.one 68) (.callg 69 (.fn 26) (.cons (.loc 49) (.cons (.bin .Mult (.int 2) (.loc 53)) .nil))))
 (.cons (.assign (.one 50) (.bin .Mod (.bin .Add (.loc 68) (.loc 53)) (.int 12)))
 (.cons (.ite (.cmp .Eq (.loc 50) (.int 1)) (.cons (.expr (.mcall (.loc 67) 1 (.cons (.list .nil) .nil)))
 .nil) (.cons (.ite (.cmp .Eq (.loc 50) (.int 5)) (.cons (.ite (.cmp .Gt (.callg 26 (.bi .len) (.cons (.loc 67) .nil)) (.int 1)) (.cons (.assign (.one 70) (.mcall (.loc 67) 3 .nil))
 (.cons (.expr (.mcall (.sub (.loc 67) (.neg (.int 1))) 1 (.cons (.callg 71 (.fn 34) (.cons (.int 1) (.cons (.loc 70) (.cons (.int 0) .nil)))) .nil)))
 .nil)) .nil)
 .nil) (.cons (.assign (.one 36) (.bin .Add (.callg 69 (.fn 26) (.cons (.loc 49) (.cons (.bin .Add (.bin .Mult (.int 2) (.loc 53)) (.int 1)) .nil))) (.bin .Pow (.int 200) (.loc 53))))
 (.cons (.expr (.mcall (.sub (.loc 67) (.neg (.int 1))) 1 (.cons (.callg 71 (.fn 34) (.cons (.loc 50) (.cons (.callg 72 (.fn 29) (.cons (.loc 50) (.cons (.loc 36) (.cons (.bin .FloorDiv (.loc 68) (.int 12)) .nil)))) (.cons (.bin .FloorDiv (.loc 68) (.int 12)) .nil)))) .nil)))
 .nil)))
 .nil))
 .nil))))
 (.cons (.whil (.cmp .Gt (.callg 26 (.bi .len) (.cons (.loc 67) .nil)) (.int 1)) (.cons (.assign (.one 70) (.mcall (.loc 67) 3 .nil))
 (.cons (.expr (.mcall (.sub (.loc 67) (.neg (.int 1))) 1 (.cons (.callg 71 (.fn 34) (.cons (.int 1) (.cons (.loc 70) (.cons (.int 0) .nil)))) .nil)))
 .nil)))
 (.cons (.ret (.sub (.loc 67) (.int 0)))
 .nil))))
noncomputable def f35 : Fn := ⟨[49], b35⟩
noncomputable def b36 : Ss := (.cons (.fori (.many [50, 60, 51, 59, 62]) (.loc 65) (.cons (.ite (.cmp .Eq (.loc 50) (.int 1)) (.cons (.assign (.one 70) (.callg 73 (.cls 1) .nil))
 (.cons (.expr (.callg 74 (.fn 36) (.cons (.loc 70) (.cons (.loc 60) .nil))))
 (.cons (.expr (.mcall (.loc 40) 25 (.cons (.loc 70) .nil)))
 .nil))) (.cons (.ite (.cmp .Eq (.loc 50) (.int 3)) (.cons (.expr (.mcall (.loc 40) 22 (.cons (.loc 60) .nil)))
 .nil) (.cons (.ite (.cmp .Eq (.loc 50) (.int 6)) (.cons (.expr (.mcall (.loc 40) 12 (.cons (.loc 60) .nil)))
 .nil) (.cons (.ite (.cmp .Eq (.loc 50) (.int 7)) (.cons (.expr (.mcall (.loc 40) 23 (.cons (.loc 60) .nil)))
 .nil) (.cons (.ite (.cmp .Eq (.loc 50) (.int 4)) (.cons (.expr (.mcall (.loc 40) 15 (.cons (.loc 60) .nil)))
 .nil) (.cons (.ite (.cmp .Eq (.loc 50) (.int 0)) (.cons (.expr (.mcall (.loc 40) 24 (.cons (.loc 60) .nil)))
 .nil) (.cons (.expr (.mcall (.loc 40) 16 (.cons (.loc 60) .nil)))
 .nil))
 .nil))
 .nil))
 .nil))
 .nil))
 .nil))
 .nil))
 .nil)
noncomputable def f36 : Fn := ⟨[40, 65], b36⟩
noncomputable def b37 : Ss := (.cons (.ite (.cmp .Eq (.loc 50) (.int 0)) (.cons (.ret (.mcall (.loc 75) 17 .nil))
 .nil) .nil)
 (.cons (.ite (.cmp .Eq (.loc 50) (.int 1)) (.cons (.ret (.mcall (.loc 75) 14 (.cons (.mcall (.loc 75) 17 .nil) .nil)))
 .nil) .nil)
 (.cons (.ite (.cmp .Eq (.loc 50) (.int 2)) (.cons (.ret (.mcall (.loc 75) 19 .nil))
 .nil) .nil)
 (.cons (.ite (.cmp .Eq (.loc 50) (.int 3)) (.cons (.ret (.mcall (.loc 75) 22 .nil))
 .nil) .nil)
 (.cons (.ite (.cmp .Eq (.loc 50) (.int 4)) (.cons (.ret (.mcall (.loc 75) 15 (.cons (.callg 55 (.fn 27) (.cons (.int 4) (.cons (.loc 51) .nil))) .nil)))
 .nil) .nil)
 (.cons (.ite (.cmp .Eq (.loc 50) (.int 6)) (.cons (.ret (.mcall (.loc 75) 12 .nil))
 .nil) .nil)
 (.cons (.ite (.cmp .Eq (.loc 50) (.int 7)) (.cons (.ret (.mcall (.loc 75) 13 (.cons (.loc 24) .nil)))
 .nil) .nil)
 (.cons (.ite (.cmp .Eq (.loc 50) (.int 8)) (.cons (.ret (.mcall (.loc 75) 20 .nil))
 .nil) .nil)
 (.cons (.ite (.cmp .Eq (.loc 50) (.int 9)) (.cons (.ret (.mcall (.loc 75) 21 .nil))
 .nil) .nil)
 (.cons (.ite (.cmp .Eq (.loc 50) (.int 10)) (.cons (.ret (.mcall (.loc 75) 16 (.cons (.callg 55 (.fn 27) (.cons (.int 10) (.cons (.loc 51) .nil))) .nil)))
 .nil) .nil)
 (.cons (.ret (.mcall (.loc 75) 18 .nil))
 .nil)))))))))))
noncomputable def f37 : Fn := ⟨[75, 50, 24, 51], b37⟩
noncomputable def b38 : Ss := (.cons (.tryx (.cons (.ret (.tup (.cons (.str []) (.cons (.callg 76 (.fn 37) (.cons (.loc 75) (.cons (.loc 50) (.cons (.loc 24) (.cons (.loc 51) .nil))))) .nil))))
 .nil) 27 0 77 (.cons (.ret (.tup (.cons (.attr (.loc 77) 5) (.cons (.attr (.loc 77) 6) .nil))))
 .nil))
 .nil)
noncomputable def f38 : Fn := ⟨[75, 50, 24, 51], b38⟩
noncomputable def b39 : Ss := (.cons (.tryx (.cons (.ret (.tup (.cons (.str []) (.cons (.mcall (.loc 75) 11 .nil) .nil))))
 .nil) 27 0 77 (.cons (.ret (.tup (.cons (.attr (.loc 77) 5) (.cons (.attr (.loc 77) 6) .nil))))
 .nil))
 .nil)
noncomputable def f39 : Fn := ⟨[75], b39⟩
noncomputable def b40 : Ss := (.cons (.ite (.cmp .NotEq (.tup (.cons (.attr (.loc 75) 6) (.cons (.mcall (.loc 75) 9 .nil) (.cons (.mcall (.loc 75) 10 .nil) .nil)))) (.tup (.cons (.loc 6) (.cons (.bin .Sub (.loc 8) (.loc 6)) (.cons (.cmp .Eq (.loc 6) (.loc 8)) .nil))))) (.cons (.ret (.bool false))
 .nil) .nil)
 (.cons (.assign (.one 78) (.ite (.cmp .Lt (.loc 6) (.loc 8)) (.tup (.cons (.str []) (.cons (.sub (.loc 7) (.loc 6)) .nil))) (.tup (.cons (.str [117, 110, 101, 120, 112, 101, 99, 116, 101, 100, 32, 101, 110, 100]) (.cons (.loc 8) .nil)))))
 (.cons (.ret (.bop .And (.cons (.cmp .Eq (.callg 79 (.fn 39) (.cons (.loc 75) .nil)) (.loc 78)) (.cons (.cmp .Eq (.attr (.loc 75) 6) (.loc 6)) .nil))))
 .nil)))
noncomputable def f40 : Fn := ⟨[75, 7, 6, 8], b40⟩
noncomputable def b41 : Ss := (.cons (.fori (.many [50, 60, 51, 59, 62]) (.loc 65) (.cons (.ite (.not (.callg 80 (.fn 40) (.cons (.loc 75) (.cons (.loc 7) (.cons (.loc 6) (.cons (.loc 8) .nil)))))) (.cons (.ret (.bool false))
 .nil) .nil)
 (.cons (.assign (.one 81) (.bin .Add (.loc 6) (.callg 26 (.bi .len) (.cons (.loc 59) .nil))))
 (.cons (.assign (.one 6) (.bin .Add (.loc 81) (.callg 26 (.bi .len) (.cons (.loc 62) .nil))))
 (.cons (.assign (.one 82) (.callg 83 (.fn 38) (.cons (.loc 75) (.cons (.loc 50) (.cons (.callg 26 (.bi .len) (.cons (.loc 62) .nil)) (.cons (.loc 51) .nil))))))
 (.cons (.ite (.cmp .Gt (.loc 81) (.loc 8)) (.cons (.ret (.bop .And (.cons (.cmp .Eq (.loc 82) (.tup (.cons (.str [117, 110, 101, 120, 112, 101, 99, 116, 101, 100, 32, 101, 110, 100]) (.cons (.loc 8) .nil)))) (.cons (.cmp .Eq (.attr (.loc 75) 6) (.loc 8)) .nil))))
 .nil) .nil)
 (.cons (.ite (.cmp .Gt (.loc 6) (.loc 8)) (.cons (.assign (.one 78) (.ite (.cmp .Eq (.loc 50) (.int 7)) (.tup (.cons (.str [117, 110, 101, 120, 112, 101, 99, 116, 101, 100, 32, 101, 110, 100]) (.cons (.loc 8) .nil))) (.tup (.cons (.str [108, 101, 110, 103, 116, 104, 32, 111, 117, 116, 32, 111, 102, 32, 98, 111, 117, 110, 100, 115]) (.cons (.loc 81) .nil)))))
 (.cons (.ret (.bop .And (.cons (.cmp .Eq (.loc 82) (.loc 78)) (.cons (.cmp .Eq (.attr (.loc 75) 6) (.loc 81)) .nil))))
 .nil)) .nil)
 (.cons (.ite (.bop .Or (.cons (.cmp .NotEq (.sub (.loc 82) (.int 0)) (.str [])) (.cons (.cmp .NotEq (.attr (.loc 75) 6) (.loc 6)) .nil))) (.cons (.ret (.bool false))
 .nil) .nil)
 (.cons (.ite (.cmp .Eq (.loc 50) (.int 1)) (.cons (.ite (.not (.callg 84 (.fn 41) (.cons (.sub (.loc 82) (.int 1)) (.cons (.loc 7) (.cons (.loc 60) (.cons (.loc 81) (.cons (.loc 6) .nil))))))) (.cons (.ret (.bool false))
 .nil) .nil)
 .nil) (.cons (.ite (.cmp .NotEq (.sub (.loc 82) (.int 1)) (.loc 60)) (.cons (.ret (.bool false))
 .nil) .nil)
 .nil))
 .nil)))))))))
 (.cons (.ite (.not (.callg 80 (.fn 40) (.cons (.loc 75) (.cons (.loc 7) (.cons (.loc 6) (.cons (.loc 8) .nil)))))) (.cons (.ret (.bool false))
 .nil) .nil)
 (.cons (.ret (.bop .And (.cons (.cmp .Eq (.callg 83 (.fn 38) (.cons (.loc 75) (.cons (.int 6) (.cons (.int 0) (.cons (.int 0) .nil))))) (.tup (.cons (.str [117, 110, 101, 120, 112, 101, 99, 116, 101, 100, 32, 101, 110, 100]) (.cons (.loc 8) .nil)))) (.cons (.cmp .Eq (.attr (.loc 75) 6) (.loc 8)) .nil))))
 .nil)))
noncomputable def f41 : Fn := ⟨[75, 7, 65, 6, 8], b41⟩
noncomputable def b42 : Ss := (.cons (.assign (.one 40) (.callg 73 (.cls 1) .nil))
 (.cons (.expr (.mcall (.loc 40) 15 (.cons (.loc 36) .nil)))
 (.cons (.tryx (.cons (.expr (.mcall (.loc 40) 15 (.cons (.bin .Sub (.neg (.int 1)) (.loc 36)) .nil)))
 (.cons (.ret (.bool false))
 .nil)) 37 1 77 (.cons (.ret (.bop .And (.cons (.cmp .Eq (.attr (.loc 77) 5) (.str [97, 110, 32, 117, 110, 115, 105, 103, 110, 101, 100, 32, 110, 117, 109, 98, 101, 114, 32, 98, 101, 108, 111, 119, 32, 48])) (.cons (.cmp .Eq (.callg 29 (.bi .bytes) (.cons (.attr (.loc 40) 7) .nil)) (.callg 29 (.bi .bytes) (.cons (.callg 61 (.fn 30) (.cons (.loc 36) (.cons (.bool false) .nil))) .nil))) .nil))))
 .nil))
 .nil)))
noncomputable def f42 : Fn := ⟨[36], b42⟩
noncomputable def b43 : Ss := (.cons (.assign (.one 65) (.callg 85 (.fn 35) (.cons (.loc 49) .nil)))
 (.cons (.assign (.one 7) (.callg 63 (.fn 33) (.cons (.loc 65) .nil)))
 (.cons (.assign (.one 40) (.callg 73 (.cls 1) .nil))
 (.cons (.expr (.callg 74 (.fn 36) (.cons (.loc 40) (.cons (.loc 65) .nil))))
 (.cons (.ite (.bop .Or (.cons (.cmp .NotEq (.callg 29 (.bi .bytes) (.cons (.attr (.loc 40) 7) .nil)) (.callg 29 (.bi .bytes) (.cons (.loc 7) .nil))) (.cons (.not (.callg 86 (.fn 42) (.cons (.bin .Mod (.callg 69 (.fn 26) (.cons (.loc 49) (.cons (.int 26) .nil))) (.bin .Pow (.int 2) (.int 64))) .nil))) .nil))) (.cons (.ret (.bool false))
 .nil) .nil)
 (.cons (.assign (.one 33) (.bin .Mod (.callg 69 (.fn 26) (.cons (.loc 49) (.cons (.int 24) .nil))) (.int 4)))
 (.cons (.assign (.one 87) (.callg 29 (.bi .bytes) (.cons (.bin .Add (.bin .Add (.comp (.bin .Sub (.int 255) (.loc 53)) 53 (.callg 54 (.bi .range) (.cons (.loc 33) .nil)) .nil) (.loc 7)) (.list (.cons (.int 0) (.cons (.int 0) .nil)))) .nil)))
 (.cons (.assign (.one 8) (.bin .Add (.loc 33) (.callg 26 (.bi .len) (.cons (.loc 7) .nil))))
 (.cons (.ite (.not (.callg 84 (.fn 41) (.cons (.callg 30 (.cls 0) (.cons (.loc 87) (.cons (.loc 33) (.cons (.loc 8) .nil)))) (.cons (.loc 87) (.cons (.loc 65) (.cons (.loc 33) (.cons (.loc 8) .nil))))))) (.cons (.ret (.bool false))
 .nil) .nil)
 (.cons (.assign (.one 88) (.bin .Add (.loc 33) (.bin .Mod (.bin .Sub (.bin .Sub (.callg 26 (.bi .len) (.cons (.loc 7) .nil)) (.int 1)) (.callg 69 (.fn 26) (.cons (.loc 49) (.cons (.int 25) .nil)))) (.bin .Add (.callg 26 (.bi .len) (.cons (.loc 7) .nil)) (.int 1)))))
 (.cons (.ret (.callg 84 (.fn 41) (.cons (.callg 30 (.cls 0) (.cons (.loc 87) (.cons (.loc 33) (.cons (.loc 88) .nil)))) (.cons (.loc 87) (.cons (.loc 65) (.cons (.loc 33) (.cons (.loc 88) .nil)))))))
 .nil)))))))))))
noncomputable def f43 : Fn := ⟨[49], b43⟩
noncomputable def meths : List ((Nat × Nat) × Nat) := [((0, 9), 1), ((0, 10), 2), ((0, 11), 3), ((0, 12), 4), ((0, 13), 5), ((0, 14), 6), ((0, 15), 7), ((0, 16), 8), ((0, 17), 9), ((0, 18), 10), ((0, 19), 11), ((0, 20), 12), ((0, 21), 13), ((0, 22), 14), ((1, 12), 16), ((1, 23), 17), ((1, 15), 18), ((1, 16), 19), ((1, 24), 20), ((1, 22), 21), ((1, 25), 22)]
noncomputable def gls : List (Nat × G) := [(26, (.bi .len)), (27, (.exc 0)), (29, (.bi .bytes)), (30, (.cls 0)), (34, (.fn 25)), (35, (.bi .bytearray)), (37, (.exc 1)), (39, (.fn 23)), (43, (.bi .ord)), (47, (.fn 24)), (48, (.bi .chr)), (54, (.bi .range)), (55, (.fn 27)), (56, (.fn 28)), (61, (.fn 30)), (63, (.fn 33)), (64, (.fn 31)), (66, (.fn 32)), (69, (.fn 26)), (71, (.fn 34)), (72, (.fn 29)), (73, (.cls 1)), (74, (.fn 36)), (76, (.fn 37)), (79, (.fn 39)), (80, (.fn 40)), (83, (.fn 38)), (84, (.fn 41)), (85, (.fn 35)), (86, (.fn 42))]
noncomputable def inits : List (Nat × Nat) := [(0, 0), (1, 15)]
noncomputable def fns : List Fn := [f0, f1, f2, f3, f4, f5, f6, f7, f8, f9, f10, f11, f12, f13, f14, f15, f16, f17, f18, f19, f20, f21, f22, f23, f24, f25, f26, f27, f28, f29, f30, f31, f32, f33, f34, f35, f36, f37, f38, f39, f40, f41, f42, f43]
noncomputable def T : Tab := ⟨fun f => fns[f]?, fun c => inits.lookup c, fun c m => meths.lookup (c, m), ⟨1, 2, 3, 4, 5, 6⟩⟩
end Mine.P2
namespace Mine
open PySem
theorem nq {α : Type} {p : Prop} {a : α} (h : none = some a) : p := nomatch h
noncomputable def app : Ss -> Ss -> Ss
 | .nil, r => r
 | .cons s ss, r => .cons s (app ss r)
theorem seqS_assoc {k k' : Loc -> Hp -> Option OutS} : ∀ r : Option OutS, seqS (seqS r k) k' = seqS r fun lv hp => seqS (k lv hp) k'
 | none => rfl
 | some (.next _ _) => rfl
 | some (.ret _ _ _) => rfl
 | some (.raise _ _ _) => rfl
theorem x_app {T : Tab} {x : X} {r : Ss} : ∀ (b : Ss) (lv : Loc) (hp : Hp), execs T (app b r) x lv hp = seqS (execs T b x lv hp) (execs T r x)
 | .nil, _, _ => rfl
 | .cons s ss, lv, hp => by
  show seqS (exec T s x lv hp) (execs T (app ss r) x) = seqS (seqS (exec T s x lv hp) (execs T ss x)) (execs T r x)
  rw [seqS_assoc, show execs T (app ss r) x = fun lv hp => seqS (execs T ss x lv hp) (execs T r x) from funext fun lv => funext fun hp => x_app ss lv hp]
def Rn (T : Tab) (x : X) (ss : Ss) (lv : Loc) (hp : Hp) (Q : OutS -> Prop) : Prop := ∃ out, execs T ss x lv hp = some out /\ Q out
abbrev Ev (T : Tab) (x : X) (e : E) (lv : Loc) (hp : Hp) (v : V) (hp' : Hp) : Prop := ev T x e lv hp = some (.ok v hp')
abbrev Evs (T : Tab) (x : X) (es : Es) (lv : Loc) (hp : Hp) (vs : List V) (hp' : Hp) : Prop := evs T x es lv hp = some (.ok vs hp')
abbrev Tr (T : Tab) (x : X) (e : E) (lv : Loc) (hp : Hp) (b : Bool) (hp' : Hp) : Prop := tr (ev T x e lv) hp = some (.ok b hp')
theorem b_ok {α β : Type} {m : P α} {f : α -> P β} {a : α} {hp hp' : Hp} (h : m hp = some (.ok a hp')) : P.bind m f hp = f a hp' := by unfold P.bind; rw [h]
theorem b_raise {α β : Type} {m : P α} {f : α -> P β} {i : Nat} {hp hp' : Hp} (h : m hp = some (.raise i hp')) : P.bind m f hp = some (.raise i hp') := by unfold P.bind; rw [h]
theorem o_ok {α : Type} {r : Option (Out α)} {lv : Loc} {k : α -> Hp -> Option OutS} {a : α} {hp : Hp} (h : r = some (.ok a hp)) : onV r lv k = k a hp := by rw [h]; rfl
theorem s_next {r : Option OutS} {k : Loc -> Hp -> Option OutS} {lv : Loc} {hp : Hp} (h : r = some (.next lv hp)) : seqS r k = k lv hp := by rw [h]; rfl
section
variable {T : Tab} {x : X} {ss b o : Ss} {lv lv' : Loc} {hp hp₁ hp₂ hp₃ hp₄ : Hp} {Q : OutS -> Prop} {e e' t l m r : E} {v w u : V} {y n k : Nat} {c : Bool}
theorem r_nil (h : Q (.next lv hp)) : Rn T x .nil lv hp Q := ⟨_, rfl, h⟩
theorem r_step {s : S} (h : exec T s x lv hp = some (.next lv' hp₁)) (k : Rn T x ss lv' hp₁ Q) : Rn T x (.cons s ss) lv hp Q := k.elim fun out k => ⟨out, (s_next h).trans k.1, k.2⟩
theorem r_out {s : S} {out : OutS} (h : exec T s x lv hp = some out) (hn : ∀ lv hp, out ≠ .next lv hp) (k : Q out) : Rn T x (.cons s ss) lv hp Q := by
 refine ⟨out, ?_, k⟩
 show seqS (exec T s x lv hp) _ = _
 rw [h]
 cases out with
 | next lv hp => exact absurd rfl (hn lv hp)
 | _ => rfl
theorem r_assign (h : Ev T x e lv hp v hp₁) (k : Rn T x ss (setL y v lv) hp₁ Q) : Rn T x (.cons (.assign (.one y) e) ss) lv hp Q := r_step (o_ok h) k
theorem r_many {xs : List Nat} {vs : List V} (h : Ev T x e lv hp (.tup vs) hp₁) (q : vs.length = xs.length) (k : Rn T x ss ((xs.zip vs).foldl (fun lv q => setL q.1 q.2 lv) lv) hp₁ Q) : Rn T x (.cons (.assign (.many xs) e) ss) lv hp Q :=
 r_step ((o_ok h).trans (show (if vs.length = xs.length then _ else _ : Option Loc).map _ = _ by rw [if_pos q]; rfl)) k
theorem r_expr (h : Ev T x e lv hp .none hp₁) (k : Rn T x ss lv hp₁ Q) : Rn T x (.cons (.expr e) ss) lv hp Q := r_step (o_ok h) k
theorem r_ret (h : Ev T x e lv hp v hp₁) (k : Q (.ret v lv hp₁)) : Rn T x (.cons (.ret e) ss) lv hp Q := r_out (out := .ret v lv hp₁) (o_ok h) (fun _ _ z => nomatch z) k
theorem r_attr {a i c : Nat} {fs : List (Nat × V)} (h : Ev T x e lv hp v hp₁) (h' : Ev T x r lv hp₁ (.ref i) hp₂) (ho : hp₂[i]? = some (.inst c fs)) (q : fs.length <= big) (k : Rn T x ss lv (hp₂.set i (.inst c (setF fs a v))) Q) : Rn T x (.cons (.assignA r a e) ss) lv hp Q :=
 r_step ((o_ok h).trans ((o_ok h').trans (show (hp₂[i]?.bind O.inst?).bind _ = _ by rw [ho]; exact if_pos q))) k
theorem r_if (h : Tr T x t lv hp c hp₁) (q : c = true) (k : Rn T x (app b ss) lv hp₁ Q) : Rn T x (.cons (.ite t b o) ss) lv hp Q := by
 subst q
 exact k.elim fun out k => ⟨out, (congrArg (seqS · _) (o_ok h)).trans ((x_app b lv hp₁).symm.trans k.1), k.2⟩
theorem r_else (h : Tr T x t lv hp c hp₁) (q : c = false) (k : Rn T x (app o ss) lv hp₁ Q) : Rn T x (.cons (.ite t b o) ss) lv hp Q := by
 subst q
 exact k.elim fun out k => ⟨out, (congrArg (seqS · _) (o_ok h)).trans ((x_app o lv hp₁).symm.trans k.1), k.2⟩
theorem r_ite (h : Tr T x t lv hp c hp₁) (k : c = true -> Rn T x (app b ss) lv hp₁ Q) (k' : c = false -> Rn T x (app o ss) lv hp₁ Q) : Rn T x (.cons (.ite t b o) ss) lv hp Q := by
 cases c with
 | true => exact r_if h rfl (k rfl)
 | false => exact r_else h rfl (k' rfl)
theorem r_raise {i c : Nat} {fs : List (Nat × V)} (hm : x.hm = false) (h : Ev T x e lv hp (.ref i) hp₁) (ho : hp₁[i]? = some (.exc c fs)) (k : Q (.raise i lv hp₁)) : Rn T x (.cons (.raise e) ss) lv hp Q :=
 r_out (out := .raise i lv hp₁) (show (if x.hm = true then _ else _ : Option OutS) = _ by
  rw [if_neg (by rw [hm]; exact Bool.false_ne_true), o_ok h]
  show (hp₁[i]?.bind O.exc?).map _ = _
  rw [ho]; rfl) (fun _ _ z => nomatch z) k
theorem t_of (h : Ev T x e lv hp v hp₁) (q : truth v = some c) : Tr T x e lv hp c hp₁ := (b_ok h).trans (by show (truth v).map _ = _; rw [q]; rfl)
theorem v_bin {op : Operator} {a d k : Int} (h : Ev T x l lv hp (.int a) hp₁) (h' : Ev T x r lv hp₁ (.int d) hp₂) (q : binInt op a d = some k) : Ev T x (.bin op l r) lv hp (.int k) hp₂ :=
 (b_ok h).trans ((b_ok h').trans (by show (binInt op a d).map _ = _; rw [q]; rfl))
theorem v_cmp {op : CmpOp} (h : Ev T x l lv hp v hp₁) (h' : Ev T x r lv hp₁ w hp₂) (q : cmpop op v w hp₂ = some (.ok u hp₃)) : Ev T x (.cmp op l r) lv hp u hp₃ := (b_ok h).trans ((b_ok h').trans q)
theorem v_not {c : Bool} (h : Ev T x e lv hp v hp₁) (q : truth v = some c) : Ev T x (.not e) lv hp (.bool !c) hp₁ := (b_ok h).trans (by show ((truth v).map _).map _ = _; rw [q]; rfl)
theorem v_add {i j : Nat} {vs ws : List V} (h : Ev T x l lv hp (.ref i) hp₁) (h' : Ev T x r lv hp₁ (.ref j) hp₂) (a : listAt i hp₂ = some vs) (d : listAt j hp₂ = some ws) (q : vs.length + ws.length <= big) : Ev T x (.bin .Add l r) lv hp (.ref hp₂.length) (hp₂ ++ [.list (vs ++ ws)]) :=
 (b_ok h).trans ((b_ok h').trans (by
  show (listAt i hp₂).bind _ = _
  rw [a]
  show (listAt j hp₂).bind _ = _
  rw [d]
  exact if_pos ⟨rfl, q⟩))
theorem v_sub {i k : Nat} {j : Int} {vs : List V} (h : Ev T x l lv hp (.ref i) hp₁) (h' : Ev T x r lv hp₁ (.int j) hp₂) (a : listAt i hp₂ = some vs) (d : idxOf j vs.length = some k) (q : vs[k]? = some v) : Ev T x (.sub l r) lv hp v hp₂ :=
 (b_ok h).trans ((b_ok h').trans (by
  show (listAt i hp₂).bind _ = _
  rw [a]
  show (idxOf j vs.length).bind _ = _
  rw [d]
  show (vs[k]?).map _ = _
  rw [q]; rfl))
theorem v_list {es : Es} {vs : List V} (h : Evs T x es lv hp vs hp₁) (q : vs.length <= big) : Ev T x (.list es) lv hp (.ref hp₁.length) (hp₁ ++ [.list vs]) := (b_ok h).trans (by show mkList vs hp₁ = _; unfold mkList; rw [if_pos q]; rfl)
theorem v_tup {es : Es} {vs : List V} (h : Evs T x es lv hp vs hp₁) (q : vs.length <= big) : Ev T x (.tup es) lv hp (.tup vs) hp₁ := (b_ok h).trans (by show mkTup vs hp₁ = _; unfold mkTup; rw [if_pos q]; rfl)
theorem v_if (h : Tr T x t lv hp c hp₁) (q : c = true) (k : Ev T x l lv hp₁ v hp₂) : Ev T x (.ite t l r) lv hp v hp₂ := (b_ok h).trans (by rw [q]; exact k)
theorem v_else (h : Tr T x t lv hp c hp₁) (q : c = false) (k : Ev T x r lv hp₁ v hp₂) : Ev T x (.ite t l r) lv hp v hp₂ := (b_ok h).trans (by rw [q]; exact k)
theorem v_call {g : G} {as : Es} {vs : List V} (h : Evs T x as lv hp vs hp₁) (k : callG T x g vs hp₁ = some (.ok v hp₂)) : Ev T x (.callg n g as) lv hp v hp₂ := (b_ok h).trans k
theorem v_mcall {as : Es} {mk : MK} {vs : List V} (h : Ev T x e lv hp v hp₁) (q : findK T v n hp₁ = some mk) (a : Evs T x as lv hp₁ vs hp₂) (k : callM x mk v vs hp₂ = some (.ok w hp₃)) : Ev T x (.mcall e n as) lv hp w hp₃ :=
 (b_ok h).trans ((b_ok (show findM T v n hp₁ = some (.ok mk hp₁) by unfold findM; rw [q]; rfl)).trans ((b_ok a).trans k))
theorem v_attr {i : Nat} {o : O} {fs : List (Nat × V)} (h : Ev T x e lv hp (.ref i) hp₁) (ho : hp₁[i]? = some o) (hf : o.flds = some fs) (q : getF fs n = some v) : Ev T x (.attr e n) lv hp v hp₁ := (b_ok h).trans (by
 show (hp₁[i]?).bind _ = _
 rw [ho]
 show o.flds.bind _ = _
 rw [hf]
 show (getF fs n).map _ = _
 rw [q]; rfl)
theorem xk {es : Es} {vs : List V} (h : Ev T x e lv hp v hp₁) (k : Evs T x es lv hp₁ vs hp₂) : Evs T x (.cons e es) lv hp (v :: vs) hp₂ := (b_ok h).trans (b_ok k)
theorem bop_run {op : BoolOp} {es : Es} (h : Ev T x e lv hp v hp₁) (q : truth v = some c) : evB T x op (.cons e (.cons e' es)) lv hp = if stops op c then some (.ok v hp₁) else evB T x op (.cons e' es) lv hp₁ := (b_ok h).trans (by
 show P.bind (P.of (truth v)) _ hp₁ = _
 rw [q]
 show (if stops op c = true then P.ret v else evB T x op (.cons e' es) lv) hp₁ = _
 cases stops op c <;> rfl)
theorem v_stop {op : BoolOp} {es : Es} (h : Ev T x e lv hp v hp₁) (q : truth v = some c) (s : stops op c = true) : Ev T x (.bop op (.cons e (.cons e' es))) lv hp v hp₁ := (bop_run h q).trans (if_pos s)
theorem v_past {op : BoolOp} {es : Es} (h : Ev T x e lv hp v hp₁) (q : truth v = some c) (s : stops op c = false) (k : Ev T x (.bop op (.cons e' es)) lv hp₁ w hp₂) : Ev T x (.bop op (.cons e (.cons e' es))) lv hp w hp₂ := (bop_run h q).trans ((if_neg (by rw [s]; exact Bool.false_ne_true)).trans k)
theorem v_last {op : BoolOp} (h : Ev T x e lv hp v hp₁) : Ev T x (.bop op (.cons e .nil)) lv hp v hp₁ := b_ok h
end
section
variable {T : Tab} {d : Nat} {hm : Bool} {f : Nat} {args : List V} {hp hp' : Hp} {r : Fn}
theorem call_of {out : OutS} (hr : T.fn f = some r) (hl : r.ps.length = args.length) (h : execs T r.body ⟨hm, callF T d⟩ (r.ps.zip args) hp = some out) : callF T (d + 1) hm f args hp = some (outS out) := by
 show (T.fn f).bind _ = _
 rw [hr]
 show (if r.ps.length = args.length then _ else _ : Option (Out V)) = _
 rw [if_pos hl, h]; rfl
def Ret (v : V) (hp' : Hp) (o : OutS) : Prop := outS o = .ok v hp'
theorem call_rn {v : V} (hr : T.fn f = some r) (hl : r.ps.length = args.length) (h : Rn T ⟨hm, callF T d⟩ r.body (r.ps.zip args) hp (Ret v hp')) : callF T (d + 1) hm f args hp = some (.ok v hp') := h.elim fun out h => (call_of hr hl h.1).trans (congrArg some h.2)
theorem call_raise {i : Nat} (hr : T.fn f = some r) (hl : r.ps.length = args.length) (h : Rn T ⟨hm, callF T d⟩ r.body (r.ps.zip args) hp fun o => outS o = .raise i hp') : callF T (d + 1) hm f args hp = some (.raise i hp') := h.elim fun out h => (call_of hr hl h.1).trans (congrArg some h.2)
theorem call_ex {Q : Out V -> Prop} (hr : T.fn f = some r) (hl : r.ps.length = args.length) (h : Rn T ⟨hm, callF T d⟩ r.body (r.ps.zip args) hp fun o => Q (outS o)) : ∃ out, callF T (d + 1) hm f args hp = some out /\ Q out := h.elim fun out h => ⟨_, call_of hr hl h.1, h.2⟩
end
theorem lk_same {lv : Loc} {y : Nat} {v : V} : (setL y v lv).lookup y = some v := by unfold setL; rw [List.lookup_cons, beq_self_eq_true]
theorem lk_filter (y : Nat) : ∀ (lv : Loc) {i : Nat}, i ≠ y -> (lv.filter fun q => q.1 != y).lookup i = lv.lookup i
 | [], _, _ => rfl
 | (a, w) :: r, i, h => by
  rw [List.filter_cons]
  by_cases q : a = y
  ·rw [if_neg (by rw [q, bne_self_eq_false]; exact Bool.false_ne_true), lk_filter y r h, List.lookup_cons, beq_eq_false_iff_ne.mpr (q ▸ h)]
  ·rw [if_pos (bne_iff_ne.mpr q), List.lookup_cons, List.lookup_cons, lk_filter y r h]
theorem zk {lv : Loc} {y i : Nat} {v : V} {o : Option V} (h : i ≠ y) (k : lv.lookup i = o) : (setL y v lv).lookup i = o := by
 unfold setL
 rw [List.lookup_cons, beq_eq_false_iff_ne.mpr h]
 exact (lk_filter y lv h).trans k
theorem vq {T : Tab} {x : X} {lv : Loc} {hp : Hp} {y : Nat} {v : V} (h : lv.lookup y = some v) : Ev T x (.loc y) lv hp v hp := by
 show (lv.lookup y).map _ = _
 rw [h]; rfl
section
variable {hp e : Hp} {a b c d f : O} {r : Hp} {i : Nat} {o o' : O} {vs : List V}
theorem g0 : (hp ++ a :: r)[hp.length]? = some a := by rw [List.getElem?_append_right (Nat.le_refl _), Nat.sub_self]; rfl
theorem gk (k : Nat) : (hp ++ r)[hp.length + k]? = r[k]? := by rw [List.getElem?_append_right (Nat.le_add_right _ _), Nat.add_sub_cancel_left]
theorem g1 : (hp ++ a :: b :: r)[hp.length + 1]? = some b := gk 1
theorem list_of (h : hp[i]? = some (.list vs)) : listAt i hp = some vs := by unfold listAt; rw [h]; rfl
theorem listAt_of (h : listAt i hp = some vs) : hp[i]? = some (.list vs) := by
 unfold listAt at h
 cases q : hp[i]? with
 | none => rw [q] at h; exact nq h
 | some o =>
  rw [q] at h
  cases o with
  | list ws => rw [<- Option.some.inj h]
  | _ => exact nq h
theorem getOld (h : hp[i]? = some o) : (hp ++ e)[i]? = some o := by
 rw [List.getElem?_append_left (List.getElem?_eq_some_iff.mp h).1]; exact h
theorem listOld (h : listAt i hp = some vs) : listAt i (hp ++ e) = some vs := list_of (getOld (listAt_of h))
theorem listLast : listAt hp.length (hp ++ .list vs :: r) = some vs := list_of g0
theorem lt_of_get (h : hp[i]? = some o) : i < hp.length := (List.getElem?_eq_some_iff.mp h).1
theorem setOld (h : hp[i]? = some o) : (hp ++ e).set i o' = hp.set i o' ++ e := List.set_append_left _ _ (lt_of_get h)
theorem s0 : (hp ++ a :: r).set hp.length o = hp ++ o :: r := by rw [List.set_append_right _ _ (Nat.le_refl _), Nat.sub_self]; rfl
theorem app2 {a b : List O} : hp ++ a ++ b = hp ++ (a ++ b) := List.append_assoc ..
theorem set_same (h : hp[i]? = some o) : hp.set i o = hp := by
 obtain ⟨q, e⟩ := List.getElem?_eq_some_iff.mp h
 rw [<- e]; exact List.set_getElem_self q
end
def Gives (I : Hp -> Prop) : List V -> It -> Prop
 | [], it => ∀ hp, I hp -> nextIt it hp = some none
 | v :: r, it => ∃ it', (∀ hp, I hp -> nextIt it hp = some (some (v, it'))) /\ Gives I r it'
theorem gives_seq {I : Hp -> Prop} : ∀ vs : List V, Gives I vs (.seq vs)
 | [] => fun _ _ => rfl
 | v :: r => ⟨.seq r, fun _ _ => rfl, gives_seq r⟩
noncomputable def rangeL (cur st : Int) : Nat -> List V
 | 0 => []
 | n + 1 => .int cur :: rangeL (cur + st) st n
theorem gives_range {I : Hp -> Prop} (st : Int) : ∀ (n : Nat) (cur : Int), Gives I (rangeL cur st n) (.range cur n st)
 | 0, _ => fun _ _ => rfl
 | n + 1, cur => ⟨.range (cur + st) n st, fun _ _ => rfl, gives_range st n (cur + st)⟩
theorem next_list {hp : Hp} {i k : Nat} {vs : List V} (h : listAt i hp = some vs) : nextIt (.list i k) hp = some (vs[k]?.map fun v => (v, .list i (k + 1))) := by
 show (listAt i hp).map _ = _
 rw [h]; rfl
theorem gives_list {I : Hp -> Prop} {i : Nat} {vs : List V} (h : ∀ hp, I hp -> listAt i hp = some vs) : ∀ (r : List V) (k : Nat), vs.drop k = r -> Gives I r (.list i k)
 | [], k, e => fun hp hi => by rw [next_list (h hp hi), List.getElem?_eq_none (List.drop_eq_nil_iff.mp e)]; rfl
 | v :: r, k, e => by
  have hv : vs[k]? = some v := by rw [<- List.head?_drop, e]; rfl
  exact ⟨.list i (k + 1), fun hp hi => by rw [next_list (h hp hi), hv]; rfl, gives_list h r (k + 1) (by rw [<- List.drop_drop, e]; rfl)⟩
theorem rangeL_len (st : Int) : ∀ (n : Nat) (cur : Int), (rangeL cur st n).length = n
 | 0, _ => rfl
 | n + 1, cur => congrArg (· + 1) (rangeL_len st n (cur + st))
theorem rangeL_up : ∀ (n : Nat) (c : Nat), rangeL c 1 n = (List.range' c n).map fun k : Nat => .int k
 | 0, _ => rfl
 | n + 1, c => by
  rw [List.range'_succ, List.map_cons, <- rangeL_up n (c + 1)]; rfl
theorem rangeL_zero (n : Nat) : rangeL 0 1 n = (List.range n).map fun k : Nat => .int k := by
 rw [List.range_eq_range']; exact rangeL_up n 0
def Turn (J : Loc -> Hp -> Prop) (Q : OutS -> Prop) (o : OutS) : Prop := match o with
 | .next lv hp => J lv hp
 | o => Q o
theorem loopF_run {I : Hp -> Prop} {b : V -> Loc -> Hp -> Option OutS} {Q : OutS -> Prop} (Inv : List V -> Loc -> Hp -> Prop) (hI : ∀ l lv hp, Inv l lv hp -> I hp)
  (step : ∀ v r lv hp, Inv (v :: r) lv hp -> ∃ out, b v lv hp = some out /\ Turn (Inv r) Q out) (fin : ∀ lv hp, Inv [] lv hp -> Q (.next lv hp)) :
  ∀ (l : List V) (n : Nat) (it : It) (lv : Loc) (hp : Hp), Gives I l it -> l.length < n -> Inv l lv hp -> ∃ out, loopF b n it lv hp = some out /\ Q out
 | _, 0, _, _, _, _, h, _ => absurd h (Nat.not_lt_zero _)
 | [], n + 1, it, lv, hp, g, _, hi => ⟨.next lv hp, by show (nextIt it hp).bind _ = _; rw [g hp (hI _ _ _ hi)]; rfl, fin lv hp hi⟩
 | v :: r, n + 1, it, lv, hp, g, h, hi => by
  obtain ⟨it', g1, g2⟩ := g
  obtain ⟨out, e, q⟩ := step v r lv hp hi
  have z : loopF b (n + 1) it lv hp = seqS (b v lv hp) (loopF b n it') := by show (nextIt it hp).bind _ = _; rw [g1 hp (hI _ _ _ hi)]; rfl
  rw [z, e]
  cases out with
  | next lv' hp' => exact loopF_run Inv hI step fin r n it' lv' hp' g2 (Nat.lt_of_succ_lt_succ h) q
  | ret v lv' hp' => exact ⟨_, rfl, q⟩
  | raise i lv' hp' => exact ⟨_, rfl, q⟩
theorem loopW_run {c : Loc -> P Bool} {b : Loc -> Hp -> Option OutS} {Q : OutS -> Prop} (Inv : Nat -> Loc -> Hp -> Prop)
  (step : ∀ k lv hp, Inv k lv hp -> (∃ hp', c lv hp = some (.ok false hp') /\ Q (.next lv hp')) \/ (∃ hp₁ out, c lv hp = some (.ok true hp₁) /\ b lv hp₁ = some out /\ Turn (fun lv' hp' => ∃ k', k' < k /\ Inv k' lv' hp') Q out) \/ ∃ i hp', c lv hp = some (.raise i hp') /\ Q (.raise i lv hp')) :
  ∀ (n k : Nat) (lv : Loc) (hp : Hp), k < n -> Inv k lv hp -> ∃ out, loopW c b n lv hp = some out /\ Q out
 | 0, _, _, _, h, _ => absurd h (Nat.not_lt_zero _)
 | n + 1, k, lv, hp, h, hi => by
  have z : loopW c b (n + 1) lv hp = onV (c lv hp) lv fun t hp => if t then seqS (b lv hp) (loopW c b n) else some (.next lv hp) := rfl
  rcases step k lv hp hi with ⟨hp', e, q⟩ | ⟨hp₁, out, e1, e2, q⟩ | ⟨i, hp', e, q⟩
  ·exact ⟨_, by rw [z, e]; rfl, q⟩
  ·have z : loopW c b (n + 1) lv hp = seqS (b lv hp₁) (loopW c b n) := by rw [z, e1]; rfl
   rw [z, e2]
   cases out with
   | next lv' hp' => exact q.elim fun k' q => loopW_run Inv step n k' lv' hp' (Nat.lt_of_lt_of_le q.1 (Nat.le_of_lt_succ h)) q.2
   | ret v lv' hp' => exact ⟨_, rfl, q⟩
   | raise i lv' hp' => exact ⟨_, rfl, q⟩
  ·exact ⟨_, by rw [z, e]; rfl, q⟩
section
variable {T : Tab} {x : X} {ss b : Ss} {lv : Loc} {hp hp₁ : Hp} {Q : OutS -> Prop} {t : E} {v : V} {y : Nat}
def Aft (T : Tab) (x : X) (ss : Ss) (Q : OutS -> Prop) (o : OutS) : Prop := match o with
 | .next lv hp => Rn T x ss lv hp Q
 | o => Q o
theorem r_aft {s : S} (h : ∃ out, exec T s x lv hp = some out /\ Aft T x ss Q out) : Rn T x (.cons s ss) lv hp Q := by
 obtain ⟨out, e, q⟩ := h
 cases out with
 | next => exact r_step e q
 | _ => exact r_out e (fun _ _ z => nomatch z) q
theorem turn_aft {J : Loc -> Hp -> Prop} {o : OutS} (h : Turn J Q o) : Turn J (Aft T x ss Q) o := by
 cases o <;> exact h
theorem r_whil (Inv : Nat -> Loc -> Hp -> Prop) (k : Nat) (hk : k < 1000) (hi : Inv k lv hp)
  (step : ∀ k lv hp, Inv k lv hp -> ∃ c hp₁, Tr T x t lv hp c hp₁ /\ (c = false -> Rn T x ss lv hp₁ Q) /\ (c = true -> Rn T x b lv hp₁ (Turn (fun lv' hp' => ∃ k', k' < k /\ Inv k' lv' hp') Q))) : Rn T x (.cons (.whil t b) ss) lv hp Q :=
 r_aft (loopW_run (c := fun lv => tr (ev T x t lv)) (b := fun lv hp => execs T b x lv hp) Inv (fun k lv hp h => by
  refine cps fun G_ f_ => ?_
  obtain ⟨c, hp₁, e, q, q'⟩ := step k lv hp h
  refine f_ ?_
  clear f_ G_
  cases c with
  | false => exact .inl ⟨hp₁, e, q rfl⟩
  | true => exact (q' rfl).elim fun out z => .inr (.inl ⟨hp₁, out, e, z.1, turn_aft z.2⟩)) turns k lv hp hk hi)
theorem r_fori {tg : Tg} {I : Hp -> Prop} (Inv : List V -> Loc -> Hp -> Prop) (hm : x.hm = false) (hv : Ev T x t lv hp v hp₁) {it : It} (hit : itOf v hp₁ = some (.ok it hp₁)) {l : List V} (g : Gives I l it) (hl : l.length < 1000) (hI : ∀ l lv hp, Inv l lv hp -> I hp) (hi : Inv l lv hp₁)
  (step : ∀ v r lv hp, Inv (v :: r) lv hp -> ∃ lv', assignT tg v lv = some lv' /\ Rn T x b lv' hp (Turn (Inv r) Q)) (fin : ∀ lv hp, Inv [] lv hp -> Rn T x ss lv hp Q) : Rn T x (.cons (.fori tg t b) ss) lv hp Q := by
 refine r_aft ?_
 have z : exec T (.fori tg t b) x lv hp = loopF (fun v lv hp => (assignT tg v lv).bind fun lv => execs T b x lv hp) turns it lv hp₁ := by
  show (if x.hm = true then _ else _ : Option OutS) = _
  rw [if_neg (by rw [hm]; exact Bool.false_ne_true)]
  exact o_ok ((b_ok hv).trans hit)
 rw [z]
 exact loopF_run Inv hI (fun v r lv hp h => (step v r lv hp h).elim fun lv' z => z.2.elim fun out k => ⟨out, by rw [z.1]; exact k.1, turn_aft k.2⟩) fin l turns it lv hp₁ g hl hi
end
theorem setLast {hp : Hp} (o o' : O) : (hp ++ [o]).set hp.length o' = hp ++ [o'] := s0
theorem comp_run {hm : Bool} {c : Loc -> P Bool} {e : Loc -> P V} {y : Nat} {lv : Loc} {hp : Hp} (hne : hp ≠ []) (p : V -> Bool) (f : V -> V) :
  ∀ (l : List V) (n : Nat) (it : It) (acc : List V), Gives (fun h => ∃ acc, h = hp ++ [.list acc]) l it -> l.length < n -> acc.length + l.length <= 1000 -> (∀ v ∈ l, ∀ acc, c ((y, v) :: lv) (hp ++ [.list acc]) = some (.ok (p v) (hp ++ [.list acc]))) ->
   (∀ v ∈ l, p v = true -> ∀ acc, e ((y, v) :: lv) (hp ++ [.list acc]) = some (.ok (f v) (hp ++ [.list acc]))) ->
   loopC hm c e y lv hp.length n it (hp ++ [.list acc]) = some (hp ++ [.list (acc ++ (l.filter p).map f)])
 | _, 0, _, _, _, h, _, _, _ => absurd h (Nat.not_lt_zero _)
 | [], n + 1, it, acc, g, _, _, _, _ => by
  show (nextIt it _).bind _ = _
  rw [g _ ⟨acc, rfl⟩, List.filter_nil, List.map_nil, List.append_nil]; rfl
 | v :: r, n + 1, it, acc, g, h, ha, hc, he => by
  obtain ⟨it', g1, g2⟩ := g
  have hl : hp.length ≠ 0 := fun z => hne (List.length_eq_zero_iff.mp z)
  have ha' : acc.length + (r.length + 1) <= 1000 := ha
  have ih := fun acc' (h' : acc'.length + r.length <= 1000) => comp_run (hm := hm) hne p f r n it' acc' g2 (Nat.lt_of_succ_lt_succ h) h' (fun v hv => hc v (List.mem_cons_of_mem _ hv)) (fun v hv => he v (List.mem_cons_of_mem _ hv))
  have z : loopC hm c e y lv hp.length (n + 1) it (hp ++ [.list acc]) = (okOf (c ((y, v) :: lv) (hp ++ [.list acc]))).bind fun t => if t.1 then (okOf (e ((y, v) :: lv) t.2)).bind fun w => (listAt hp.length w.2).bind fun vs => if vs.length <= big /\ hp.length ≠ 0 then loopC hm c e y lv hp.length n it' (w.2.set hp.length (.list (vs ++ [w.1]))) else Option.none else loopC hm c e y lv hp.length n it' t.2 := by
   show (nextIt it _).bind _ = _
   rw [g1 _ ⟨acc, rfl⟩]; rfl
  rw [z, hc v List.mem_cons_self acc]
  cases q : p v with
  | false =>
   rw [List.filter_cons, q]
   exact ih acc (by omega)
  | true =>
   rw [List.filter_cons, q]
   show (okOf (e ((y, v) :: lv) (hp ++ [.list acc]))).bind _ = _
   rw [he v List.mem_cons_self q acc]
   show (listAt hp.length (hp ++ [.list acc])).bind _ = _
   rw [listLast]
   refine (if_pos ⟨show acc.length <= 100000 by omega, hl⟩).trans ?_
   show loopC hm c e y lv hp.length n it' ((hp ++ [O.list acc]).set hp.length (O.list (acc ++ [f v]))) = _
   rw [setLast, ih (acc ++ [f v]) (by rw [List.length_append]; show acc.length + 1 + r.length <= 1000; omega), List.append_assoc]; rfl
section
variable {T : Tab} {x : X} {elt iter : E} {y : Nat} {conds : Es} {lv : Loc} {hp : Hp} {v : V} {it : It}
theorem v_comp (hne : hp ≠ []) (hi : Ev T x iter lv hp v hp) (hit : itOf v hp = some (.ok it hp)) (hm : (x.hm && !isRange it) = false)
  {l : List V} (g : Gives (fun h => ∃ acc, h = hp ++ [.list acc]) l it) (hl : l.length < 999) (p : V -> Bool) (f : V -> V)
  (hc : ∀ v ∈ l, ∀ acc, evT T x conds ((y, v) :: lv) (hp ++ [.list acc]) = some (.ok (p v) (hp ++ [.list acc]))) (he : ∀ v ∈ l, p v = true -> ∀ acc, Ev T x elt ((y, v) :: lv) (hp ++ [.list acc]) (f v) (hp ++ [.list acc])) :
  Ev T x (.comp elt y iter conds) lv hp (.ref hp.length) (hp ++ [.list ((l.filter p).map f)]) := by
 refine (b_ok ((b_ok hi).trans hit)).trans ?_
 show (if (x.hm && !isRange it) = true then _ else _ : Option (Out V)) = _
 rw [if_neg (by rw [hm]; exact Bool.false_ne_true)]
 show (loopC x.hm (fun lv => evT T x conds lv) (fun lv => ev T x elt lv) y lv hp.length turns it (hp ++ [.list []])).map _ = _
 rw [comp_run hne p f l turns it [] g (Nat.lt_of_lt_of_le hl (Nat.le_succ 999)) (by show 0 + l.length <= 1000; omega) hc he]; rfl
theorem v_map (hne : hp ≠ []) (hi : Ev T x iter lv hp v hp) (hit : itOf v hp = some (.ok it hp)) (hm : (x.hm && !isRange it) = false)
  {l : List V} (g : Gives (fun h => ∃ acc, h = hp ++ [.list acc]) l it) (hl : l.length < 999) (f : V -> V)
  (he : ∀ v ∈ l, ∀ acc, Ev T x elt ((y, v) :: lv) (hp ++ [.list acc]) (f v) (hp ++ [.list acc])) :
  Ev T x (.comp elt y iter .nil) lv hp (.ref hp.length) (hp ++ [.list (l.map f)]) := by
 have z := v_comp (elt := elt) (y := y) (conds := .nil) hne hi hit hm g hl (fun _ => true) f (fun v hv acc => rfl) (fun v hv _ acc => he v hv acc)
 rw [List.filter_eq_self.mpr (fun _ _ => rfl)] at z
 exact z
theorem it_range {n : Nat} (h : n < 1000000) : itOf (.range 0 (n : Int) 1) hp = some (.ok (.range 0 n 1) hp) := by
 have e : (Builtin.Range.rangeSize 0 (n : Int) 1).toNat = n := by
  unfold Builtin.Range.rangeSize
  rw [if_pos (by decide), Int.ediv_one]
  split <;> omega
 show (if _ then _ else _ : Option (Out It)) = _
 rw [if_pos ⟨.inl rfl, by decide, by rw [Int.natAbs_natCast]; exact Nat.lt_trans h (by decide)⟩, e]
theorem v_up {m : Nat} (hne : hp ≠ []) (hi : Ev T x iter lv hp (.range 0 m 1) hp) (hl : m < 999) (f : Nat -> V)
  (he : ∀ k, k < m -> ∀ acc, Ev T x elt ((y, .int k) :: lv) (hp ++ [.list acc]) (f k) (hp ++ [.list acc])) :
  Ev T x (.comp elt y iter .nil) lv hp (.ref hp.length) (hp ++ [.list ((List.range m).map f)]) := by
 have z := v_map (elt := elt) (y := y) hne hi (it_range (Nat.lt_trans hl (by decide))) (by cases x.hm <;> rfl) (gives_range 1 m 0) (by rw [rangeL_len]; exact hl) (fun v => f (v.int?.getD 0).toNat) fun v hv acc => by
  rw [rangeL_zero] at hv
  obtain ⟨k, hk, rfl⟩ := List.mem_map.mp hv
  exact he k (List.mem_range.mp hk) acc
 rw [rangeL_zero, List.map_map] at z
 exact z
end
noncomputable abbrev T2 : Tab := ⟨fun f => P2.fns[f]?, fun c => P2.inits.lookup c, fun c m => P2.meths.lookup (c, m), ⟨1, 2, 3, 4, 5, 6⟩⟩
section
variable {a b : Int}
theorem bi_mod (h : 0 < b) (h2 : b.natAbs < 2 ^ 400) : binInt .Mod a b = some (a % b) := if_pos ⟨h, h2⟩
theorem bi_fd (h : 0 < b) (h2 : b.natAbs < 2 ^ 400) : binInt .FloorDiv a b = some (a / b) := if_pos ⟨h, h2⟩
theorem bi_pow {k : Nat} (ha : a.natAbs < 2 ^ 64) (hk : k <= 100000) : binInt .Pow a (k : Int) = some (a ^ k) :=
 (if_pos ⟨Int.natCast_nonneg k, Int.ofNat_le.mpr hk, decide_eq_true ha⟩).trans (by rw [Int.toNat_natCast])
theorem bi_mul (ha : a.natAbs < 2 ^ 400) (hb : b.natAbs < 2 ^ 400) : binInt .Mult a b = some (a * b) := if_pos (Bool.and_eq_true_iff.mpr ⟨decide_eq_true ha, decide_eq_true hb⟩)
theorem pow_lt400 {c k m : Nat} (hk : k <= m) (h : c ^ m < 2 ^ 400) (hc : 0 < c) : c ^ k < 2 ^ 400 := Nat.lt_of_le_of_lt (Nat.pow_le_pow_right hc hk) h
theorem natAbs_pow_lt {c : Int} {k m : Nat} (hk : k <= m) (h : c.natAbs ^ m < 2 ^ 400) (hc : 0 < c) : (c ^ k).natAbs < 2 ^ 400 := by
 rw [Int.natAbs_pow]; exact pow_lt400 hk h (by omega)
theorem bi_fdp {c : Int} {k m : Nat} (hc : 0 < c) (hk : k <= m) (h : c.natAbs ^ m < 2 ^ 400) : binInt .FloorDiv a (c ^ k) = some (a / c ^ k) := bi_fd (Int.pow_pos hc) (natAbs_pow_lt hk h hc)
end
section
variable {T : Tab} {x : X} {hp : Hp}
theorem c_len {i : Nat} {vs : List V} (h : listAt i hp = some vs) (q : vs.length <= huge) : callG T x (.bi .len) [.ref i] hp = some (.ok (.int vs.length) hp) := by
 show (hp[i]?.bind lenOf').bind _ = _
 rw [listAt_of h]
 exact if_pos q
theorem idx_nat {k n : Nat} (h : k < n) (hn : n <= huge) : idxOf (k : Int) n = some k :=
 (if_neg (Nat.not_lt_of_le hn)).trans ((if_pos (Int.natCast_nonneg k)).trans ((if_pos (Int.ofNat_lt.mpr h)).trans (by rw [Int.toNat_natCast])))
end
noncomputable def dig (l : List Int) (at_ : Nat) : Int := l.getD at_ 0
theorem h63 {n : Nat} (h : n <= 63) : n <= huge := Nat.le_trans h (by decide)
theorem run_digit {d : Nat} {hm : Bool} {l : List Int} {hp : Hp} (a : Nat) (h0 : listAt 0 hp = some (l.map .int)) (hl : l.length <= 63) :
  callF T2 (d + 1) hm 26 [.ref 0, .int a] hp = some (.ok (.int (dig l a)) hp) := by
 have hh : (l.map V.int).length <= huge := by rw [List.length_map]; exact h63 hl
 have hc : Tr T2 ⟨hm, callF T2 d⟩ (.cmp .Lt (.loc 6) (.callg 26 (.bi .len) (.cons (.loc 49) .nil))) [(49, .ref 0), (6, .int a)] hp (decide ((a : Int) < (l.map V.int).length)) hp := t_of (v_cmp rfl (v_call (xk rfl rfl) (c_len h0 hh)) rfl) rfl
 by_cases q : a < l.length
 ·exact call_rn (r := P2.f26) rfl rfl (r_ret (v_if hc (by rw [List.length_map]; exact decide_eq_true (Int.ofNat_lt.mpr q)) (v_sub rfl rfl h0 (idx_nat (by rw [List.length_map]; exact q) hh) (v := .int (dig l a)) (by
   rw [List.getElem?_map, List.getElem?_eq_getElem q]
   show some (V.int l[a]) = some (.int (l.getD a 0))
   rw [List.getD_eq_getElem?_getD, List.getElem?_eq_getElem q]; rfl))) rfl)
 ·exact call_rn (r := P2.f26) rfl rfl (r_ret (v := .int (dig l a)) (v_else hc (by rw [List.length_map]; exact decide_eq_false fun z => q (Int.ofNat_lt.mp z)) (by
   show some (Out.ok (V.int 0) hp) = some (.ok (.int (l.getD a 0)) hp)
   rw [List.getD_eq_getElem?_getD, List.getElem?_eq_none (Nat.le_of_not_lt q)]; rfl)) rfl)
noncomputable def grp (n : Int) (m k : Nat) : Int := n / (128 : Int) ^ k % 128 + (if (k : Int) < m - 1 then 128 else 0)
noncomputable def groups (n : Int) (m : Nat) : List Int := (List.range m).map (grp n m)
noncomputable def wid (p : Int) : Nat := if p < 0 then 0 else if p < 128 then 1 else if p < 2048 then 2 else if p < 65536 then 3 else 4
theorem wid_le (p : Int) : wid p <= 4 := by
 unfold wid
 split
 ·decide
 split
 ·decide
 split
 ·decide
 split <;> decide
theorem filter_le {p : Int} : ((([0, 128, 2048, 65536] : List Int).filter fun k => decide (k <= p)).length) = wid p := by
 have e : ∀ {k : Int}, p < k -> decide (k <= p) = false := fun h => decide_eq_false (Int.not_le.mpr h)
 have f : ∀ {k : Int}, ¬ p < k -> decide (k <= p) = true := fun h => decide_eq_true (Int.not_lt.mp h)
 unfold wid
 split
 ·rw [List.filter_cons, e (by omega), List.filter_cons, e (by omega), List.filter_cons, e (by omega), List.filter_cons, e (by omega)]; rfl
 split
 ·rw [List.filter_cons, f (by omega), List.filter_cons, e (by omega), List.filter_cons, e (by omega), List.filter_cons, e (by omega)]; rfl
 split
 ·rw [List.filter_cons, f (by omega), List.filter_cons, f (by omega), List.filter_cons, e (by omega), List.filter_cons, e (by omega)]; rfl
 split
 ·rw [List.filter_cons, f (by omega), List.filter_cons, f (by omega), List.filter_cons, f (by omega), List.filter_cons, e (by omega)]; rfl
 ·rw [List.filter_cons, f (by omega), List.filter_cons, f (by omega), List.filter_cons, f (by omega), List.filter_cons, f (by omega)]; rfl
section
variable {T : Tab} {x : X} {lv : Loc} {hp hp₁ hp₂ : Hp} {e e' : E} {a b : Bool}
theorem v_or (h : Ev T x e lv hp (.bool a) hp) (h' : Ev T x e' lv hp (.bool b) hp) : Ev T x (.bop .Or (.cons e (.cons e' .nil))) lv hp (.bool (a || b)) hp := by
 cases a with
 | true => exact v_stop h rfl rfl
 | false => exact v_past h rfl rfl (v_last h')
end
noncomputable def sgn (p : Int) (w : Nat) : List Int := match w with
 | 1 => [p % 256]
 | 2 => [192 + p / 64 % 32, 128 + p % 64]
 | 3 => [224 + p / 4096 % 16, 128 + p / 64 % 64, 128 + p % 64]
 | 4 => [240 + p / 262144 % 8, 128 + p / 4096 % 64, 128 + p / 64 % 64, 128 + p % 64]
 | _ => []
theorem in_mod {a m n : Int} (k : Int) (h0 : 0 < m) (ha : 0 <= a) (h : a + m <= 256) : 0 <= a + k % m /\ a + k % m < 256 := by
 have h1 := Int.emod_nonneg k (Int.ne_of_gt h0)
 have h2 := Int.emod_lt_of_pos k h0
 omega
theorem sgn_range (p : Int) (w : Nat) : ∀ x ∈ sgn p w, 0 <= x /\ x < 256 := by
 have hd : ∀ {l : List Int} {y : Int}, (0 <= y /\ y < 256) -> (∀ x ∈ l, 0 <= x /\ x < 256) -> ∀ x ∈ y :: l, 0 <= x /\ x < 256 := fun h k x hx => (List.mem_cons.mp hx).elim (fun e => e ▸ h) (k x)
 have nl : ∀ x ∈ ([] : List Int), 0 <= x /\ x < 256 := fun x hx => nomatch hx
 have c : ∀ k : Int, 0 <= 128 + k % 64 /\ 128 + k % 64 < 256 := fun k => in_mod (n := 0) k (by decide) (by decide) (by decide)
 match w with
 | 1 => exact hd (Int.zero_add (p % 256) ▸ in_mod (n := 0) p (by decide) (by decide) (by decide)) nl
 | 2 => exact hd (in_mod (n := 0) _ (by decide) (by decide) (by decide)) (hd (c _) nl)
 | 3 => exact hd (in_mod (n := 0) _ (by decide) (by decide) (by decide)) (hd (c _) (hd (c _) nl))
 | 4 => exact hd (in_mod (n := 0) _ (by decide) (by decide) (by decide)) (hd (c _) (hd (c _) (hd (c _) nl)))
 | 0 => exact nl
 | _ + 5 => exact nl
theorem sgn_len (p : Int) : ∀ {w : Nat}, w <= 4 -> (sgn p w).length = w
 | 0, _ => rfl
 | 1, _ => rfl
 | 2, _ => rfl
 | 3, _ => rfl
 | 4, _ => rfl
 | _ + 5, h => absurd h (by omega)
section
variable {d : Nat} {hm : Bool} {hp : Hp}
theorem v_menu {T : Tab} {x : X} {lv : Loc} {hp : Hp} {es : Es} {i : E} {vs : List V} {v : V} {k : Nat} {j : Int} (h : Evs T x es lv hp vs hp) (h' : Ev T x i lv (hp ++ [.list vs]) (.int j) (hp ++ [.list vs])) (q : vs.length <= big) (c : idxOf j vs.length = some k) (z : vs[k]? = some v) :
  Ev T x (.sub (.list es) i) lv hp v (hp ++ [.list vs]) := v_sub (v_list h q) h' listLast c z
end
theorem sub11 (j : Nat) : ((j + 1 : Nat) : Int) - 1 = j := Int.add_sub_cancel (j : Int) 1
theorem bor_nat (x y : Nat) : Builtin.bitOr x y = ((x ||| y : Nat) : Int) := by
 unfold Builtin.bitOr Builtin.bitAnd Builtin.bitNot
 rw [decide_eq_false (by omega), decide_eq_false (by omega)]
 dsimp only
 have h : ∀ z : Nat, (-(-(z : Int) - 1) - 1).toNat = z := fun z => by omega
 rw [h, h]
 omega
theorem bor_low {x y : Int} (k : Nat) (hx : 0 <= x) (hy : 0 <= y) (hk : y < (2 : Int) ^ k) (hm : x % (2 : Int) ^ k = 0) : Builtin.bitOr x y = x + y := by
 obtain ⟨a, rfl⟩ := Int.eq_ofNat_of_zero_le hx
 obtain ⟨b, rfl⟩ := Int.eq_ofNat_of_zero_le hy
 have hk : b < 2 ^ k := by exact_mod_cast hk
 have hm : a % 2 ^ k = 0 := by exact_mod_cast hm
 rw [bor_nat]
 obtain ⟨c, rfl⟩ := Nat.dvd_of_mod_eq_zero hm
 rw [<- Nat.two_pow_add_eq_or_of_lt hk]
 push_cast
 rfl
theorem bor_comm (x y : Int) : Builtin.bitOr x y = Builtin.bitOr y x := by
 unfold Builtin.bitOr
 rw [PyProof.Rows.bitAnd_comm]
section
variable {a : Int}
theorem bi_and127 : binInt .BitAnd a 127 = some (a % 128) := congrArg some (PyProof.Rows.bitAnd_m7 a)
theorem bi_and63 : binInt .BitAnd a 63 = some (a % 64) := congrArg some (PyProof.Rows.bitAnd_m6 a)
theorem bi_and31 : binInt .BitAnd a 31 = some (a % 32) := congrArg some (PyProof.Rows.bitAnd_m5 a)
theorem bi_and15 : binInt .BitAnd a 15 = some (a % 16) := congrArg some (PyProof.Rows.bitAnd_m4 a)
theorem bi_and7 : binInt .BitAnd a 7 = some (a % 8) := congrArg some (PyProof.Rows.bitAnd_m3 a)
theorem bi_shr (k : Nat) : binInt .RShift a (k : Int) = some (a / (2 : Int) ^ k) := by
 show (if 0 <= (k : Int) then some (a / 2 ^ (k : Int).toNat) else none) = _
 rw [if_pos (Int.natCast_nonneg k), Int.toNat_natCast]
theorem bi_shr6 : binInt .RShift a 6 = some (a / 64) := bi_shr 6
theorem bi_shr7 : binInt .RShift a 7 = some (a / 128) := bi_shr 7
theorem bi_shr12 : binInt .RShift a 12 = some (a / 4096) := bi_shr 12
theorem bi_shr18 : binInt .RShift a 18 = some (a / 262144) := bi_shr 18
theorem mod_ge (m : Int) (h : 0 < m) : 0 <= a % m /\ a % m < m := ⟨Int.emod_nonneg _ (Int.ne_of_gt h), Int.emod_lt_of_pos _ h⟩
theorem bi_or128 (m : Int) : binInt .BitOr (m % 128) 128 = some (m % 128 + 128) := congrArg some ((bor_comm _ _).trans ((bor_low 7 (by decide) (mod_ge 128 (by decide)).1 (mod_ge 128 (by decide)).2 (by decide)).trans (Int.add_comm _ _)))
end
section
variable {T : Tab} {x : X} {lv : Loc} {hp : Hp} {l m r : E} {op op' : CmpOp} {u v w : V} {c c' : Bool}
theorem v_cmp2 (h : Ev T x l lv hp u hp) (h' : Ev T x m lv hp v hp) (q : cmpop op u v hp = some (.ok (.bool c) hp)) (h'' : Ev T x r lv hp w hp) (q' : cmpop op' v w hp = some (.ok (.bool c') hp)) : Ev T x (.cmp2 op op' l m r) lv hp (.bool (c && c')) hp :=
 (b_ok h).trans ((b_ok h').trans ((b_ok q).trans (by
  show (if c = true then P.bind (ev T x r lv) fun d => cmpop op' v d else P.ret (.bool c)) hp = _
  cases c with
  | true => exact (b_ok h'').trans q'
  | false => rfl)))
end
noncomputable def uleb : Nat -> Int -> List Int
 | 0, n => [n]
 | f + 1, n => if n < 128 then [n] else (n % 128 + 128) :: uleb f (n / 128)
noncomputable def sleb : Nat -> Int -> List Int
 | 0, n => [n % 128]
 | f + 1, n => if -64 <= n /\ n < 64 then [n % 128] else (n % 128 + 128) :: sleb f (n / 128)
theorem uleb_low (f : Nat) {n : Int} (h : n < 128) : uleb f n = [n] := by
 cases f with
 | zero => rfl
 | succ f => exact if_pos h
theorem uleb_high (f : Nat) {n : Int} (h : ¬ n < 128) : uleb (f + 1) n = (n % 128 + 128) :: uleb f (n / 128) := if_neg h
theorem sleb_low (f : Nat) {n : Int} (h : -64 <= n /\ n < 64) : sleb f n = [n % 128] := by
 cases f with
 | zero => rfl
 | succ f => exact if_pos h
theorem sleb_high (f : Nat) {n : Int} (h : ¬ (-64 <= n /\ n < 64)) : sleb (f + 1) n = (n % 128 + 128) :: sleb f (n / 128) := if_neg h
theorem p128 (m : Nat) : (128 : Int) ^ (m + 1) = (128 : Int) ^ m * 128 := Int.pow_succ _ _
theorem p128_pos (m : Nat) : 0 < (128 : Int) ^ m := Int.pow_pos (by decide)
theorem groups_one (n : Int) : groups n 1 = [n % 128] := by
 show [n / 1 % 128 + (if (0 : Int) < 0 then 128 else 0)] = _
 rw [Int.ediv_one, if_neg (by decide), Int.add_zero]
theorem grp_zero (n : Int) {m : Nat} (h : 1 <= m) : grp n (m + 1) 0 = n % 128 + 128 := by
 show n / 1 % 128 + (if (0 : Int) < ((m + 1 : Nat) : Int) - 1 then 128 else 0) = _
 rw [Int.ediv_one, sub11, if_pos (show (0 : Int) < m from Int.ofNat_lt.mpr h)]
theorem grp_succ (n : Int) (m k : Nat) : grp n (m + 1) (k + 1) = grp (n / 128) m k := by
 unfold grp
 have e1 : n / (128 : Int) ^ (k + 1) = n / 128 / (128 : Int) ^ k := by rw [p128, Int.mul_comm, Int.ediv_ediv_of_nonneg (by decide)]
 have e2 : (((k + 1 : Nat) : Int) < ((m + 1 : Nat) : Int) - 1) ↔ ((k : Int) < (m : Int) - 1) := by omega
 rw [e1]
 by_cases q : (k : Int) < (m : Int) - 1
 ·rw [if_pos q, if_pos (e2.mpr q)]
 ·rw [if_neg q, if_neg (fun z => q (e2.mp z))]
theorem groups_succ (n : Int) {m : Nat} (h : 1 <= m) : groups n (m + 1) = (n % 128 + 128) :: groups (n / 128) m := by
 unfold groups
 rw [List.range_succ_eq_map, List.map_cons, List.map_map, grp_zero n h]
 exact congrArg _ (List.map_congr_left fun k _ => grp_succ n m k)
theorem div_bounds {n P : Int} (h0 : 128 * 1 <= n) (h : n < P * 128) : 0 <= n / 128 /\ n / 128 < P := ⟨Int.ediv_nonneg (by omega) (by decide), Int.ediv_lt_of_lt_mul (by decide) h⟩
theorem le_div {n P : Int} (h : P * 128 <= n) : P <= n / 128 := Int.le_ediv_of_mul_le (by decide) h
theorem uleb_groups : ∀ (m f : Nat) (n : Int), m <= f -> 0 <= n -> n < (128 : Int) ^ (m + 1) -> (m = 0 \/ (128 : Int) ^ m <= n) -> uleb f n = groups n (m + 1)
 | 0, f, n, _, h0, h1, _ => by
  have h1 : n < 128 := h1
  rw [groups_one, uleb_low f h1, Int.emod_eq_of_lt h0 h1]
 | m + 1, 0, n, hf, _, _, _ => absurd hf (Nat.not_succ_le_zero m)
 | m + 1, f + 1, n, hf, h0, h1, h2 => by
  have h2 : (128 : Int) ^ (m + 1) <= n := h2.resolve_left (Nat.succ_ne_zero m)
  have hn : 128 <= n := Int.le_trans (by rw [p128]; have := p128_pos m; omega) h2
  rw [p128] at h1 h2
  have D := div_bounds hn h1
  rw [groups_succ n (Nat.succ_pos m), uleb_high f (Int.not_lt.mpr hn), uleb_groups m f (n / 128) (Nat.le_of_succ_le_succ hf) D.1 D.2 (.inr (le_div h2))]
theorem s_div {n P : Int} (h : -64 * (P * 128) <= n /\ n < 64 * (P * 128)) : -64 * P <= n / 128 /\ n / 128 < 64 * P := by omega
theorem s_mul {n P : Int} (h : -64 * P <= n / 128 /\ n / 128 < 64 * P) : -64 * (P * 128) <= n /\ n < 64 * (P * 128) := by omega
theorem sleb_groups : ∀ (m f : Nat) (n : Int), m <= f -> (-64 * (128 : Int) ^ m <= n /\ n < 64 * (128 : Int) ^ m) -> (m = 0 \/ ¬ (-64 * (128 : Int) ^ (m - 1) <= n /\ n < 64 * (128 : Int) ^ (m - 1))) -> sleb f n = groups n (m + 1)
 | 0, f, n, _, h1, _ => by rw [groups_one, sleb_low f h1]
 | m + 1, 0, n, hf, _, _ => absurd hf (Nat.not_succ_le_zero m)
 | m + 1, f + 1, n, hf, h1, h2 => by
  have h2 : ¬ (-64 * (128 : Int) ^ m <= n /\ n < 64 * (128 : Int) ^ m) := h2.resolve_left (Nat.succ_ne_zero m)
  have q : ¬ (-64 <= n /\ n < 64) := fun z => h2 (by have := p128_pos m; omega)
  rw [p128] at h1
  rw [groups_succ n (Nat.succ_pos m), sleb_high f q, sleb_groups m f (n / 128) (Nat.le_of_succ_le_succ hf) (s_div h1) ?_]
  cases m with
  | zero => exact .inl rfl
  | succ m => exact .inr fun z => h2 (by rw [p128]; exact s_mul z)
def Sink (hp : Hp) (s b : Nat) (bs : List Int) : Prop := hp[s]? = some (.inst 1 [(7, .ref b)]) /\ hp[b]? = some (.ba bs)
theorem Sink.ne {hp : Hp} {s b : Nat} {bs : List Int} (h : Sink hp s b bs) : b ≠ s := fun q => by
 have e := h.2
 rw [q, h.1] at e
 exact nomatch Option.some.inj e
theorem Sink.set {hp : Hp} {s b : Nat} {bs : List Int} (h : Sink hp s b bs) (bs' : List Int) : Sink (hp.set b (.ba bs')) s b bs' :=
 ⟨by rw [List.getElem?_set_ne h.ne]; exact h.1, by rw [List.getElem?_set_self (lt_of_get h.2)]⟩
theorem Sink.app {hp : Hp} {s b : Nat} {bs : List Int} (h : Sink hp s b bs) (e : Hp) : Sink (hp ++ e) s b bs := ⟨getOld h.1, getOld h.2⟩
section
variable {x : X} {lv : Loc} {hp hp' : Hp} {s b : Nat} {bs : List Int} {d : Nat} {hm : Bool}
theorem k_ba {T : Tab} {n : Nat} {k : MK} (h : hp[b]? = some (.ba bs)) (q : findB T.N n = some k) : findK T (.ref b) n hp = some k := by
 show (hp[b]?).bind _ = _
 rw [h]; exact q
theorem m_bapp {T : Tab} {v : Int} (h : hp[b]? = some (.ba bs)) (hb : bs.length <= big) (hv : 0 <= v /\ v < 256) : callM x .bapp (.ref b) [.int v] hp = some (.ok .none (hp.set b (.ba (bs ++ [v])))) := by
 show ((hp[b]?).bind O.ba?).bind _ = _
 rw [h]
 exact if_pos ⟨hb, hv⟩
theorem v_bapp {a : E} {v : Int} (S : Sink hp s b bs) (h0 : lv.lookup 0 = some (.ref s)) (ha : Ev T2 x a lv hp (.int v) hp) (hb : bs.length <= 50000) (hv : 0 <= v /\ v < 256) :
  Ev T2 x (.mcall (.attr (.loc 0) 7) 1 (.cons a .nil)) lv hp .none (hp.set b (.ba (bs ++ [v]))) :=
 v_mcall (v_attr (vq h0) S.1 rfl rfl) (k_ba S.2 rfl) (xk ha rfl) (m_bapp (T := T2) S.2 (Nat.le_trans hb (by decide)) hv)
theorem run_sink_octet (S : Sink hp s b bs) (hb : bs.length <= 50000) {v : Int} (hv : 0 <= v /\ v < 256) : callF T2 (d + 1) hm 16 [.ref s, .int v] hp = some (.ok .none (hp.set b (.ba (bs ++ [v])))) :=
 call_rn (r := P2.f16) rfl rfl (r_expr (v_bapp S rfl rfl hb hv) (r_nil rfl))
structure LInv (hp : Hp) (s b : Nat) (bs all r : List Int) (k : Nat) (n' : Int) (lv : Loc) (h : Hp) (bs' : List Int) : Prop where
 hh : h = hp.set b (.ba bs')
 l1 : lv.lookup 0 = some (.ref s)
 l2 : lv.lookup 36 = some (.int n')
 eq : bs' ++ r = all
 le : bs'.length + k <= bs.length + 9
theorem LInv.fin {all : List Int} {k : Nat} {n' v : Int} {h : Hp} {bs' : List Int} (I : LInv hp s b bs all [v] k n' lv h bs') (S : Sink hp s b bs) (hb : bs.length <= 40000) {a : E} (ha : Ev T2 x a lv h (.int v) h) (hv : 0 <= v /\ v < 256) : Rn T2 x (.cons (.expr (.mcall (.attr (.loc 0) 7) 1 (.cons a .nil))) .nil) lv h (Ret .none (hp.set b (.ba all))) := by
 have S' := S.set bs'
 rw [<- I.hh] at S'
 refine r_expr (v_bapp S' I.l1 ha (by have := I.le; omega) hv) (r_nil ?_)
 show Out.ok V.none (h.set b (.ba (bs' ++ [v]))) = _
 rw [I.hh, List.set_set, I.eq]
theorem LInv.more {all r : List Int} {k : Nat} {n' : Int} {h : Hp} {bs' : List Int} (I : LInv hp s b bs all ((n' % 128 + 128) :: r) (k + 1) n' lv h bs') (S : Sink hp s b bs) (hb : bs.length <= 40000) {Q : OutS -> Prop} (hq : ∀ lv h bs', LInv hp s b bs all r k (n' / 128) lv h bs' -> Q (.next lv h)) :
  Rn T2 x (.cons (.expr (.mcall (.attr (.loc 0) 7) 1 (.cons (.bin .BitOr (.bin .BitAnd (.loc 36) (.int 127)) (.int 128)) .nil))) (.cons (.assign (.one 36) (.bin .RShift (.loc 36) (.int 7))) .nil)) lv h Q := by
 have S' := S.set bs'
 rw [<- I.hh] at S'
 have M := mod_ge (a := n') 128 (by decide)
 refine r_expr (v_bapp S' I.l1 (v_bin (v_bin (vq I.l2) rfl bi_and127) rfl (bi_or128 n')) (by have := I.le; omega) ⟨by omega, by omega⟩) (r_assign (v_bin (vq I.l2) rfl bi_shr7) (r_nil (hq _ _ (bs' ++ [n' % 128 + 128]) ⟨?_, zk (by decide) I.l1, lk_same, ?_, ?_⟩)))
 ·rw [I.hh, List.set_set]
 ·rw [List.append_assoc]; exact I.eq
 ·have := I.le
  rw [List.length_append]
  show bs'.length + 1 + k <= _
  omega
theorem LInv.same {all r r' : List Int} {k : Nat} {n' : Int} {h : Hp} {bs' : List Int} (I : LInv hp s b bs all r k n' lv h bs') (e : r = r') : LInv hp s b bs all r' k n' lv h bs' := e ▸ I
theorem run_sink_unsigned (S : Sink hp s b bs) (hb : bs.length <= 40000) {n : Int} (n0 : 0 <= n) (n1 : n < 18446744073709551616) : callF T2 (d + 1) hm 18 [.ref s, .int n] hp = some (.ok .none (hp.set b (.ba (bs ++ uleb 9 n)))) := by
 refine call_rn (r := P2.f18) rfl rfl (r_else (t_of rfl rfl) (decide_eq_false (Int.not_lt.mpr n0)) (r_whil (fun k lv h => ∃ n' bs', LInv hp s b bs (bs ++ uleb 9 n) (uleb k n') k n' lv h bs' /\ 0 <= n' /\ n' < (128 : Int) ^ (k + 1)) 9 (by decide) ⟨n, bs, ⟨(set_same S.2).symm, rfl, rfl, rfl, Nat.le_refl _⟩, n0, Int.lt_of_lt_of_le n1 (by decide)⟩ fun k lv h ⟨n', bs', I, h0, h1⟩ => ?_))
 refine ⟨_, h, t_of (v_cmp (vq I.l2) rfl rfl) rfl, fun q => ?_, fun q => ?_⟩
 ·have q : n' < 128 := Int.not_le.mp (of_decide_eq_false q)
  exact (I.same (uleb_low k q)).fin S hb (vq I.l2) ⟨h0, Int.lt_trans q (by decide)⟩
 ·have q := of_decide_eq_true q
  cases k with
  | zero => exact absurd h1 (Int.not_lt.mpr q)
  | succ k =>
   rw [p128] at h1
   exact (I.same (uleb_high k (Int.not_lt.mpr q))).more S hb fun lv h bs'' I' => ⟨k, Nat.lt_succ_self k, _, bs'', I', div_bounds q h1⟩
theorem run_sink_signed (S : Sink hp s b bs) (hb : bs.length <= 40000) {n : Int} (n0 : -9223372036854775808 <= n) (n1 : n < 9223372036854775808) : callF T2 (d + 1) hm 19 [.ref s, .int n] hp = some (.ok .none (hp.set b (.ba (bs ++ sleb 9 n)))) := by
 refine call_rn (r := P2.f19) rfl rfl (r_whil (fun k lv h => ∃ n' bs', LInv hp s b bs (bs ++ sleb 9 n) (sleb k n') k n' lv h bs' /\ (-64 * (128 : Int) ^ k <= n' /\ n' < 64 * (128 : Int) ^ k)) 9 (by decide) ⟨n, bs, ⟨(set_same S.2).symm, rfl, rfl, rfl, Nat.le_refl _⟩, Int.le_trans (by decide) n0, Int.lt_of_lt_of_le n1 (by decide)⟩ fun k lv h ⟨n', bs', I, h1⟩ => ?_)
 refine ⟨_, h, t_of (v_not (v_cmp2 rfl (vq I.l2) rfl rfl rfl) rfl) rfl, fun q => ?_, fun q => ?_⟩
 ·obtain ⟨q1, q2⟩ := Bool.and_eq_true_iff.mp ((Bool.not_eq_false' _).mp q)
  have M := mod_ge (a := n') 128 (by decide)
  exact (I.same (sleb_low k ⟨of_decide_eq_true q1, of_decide_eq_true q2⟩)).fin S hb (v_bin (vq I.l2) rfl bi_and127) ⟨M.1, Int.lt_trans M.2 (by decide)⟩
 ·have q : ¬ (-64 <= n' /\ n' < 64) := fun z => Bool.false_ne_true (((Bool.not_eq_true' _).mp q).symm.trans (Bool.and_eq_true_iff.mpr ⟨decide_eq_true z.1, decide_eq_true z.2⟩))
  cases k with
  | zero => exact absurd h1 q
  | succ k =>
   rw [p128] at h1
   exact (I.same (sleb_high k q)).more S hb fun lv h bs'' I' => ⟨k, Nat.lt_succ_self k, _, bs'', I', s_div h1⟩
end
def pt (p : Int) : Prop := 0 <= p /\ p < 1114112 /\ ¬ (55296 <= p /\ p < 57344)
noncomputable def enc (p : Int) : List Int := sgn p (wid p)
noncomputable def encs (t : List Nat) : List Int := t.flatMap fun c : Nat => enc (c : Int)
theorem enc_range (p : Int) : ∀ x ∈ enc p, 0 <= x /\ x < 256 := sgn_range p _
theorem encs_range (t : List Nat) : ∀ x ∈ encs t, 0 <= x /\ x < 256 := fun x hx => (List.mem_flatMap.mp hx).elim fun c h => enc_range _ x h.2
theorem enc_len (p : Int) : (enc p).length <= 4 := by
 unfold enc; rw [sgn_len p (wid_le p)]; exact wid_le p
theorem encs_cons (c : Nat) (t : List Nat) : encs (c :: t) = enc c ++ encs t := List.flatMap_cons ..
theorem encs_len : ∀ t : List Nat, (encs t).length <= 4 * t.length
 | [] => Nat.le_refl 0
 | c :: r => by
  rw [encs_cons, List.length_append, List.length_cons, Nat.mul_succ, Nat.add_comm]
  exact Nat.add_le_add (encs_len r) (enc_len c)
theorem bytesOk_of {l : List Int} (h : ∀ x ∈ l, 0 <= x /\ x < 256) : bytesOk l = true :=
 List.all_eq_true.mpr fun x hx => Bool.and_eq_true_iff.mpr ⟨decide_eq_true (h x hx).1, decide_eq_true (h x hx).2⟩
theorem intsOf_map : ∀ l : List Int, intsOf (l.map .int) = some l
 | [] => rfl
 | x :: r => by
  show (intsOf (r.map .int)).map _ = _
  rw [intsOf_map r]; rfl
theorem wid1 {p : Int} (h0 : 0 <= p) (h : p < 128) : wid p = 1 := (if_neg (Int.not_lt.mpr h0)).trans (if_pos h)
theorem wid2 {p : Int} (h0 : 0 <= p) (h1 : ¬ p < 128) (h : p < 2048) : wid p = 2 := (if_neg (Int.not_lt.mpr h0)).trans ((if_neg h1).trans (if_pos h))
theorem wid3 {p : Int} (h0 : 0 <= p) (h1 : ¬ p < 128) (h2 : ¬ p < 2048) (h : p < 65536) : wid p = 3 := (if_neg (Int.not_lt.mpr h0)).trans ((if_neg h1).trans ((if_neg h2).trans (if_pos h)))
theorem wid4 {p : Int} (h0 : 0 <= p) (h1 : ¬ p < 128) (h2 : ¬ p < 2048) (h : ¬ p < 65536) : wid p = 4 := (if_neg (Int.not_lt.mpr h0)).trans ((if_neg h1).trans ((if_neg h2).trans (if_neg h)))
theorem wid_pos {p : Int} (h : 0 <= p) : 1 <= wid p := by
 by_cases h1 : p < 128
 ·rw [wid1 h h1]; decide
 by_cases h2 : p < 2048
 ·rw [wid2 h h1 h2]; decide
 by_cases h3 : p < 65536
 ·rw [wid3 h h1 h2 h3]; decide
 ·rw [wid4 h h1 h2 h3]; decide
section
variable {x : X} {lv : Loc} {hp hp' : Hp} {s b : Nat} {bs l : List Int} {d : Nat}
theorem m_bext {v : V} (h : hp[b]? = some (.ba bs)) (hm : x.hm = false) (hf : bytesFrom v hp = some l) (h1 : bs.length <= big) (h2 : l.length <= big) : callM x .bext (.ref b) [v] hp = some (.ok .none (hp.set b (.ba (bs ++ l)))) := by
 show ((hp[b]?).bind O.ba?).bind _ = _
 rw [h]
 refine (if_pos ⟨h1, hm⟩).trans ?_
 show (bytesFrom v hp).bind _ = _
 rw [hf]
 exact if_pos h2
theorem from_list {j : Nat} (h : hp[j]? = some (.list (l.map .int))) (hl : ∀ x ∈ l, 0 <= x /\ x < 256) : bytesFrom (.ref j) hp = some l := by
 show (hp[j]?).bind _ = _
 rw [h]
 show (intsOf (l.map .int)).bind _ = _
 rw [intsOf_map]
 exact if_pos (bytesOk_of hl)
theorem bi_or (x y : Int) (k : Nat) (M : Int) (hx : 0 <= x) (hy : 0 <= y) (h : y < M) (hM : M <= (2 : Int) ^ k) (hm : x % (2 : Int) ^ k = 0) : binInt .BitOr x y = some (x + y % M) := by
 rw [Int.emod_eq_of_lt hy h]; exact congrArg some (bor_low k hx hy (Int.lt_of_lt_of_le h hM) hm)
theorem bi_or64 (y : Int) : binInt .BitOr 128 (y % 64) = some (128 + y % 64) := congrArg some (bor_low 6 (by decide) (mod_ge 64 (by decide)).1 (mod_ge 64 (by decide)).2 (by decide))
def UI (hp : Hp) (t : List Nat) (r : List V) (lv : Loc) (h : Hp) : Prop := ∃ rest bs g, h = hp ++ .ba bs :: g /\ lv.lookup 28 = some (.ref hp.length) /\ r = (rest.map fun c => .str [c]) /\ bs ++ encs rest = encs t /\ (∀ c ∈ rest, pt (c : Int))
theorem ui_len {t rest : List Nat} (h : bs ++ encs rest = encs t) (ht : t.length <= 900) : bs.length <= big := by
 have h1 := congrArg List.length h
 rw [List.length_append] at h1
 exact Nat.le_trans (Nat.le.intro h1) (Nat.le_trans (encs_len t) (Nat.le_trans (Nat.mul_le_mul_left 4 ht) (by decide)))
theorem u_more {g : Hp} {t rest : List Nat} {c : Nat} {es : Es} {Q : OutS -> Prop} (hm : x.hm = false) (l2 : lv.lookup 28 = some (.ref hp.length)) (he : Evs T2 x es lv (hp ++ .ba bs :: g) ((enc c).map .int) (hp ++ .ba bs :: g)) (hq : bs ++ encs (c :: rest) = encs t) (ht : t.length <= 900) (hr : ∀ c ∈ rest, pt (c : Int)) :
  Rn T2 x (.cons (.expr (.mcall (.loc 28) 2 (.cons (.list es) .nil))) .nil) lv (hp ++ .ba bs :: g) (Turn (UI hp t (rest.map fun c => .str [c])) Q) := by
 have e4 : ((enc c).map V.int).length <= big := by rw [List.length_map]; exact Nat.le_trans (enc_len c) (by decide)
 refine r_expr (v_mcall (vq l2) (k_ba g0 rfl) (xk (v_list he e4) rfl) (m_bext (bs := bs) (l := enc c) (by rw [app2]; exact g0) hm (from_list g0 (enc_range c)) (ui_len hq ht) (Nat.le_trans (enc_len c) (by decide)))) (r_nil ⟨rest, bs ++ enc c, g ++ [.list ((enc c).map .int)], ?_, l2, rfl, ?_, hr⟩)
 ·rw [app2]; exact s0
 ·rw [encs_cons] at hq; rw [List.append_assoc]; exact hq
theorem run_utf8 (t : List Nat) (ht : ∀ c ∈ t, pt (c : Int)) (hl : t.length <= 900) : ∃ e, callF T2 (d + 1) false 23 [.str t] hp = some (.ok (.bytes (encs t)) (hp ++ e)) := by
 have hb : (encs t).length <= big := Nat.le_trans (encs_len t) (Nat.le_trans (Nat.mul_le_mul_left 4 hl) (by decide))
 have R : ∃ out, callF T2 (d + 1) false 23 [.str t] hp = some out /\ ∃ e, out = .ok (.bytes (encs t)) (hp ++ e) := by
  refine call_ex (r := P2.f23) rfl rfl (r_assign (v_call rfl rfl) (r_fori (I := fun _ => True) (UI hp t) rfl rfl rfl (gives_seq (t.map fun c => .str [c])) (by rw [List.length_map]; exact Nat.lt_of_le_of_lt hl (by decide)) (fun _ _ _ _ => trivial) ⟨t, [], [], rfl, rfl, rfl, rfl, ht⟩ (fun v r lv h I => ?_) fun lv h I => ?_))
  ·obtain ⟨rest, bs, g, rfl, l1, hr, h1, h2⟩ := I
   cases rest with
   | nil => exact nomatch hr
   | cons c rest =>
    obtain ⟨rfl, rfl⟩ := List.cons.inj hr
    obtain ⟨p0, p1, p2⟩ := h2 c List.mem_cons_self
    have hr' : ∀ c ∈ rest, pt (c : Int) := fun c hc => h2 c (List.mem_cons_of_mem _ hc)
    refine ⟨_, rfl, r_assign (v_call (xk (vq lk_same) rfl) rfl) ?_⟩
    have l2 : (setL 42 (.int c) (setL 41 (.str [c]) lv)).lookup 28 = some (.ref hp.length) := zk (by decide) (zk (by decide) l1)
    have l3 : (setL 42 (.int c) (setL 41 (.str [c]) lv)).lookup 42 = some (.int c) := lk_same
    refine r_else (t_of (v_cmp2 rfl (vq l3) rfl rfl rfl) rfl) (Bool.eq_false_iff.mpr fun z => p2 ⟨of_decide_eq_true (Bool.and_eq_true_iff.mp z).1, of_decide_eq_true (Bool.and_eq_true_iff.mp z).2⟩) ?_
    generalize setL 42 (.int c) (setL 41 (.str [c]) lv) = lv2 at l2 l3 ⊢
    refine r_ite (t_of (v_cmp (vq l3) rfl rfl) rfl) (fun q => ?_) fun q => ?_
    ·have q1 : (c : Int) < 128 := of_decide_eq_true q
     have e1 : enc c = [(c : Int)] := by unfold enc; rw [wid1 p0 q1]; show [(c : Int) % 256] = _; rw [Int.emod_eq_of_lt p0 (Int.lt_trans q1 (by decide))]
     refine r_expr (v_mcall (vq l2) (k_ba g0 rfl) (xk (vq l3) rfl) (m_bapp (T := T2) g0 (ui_len h1 hl) ⟨p0, Int.lt_trans q1 (by decide)⟩)) (r_nil ⟨rest, bs ++ enc c, g, ?_, l2, rfl, ?_, hr'⟩)
     ·rw [e1]; exact s0
     ·rw [encs_cons] at h1; rw [List.append_assoc]; exact h1
    ·have q1 := of_decide_eq_false q
     refine r_ite (t_of (v_cmp (vq l3) rfl rfl) rfl) (fun q => ?_) fun q => ?_
     ·have q2 : (c : Int) < 2048 := of_decide_eq_true q
      exact u_more rfl l2 (by
       unfold enc; rw [wid2 p0 q1 q2]
       exact xk (v_bin rfl (v_bin (vq l3) rfl bi_shr6) (bi_or 192 _ 5 32 (by decide) (Int.ediv_nonneg p0 (by decide)) (Int.ediv_lt_of_lt_mul (by decide) q2) (by decide) (by decide))) (xk (v_bin rfl (v_bin (vq l3) rfl bi_and63) (bi_or64 _)) rfl)) h1 hl hr'
     ·have q2 := of_decide_eq_false q
      refine r_ite (t_of (v_cmp (vq l3) rfl rfl) rfl) (fun q => ?_) fun q => ?_
      ·have q3 : (c : Int) < 65536 := of_decide_eq_true q
       exact u_more rfl l2 (by
        unfold enc; rw [wid3 p0 q1 q2 q3]
        exact xk (v_bin rfl (v_bin (vq l3) rfl bi_shr12) (bi_or 224 _ 4 16 (by decide) (Int.ediv_nonneg p0 (by decide)) (Int.ediv_lt_of_lt_mul (by decide) q3) (by decide) (by decide))) (xk (v_bin rfl (v_bin (v_bin (vq l3) rfl bi_shr6) rfl bi_and63) (bi_or64 _)) (xk (v_bin rfl (v_bin (vq l3) rfl bi_and63) (bi_or64 _)) rfl))) h1 hl hr'
      ·have q3 := of_decide_eq_false q
       exact u_more rfl l2 (by
        unfold enc; rw [wid4 p0 q1 q2 q3]
        exact xk (v_bin rfl (v_bin (vq l3) rfl bi_shr18) (bi_or 240 _ 3 8 (by decide) (Int.ediv_nonneg p0 (by decide)) (Int.ediv_lt_of_lt_mul (by decide) (Int.lt_trans p1 (by decide))) (by decide) (by decide))) (xk (v_bin rfl (v_bin (v_bin (vq l3) rfl bi_shr12) rfl bi_and63) (bi_or64 _)) (xk (v_bin rfl (v_bin (v_bin (vq l3) rfl bi_shr6) rfl bi_and63) (bi_or64 _)) (xk (v_bin rfl (v_bin (vq l3) rfl bi_and63) (bi_or64 _)) rfl)))) h1 hl hr'
  ·obtain ⟨rest, bs, g, rfl, l1, hr, h1, h2⟩ := I
   cases rest with
   | cons c r => exact nomatch hr
   | nil =>
    obtain rfl : bs = encs t := (List.append_nil bs).symm.trans h1
    exact r_ret (v_call (xk (vq l1) rfl) (v := .bytes (encs t)) (by
     show (bytesFrom (.ref hp.length) (hp ++ _ :: g)).bind _ = _
     rw [show bytesFrom (.ref hp.length) (hp ++ .ba (encs t) :: g) = some (encs t) by show ((hp ++ .ba (encs t) :: g)[hp.length]?).bind _ = _; rw [g0]; rfl]
     exact if_pos hb)) ⟨_, rfl⟩
 obtain ⟨out, e, g, rfl⟩ := R
 exact ⟨g, e⟩
end
section
variable {x : X} {lv : Loc} {hp h h' : Hp} {s b s2 b2 : Nat} {bs bs2 l : List Int} {d : Nat}
theorem from_bytes : bytesFrom (.bytes l) hp = some l := rfl
theorem v_put {a : E} {v : V} (S : Sink h s b bs) (hm : x.hm = false) (l0 : lv.lookup 0 = some (.ref s)) (ha : Ev T2 x a lv h v h) (hf : bytesFrom v h = some l) (h1 : bs.length <= 50000) (h2 : l.length <= 50000) : Ev T2 x (.mcall (.attr (.loc 0) 7) 2 (.cons a .nil)) lv h .none (h.set b (.ba (bs ++ l))) :=
 v_mcall (v_attr (vq l0) S.1 rfl rfl) (k_ba S.2 rfl) (xk ha rfl) (m_bext S.2 hm hf (Nat.le_trans h1 (by decide)) (Nat.le_trans h2 (by decide)))
theorem run_sink_put (S : Sink hp s b bs) (hb : bs.length <= 40000) (hl : l.length <= 40000) : callF T2 (d + 1) false 17 [.ref s, .bytes l] hp = some (.ok .none (hp.set b (.ba (bs ++ l)))) :=
 call_rn (r := P2.f17) rfl rfl (r_expr (v_put S rfl rfl rfl from_bytes (Nat.le_trans hb (by decide)) (Nat.le_trans hl (by decide))) (r_nil rfl))
theorem k_meth {c n f : Nat} {fs : List (Nat × V)} {i : Nat} (h : hp[i]? = some (.inst c fs)) (q : T2.meth c n = some f) (g : getF fs n = none) : findK T2 (.ref i) n hp = some (.fn f) := by
 show (hp[i]?).bind _ = _
 rw [h]
 show (T2.meth c n).bind _ = _
 rw [q]
 exact if_pos (by rw [g]; rfl)
theorem v_unsigned {a : E} (S : Sink h s b bs) (S' : Sink h' s b bs) (l0 : lv.lookup 0 = some (.ref s)) {n : Int} (ha : Ev T2 ⟨false, callF T2 (d + 1)⟩ a lv h (.int n) h') (hb : bs.length <= 40000) (n0 : 0 <= n) (n1 : n < 18446744073709551616) :
  Ev T2 ⟨false, callF T2 (d + 1)⟩ (.mcall (.loc 0) 15 (.cons a .nil)) lv h .none (h'.set b (.ba (bs ++ uleb 9 n))) :=
 v_mcall (vq l0) (k_meth S.1 rfl rfl) (xk ha rfl) (run_sink_unsigned S' hb n0 n1)
theorem run_sink_many (S : Sink hp s b bs) (hb : bs.length <= 40000) {n : Int} (n0 : 0 <= n) (n1 : n < 18446744073709551616) : callF T2 (d + 2) false 20 [.ref s, .int n] hp = some (.ok .none (hp.set b (.ba (bs ++ uleb 9 n)))) :=
 call_rn (r := P2.f20) rfl rfl (r_expr (v_unsigned S S rfl rfl hb n0 n1) (r_nil rfl))
theorem uleb_len : ∀ (f : Nat) (n : Int), (uleb f n).length <= f + 1
 | 0, _ => Nat.le_refl 1
 | f + 1, n => by
  by_cases q : n < 128
  ·rw [uleb_low (f + 1) q]; exact Nat.le_add_left 1 (f + 1)
  ·rw [uleb_high f q]; exact Nat.succ_le_succ (uleb_len f (n / 128))
theorem sizes {a c : Nat} (h : a <= 30000) (u : List Int) (hu : u.length <= 10) {bs : List Int} (hb : bs.length = a) : (bs ++ u).length <= 50000 := by rw [List.length_append]; omega
theorem nat_num {k m : Nat} (h : k <= m) (hm : (m : Int) < 18446744073709551616) : 0 <= (k : Int) /\ (k : Int) < 18446744073709551616 := ⟨Int.natCast_nonneg k, Int.lt_of_le_of_lt (Int.ofNat_le.mpr h) hm⟩
theorem c_lenB (q : l.length <= huge) {T : Tab} : callG T x (.bi .len) [.bytes l] hp = some (.ok (.int l.length) hp) := if_pos q
theorem c_lenA {T : Tab} {i : Nat} (h : hp[i]? = some (.ba l)) (q : l.length <= huge) : callG T x (.bi .len) [.ref i] hp = some (.ok (.int l.length) hp) := by
 show (hp[i]?.bind lenOf').bind _ = _
 rw [h]
 exact if_pos q
theorem run_sink_name (S : Sink hp s b bs) (hb : bs.length <= 30000) {t : List Nat} (ht : ∀ c ∈ t, pt (c : Int)) (hl : t.length <= 900) : ∃ e, callF T2 (d + 2) false 21 [.ref s, .str t] hp = some (.ok .none (hp.set b (.ba (bs ++ uleb 9 (encs t).length ++ encs t)) ++ e)) := by
 obtain ⟨e, hu⟩ := run_utf8 (hp := hp) (d := d) t ht hl
 have el : (encs t).length <= 3600 := Nat.le_trans (encs_len t) (Nat.mul_le_mul_left 4 hl)
 have N := nat_num el (by decide)
 have S1 := S.app e
 have S2 := S1.set (bs ++ uleb 9 (encs t).length)
 refine ⟨e, call_rn (r := P2.f21) rfl rfl (r_assign (v_call rfl hu) (r_expr (v_unsigned S1 S1 (zk (by decide) rfl) (v_call (xk (vq lk_same) rfl) (c_lenB (Nat.le_trans el (by decide)))) (Nat.le_trans hb (by decide)) N.1 N.2) (r_expr (v_put S2 rfl (zk (by decide) rfl) (vq lk_same) from_bytes (sizes (c := 0) hb _ (uleb_len 9 _) rfl) (Nat.le_trans el (by decide))) (r_nil ?_))))⟩
 show Out.ok V.none _ = _
 rw [List.set_set, setOld S.2]
theorem run_sink_sized (S : Sink hp s b bs) (S2 : Sink hp s2 b2 bs2) (hne : b2 ≠ b) (hb : bs.length <= 30000) (hb2 : bs2.length <= 30000) : callF T2 (d + 2) false 22 [.ref s, .ref s2] hp = some (.ok .none (hp.set b (.ba (bs ++ uleb 9 bs2.length ++ bs2)))) := by
 have N := nat_num hb2 (by decide)
 have S3 := S.set (bs ++ uleb 9 bs2.length)
 have ne2 : b ≠ s2 := fun q => by
  have e := S2.1
  rw [<- q, S.2] at e; exact nomatch Option.some.inj e
 have o2 : (hp.set b (.ba (bs ++ uleb 9 bs2.length)))[s2]? = some (.inst 1 [(7, .ref b2)]) := by rw [List.getElem?_set_ne ne2]; exact S2.1
 have o3 : (hp.set b (.ba (bs ++ uleb 9 bs2.length)))[b2]? = some (.ba bs2) := by rw [List.getElem?_set_ne (Ne.symm hne)]; exact S2.2
 refine call_rn (r := P2.f22) rfl rfl (r_expr (v_unsigned S S rfl (v_call (xk (v_attr rfl S2.1 rfl rfl) rfl) (c_lenA S2.2 (Nat.le_trans hb2 (by decide)))) (Nat.le_trans hb (by decide)) N.1 N.2) (r_expr (v_put (v := .ref b2) (l := bs2) S3 rfl rfl (v_attr rfl o2 rfl rfl) (by
  show ((hp.set b (.ba (bs ++ uleb 9 bs2.length)))[b2]?).bind _ = _
  rw [o3]; rfl) (sizes (c := 0) hb _ (uleb_len 9 _) rfl) (Nat.le_trans hb2 (by decide))) (r_nil ?_)))
 show Out.ok V.none _ = _
 rw [List.set_set]
theorem new_sink : callG T2 ⟨false, callF T2 (d + 1)⟩ (.cls 1) [] hp = some (.ok (.ref hp.length) (hp ++ [.inst 1 [(7, .ref (hp.length + 1))], .ba []])) := by
 have h1 : callF T2 (d + 1) false 15 [.ref hp.length] (hp ++ [.inst 1 []]) = some (.ok .none (hp ++ [.inst 1 [(7, .ref (hp.length + 1))], .ba []])) := by
  refine call_rn (r := P2.f15) rfl rfl (r_attr (c := 1) (fs := []) (v_call rfl rfl) rfl (by rw [app2]; exact g0) (by decide) (r_nil ?_))
  show Out.ok V.none (((hp ++ [O.inst 1 []]) ++ [O.ba []]).set hp.length (.inst 1 [(7, .ref (hp ++ [O.inst 1 []]).length)])) = _
  rw [app2]
  refine congrArg _ (s0.trans ?_)
  rw [List.length_append]; rfl
 show (okOf (callF T2 (d + 1) false 15 [.ref hp.length] (hp ++ [.inst 1 []]))).bind _ = _
 rw [h1]; rfl
end
noncomputable def ptB (p : Int) : Bool := decide (p < 1114112) && !(decide (55296 <= p) && decide (p < 57344))
theorem pt_of {p : Int} (h0 : 0 <= p) (h : ptB p = true) : pt p := by
 obtain ⟨h1, h2⟩ := Bool.and_eq_true_iff.mp h
 exact ⟨h0, of_decide_eq_true h1, fun z => Bool.false_ne_true (((Bool.not_eq_true' _).mp h2).symm.trans (Bool.and_eq_true_iff.mpr ⟨decide_eq_true z.1, decide_eq_true z.2⟩))⟩
section
variable {x : X} {lv : Loc} {hp h h' : Hp} {d : Nat}
theorem m_lext {i j : Nat} {us ws : List V} (hi : hp[i]? = some (.list us)) (hj : hp[j]? = some (.list ws)) (h0 : i ≠ 0) (h1 : us.length <= big) (h2 : ws.length <= big) : callM x .lext (.ref i) [.ref j] hp = some (.ok .none (hp.set i (.list (us ++ ws)))) := by
 show (listAt i hp).bind _ = _
 rw [list_of hi]
 show (listAt j hp).bind _ = _
 rw [list_of hj]
 exact if_pos ⟨h1, h2, h0⟩
theorem m_lapp {i : Nat} {us : List V} {v : V} (hi : hp[i]? = some (.list us)) (h0 : i ≠ 0) (h1 : us.length <= big) : callM x .lapp (.ref i) [v] hp = some (.ok .none (hp.set i (.list (us ++ [v])))) := by
 show (listAt i hp).bind _ = _
 rw [list_of hi]
 exact if_pos ⟨h1, h0⟩
theorem k_list {T : Tab} {i n : Nat} {k : MK} {us : List V} (h : hp[i]? = some (.list us)) (q : findL T.N n = some k) : findK T (.ref i) n hp = some k := by
 show (hp[i]?).bind _ = _
 rw [h]; exact q
theorem v_lext {o a : E} {i j : Nat} {us ws : List V} (ho : Ev T2 x o lv h (.ref i) h) (hi : h[i]? = some (.list us)) (ha : Ev T2 x a lv h (.ref j) h') (hi' : h'[i]? = some (.list us)) (hj : h'[j]? = some (.list ws))
  (h0 : i ≠ 0) (h1 : us.length <= 50000) (h2 : ws.length <= 50000) : Ev T2 x (.mcall o 2 (.cons a .nil)) lv h .none (h'.set i (.list (us ++ ws))) :=
 v_mcall ho (k_list hi rfl) (xk ha rfl) (m_lext hi' hj h0 (Nat.le_trans h1 (by decide)) (Nat.le_trans h2 (by decide)))
theorem strsOf_map : ∀ t : List Nat, strsOf (t.map fun c => .str [c]) = some (t.map fun c => [c])
 | [] => rfl
 | c :: r => by
  show (strsOf (r.map fun c => .str [c])).map _ = _
  rw [strsOf_map r]; rfl
theorem flat1 : ∀ t : List Nat, (t.map fun c => [c]).flatten = t
 | [] => rfl
 | c :: r => by rw [List.map_cons, List.flatten_cons, flat1 r]; rfl
theorem v_join {a : E} {j : Nat} {t : List Nat} (ha : Ev T2 x a lv h (.ref j) h') (hj : h'[j]? = some (.list (t.map fun c => .str [c]))) (hl : t.length <= 50000) : Ev T2 x (.mcall (.str []) 4 (.cons a .nil)) lv h (.str t) h' := by
 refine v_mcall (mk := .join) rfl rfl (xk ha rfl) ?_
 have hb : t.length <= big := Nat.le_trans hl (by decide)
 show ((listAt j h').bind strsOf).bind _ = _
 rw [list_of hj]
 show (strsOf (t.map fun c => .str [c])).bind _ = _
 rw [strsOf_map]
 show (if _ then some (Out.ok (V.str (t.map fun c => [c]).flatten) h') else none) = _
 rw [flat1]
 exact if_pos ⟨hb, by rw [List.length_map]; exact hb⟩
end
section
variable {x : X} {lv : Loc} {h : Hp} {d : Nat}
end
theorem sleb_len : ∀ (f : Nat) (n : Int), (sleb f n).length <= f + 1
 | 0, _ => Nat.le_refl 1
 | f + 1, n => by
  by_cases q : -64 <= n /\ n < 64
  ·rw [sleb_low (f + 1) q]; exact Nat.le_add_left 1 (f + 1)
  ·rw [sleb_high f q]; exact Nat.succ_le_succ (sleb_len f (n / 128))
theorem oct_one {y : Int} (h : 0 <= y /\ y < 256) : ∀ x ∈ [y], 0 <= x /\ x < 256 := fun x hx => List.mem_singleton.mp hx ▸ h
theorem oct_cons {y : Int} {l : List Int} (h : 0 <= y /\ y < 256) (k : ∀ x ∈ l, 0 <= x /\ x < 256) : ∀ x ∈ y :: l, 0 <= x /\ x < 256 := fun x hx => (List.mem_cons.mp hx).elim (fun e => e ▸ h) (k x)
theorem oct_app {l r : List Int} (h : ∀ x ∈ l, 0 <= x /\ x < 256) (k : ∀ x ∈ r, 0 <= x /\ x < 256) : ∀ x ∈ l ++ r, 0 <= x /\ x < 256 := fun x hx => (List.mem_append.mp hx).elim (h x) (k x)
theorem oct_mod {m : Int} (y : Int) (h0 : 0 < m) (h : m <= 256) : 0 <= y % m /\ y % m < 256 := ⟨(mod_ge m h0).1, Int.lt_of_lt_of_le (mod_ge m h0).2 h⟩
theorem oct_more (n : Int) : 0 <= n % 128 + 128 /\ n % 128 + 128 < 256 := by
 have := mod_ge (a := n) 128 (by decide)
 omega
theorem uleb_range : ∀ (f : Nat) (n : Int), 0 <= n -> n < (128 : Int) ^ (f + 1) -> ∀ x ∈ uleb f n, 0 <= x /\ x < 256
 | 0, n, h0, h1 => oct_one ⟨h0, Int.lt_trans (show n < 128 from h1) (by decide)⟩
 | f + 1, n, h0, h1 => by
  by_cases q : n < 128
  ·rw [uleb_low (f + 1) q]; exact oct_one ⟨h0, Int.lt_trans q (by decide)⟩
  ·rw [p128] at h1
   have D := div_bounds (Int.not_lt.mp q) h1
   rw [uleb_high f q]; exact oct_cons (oct_more n) (uleb_range f (n / 128) D.1 D.2)
theorem sleb_range : ∀ (f : Nat) (n : Int), ∀ x ∈ sleb f n, 0 <= x /\ x < 256
 | 0, n => oct_one (oct_mod n (by decide) (by decide))
 | f + 1, n => by
  by_cases q : -64 <= n /\ n < 64
  ·rw [sleb_low (f + 1) q]; exact oct_one (oct_mod n (by decide) (by decide))
  ·rw [sleb_high f q]; exact oct_cons (oct_more n) (sleb_range f (n / 128))
section
variable {x : X} {lv : Loc} {h h1 h2 : Hp} {d : Nat} {a c o : E} {n : Int} {i j : Nat} {us ws : List V}
theorem v_addL (ha : Ev T2 x a lv h (.ref i) h1) (hc : Ev T2 x c lv h1 (.ref j) h2) (hi : h2[i]? = some (.list us)) (hj : h2[j]? = some (.list ws)) (hl : us.length + ws.length <= 50000) :
  Ev T2 x (.bin .Add a c) lv h (.ref h2.length) (h2 ++ [.list (us ++ ws)]) := v_add ha hc (list_of hi) (list_of hj) (Nat.le_trans hl (by decide))
theorem v_smeth {m f s b : Nat} {bs : List Int} {v w : V} (ho : Ev T2 x o lv h (.ref s) h) (S : Sink h s b bs) (hm : T2.meth 1 m = some f) (h7 : getF [(7, .ref b)] m = none) (ha : Ev T2 x a lv h v h1) (hr : x.call x.hm f [.ref s, v] h1 = some (.ok w h2)) :
  Ev T2 x (.mcall o m (.cons a .nil)) lv h w h2 := v_mcall ho (k_meth S.1 hm h7) (xk ha rfl) hr
end
section
variable {hp h : Hp} {oi : Nat} {B : List Int} {s2 b2 : Nat} {I : List Int} {s1 b1 : Nat} {Cn : List Int}
end
noncomputable def dropS : Nat -> Ss -> Ss
 | 0, ss => ss
 | n + 1, ss => match ss with
  | .nil => .nil
  | .cons _ r => dropS n r
section
variable {x : X} {lv : Loc} {h : Hp} {d : Nat} {a c : E} {n : Int} {L L' l : List Int} {ss : Ss} {Q : OutS -> Prop} {y k : Nat}
theorem c_bytes {T : Tab} {v : V} (q : bytesFrom v h = some l) (hl : l.length <= big) : callG T x (.bi .bytes) [v] h = some (.ok (.bytes l) h) := by
 show (bytesFrom v h).bind _ = _
 rw [q]
 exact if_pos hl
theorem from_ba {b : Nat} (q : h[b]? = some (.ba l)) : bytesFrom (.ref b) h = some l := by
 show (h[b]?).bind _ = _
 rw [q]; rfl
theorem v_sameB {h1 h2 : Hp} (A : Ev T2 x a lv h (.bytes l) h1) (B : Ev T2 x c lv h1 (.bytes l) h2) : Ev T2 x (.cmp .Eq a c) lv h (.bool true) h2 := v_cmp A B (by
 show some (Out.ok (V.bool (l == l)) h2) = _
 rw [beq_self_eq_true])
end
theorem bi_pow64 : binInt .Pow 2 64 = some 18446744073709551616 := by decide +kernel
section
variable {hp h : Hp} {oi s2 b2 d : Nat} {B I t' : List Int} {F W : Int} {t : List Nat} {lv : Loc}
theorem t_conds {x : X} {T : Tab} {e : E} {c : Bool} {hp : Hp} (h : Tr T x e lv hp c hp) : evT T x (.cons e .nil) lv hp = some (.ok c hp) := (b_ok h).trans (by
 show (if c = true then P.ret true else P.ret false : P Bool) hp = _
 cases c <;> rfl)
theorem it_list {i : Nat} {vs : List V} (h0 : hp[i]? = some (.list vs)) : itOf (.ref i) hp = some (.ok (.list i 0) hp) := by
 show (listAt i hp).map _ = _
 rw [list_of h0]; rfl
end
noncomputable def fold6 (p : Int) (l : List Int) : Int := l.foldl (fun p o => p * 64 + o % 64) p
noncomputable def contsOk (l : List Int) : Bool := l.all fun o => decide (128 <= o) && decide (o < 192)
def cls (o : Int) : Nat := if o < 128 then 1 else if 192 <= o /\ o < 224 then 2 else if 224 <= o /\ o < 240 then 3 else if 240 <= o /\ o < 248 then 4 else 0
def modW : Nat -> Int
 | 1 => 128
 | 2 => 32
 | 3 => 16
 | _ => 8
def leastW : Nat -> Int
 | 1 => 0
 | 2 => 128
 | 3 => 2048
 | _ => 65536
def baseW : Nat -> Int
 | 1 => 0
 | 2 => 192
 | 3 => 224
 | _ => 240
noncomputable def pW (l : List Int) (w : Nat) : Int := fold6 (l.headD 0 % modW w) ((l.take w).drop 1)
noncomputable def badPt (q least : Int) : Bool := decide (q < least) || (decide (1114111 < q) || (decide (55296 <= q) && decide (q < 57344)))
noncomputable def okW (l : List Int) (w : Nat) : Bool := ptB (pW l w) && (wid (pW l w) == w && sgn (pW l w) w == l.take w)
abbrev FitsT (o : Int) (r : List Int) (w : Nat) : Prop := w <= r.length + 1 /\ contsOk (r.take (w - 1)) = true /\ badPt (pW (o :: r) w) (leastW w) = false
theorem cls_le (o : Int) : cls o <= 4 := by
 unfold cls
 split
 ·decide
 split
 ·decide
 split
 ·decide
 split <;> decide
theorem modW_pos (w : Nat) : 0 < modW w /\ modW w <= 128 := by
 unfold modW
 split <;> decide
theorem cls_iff : ∀ (o : Fin 256) (w : Fin 4), (baseW (w.val + 1) + (o.val : Int) % modW (w.val + 1) = o.val) ↔ cls (o.val : Int) = w.val + 1 := by decide +kernel
theorem cls_of {o : Int} (h : 0 <= o /\ o < 256) {k : Nat} (hk : k < 4) : (baseW (k + 1) + o % modW (k + 1) = o) ↔ cls o = k + 1 := by
 obtain ⟨n, rfl⟩ := Int.eq_ofNat_of_zero_le h.1
 exact cls_iff ⟨n, Int.ofNat_lt.mp h.2⟩ ⟨k, hk⟩
theorem cont_iff : ∀ o : Fin 256, (128 + (o.val : Int) % 64 = o.val) ↔ (128 <= (o.val : Int) /\ (o.val : Int) < 192) := by decide +kernel
theorem cont_of {o : Int} (h : 0 <= o /\ o < 256) : (128 + o % 64 = o) ↔ (128 <= o /\ o < 192) := by
 obtain ⟨n, rfl⟩ := Int.eq_ofNat_of_zero_le h.1
 exact cont_iff ⟨n, Int.ofNat_lt.mp h.2⟩
theorem conts_map : ∀ {l : List Int}, (∀ x ∈ l, 0 <= x /\ x < 256) -> (l.map (fun a => 128 + a % 64) = l ↔ contsOk l = true)
 | [], _ => ⟨fun _ => rfl, fun _ => rfl⟩
 | a :: l, h => by
  have ih := conts_map fun x hx => h x (List.mem_cons_of_mem _ hx)
  have ha := cont_of (h a List.mem_cons_self)
  rw [List.map_cons, List.cons.injEq, ih, ha]
  show _ ↔ ((decide (128 <= a) && decide (a < 192)) && contsOk l) = true
  rw [Bool.and_eq_true, Bool.and_eq_true, decide_eq_true_iff, decide_eq_true_iff]
theorem dv (p a : Int) : (p * 64 + a % 64) / 64 = p := by
 rw [Int.add_comm, Int.add_mul_ediv_right _ _ (by decide), Int.ediv_eq_zero_of_lt (mod_ge 64 (by decide)).1 (mod_ge 64 (by decide)).2, Int.zero_add]
theorem md (p a : Int) : (p * 64 + a % 64) % 64 = a % 64 := by
 rw [Int.add_comm, Int.add_mul_emod_self_right, Int.emod_emod_of_dvd _ (Int.dvd_refl 64)]
theorem d2 (y : Int) : y / 4096 = y / 64 / 64 := (Int.ediv_ediv_of_nonneg (x := y) (y := 64) (z := 64) (by decide)).symm
theorem d3 (y : Int) : y / 262144 = y / 64 / 64 / 64 := by rw [<- d2, Int.ediv_ediv_of_nonneg (by decide)]; rfl
theorem sgn_fold {o : Int} : ∀ {k : Nat} (cs : List Int), cs.length = k -> k < 4 -> sgn (fold6 (o % modW (k + 1)) cs) (k + 1) = (baseW (k + 1) + o % modW (k + 1)) :: cs.map fun a => 128 + a % 64
 | 0, [], _, _ => by
  show [o % 128 % 256] = [0 + o % 128]
  rw [Int.zero_add, Int.emod_eq_of_lt (mod_ge 128 (by decide)).1 (Int.lt_trans (mod_ge 128 (by decide)).2 (by decide))]
 | 1, [a], _, _ => by
  show [192 + (o % 32 * 64 + a % 64) / 64 % 32, 128 + (o % 32 * 64 + a % 64) % 64] = [192 + o % 32, 128 + a % 64]
  rw [dv, md, Int.emod_emod_of_dvd _ (Int.dvd_refl 32)]
 | 2, [a, b], _, _ => by
  show [224 + ((o % 16 * 64 + a % 64) * 64 + b % 64) / 4096 % 16, 128 + ((o % 16 * 64 + a % 64) * 64 + b % 64) / 64 % 64, 128 + ((o % 16 * 64 + a % 64) * 64 + b % 64) % 64] = [224 + o % 16, 128 + a % 64, 128 + b % 64]
  rw [d2, dv, md, dv, md, Int.emod_emod_of_dvd _ (Int.dvd_refl 16)]
 | 3, [a, b, c], _, _ => by
  show [240 + (((o % 8 * 64 + a % 64) * 64 + b % 64) * 64 + c % 64) / 262144 % 8, 128 + (((o % 8 * 64 + a % 64) * 64 + b % 64) * 64 + c % 64) / 4096 % 64, 128 + (((o % 8 * 64 + a % 64) * 64 + b % 64) * 64 + c % 64) / 64 % 64, 128 + (((o % 8 * 64 + a % 64) * 64 + b % 64) * 64 + c % 64) % 64] = [240 + o % 8, 128 + a % 64, 128 + b % 64, 128 + c % 64]
  rw [d3, d2, dv, md, dv, md, dv, md, Int.emod_emod_of_dvd _ (Int.dvd_refl 8)]
 | _ + 4, _, _, h => absurd h (by omega)
theorem fold6_range : ∀ (r : List Int) (p : Int), 0 <= p -> 0 <= fold6 p r /\ fold6 p r < (p + 1) * (64 : Int) ^ r.length
 | [], p, h => ⟨h, by show p < (p + 1) * 1; omega⟩
 | a :: r, p, h => by
  have M := mod_ge (a := a) 64 (by decide)
  have ih := fold6_range r (p * 64 + a % 64) (by omega)
  refine ⟨ih.1, Int.lt_of_lt_of_le ih.2 ?_⟩
  rw [List.length_cons, Int.pow_succ, Int.mul_comm ((64 : Int) ^ r.length), <- Int.mul_assoc]
  exact Int.mul_le_mul_of_nonneg_right (by omega) (Int.le_of_lt (Int.pow_pos (by decide)))
theorem fold6_lt {o : Int} {k : Nat} {cs : List Int} (h : cs.length = k) : 0 <= fold6 (o % modW (k + 1)) cs /\ fold6 (o % modW (k + 1)) cs < modW (k + 1) * (64 : Int) ^ k := by
 have M := mod_ge (a := o) (modW (k + 1)) (modW_pos _).1
 have F := fold6_range cs _ M.1
 rw [h] at F
 exact ⟨F.1, Int.lt_of_lt_of_le F.2 (Int.mul_le_mul_of_nonneg_right (Int.add_one_le_iff.mpr M.2) (Int.le_of_lt (Int.pow_pos (by decide))))⟩
theorem wid_least {y : Int} {k : Nat} (hk : k < 4) (h0 : 0 <= y) (h : y < modW (k + 1) * (64 : Int) ^ k) : wid y = k + 1 ↔ leastW (k + 1) <= y := by
 match k, hk with
 | 0, _ => exact ⟨fun _ => h0, fun _ => wid1 h0 h⟩
 | 1, _ =>
  have h : y < 2048 := h
  by_cases q : y < 128
  ·rw [wid1 h0 q]; exact ⟨(fun z => nomatch z), fun z => absurd q (Int.not_lt.mpr z)⟩
  ·rw [wid2 h0 q h]; exact ⟨fun _ => Int.not_lt.mp q, fun _ => rfl⟩
 | 2, _ =>
  have h : y < 65536 := h
  by_cases q : y < 128
  ·rw [wid1 h0 q]; exact ⟨(fun z => nomatch z), fun z => absurd (Int.lt_trans q (by decide)) (Int.not_lt.mpr z)⟩
  by_cases q2 : y < 2048
  ·rw [wid2 h0 q q2]; exact ⟨(fun z => nomatch z), fun z => absurd q2 (Int.not_lt.mpr z)⟩
  ·rw [wid3 h0 q q2 h]; exact ⟨fun _ => Int.not_lt.mp q2, fun _ => rfl⟩
 | 3, _ =>
  by_cases q : y < 128
  ·rw [wid1 h0 q]; exact ⟨(fun z => nomatch z), fun z => absurd (Int.lt_trans q (by decide)) (Int.not_lt.mpr z)⟩
  by_cases q2 : y < 2048
  ·rw [wid2 h0 q q2]; exact ⟨(fun z => nomatch z), fun z => absurd (Int.lt_trans q2 (by decide)) (Int.not_lt.mpr z)⟩
  by_cases q3 : y < 65536
  ·rw [wid3 h0 q q2 q3]; exact ⟨(fun z => nomatch z), fun z => absurd q3 (Int.not_lt.mpr z)⟩
  ·rw [wid4 h0 q q2 q3]; exact ⟨fun _ => Int.not_lt.mp q3, fun _ => rfl⟩
theorem bad_iff (y least : Int) : badPt y least = false ↔ ptB y = true /\ least <= y := by
 have e : (decide (1114111 < y) = false) ↔ (decide (y < 1114112) = true) := by
  rw [decide_eq_false_iff_not, decide_eq_true_iff]; omega
 unfold badPt ptB
 rw [Bool.or_eq_false_iff, Bool.or_eq_false_iff, Bool.and_eq_true, Bool.not_eq_true', decide_eq_false_iff_not, e, Int.not_lt]
 exact And.comm
theorem okW_iff {o : Int} {r : List Int} (hr : ∀ x ∈ o :: r, 0 <= x /\ x < 256) {w : Nat} (h1 : 1 <= w) (h4 : w <= 4) : okW (o :: r) w = true ↔ cls o = w /\ FitsT o r w := by
 obtain ⟨k, rfl⟩ : ∃ k, w = k + 1 := ⟨w - 1, (Nat.sub_add_cancel h1).symm⟩
 have hy : pW (o :: r) (k + 1) = fold6 (o % modW (k + 1)) (r.take k) := rfl
 unfold okW FitsT
 rw [Bool.and_eq_true, Bool.and_eq_true, beq_iff_eq, beq_iff_eq, hy, bad_iff, List.take_succ_cons]
 by_cases q : k <= r.length
 ·have hl : (r.take k).length = k := by rw [List.length_take]; exact Nat.min_eq_left q
  have F := fold6_lt (o := o) hl
  rw [sgn_fold (r.take k) hl h4, List.cons.injEq, cls_of (hr o List.mem_cons_self) h4, conts_map fun x hx => hr x (List.mem_cons_of_mem _ (List.mem_of_mem_take hx)), wid_least h4 F.1 F.2]
  exact ⟨fun ⟨a, b, c, d⟩ => ⟨c, Nat.succ_le_succ q, d, a, b⟩, fun ⟨c, _, d, a, b⟩ => ⟨a, b, c, d⟩⟩
 ·refine ⟨fun ⟨_, _, z⟩ => ?_, fun ⟨_, z, _⟩ => absurd (Nat.le_of_succ_le_succ z) q⟩
  have z := congrArg List.length z
  rw [sgn_len _ h4, List.length_cons, List.length_take] at z
  exact absurd (Nat.succ.inj z ▸ Nat.min_le_right k r.length) q
noncomputable def sgnT : List Int -> Option (Int × Nat)
 | [] => none
 | o :: r => if 1 <= cls o /\ FitsT o r (cls o) then some (pW (o :: r) (cls o), cls o) else none
noncomputable def textS : Nat -> List Int -> Option (List Nat)
 | 0, l => if l = [] then some [] else none
 | k + 1, l => if l = [] then some [] else (sgnT l).bind fun q => (textS k (l.drop q.2)).map (q.1.toNat :: ·)
theorem sgnT_some {o : Int} {r : List Int} {q : Int} {n : Nat} (h : sgnT (o :: r) = some (q, n)) : n = cls o /\ 1 <= cls o /\ FitsT o r (cls o) /\ q = pW (o :: r) (cls o) := by
 by_cases z : 1 <= cls o /\ FitsT o r (cls o)
 ·have h : (if 1 <= cls o /\ FitsT o r (cls o) then some (pW (o :: r) (cls o), cls o) else none) = some (q, n) := h
  rw [if_pos z] at h
  have h := Prod.mk.inj (Option.some.inj h)
  exact ⟨h.2.symm, z.1, z.2, h.1.symm⟩
 ·exact nq ((if_neg z).symm.trans h)
theorem sgnT_pos {l : List Int} {q : Int} {n : Nat} (h : sgnT l = some (q, n)) : 1 <= n /\ n <= l.length /\ n <= 4 := by
 cases l with
 | nil => exact nq h
 | cons o r =>
  obtain ⟨rfl, h1, h2, _⟩ := sgnT_some h
  exact ⟨h1, h2.1, cls_le o⟩
theorem textS_nil (k : Nat) : textS k [] = some [] := by
 cases k <;> exact if_pos rfl
theorem textS_cons (k : Nat) (o : Int) (r : List Int) : textS (k + 1) (o :: r) = (sgnT (o :: r)).bind fun q => (textS k ((o :: r).drop q.2)).map (q.1.toNat :: ·) := if_neg (List.cons_ne_nil _ _)
theorem textS_fuel : ∀ (k : Nat) (l : List Int), l.length <= k -> textS k l = textS l.length l := by
 intro k
 induction k using Nat.strongRecOn with
 | ind k ih =>
  intro l hl
  cases l with
  | nil => rw [textS_nil, textS_nil]
  | cons o r =>
   cases k with
   | zero => exact absurd hl (Nat.not_succ_le_zero _)
   | succ k =>
    rw [List.length_cons, textS_cons, textS_cons]
    cases hs : sgnT (o :: r) with
    | none => rfl
    | some qn =>
     have hp := sgnT_pos (q := qn.1) (n := qn.2) hs
     have hl : r.length <= k := Nat.le_of_succ_le_succ hl
     have hd : ((o :: r).drop qn.2).length <= r.length := by
      rw [List.length_drop, List.length_cons]
      exact Nat.sub_le_of_le_add (Nat.add_le_add_left hp.1 _)
     show Option.map _ (textS k _) = Option.map _ (textS r.length _)
     rw [ih k (Nat.lt_succ_self k) _ (Nat.le_trans hd hl)]
     by_cases z : r.length = k
     ·rw [z, ih k (Nat.lt_succ_self k) _ (Nat.le_trans hd hl)]
     ·rw [ih r.length (Nat.lt_succ_of_le hl) _ hd]
theorem step_pt {o : Int} {r : List Int} {q : Int} {n : Nat} (h : sgnT (o :: r) = some (q, n)) : pt q /\ wid q = n := by
 obtain ⟨rfl, h1, h2, rfl⟩ := sgnT_some h
 obtain ⟨k, hk⟩ : ∃ k, cls o = k + 1 := ⟨cls o - 1, (Nat.sub_add_cancel h1).symm⟩
 have h4 : k < 4 := by have := cls_le o; rw [hk] at this; exact this
 rw [hk] at h2 ⊢
 have hl : (r.take k).length = k := by rw [List.length_take]; exact Nat.min_eq_left (Nat.le_of_succ_le_succ h2.1)
 have F := fold6_lt (o := o) hl
 obtain ⟨b1, b2⟩ := (bad_iff _ _).mp h2.2.2
 exact ⟨pt_of F.1 b1, (wid_least h4 F.1 F.2).mpr b2⟩
noncomputable def malf : List Nat := [109, 97, 108, 102, 111, 114, 109, 101, 100, 32, 85, 84, 70, 45, 56, 32, 101, 110, 99, 111, 100, 105, 110, 103]
noncomputable def ex0 (w : List Nat) (a : Int) : O := .exc 0 [(5, .str w), (6, .int a)]
theorem cls1 {o : Int} (h : o < 128) : cls o = 1 := if_pos h
theorem cls2 {o : Int} (h : ¬ o < 128) (k : 192 <= o /\ o < 224) : cls o = 2 := (if_neg h).trans (if_pos k)
theorem cls3 {o : Int} (h : ¬ o < 128) (k : ¬ (192 <= o /\ o < 224)) (l : 224 <= o /\ o < 240) : cls o = 3 := (if_neg h).trans ((if_neg k).trans (if_pos l))
theorem cls4 {o : Int} (h : ¬ o < 128) (k : ¬ (192 <= o /\ o < 224)) (l : ¬ (224 <= o /\ o < 240)) (m : 240 <= o /\ o < 248) : cls o = 4 := (if_neg h).trans ((if_neg k).trans ((if_neg l).trans (if_pos m)))
theorem cls0 {o : Int} (h : ¬ o < 128) (k : ¬ (192 <= o /\ o < 224)) (l : ¬ (224 <= o /\ o < 240)) (m : ¬ (240 <= o /\ o < 248)) : cls o = 0 := (if_neg h).trans ((if_neg k).trans ((if_neg l).trans (if_neg m)))
theorem and_dec {p q : Prop} [Decidable p] [Decidable q] (h : (decide p && decide q) = true) : p /\ q := ⟨of_decide_eq_true (Bool.and_eq_true_iff.mp h).1, of_decide_eq_true (Bool.and_eq_true_iff.mp h).2⟩
theorem and_not {p q : Prop} [Decidable p] [Decidable q] (h : (decide p && decide q) = false) : ¬ (p /\ q) := fun z => Bool.false_ne_true (h.symm.trans (Bool.and_eq_true_iff.mpr ⟨decide_eq_true z.1, decide_eq_true z.2⟩))
def HeadR (hp : Hp) (o a : Int) (out : Out V) : Prop := match cls o with
 | 0 => out = .raise hp.length (hp ++ [ex0 malf a])
 | w + 1 => out = .ok (.tup [.int w, .int (o % modW (w + 1)), .int (leastW (w + 1))]) hp
section
variable {lv : Loc} {hp : Hp} {d : Nat} {x : X}
theorem run_head {o a : Int} (h0 : 0 <= o) : ∃ out, callF T2 (d + 1) false 24 [.int o, .int a] hp = some out /\ HeadR hp o a out := by
 refine call_ex (r := P2.f24) rfl rfl (r_ite (t_of rfl rfl) (fun q => r_ret (v_tup rfl (show 3 <= big by decide)) ?_) fun q1 => r_ite (t_of (v_cmp2 rfl rfl rfl rfl rfl) rfl) (fun q => r_ret (v_tup (xk rfl (xk (v_bin rfl rfl bi_and31) rfl)) (show 3 <= big by decide)) ?_) fun q2 => r_ite (t_of (v_cmp2 rfl rfl rfl rfl rfl) rfl) (fun q => r_ret (v_tup (xk rfl (xk (v_bin rfl rfl bi_and15) rfl)) (show 3 <= big by decide)) ?_) fun q3 => r_ite (t_of (v_cmp2 rfl rfl rfl rfl rfl) rfl) (fun q => r_ret (v_tup (xk rfl (xk (v_bin rfl rfl bi_and7) rfl)) (show 3 <= big by decide)) ?_) fun q4 => r_raise (c := 0) (fs := [(5, .str malf), (6, .int a)]) rfl (v_call rfl rfl) g0 ?_)
 ·have q := of_decide_eq_true q
  unfold HeadR
  rw [cls1 q]
  show Out.ok (V.tup [.int 0, .int o, .int 0]) hp = .ok (.tup [.int 0, .int (o % 128), .int 0]) hp
  rw [Int.emod_eq_of_lt h0 q]
 ·unfold HeadR
  rw [cls2 (of_decide_eq_false q1) (and_dec q)]; rfl
 ·unfold HeadR
  rw [cls3 (of_decide_eq_false q1) (and_not q2) (and_dec q)]; rfl
 ·unfold HeadR
  rw [cls4 (of_decide_eq_false q1) (and_not q2) (and_not q3) (and_dec q)]; rfl
 ·unfold HeadR
  rw [cls0 (of_decide_eq_false q1) (and_not q2) (and_not q3) (and_not q4)]; rfl
theorem and192 : ∀ o : Fin 256, (Builtin.bitAnd ((o.val : Nat) : Int) 192 == 128) = (decide (128 <= ((o.val : Nat) : Int)) && decide (((o.val : Nat) : Int) < 192)) := by decide +kernel
theorem and192_of {o : Int} (h : 0 <= o /\ o < 256) : (Builtin.bitAnd o 192 == 128) = (decide (128 <= o) && decide (o < 192)) := by
 obtain ⟨n, rfl⟩ := Int.eq_ofNat_of_zero_le h.1
 exact and192 ⟨n, Int.ofNat_lt.mp h.2⟩
theorem bi_shl6 {a : Int} (h : a.natAbs < 2 ^ 64) : binInt .LShift a 6 = some (a * 64) := if_pos ⟨by decide, by decide, decide_eq_true h⟩
theorem room_step {p c R M : Int} (hR : 0 < R) (hc : c < 64) (h : (p + 1) * (R * 64) <= M) : (p * 64 + c + 1) * R <= M := by
 refine Int.le_trans (Int.mul_le_mul_of_nonneg_right (show p * 64 + c + 1 <= (p + 1) * 64 by omega) (Int.le_of_lt hR)) ?_
 rw [Int.mul_assoc, Int.mul_comm 64 R]; exact h
theorem room_lt {p R M : Int} (hR : 1 <= R) (p0 : 0 <= p) (h : (p + 1) * R <= M) : p < M := by
 have := Int.mul_le_mul_of_nonneg_left hR (show 0 <= p + 1 by omega)
 omega
theorem nat64 {p : Int} (h0 : 0 <= p) (h : p < 67108864) : p.natAbs < 2 ^ 64 := by omega
theorem bi_or64' {p y : Int} (h : 0 <= p) : binInt .BitOr (p * 64) (y % 64) = some (p * 64 + y % 64) := congrArg some (bor_low 6 (Int.mul_nonneg h (by decide)) (mod_ge 64 (by decide)).1 (mod_ge 64 (by decide)).2 (Int.mul_emod_left p 64))
def CI (hp : Hp) (p : Int) (l : List Int) (lv0 : Loc) (keep : List Nat) (r : List V) (lv : Loc) (h : Hp) : Prop := h = hp /\ ∃ (rest : List Int) (p' : Int), r = rest.map .int /\ lv.lookup 42 = some (.int p') /\ fold6 p l = fold6 p' rest /\ contsOk l = contsOk rest /\ 0 <= p' /\ (p' + 1) * (64 : Int) ^ rest.length <= 67108864 /\ (∀ o ∈ rest, 0 <= o /\ o < 256) /\ ∀ k ∈ keep, lv.lookup k = lv0.lookup k
theorem r_conts {t : E} {l : List Int} {p bg at_ : Int} {ss : Ss} {Q : OutS -> Prop} (keep : List Nat) (hk : 12 ∉ keep /\ 42 ∉ keep) (ht : Ev T2 ⟨false, callF T2 (d + 1)⟩ t lv hp (.bytes l) hp) (hl : l.length <= 3) (hr : ∀ o ∈ l, 0 <= o /\ o < 256) (l42 : lv.lookup 42 = some (.int p)) (p0 : 0 <= p) (p1 : p < 256) (l33 : lv.lookup 33 = some (.int bg)) (l6 : lv.lookup 6 = some (.int at_)) (k33 : 33 ∈ keep) (k6 : 6 ∈ keep)
  (good : contsOk l = true -> ∀ lv', lv'.lookup 42 = some (.int (fold6 p l)) -> (∀ k ∈ keep, lv'.lookup k = lv.lookup k) -> Rn T2 ⟨false, callF T2 (d + 1)⟩ ss lv' hp Q) (bad : contsOk l = false -> ∀ lv', Q (.raise hp.length lv' (hp ++ [ex0 malf (bg + at_)]))) :
  Rn T2 ⟨false, callF T2 (d + 1)⟩ (.cons (.fori (.one 12) t (.cons (.ite (.cmp .NotEq (.bin .BitAnd (.loc 12) (.int 192)) (.int 128)) (.cons (.raise (.callg 27 (.exc 0) (.cons (.str malf) (.cons (.bin .Add (.loc 33) (.loc 6)) .nil)))) .nil) .nil)
   (.cons (.assign (.one 42) (.bin .BitOr (.bin .LShift (.loc 42) (.int 6)) (.bin .BitAnd (.loc 12) (.int 63)))) .nil))) ss) lv hp Q := by
 refine r_fori (I := fun _ => True) (CI hp p l lv keep) rfl ht rfl (gives_seq (l.map .int)) (by rw [List.length_map]; exact Nat.lt_of_le_of_lt hl (by decide)) (fun _ _ _ _ => trivial) ⟨rfl, l, p, rfl, l42, rfl, rfl, p0, ?_, hr, fun _ _ => rfl⟩ (fun v r lv' h I => ?_) fun lv' h I => ?_
 ·have h1 : (64 : Int) ^ l.length <= 64 ^ 3 := by exact_mod_cast Nat.pow_le_pow_right (n := 64) (by decide) hl
  exact Int.le_trans (Int.mul_le_mul (show p + 1 <= 256 from p1) h1 (Int.le_of_lt (Int.pow_pos (by decide))) (by decide)) (by decide)
 ·obtain ⟨rfl, rest, p', hrr, m42, m1, m2, m3, m4, m5, m6⟩ := I
  cases rest with
  | nil => exact nomatch hrr
  | cons o rest =>
   obtain ⟨rfl, rfl⟩ := List.cons.inj hrr
   have ho := m5 o List.mem_cons_self
   have e0 : 0 < (64 : Int) ^ rest.length := Int.pow_pos (by decide)
   rw [List.length_cons, Int.pow_succ] at m4
   have e2 := room_lt (show (1 : Int) <= 64 ^ rest.length * 64 by omega) m3 m4
   have l42' : (setL 12 (.int o) lv').lookup 42 = some (.int p') := zk (by decide) m42
   refine ⟨_, rfl, r_ite (t_of (v_cmp (v_bin (vq lk_same) rfl rfl) rfl rfl) rfl) (fun q => ?_) fun q => ?_⟩
   ·refine r_raise (c := 0) (fs := [(5, .str malf), (6, .int (bg + at_))]) rfl (v_call (xk rfl (xk (v_bin (vq (zk (by decide) ((m6 33 k33).trans l33))) (vq (zk (by decide) ((m6 6 k6).trans l6))) rfl) rfl)) rfl) g0 (bad ?_ _)
    have q : (!(Builtin.bitAnd o 192 == 128)) = true := q
    rw [and192_of ho] at q
    rw [m2]
    show ((decide (128 <= o) && decide (o < 192)) && contsOk rest) = false
    rw [(Bool.not_eq_true' _).mp q]; rfl
   ·have q : (!(Builtin.bitAnd o 192 == 128)) = false := q
    rw [and192_of ho] at q
    refine r_assign (v_bin (v_bin (vq l42') rfl (bi_shl6 (nat64 m3 e2))) (v_bin (vq lk_same) rfl bi_and63) (bi_or64' m3)) (r_nil ⟨rfl, rest, p' * 64 + o % 64, rfl, lk_same, m1, ?_, Int.add_nonneg (Int.mul_nonneg m3 (by decide)) (mod_ge 64 (by decide)).1, room_step e0 (mod_ge 64 (by decide)).2 m4, fun y hy => m5 y (List.mem_cons_of_mem _ hy), fun k hk' => zk (fun z : k = 42 => hk.2 (z ▸ hk')) (zk (fun z : k = 12 => hk.1 (z ▸ hk')) (m6 k hk'))⟩)
    rw [m2]
    show ((decide (128 <= o) && decide (o < 192)) && contsOk rest) = contsOk rest
    rw [(Bool.not_eq_false' _).mp q]; rfl
 ·obtain ⟨rfl, rest, p', hrr, m42, m1, m2, m3, m4, m5, m6⟩ := I
  cases rest with
  | cons c r => exact nomatch hrr
  | nil => exact good m2 lv' (m1 ▸ m42) m6
end
section
variable {T : Tab} {x : X} {ss : Ss} {lv : Loc} {hp hp₁ hp₂ : Hp} {Q : OutS -> Prop} {e e' o lo hi l r : E} {es : Es} {a b : Bool} {v : V} {i n : Nat}
theorem r_assign_raise {t : Tg} (h : ev T x e lv hp = some (.raise i hp₁)) (k : Q (.raise i lv hp₁)) : Rn T x (.cons (.assign t e) ss) lv hp Q :=
 r_out (out := .raise i lv hp₁) (show onV (ev T x e lv hp) lv _ = _ by rw [h]; rfl) (fun _ _ z => nomatch z) k
theorem e_call {g : G} {as : Es} {vs : List V} {R : Option (Out V)} (h : Evs T x as lv hp vs hp₁) (k : callG T x g vs hp₁ = R) : ev T x (.callg n g as) lv hp = R := (b_ok h).trans k
theorem v_or' (h : Ev T x e lv hp (.bool a) hp) (h' : Ev T x (.bop .Or (.cons e' es)) lv hp (.bool b) hp) : Ev T x (.bop .Or (.cons e (.cons e' es))) lv hp (.bool (a || b)) hp := by
 cases a with
 | true => exact v_stop h rfl rfl
 | false => exact v_past h rfl rfl h'
theorem v_subB {bs : List Int} {j : Nat} {y : Int} (h : Ev T x l lv hp (.bytes bs) hp₁) (h' : Ev T x r lv hp₁ (.int j) hp₂) (hl : bs.length <= huge) (q : bs[j]? = some y) : Ev T x (.sub l r) lv hp (.int y) hp₂ :=
 (b_ok h).trans ((b_ok h').trans (by
  show (if 0 <= (j : Int) then (idxOf (j : Int) bs.length).bind fun k => (bs[k]?).map fun v => Out.ok (V.int v) hp₂ else none) = _
  rw [if_pos (Int.natCast_nonneg j), idx_nat (List.getElem?_eq_some_iff.mp q).1 hl]
  show (bs[j]?).map _ = _
  rw [q]; rfl))
theorem bound_nat {a : Nat} (h : a < 2 ^ 60) : bound (some (.int (a : Int))) = some (some a) :=
 (if_pos ⟨Int.natCast_nonneg a, by rw [Int.natAbs_natCast]; exact h⟩).trans (by rw [Int.toNat_natCast])
theorem opt_some {m : P V} (h : m hp = some (.ok v hp₁)) : optE false m hp = some (.ok (some v) hp₁) := b_ok h
theorem cut_mid {α : Type} (l : List α) (a f : Nat) : cut l (some a) (some (a + f)) = (l.drop a).take f := by
 show (l.take (a + f)).drop a = _
 rw [List.drop_take, Nat.add_sub_cancel_left]
theorem v_sliceB {bs : List Int} {a c : Nat} (h : Ev T x o lv hp (.bytes bs) hp) (n1 : isAbs lo = false) (h1 : Ev T x lo lv hp (.int a) hp) (n2 : isAbs hi = false) (h2 : Ev T x hi lv hp (.int (a + c : Nat)) hp) (ha : a + c < 2 ^ 60) (hb : bs.length <= big) : Ev T x (.slice o lo hi) lv hp (.bytes ((bs.drop a).take c)) hp := by
 refine (b_ok h).trans ?_
 rw [n1, n2]
 refine (b_ok (opt_some h1)).trans ((b_ok (opt_some h2)).trans ?_)
 show (bound _).bind _ = _
 rw [bound_nat (Nat.lt_of_le_of_lt (Nat.le_add_right a c) ha)]
 show (bound _).bind _ = _
 rw [bound_nat ha]
 show (if bs.length <= big then some (Out.ok (V.bytes (cut bs (some a) (some (a + c)))) hp) else none) = _
 rw [if_pos hb, cut_mid]
end
def TextOut (hp : Hp) (r : Option (List Nat)) (out : Out V) : Prop := match r with
 | some t => ∃ e, out = .ok (.str t) (hp ++ e)
 | none => ∃ e i a, out = .raise i (hp ++ e) /\ (hp ++ e)[i]? = some (ex0 malf a)
theorem out_bad {hp g : Hp} {r : Option (List Nat)} {a : Int} (h : r = none) : TextOut hp r (.raise (hp ++ g).length ((hp ++ g) ++ [ex0 malf a])) := by
 rw [h]; exact ⟨g ++ [ex0 malf a], _, a, by rw [app2], by rw [<- app2]; exact g0⟩
structure TI (hp : Hp) (l : List Int) (bg : Int) (k : Nat) (lv : Loc) (h : Hp) (at_ : Nat) (acc : List Nat) (e : Hp) : Prop where
 hh : h = hp ++ .list (acc.map fun c => .str [c]) :: e
 l7 : lv.lookup 7 = some (.bytes l)
 l33 : lv.lookup 33 = some (.int bg)
 l44 : lv.lookup 44 = some (.ref hp.length)
 l6 : lv.lookup 6 = some (.int at_)
 hk : at_ + k = l.length
 ha : acc.length <= at_
 ht : textS l.length l = (textS k (l.drop at_)).map (acc ++ ·)
theorem drop_at {l : List Int} {a : Nat} (h : a < l.length) : ∃ o r, l.drop a = o :: r /\ l[a]? = some o /\ l.drop (a + 1) = r /\ r.length + 1 + a = l.length := by
 refine ⟨l[a], l.drop (a + 1), List.drop_eq_getElem_cons h, List.getElem?_eq_getElem h, rfl, ?_⟩
 rw [List.length_drop]; omega
theorem text_more {l : List Int} {k at_ n : Nat} {acc : List Nat} {o : Int} {r : List Int} {q : Int} (hd : l.drop at_ = o :: r) (hs : sgnT (o :: r) = some (q, n)) (ht : textS l.length l = (textS (k + 1) (l.drop at_)).map (acc ++ ·)) (hk : at_ + (k + 1) = l.length) :
  textS l.length l = (textS (k + 1 - n) (l.drop (at_ + n))).map ((acc ++ [q.toNat]) ++ ·) := by
 have hp := sgnT_pos hs
 rw [ht, hd, textS_cons, hs]
 show Option.map _ (Option.map _ (textS k ((o :: r).drop n))) = _
 have e1 : (o :: r).drop n = l.drop (at_ + n) := by rw [<- hd, List.drop_drop]
 have e2 : (l.drop (at_ + n)).length <= k + 1 - n := by rw [List.length_drop]; omega
 rw [e1, textS_fuel k _ (Nat.le_trans e2 (by have := hp.1; omega)), <- textS_fuel _ _ e2, Option.map_map]
 congr 1
 funext z
 exact List.append_cons acc q.toNat z
theorem text_none {l : List Int} {k at_ : Nat} {acc : List Nat} {o : Int} {r : List Int} (hd : l.drop at_ = o :: r) (hs : sgnT (o :: r) = none) (ht : textS l.length l = (textS (k + 1) (l.drop at_)).map (acc ++ ·)) : textS l.length l = none := by
 rw [ht, hd, textS_cons, hs]; rfl
theorem step_none {o : Int} {r : List Int} {w : Nat} (hc : cls o = w) (h : ¬ FitsT o r w) : sgnT (o :: r) = none := if_neg (by rw [hc]; exact fun z => h z.2)
theorem run_text {d : Nat} {hp : Hp} {l : List Int} (hne : hp ≠ []) (bg : Int) (hl : l.length <= 900) (hr : ∀ o ∈ l, 0 <= o /\ o < 256) : ∃ out, callF T2 (d + 2) false 25 [.bytes l, .int bg] hp = some out /\ TextOut hp (textS l.length l) out := by
 have hh : l.length <= huge := Nat.le_trans hl (by decide)
 have hln : hp.length ≠ 0 := fun z => hne (List.length_eq_zero_iff.mp z)
 refine call_ex (r := P2.f25) rfl rfl (r_many (v_tup (xk (v_list rfl (by decide)) rfl) (show 2 <= big by decide)) rfl (r_whil (fun k lv h => ∃ at_ acc e, TI hp l bg k lv h at_ acc e) l.length (Nat.lt_of_le_of_lt hl (by decide)) ⟨0, [], [], rfl, rfl, rfl, rfl, rfl, Nat.zero_add _, Nat.le_refl _, by rw [List.drop_zero]; exact (Option.map_id_fun' ▸ rfl : textS l.length l = (textS l.length l).map fun z => z)⟩ fun k lv h ⟨at_, acc, e, I⟩ => ?_))
 have hle : acc.length <= 900 := Nat.le_trans I.ha (Nat.le_trans (Nat.le.intro I.hk) hl)
 refine ⟨_, h, t_of (v_cmp (vq I.l6) (v_call (xk (vq I.l7) rfl) (c_lenB hh)) rfl) rfl, fun q => ?_, fun q => ?_⟩
 ·have q : l.length <= at_ := Int.ofNat_le.mp (Int.not_lt.mp (of_decide_eq_false q))
  have ht := I.ht
  obtain rfl : k = 0 := by have := I.hk; omega
  rw [List.drop_eq_nil_of_le q, textS_nil] at ht
  rw [ht]
  obtain rfl := I.hh
  exact r_ret (v_join (vq I.l44) g0 (Nat.le_trans hle (by decide))) ⟨.list (acc.map fun c => .str [c]) :: e, by show Out.ok (V.str acc) _ = Out.ok (V.str (acc ++ [])) _; rw [List.append_nil]⟩
 ·have q : at_ < l.length := Int.ofNat_lt.mp (of_decide_eq_true q)
  refine cps fun G_ f_ => ?_
  obtain ⟨o, r, hd, ho, hd1, hrl⟩ := drop_at q
  have hob := hr o (List.mem_of_getElem? ho)
  obtain ⟨k', rfl⟩ : ∃ k', k = k' + 1 := ⟨k - 1, by have := I.hk; omega⟩
  obtain ⟨out, hc, hR⟩ := run_head (d := d) (hp := h) (a := bg + at_) hob.1
  refine f_ ?_
  clear f_ G_
  have hev : ∀ R, callF T2 (d + 1) false 24 [.int o, .int (bg + at_)] h = R -> ev T2 ⟨false, callF T2 (d + 1)⟩ (.callg 47 (.fn 24) (.cons (.sub (.loc 7) (.loc 6)) (.cons (.bin .Add (.loc 33) (.loc 6)) .nil))) lv h = R := fun R z => e_call (xk (v_subB (vq I.l7) (vq I.l6) hh ho) (xk (v_bin (vq I.l33) (vq I.l6) rfl) rfl)) z
  have bad : ∀ {a : Int} {lv' : Loc}, sgnT (o :: r) = none -> Turn (fun lv' hp' => ∃ k'', k'' < k' + 1 /\ ∃ at_ acc e, TI hp l bg k'' lv' hp' at_ acc e) (fun o => TextOut hp (textS l.length l) (outS o)) (.raise h.length lv' (h ++ [ex0 malf a])) := fun {a lv'} z => by
   have := out_bad (hp := hp) (g := .list (acc.map fun c => .str [c]) :: e) (a := a) (text_none hd z I.ht)
   rw [<- I.hh] at this
   exact this
  unfold HeadR at hR
  cases hw : cls o with
  | zero =>
   rw [hw] at hR
   rw [show out = _ from hR] at hc
   exact r_assign_raise (hev _ hc) (bad (if_neg (by rw [hw]; exact fun z => absurd z.1 (by decide))))
  | succ w =>
   rw [hw] at hR
   rw [show out = _ from hR] at hc
   have w3 : w <= 3 := by
    have := cls_le o
    rw [hw] at this; exact Nat.le_of_succ_le_succ this
   have hm := modW_pos (w + 1)
   have hp0 := mod_ge (a := o) _ hm.1
   refine r_many (hev _ hc) rfl ?_
   show Rn T2 _ _ (setL 46 (.int (leastW (w + 1))) (setL 42 (.int (o % modW (w + 1))) (setL 45 (.int w) lv))) h _
   have m7 : (setL 46 (.int (leastW (w + 1))) (setL 42 (.int (o % modW (w + 1))) (setL 45 (.int w) lv))).lookup 7 = some (.bytes l) := zk (by decide) (zk (by decide) (zk (by decide) I.l7))
   have m33 : (setL 46 (.int (leastW (w + 1))) (setL 42 (.int (o % modW (w + 1))) (setL 45 (.int w) lv))).lookup 33 = some (.int bg) := zk (by decide) (zk (by decide) (zk (by decide) I.l33))
   have m44 : (setL 46 (.int (leastW (w + 1))) (setL 42 (.int (o % modW (w + 1))) (setL 45 (.int w) lv))).lookup 44 = some (.ref hp.length) := zk (by decide) (zk (by decide) (zk (by decide) I.l44))
   have m6 : (setL 46 (.int (leastW (w + 1))) (setL 42 (.int (o % modW (w + 1))) (setL 45 (.int w) lv))).lookup 6 = some (.int at_) := zk (by decide) (zk (by decide) (zk (by decide) I.l6))
   have m45 : (setL 46 (.int (leastW (w + 1))) (setL 42 (.int (o % modW (w + 1))) (setL 45 (.int w) lv))).lookup 45 = some (.int w) := zk (by decide) (zk (by decide) lk_same)
   have m42 : (setL 46 (.int (leastW (w + 1))) (setL 42 (.int (o % modW (w + 1))) (setL 45 (.int w) lv))).lookup 42 = some (.int (o % modW (w + 1))) := zk (by decide) lk_same
   have m46 : (setL 46 (.int (leastW (w + 1))) (setL 42 (.int (o % modW (w + 1))) (setL 45 (.int w) lv))).lookup 46 = some (.int (leastW (w + 1))) := lk_same
   generalize setL 46 (.int (leastW (w + 1))) (setL 42 (.int (o % modW (w + 1))) (setL 45 (.int w) lv)) = lv1 at m7 m33 m44 m6 m45 m42 m46
   have hraise : ∀ {lv' : Loc} {Q : OutS -> Prop} {ss : Ss}, lv'.lookup 33 = some (.int bg) -> lv'.lookup 6 = some (.int at_) -> Q (.raise h.length lv' (h ++ [ex0 malf (bg + at_)])) -> Rn T2 ⟨false, callF T2 (d + 1)⟩ (.cons (.raise (.callg 27 (.exc 0) (.cons (.str malf) (.cons (.bin .Add (.loc 33) (.loc 6)) .nil)))) ss) lv' h Q := fun a b k => r_raise (c := 0) (fs := [(5, .str malf), (6, .int (bg + at_))]) rfl (v_call (xk rfl (xk (v_bin (vq a) (vq b) rfl) rfl)) rfl) g0 k
   refine r_ite (t_of (v_cmp (v_bin (vq m6) (vq m45) rfl) (v_call (xk (vq m7) rfl) (c_lenB hh)) rfl) rfl) (fun z => ?_) fun z => ?_
   ·have z : (l.length : Int) <= at_ + w := of_decide_eq_true z
    exact hraise m33 m6 (bad (step_none hw fun y => by have := y.1; omega))
   ·have z : ¬ (l.length : Int) <= at_ + w := of_decide_eq_false z
    have zr : w <= r.length := by omega
    have zb : at_ + 1 + w < 2 ^ 60 := by omega
    refine r_conts (l := r.take w) [6, 7, 33, 44, 45, 46] (by decide) (hd1 ▸ v_sliceB (a := at_ + 1) (c := w) (vq m7) rfl (v_bin (vq m6) rfl rfl) rfl (v_bin (v_bin (vq m6) rfl rfl) (vq m45) rfl) zb (Nat.le_trans hl (by decide))) (by rw [List.length_take]; exact Nat.le_trans (Nat.min_le_left _ _) w3) (fun y hy => hr y (List.mem_of_mem_drop (hd1 ▸ List.mem_of_mem_take hy))) m42 hp0.1 (Int.lt_of_lt_of_le hp0.2 (Int.le_trans hm.2 (by decide))) m33 m6 (by decide) (by decide) (fun hcs lv2 n42 nk => ?_) fun hcs lv2 => bad (step_none hw fun y => Bool.false_ne_true (hcs.symm.trans y.2.1))
    have n6 := (nk 6 (by decide)).trans m6
    have n7 := (nk 7 (by decide)).trans m7
    have n33 := (nk 33 (by decide)).trans m33
    have n44 := (nk 44 (by decide)).trans m44
    have n45 := (nk 45 (by decide)).trans m45
    have n46 := (nk 46 (by decide)).trans m46
    clear nk m7 m33 m44 m6 m45 m42 m46
    have hpq : fold6 (o % modW (w + 1)) (r.take w) = pW (o :: r) (w + 1) := rfl
    refine r_ite (c := badPt (pW (o :: r) (w + 1)) (leastW (w + 1))) (t_of (v_or' (v_cmp (vq n42) (vq n46) rfl) (v_or (v_cmp (vq n42) rfl rfl) (v_cmp2 rfl (vq n42) rfl rfl rfl))) rfl) (fun y => hraise n33 n6 (bad (step_none hw fun u => Bool.false_ne_true (u.2.2.symm.trans y)))) fun y => ?_
    have hs : sgnT (o :: r) = some (pW (o :: r) (w + 1), w + 1) := by
     show (if 1 <= cls o /\ FitsT o r (cls o) then some (pW (o :: r) (cls o), cls o) else none) = _
     rw [hw]
     exact if_pos ⟨Nat.le_add_left 1 w, Nat.succ_le_succ zr, hcs, y⟩
    obtain ⟨⟨p0, p1, _⟩, _⟩ := step_pt hs
    rw [hpq] at n42
    generalize pW (o :: r) (w + 1) = pq at n42 hs p0 p1
    obtain rfl := I.hh
    refine r_expr (v_mcall (vq n44) (k_list g0 rfl) (xk (v_call (xk (vq n42) rfl) (if_pos ⟨p0, p1⟩)) rfl) (m_lapp g0 hln (by rw [List.length_map]; exact Nat.le_trans hle (by decide)))) (r_assign (v_bin (v_bin (vq n6) rfl rfl) (vq n45) rfl) (r_nil ⟨k' + 1 - (w + 1), by omega, at_ + (w + 1), acc ++ [pq.toNat], e, ?_, zk (by decide) n7, zk (by decide) n33, zk (by decide) n44, ?_, by have := I.hk; omega, ?_, text_more hd hs I.ht I.hk⟩))
    ·rw [List.map_append]; exact s0
    ·refine lk_same.trans ?_
     rw [show ((at_ : Int) + 1 + w) = ((at_ + (w + 1) : Nat) : Int) by omega]
    ·rw [List.length_append]
     exact Nat.add_le_add I.ha (Nat.le_add_left 1 w)
def HanQ (y : Nat) (Q : OutS -> Prop) (o : OutS) : Prop := match o with
 | .ret v lv h => Q (.ret v (dropL y lv) h)
 | _ => False
def TryQ (T : Tab) (x : X) (hd : Ss) (c y : Nat) (Q : OutS -> Prop) (o : OutS) : Prop := match o with
 | .ret v lv h => Q (.ret v lv h)
 | .raise i lv h => ∃ fs, h[i]? = some (.exc c fs) /\ Rn T ⟨true, x.call⟩ hd (setL y (.ref i) lv) h (HanQ y Q)
 | .next _ _ => False
section
variable {T : Tab} {x : X} {b hd ss : Ss} {cn c y : Nat} {lv : Loc} {hp h₁ : Hp} {Q : OutS -> Prop} {e : E} {i : Nat}
theorem r_try (hm : x.hm = false) (h : Rn T x b lv hp (TryQ T x hd c y Q)) : Rn T x (.cons (.tryx b cn c y hd) ss) lv hp Q := by
 obtain ⟨out, e, q⟩ := h
 have z : exec T (.tryx b cn c y hd) x lv hp = (some out).bind (caught c fun i lv hp => (execs T hd { x with hm := true } (setL y (.ref i) lv) hp).bind (handled y)) := by
  show (if x.hm = true then _ else _ : Option OutS) = _
  rw [if_neg (by rw [hm]; exact Bool.false_ne_true), e]
 cases out with
 | next => exact q.elim
 | ret v lv h => exact r_out z (fun _ _ z => nomatch z) q
 | raise i lv h =>
  obtain ⟨fs, q1, out, q2, q3⟩ := q
  have z2 : (excAt i h).bind (fun c' => if c = c' then (execs T hd { x with hm := true } (setL y (.ref i) lv) h).bind (handled y) else Option.none) = handled y out := by
   unfold excAt
   rw [q1]
   exact (if_pos rfl).trans (by show (execs T hd ⟨true, x.call⟩ _ h).bind _ = _; rw [q2]; rfl)
  cases out with
  | ret v lv h' => exact r_out (z.trans z2) (fun _ _ z => nomatch z) q3
  | _ => exact q3.elim
theorem r_ret_raise (h : ev T x e lv hp = some (.raise i h₁)) (k : Q (.raise i lv h₁)) : Rn T x (.cons (.ret e) ss) lv hp Q :=
 r_out (out := .raise i lv h₁) (show onV (ev T x e lv hp) lv _ = _ by rw [h]; rfl) (fun _ _ z => nomatch z) k
end
noncomputable def endS : List Nat := [117, 110, 101, 120, 112, 101, 99, 116, 101, 100, 32, 101, 110, 100]
noncomputable def bigS : List Nat := [105, 110, 116, 101, 103, 101, 114, 32, 116, 111, 111, 32, 108, 97, 114, 103, 101]
noncomputable def longS : List Nat := [105, 110, 116, 101, 103, 101, 114, 32, 114, 101, 112, 114, 101, 115, 101, 110, 116, 97, 116, 105, 111, 110, 32, 116, 111, 111, 32, 108, 111, 110, 103]
noncomputable def runG : Nat -> List Int -> List Int × Bool
 | 0, _ => ([], true)
 | k + 1, l => match l with
  | [] => ([], true)
  | o :: r => if 128 <= o then (o % 128 :: (runG k r).1, (runG k r).2) else ([o % 128], false)
noncomputable def valG : List Int -> Int
 | [] => 0
 | g :: r => g + 128 * valG r
noncomputable def numV (sg : Bool) (g : List Int) : Int := if sg = true /\ 64 <= g.getLastD 0 then valG g - (128 : Int) ^ g.length else valG g
noncomputable def numLo (bits : Nat) (sg : Bool) : Int := if sg = true then -(2 : Int) ^ (bits - 1) else 0
noncomputable def numHi (bits : Nat) (sg : Bool) : Int := if sg = true then (2 : Int) ^ (bits - 1) else (2 : Int) ^ bits
noncomputable def numT (lo hi v : Int) (n : Nat) (more : Bool) : List Nat × Int × Nat := if v < lo \/ hi <= v then (bigS, 0, 0) else if more = true then (longS, 0, 0) else ([], v, n)
noncomputable def numG (bits : Nat) (sg : Bool) (most : Nat) (g : List Int) (more : Bool) : List Nat × Int × Nat :=
 if more = true /\ g.length < most then (endS, 0, 0) else numT (numLo bits sg) (numHi bits sg) (numV sg g) g.length more
noncomputable def numR (bits : Nat) (sg : Bool) (r : List Int) : List Nat × Int × Nat := numG bits sg ((bits + 6) / 7) (runG ((bits + 6) / 7) r).1 (runG ((bits + 6) / 7) r).2
theorem runG_nil (k : Nat) : runG k [] = ([], true) := by cases k <;> rfl
theorem runG_end : ∀ (k : Nat) (r : List Int), (runG k r).1 = [] -> (runG k r).2 = true
 | 0, _, _ => rfl
 | k + 1, [], _ => rfl
 | k + 1, o :: r, h => by
  by_cases q : 128 <= o
  ·rw [runG, if_pos q] at h; exact nomatch h
  ·rw [runG, if_neg q] at h; exact nomatch h
section
variable {T : Tab} {x : X} {h : Hp} {i : Nat} {g : List Int}
theorem c_lenI (q : h[i]? = some (.list (g.map .int))) (hl : g.length <= huge) : callG T x (.bi .len) [.ref i] h = some (.ok (.int g.length) h) :=
 (c_len (list_of q) (by rw [List.length_map]; exact hl)).trans (by rw [List.length_map])
end
theorem idx_last {n : Nat} (h0 : 0 < n) (hn : n <= huge) : idxOf (-1) n = some (n - 1) := by
 unfold idxOf
 rw [if_neg (Nat.not_lt_of_le hn), if_neg (by decide), if_pos (by omega)]
 congr 1
 omega
theorem most_of {bits : Nat} (h0 : 1 <= bits) (h : bits <= 64) : 1 <= (bits + 6) / 7 /\ (bits + 6) / 7 <= 20 := by omega
theorem bits_one {bits : Nat} (h0 : 1 <= bits) : ((bits : Int) - 1) = ((bits - 1 : Nat) : Int) := by omega
section
variable {h : Hp} {d : Nat} {lv : Loc} {Q : OutS -> Prop}
end
noncomputable def contV (sg : Bool) (j : Nat) (found : Int) (g : List Int) : Int := if sg = true /\ 64 <= g.getLastD 0 then found + (128 : Int) ^ j * valG g - (128 : Int) ^ (j + g.length) else found + (128 : Int) ^ j * valG g
noncomputable def contG (bits : Nat) (sg : Bool) (k j : Nat) (found : Int) (q : List Int × Bool) : List Nat × Int × Nat := if q.2 = true /\ q.1.length < k then (endS, 0, 0) else numT (numLo bits sg) (numHi bits sg) (contV sg j found q.1) (j + q.1.length) q.2
noncomputable def numCont (bits : Nat) (sg : Bool) (k j : Nat) (found : Int) (r : List Int) : List Nat × Int × Nat := contG bits sg k j found (runG k r)
theorem numCont_zero (bits : Nat) (sg : Bool) (r : List Int) : numCont bits sg ((bits + 6) / 7) 0 0 r = numR bits sg r := by
 unfold numCont numR numG contG
 have e : ∀ g, contV sg 0 0 g = numV sg g := fun g => by unfold contV numV; rw [Int.pow_zero, Int.one_mul, Int.zero_add, Nat.zero_add]
 rw [e, Nat.zero_add]
theorem numCont_nil (bits : Nat) (sg : Bool) (k j : Nat) (found : Int) : numCont bits sg (k + 1) j found [] = (endS, 0, 0) := (if_pos ⟨rfl, Nat.zero_lt_succ k⟩ : contG bits sg (k + 1) j found ([], true) = _)
theorem contV_cons (sg : Bool) (j : Nat) (found o x : Int) (g : List Int) : contV sg j found (o :: x :: g) = contV sg (j + 1) (found + o * (128 : Int) ^ j) (x :: g) := by
 have hv : found + (128 : Int) ^ j * valG (o :: x :: g) = found + o * (128 : Int) ^ j + (128 : Int) ^ (j + 1) * valG (x :: g) := by
  rw [show valG (o :: x :: g) = o + 128 * valG (x :: g) from rfl, Int.pow_succ, Int.mul_add, Int.mul_assoc, Int.mul_comm ((128 : Int) ^ j) o, Int.add_assoc]
 unfold contV
 rw [hv, show j + (o :: x :: g).length = j + 1 + (x :: g).length from (Nat.add_right_comm j 1 _).symm]
 rfl
theorem numCont_more (bits : Nat) (sg : Bool) (k j : Nat) (found o : Int) (r : List Int) (ho : 128 <= o) : numCont bits sg (k + 1 + 1) j found (o :: r) = numCont bits sg (k + 1) (j + 1) (found + o % 128 * (128 : Int) ^ j) r := by
 have hend := runG_end (k + 1) r
 unfold numCont
 rw [runG, if_pos ho]
 generalize runG (k + 1) r = q at hend
 obtain ⟨g, m⟩ := q
 unfold contG
 cases g with
 | nil =>
  rw [if_pos ⟨hend rfl, Nat.succ_lt_succ (Nat.zero_lt_succ k)⟩, if_pos ⟨hend rfl, Nat.zero_lt_succ k⟩]
 | cons x g =>
  rw [contV_cons, show j + (o % 128 :: x :: g).length = j + 1 + (x :: g).length from (Nat.add_right_comm j 1 _).symm]
  by_cases c : m = true /\ (x :: g).length < k + 1
  ·rw [if_pos c, if_pos ⟨c.1, Nat.succ_lt_succ c.2⟩]
  ·rw [if_neg c, if_neg fun z => c ⟨z.1, Nat.lt_of_succ_lt_succ z.2⟩]
noncomputable def sx (sg : Bool) (x : Int) : Int := if sg = true /\ 64 <= x then x - 128 else x
noncomputable def oneV (sg : Bool) (j : Nat) (found o : Int) : Int := found + (128 : Int) ^ j * sx sg (o % 128)
theorem contV_one (sg : Bool) (j : Nat) (found o : Int) : contV sg j found [o % 128] = oneV sg j found o := by
 have hv : valG [o % 128] = o % 128 := Int.add_zero _
 unfold contV oneV sx
 rw [hv]
 by_cases c : sg = true /\ 64 <= o % 128
 ·rw [if_pos c]
  refine (if_pos c).trans ?_
  rw [Int.mul_sub, <- Int.add_sub_assoc]
  exact congrArg _ (Int.pow_succ _ _)
 ·rw [if_neg c]
  exact if_neg c
theorem numCont_last (bits : Nat) (sg : Bool) (k j : Nat) (found o : Int) (r : List Int) (ho : ¬ 128 <= o) : numCont bits sg (k + 1) j found (o :: r) = numT (numLo bits sg) (numHi bits sg) (oneV sg j found o) (j + 1) false := by
 unfold numCont
 rw [runG, if_neg ho]
 exact (if_neg fun z => Bool.false_ne_true z.1).trans (by rw [contV_one]; rfl)
theorem numCont_long (bits : Nat) (sg : Bool) (j : Nat) (found o : Int) (r : List Int) (ho : 128 <= o) : numCont bits sg 1 j found (o :: r) = numT (numLo bits sg) (numHi bits sg) (oneV sg j found o) (j + 1) true := by
 unfold numCont
 rw [show runG 1 (o :: r) = ([o % 128], true) from if_pos ho]
 exact (if_neg fun z => Nat.lt_irrefl _ z.2).trans (by rw [contV_one]; rfl)
theorem cmp_mul {D f x m : Int} (h0 : 0 <= f) (h1 : f < D) : D * m <= f + D * x ↔ m <= x := by
 have hD : 0 < D := Int.lt_of_le_of_lt h0 h1
 constructor
 ·intro h
  refine Int.le_of_lt_add_one (Int.lt_of_mul_lt_mul_left (a := D) ?_ (Int.le_of_lt hD))
  rw [Int.mul_add, Int.mul_one, Int.add_comm]
  exact Int.lt_of_le_of_lt h (Int.add_lt_add_right h1 _)
 ·intro h
  exact Int.le_trans (Int.mul_le_mul_of_nonneg_left h (Int.le_of_lt hD)) (Int.le_add_of_nonneg_left h0)
theorem pow128 (j : Nat) : (128 : Int) ^ j = (2 : Int) ^ (7 * j) := by
 rw [show (128 : Int) = 2 ^ 7 by decide, <- Int.pow_mul]
theorem two_le {a b : Nat} (h : a <= b) : (2 : Int) ^ a <= (2 : Int) ^ b := by
 have := Nat.pow_le_pow_right (n := 2) (by decide) h
 exact_mod_cast this
theorem in128 {P : Int -> Prop} (o : Int) (h : ∀ x : Fin 128, P (x.val : Int)) : P (o % 128) := by
 have m := mod_ge (a := o) 128 (by decide)
 have := h ⟨(o % 128).toNat, by omega⟩
 rwa [show (((⟨(o % 128).toNat, by omega⟩ : Fin 128).val : Nat) : Int) = o % 128 from Int.toNat_of_nonneg m.1] at this
theorem lastU_all : ∀ L : Fin 8, ∀ x : Fin 128, (sx false (x.val : Int) < 0 \/ (2 : Int) ^ L.val <= sx false (x.val : Int)) ↔ (L.val < 7 /\ ¬ (x.val : Int) / (2 : Int) ^ L.val = 0) := by decide +kernel
theorem lastS_all : ∀ L : Fin 7, ∀ x : Fin 128, (sx true (x.val : Int) < -(2 : Int) ^ L.val \/ (2 : Int) ^ L.val <= sx true (x.val : Int)) ↔ (L.val < 6 /\ ¬ ((x.val : Int) / (2 : Int) ^ L.val = 0 \/ (x.val : Int) / (2 : Int) ^ L.val = 127 / (2 : Int) ^ L.val)) := by decide +kernel
theorem sx_all : ∀ sg, ∀ x : Fin 128, (if sg = true then -64 else 0) <= sx sg (x.val : Int) /\ sx sg (x.val : Int) < (if sg = true then 64 else 128) := by decide +kernel
theorem oneU {j L : Nat} {found o : Int} (h0 : 0 <= found) (h1 : found < (128 : Int) ^ j) (hL : L < 8) : (oneV false j found o < numLo (7 * j + L) false \/ numHi (7 * j + L) false <= oneV false j found o) ↔ (L < 7 /\ ¬ o % 128 / (2 : Int) ^ L = 0) := by
 have h2 : numHi (7 * j + L) false = (128 : Int) ^ j * (2 : Int) ^ L := by rw [pow128, <- Int.pow_add]; rfl
 have h3 : numLo (7 * j + L) false = (128 : Int) ^ j * 0 := (Int.mul_zero _).symm
 rw [h2, h3]
 unfold oneV
 rw [cmp_mul h0 h1, <- Int.not_le, cmp_mul h0 h1, Int.not_le]
 exact in128 (P := fun x => (sx false x < 0 \/ (2 : Int) ^ L <= sx false x) ↔ (L < 7 /\ ¬ x / (2 : Int) ^ L = 0)) o (lastU_all ⟨L, hL⟩)
theorem oneS {j L : Nat} {found o : Int} (h0 : 0 <= found) (h1 : found < (128 : Int) ^ j) (hL : L < 7) : (oneV true j found o < numLo (7 * j + (L + 1)) true \/ numHi (7 * j + (L + 1)) true <= oneV true j found o) ↔ (L < 6 /\ ¬ (o % 128 / (2 : Int) ^ L = 0 \/ o % 128 / (2 : Int) ^ L = 127 / (2 : Int) ^ L)) := by
 have h2 : numHi (7 * j + (L + 1)) true = (128 : Int) ^ j * (2 : Int) ^ L := by rw [pow128, <- Int.pow_add]; rfl
 have h3 : numLo (7 * j + (L + 1)) true = (128 : Int) ^ j * -(2 : Int) ^ L := by rw [Int.mul_neg, pow128, <- Int.pow_add]; rfl
 rw [h2, h3]
 unfold oneV
 rw [cmp_mul h0 h1, <- Int.not_le, cmp_mul h0 h1, Int.not_le]
 exact in128 (P := fun x => (sx true x < -(2 : Int) ^ L \/ (2 : Int) ^ L <= sx true x) ↔ (L < 6 /\ ¬ (x / (2 : Int) ^ L = 0 \/ x / (2 : Int) ^ L = 127 / (2 : Int) ^ L))) o (lastS_all ⟨L, hL⟩)
theorem one_fine {bits j : Nat} {sg : Bool} {found o : Int} (h0 : 0 <= found) (h1 : found < (128 : Int) ^ j) (hb : 7 * j + 7 <= bits) : ¬ (oneV sg j found o < numLo bits sg \/ numHi bits sg <= oneV sg j found o) := by
 have hx := in128 (P := fun x => (if sg = true then -64 else 0) <= sx sg x /\ sx sg x < (if sg = true then 64 else 128)) o (sx_all sg)
 have hD : 0 < (128 : Int) ^ j := Int.pow_pos (by decide)
 have key : ∀ m : Int, sx sg (o % 128) < m -> oneV sg j found o < (128 : Int) ^ j * m := fun m h => Int.not_le.mp fun z => Int.not_le.mpr h ((cmp_mul h0 h1).mp z)
 have key2 : ∀ m : Int, m <= sx sg (o % 128) -> (128 : Int) ^ j * m <= oneV sg j found o := fun m h => (cmp_mul h0 h1).mpr h
 unfold numLo numHi
 cases sg with
 | false =>
  have h2 : (128 : Int) ^ j * 128 <= (2 : Int) ^ bits := by rw [<- Int.pow_succ, pow128]; exact two_le hb
  exact fun z => z.elim (fun z => Int.not_le.mpr z (Int.le_trans (Int.le_of_eq (Int.mul_zero _).symm) (key2 0 hx.1))) fun z => Int.not_le.mpr (key 128 hx.2) (Int.le_trans h2 z)
 | true =>
  have h2 : (128 : Int) ^ j * 64 <= (2 : Int) ^ (bits - 1) := by
   rw [pow128, show (64 : Int) = 2 ^ 6 by decide, <- Int.pow_add]; exact two_le (Nat.le_sub_one_of_lt hb)
  exact fun z => z.elim (fun z => Int.not_le.mpr z (Int.le_trans (Int.neg_le_neg h2) (by rw [<- Int.mul_neg]; exact key2 (-64) hx.1))) fun z => Int.not_le.mpr (key 64 hx.2) (Int.le_trans h2 z)
theorem found_next {j : Nat} {found o : Int} (h0 : 0 <= found) (h1 : found < (128 : Int) ^ j) : 0 <= found + o % 128 * (128 : Int) ^ j /\ found + o % 128 * (128 : Int) ^ j < (128 : Int) ^ (j + 1) := by
 have m := mod_ge (a := o) 128 (by decide)
 have hD : 0 <= (128 : Int) ^ j := Int.le_of_lt (Int.pow_pos (by decide))
 have x1 : o % 128 * (128 : Int) ^ j <= 127 * (128 : Int) ^ j := Int.mul_le_mul_of_nonneg_right (Int.le_of_lt_add_one m.2) hD
 refine ⟨Int.add_nonneg h0 (Int.mul_nonneg m.1 hD), ?_⟩
 rw [Int.pow_succ]
 generalize (128 : Int) ^ j = D at h1 x1
 generalize o % 128 * D = X at x1
 clear hD m
 omega
noncomputable def curO (B : List Int) (p e : Nat) : O := .inst 0 [(7, .bytes B), (6, .int p), (8, .int e)]
def Cur (h : Hp) (c : Nat) (B : List Int) (p e : Nat) : Prop := h[c]? = some (curO B p e)
def ReadO (h : Hp) (c : Nat) (B : List Int) (P0 e : Nat) (R : List Nat × Int × Nat) (o : Out V) : Prop :=
 (R.1 = [] /\ o = .ok (.int R.2.1) (h.set c (curO B (P0 + R.2.2) e))) \/ (R.1 ≠ [] /\ ∃ (p : Nat) (a : Int), (R.1 = endS -> p = e /\ a = (e : Int)) /\ o = .raise h.length (h.set c (curO B p e) ++ [ex0 R.1 a]))
section
variable {x : X} {lv : Loc} {h h' : Hp} {c p e d m f i : Nat} {B : List Int} {o o' : E} {ss : Ss} {Q : OutS -> Prop} {v : V}
theorem Cur.set (C : Cur h c B p e) (p' : Nat) : Cur (h.set c (curO B p' e)) c B p' e := by
 unfold Cur; rw [List.getElem?_set_self (lt_of_get C)]
theorem r_throw {w : List Nat} {a : Int} (hm : x.hm = false) (he : Ev T2 x o lv h (.int a) h) (k : Q (.raise h.length lv (h ++ [ex0 w a]))) : Rn T2 x (.cons (.raise (.callg 27 (.exc 0) (.cons (.str w) (.cons o .nil)))) ss) lv h Q :=
 r_raise (c := 0) (fs := [(5, .str w), (6, .int a)]) hm (v_call (xk rfl (xk he rfl)) (by cases x; cases hm; rfl)) g0 k
theorem e_meth {R : Option (Out V)} (ho : Ev T2 x o lv h (.ref c) h) (C : Cur h c B p e) (hm : T2.meth 0 m = some f) (g : getF [(7, .bytes B), (6, .int p), (8, .int e)] m = none) (hr : x.call x.hm f [.ref c] h = R) : ev T2 x (.mcall o m .nil) lv h = R :=
 (b_ok ho).trans ((b_ok (show findM T2 (.ref c) m h = some (.ok (.fn f) h) by unfold findM; rw [k_meth C hm g]; rfl)).trans ((b_ok rfl).trans hr))
theorem e_meth1 {R : Option (Out V)} (ho : Ev T2 x o lv h (.ref c) h) (C : Cur h c B p e) (hm : T2.meth 0 m = some f) (g : getF [(7, .bytes B), (6, .int p), (8, .int e)] m = none) (ha : Ev T2 x o' lv h v h) (hr : x.call x.hm f [.ref c, v] h = R) : ev T2 x (.mcall o m (.cons o' .nil)) lv h = R :=
 (b_ok ho).trans ((b_ok (show findM T2 (.ref c) m h = some (.ok (.fn f) h) by unfold findM; rw [k_meth C hm g]; rfl)).trans ((b_ok (xk ha rfl)).trans hr))
theorem a_buf (C : Cur h c B p e) (l : lv.lookup 0 = some (.ref c)) : Ev T2 x (.attr (.loc 0) 7) lv h (.bytes B) h := v_attr (vq l) C rfl rfl
theorem a_at (C : Cur h c B p e) (l : lv.lookup 0 = some (.ref c)) : Ev T2 x (.attr (.loc 0) 6) lv h (.int p) h := v_attr (vq l) C rfl rfl
theorem a_end (C : Cur h c B p e) (l : lv.lookup 0 = some (.ref c)) : Ev T2 x (.attr (.loc 0) 8) lv h (.int e) h := v_attr (vq l) C rfl rfl
theorem r_move {n : Nat} (C : Cur h c B p e) (l : lv.lookup 0 = some (.ref c)) (ho : Ev T2 x o lv h (.int n) h) (k : Rn T2 x ss lv (h.set c (curO B (p + n) e)) Q) : Rn T2 x (.cons (.assignA (.loc 0) 6 (.bin .Add (.attr (.loc 0) 6) o)) ss) lv h Q :=
 r_attr (v_bin (a_at C l) ho rfl) (vq l) C (show 3 <= big by decide) k
theorem run_peek_end (C : Cur h c B p e) (q : e <= p) : callF T2 (d + 1) false 3 [.ref c] h = some (.raise h.length (h ++ [ex0 endS p])) :=
 call_raise (r := P2.f3) rfl rfl (r_if (t_of (v_cmp (a_at C rfl) (a_end C rfl) rfl) rfl) (decide_eq_true (Int.ofNat_le.mpr q)) (r_throw rfl (a_at C rfl) rfl))
theorem run_peek_ok {y : Int} (C : Cur h c B p e) (q : p < e) (ho : B[p]? = some y) (hl : B.length <= huge) : callF T2 (d + 1) false 3 [.ref c] h = some (.ok (.int y) h) :=
 call_rn (r := P2.f3) rfl rfl (r_else (t_of (v_cmp (a_at C rfl) (a_end C rfl) rfl) rfl) (decide_eq_false fun z => Nat.not_le.mpr q (Int.ofNat_le.mp z)) (r_ret (v_subB (a_buf C rfl) (a_at C rfl) hl ho) rfl))
theorem run_octet_end (C : Cur h c B p e) (q : e <= p) : callF T2 (d + 2) false 4 [.ref c] h = some (.raise h.length (h ++ [ex0 endS p])) :=
 call_raise (r := P2.f4) rfl rfl (r_assign_raise (e_meth rfl C (f := 3) rfl rfl (run_peek_end C q)) rfl)
theorem run_octet_ok {y : Int} (C : Cur h c B p e) (q : p < e) (ho : B[p]? = some y) (hl : B.length <= huge) : callF T2 (d + 2) false 4 [.ref c] h = some (.ok (.int y) (h.set c (curO B (p + 1) e))) :=
 call_rn (r := P2.f4) rfl rfl (r_assign (e_meth rfl C (f := 3) rfl rfl (run_peek_ok C q ho hl)) (r_move C (zk (by decide) rfl) rfl (r_ret (vq lk_same) rfl)))
end
theorem div7 {n m : Nat} (h : m = n / 7) : 7 * m <= n /\ n < 7 * m + 7 := by omega
theorem left_num {bits k j : Nat} (h : k + 1 + j = (bits + 6) / 7) : ∃ L, bits = 7 * j + L /\ 1 <= L /\ (k = 0 -> L <= 7) /\ (k ≠ 0 -> 8 <= L) := by
 obtain ⟨h1, h2⟩ := div7 h
 clear h
 obtain ⟨L, rfl⟩ : ∃ L, bits = 7 * j + L := ⟨bits - 7 * j, by omega⟩
 exact ⟨L, rfl, by omega, fun z => by omega, fun z => by omega⟩
theorem lshift7 (o : Int) {j : Nat} (h : j <= 9) : binInt .LShift (o % 128) ((7 * j : Nat) : Int) = some (o % 128 * (128 : Int) ^ j) := by
 have m := mod_ge (a := o) 128 (by decide)
 rw [pow128]
 exact if_pos ⟨Int.natCast_nonneg _, Int.ofNat_le.mpr (show 7 * j <= 100000 by omega), decide_eq_true (Nat.lt_trans (show (o % 128).natAbs < 128 by omega) (by decide))⟩
theorem sub_left {bits j L : Nat} (h : bits = 7 * j + L) : (bits : Int) - ((7 * j : Nat) : Int) = (L : Int) := by omega
structure LI (h : Hp) (c : Nat) (B : List Int) (P0 e bits : Nat) (sg : Bool) (r : List Int) (k : Nat) (lv : Loc) (h' : Hp) (j : Nat) (found : Int) : Prop where
 hh : h' = h.set c (curO B (P0 + j) e)
 hk : k + 1 + j = (bits + 6) / 7
 l0 : lv.lookup 0 = some (.ref c)
 l31 : lv.lookup 31 = some (.int bits)
 l28 : lv.lookup 28 = some (.int found)
 l32 : lv.lookup 32 = some (.int (7 * j : Nat))
 l33 : lv.lookup 33 = some (.int P0)
 f0 : 0 <= found
 f1 : found < (128 : Int) ^ j
 hj : j <= r.length
 hR : numR bits sg r = numCont bits sg (k + 1) j found (r.drop j)
theorem numT_bad {lo hi v : Int} {n : Nat} {m : Bool} (h : v < lo \/ hi <= v) : numT lo hi v n m = (bigS, 0, 0) := if_pos h
theorem numT_more {lo hi v : Int} {n : Nat} (h : ¬ (v < lo \/ hi <= v)) : numT lo hi v n true = (longS, 0, 0) := if_neg h
theorem numT_good {lo hi v : Int} {n : Nat} (h : ¬ (v < lo \/ hi <= v)) : numT lo hi v n false = ([], v, n) := if_neg h
noncomputable def readBody (test : E) (rest : Ss) : Ss := (.cons (.assign (.one 12) (.mcall (.loc 0) 12 .nil))
 (.cons (.assign (.one 9) (.bin .Sub (.loc 31) (.loc 32)))
 (.cons (.ite (.bop .And (.cons (.cmp .Lt (.loc 9) (.int 7)) (.cons test .nil))) (.cons (.raise (.callg 27 (.exc 0) (.cons (.str bigS) (.cons (.loc 33) .nil)))) .nil) .nil)
 (.cons (.ite (.bop .And (.cons (.cmp .LtE (.loc 9) (.int 7)) (.cons (.cmp .GtE (.loc 12) (.int 128)) .nil))) (.cons (.raise (.callg 27 (.exc 0) (.cons (.str longS) (.cons (.loc 33) .nil)))) .nil) .nil)
 (.cons (.assign (.one 28) (.bin .Add (.loc 28) (.bin .LShift (.bin .BitAnd (.loc 12) (.int 127)) (.loc 32)))) rest)))))
theorem read_raise {h : Hp} {c : Nat} {B : List Int} {P0 e p : Nat} {R : List Nat × Int × Nat} {w : List Nat} {a : Int} {lv : Loc} (hR : R = (w, 0, 0)) (hw : w ≠ []) (hz : w = endS -> p = e /\ a = e) : ReadO h c B P0 e R (outS (.raise (h.set c (curO B p e)).length lv (h.set c (curO B p e) ++ [ex0 w a]))) := by
 rw [hR, List.length_set]; exact .inr ⟨hw, p, a, hz, rfl⟩
theorem v_and2 {x : X} {lv : Loc} {hp : Hp} {e e' : E} {a b : Bool} (h : Ev T2 x e lv hp (.bool a) hp) (h' : a = true -> Ev T2 x e' lv hp (.bool b) hp) : Ev T2 x (.bop .And (.cons e (.cons e' .nil))) lv hp (.bool (a && b)) hp := by
 cases a with
 | true => exact v_past h rfl rfl (v_last (h' rfl))
 | false => exact v_stop h rfl rfl
theorem r_reader {d : Nat} {h : Hp} {c : Nat} {B : List Int} {P0 e bits : Nat} {r tail : List Int} {lv : Loc} (sg : Bool) (test : E) (rest : Ss) (tst : Nat -> Int -> Bool)
  (C : Cur h c B P0 e) (hB : B.drop P0 = r ++ tail) (he : e = P0 + r.length) (hl : B.length <= huge) (hr : ∀ x ∈ r, 0 <= x /\ x < 256) (b1 : 1 <= bits) (b2 : bits <= 64)
  (l0 : lv.lookup 0 = some (.ref c)) (l31 : lv.lookup 31 = some (.int bits)) (l28 : lv.lookup 28 = some (.int 0)) (l32 : lv.lookup 32 = some (.int 0)) (l33 : lv.lookup 33 = some (.int P0))
  (ht : ∀ {lv : Loc} {H : Hp} {L : Nat} {o : Int}, 1 <= L -> L <= 7 -> lv.lookup 9 = some (.int L) -> lv.lookup 12 = some (.int o) -> Ev T2 ⟨false, callF T2 (d + 2)⟩ test lv H (.bool (tst L o)) H)
  (hi : ∀ {j L : Nat} {found o : Int}, 0 <= found -> found < (128 : Int) ^ j -> 1 <= L -> L <= 7 -> ((oneV sg j found o < numLo (7 * j + L) sg \/ numHi (7 * j + L) sg <= oneV sg j found o) ↔ (L < 7 /\ tst L o = true)))
  (hlast : ∀ {lv : Loc} {H : Hp} {j : Nat} {found o : Int} {Q : OutS -> Prop}, lv.lookup 12 = some (.int o) -> lv.lookup 28 = some (.int (found + o % 128 * (128 : Int) ^ j)) -> lv.lookup 32 = some (.int (7 * j : Nat)) -> 0 <= o -> ¬ 128 <= o -> j <= 9 -> (∀ lv', Q (.ret (.int (oneV sg j found o)) lv' H)) -> Rn T2 ⟨false, callF T2 (d + 2)⟩ rest lv H Q)
  (hnext : ∀ {lv : Loc} {H : Hp} {j : Nat} {o : Int} {Q : OutS -> Prop}, lv.lookup 12 = some (.int o) -> lv.lookup 32 = some (.int (7 * j : Nat)) -> 128 <= o -> Q (.next (setL 32 (.int (7 * (j + 1) : Nat)) lv) H) -> Rn T2 ⟨false, callF T2 (d + 2)⟩ rest lv H Q) :
  Rn T2 ⟨false, callF T2 (d + 2)⟩ (.cons (.whil (.bool true) (readBody test rest)) .nil) lv h fun o => ReadO h c B P0 e (numR bits sg r) (outS o) := by
 obtain ⟨hm0, hm⟩ := most_of b1 b2
 have hm9 : (bits + 6) / 7 <= 10 := by clear hr hB he hi ht hlast hnext; omega
 obtain ⟨K, hK⟩ : ∃ K, K + 1 + 0 = (bits + 6) / 7 := ⟨(bits + 6) / 7 - 1, Nat.sub_add_cancel hm0⟩
 refine r_whil (fun k lv h' => ∃ j found, LI h c B P0 e bits sg r k lv h' j found) K (Nat.lt_of_le_of_lt (Nat.le_of_succ_le (Nat.le_of_eq hK)) (Nat.lt_of_le_of_lt hm (by decide))) ⟨0, 0, (set_same C).symm, hK, l0, l31, l28, l32, l33, Int.le_refl 0, by decide, Nat.zero_le _, by rw [hK, Nat.add_zero, numCont_zero]; rfl⟩ fun k lv h' ⟨j, found, I⟩ => ⟨true, h', rfl, (fun z => nomatch z), fun _ => ?_⟩
 obtain rfl := I.hh
 have C' := C.set (P0 + j)
 have hR := I.hR
 have hk := I.hk
 by_cases q : j < r.length
 case neg =>
  rw [List.drop_eq_nil_of_le (Nat.not_lt.mp q), numCont_nil] at hR
  exact r_assign_raise (e_meth (vq I.l0) C' (f := 4) rfl rfl (run_octet_end C' (he ▸ Nat.add_le_add_left (Nat.not_lt.mp q) P0))) (read_raise hR (List.cons_ne_nil _ _) fun _ => (fun z : P0 + j = e => ⟨z, congrArg Int.ofNat z⟩) (he ▸ congrArg (P0 + ·) (Nat.le_antisymm I.hj (Nat.not_lt.mp q))))
 case pos =>
  have ho1 : r[j]? = some r[j] := List.getElem?_eq_getElem q
  obtain ⟨o0, o1⟩ := hr r[j] (List.getElem_mem q)
  have hBo : B[P0 + j]? = some r[j] := by
   rw [<- List.getElem?_drop, hB, List.getElem?_append_left q]; exact ho1
  have ho := run_octet_ok (d := d) C' (he ▸ Nat.add_lt_add_left q P0) hBo hl
  rw [List.set_set] at ho
  rw [List.drop_eq_getElem_cons q] at hR
  generalize r[j] = o at o0 o1 ho hR
  refine cps fun G_ f_ => ?_
  obtain ⟨L, hL, hL1, hL2, hL3⟩ := left_num hk
  refine f_ ?_
  clear f_ G_
  have n0 : (setL 9 (.int L) (setL 12 (.int o) lv)).lookup 0 = some (.ref c) := zk (by decide) (zk (by decide) I.l0)
  have n31 : (setL 9 (.int L) (setL 12 (.int o) lv)).lookup 31 = some (.int bits) := zk (by decide) (zk (by decide) I.l31)
  have n28 : (setL 9 (.int L) (setL 12 (.int o) lv)).lookup 28 = some (.int found) := zk (by decide) (zk (by decide) I.l28)
  have n32 : (setL 9 (.int L) (setL 12 (.int o) lv)).lookup 32 = some (.int (7 * j : Nat)) := zk (by decide) (zk (by decide) I.l32)
  have n33 : (setL 9 (.int L) (setL 12 (.int o) lv)).lookup 33 = some (.int P0) := zk (by decide) (zk (by decide) I.l33)
  have n9 : (setL 9 (.int L) (setL 12 (.int o) lv)).lookup 9 = some (.int L) := lk_same
  have n12 : (setL 9 (.int L) (setL 12 (.int o) lv)).lookup 12 = some (.int o) := zk (by decide) lk_same
  refine r_assign (e_meth (vq I.l0) C' (f := 4) rfl rfl ho) (r_assign (v := .int L) (v_bin (vq (zk (by decide) I.l31)) (vq (zk (by decide) I.l32)) (congrArg some (sub_left hL))) ?_)
  generalize setL 9 (.int L) (setL 12 (.int o) lv) = lv2 at n0 n31 n28 n32 n33 n9 n12
  have bad : (L < 7 /\ tst L o = true) ↔ (oneV sg j found o < numLo bits sg \/ numHi bits sg <= oneV sg j found o) := by
   by_cases z : L <= 7
   ·rw [hL]; exact (hi I.f0 I.f1 hL1 z).symm
   ·exact ⟨fun w => absurd (Nat.le_of_lt w.1) z, fun w => absurd w (one_fine I.f0 I.f1 (hL ▸ Nat.add_le_add_left (Nat.le_of_not_le z) _))⟩
  refine r_ite (t_of (v_and2 (b := tst L o) (v_cmp (vq n9) rfl rfl) fun z => ht hL1 (Nat.le_of_lt (Int.ofNat_lt.mp (of_decide_eq_true z))) n9 n12) rfl) (fun z => ?_) fun z => ?_
  ·obtain ⟨z1, z2⟩ := Bool.and_eq_true_iff.mp z
   have z1 := Int.ofNat_lt.mp (of_decide_eq_true z1)
   have k0 : k = 0 := Decidable.byContradiction fun w => Nat.not_le.mpr z1 (Nat.le_of_succ_le (hL3 w))
   subst k0
   refine r_throw rfl (vq n33) (read_raise ?_ (List.cons_ne_nil _ _) fun z => absurd z (by decide))
   rw [hR]
   by_cases y : 128 <= o
   ·rw [Nat.zero_add, numCont_long _ _ _ _ _ _ y, numT_bad (bad.mp ⟨z1, z2⟩)]
   ·rw [numCont_last _ _ _ _ _ _ _ y, numT_bad (bad.mp ⟨z1, z2⟩)]
  ·have nb : ¬ (oneV sg j found o < numLo bits sg \/ numHi bits sg <= oneV sg j found o) := fun w => by
    obtain ⟨w1, w2⟩ := bad.mpr w
    exact Bool.false_ne_true (z.symm.trans (Bool.and_eq_true_iff.mpr ⟨decide_eq_true (Int.ofNat_lt.mpr w1), w2⟩))
   refine r_ite (t_of (v_and2 (b := decide (128 <= o)) (v_cmp (vq n9) rfl rfl) fun z => v_cmp (vq n12) rfl rfl) rfl) (fun z => ?_) fun z => ?_
   ·obtain ⟨z1, z2⟩ := Bool.and_eq_true_iff.mp z
    have k0 : k = 0 := Decidable.byContradiction fun w => Nat.not_le.mpr (Nat.lt_succ_of_le (Int.ofNat_le.mp (of_decide_eq_true z1))) (hL3 w)
    subst k0
    refine r_throw rfl (vq n33) (read_raise ?_ (List.cons_ne_nil _ _) fun z => absurd z (by decide))
    rw [hR, Nat.zero_add, numCont_long _ _ _ _ _ _ (of_decide_eq_true z2), numT_more nb]
   ·have j9 : j <= 9 := by clear hr hB he hi ht hlast hnext hR bad nb; omega
    refine r_assign (v_bin (vq n28) (v_bin (v_bin (vq n12) rfl bi_and127) (vq n32) (lshift7 o j9)) rfl) ?_
    by_cases y : 128 <= o
    ·obtain ⟨k, rfl⟩ : ∃ k', k = k' + 1 := Nat.exists_eq_succ_of_ne_zero fun w => Bool.false_ne_true (z.symm.trans (Bool.and_eq_true_iff.mpr ⟨decide_eq_true (Int.ofNat_le.mpr (hL2 w)), decide_eq_true y⟩))
     rw [numCont_more _ _ _ _ _ _ _ y] at hR
     exact hnext (zk (by decide) n12) (zk (by decide) n32) y ⟨k, Nat.lt_succ_self k, j + 1, _, rfl, by rw [<- hk]; exact (Nat.succ_add (k + 1) j).symm, zk (by decide) (zk (by decide) n0), zk (by decide) (zk (by decide) n31), zk (by decide) lk_same, lk_same, zk (by decide) (zk (by decide) n33), (found_next I.f0 I.f1).1, (found_next I.f0 I.f1).2, q, hR⟩
    ·rw [numCont_last _ _ _ _ _ _ _ y, numT_good nb] at hR
     refine hlast (zk (by decide) n12) lk_same (zk (by decide) n32) o0 y j9 fun lv' => ?_
     rw [hR]
     exact .inl ⟨rfl, rfl⟩
section
variable {h : Hp} {c p e d P0 : Nat} {B r tail : List Int}
theorem run_unsigned {bits : Nat} (C : Cur h c B P0 e) (hB : B.drop P0 = r ++ tail) (he : e = P0 + r.length) (hl : B.length <= huge) (hr : ∀ x ∈ r, 0 <= x /\ x < 256) (b1 : 1 <= bits) (b2 : bits <= 64) :
  ∃ o, callF T2 (d + 3) false 7 [.ref c, .int bits] h = some o /\ ReadO h c B P0 e (numR bits false r) o := by
 refine call_ex (r := P2.f7) rfl rfl (r_many (v_tup (xk rfl (xk rfl (xk (a_at C rfl) rfl))) (show 3 <= big by decide)) rfl (r_reader false _ _ (fun L o => o % 128 / (2 : Int) ^ L != 0) C hB he hl hr b1 b2 rfl rfl rfl rfl rfl ?_ ?_ ?_ ?_))
 ·intro lv H L o _ _ l9 l12
  exact v_cmp (v_bin (v_bin (vq l12) rfl bi_and127) (vq l9) (bi_shr L)) rfl rfl
 ·intro j L found o f0 f1 _ hL
  exact (oneU f0 f1 (Nat.lt_succ_of_le hL)).trans (and_congr_right fun _ => bne_iff_ne.symm)
 ·intro lv H j found o Q l12 l28 _ _ y _ k
  refine r_if (t_of (v_cmp (vq l12) rfl rfl) rfl) (decide_eq_true (Int.not_le.mp y)) (r_ret (vq l28) ?_)
  have e : oneV false j found o = found + o % 128 * (128 : Int) ^ j := by unfold oneV; rw [Int.mul_comm]; rfl
  exact e ▸ k lv
 ·intro lv H j o Q l12 l32 y k
  exact r_else (t_of (v_cmp (vq l12) rfl rfl) rfl) (decide_eq_false (Int.not_lt.mpr y)) (r_assign (v := .int (7 * (j + 1) : Nat)) (v_bin (vq l32) rfl rfl) (r_nil k))
theorem and64 : ∀ o : Fin 128, (Builtin.bitAnd (o.val : Int) 64 != 0) = decide (64 <= (o.val : Int) % 128) := by decide +kernel
theorem and64' {o : Int} (h0 : 0 <= o) (h1 : ¬ 128 <= o) : (Builtin.bitAnd o 64 != 0) = decide (64 <= o % 128) := by
 obtain ⟨n, rfl⟩ := Int.eq_ofNat_of_zero_le h0
 exact and64 ⟨n, Int.ofNat_lt.mp (Int.not_le.mp h1)⟩
theorem bi_shl1 (j : Nat) (h : j <= 9) : binInt .LShift 1 ((7 * (j + 1) : Nat) : Int) = some ((128 : Int) ^ j * 128) := by
 have e : (128 : Int) ^ j * 128 = (2 : Int) ^ (7 * (j + 1)) := (Int.pow_succ _ _).symm.trans (pow128 (j + 1))
 have k : ∀ n : Nat, n <= 100000 -> binInt .LShift 1 (n : Int) = some ((2 : Int) ^ n) := fun n hn => (if_pos ⟨Int.natCast_nonneg _, Int.ofNat_le.mpr hn, by decide⟩).trans (by rw [Int.one_mul, Int.toNat_natCast])
 exact (k _ (show 7 * (j + 1) <= 100000 by omega)).trans (congrArg some e.symm)
theorem in_two (x a b : Int) (hp : Hp) : cmpop .NotIn (.int x) (.tup [.int a, .int b]) hp = some (.ok (.bool (!(x == a || x == b))) hp) := by
 have e : [a, b].contains x = (x == a || x == b) := by rw [List.contains_cons, List.contains_cons, List.contains_nil, Bool.or_false]
 show some (Out.ok (V.bool (true != [a, b].contains x)) hp) = _
 rw [e]
 cases (x == a || x == b) <;> rfl
theorem run_signed {bits : Nat} (C : Cur h c B P0 e) (hB : B.drop P0 = r ++ tail) (he : e = P0 + r.length) (hl : B.length <= huge) (hr : ∀ x ∈ r, 0 <= x /\ x < 256) (b1 : 1 <= bits) (b2 : bits <= 64) :
  ∃ o, callF T2 (d + 3) false 8 [.ref c, .int bits] h = some o /\ ReadO h c B P0 e (numR bits true r) o := by
 refine call_ex (r := P2.f8) rfl rfl (r_many (v_tup (xk rfl (xk rfl (xk (a_at C rfl) rfl))) (show 3 <= big by decide)) rfl (r_reader true _ _ (fun L o => !(o % 128 / (2 : Int) ^ (L - 1) == 0 || o % 128 / (2 : Int) ^ (L - 1) == 127 / (2 : Int) ^ (L - 1))) C hB he hl hr b1 b2 rfl rfl rfl rfl rfl ?_ ?_ ?_ ?_))
 ·intro lv H L o h1 _ l9 l12
  have s1 : Ev T2 ⟨false, callF T2 (d + 2)⟩ (.bin .Sub (.loc 9) (.int 1)) lv H (.int (L - 1 : Nat)) H := v_bin (vq l9) rfl (congrArg some (bits_one h1))
  exact v_cmp (v_bin (v_bin (vq l12) rfl bi_and127) s1 (bi_shr (L - 1))) (v_tup (xk rfl (xk (v_bin rfl s1 (bi_shr (L - 1))) rfl)) (show 2 <= big by decide)) (in_two _ _ _ _)
 ·intro j L found o f0 f1 h1 hL
  obtain ⟨L, rfl⟩ : ∃ L', L = L' + 1 := ⟨L - 1, (Nat.sub_add_cancel h1).symm⟩
  refine (oneS f0 f1 hL).trans (and_congr (Nat.succ_lt_succ_iff (a := L) (b := 6)).symm ?_)
  show _ ↔ (!(o % 128 / (2 : Int) ^ L == 0 || o % 128 / (2 : Int) ^ L == 127 / (2 : Int) ^ L)) = true
  rw [Bool.not_eq_true', <- Bool.not_eq_true, Bool.or_eq_true_iff, beq_iff_eq, beq_iff_eq]
 ·intro lv H j found o Q l12 l28 l32 o0 y j9 k
  have n12 : (setL 32 (.int (7 * (j + 1) : Nat)) lv).lookup 12 = some (.int o) := zk (by decide) l12
  have n28 : (setL 32 (.int (7 * (j + 1) : Nat)) lv).lookup 28 = some (.int (found + o % 128 * (128 : Int) ^ j)) := zk (by decide) l28
  refine r_assign (v := .int (7 * (j + 1) : Nat)) (v_bin (vq l32) rfl rfl) (r_if (t_of (v_cmp (vq n12) rfl rfl) rfl) (decide_eq_true (Int.not_le.mp y)) (r_ret (v := .int (oneV true j found o)) ?_ (k _)))
  have ht : Tr T2 ⟨false, callF T2 (d + 2)⟩ (.bin .BitAnd (.loc 12) (.int 64)) (setL 32 (.int (7 * (j + 1) : Nat)) lv) H (decide (64 <= o % 128)) H := t_of (v_bin (vq n12) rfl rfl) (congrArg some (and64' o0 y))
  by_cases q : 64 <= o % 128
  ·have e : oneV true j found o = found + o % 128 * (128 : Int) ^ j - (128 : Int) ^ j * 128 := by
    unfold oneV sx; rw [if_pos ⟨rfl, q⟩, Int.mul_sub, Int.add_sub_assoc, Int.mul_comm (o % 128)]
   rw [e]
   exact v_if ht (decide_eq_true q) (v_bin (vq n28) (v_bin rfl (vq lk_same) (bi_shl1 j j9)) rfl)
  ·have e : oneV true j found o = found + o % 128 * (128 : Int) ^ j := by
    unfold oneV sx; rw [if_neg fun z => q z.2, Int.mul_comm]
   rw [e]
   exact v_else ht (decide_eq_false q) (vq n28)
 ·intro lv H j o Q l12 l32 y k
  exact r_assign (v := .int (7 * (j + 1) : Nat)) (v_bin (vq l32) rfl rfl) (r_else (t_of (v_cmp (vq (zk (by decide) l12)) rfl rfl) rfl) (decide_eq_false (Int.not_lt.mpr y)) (r_nil k))
theorem hand_on {f : Nat} {b : E} {r : Fn} {args : List V} {o : Out V} (hr : T2.fn f = some r) (hl : r.ps.length = args.length) (hb : r.body = .cons (.ret b) .nil) (he : ev T2 ⟨false, callF T2 d⟩ b (r.ps.zip args) h = some o) : callF T2 (d + 1) false f args h = some o := by
 cases o with
 | ok v h' => exact call_rn hr hl (hb ▸ r_ret he rfl)
 | raise i h' => exact call_raise hr hl (hb ▸ r_ret_raise he rfl)
noncomputable def rdF : Nat -> Nat
 | 0 => 9
 | 1 => 11
 | 2 => 12
 | 3 => 13
 | _ => 10
noncomputable def rdM : Nat -> Nat
 | 0 => 17
 | 1 => 19
 | 2 => 20
 | 3 => 21
 | _ => 18
noncomputable def rdB : Nat -> Nat
 | 0 => 32
 | 1 => 32
 | 2 => 33
 | 3 => 64
 | _ => 7
theorem run_reader (k : Nat) (hk : k < 5) (C : Cur h c B P0 e) (hB : B.drop P0 = r ++ tail) (he : e = P0 + r.length) (hl : B.length <= huge) (hr : ∀ x ∈ r, 0 <= x /\ x < 256) :
  ∃ o, callF T2 (d + 4) false (rdF k) [.ref c] h = some o /\ ReadO h c B P0 e (numR (rdB k) (k != 0) r) o := by
 have sg : ∀ (bits f : Nat) (fn : Fn), T2.fn f = some fn -> fn.ps = [0] -> fn.body = .cons (.ret (.mcall (.loc 0) 16 (.cons (.int bits) .nil))) .nil -> 1 <= bits -> bits <= 64 -> ∃ o, callF T2 (d + 4) false f [.ref c] h = some o /\ ReadO h c B P0 e (numR bits true r) o := fun bits f fn h1 h2 h3 b1 b2 => by
  obtain ⟨o, ho, q⟩ := run_signed (d := d) C hB he hl hr b1 b2
  exact ⟨o, hand_on h1 (by rw [h2]; rfl) h3 (by rw [h2]; exact e_meth1 rfl C (f := 8) rfl rfl rfl ho), q⟩
 match k, hk with
 | 0, _ =>
  obtain ⟨o, ho, q⟩ := run_unsigned (d := d) (bits := 32) C hB he hl hr (by decide) (by decide)
  exact ⟨o, hand_on (f := 9) (r := P2.f9) rfl rfl rfl (e_meth1 rfl C (f := 7) rfl rfl rfl ho), q⟩
 | 1, _ => exact sg 32 11 P2.f11 rfl rfl rfl (by decide) (by decide)
 | 2, _ => exact sg 33 12 P2.f12 rfl rfl rfl (by decide) (by decide)
 | 3, _ => exact sg 64 13 P2.f13 rfl rfl rfl (by decide) (by decide)
 | 4, _ => exact sg 7 10 P2.f10 rfl rfl rfl (by decide) (by decide)
theorem run_left {hm : Bool} (C : Cur h c B p e) : callF T2 (d + 1) hm 1 [.ref c] h = some (.ok (.int ((e : Int) - p)) h) :=
 call_rn (r := P2.f1) rfl rfl (r_ret (v_bin (a_end C rfl) (a_at C rfl) rfl) rfl)
theorem run_is_done {hm : Bool} (C : Cur h c B p e) : callF T2 (d + 1) hm 2 [.ref c] h = some (.ok (.bool (decide ((e : Int) <= p))) h) :=
 call_rn (r := P2.f2) rfl rfl (r_ret (v_cmp (a_at C rfl) (a_end C rfl) rfl) rfl)
end
noncomputable def boundS : List Nat := [108, 101, 110, 103, 116, 104, 32, 111, 117, 116, 32, 111, 102, 32, 98, 111, 117, 110, 100, 115]
section
variable {h : Hp} {c p e d P0 : Nat} {B r tail : List Int}
theorem room_iff {P0 n m L : Nat} : ((P0 + L : Nat) : Int) - ((P0 + n : Nat) : Int) < (m : Int) ↔ L < n + m := by omega
theorem big60 {a b : Nat} (h : a <= 9900) (h' : b <= 9900) : a + b < 2 ^ 60 := Nat.lt_of_le_of_lt (Nat.add_le_add h h') (by decide)
theorem run_take {n m : Nat} (C : Cur h c B p e) (hB : B.drop p = r ++ tail) (he : e = p + r.length) (hl : B.length <= 9900) (hm : m <= r.length) (hp : p <= 9900) :
  callF T2 (d + 2) false 5 [.ref c, .int m] h = some (.ok (.bytes (r.take m)) (h.set c (curO B (p + m) e))) := by
 have hrl : r.length <= 9900 := by
  have := congrArg List.length hB
  rw [List.length_drop, List.length_append] at this
  exact Nat.le_trans (Nat.le_trans (Nat.le_add_right _ _) (Nat.le_of_eq this.symm)) (Nat.le_trans (Nat.sub_le _ _) hl)
 have hlb : B.length <= big := Nat.le_trans hl (by decide)
 have hc : Ev T2 ⟨false, callF T2 (d + 1)⟩ (.slice (.attr (.loc 0) 7) (.attr (.loc 0) 6) (.bin .Add (.attr (.loc 0) 6) (.loc 24))) [(0, .ref c), (24, .int m)] h (.bytes (r.take m)) h := by
  have z : Ev T2 ⟨false, callF T2 (d + 1)⟩ (.slice (.attr (.loc 0) 7) (.attr (.loc 0) 6) (.bin .Add (.attr (.loc 0) 6) (.loc 24))) [(0, .ref c), (24, .int m)] h (.bytes ((B.drop p).take m)) h := v_sliceB (c := m) (a_buf C rfl) rfl (a_at C rfl) rfl (v_bin (a_at C rfl) (vq rfl) rfl) (big60 hp (Nat.le_trans hm hrl)) hlb
  rwa [hB, List.take_append_of_le_length hm] at z
 have hlen : (r.take m).length <= big := Nat.le_trans (List.length_take_le' m r) (Nat.le_trans hrl (by decide))
 exact call_rn (r := P2.f5) rfl rfl (r_else (t_of (v_cmp (vq rfl) (e_meth rfl C (f := 1) rfl rfl (run_left C)) rfl) rfl) (decide_eq_false fun z => Nat.not_lt.mpr hm (by rw [he] at z; have := (room_iff (n := 0)).mp z; rwa [Nat.zero_add] at this))
  (r_assign (v_call (xk hc rfl) (c_bytes from_bytes hlen)) (r_move C rfl (vq rfl) (r_ret (vq lk_same) rfl))))
end
theorem int_beq (a b : Nat) : ((a : Int) == (b : Int)) = (a == b) := by
 rw [Bool.eq_iff_iff, beq_iff_eq, beq_iff_eq]; exact Int.ofNat_inj
noncomputable def nats (l : List Nat) : List V := l.map fun n : Nat => V.int n
theorem intsOf_nats (l : List Nat) : intsOf (nats l) = some (l.map fun n : Nat => (n : Int)) := by
 rw [<- intsOf_map, List.map_map]; rfl
theorem contains_nat (k : Nat) : ∀ l : List Nat, (l.map fun n : Nat => (n : Int)).contains (k : Int) = l.contains k
 | [] => rfl
 | a :: l => by rw [List.map_cons, List.contains_cons, List.contains_cons, int_beq, contains_nat k l]
section
variable {T : Tab} {x : X} {lv : Loc} {hp : Hp} {y k : Nat} {es : Es} {l : List Nat}
theorem t_in (hk : lv.lookup y = some (.int k)) (he : Ev T x (.tup es) lv hp (.tup (nats l)) hp) : Tr T x (.cmp .In (.loc y) (.tup es)) lv hp (l.contains k) hp := t_of (v_cmp (u := .bool (l.contains k)) (vq hk) he (by
 show Option.map _ (intsOf (nats l)) = _
 rw [intsOf_nats]
 show some (Out.ok (V.bool (false != _)) hp) = _
 rw [contains_nat]
 cases l.contains k <;> rfl)) rfl
theorem t_is {j : Nat} (hk : lv.lookup y = some (.int k)) : Tr T x (.cmp .Eq (.loc y) (.int (j : Nat))) lv hp (k == j) hp := t_of (v_cmp (u := .bool (k == j)) (vq hk) rfl (by
 show some (Out.ok (V.bool ((k : Int) == (j : Int))) hp) = _
 rw [int_beq])) rfl
end
noncomputable def wids : List Nat := [32, 0, 32, 0, 0, 0, 8, 0, 33, 64, 0, 7]
noncomputable def bitsOf (k : Nat) (f : Int) : Nat := if [4, 10].contains k = true then (64 - f % 64).toNat else wids.getD k 0
theorem bits_sub (f : Int) : binInt .Sub 64 (f % 64) = some (((64 - f % 64).toNat : Nat) : Int) := by
 have := mod_ge (a := f) 64 (by decide)
 exact congrArg some (Int.toNat_of_nonneg (by omega)).symm
section
variable {d : Nat} {hm : Bool} {hp : Hp} {f : Int}
theorem run_width0 {k : Nat} (q : [4, 10].contains k = true) : callF T2 (d + 1) hm 27 [.int k, .int f] hp = some (.ok (.int (bitsOf k f)) hp) := by
 refine call_rn (r := P2.f27) rfl rfl (r_if (t_in (k := k) (l := [4, 10]) rfl rfl) q (r_ret (v := .int (bitsOf k f)) ?_ rfl))
 rw [show bitsOf k f = (64 - f % 64).toNat from if_pos q]
 exact v_bin rfl (v_bin rfl rfl (bi_mod (by decide) (by decide))) (bits_sub f)
theorem run_width (k : Nat) (hk : k < 12) : ∃ e, callF T2 (d + 1) hm 27 [.int k, .int f] hp = some (.ok (.int (bitsOf k f)) (hp ++ e)) := by
 cases q : [4, 10].contains k with
 | true => exact ⟨[], by rw [List.append_nil]; exact run_width0 q⟩
 | false =>
  refine ⟨[.list (nats wids)], call_rn (r := P2.f27) rfl rfl (r_else (t_in (k := k) (l := [4, 10]) rfl rfl) q (r_ret (v := .int (bitsOf k f)) (v_menu (vs := nats wids) (j := k) (k := k) rfl rfl (show 12 <= big by decide) (idx_nat hk (show 12 <= huge by decide)) ?_) rfl))⟩
  rw [show bitsOf k f = wids.getD k 0 from if_neg (by rw [q]; exact Bool.false_ne_true)]
  unfold nats
  rw [List.getElem?_map, List.getD_eq_getElem?_getD, List.getElem?_eq_getElem hk]; rfl
end
noncomputable def loS : Bool -> Int
 | true => -64
 | false => 0
noncomputable def hiS : Bool -> Int
 | true => 64
 | false => 128
def Rg (sg : Bool) (j : Nat) (n : Int) : Prop := loS sg * (128 : Int) ^ j <= n /\ n < hiS sg * (128 : Int) ^ j
theorem lim_small (sg : Bool) : (loS sg).natAbs < 2 ^ 400 /\ (hiS sg).natAbs < 2 ^ 400 := by cases sg <;> exact ⟨by decide, by decide⟩
theorem v_lim {x : X} {lv : Loc} {hp : Hp} {sg : Bool} (l : lv.lookup 57 = some (.bool sg)) : Ev T2 x (.ite (.loc 57) (.tup (.cons (.neg (.int 64)) (.cons (.int 64) .nil))) (.tup (.cons (.int 0) (.cons (.int 128) .nil)))) lv hp (.tup [.int (loS sg), .int (hiS sg)]) hp := by
 cases sg with
 | true => exact v_if (t_of (vq l) rfl) rfl rfl
 | false => exact v_else (t_of (vq l) rfl) rfl rfl
theorem le9 {j k : Nat} (e : j + k = 9) : j <= 9 := e ▸ Nat.le_add_right j k
theorem dn9 {j k : Nat} (e : j + k = 9) (h : k ≠ 0) : k - 1 < k /\ j + 1 + (k - 1) = 9 := by omega
theorem run_groups {d : Nat} {hm : Bool} {hp : Hp} (hne : hp ≠ []) (n : Int) (sg : Bool) (h9 : Rg sg 9 n) :
  ∃ j : Nat, j <= 9 /\ callF T2 (d + 1) hm 30 [.int n, .bool sg] hp = some (.ok (.ref hp.length) (hp ++ [.list ((groups n (j + 1)).map .int)])) /\ Rg sg j n /\ (j = 0 \/ ¬ Rg sg (j - 1) n) := by
 have R : ∃ out, callF T2 (d + 1) hm 30 [.int n, .bool sg] hp = some out /\ ∃ j : Nat, out = .ok (.ref hp.length) (hp ++ [.list ((groups n (j + 1)).map .int)]) /\ j <= 9 /\ Rg sg j n /\ (j = 0 \/ ¬ Rg sg (j - 1) n) := by
  refine call_ex (r := P2.f30) rfl rfl (r_assign rfl (r_many (v_lim rfl) rfl (r_whil (fun k lv h => h = hp /\ lv.lookup 36 = some (.int n) /\ lv.lookup 46 = some (.int (loS sg)) /\ lv.lookup 58 = some (.int (hiS sg)) /\ ∃ j : Nat, lv.lookup 24 = some (.int (j + 1 : Nat)) /\ j + k = 9 /\ (j = 0 \/ ¬ Rg sg (j - 1) n)) 9 (by decide) ⟨rfl, rfl, rfl, rfl, 0, rfl, rfl, .inl rfl⟩ fun k lv h ⟨e, l1, l46, l58, j, l2, m2, m3⟩ => ?_)))
  subst e
  have pw : Ev T2 ⟨hm, callF T2 d⟩ (.bin .Pow (.int 128) (.bin .Sub (.loc 24) (.int 1))) lv h (.int (128 ^ j)) h := v_bin rfl (v_bin (vq l2) rfl rfl) (by rw [sub11]; exact bi_pow (by decide) (Nat.le_trans (le9 m2) (by decide)))
  have hp128 : ((128 : Int) ^ j).natAbs < 2 ^ 400 := natAbs_pow_lt (m := 10) (Nat.le_succ_of_le (le9 m2)) (by decide) (by decide)
  refine ⟨_, h, t_of (v_or (v_cmp (vq l1) (v_bin (vq l46) pw (bi_mul (lim_small sg).1 hp128)) rfl) (v_cmp (vq l1) (v_bin (vq l58) pw (bi_mul (lim_small sg).2 hp128)) rfl)) rfl, fun q => ?_, fun q => ?_⟩
  ·obtain ⟨q1, q2⟩ := (Bool.or_eq_false_iff).mp q
   refine r_ret (v_up hne (m := j + 1) (v_call (xk (vq l2) rfl) rfl) (Nat.lt_of_le_of_lt (Nat.succ_le_succ (le9 m2)) (by decide)) (fun k => .int (grp n (j + 1) k)) fun k hk acc => ?_) ⟨j, by unfold groups; rw [List.map_map]; rfl, le9 m2, ⟨Int.not_lt.mp (of_decide_eq_false q1), Int.not_le.mp (of_decide_eq_false q2)⟩, m3⟩
   have b1 := bi_pow (a := 128) (k := k) (by decide) (Nat.le_trans (Nat.le_of_lt hk) (Nat.le_trans (Nat.succ_le_succ (le9 m2)) (by decide)))
   have b2 := bi_fdp (a := n) (c := 128) (k := k) (m := 10) (by decide) (Nat.le_trans (Nat.le_of_lt hk) (Nat.succ_le_succ (le9 m2))) (by decide)
   have c36 : ((53, V.int k) :: lv).lookup 36 = some (.int n) := l1
   have c24 : ((53, V.int k) :: lv).lookup 24 = some (.int (j + 1 : Nat)) := l2
   have A : Ev T2 ⟨hm, callF T2 d⟩ (.bin .Mod (.bin .FloorDiv (.loc 36) (.bin .Pow (.int 128) (.loc 53))) (.int 128)) ((53, V.int k) :: lv) (h ++ [.list acc]) (.int (n / 128 ^ k % 128)) (h ++ [.list acc]) := v_bin (v_bin (vq c36) (v_bin rfl (vq rfl) b1) b2) rfl rfl
   have L : Tr T2 ⟨hm, callF T2 d⟩ (.cmp .Lt (.loc 53) (.bin .Sub (.loc 24) (.int 1))) ((53, V.int k) :: lv) (h ++ [.list acc]) (decide ((k : Int) < ((j + 1 : Nat) : Int) - 1)) (h ++ [.list acc]) := t_of (v_cmp (vq rfl) (v_bin (vq c24) rfl rfl) rfl) rfl
   by_cases q : (k : Int) < ((j + 1 : Nat) : Int) - 1
   ·exact v_bin A (v_if L (decide_eq_true q) rfl) (by unfold grp; rw [if_pos q]; rfl)
   ·exact v_bin A (v_else L (decide_eq_false q) rfl) (by unfold grp; rw [if_neg q]; rfl)
  ·have q : ¬ Rg sg j n := fun z => (Bool.or_eq_true_iff.mp q).elim (fun q => Int.not_lt.mpr z.1 (of_decide_eq_true q)) fun q => Int.not_le.mpr z.2 (of_decide_eq_true q)
   have k0 : k ≠ 0 := fun z => by
    obtain rfl : j = 9 := by rw [z] at m2; exact m2
    exact q h9
   exact r_assign (v := .int (j + 1 + 1 : Nat)) (v_bin (vq l2) rfl rfl) (r_nil ⟨k - 1, (dn9 m2 k0).1, rfl, zk (by decide) l1, zk (by decide) l46, zk (by decide) l58, j + 1, lk_same, (dn9 m2 k0).2, .inr q⟩)
 obtain ⟨out, e, j, rfl, j9, r⟩ := R
 exact ⟨j, j9, e, r⟩
theorem run_uleb {d : Nat} {hm : Bool} {hp : Hp} (hne : hp ≠ []) {n : Int} (h0 : 0 <= n) (h1 : n < 18446744073709551616) : callF T2 (d + 1) hm 30 [.int n, .bool false] hp = some (.ok (.ref hp.length) (hp ++ [.list ((uleb 9 n).map .int)])) := by
 obtain ⟨j, hj, e, q1, q2⟩ := run_groups (d := d) (hm := hm) hne n false ⟨Int.le_trans (by decide) h0, Int.lt_of_lt_of_le h1 (by decide)⟩
 rw [e, uleb_groups j 9 n hj h0 (by rw [p128, Int.mul_comm]; exact q1.2) (q2.imp id fun z => ?_)]
 cases j with
 | zero => exact absurd ⟨Int.le_trans (by decide) h0, q1.2⟩ z
 | succ j =>
  rw [p128, Int.mul_comm]
  exact Int.not_lt.mp fun w => z ⟨Int.le_trans (Int.le_of_eq (Int.zero_mul _)) h0, w⟩
theorem run_sleb {d : Nat} {hm : Bool} {hp : Hp} (hne : hp ≠ []) {n : Int} (h0 : -9223372036854775808 <= n) (h1 : n < 9223372036854775808) : callF T2 (d + 1) hm 30 [.int n, .bool true] hp = some (.ok (.ref hp.length) (hp ++ [.list ((sleb 9 n).map .int)])) := by
 obtain ⟨j, hj, e, q1, q2⟩ := run_groups (d := d) (hm := hm) hne n true ⟨Int.le_trans (by decide) h0, Int.lt_of_lt_of_le h1 (by decide)⟩
 rw [e, sleb_groups j 9 n hj q1 q2]
noncomputable def ptq (n : Int) (k : Nat) : Int := (n / (1112064 : Int) ^ k + 700 * (k : Int) ^ 3) % 1112064
noncomputable def ptf (n : Int) (k : Nat) : Int := if ptq n k < 55296 then ptq n k else ptq n k + 2048
theorem ptf_pt (n : Int) (k : Nat) : pt (ptf n k) := by
 have M := mod_ge (a := n / (1112064 : Int) ^ k + 700 * (k : Int) ^ 3) 1112064 (by decide)
 show pt (if ptq n k < 55296 then ptq n k else ptq n k + 2048)
 have M : 0 <= ptq n k /\ ptq n k < 1112064 := M
 generalize ptq n k = q at M
 by_cases z : q < 55296
 ·rw [if_pos z]; exact ⟨M.1, Int.lt_trans z (by decide), fun w => Int.not_lt.mpr w.1 z⟩
 ·rw [if_neg z]; exact ⟨by omega, by omega, by omega⟩
noncomputable def ptsL (n : Int) (m : Nat) : List Int := (List.range m).map (ptf n)
theorem ptsL_pt {n : Int} {m : Nat} : ∀ p ∈ ptsL n m, pt p := fun p hp => by
 obtain ⟨k, _, rfl⟩ := List.mem_map.mp hp
 exact ptf_pt n k
theorem ptsL_len (n : Int) (m : Nat) : (ptsL n m).length = m := by unfold ptsL; rw [List.length_map, List.length_range]
theorem cube {k : Nat} (h : k < 4) : ((k : Int) ^ 3).natAbs < 2 ^ 400 /\ ((k : Int)).natAbs < 2 ^ 64 := by
 match k, h with
 | 0, _ => decide
 | 1, _ => decide
 | 2, _ => decide
 | 3, _ => decide
def PI (hp : Hp) (n : Int) (m : Nat) (r : List V) (lv : Loc) (h : Hp) : Prop := ∃ (ks : List Nat) (acc : List Int), r = nats ks /\ h = hp ++ [.list (acc.map .int)] /\ lv.lookup 52 = some (.ref hp.length) /\ lv.lookup 36 = some (.int n) /\ (∀ k ∈ ks, k < 4) /\ acc.length + ks.length <= 4 /\ acc ++ ks.map (ptf n) = ptsL n m
theorem pi_room {a c : Nat} (h : a + (c + 1) <= 4) : a <= big /\ a + 1 + c <= 4 := by
 unfold big; omega
theorem run_points {d : Nat} {hp : Hp} (hne : hp ≠ []) (n : Int) (m : Nat) (hm : m <= 4) : callF T2 (d + 1) false 28 [.int n, .int m] hp = some (.ok (.ref hp.length) (hp ++ [.list ((ptsL n m).map .int)])) := by
 have hln : hp.length ≠ 0 := fun z => hne (List.length_eq_zero_iff.mp z)
 refine call_rn (r := P2.f28) rfl rfl (r_assign (v_list rfl (by decide)) (r_fori (I := fun _ => True) (PI hp n m) rfl (v_call rfl rfl) (it_range (n := m) (Nat.lt_of_le_of_lt hm (by decide))) (gives_range 1 m 0) (by rw [rangeL_len]; exact Nat.lt_of_le_of_lt hm (by decide)) (fun _ _ _ _ => trivial)
  ⟨List.range m, [], rangeL_zero m, rfl, lk_same, rfl, fun k hk => Nat.lt_of_lt_of_le (List.mem_range.mp hk) hm, by rw [List.length_range]; exact Nat.le_trans (Nat.le_of_eq (Nat.zero_add _)) hm, rfl⟩ (fun v r lv h I => ?_) fun lv h I => ?_))
 ·obtain ⟨ks, acc, hr, rfl, l52, l36, h4, hlen, heq⟩ := I
  cases ks with
  | nil => exact nomatch hr
  | cons k ks =>
   obtain ⟨rfl, rfl⟩ := List.cons.inj hr
   have k4 := h4 k List.mem_cons_self
   obtain ⟨z1, z2⟩ := pi_room hlen
   have c := cube k4
   refine ⟨_, rfl, r_assign (v := .int (ptq n k)) (v_bin (v_bin (v_bin (vq (zk (by decide) l36)) (v_bin rfl (vq lk_same) (bi_pow (by decide) (Nat.le_trans (Nat.le_of_lt k4) (by decide)))) (bi_fdp (m := 4) (by decide) (Nat.le_of_lt k4) (by decide))) (v_bin rfl (v_bin (vq lk_same) rfl (bi_pow (k := 3) c.2 (by decide))) (bi_mul (by decide) c.1)) rfl) rfl (bi_mod (by decide) (by decide))) ?_⟩
   have n52 : (setL 42 (.int (ptq n k)) (setL 53 (.int k) lv)).lookup 52 = some (.ref hp.length) := zk (by decide) (zk (by decide) l52)
   have n36 : (setL 42 (.int (ptq n k)) (setL 53 (.int k) lv)).lookup 36 = some (.int n) := zk (by decide) (zk (by decide) l36)
   have n42 : (setL 42 (.int (ptq n k)) (setL 53 (.int k) lv)).lookup 42 = some (.int (ptq n k)) := lk_same
   generalize setL 42 (.int (ptq n k)) (setL 53 (.int k) lv) = lv2 at n52 n36 n42
   have E : Ev T2 ⟨false, callF T2 d⟩ (.ite (.cmp .Lt (.loc 42) (.int 55296)) (.loc 42) (.bin .Add (.loc 42) (.int 2048))) lv2 (hp ++ [.list (acc.map .int)]) (.int (ptf n k)) (hp ++ [.list (acc.map .int)]) := by
    have t : Tr T2 ⟨false, callF T2 d⟩ (.cmp .Lt (.loc 42) (.int 55296)) lv2 (hp ++ [.list (acc.map .int)]) (decide (ptq n k < 55296)) _ := t_of (v_cmp (vq n42) rfl rfl) rfl
    unfold ptf
    by_cases q : ptq n k < 55296
    ·rw [if_pos q]; exact v_if t (decide_eq_true q) (vq n42)
    ·rw [if_neg q]; exact v_else t (decide_eq_false q) (v_bin (vq n42) rfl rfl)
   refine r_expr (v_mcall (vq n52) (k_list g0 rfl) (xk E rfl) (m_lapp g0 hln (by rw [List.length_map]; exact z1))) (r_nil ⟨ks, acc ++ [ptf n k], rfl, ?_, n52, n36, fun j hj => h4 j (List.mem_cons_of_mem _ hj), ?_, ?_⟩)
   ·rw [s0, List.map_append]; rfl
   ·rw [List.length_append]; exact z2
   ·rw [<- heq, List.append_assoc]; rfl
 ·obtain ⟨ks, acc, hr, rfl, l52, l36, h4, hlen, heq⟩ := I
  cases ks with
  | cons k ks => exact nomatch hr
  | nil =>
   rw [List.map_nil, List.append_nil] at heq
   rw [<- heq]
   exact r_ret (vq l52) rfl
noncomputable def s64 (p : Int) (k : Nat) : V := .int (128 + p / (64 : Int) ^ k % 64)
theorem comp64 {T : Tab} {x : X} (p : Int) (w : Int) (l : List Nat) {lv : Loc} {hp : Hp} (hne : hp ≠ []) (hlv : lv.lookup 42 = some (.int p)) (hi : Ev T x (.callg 54 (.bi .range) (.cons (.bin .Sub (.loc 45) (.int 1)) (.cons (.neg (.int 1)) (.cons (.neg (.int 1)) .nil)))) lv hp (.range w (-1) (-1)) hp)
  (hit : itOf (.range w (-1) (-1)) hp = some (.ok (.range w l.length (-1)) hp)) (hr : rangeL w (-1) l.length = nats l) (hl : l.length <= 4) (hk : ∀ k ∈ l, k <= 4) :
  Ev T x (.comp (.bin .Add (.int 128) (.bin .Mod (.bin .FloorDiv (.loc 42) (.bin .Pow (.int 64) (.loc 53))) (.int 64))) 53 (.callg 54 (.bi .range) (.cons (.bin .Sub (.loc 45) (.int 1)) (.cons (.neg (.int 1)) (.cons (.neg (.int 1)) .nil)))) .nil) lv hp (.ref hp.length)
   (hp ++ [.list (l.map (s64 p))]) := by
 have z := v_map (elt := .bin .Add (.int 128) (.bin .Mod (.bin .FloorDiv (.loc 42) (.bin .Pow (.int 64) (.loc 53))) (.int 64))) (y := 53) hne hi hit (by cases x.hm <;> rfl) (gives_range (-1) l.length w) (by rw [rangeL_len]; exact Nat.lt_of_le_of_lt hl (by decide)) (fun v => s64 p (v.int?.getD 0).toNat) fun v hv acc => by
  rw [hr] at hv
  obtain ⟨k, hkm, rfl⟩ := List.mem_map.mp hv
  have b2 := bi_fdp (a := p) (c := 64) (k := k) (m := 4) (by decide) (hk k hkm) (by decide)
  exact v_bin rfl (v_bin (v_bin (a := p) (vq hlv) (v_bin (r := .loc 53) rfl rfl (bi_pow (by decide) (Nat.le_trans (hk k hkm) (by decide)))) b2) rfl rfl) rfl
 rw [hr, nats, List.map_map] at z
 exact z
theorem filter_three {p : Int} (h0 : 0 <= p) : (([128, 2048, 65536] : List Int).filter fun k => decide (k <= p)).length + 1 = wid p := by
 rw [<- filter_le]
 exact (congrArg List.length (List.filter_cons_of_pos (p := fun k : Int => decide (k <= p)) (a := 0) (l := [128, 2048, 65536]) (decide_eq_true h0))).symm
theorem run_follow {d : Nat} {hp : Hp} (hne : hp ≠ []) {p : Int} (h0 : 0 <= p) : ∃ (L : List V) (f : Nat), f + 1 = wid p /\ Ev T2 ⟨false, callF T2 d⟩ (.callg 26 (.bi .len) (.cons (.comp (.loc 46) 46 (.tup (.cons (.int 128) (.cons (.int 2048) (.cons (.int 65536) .nil)))) (.cons (.cmp .GtE (.loc 42) (.loc 46)) .nil)) .nil)) [(42, .int p)] hp (.int f) (hp ++ [.list L]) := by
 have hl : ((([V.int 128, .int 2048, .int 65536].filter fun v => (v.int?.map fun k => decide (k <= p)).getD false)).map fun v => v).length + 1 = wid p := by
  rw [List.map_id', show ([V.int 128, .int 2048, .int 65536].filter fun v => (v.int?.map fun k => decide (k <= p)).getD false) = (([128, 2048, 65536] : List Int).filter fun k => decide (k <= p)).map V.int from List.filter_map (l := ([128, 2048, 65536] : List Int)) (f := V.int), List.length_map, filter_three h0]
 have hc := v_comp (T := T2) (x := ⟨false, callF T2 d⟩) (elt := .loc 46) (iter := .tup (.cons (.int 128) (.cons (.int 2048) (.cons (.int 65536) .nil)))) (y := 46) (conds := .cons (.cmp .GtE (.loc 42) (.loc 46)) .nil) (lv := [(42, .int p)]) (hp := hp) (v := .tup [.int 128, .int 2048, .int 65536]) hne
  rfl rfl rfl (gives_seq _) (by decide) (fun v => (v.int?.map fun k => decide (k <= p)).getD false) (fun v => v) (fun v hv acc => by
   obtain ⟨k, _, rfl⟩ := List.mem_map.mp (show v ∈ ([128, 2048, 65536] : List Int).map V.int from hv)
   exact t_conds (t_of rfl rfl)) fun v hv _ acc => rfl
 generalize ((([V.int 128, .int 2048, .int 65536].filter fun v => (v.int?.map fun k => decide (k <= p)).getD false)).map fun v => v) = L at hl hc
 exact ⟨L, L.length, hl, v_call (xk hc rfl) (c_len listLast (Nat.le_trans (Nat.le_of_succ_le (Nat.le_trans (Nat.le_of_eq hl) (wid_le p))) (by decide)))⟩
theorem run_signF {d : Nat} {hp : Hp} {p : Int} {f : Nat} {L : List V} (hev : Ev T2 ⟨false, callF T2 d⟩ (.callg 26 (.bi .len) (.cons (.comp (.loc 46) 46 (.tup (.cons (.int 128) (.cons (.int 2048) (.cons (.int 65536) .nil)))) (.cons (.cmp .GtE (.loc 42) (.loc 46)) .nil)) .nil)) [(42, .int p)] hp (.int f) (hp ++ [.list L]))
  (m : Int) (l : List Nat) (e1 : binInt .Pow 64 (f : Int) = some m) (e2 : binInt .FloorDiv p m = some (p / m)) (c : idxOf (f : Int) 4 = some f) {a : Int} (a1 : [V.int 0, .int 192, .int 224, .int 240][f]? = some (.int a))
  (hit : ∀ hp, itOf (.range ((f : Int) - 1) (-1) (-1)) hp = some (.ok (.range ((f : Int) - 1) l.length (-1)) hp)) (hr : rangeL ((f : Int) - 1) (-1) l.length = nats l) (hl : l.length <= 4) (hk : ∀ k ∈ l, k <= 4)
  (z : (enc p).map V.int = .int (a + p / m) :: l.map (s64 p)) :
  ∃ e, callF T2 (d + 1) false 31 [.int p] hp = some (.ok (.ref (hp ++ e).length) (hp ++ e ++ [.list ((enc p).map .int)])) := by
 have A := v_menu (T := T2) (x := ⟨false, callF T2 d⟩) (lv := setL 45 (.int f) [(42, .int p)]) (hp := hp ++ [.list L]) (es := .cons (.int 0) (.cons (.int 192) (.cons (.int 224) (.cons (.int 240) .nil)))) (i := .loc 45) (vs := [.int 0, .int 192, .int 224, .int 240]) rfl rfl (by decide) c a1
 have R := comp64 (T := T2) (x := ⟨false, callF T2 d⟩) p ((f : Int) - 1) l (lv := setL 59 (.int (a + p / m)) (setL 45 (.int f) [(42, .int p)])) (hp := hp ++ [.list L] ++ [.list [.int 0, .int 192, .int 224, .int 240]] ++ [.list [.int (a + p / m)]]) (List.concat_ne_nil _ _) rfl rfl (hit _) hr hl hk
 have Ls := v_list (T := T2) (x := ⟨false, callF T2 d⟩) (lv := setL 59 (.int (a + p / m)) (setL 45 (.int f) [(42, .int p)])) (hp := hp ++ [.list L] ++ [.list [.int 0, .int 192, .int 224, .int 240]]) (es := .cons (.loc 59) .nil) (vs := [.int (a + p / m)]) rfl (show 1 <= big by decide)
 have F := v_add Ls R (listOld listLast) listLast (by rw [List.length_map]; exact Nat.le_trans (Nat.add_le_add_left hl 1) (by decide))
 refine ⟨[.list L] ++ [.list [.int 0, .int 192, .int 224, .int 240]] ++ [.list [.int (a + p / m)]] ++ [.list (l.map (s64 p))], call_rn (r := P2.f31) rfl rfl (r_assign hev (r_assign (v_bin A (v_bin (a := p) rfl (v_bin rfl rfl e1) e2) rfl) (r_ret F ?_)))⟩
 rw [z, <- app2, <- app2, <- app2]; rfl
theorem in_range {a m : Int} (h0 : 0 <= a) (h : a < m) : a % m = a := Int.emod_eq_of_lt h0 h
theorem run_sign {d : Nat} {hp : Hp} (hne : hp ≠ []) {p : Int} (hpt : pt p) : ∃ e, callF T2 (d + 1) false 31 [.int p] hp = some (.ok (.ref (hp ++ e).length) (hp ++ e ++ [.list ((enc p).map .int)])) := by
 obtain ⟨p0, p1, _⟩ := hpt
 obtain ⟨L, f, hf, hev⟩ := run_follow (d := d) hne p0
 have e0 : ∀ a : Int, a / 64 ^ 0 = a := fun a => (show a / 64 ^ 0 = a / 1 from rfl).trans (Int.ediv_one a)
 by_cases h1 : p < 128
 ·have w := wid1 p0 h1
  obtain rfl : f = 0 := Nat.succ.inj (hf.trans w)
  refine run_signF hev 1 [] rfl rfl rfl rfl (fun _ => rfl) rfl (by decide) (by decide) ?_
  unfold enc
  rw [w]
  show [V.int (p % 256)] = [V.int (0 + p / 1)]
  rw [in_range p0 (Int.lt_trans h1 (by decide)), Int.ediv_one, Int.zero_add]
 by_cases h2 : p < 2048
 ·have w := wid2 p0 h1 h2
  obtain rfl : f = 1 := Nat.succ.inj (hf.trans w)
  refine run_signF hev 64 [0] rfl rfl rfl rfl (fun _ => rfl) rfl (by decide) (by decide) ?_
  unfold enc
  rw [w]
  show [V.int (192 + p / 64 % 32), .int _] = [V.int (192 + p / 64), .int (128 + p / 64 ^ 0 % 64)]
  rw [e0, in_range (Int.ediv_nonneg p0 (by decide)) (Int.ediv_lt_of_lt_mul (by decide) h2)]
 by_cases h3 : p < 65536
 ·have w := wid3 p0 h1 h2 h3
  obtain rfl : f = 2 := Nat.succ.inj (hf.trans w)
  refine run_signF hev 4096 [1, 0] rfl rfl rfl rfl (fun _ => rfl) rfl (by decide) (by decide) ?_
  unfold enc
  rw [w]
  show [V.int (224 + p / 4096 % 16), .int _, .int _] = [V.int (224 + p / 4096), .int (128 + p / 64 % 64), .int (128 + p / 64 ^ 0 % 64)]
  rw [e0, in_range (m := 16) (Int.ediv_nonneg p0 (by decide)) (Int.ediv_lt_of_lt_mul (by decide) h3)]
 ·have w := wid4 p0 h1 h2 h3
  obtain rfl : f = 3 := Nat.succ.inj (hf.trans w)
  refine run_signF hev 262144 [2, 1, 0] rfl rfl rfl rfl (fun _ => rfl) rfl (by decide) (by decide) ?_
  unfold enc
  rw [w]
  show [V.int (240 + p / 262144 % 8), .int _, .int _, .int _] = [V.int (240 + p / 262144), .int (128 + p / 4096 % 64), .int (128 + p / 64 % 64), .int (128 + p / 64 ^ 0 % 64)]
  rw [e0, in_range (m := 8) (Int.ediv_nonneg p0 (by decide)) (Int.ediv_lt_of_lt_mul (by decide) (Int.lt_trans p1 (by decide)))]
inductive Leaf : Nat -> Int -> V -> List Int -> List Int -> Prop where
 | uns {k : Nat} {f n : Int} : (k = 0 \/ k = 4) -> 0 <= n -> n < (2 : Int) ^ bitsOf k f -> Leaf k f (.int n) (uleb 9 n) []
 | oct {f n : Int} : 0 <= n -> n < 256 -> Leaf 6 f (.int n) [n] []
 | sig {k : Nat} {f n : Int} : (k = 2 \/ k = 8 \/ k = 9 \/ k = 10 \/ k = 11) -> -(2 : Int) ^ (bitsOf k f - 1) <= n -> n < (2 : Int) ^ (bitsOf k f - 1) -> Leaf k f (.int n) (sleb 9 n) []
 | txt {f : Int} {t : List Nat} : (∀ c ∈ t, pt (c : Int)) -> t.length <= 4 -> Leaf 3 f (.str t) (uleb 9 (encs t).length) (encs t)
 | byt {f : Int} {b : List Int} : (∀ x ∈ b, 0 <= x /\ x < 256) -> b.length <= 4 -> Leaf 7 f (.bytes b) [] b
def Kind (Sub : Nat -> List Int -> Prop) (k : Nat) (f : Int) (v : V) (hd bd : List Int) : Prop :=
 Leaf k f v hd bd \/ (k = 1 /\ f = 0 /\ bd.length <= 5000 /\ hd = uleb 9 bd.length /\ ∃ i, v = .ref i /\ Sub i bd)
noncomputable def nodeV (k : Nat) (v : V) (f : Int) (hi bi : Nat) : V := .tup [.int k, v, .int f, .ref hi, .ref bi]
inductive NodesX (F : Nat -> Option (List V)) (Sub : Nat -> List Int -> Prop) : List V -> List Int -> Prop where
 | nil : NodesX F Sub [] []
 | cons {k : Nat} {f : Int} {v : V} {hd bd : List Int} {hi bi : Nat} {vs : List V} {os : List Int} : Kind Sub k f v hd bd -> F hi = some (hd.map .int) -> F bi = some (bd.map .int) -> NodesX F Sub vs os -> NodesX F Sub (nodeV k v f hi bi :: vs) (hd ++ bd ++ os)
def SubD (P : List V -> List Int -> Prop) (F : Nat -> Option (List V)) (i : Nat) (bd : List Int) : Prop := ∃ ws, F i = some ws /\ ws.length <= 900 /\ P ws bd
def NodesD : Nat -> (Nat -> Option (List V)) -> List V -> List Int -> Prop
 | 0, F, vs, os => NodesX F (fun _ _ => False) vs os
 | D + 1, F, vs, os => NodesX F (SubD (NodesD D F) F) vs os
theorem Kind.mono {S S' : Nat -> List Int -> Prop} (hS : ∀ i b, S i b -> S' i b) {k : Nat} {f : Int} {v : V} {hd bd : List Int} (h : Kind S k f v hd bd) : Kind S' k f v hd bd :=
 h.imp id fun ⟨a, b, c, e, i, g, q⟩ => ⟨a, b, c, e, i, g, hS _ _ q⟩
theorem NodesX.mono {F F' : Nat -> Option (List V)} {S S' : Nat -> List Int -> Prop} (hF : ∀ i l, F i = some l -> F' i = some l) (hS : ∀ i b, S i b -> S' i b) {vs : List V} {os : List Int} (h : NodesX F S vs os) : NodesX F' S' vs os :=
 h.rec .nil fun a b c _ ih => .cons (a.mono hS) (hF _ _ b) (hF _ _ c) ih
theorem NodesD.mono {F F' : Nat -> Option (List V)} (hF : ∀ i l, F i = some l -> F' i = some l) : ∀ (D : Nat) {vs : List V} {os : List Int}, NodesD D F vs os -> NodesD D F' vs os
 | 0, _, _, h => NodesX.mono hF (fun _ _ z => z) h
 | D + 1, _, _, h => NodesX.mono hF (fun _ _ ⟨ws, a, l, b⟩ => ⟨ws, hF _ _ a, l, NodesD.mono hF D b⟩) h
theorem NodesD.up {F : Nat -> Option (List V)} : ∀ (D : Nat) {vs : List V} {os : List Int}, NodesD D F vs os -> NodesD (D + 1) F vs os
 | 0, _, _, h => NodesX.mono (fun _ _ z => z) (fun _ _ z => z.elim) h
 | D + 1, _, _, h => NodesX.mono (fun _ _ z => z) (fun _ _ ⟨ws, a, l, b⟩ => ⟨ws, a, l, NodesD.up D b⟩) h
theorem NodesD.le {F : Nat -> Option (List V)} {D : Nat} {vs : List V} {os : List Int} (q : NodesD D F vs os) : ∀ {E : Nat}, D <= E -> NodesD E F vs os
 | 0, h => (Nat.le_zero.mp h) ▸ q
 | E + 1, h => (Nat.lt_or_eq_of_le h).elim (fun z => NodesD.up E (NodesD.le q (Nat.le_of_lt_succ z))) fun z => z ▸ q
theorem NodesX.snoc {F : Nat -> Option (List V)} {S : Nat -> List Int -> Prop} {k : Nat} {f : Int} {v : V} {hd bd : List Int} {hi bi : Nat} (a : Kind S k f v hd bd) (b : F hi = some (hd.map .int)) (c : F bi = some (bd.map .int)) {vs : List V} {os : List Int} (h : NodesX F S vs os) : NodesX F S (vs ++ [nodeV k v f hi bi]) (os ++ (hd ++ bd)) := by
 induction h with
 | nil =>
  have := NodesX.cons a b c .nil
  rw [List.append_nil] at this
  exact this
 | cons a' b' c' _ ih => rw [List.cons_append, List.append_assoc]; exact .cons a' b' c' ih
theorem w4 (f : Int) : 1 <= (64 - f % 64).toNat /\ (64 - f % 64).toNat <= 64 := by omega
theorem bitsU {k : Nat} {f : Int} (h : k = 0 \/ k = 4) : 1 <= bitsOf k f /\ bitsOf k f <= 64 := by
 rcases h with rfl | rfl
 ·exact show 1 <= 32 /\ 32 <= 64 by decide
 ·exact w4 f
theorem bitsS {k : Nat} {f : Int} (h : k = 2 \/ k = 8 \/ k = 9 \/ k = 10 \/ k = 11) : 1 <= bitsOf k f /\ bitsOf k f <= 64 := by
 rcases h with rfl | rfl | rfl | rfl | rfl
 ·exact show 1 <= 32 /\ 32 <= 64 by decide
 ·exact show 1 <= 33 /\ 33 <= 64 by decide
 ·exact show 1 <= 64 /\ 64 <= 64 by decide
 ·exact w4 f
 ·exact show 1 <= 7 /\ 7 <= 64 by decide
theorem two63 {b : Nat} (h : b <= 64) : (2 : Int) ^ (b - 1) <= 9223372036854775808 := Int.le_trans (two_le (Nat.sub_le_sub_right h 1)) (by decide)
theorem two64 {b : Nat} (h : b <= 64) : (2 : Int) ^ b <= 18446744073709551616 := Int.le_trans (two_le h) (by decide)
theorem encs4 {t : List Nat} (h : t.length <= 4) : (encs t).length <= 16 := Nat.le_trans (encs_len t) (Nat.mul_le_mul_left 4 h)
theorem small_nat {m : Nat} (h : m <= 40000) : (0 : Int) <= m /\ (m : Int) < 18446744073709551616 /\ (m : Int) < (128 : Int) ^ (9 + 1) := ⟨Int.natCast_nonneg m, Int.lt_of_le_of_lt (Int.ofNat_le.mpr h) (by decide), Int.lt_of_le_of_lt (Int.ofNat_le.mpr h) (by decide)⟩
theorem Leaf.small {k : Nat} {f : Int} {v : V} {hd bd : List Int} (h : Leaf k f v hd bd) : hd.length + bd.length <= 26 := by
 cases h with
 | uns => exact Nat.le_trans (Nat.add_le_add (uleb_len 9 _) (Nat.le_refl 0)) (by decide)
 | oct => exact show 1 <= 26 by decide
 | sig => exact Nat.le_trans (Nat.add_le_add (sleb_len 9 _) (Nat.le_refl 0)) (by decide)
 | txt a b => exact Nat.le_trans (Nat.add_le_add (uleb_len 9 _) (encs4 b)) (by decide)
 | byt a b => exact Nat.le_trans (Nat.add_le_add (Nat.le_refl 0) b) (by decide)
theorem ten128 {n : Int} (h : n < 18446744073709551616) : n < (128 : Int) ^ (9 + 1) := Int.lt_of_lt_of_le h (by decide)
theorem oct_nil : ∀ x ∈ ([] : List Int), 0 <= x /\ x < 256 := fun x hx => nomatch hx
theorem Leaf.range {k : Nat} {f : Int} {v : V} {hd bd : List Int} (h : Leaf k f v hd bd) : ∀ x ∈ hd ++ bd, 0 <= x /\ x < 256 := by
 cases h with
 | uns a b c => exact oct_app (uleb_range 9 _ b (ten128 (Int.lt_of_lt_of_le c (two64 (bitsU a).2)))) oct_nil
 | oct a b => exact oct_cons ⟨a, b⟩ oct_nil
 | sig => exact oct_app (sleb_range 9 _) oct_nil
 | txt a b => exact oct_app (uleb_range 9 _ (small_nat (Nat.le_trans (encs4 b) (by decide))).1 (small_nat (Nat.le_trans (encs4 b) (by decide))).2.2) (encs_range _)
 | byt a b => exact a
theorem NodesX.range {F : Nat -> Option (List V)} {S : Nat -> List Int -> Prop} (hS : ∀ i b, S i b -> ∀ x ∈ b, 0 <= x /\ x < 256) {vs : List V} {os : List Int} (h : NodesX F S vs os) : ∀ x ∈ os, 0 <= x /\ x < 256 := by
 induction h with
 | nil => exact oct_nil
 | cons a b c _ ih =>
  refine oct_app ?_ ih
  rcases a with a | ⟨_, _, hl, rfl, i, _, q⟩
  ·exact a.range
  ·have := small_nat (Nat.le_trans hl (by decide))
   exact oct_app (uleb_range 9 _ this.1 this.2.2) (hS _ _ q)
theorem NodesD.range {F : Nat -> Option (List V)} : ∀ (D : Nat) {vs : List V} {os : List Int}, NodesD D F vs os -> ∀ x ∈ os, 0 <= x /\ x < 256
 | 0, _, _, h => NodesX.range (fun _ _ z => z.elim) h
 | D + 1, _, _, h => NodesX.range (fun _ _ ⟨_, _, _, q⟩ => NodesD.range D q) h
section
variable {T : Tab} {x : X} {elt iter : E} {y : Nat} {lv : Loc} {hp hp₁ : Hp} {v : V} {it : It}
theorem v_map2 (hne : hp₁ ≠ []) (hi : Ev T x iter lv hp v hp₁) (hit : itOf v hp₁ = some (.ok it hp₁)) (hm : (x.hm && !isRange it) = false)
  {l : List V} (g : Gives (fun h => ∃ acc, h = hp₁ ++ [.list acc]) l it) (hl : l.length < 999) (f : V -> V)
  (he : ∀ v ∈ l, ∀ acc, Ev T x elt ((y, v) :: lv) (hp₁ ++ [.list acc]) (f v) (hp₁ ++ [.list acc])) :
  Ev T x (.comp elt y iter .nil) lv hp (.ref hp₁.length) (hp₁ ++ [.list (l.map f)]) := by
 refine (b_ok ((b_ok hi).trans hit)).trans ?_
 show (if (x.hm && !isRange it) = true then _ else _ : Option (Out V)) = _
 rw [if_neg (by rw [hm]; exact Bool.false_ne_true)]
 show (loopC x.hm (fun lv => evT T x .nil lv) (fun lv => ev T x elt lv) y lv hp₁.length turns it (hp₁ ++ [.list []])).map _ = _
 rw [comp_run hne (fun _ => true) f l turns it [] g (Nat.lt_of_lt_of_le hl (Nat.le_succ 999)) (by show 0 + l.length <= 1000; omega) (fun _ _ _ => rfl) (fun v hv _ acc => he v hv acc), List.filter_eq_self.mpr (fun _ _ => rfl)]; rfl
end
theorem five5 (f : Int) : ∃ m : Nat, (4 : Int) - f % 5 = m /\ m <= 4 := ⟨(4 - f % 5).toNat, by omega, by omega⟩
noncomputable def bytL (n : Int) (m : Nat) : List Int := (List.range m).map fun k : Nat => n / (256 : Int) ^ k % 256
theorem bytL_range {n : Int} {m : Nat} : ∀ x ∈ bytL n m, 0 <= x /\ x < 256 := fun x hx => by
 obtain ⟨k, _, rfl⟩ := List.mem_map.mp hx
 exact mod_ge 256 (by decide)
theorem bytL_len (n : Int) (m : Nat) : (bytL n m).length = m := by unfold bytL; rw [List.length_map, List.length_range]
theorem pow2 {b : Nat} (h : b <= 64) : 0 < (2 : Int) ^ b /\ ((2 : Int) ^ b).natAbs < 2 ^ 400 := ⟨Int.pow_pos (by decide), natAbs_pow_lt (m := 64) h (by decide) (by decide)⟩
theorem bi_two {b : Nat} (h : b <= 64) : binInt .Pow 2 (b : Int) = some ((2 : Int) ^ b) := bi_pow (by decide) (Nat.le_trans h (by decide))
theorem sig_range {P n : Int} (h : 0 < P) : -P <= (n + P) % (P * 2) - P /\ (n + P) % (P * 2) - P < P := by
 have := mod_ge (a := n + P) (P * 2) (by omega)
 omega
theorem kindU : ∀ k < 12, [0, 4, 6].contains k = true -> (k = 0 \/ k = 4) \/ k = 6 := by decide
theorem kindS : ∀ k < 12, (k ≠ 1 /\ k ≠ 5 /\ (k == 3) = false /\ (k == 7) = false /\ [0, 4, 6].contains k = false) -> (k = 2 \/ k = 8 \/ k = 9 \/ k = 10 \/ k = 11) := by decide
section
variable {d k m : Nat} {h hp e0 : Hp} {n f : Int} {lv : Loc}
def ValQ (hp : Hp) (k : Nat) (f : Int) (o : OutS) : Prop := ∃ v hd bd e, outS o = .ok v (hp ++ e) /\ Leaf k f v hd bd
theorem val_str (hne : h ≠ []) (pre : h = hp ++ e0) (l36 : lv.lookup 36 = some (.int n)) (hm4 : m <= 4) (evm : ∀ h, Ev T2 ⟨false, callF T2 (d + 1)⟩ (.bin .Sub (.int 4) (.bin .Mod (.loc 51) (.int 5))) lv h (.int m) h) {ss : Ss} :
  Rn T2 ⟨false, callF T2 (d + 1)⟩ (.cons (.ret (.mcall (.str []) 4 (.cons (.comp (.callg 48 (.bi .chr) (.cons (.loc 42) .nil)) 42 (.callg 56 (.fn 28) (.cons (.loc 36) (.cons (.bin .Sub (.int 4) (.bin .Mod (.loc 51) (.int 5))) .nil))) .nil) .nil))) ss) lv h (ValQ hp 3 f) := by
 have tl : ((ptsL n m).map Int.toNat).length <= 4 := by rw [List.length_map, ptsL_len]; exact hm4
 have hc := v_map2 (T := T2) (x := ⟨false, callF T2 (d + 1)⟩) (elt := .callg 48 (.bi .chr) (.cons (.loc 42) .nil)) (iter := .callg 56 (.fn 28) (.cons (.loc 36) (.cons (.bin .Sub (.int 4) (.bin .Mod (.loc 51) (.int 5))) .nil))) (y := 42) (lv := lv) (hp := h) (List.concat_ne_nil _ _) (v_call (xk (vq l36) (xk (evm h) rfl)) (run_points (d := d) hne n m hm4)) (it_list g0) rfl (gives_list (fun h ⟨acc, z⟩ => by rw [z]; exact list_of (getOld g0)) ((ptsL n m).map .int) 0 rfl) (by rw [List.length_map, ptsL_len]; exact Nat.lt_of_le_of_lt hm4 (by decide)) (fun v => .str [(v.int?.getD 0).toNat]) fun v hv acc => by
  obtain ⟨p, hp, rfl⟩ := List.mem_map.mp hv
  obtain ⟨p0, p1, _⟩ := ptsL_pt p hp
  exact v_call (xk rfl rfl) (if_pos ⟨p0, p1⟩)
 refine r_ret (v_join (t := (ptsL n m).map Int.toNat) hc ?_ (Nat.le_trans tl (by decide))) ⟨_, _, _, e0 ++ ([.list ((ptsL n m).map .int)] ++ [.list (((ptsL n m).map V.int).map fun v => V.str [(v.int?.getD 0).toNat])]), ?_, .txt (t := (ptsL n m).map Int.toNat) (fun c hc => ?_) tl⟩
 ·rw [List.map_map, List.map_map]; exact g0
 ·rw [pre, <- app2, <- app2]; rfl
 ·obtain ⟨p, hp, rfl⟩ := List.mem_map.mp hc
  have := ptsL_pt p hp
  rwa [Int.toNat_of_nonneg this.1]
theorem val_bytes (hne : h ≠ []) (pre : h = hp ++ e0) (l36 : lv.lookup 36 = some (.int n)) (hm4 : m <= 4) (evm : ∀ h, Ev T2 ⟨false, callF T2 (d + 1)⟩ (.bin .Sub (.int 4) (.bin .Mod (.loc 51) (.int 5))) lv h (.int m) h) {ss : Ss} :
  Rn T2 ⟨false, callF T2 (d + 1)⟩ (.cons (.ret (.callg 29 (.bi .bytes) (.cons (.comp (.bin .Mod (.bin .FloorDiv (.loc 36) (.bin .Pow (.int 256) (.loc 53))) (.int 256)) 53 (.callg 54 (.bi .range) (.cons (.bin .Sub (.int 4) (.bin .Mod (.loc 51) (.int 5))) .nil)) .nil) .nil))) ss) lv h (ValQ hp 7 f) := by
 have hc := v_up (T := T2) (x := ⟨false, callF T2 (d + 1)⟩) (elt := .bin .Mod (.bin .FloorDiv (.loc 36) (.bin .Pow (.int 256) (.loc 53))) (.int 256)) (iter := .callg 54 (.bi .range) (.cons (.bin .Sub (.int 4) (.bin .Mod (.loc 51) (.int 5))) .nil)) (y := 53) (lv := lv) (m := m) hne (v_call (xk (evm h) rfl) rfl) (Nat.lt_of_le_of_lt hm4 (by decide)) (fun k => .int (n / (256 : Int) ^ k % 256)) fun k hk acc => by
  have k4 := Nat.le_trans (Nat.le_of_lt hk) hm4
  have c36 : ((53, V.int k) :: lv).lookup 36 = some (.int n) := l36
  exact v_bin (v_bin (vq c36) (v_bin rfl (vq rfl) (bi_pow (by decide) (Nat.le_trans k4 (by decide)))) (bi_fdp (m := 4) (by decide) k4 (by decide))) rfl (bi_mod (by decide) (by decide))
 rw [show (List.range m).map (fun k => V.int (n / (256 : Int) ^ k % 256)) = (bytL n m).map .int by unfold bytL; rw [List.map_map]; rfl] at hc
 have bl : (bytL n m).length <= 4 := by rw [bytL_len]; exact hm4
 exact r_ret (v_call (xk hc rfl) (c_bytes (from_list g0 bytL_range) (Nat.le_trans bl (by decide)))) ⟨_, _, _, e0 ++ [.list ((bytL n m).map .int)], by rw [pre, <- app2]; rfl, .byt bytL_range bl⟩
theorem val_num (pre : h = hp ++ e0) (k12 : k < 12) (k1 : k ≠ 1) (k5 : k ≠ 5) (k3 : (k == 3) = false) (k7 : (k == 7) = false) (l50 : lv.lookup 50 = some (.int k)) (l36 : lv.lookup 36 = some (.int n)) (l31 : lv.lookup 31 = some (.int (bitsOf k f))) :
  Rn T2 ⟨false, callF T2 (d + 1)⟩ (.cons (.ite (.cmp .In (.loc 50) (.tup (.cons (.int 0) (.cons (.int 4) (.cons (.int 6) .nil))))) (.cons (.ret (.bin .Mod (.loc 36) (.bin .Pow (.int 2) (.loc 31)))) .nil) .nil) (.cons (.ret (.bin .Sub (.bin .Mod (.bin .Add (.loc 36) (.bin .Pow (.int 2) (.bin .Sub (.loc 31) (.int 1)))) (.bin .Pow (.int 2) (.loc 31))) (.bin .Pow (.int 2) (.bin .Sub (.loc 31) (.int 1))))) .nil)) lv h (ValQ hp k f) := by
 refine r_ite (t_in (l := [0, 4, 6]) l50 rfl) (fun q => ?_) fun q => ?_
 ·have b : bitsOf k f <= 64 := by
   rcases kindU k k12 q with z | rfl
   ·exact (bitsU z).2
   ·exact show 8 <= 64 by decide
  have p2 := pow2 b
  have M := mod_ge (a := n) _ p2.1
  refine r_ret (v_bin (vq l36) (v_bin rfl (vq l31) (bi_two b)) (bi_mod p2.1 p2.2)) ?_
  rcases kindU k k12 q with z | rfl
  ·exact ⟨_, _, _, e0, by rw [pre]; rfl, .uns z M.1 M.2⟩
  ·exact ⟨_, _, _, e0, by rw [pre]; rfl, .oct M.1 M.2⟩
 ·have z := kindS k k12 ⟨k1, k5, k3, k7, q⟩
  have b := bitsS (f := f) z
  have L := @Leaf.sig k f ((n + (2 : Int) ^ (bitsOf k f - 1)) % (2 : Int) ^ bitsOf k f - (2 : Int) ^ (bitsOf k f - 1)) z
  generalize bitsOf k f = c at b l31 L
  obtain ⟨c, rfl⟩ : ∃ c', c = c' + 1 := ⟨c - 1, (Nat.sub_add_cancel b.1).symm⟩
  have c64 : c <= 64 := Nat.le_of_succ_le b.2
  have s1 : Ev T2 ⟨false, callF T2 (d + 1)⟩ (.bin .Pow (.int 2) (.bin .Sub (.loc 31) (.int 1))) lv h (.int ((2 : Int) ^ c)) h := v_bin rfl (v_bin (vq l31) rfl (congrArg some (sub11 c))) (bi_two c64)
  have p2 := pow2 b.2
  have R := sig_range (P := (2 : Int) ^ c) (n := n) (pow2 c64).1
  rw [<- Int.pow_succ] at R
  exact r_ret (v_bin (v_bin (v_bin (vq l36) s1 rfl) (v_bin rfl (vq l31) (bi_two b.2)) (bi_mod p2.1 p2.2)) s1 rfl) ⟨_, _, _, e0, by rw [pre]; rfl, L R.1 R.2⟩
theorem run_value (hne : hp ≠ []) (k : Nat) (hk : k < 12) (k1 : k ≠ 1) (k5 : k ≠ 5) (n f : Int) : ∃ v hd bd e, callF T2 (d + 2) false 29 [.int k, .int n, .int f] hp = some (.ok v (hp ++ e)) /\ Leaf k f v hd bd := by
 obtain ⟨e0, hw⟩ := run_width (d := d) (hm := false) (hp := hp) (f := f) k hk
 obtain ⟨m, hm, hm4⟩ := five5 f
 have R : ∃ out, callF T2 (d + 2) false 29 [.int k, .int n, .int f] hp = some out /\ ∃ v hd bd e, out = .ok v (hp ++ e) /\ Leaf k f v hd bd := by
  refine call_ex (r := P2.f29) rfl rfl (r_assign (v_call (xk rfl (xk rfl rfl)) hw) ?_)
  have l50 : (setL 31 (.int (bitsOf k f)) [(50, .int k), (36, .int n), (51, .int f)]).lookup 50 = some (.int k) := rfl
  have l36 : (setL 31 (.int (bitsOf k f)) [(50, .int k), (36, .int n), (51, .int f)]).lookup 36 = some (.int n) := rfl
  have l51 : (setL 31 (.int (bitsOf k f)) [(50, .int k), (36, .int n), (51, .int f)]).lookup 51 = some (.int f) := rfl
  have l31 : (setL 31 (.int (bitsOf k f)) [(50, .int k), (36, .int n), (51, .int f)]).lookup 31 = some (.int (bitsOf k f)) := rfl
  show Rn T2 _ _ (setL 31 (.int (bitsOf k f)) [(50, .int k), (36, .int n), (51, .int f)]) _ (ValQ hp k f)
  generalize setL 31 (.int (bitsOf k f)) [(50, .int k), (36, .int n), (51, .int f)] = lv at l50 l36 l51 l31
  have hne1 : hp ++ e0 ≠ [] := fun z => hne (List.append_eq_nil_iff.mp z).1
  have evm : ∀ h, Ev T2 ⟨false, callF T2 (d + 1)⟩ (.bin .Sub (.int 4) (.bin .Mod (.loc 51) (.int 5))) lv h (.int m) h := fun h => v_bin rfl (v_bin (vq l51) rfl (bi_mod (by decide) (by decide))) (congrArg some hm)
  refine r_ite (t_is (j := 3) l50) (fun q => ?_) fun q3 => r_ite (t_is (j := 7) l50) (fun q => ?_) fun q7 => val_num rfl hk k1 k5 q3 q7 l50 l36 l31
  ·obtain rfl := eq_of_beq q
   exact val_str hne1 rfl l36 hm4 evm
  ·obtain rfl := eq_of_beq q
   exact val_bytes hne1 rfl l36 hm4 evm
 refine cps fun G_ f_ => ?_
 obtain ⟨out, e, v, hd, bd, g, rfl, L⟩ := R
 refine f_ ?_
 clear f_ G_
 exact ⟨v, hd, bd, g, e, L⟩
end
noncomputable def asg (k : Nat) (v : V) (f : Int) (hi bi : Nat) (lv : Loc) : Loc := setL 62 (.ref bi) (setL 59 (.ref hi) (setL 51 (.int f) (setL 60 v (setL 50 (.int k) lv))))
section
variable {k : Nat} {v : V} {f : Int} {hi bi : Nat} {lv : Loc}
theorem asg_of : assignT (.many [50, 60, 51, 59, 62]) (nodeV k v f hi bi) lv = some (asg k v f hi bi lv) := rfl
theorem asg62 : (asg k v f hi bi lv).lookup 62 = some (.ref bi) := lk_same
theorem asg59 : (asg k v f hi bi lv).lookup 59 = some (.ref hi) := zk (by decide) lk_same
theorem asg51 : (asg k v f hi bi lv).lookup 51 = some (.int f) := zk (by decide) (zk (by decide) lk_same)
theorem asg60 : (asg k v f hi bi lv).lookup 60 = some v := zk (by decide) (zk (by decide) (zk (by decide) lk_same))
theorem asg50 : (asg k v f hi bi lv).lookup 50 = some (.int k) := zk (by decide) (zk (by decide) (zk (by decide) (zk (by decide) lk_same)))
theorem asgK {y : Nat} {o : Option V} (h : y ≠ 62 /\ y ≠ 59 /\ y ≠ 51 /\ y ≠ 60 /\ y ≠ 50) (q : lv.lookup y = o) : (asg k v f hi bi lv).lookup y = o := zk h.1 (zk h.2.1 (zk h.2.2.1 (zk h.2.2.2.1 (zk h.2.2.2.2 q))))
end
theorem v_ext {x : X} {lv : Loc} {hp : Hp} {o y j : Nat} {acc ws : List Int} (ho : lv.lookup o = some (.ref hp.length)) (hy : lv.lookup y = some (.ref j)) (hj : hp[j]? = some (.list (ws.map .int))) (h0 : hp.length ≠ 0) (h1 : acc.length <= 50000) (h2 : ws.length <= 50000) :
  Ev T2 x (.mcall (.loc o) 2 (.cons (.loc y) .nil)) lv (hp ++ [.list (acc.map .int)]) .none (hp ++ [.list ((acc ++ ws).map .int)]) := by
 have z := v_lext (x := x) (lv := lv) (o := .loc o) (a := .loc y) (h := hp ++ [.list (acc.map .int)]) (vq ho) g0 (vq hy) g0 (getOld hj) h0 (by rw [List.length_map]; exact h1) (by rw [List.length_map]; exact h2)
 rw [s0, <- List.map_append] at z
 exact z
def OI (hp : Hp) (os : List Int) (F : Nat -> Option (List V)) (Sb : Nat -> List Int -> Prop) (r : List V) (lv : Loc) (h : Hp) : Prop := ∃ acc os', NodesX F Sb r os' /\ h = hp ++ [.list (acc.map .int)] /\ lv.lookup 7 = some (.ref hp.length) /\ acc ++ os' = os
theorem oi_room {a b c e n : Nat} (h : a + (b + c + e) = n) (hn : n <= 40000) : a <= 50000 /\ a + b <= 50000 /\ b <= 50000 /\ c <= 50000 := by omega
theorem run_octets {d i : Nat} {hp : Hp} {vs : List V} {os : List Int} {F : Nat -> Option (List V)} {Sb : Nat -> List Int -> Prop} (hne : hp ≠ []) (hi : hp[i]? = some (.list vs)) (hF : ∀ a l, F a = some l -> listAt a hp = some l) (N : NodesX F Sb vs os) (hvl : vs.length <= 900) (hol : os.length <= 40000) :
  callF T2 (d + 1) false 33 [.ref i] hp = some (.ok (.ref hp.length) (hp ++ [.list (os.map .int)])) := by
 have hln : hp.length ≠ 0 := fun z => hne (List.length_eq_zero_iff.mp z)
 refine call_rn (r := P2.f33) rfl rfl (r_assign (v_list rfl (by decide)) (r_fori (I := fun h => ∃ acc, h = hp ++ [.list acc]) (OI hp os F Sb) rfl rfl (it_list (getOld hi)) (gives_list (fun h ⟨acc, z⟩ => by rw [z]; exact list_of (getOld hi)) vs 0 rfl) (Nat.lt_of_le_of_lt hvl (by decide)) (fun _ _ _ ⟨acc, _, _, z, _⟩ => ⟨_, z⟩) ⟨[], os, N, rfl, rfl, rfl⟩ (fun v r lv h I => ?_) fun lv h I => ?_))
 ·obtain ⟨acc, os', Nr, rfl, l7, hos⟩ := I
  cases Nr with
  | @cons k f v hd bd a b r os' Kd e1 e2 Nr =>
   have hlen := congrArg List.length hos
   rw [List.length_append, List.length_append, List.length_append] at hlen
   obtain ⟨z1, z2, z3, z4⟩ := oi_room hlen hol
   have m7 := asgK (k := k) (v := v) (f := f) (hi := a) (bi := b) (by decide) l7
   refine ⟨_, asg_of, r_expr (v_ext m7 asg59 (listAt_of (hF _ _ e1)) hln z1 z3) (r_expr (v_ext m7 asg62 (listAt_of (hF _ _ e2)) hln (by rw [List.length_append]; exact z2) z4) (r_nil ⟨_, _, Nr, rfl, m7, by rw [<- hos, List.append_assoc, List.append_assoc, List.append_assoc]⟩))⟩
 ·obtain ⟨acc, os', Nr, rfl, l7, hos⟩ := I
  cases Nr
  rw [List.append_nil] at hos
  rw [<- hos]
  exact r_ret (vq l7) rfl
def FormO (hp : Hp) (hd bd : List Int) (o : Out V) : Prop := ∃ e i j, o = .ok (.tup [.ref i, .ref j]) (hp ++ e) /\ hp.length <= i /\ hp.length <= j /\ (hp ++ e)[i]? = some (.list (hd.map .int)) /\ (hp ++ e)[j]? = some (.list (bd.map .int))
theorem sigK {k : Nat} (h : k = 2 \/ k = 8 \/ k = 9 \/ k = 10 \/ k = 11) : [0, 4].contains k = false /\ (k == 6) = false /\ (k == 7) = false /\ (k == 1) = false /\ (k == 3) = false := by
 rcases h with rfl | rfl | rfl | rfl | rfl <;> decide
section
variable {d : Nat} {hp : Hp} {t : List Nat} {lv : Loc} {x : X} {a b : E} {L M : List Int} {ss : Ss}
theorem two_at {i j : Nat} (h : Ev T2 x a lv hp (.ref i) (hp ++ [.list (L.map .int)])) (k : Ev T2 x b lv (hp ++ [.list (L.map .int)]) (.ref j) (hp ++ [.list (L.map .int)] ++ [.list (M.map .int)])) (hi : i = hp.length) (hj : j = (hp ++ [O.list (L.map .int)]).length) :
  Rn T2 x (.cons (.ret (.tup (.cons a (.cons b .nil)))) ss) lv hp fun o => FormO hp L M (outS o) := by
 subst hi hj
 refine r_ret (v_tup (xk h (xk k rfl)) (show 2 <= big by decide)) ⟨[.list (L.map .int)] ++ [.list (M.map .int)], hp.length, _, by rw [<- app2]; rfl, Nat.le_refl _, ?_, ?_, ?_⟩
 ·rw [List.length_append]; exact Nat.le_add_right _ _
 ·exact g0
 ·rw [<- app2]; exact g0
theorem v_none {hp : Hp} : Ev T2 x (.list .nil) lv hp (.ref hp.length) (hp ++ [.list (([] : List Int).map .int)]) := v_list rfl (by decide)
def SI (hp : Hp) (t : List Nat) (r : List V) (lv : Loc) (h : Hp) : Prop := ∃ (cs : List Nat) (acc : List Int) (g : Hp), r = (cs.map fun c => .str [c]) /\ h = hp ++ .list (acc.map .int) :: g /\ lv.lookup 62 = some (.ref hp.length) /\ (∀ c ∈ cs, pt (c : Int)) /\ acc ++ encs cs = encs t
theorem form_txt (hne : hp ≠ []) (ht : ∀ c ∈ t, pt (c : Int)) (tl : t.length <= 4) (l60 : lv.lookup 60 = some (.str t)) :
  Rn T2 ⟨false, callF T2 (d + 1)⟩ (.cons (.assign (.one 62) (.list .nil)) (.cons (.fori (.one 41) (.loc 60) (.cons (.expr (.mcall (.loc 62) 2 (.cons (.callg 64 (.fn 31) (.cons (.callg 43 (.bi .ord) (.cons (.loc 41) .nil)) .nil)) .nil))) .nil))
   (.cons (.ret (.tup (.cons (.callg 61 (.fn 30) (.cons (.callg 26 (.bi .len) (.cons (.loc 62) .nil)) (.cons (.bool false) .nil))) (.cons (.loc 62) .nil)))) ss))) lv hp fun o => FormO hp (uleb 9 (encs t).length) (encs t) (outS o) := by
 have hln : hp.length ≠ 0 := fun z => hne (List.length_eq_zero_iff.mp z)
 have el := encs4 tl
 have sm := small_nat (Nat.le_trans el (by decide))
 refine r_assign v_none (r_fori (I := fun _ => True) (SI hp t) rfl (vq (zk (by decide) l60)) rfl (gives_seq (t.map fun c => .str [c])) (by rw [List.length_map]; exact Nat.lt_of_le_of_lt tl (by decide)) (fun _ _ _ _ => trivial) ⟨t, [], [], rfl, rfl, lk_same, ht, rfl⟩ (fun v r lv h I => ?_) fun lv h I => ?_)
 ·obtain ⟨cs, acc, g, hr, rfl, l62, hc, hs⟩ := I
  cases cs with
  | nil => exact nomatch hr
  | cons c cs =>
   obtain ⟨rfl, rfl⟩ := List.cons.inj hr
   have hlen := congrArg List.length hs
   rw [List.length_append] at hlen
   have al : acc.length <= 50000 := Nat.le_trans (Nat.le_trans (Nat.le.intro hlen) el) (by decide)
   have n62 : (setL 41 (.str [c]) lv).lookup 62 = some (.ref hp.length) := zk (by decide) l62
   obtain ⟨g', hg⟩ := run_sign (d := d) (hp := hp ++ .list (acc.map .int) :: g) (fun z => hne (List.append_eq_nil_iff.mp z).1) (hc c List.mem_cons_self)
   refine ⟨_, rfl, r_expr (v_lext (vq n62) g0 (v_call (xk (v_call (xk (vq lk_same) rfl) rfl) rfl) hg) (getOld (getOld g0)) g0 hln (by rw [List.length_map]; exact al) (by rw [List.length_map]; exact Nat.le_trans (enc_len c) (by decide))) (r_nil ⟨cs, acc ++ enc c, g ++ g' ++ [.list ((enc c).map .int)], rfl, ?_, n62, fun j hj => hc j (List.mem_cons_of_mem _ hj), ?_⟩)⟩
   ·rw [app2, app2, List.cons_append, s0, List.map_append, List.append_assoc]
   ·rw [List.append_assoc]; exact hs
 ·obtain ⟨cs, acc, g, hr, rfl, l62, hc, hs⟩ := I
  cases cs with
  | cons c cs => exact nomatch hr
  | nil =>
   obtain rfl : acc = encs t := (List.append_nil acc).symm.trans hs
   refine r_ret (v_tup (xk (v_call (xk (v_call (xk (vq l62) rfl) (c_lenI g0 (Nat.le_trans el (by decide)))) (xk rfl rfl)) (run_uleb (d := d) (hm := false) (fun z => hne (List.append_eq_nil_iff.mp z).1) sm.1 sm.2.1)) (xk (vq l62) rfl)) (show 2 <= big by decide)) ⟨.list ((encs t).map .int) :: (g ++ [.list ((uleb 9 (encs t).length).map .int)]), _, hp.length, by rw [<- List.cons_append, <- app2]; rfl, ?_, Nat.le_refl _, ?_, g0⟩
   ·rw [List.length_append]; exact Nat.le_add_right _ _
   ·rw [<- List.cons_append, <- app2]; exact g0
theorem run_form {k : Nat} {f : Int} {v : V} {hd bd : List Int} (hne : hp ≠ []) (Lf : Leaf k f v hd bd) : ∃ o, callF T2 (d + 2) false 32 [.int k, v] hp = some o /\ FormO hp hd bd o := by
 refine call_ex (r := P2.f32) rfl rfl ?_
 have l50 : ([(50, .int k), (60, v)] : Loc).lookup 50 = some (.int k) := rfl
 have l60 : ([(50, .int k), (60, v)] : Loc).lookup 60 = some v := rfl
 show Rn T2 _ _ [(50, .int k), (60, v)] hp _
 generalize ([(50, .int k), (60, v)] : Loc) = lv at l50 l60
 cases Lf with
 | uns a b c =>
  refine r_if (t_in (l := [0, 4]) l50 rfl) (by rcases a with rfl | rfl <;> rfl) (two_at (v_call (xk (vq l60) (xk rfl rfl)) (run_uleb (d := d) hne b (Int.lt_of_lt_of_le c (two64 (bitsU a).2)))) v_none rfl rfl)
 | oct a b => exact r_else (t_in (l := [0, 4]) l50 rfl) rfl (r_if (t_is (j := 6) l50) rfl (two_at (v_list (xk (vq l60) rfl) (show 1 <= big by decide)) v_none rfl rfl))
 | sig a b c =>
  obtain ⟨q1, q2, q3, q4, q5⟩ := sigK a
  have B := two63 (bitsS (f := f) a).2
  exact r_else (t_in (l := [0, 4]) l50 rfl) q1 (r_else (t_is (j := 6) l50) q2 (r_else (t_is (j := 7) l50) q3 (r_else (t_is (j := 1) l50) q4 (r_else (t_is (j := 3) l50) q5 (two_at (v_call (xk (vq l60) (xk rfl rfl)) (run_sleb (d := d) hne (Int.le_trans (Int.neg_le_neg B) b) (Int.lt_of_lt_of_le c B))) v_none rfl rfl)))))
 | txt a b => exact r_else (t_in (l := [0, 4]) l50 rfl) rfl (r_else (t_is (j := 6) l50) rfl (r_else (t_is (j := 7) l50) rfl (r_else (t_is (j := 1) l50) rfl (r_if (t_is (j := 3) l50) rfl (form_txt hne a b l60)))))
 | byt a b =>
  have hc := v_map (T := T2) (x := ⟨false, callF T2 (d + 1)⟩) (elt := .loc 12) (iter := .loc 60) (y := 12) (lv := lv) (hp := hp ++ [.list (([] : List Int).map .int)]) (List.concat_ne_nil _ _) (vq l60) rfl rfl (gives_seq (bd.map .int)) (by rw [List.length_map]; exact Nat.lt_of_le_of_lt b (by decide)) (fun v => v) fun v hv acc => rfl
  rw [List.map_id'] at hc
  exact r_else (t_in (l := [0, 4]) l50 rfl) rfl (r_else (t_is (j := 6) l50) rfl (r_if (t_is (j := 7) l50) rfl (two_at v_none hc rfl rfl)))
theorem run_form_part {i : Nat} {vs : List V} {os : List Int} {F : Nat -> Option (List V)} {Sb : Nat -> List Int -> Prop} (hne : hp ≠ []) (hi : hp[i]? = some (.list vs)) (hF : ∀ a l, F a = some l -> listAt a hp = some l) (N : NodesX F Sb vs os) (hvl : vs.length <= 900) (hol : os.length <= 5000) :
  ∃ o, callF T2 (d + 2) false 32 [.int 1, .ref i] hp = some o /\ FormO hp (uleb 9 os.length) os o := by
 refine call_ex (r := P2.f32) rfl rfl ?_
 have l50 : ([(50, .int (1 : Nat)), (60, .ref i)] : Loc).lookup 50 = some (.int (1 : Nat)) := rfl
 have l60 : ([(50, .int (1 : Nat)), (60, .ref i)] : Loc).lookup 60 = some (.ref i) := rfl
 show Rn T2 _ _ [(50, .int (1 : Nat)), (60, .ref i)] hp _
 generalize ([(50, .int (1 : Nat)), (60, .ref i)] : Loc) = lv at l50 l60
 have sm := small_nat (Nat.le_trans hol (by decide))
 refine r_else (t_in (l := [0, 4]) l50 rfl) rfl (r_else (t_is (j := 6) l50) rfl (r_else (t_is (j := 7) l50) rfl (r_if (t_is (j := 1) l50) rfl (r_assign (v_call (xk (vq l60) rfl) (run_octets (d := d) hne hi hF N hvl (Nat.le_trans hol (by decide)))) (r_ret (v_tup (xk (v_call (xk (v_call (xk (vq lk_same) rfl) (c_lenI g0 (Nat.le_trans hol (by decide)))) (xk rfl rfl)) (run_uleb (d := d) (hm := false) (List.concat_ne_nil _ _) sm.1 sm.2.1)) (xk (vq lk_same) rfl)) (show 2 <= big by decide)) ⟨[.list (os.map .int)] ++ [.list ((uleb 9 os.length).map .int)], _, hp.length, by rw [<- app2]; rfl, ?_, Nat.le_refl _, ?_, g0⟩)))))
 ·rw [List.length_append]; exact Nat.le_add_right _ _
 ·rw [<- app2]; exact g0
end
theorem run_node {d : Nat} {hp : Hp} {k : Nat} {v : V} {hd bd : List Int} (f : Int) (h : ∃ o, callF T2 (d + 2) false 32 [.int k, v] hp = some o /\ FormO hp hd bd o) :
  ∃ e i j, callF T2 (d + 3) false 34 [.int k, v, .int f] hp = some (.ok (nodeV k v f i j) (hp ++ e)) /\ hp.length <= i /\ hp.length <= j /\ (hp ++ e)[i]? = some (.list (hd.map .int)) /\ (hp ++ e)[j]? = some (.list (bd.map .int)) := by
 refine cps fun G_ f_ => ?_
 obtain ⟨o, h1, e, i, j, rfl, h2⟩ := h
 refine f_ ?_
 clear f_ G_
 exact ⟨e, i, j, call_rn (r := P2.f34) rfl rfl (r_many (v_call (xk rfl (xk rfl rfl)) h1) rfl (r_ret (v_tup rfl (show 5 <= big by decide)) rfl)), h2⟩
noncomputable def Froz (O : List Nat) (h : Hp) (a : Nat) : Option (List V) := if O.contains a = true then none else listAt a h
abbrev Ent := Nat × List V × List Int
noncomputable def refs (st : List Ent) : List V := st.map fun q => .ref q.1
noncomputable def adr (s : Nat) (st : List Ent) : List Nat := s :: st.map (·.1)
theorem refs_snoc (pre : List Ent) (q : Ent) : refs (pre ++ [q]) = refs pre ++ [.ref q.1] := List.map_append
theorem refs_len (pre : List Ent) : (refs pre).length = pre.length := List.length_map _
theorem adr_snoc (s : Nat) (pre : List Ent) (q : Ent) : adr s (pre ++ [q]) = adr s pre ++ [q.1] := by
 unfold adr
 rw [List.map_append, List.cons_append]; rfl
theorem adr_s {s : Nat} {st : List Ent} : s ∈ adr s st := List.mem_cons_self
theorem adr_e {s : Nat} {st : List Ent} {q : Ent} (h : q ∈ st) : q.1 ∈ adr s st := List.mem_cons_of_mem _ (List.mem_map_of_mem h)
noncomputable def SubK (D : Nat) (F : Nat -> Option (List V)) : Nat -> List Int -> Prop := match D with
 | 0 => fun _ _ => False
 | D + 1 => SubD (NodesD D F) F
theorem NodesD_eq (D : Nat) (F : Nat -> Option (List V)) (vs : List V) (os : List Int) : NodesD D F vs os ↔ NodesX F (SubK D F) vs os := by
 cases D <;> exact Iff.rfl
structure TreeI (K : Nat) (h : Hp) (s : Nat) (st : List Ent) : Prop where
 stk : h[s]? = some (.list (refs st))
 ent : ∀ q ∈ st, h[q.1]? = some (.list q.2.1)
 nod : ∀ q ∈ st, NodesD K (Froz (adr s st) h) q.2.1 q.2.2
 nd : (adr s st).Nodup
 nz : 0 ∉ adr s st
theorem froz_out {O : List Nat} {h : Hp} {i : Nat} {l : List V} (q : i ∉ O) (e : h[i]? = some (.list l)) : Froz O h i = some l := by
 unfold Froz
 rw [if_neg fun z => q (List.contains_iff_mem.mp z)]
 exact list_of e
theorem froz_in {O : List Nat} {h : Hp} {i : Nat} {l : List V} (e : Froz O h i = some l) : i ∉ O /\ h[i]? = some (.list l) := by
 unfold Froz at e
 by_cases q : O.contains i = true
 ·rw [if_pos q] at e; exact nq e
 ·rw [if_neg q] at e
  exact ⟨fun z => q (List.contains_iff_mem.mpr z), listAt_of e⟩
theorem froz_ext {O O' : List Nat} {h h' : Hp} (H : ∀ a, a ∉ O -> a < h.length -> a ∉ O' /\ h'[a]? = h[a]?) : ∀ i l, Froz O h i = some l -> Froz O' h' i = some l := fun i l e => by
 obtain ⟨e0, e1⟩ := froz_in e
 obtain ⟨z, w⟩ := H i e0 (lt_of_get e1)
 exact froz_out z (w.trans e1)
theorem get_set_ne {h : Hp} {i j : Nat} {o : O} (hij : i ≠ j) : (h.set i o)[j]? = h[j]? := List.getElem?_set_ne hij
theorem get_set_eq {h : Hp} {i : Nat} {o o' : O} (hi : h[i]? = some o') : (h.set i o)[i]? = some o := by rw [List.getElem?_set_self (lt_of_get hi)]
section
variable {K K' : Nat} {h e : Hp} {s a : Nat} {st pre : List Ent} {vs : List V} {os : List Int}
theorem TreeI.lt (T : TreeI K h s st) {a : Nat} (ha : a ∈ adr s st) : a < h.length := by
 rcases List.mem_cons.mp ha with rfl | ha
 ·exact lt_of_get T.stk
 ·obtain ⟨q, hq, rfl⟩ := List.mem_map.mp ha
  exact lt_of_get (T.ent q hq)
theorem TreeI.ne (T : TreeI K h s st) {q : Ent} (hq : q ∈ st) : s ≠ q.1 := fun z => (List.nodup_cons.mp T.nd).1 (z ▸ List.mem_map_of_mem hq)
theorem TreeI.opn (T : TreeI K h s st) : TreeI K ((h ++ [O.list []]).set s (O.list (refs st ++ [V.ref h.length]))) s (st ++ [(h.length, [], [])]) := by
 have hnew : h.length ∉ adr s st := fun z => Nat.lt_irrefl _ (T.lt z)
 have hext := froz_ext (O := adr s st) (O' := adr s (st ++ [(h.length, [], [])])) (h := h) (h' := (h ++ [O.list []]).set s (O.list (refs st ++ [V.ref h.length]))) (fun a ha hl => by
  refine ⟨by rw [adr_snoc]; exact fun z => (List.mem_append.mp z).elim ha fun z => Nat.ne_of_lt hl (List.mem_singleton.mp z), ?_⟩
  rw [get_set_ne (fun z : s = a => ha (z ▸ adr_s)), List.getElem?_append_left hl])
 refine ⟨?_, fun q hq => ?_, fun q hq => ?_, ?_, ?_⟩
 ·rw [get_set_eq (getOld T.stk), refs_snoc]
 ·rcases List.mem_append.mp hq with hq | hq
  ·rw [get_set_ne (T.ne hq)]; exact getOld (T.ent q hq)
  ·obtain rfl := List.mem_singleton.mp hq
   rw [get_set_ne (Nat.ne_of_lt (T.lt adr_s))]; exact g0
 ·rcases List.mem_append.mp hq with hq | hq
  ·exact (T.nod q hq).mono hext
  ·obtain rfl := List.mem_singleton.mp hq
   exact (NodesD_eq K _ [] []).mpr .nil
 ·rw [adr_snoc]
  exact List.nodup_append.mpr ⟨T.nd, List.pairwise_singleton _ _, fun a ha b hb z => hnew (have w : a = h.length := z.trans (List.mem_singleton.mp hb); w ▸ ha)⟩
 ·rw [adr_snoc]
  exact fun z => (List.mem_append.mp z).elim T.nz fun z => Nat.ne_of_lt (Nat.zero_lt_of_lt (T.lt adr_s)) (List.mem_singleton.mp z)
theorem nodup_snoc {l : List Nat} {a : Nat} (h : (l ++ [a]).Nodup) : l.Nodup /\ a ∉ l :=
 have z := List.nodup_append.mp h
 ⟨z.1, fun w => z.2.2 a w a (List.mem_singleton.mpr rfl) rfl⟩
theorem TreeI.pop (T : TreeI K h s (pre ++ [(a, vs, os)])) :
  TreeI K (h.set s (O.list (refs pre))) s pre /\ a ∉ adr s pre /\ (h.set s (O.list (refs pre)))[a]? = some (.list vs) /\ NodesD K (Froz (adr s pre) (h.set s (O.list (refs pre)))) vs os := by
 have hnd := T.nd
 have hnz := T.nz
 rw [adr_snoc] at hnd hnz
 obtain ⟨n1, ha⟩ := nodup_snoc hnd
 have has : s ≠ a := fun z => ha (z ▸ adr_s)
 have hext := froz_ext (O := adr s (pre ++ [(a, vs, os)])) (O' := adr s pre) (h := h) (h' := h.set s (O.list (refs pre))) (fun b hb hl => by
  rw [adr_snoc] at hb
  exact ⟨fun z => hb (List.mem_append_left _ z), get_set_ne fun z => hb (List.mem_append_left _ (z ▸ adr_s))⟩)
 have hl : (a, vs, os) ∈ pre ++ [(a, vs, os)] := List.mem_append_right _ (List.mem_singleton.mpr rfl)
 refine ⟨⟨get_set_eq T.stk, fun q hq => ?_, fun q hq => (T.nod q (List.mem_append_left _ hq)).mono hext, n1, fun z => hnz (List.mem_append_left _ z)⟩, ha, ?_, (T.nod (a, vs, os) hl).mono hext⟩
 ·rw [get_set_ne (T.ne (List.mem_append_left _ hq))]; exact T.ent q (List.mem_append_left _ hq)
 ·rw [get_set_ne has]; exact T.ent (a, vs, os) hl
theorem TreeI.push (T : TreeI K h s (pre ++ [(a, vs, os)])) (hK : K <= K') {k : Nat} {f : Int} {v : V} {hd bd : List Int} {i j : Nat} (hi : h.length <= i) (hj : h.length <= j) (ei : (h ++ e)[i]? = some (.list (hd.map .int))) (ej : (h ++ e)[j]? = some (.list (bd.map .int)))
  (Kd : ∀ F, (∀ b l, Froz (adr s (pre ++ [(a, vs, os)])) h b = some l -> F b = some l) -> Kind (SubK K' F) k f v hd bd) :
  TreeI K' ((h ++ e).set a (O.list (vs ++ [nodeV k v f i j]))) s (pre ++ [(a, vs ++ [nodeV k v f i j], os ++ (hd ++ bd))]) := by
 have hadr : adr s (pre ++ [(a, vs ++ [nodeV k v f i j], os ++ (hd ++ bd))]) = adr s (pre ++ [(a, vs, os)]) := by rw [adr_snoc, adr_snoc]
 have hrefs : refs (pre ++ [(a, vs ++ [nodeV k v f i j], os ++ (hd ++ bd))]) = refs (pre ++ [(a, vs, os)]) := by rw [refs_snoc, refs_snoc]
 have hl : (a, vs, os) ∈ pre ++ [(a, vs, os)] := List.mem_append_right _ (List.mem_singleton.mpr rfl)
 have hal : a ∈ adr s (pre ++ [(a, vs, os)]) := adr_e hl
 have has : a ≠ s := fun z => T.ne hl z.symm
 have hnd := T.nd
 rw [adr_snoc] at hnd
 obtain ⟨n1, ha⟩ := nodup_snoc hnd
 have hext := froz_ext (O := adr s (pre ++ [(a, vs, os)])) (O' := adr s (pre ++ [(a, vs, os)])) (h := h) (h' := (h ++ e).set a (O.list (vs ++ [nodeV k v f i j]))) (fun b hb hl => by
  refine ⟨hb, ?_⟩
  rw [get_set_ne (fun z : a = b => hb (z ▸ hal)), List.getElem?_append_left hl])
 have hfr : ∀ {b : Nat} {l : List V}, h.length <= b -> (h ++ e)[b]? = some (.list l) -> Froz (adr s (pre ++ [(a, vs, os)])) ((h ++ e).set a (O.list (vs ++ [nodeV k v f i j]))) b = some l := fun {b l} hb e1 =>
  froz_out (fun z => Nat.not_lt.mpr hb (T.lt z)) ((get_set_ne (Nat.ne_of_lt (Nat.lt_of_lt_of_le (T.lt hal) hb))).trans e1)
 refine ⟨?_, fun q hq => ?_, fun q hq => ?_, ?_, ?_⟩
 ·rw [get_set_ne has, hrefs]; exact getOld T.stk
 ·rcases List.mem_append.mp hq with hq | hq
  ·rw [get_set_ne fun z : a = q.1 => ha ((z.symm ▸ adr_e hq : a ∈ adr s pre))]; exact getOld (T.ent q (List.mem_append_left _ hq))
  ·obtain rfl := List.mem_singleton.mp hq
   exact get_set_eq (getOld (T.ent (a, vs, os) hl))
 ·rw [hadr]
  rcases List.mem_append.mp hq with hq | hq
  ·exact ((T.nod q (List.mem_append_left _ hq)).mono hext).le hK
  ·obtain rfl := List.mem_singleton.mp hq
   exact (NodesD_eq _ _ _ _).mpr (.snoc (Kd _ hext) (hfr hi ei) (hfr hj ej) ((NodesD_eq _ _ _ _).mp (((T.nod (a, vs, os) hl).mono hext).le hK)))
 ·rw [hadr]; exact T.nd
 ·rw [hadr]; exact T.nz
end
noncomputable def szO (st : List Ent) : Nat := (st.map fun q => q.2.2.length + 20).sum
noncomputable def szV (st : List Ent) : Nat := (st.map fun q => q.2.1.length + 1).sum
theorem szO_snoc (pre : List Ent) (q : Ent) : szO (pre ++ [q]) = szO pre + (q.2.2.length + 20) := by
 unfold szO
 rw [List.map_append, List.sum_append]; rfl
theorem szV_snoc (pre : List Ent) (q : Ent) : szV (pre ++ [q]) = szV pre + (q.2.1.length + 1) := by
 unfold szV
 rw [List.map_append, List.sum_append]; rfl
theorem szV_len : ∀ st : List Ent, st.length <= szV st
 | [] => Nat.le_refl 0
 | q :: r => by
  have e : szV (q :: r) = q.2.1.length + 1 + szV r := List.sum_cons
  rw [e, List.length_cons, Nat.add_comm]
  exact Nat.add_le_add (Nat.le_add_left 1 _) (szV_len r)
structure TW (ns : List Int) (K m : Nat) (st : List Ent) (lv : Loc) (h : Hp) : Prop where
 T : TreeI K h 2 st
 hO : szO st + 30 * m <= 380
 hV : szV st + m <= 13
 z0 : h[0]? = some (.list (ns.map .int))
 l67 : lv.lookup 67 = some (.ref 2)
section
variable {ns : List Int} {K m d : Nat} {st pre : List Ent} {q : Ent} {lv : Loc} {h : Hp} {a : Nat} {vs : List V} {os : List Int} {x : X} {ss : Ss} {Q : OutS -> Prop}
theorem top_o {p a m : Nat} (h : p + (a + 20) + 30 * m <= 380) : a <= 360 := by omega
theorem top_v {p a m : Nat} (h : p + (a + 1) + m <= 13) : a <= 12 := by omega
theorem TW.len (W : TW ns K m st lv h) : st.length <= 13 := Nat.le_trans (szV_len st) (Nat.le_trans (Nat.le_add_right _ _) W.hV)
theorem TW.top (W : TW ns K m (pre ++ [(a, vs, os)]) lv h) : os.length <= 360 /\ vs.length <= 12 := by
 have h1 := W.hO
 have h2 := W.hV
 rw [szO_snoc] at h1
 rw [szV_snoc] at h2
 exact ⟨top_o h1, top_v h2⟩
theorem TW.stk (W : TW ns K m (pre ++ [(a, vs, os)]) lv h) : h[2]? = some (.list (refs pre ++ [.ref a])) := refs_snoc pre (a, vs, os) ▸ W.T.stk
theorem TW.less (W : TW ns K (m + 1) st lv h) : TW ns K m st lv h := ⟨W.T, by have := W.hO; omega, by have := W.hV; omega, W.z0, W.l67⟩
theorem TW.set (W : TW ns K m st lv h) {y : Nat} {v : V} (hy : 67 ≠ y) : TW ns K m st (setL y v lv) h := ⟨W.T, W.hO, W.hV, W.z0, zk hy W.l67⟩
theorem m_lpop {i : Nat} {us : List V} {v : V} {hp : Hp} (hi : hp[i]? = some (.list (us ++ [v]))) (h0 : i ≠ 0) (h1 : us.length + 1 <= big) : callM x .lpop (.ref i) [] hp = some (.ok v (hp.set i (.list us))) := by
 show (listAt i hp).bind _ = _
 rw [list_of hi]
 refine (if_pos ⟨rfl, by rw [List.length_append]; exact h1, h0⟩).trans ?_
 show ((us ++ [v]).getLast?).map _ = _
 rw [List.getLast?_concat]
 show some (Out.ok v (hp.set i (.list (us ++ [v]).dropLast))) = _
 rw [List.dropLast_concat]
theorem refs_small (W : st.length <= 13) : (refs st).length + 1 <= 50000 := by rw [refs_len]; exact Nat.le_trans (Nat.succ_le_succ W) (by decide)
theorem v_top (hs : h[2]? = some (.list (refs pre ++ [.ref a]))) (l67 : lv.lookup 67 = some (.ref 2)) (hl : pre.length <= 13) : Ev T2 x (.sub (.loc 67) (.neg (.int 1))) lv h (.ref a) h := by
 have e : (refs pre ++ [V.ref a]).length = pre.length + 1 := by rw [List.length_append, refs_len]; rfl
 refine v_sub (k := pre.length) (j := -1) (vq l67) rfl (list_of hs) ?_ ?_
 ·rw [e, idx_last (Nat.succ_pos _) (Nat.le_trans (Nat.succ_le_succ hl) (by decide))]; rfl
 ·rw [<- refs_len, List.getElem?_append_right (Nat.le_refl _), Nat.sub_self]; rfl
theorem close_o {p a b u m : Nat} (h : p + (a + 20) + (b + 20) + 30 * m <= 380) (hu : u <= 10) : p + (a + (u + b) + 20) + 30 * m <= 380 := by omega
theorem close_v {p a b m : Nat} (h : p + (a + 1) + (b + 1) + m <= 13) : p + (a + 1 + 1) + m <= 13 := by omega
theorem r_close (W : TW ns K m (pre ++ [q] ++ [(a, vs, os)]) lv h) (k : ∀ lv' h' q', TW ns (K + 1) m (pre ++ [q']) lv' h' -> lv'.lookup 49 = lv.lookup 49 -> Rn T2 ⟨false, callF T2 (d + 3)⟩ ss lv' h' Q) :
  Rn T2 ⟨false, callF T2 (d + 3)⟩ (.cons (.assign (.one 70) (.mcall (.loc 67) 3 .nil)) (.cons (.expr (.mcall (.sub (.loc 67) (.neg (.int 1))) 1 (.cons (.callg 71 (.fn 34) (.cons (.int 1) (.cons (.loc 70) (.cons (.int 0) .nil)))) .nil))) ss)) lv h Q := by
 obtain ⟨qa, qv, qo⟩ := q
 have hl := W.len
 rw [List.length_append, List.length_append] at hl
 have hlp : pre.length <= 13 := Nat.le_trans (Nat.le_trans (Nat.le_add_right _ _) (Nat.le_add_right _ _)) hl
 have top := W.top
 refine r_assign (v_mcall (vq W.l67) (k_list W.stk rfl) rfl (m_lpop W.stk (by decide) (Nat.le_trans (refs_small (Nat.le_of_succ_le (by rw [List.length_append]; exact hl))) (by decide)))) ?_
 obtain ⟨T1, ha, hga, hnd⟩ := W.T.pop
 have z1 : (h.set 2 (.list (refs (pre ++ [(qa, qv, qo)]))))[0]? = some (.list (ns.map .int)) := (get_set_ne (by decide)).trans W.z0
 have n67 : (setL 70 (.ref a) lv).lookup 67 = some (.ref 2) := zk (by decide) W.l67
 have n49 : (setL 70 (.ref a) lv).lookup 49 = lv.lookup 49 := zk (by decide) rfl
 have n70 : (setL 70 (.ref a) lv).lookup 70 = some (.ref a) := lk_same
 generalize setL 70 (.ref a) lv = lv1 at n67 n49 n70
 generalize h.set 2 (.list (refs (pre ++ [(qa, qv, qo)]))) = h1 at T1 hga hnd z1
 have hq : h1[qa]? = some (.list qv) := T1.ent (qa, qv, qo) (List.mem_append_right _ (List.mem_singleton.mpr rfl))
 have hqa : qa ≠ 0 := fun z => T1.nz (z ▸ adr_e (q := (qa, qv, qo)) (List.mem_append_right _ (List.mem_singleton.mpr rfl)))
 have hO := W.hO
 have hV := W.hV
 rw [szO_snoc, szO_snoc] at hO
 rw [szV_snoc, szV_snoc] at hV
 have o5 : os.length <= 5000 := Nat.le_trans top.1 (by decide)
 have v9 : vs.length <= 900 := Nat.le_trans top.2 (by decide)
 obtain ⟨e, i, j, hn, hi, hj, ei, ej⟩ := run_node (d := d) (k := 1) 0 (run_form_part (d := d) (fun z => by rw [z] at hga; exact nomatch hga) hga (fun _ _ e => list_of (froz_in e).2) ((NodesD_eq _ _ _ _).mp hnd) v9 o5)
 have P := T1.push (Nat.le_succ K) (k := 1) (f := 0) (v := .ref a) hi hj ei ej fun F hF => .inr ⟨rfl, rfl, o5, rfl, a, rfl, vs, hF _ _ (froz_out ha hga), v9, hnd.mono hF⟩
 have stk1 : h1[2]? = some (.list (refs pre ++ [.ref qa])) := refs_snoc pre (qa, qv, qo) ▸ T1.stk
 refine r_expr (v_mcall (v_top stk1 n67 hlp) (k_list hq rfl) (xk (v_call (xk rfl (xk (vq n70) (xk rfl rfl))) hn) rfl) (m_lapp (getOld hq) hqa (show qv.length <= 100000 by clear hO; dsimp only at hV; omega))) (k _ _ _ ⟨P, ?_, ?_, ?_, n67⟩ n49)
 ·rw [szO_snoc]
  show szO pre + ((qo ++ (uleb 9 os.length ++ os)).length + 20) + 30 * m <= 380
  rw [List.length_append, List.length_append]
  exact close_o hO (uleb_len 9 _)
 ·rw [szV_snoc]
  show szV pre + ((qv ++ [_]).length + 1) + m <= 13
  rw [List.length_append]
  exact close_v hV
 ·rw [get_set_ne hqa]; exact getOld z1
theorem t_more (W : TW ns K m (pre ++ [(a, vs, os)]) lv h) : Tr T2 x (.cmp .Gt (.callg 26 (.bi .len) (.cons (.loc 67) .nil)) (.int 1)) lv h (decide ((1 : Int) < ((refs pre ++ [V.ref a]).length : Nat))) h :=
 t_of (v_cmp (v_call (xk (vq W.l67) rfl) (c_len (list_of W.stk) (by rw [<- refs_snoc pre (a, vs, os), refs_len]; exact Nat.le_trans W.len (by decide)))) rfl rfl) rfl
theorem more_iff (W : decide ((1 : Int) < ((refs pre ++ [V.ref a]).length : Nat)) = true) : ∃ p2 q, pre = p2 ++ [q] := by
 cases pre with
 | nil => exact absurd (of_decide_eq_true W) (show ¬ (1 : Int) < ((1 : Nat) : Int) by decide)
 | cons c r => exact ⟨(c :: r).dropLast, (c :: r).getLast (List.cons_ne_nil _ _), (List.dropLast_concat_getLast _).symm⟩
theorem more_not (W : decide ((1 : Int) < ((refs pre ++ [V.ref a]).length : Nat)) = false) : pre = [] := by
 cases pre with
 | nil => rfl
 | cons c r =>
  have := of_decide_eq_false W
  rw [List.length_append, refs_len, List.length_cons] at this
  exact absurd (show (1 : Int) < ((r.length + 1 + [V.ref a].length : Nat) : Int) by show (1 : Int) < ((r.length + 1 + 1 : Nat) : Int); omega) this
end
theorem twelve (w : Int) (k : Nat) : ∃ m : Nat, (w + k) % 12 = m /\ m < 12 := ⟨((w + k) % 12).toNat, by omega, by omega⟩
theorem two_k (k : Nat) (h : k < 12) : binInt .Mult 2 (k : Int) = some ((2 * k : Nat) : Int) := (bi_mul (by decide) (Nat.lt_trans (show (k : Int).natAbs < 12 by rw [Int.natAbs_natCast]; exact h) (by decide))).trans rfl
theorem opn_o {p m : Nat} (h : p + 30 * (m + 1) <= 380) : p + (0 + 20) + 30 * m <= 380 := by omega
theorem opn_v {p m : Nat} (h : p + (m + 1) <= 13) : p + (0 + 1) + m <= 13 := by omega
theorem leaf_o {p a u m : Nat} (h : p + (a + 20) + 30 * (m + 1) <= 380) (hu : u <= 26) : p + (a + u + 20) + 30 * m <= 380 := by omega
theorem leaf_v {p a m : Nat} (h : p + (a + 1) + (m + 1) <= 13) : p + (a + 1 + 1) + m <= 13 := by omega
section
variable {ns : List Int} {K m d : Nat} {st pre : List Ent} {q : Ent} {lv : Loc} {h : Hp} {a : Nat} {vs : List V} {os : List Int} {x : X} {ss : Ss} {Q : OutS -> Prop}
theorem r_open (W : TW ns K (m + 1) (pre ++ [(a, vs, os)]) lv h) (k : ∀ h', TW ns K m (pre ++ [(a, vs, os)] ++ [(h.length, [], [])]) lv h' -> Rn T2 x ss lv h' Q) : Rn T2 x (.cons (.expr (.mcall (.loc 67) 1 (.cons (.list .nil) .nil))) ss) lv h Q := by
 have s := W.T.stk
 have O := W.hO
 have V := W.hV
 refine r_expr (v_mcall (vq W.l67) (k_list s rfl) (xk (v_list rfl (by decide)) rfl) (m_lapp (getOld s) (by decide) (by rw [refs_len]; exact Nat.le_trans W.len (by decide)))) (k _ ⟨W.T.opn, ?_, ?_, (get_set_ne (by decide)).trans (getOld W.z0), W.l67⟩)
 ·rw [szO_snoc]; exact opn_o O
 ·rw [szV_snoc]; exact opn_v V
theorem r_leaf {w : Int} {k kind : Nat} (W : TW ns K (m + 1) (pre ++ [(a, vs, os)]) lv h) (hns : ns.length <= 63) (k12 : k < 12) (kk : kind < 12) (k1 : kind ≠ 1) (k5 : kind ≠ 5) (l49 : lv.lookup 49 = some (.ref 0)) (l53 : lv.lookup 53 = some (.int k)) (l68 : lv.lookup 68 = some (.int w)) (l50 : lv.lookup 50 = some (.int kind))
  (fin : ∀ lv' h' vs' os', TW ns K m (pre ++ [(a, vs', os')]) lv' h' -> lv'.lookup 49 = lv.lookup 49 -> Rn T2 ⟨false, callF T2 (d + 3)⟩ ss lv' h' Q) :
  Rn T2 ⟨false, callF T2 (d + 3)⟩ (.cons (.assign (.one 36) (.bin .Add (.callg 69 (.fn 26) (.cons (.loc 49) (.cons (.bin .Add (.bin .Mult (.int 2) (.loc 53)) (.int 1)) .nil))) (.bin .Pow (.int 200) (.loc 53))))
   (.cons (.expr (.mcall (.sub (.loc 67) (.neg (.int 1))) 1 (.cons (.callg 71 (.fn 34) (.cons (.loc 50) (.cons (.callg 72 (.fn 29) (.cons (.loc 50) (.cons (.loc 36) (.cons (.bin .FloorDiv (.loc 68) (.int 12)) .nil)))) (.cons (.bin .FloorDiv (.loc 68) (.int 12)) .nil)))) .nil))) ss)) lv h Q := by
 have hne : h ≠ [] := fun z => by
  have := W.z0
  rw [z] at this; exact nomatch this
 refine r_assign (v_bin (v_call (xk (vq l49) (xk (v_bin (k := (2 * k + 1 : Nat)) (v_bin rfl (vq l53) (two_k k k12)) rfl rfl) rfl)) (run_digit (d := d + 2) (2 * k + 1) (list_of W.z0) hns)) (v_bin rfl (vq l53) (bi_pow (by decide) (Nat.le_trans (Nat.le_of_lt k12) (by decide)))) rfl) ?_
 generalize dig ns (2 * k + 1) + (200 : Int) ^ k = num
 refine cps fun G_ f_ => ?_
 obtain ⟨v, hd, bd, e1, hv, L⟩ := run_value (d := d + 1) hne kind kk k1 k5 num (w / 12)
 obtain ⟨e2, i, j, hn, hi, hj, ei, ej⟩ := run_node (d := d) (w / 12) (run_form (d := d) (hp := h ++ e1) (fun z => hne (List.append_eq_nil_iff.mp z).1) L)
 refine f_ ?_
 clear f_ G_
 rw [app2] at hn ei ej
 have n50 : (setL 36 (.int num) lv).lookup 50 = some (.int kind) := zk (by decide) l50
 have n68 : (setL 36 (.int num) lv).lookup 68 = some (.int w) := zk (by decide) l68
 have fd : ∀ h, Ev T2 ⟨false, callF T2 (d + 3)⟩ (.bin .FloorDiv (.loc 68) (.int 12)) (setL 36 (.int num) lv) h (.int (w / 12)) h := fun h => v_bin (vq n68) rfl (bi_fd (by decide) (by decide))
 have hl : (a, vs, os) ∈ pre ++ [(a, vs, os)] := List.mem_append_right _ (List.mem_singleton.mpr rfl)
 have hq := W.T.ent (a, vs, os) hl
 have ha : a ≠ 0 := fun z => W.T.nz (z ▸ adr_e hl)
 have hO := W.hO
 have hV := W.hV
 have len := W.len
 rw [List.length_append] at len
 rw [szO_snoc] at hO
 rw [szV_snoc] at hV
 have le1 : h.length <= (h ++ e1).length := by rw [List.length_append]; exact Nat.le_add_right _ _
 have P := W.T.push (Nat.le_refl K) (k := kind) (f := w / 12) (v := v) (Nat.le_trans le1 hi) (Nat.le_trans le1 hj) ei ej fun F _ => .inl L
 refine r_expr (v_mcall (v_top W.stk (zk (by decide) W.l67) (Nat.le_of_succ_le len)) (k_list hq rfl) (xk (v_call (xk (vq n50) (xk (v_call (xk (vq n50) (xk (vq lk_same) (xk (fd _) rfl))) hv) (xk (fd _) rfl))) hn) rfl) (m_lapp (getOld hq) ha (Nat.le_trans W.top.2 (by decide)))) (fin _ _ _ _ ⟨P, ?_, ?_, (get_set_ne ha).trans (getOld W.z0), zk (by decide) W.l67⟩ (zk (by decide) rfl))
 ·rw [szO_snoc]
  show szO pre + ((os ++ (hd ++ bd)).length + 20) + 30 * m <= 380
  rw [List.length_append, List.length_append]
  exact leaf_o hO L.small
 ·rw [szV_snoc]
  show szV pre + ((vs ++ [_]).length + 1) + m <= 13
  rw [List.length_append]
  exact leaf_v hV
def TL (ns : List Int) (r : List V) (lv : Loc) (h : Hp) : Prop := ∃ (ks : List Nat) (K : Nat) (pre : List Ent) (a : Nat) (vs : List V) (os : List Int), r = nats ks /\ (∀ k ∈ ks, k < 12) /\ K + ks.length <= 12 /\ TW ns K ks.length (pre ++ [(a, vs, os)]) lv h /\ lv.lookup 49 = some (.ref 0)
theorem tree0 : TL ns (rangeL 0 1 12) (setL 67 (.ref 2) [(49, .ref 0)]) [.list (ns.map .int), .list [], .list [.ref 1]] :=
 ⟨List.range 12, 0, [], 1, [], [], rangeL_zero 12, fun k hk => List.mem_range.mp hk, by decide, ⟨⟨rfl, fun q hq => by obtain rfl := List.mem_singleton.mp hq; rfl, fun q hq => by obtain rfl := List.mem_singleton.mp hq; exact .nil, show [2, 1].Nodup by decide, show 0 ∉ [2, 1] by decide⟩, show 20 + 30 * 12 <= 380 by decide, show 1 + 12 <= 13 by decide, rfl, rfl⟩, rfl⟩
theorem stack0 : Ev T2 x (.list (.cons (.list .nil) .nil)) lv [.list (ns.map .int)] (.ref 2) [.list (ns.map .int), .list [], .list [.ref 1]] := rfl
theorem run_tree (hns : ns.length <= 63) : ∃ h a vs os, callF T2 (d + 4) false 35 [.ref 0] [.list (ns.map .int)] = some (.ok (.ref a) h) /\ h[a]? = some (.list vs) /\ h[0]? = some (.list (ns.map .int)) /\ NodesD 25 (fun i => listAt i h) vs os /\ os.length <= 360 /\ vs.length <= 12 := by
 have R : ∃ out, callF T2 (d + 4) false 35 [.ref 0] [.list (ns.map .int)] = some out /\ ∃ h a vs os, out = .ok (.ref a) h /\ h[a]? = some (.list vs) /\ h[0]? = some (.list (ns.map .int)) /\ NodesD 25 (fun i => listAt i h) vs os /\ os.length <= 360 /\ vs.length <= 12 := by
  refine call_ex (r := P2.f35) rfl rfl (r_assign stack0 (r_fori (I := fun _ => True) (TL ns) rfl (v_call rfl rfl) (it_range (n := 12) (by decide)) (gives_range 1 12 0) (by rw [rangeL_len]; decide) (fun _ _ _ _ => trivial) tree0 (fun v r lv h I => ?_) fun lv h I => ?_))
  ·obtain ⟨ks, K, pre, a, vs, os, hr, h12, hK, W, l49⟩ := I
   cases ks with
   | nil => exact nomatch hr
   | cons k ks =>
    obtain ⟨rfl, rfl⟩ := List.cons.inj hr
    have k12 := h12 k List.mem_cons_self
    have h12' : ∀ j ∈ ks, j < 12 := fun j hj => h12 j (List.mem_cons_of_mem _ hj)
    have hK : K + ks.length + 1 <= 12 := hK
    obtain ⟨kind, hkind, kk⟩ := twelve (dig ns (2 * k)) k
    have W : TW ns K (ks.length + 1) (pre ++ [(a, vs, os)]) (setL 50 (.int kind) (setL 68 (.int (dig ns (2 * k))) (setL 53 (.int k) lv))) h := ((W.set (by decide)).set (by decide)).set (by decide)
    have n49 : (setL 50 (.int kind) (setL 68 (.int (dig ns (2 * k))) (setL 53 (.int k) lv))).lookup 49 = some (.ref 0) := zk (by decide) (zk (by decide) (zk (by decide) l49))
    have n53 : (setL 50 (.int kind) (setL 68 (.int (dig ns (2 * k))) (setL 53 (.int k) lv))).lookup 53 = some (.int k) := zk (by decide) (zk (by decide) lk_same)
    have n68 : (setL 50 (.int kind) (setL 68 (.int (dig ns (2 * k))) (setL 53 (.int k) lv))).lookup 68 = some (.int (dig ns (2 * k))) := zk (by decide) lk_same
    have n50 : (setL 50 (.int kind) (setL 68 (.int (dig ns (2 * k))) (setL 53 (.int k) lv))).lookup 50 = some (.int kind) := lk_same
    refine ⟨_, rfl, r_assign (v_call (xk (vq (zk (by decide) l49)) (xk (v_bin rfl (vq lk_same) (two_k k k12)) rfl)) (run_digit (d := d + 2) (2 * k) (list_of W.z0) hns)) (r_assign (v := .int kind) (v_bin (v_bin (vq lk_same) (vq (zk (by decide) lk_same)) rfl) rfl ((bi_mod (by decide) (by decide)).trans (congrArg some hkind))) ?_)⟩
    generalize setL 50 (.int kind) (setL 68 (.int (dig ns (2 * k))) (setL 53 (.int k) lv)) = lv2 at W n49 n53 n68 n50
    refine r_ite (t_is (j := 1) n50) (fun _ => r_open W fun h' W' => r_nil ⟨ks, K, _, _, [], [], rfl, h12', Nat.le_of_succ_le hK, W', n49⟩) fun q1 => r_ite (t_is (j := 5) n50) (fun _ => r_ite (t_more W) (fun z => ?_) fun _ => r_nil ⟨ks, K, pre, a, vs, os, rfl, h12', Nat.le_of_succ_le hK, W.less, n49⟩) fun q5 =>
     r_leaf W hns k12 kk (fun z => Bool.false_ne_true (q1.symm.trans (beq_iff_eq.mpr z))) (fun z => Bool.false_ne_true (q5.symm.trans (beq_iff_eq.mpr z))) n49 n53 n68 n50 fun lv' h' vs' os' W' keep => r_nil ⟨ks, K, pre, a, vs', os', rfl, h12', Nat.le_of_succ_le hK, W', keep.trans n49⟩
    obtain ⟨p2, q, rfl⟩ := more_iff z
    exact r_close W.less fun lv' h' q' W' keep => r_nil ⟨ks, K + 1, p2, q'.1, q'.2.1, q'.2.2, rfl, h12', by rw [Nat.add_right_comm]; exact hK, W', keep.trans n49⟩
  ·obtain ⟨ks, K, pre, a, vs, os, hr, h12, hK, W, l49⟩ := I
   cases ks with
   | cons k ks => exact nomatch hr
   | nil =>
    have len := W.len
    rw [List.length_append] at len
    refine r_whil (fun n lv h => ∃ K pre a vs os, n = pre.length /\ K + pre.length <= 25 /\ TW ns K 0 (pre ++ [(a, vs, os)]) lv h) pre.length (Nat.lt_of_le_of_lt (Nat.le_of_succ_le len) (by decide)) ⟨K, pre, a, vs, os, rfl, Nat.le_trans (Nat.add_le_add hK (Nat.le_of_succ_le_succ len)) (by decide), W⟩ fun n lv h ⟨K, pre, a, vs, os, hn, hK, W⟩ => ?_
    refine ⟨_, h, t_more W, fun z => ?_, fun z => ?_⟩
    ·obtain rfl := more_not z
     have hl : (a, vs, os) ∈ [] ++ [(a, vs, os)] := List.mem_append_right _ (List.mem_singleton.mpr rfl)
     exact r_ret (v_sub (k := 0) (j := 0) (vq W.l67) rfl (list_of W.stk) rfl rfl) ⟨h, a, vs, os, rfl, W.T.ent _ hl, W.z0, ((W.T.nod _ hl).mono fun i l e => list_of (froz_in e).2).le hK, W.top.1, W.top.2⟩
    ·obtain ⟨p2, q, rfl⟩ := more_iff z
     rw [List.length_append] at hK hn
     exact r_close W fun lv' h' q' W' _ => r_nil ⟨p2.length, hn ▸ Nat.lt_succ_self _, K + 1, p2, q'.1, q'.2.1, q'.2.2, rfl, by rw [Nat.add_right_comm]; exact hK, W'⟩
 refine cps fun G_ f_ => ?_
 obtain ⟨out, e, h, a, vs, os, rfl, r⟩ := R
 refine f_ ?_
 clear f_ G_
 exact ⟨h, a, vs, os, e, r⟩
end
def Fr (b : Nat) (h h' : Hp) : Prop := h.length <= h'.length /\ ∀ j, j < h.length -> j ≠ b -> h'[j]? = h[j]?
section
variable {b c : Nat} {h h' h'' : Hp}
theorem Fr.refl (b : Nat) (h : Hp) : Fr b h h := ⟨Nat.le_refl _, fun _ _ _ => rfl⟩
theorem Fr.trans (A : Fr b h h') (B : Fr b h' h'') : Fr b h h'' := ⟨Nat.le_trans A.1 B.1, fun j hj hb => (B.2 j (Nat.lt_of_lt_of_le hj A.1) hb).trans (A.2 j hj hb)⟩
theorem Fr.set (A : Fr b h h') (o : O) : Fr b h (h'.set b o) := ⟨by rw [List.length_set]; exact A.1, fun j hj hb => by rw [get_set_ne (Ne.symm hb)]; exact A.2 j hj hb⟩
theorem Fr.app (A : Fr b h h') (e : Hp) : Fr b h (h' ++ e) := ⟨by rw [List.length_append]; exact Nat.le_trans A.1 (Nat.le_add_right _ _), fun j hj hb => by rw [List.getElem?_append_left (Nat.lt_of_lt_of_le hj A.1)]; exact A.2 j hj hb⟩
theorem Fr.get (A : Fr b h h') {j : Nat} {o : O} (e : h[j]? = some o) (hb : j ≠ b) : h'[j]? = some o := (A.2 j (lt_of_get e) hb).trans e
theorem Fr.list (A : Fr b h h') {o : O} (hb : h[b]? = some o) (ho : o.list? = none) {j : Nat} {l : List V} (e : listAt j h = some l) : listAt j h' = some l := by
 have e1 := listAt_of e
 refine list_of (A.get e1 fun z => ?_)
 rw [z, hb] at e1
 rw [Option.some.inj e1] at ho
 exact nomatch ho
theorem Fr.behind (A : Fr b h h') (B : Fr c h' h'') (hc : h.length <= c) : Fr b h h'' := ⟨Nat.le_trans A.1 B.1, fun j hj hb => (B.2 j (Nat.lt_of_lt_of_le hj A.1) (Nat.ne_of_lt (Nat.lt_of_lt_of_le hj hc))).trans (A.2 j hj hb)⟩
end
theorem sigW {k : Nat} (h : k = 2 \/ k = 8 \/ k = 9 \/ k = 10 \/ k = 11) : (k == 4) = false /\ (k == 0) = false := by
 rcases h with rfl | rfl | rfl | rfl | rfl <;> decide
noncomputable def wrLeaf : Ss := (.cons (.ite (.cmp .Eq (.loc 50) (.int 3)) (.cons (.expr (.mcall (.loc 40) 22 (.cons (.loc 60) .nil)))
 .nil) (.cons (.ite (.cmp .Eq (.loc 50) (.int 6)) (.cons (.expr (.mcall (.loc 40) 12 (.cons (.loc 60) .nil)))
 .nil) (.cons (.ite (.cmp .Eq (.loc 50) (.int 7)) (.cons (.expr (.mcall (.loc 40) 23 (.cons (.loc 60) .nil)))
 .nil) (.cons (.ite (.cmp .Eq (.loc 50) (.int 4)) (.cons (.expr (.mcall (.loc 40) 15 (.cons (.loc 60) .nil)))
 .nil) (.cons (.ite (.cmp .Eq (.loc 50) (.int 0)) (.cons (.expr (.mcall (.loc 40) 24 (.cons (.loc 60) .nil)))
 .nil) (.cons (.expr (.mcall (.loc 40) 16 (.cons (.loc 60) .nil)))
 .nil))
 .nil))
 .nil))
 .nil))
 .nil))
 .nil)
theorem leaf_not1 {k : Nat} {f : Int} {v : V} {hd bd : List Int} (L : Leaf k f v hd bd) : (k == 1) = false := by
 cases L with
 | uns a => rcases a with rfl | rfl <;> rfl
 | sig a => exact (sigK a).2.2.2.1
 | _ => rfl
section
variable {d s b k : Nat} {lv : Loc} {h : Hp} {bs hd bd : List Int} {f : Int} {v : V} {ss : Ss} {Q : OutS -> Prop}
theorem r_wleaf (S : Sink h s b bs) (L : Leaf k f v hd bd) (l50 : lv.lookup 50 = some (.int k)) (l60 : lv.lookup 60 = some v) (l40 : lv.lookup 40 = some (.ref s)) (hb : bs.length <= 20000)
  (fin : ∀ e, Rn T2 ⟨false, callF T2 (d + 2)⟩ ss lv (h.set b (.ba (bs ++ (hd ++ bd))) ++ e) Q) : Rn T2 ⟨false, callF T2 (d + 2)⟩ (app wrLeaf ss) lv h Q := by
 have b4 : bs.length <= 40000 := Nat.le_trans hb (by decide)
 have fin0 : Rn T2 ⟨false, callF T2 (d + 2)⟩ ss lv (h.set b (.ba (bs ++ (hd ++ bd)))) Q := List.append_nil (h.set b (.ba (bs ++ (hd ++ bd)))) ▸ fin []
 cases L with
 | uns a q c =>
  rw [List.append_nil] at fin0
  have c64 := Int.lt_of_lt_of_le c (two64 (bitsU a).2)
  rcases a with rfl | rfl
  ·exact r_else (t_is (j := 3) l50) rfl (r_else (t_is (j := 6) l50) rfl (r_else (t_is (j := 7) l50) rfl (r_else (t_is (j := 4) l50) rfl (r_if (t_is (j := 0) l50) rfl (r_expr (v_smeth (f := 20) (vq l40) S rfl rfl (vq l60) (run_sink_many (d := d) S b4 q c64)) fin0)))))
  ·exact r_else (t_is (j := 3) l50) rfl (r_else (t_is (j := 6) l50) rfl (r_else (t_is (j := 7) l50) rfl (r_if (t_is (j := 4) l50) rfl (r_expr (v_smeth (f := 18) (vq l40) S rfl rfl (vq l60) (run_sink_unsigned (d := d + 1) S b4 q c64)) fin0))))
 | oct a c =>
  rw [List.append_nil] at fin0
  exact r_else (t_is (j := 3) l50) rfl (r_if (t_is (j := 6) l50) rfl (r_expr (v_smeth (f := 16) (vq l40) S rfl rfl (vq l60) (run_sink_octet (d := d + 1) S (Nat.le_trans hb (by decide)) ⟨a, c⟩)) fin0))
 | sig a q c =>
  rw [List.append_nil] at fin0
  have B := two63 (bitsS (f := f) a).2
  obtain ⟨_, q6, q7, _, q3⟩ := sigK a
  obtain ⟨q4, q0⟩ := sigW a
  exact r_else (t_is (j := 3) l50) q3 (r_else (t_is (j := 6) l50) q6 (r_else (t_is (j := 7) l50) q7 (r_else (t_is (j := 4) l50) q4 (r_else (t_is (j := 0) l50) q0 (r_expr (v_smeth (f := 19) (vq l40) S rfl rfl (vq l60) (run_sink_signed (d := d + 1) S b4 (Int.le_trans (Int.neg_le_neg B) q) (Int.lt_of_lt_of_le c B))) fin0)))))
 | txt a c =>
  obtain ⟨e, hr⟩ := run_sink_name (d := d) S (Nat.le_trans hb (by decide)) a (Nat.le_trans c (by decide))
  rw [List.append_assoc] at hr
  exact r_if (t_is (j := 3) l50) rfl (r_expr (v_smeth (f := 21) (vq l40) S rfl rfl (vq l60) hr) (fin e))
 | byt a c => exact r_else (t_is (j := 3) l50) rfl (r_else (t_is (j := 6) l50) rfl (r_if (t_is (j := 7) l50) rfl (r_expr (v_smeth (f := 17) (vq l40) S rfl rfl (vq l60) (run_sink_put (d := d + 1) S b4 (Nat.le_trans c (by decide)))) fin0)))
def WrI (h : Hp) (s b : Nat) (bs os : List Int) (Sb : Nat -> List Int -> Prop) (r : List V) (lv : Loc) (h' : Hp) : Prop := ∃ done os', NodesX (fun i => listAt i h) Sb r os' /\ done ++ os' = os /\ Sink h' s b (bs ++ done) /\ Fr b h h' /\ lv.lookup 40 = some (.ref s)
theorem wr_room {a p q r o : Nat} (h : p + (q + r) = o) (k : a + o <= 5000) : a + p <= 20000 := by omega
theorem write_nodes {Sb : Nat -> List Int -> Prop} {i : Nat} {os : List Int} {vs : List V}
  (hsub : ∀ (h' : Hp) (s2 b2 j : Nat) (bd : List Int), Sb j bd -> (∀ a l, listAt a h = some l -> listAt a h' = some l) -> Sink h' s2 b2 [] -> bd.length <= 5000 -> ∃ h'', callF T2 (d + 3) false 36 [.ref s2, .ref j] h' = some (.ok .none h'') /\ Sink h'' s2 b2 bd /\ Fr b2 h' h'')
  (S : Sink h s b bs) (hi : h[i]? = some (.list vs)) (N : NodesX (fun i => listAt i h) Sb vs os) (hl : bs.length + os.length <= 5000) (hv : vs.length <= 900) :
  ∃ h', callF T2 (d + 4) false 36 [.ref s, .ref i] h = some (.ok .none h') /\ Sink h' s b (bs ++ os) /\ Fr b h h' := by
 have R : ∃ out, callF T2 (d + 4) false 36 [.ref s, .ref i] h = some out /\ ∃ h', out = .ok .none h' /\ Sink h' s b (bs ++ os) /\ Fr b h h' := by
  refine call_ex (r := P2.f36) rfl rfl (r_fori (I := Fr b h) (WrI h s b bs os Sb) rfl rfl (it_list hi) (gives_list (fun h' z => z.list S.2 rfl (list_of hi)) vs 0 rfl) (Nat.lt_of_le_of_lt hv (by decide)) (fun _ _ _ ⟨_, _, _, _, _, z, _⟩ => z) ⟨[], os, N, rfl, (List.append_nil bs).symm ▸ S, Fr.refl b h, rfl⟩ (fun v r lv h' I => ?_) fun lv h' I => ?_)
  ·obtain ⟨done, os', Nr, hos, S', F', l40⟩ := I
   cases Nr with
   | @cons k f v hd bd hi' bi r os'' Kd e1 e2 Nr =>
    have hlen := congrArg List.length hos
    rw [List.length_append, List.length_append] at hlen
    have room : (bs ++ done).length <= 20000 := by rw [List.length_append]; exact wr_room hlen hl
    have m40 := asgK (k := k) (v := v) (f := f) (hi := hi') (bi := bi) (by decide) l40
    have hos' : done ++ (hd ++ bd) ++ os'' = os := by rw [List.append_assoc]; exact hos
    refine ⟨_, asg_of, ?_⟩
    rcases Kd with L | ⟨rfl, rfl, hb5, rfl, j, rfl, hsb⟩
    ·refine r_else (t_is (j := 1) asg50) (leaf_not1 L) (r_wleaf (d := d + 1) S' L asg50 asg60 m40 room fun e => r_nil ⟨done ++ (hd ++ bd), os'', Nr, hos', ?_, (F'.set _).app e, m40⟩)
     rw [<- List.append_assoc bs]
     exact (S'.set (bs ++ done ++ (hd ++ bd))).app e
    ·have S2 : Sink (h' ++ [.inst 1 [(7, .ref (h'.length + 1))], .ba []]) h'.length (h'.length + 1) [] := ⟨g0, g1⟩
     obtain ⟨h3, hc, S3, F3⟩ := hsub _ _ _ j bd hsb (fun a l z => (F'.app _).list S.2 rfl z) S2 hb5
     have F4 : Fr b h h3 := (F'.app _).behind F3 (Nat.le_succ_of_le F'.1)
     have hsl := lt_of_get S'.1
     have hbl := lt_of_get S'.2
     have S4 : Sink h3 s b (bs ++ done) := ⟨F3.get (getOld S'.1) (Nat.ne_of_lt (Nat.lt_succ_of_lt hsl)), F3.get (getOld S'.2) (Nat.ne_of_lt (Nat.lt_succ_of_lt hbl))⟩
     have hz := run_sink_sized (d := d + 1) S4 S3 (Nat.ne_of_gt (Nat.lt_succ_of_lt hbl)) (Nat.le_trans room (by decide)) (Nat.le_trans hb5 (by decide))
     have n40 : (setL 70 (.ref h'.length) (asg 1 (.ref j) 0 hi' bi lv)).lookup 40 = some (.ref s) := zk (by decide) m40
     refine r_if (t_is (j := 1) asg50) rfl (r_assign (v_call rfl (new_sink (d := d + 2))) (r_expr (v_call (xk (vq lk_same) (xk (vq (zk (by decide) asg60)) rfl)) hc) (r_expr (v_smeth (f := 22) (vq n40) S4 rfl rfl (vq lk_same) hz) (r_nil ⟨done ++ (uleb 9 bd.length ++ bd), os'', Nr, hos', ?_, F4.set _, n40⟩))))
     rw [<- List.append_assoc bs, <- List.append_assoc (bs ++ done)]
     exact S4.set _
  ·obtain ⟨done, os', Nr, hos, S', F', l40⟩ := I
   cases Nr
   rw [List.append_nil] at hos
   subst hos
   exact r_nil ⟨h', rfl, S', F'⟩
 obtain ⟨out, e, h', rfl, r⟩ := R
 exact ⟨h', e, r⟩
end
theorem run_write {d : Nat} : ∀ (D : Nat) {h : Hp} {s b i : Nat} {bs os : List Int} {vs : List V}, Sink h s b bs -> h[i]? = some (.list vs) -> NodesD D (fun i => listAt i h) vs os -> bs.length + os.length <= 5000 -> vs.length <= 900 ->
  ∃ h', callF T2 (d + D + 4) false 36 [.ref s, .ref i] h = some (.ok .none h') /\ Sink h' s b (bs ++ os) /\ Fr b h h'
 | 0, _, _, _, _, _, _, _, S, hi, N, hl, hv => write_nodes (d := d) (fun _ _ _ _ _ z => z.elim) S hi N hl hv
 | D + 1, _, _, _, _, _, _, _, S, hi, N, hl, hv => write_nodes (d := d + D + 1) (fun h' s2 b2 j bd ⟨ws, hw, hwl, hnd⟩ hk S2 hb => run_write D S2 (listAt_of (hk _ _ hw)) (hnd.mono hk) (by rw [List.length_nil, Nat.zero_add]; exact hb) hwl) S hi N hl hv
theorem runG_low {o : Int} (h : ¬ 128 <= o) (k : Nat) (r : List Int) : runG (k + 1) (o :: r) = ([o % 128], false) := if_neg h
theorem runG_high {o : Int} (h : 128 <= o) (k : Nat) (r : List Int) : runG (k + 1) (o :: r) = (o % 128 :: (runG k r).1, (runG k r).2) := if_pos h
theorem more_ge (n : Int) : 128 <= n % 128 + 128 /\ (n % 128 + 128) % 128 = n % 128 := by omega
theorem back128 (n : Int) : n % 128 + 128 * (n / 128) = n := by omega
theorem not128 {n : Int} (h : n < 128) : ¬ 128 <= n := Int.not_le.mpr h
theorem succ_of {k : Nat} (h : 1 <= k) : ∃ j, k = j + 1 := ⟨k - 1, (Nat.sub_add_cancel h).symm⟩
theorem runG_uleb : ∀ (f : Nat) (n : Int) (k : Nat) (rest : List Int), 0 <= n -> n < (128 : Int) ^ (f + 1) -> (uleb f n).length <= k -> ∃ g, runG k (uleb f n ++ rest) = (g, false) /\ valG g = n /\ g.length = (uleb f n).length := by
 have one : ∀ (n : Int) (k : Nat) (rest : List Int), 0 <= n -> n < 128 -> 1 <= k -> ∃ g, runG k ([n] ++ rest) = (g, false) /\ valG g = n /\ g.length = 1 := fun n k rest h0 h1 hk => by
  obtain ⟨k, rfl⟩ := succ_of hk
  refine ⟨[n], (runG_low (not128 h1) k rest).trans ?_, Int.add_zero n, rfl⟩
  rw [Int.emod_eq_of_lt h0 h1]
 intro f
 induction f with
 | zero => exact fun n k rest h0 h1 hk => one n k rest h0 h1 hk
 | succ f ih =>
  intro n k rest h0 h1 hk
  by_cases hn : n < 128
  ·rw [uleb_low (f + 1) hn] at hk ⊢
   exact one n k rest h0 hn hk
  ·rw [uleb_high f hn] at hk ⊢
   obtain ⟨k, rfl⟩ := succ_of (Nat.le_trans (Nat.le_add_left 1 _) hk)
   rw [p128] at h1
   have D := div_bounds (Int.not_lt.mp hn) h1
   obtain ⟨g, e1, e2, e3⟩ := ih (n / 128) k rest D.1 D.2 (Nat.le_of_succ_le_succ hk)
   refine ⟨n % 128 :: g, ?_, ?_, congrArg (· + 1) e3⟩
   ·rw [List.cons_append, runG_high (more_ge n).1, (more_ge n).2, e1]
   ·show n % 128 + 128 * valG g = n
    rw [e2, back128]
theorem runG_more {n : Int} {l : List Int} {k j : Nat} (hj : j < l.length + 1) (hk : j <= k) (ih : ∀ k j, j < l.length -> j <= k -> ∃ g, runG k (l.take j) = (g, true) /\ g.length = j) : ∃ g, runG k (((n % 128 + 128) :: l).take j) = (g, true) /\ g.length = j := by
 cases j with
 | zero => exact ⟨[], runG_nil k, rfl⟩
 | succ j =>
  obtain ⟨k, rfl⟩ := succ_of (Nat.le_trans (Nat.le_add_left 1 j) hk)
  obtain ⟨g, e1, e2⟩ := ih k j (Nat.lt_of_succ_lt_succ hj) (Nat.le_of_succ_le_succ hk)
  exact ⟨n % 128 :: g, by rw [List.take_succ_cons, runG_high (more_ge n).1, (more_ge n).2, e1], congrArg (· + 1) e2⟩
theorem runG_none {l : List Int} {k j : Nat} (hl : l.length = 1) (hj : j < l.length) : ∃ g, runG k (l.take j) = (g, true) /\ g.length = j := by
 obtain rfl : j = 0 := Nat.lt_one_iff.mp (hl ▸ hj)
 exact ⟨[], runG_nil k, rfl⟩
theorem runG_uleb_cut : ∀ (f : Nat) (n : Int) (k j : Nat), j < (uleb f n).length -> j <= k -> ∃ g, runG k ((uleb f n).take j) = (g, true) /\ g.length = j
 | 0, n, k, j, hj, hk => runG_none rfl hj
 | f + 1, n, k, j, hj, hk => by
  by_cases hn : n < 128
  ·rw [uleb_low (f + 1) hn] at hj ⊢; exact runG_none rfl hj
  ·rw [uleb_high f hn] at hj ⊢; exact runG_more hj hk (runG_uleb_cut f (n / 128))
theorem runG_sleb_cut : ∀ (f : Nat) (n : Int) (k j : Nat), j < (sleb f n).length -> j <= k -> ∃ g, runG k ((sleb f n).take j) = (g, true) /\ g.length = j
 | 0, n, k, j, hj, hk => runG_none rfl hj
 | f + 1, n, k, j, hj, hk => by
  by_cases hn : -64 <= n /\ n < 64
  ·rw [sleb_low (f + 1) hn] at hj ⊢; exact runG_none rfl hj
  ·rw [sleb_high f hn] at hj ⊢; exact runG_more hj hk (runG_sleb_cut f (n / 128))
theorem numV_cons (sg : Bool) (a x : Int) (g : List Int) : numV sg (a :: x :: g) = a + 128 * numV sg (x :: g) := by
 have hv : valG (a :: x :: g) = a + 128 * valG (x :: g) := rfl
 unfold numV
 by_cases c : sg = true /\ 64 <= (x :: g).getLastD 0
 ·rw [if_pos c]
  refine (if_pos c).trans ?_
  rw [hv, List.length_cons, Int.pow_succ, Int.mul_sub, Int.mul_comm (128 : Int), Int.mul_comm (128 : Int)]
  exact Int.add_sub_assoc ..
 ·rw [if_neg c]
  exact if_neg c
theorem numV_one {n : Int} (h : -64 <= n /\ n < 64) : numV true [n % 128] = n := by
 have hv : valG [n % 128] = n % 128 := Int.add_zero _
 unfold numV
 rw [hv]
 show (if true = true /\ 64 <= n % 128 then n % 128 - 128 ^ 1 else n % 128) = n
 by_cases c : 64 <= n % 128
 ·rw [if_pos ⟨rfl, c⟩]; omega
 ·rw [if_neg fun z => c z.2]; omega
theorem mod_low (n : Int) : ¬ 128 <= n % 128 /\ n % 128 % 128 = n % 128 := by omega
theorem runG_sleb : ∀ (f : Nat) (n : Int) (k : Nat) (rest : List Int), (-64 * (128 : Int) ^ f <= n /\ n < 64 * (128 : Int) ^ f) -> (sleb f n).length <= k -> ∃ x g, runG k (sleb f n ++ rest) = (x :: g, false) /\ numV true (x :: g) = n /\ g.length + 1 = (sleb f n).length := by
 have one : ∀ (n : Int) (k : Nat) (rest : List Int), (-64 <= n /\ n < 64) -> 1 <= k -> ∃ x g, runG k ([n % 128] ++ rest) = (x :: g, false) /\ numV true (x :: g) = n /\ g.length + 1 = 1 := fun n k rest h hk => by
  obtain ⟨k, rfl⟩ := succ_of hk
  refine ⟨n % 128, [], (runG_low (mod_low n).1 k rest).trans ?_, numV_one h, rfl⟩
  rw [(mod_low n).2]
 intro f
 induction f with
 | zero => exact fun n k rest h hk => one n k rest h hk
 | succ f ih =>
  intro n k rest h hk
  by_cases hn : -64 <= n /\ n < 64
  ·rw [sleb_low (f + 1) hn] at hk ⊢
   exact one n k rest hn hk
  ·rw [sleb_high f hn] at hk ⊢
   obtain ⟨k, rfl⟩ := succ_of (Nat.le_trans (Nat.le_add_left 1 _) hk)
   rw [p128] at h
   obtain ⟨x, g, e1, e2, e3⟩ := ih (n / 128) k rest (s_div h) (Nat.le_of_succ_le_succ hk)
   refine ⟨n % 128, x :: g, ?_, ?_, congrArg (· + 1) e3⟩
   ·rw [List.cons_append, runG_high (more_ge n).1, (more_ge n).2, e1]
   ·rw [numV_cons, e2, back128]
theorem uleb_len_of : ∀ (f m : Nat) (n : Int), n < (128 : Int) ^ (m + 1) -> (uleb f n).length <= m + 1
 | 0, m, n, _ => Nat.le_add_left 1 m
 | f + 1, m, n, h => by
  by_cases hn : n < 128
  ·rw [uleb_low (f + 1) hn]; exact Nat.le_add_left 1 m
  ·rw [uleb_high f hn]
   cases m with
   | zero => exact absurd h hn
   | succ m =>
    rw [p128] at h
    exact Nat.succ_le_succ (uleb_len_of f m (n / 128) (div_bounds (Int.not_lt.mp hn) h).2)
theorem sleb_len_of : ∀ (f m : Nat) (n : Int), (-64 * (128 : Int) ^ m <= n /\ n < 64 * (128 : Int) ^ m) -> (sleb f n).length <= m + 1
 | 0, m, n, _ => Nat.le_add_left 1 m
 | f + 1, m, n, h => by
  by_cases hn : -64 <= n /\ n < 64
  ·rw [sleb_low (f + 1) hn]; exact Nat.le_add_left 1 m
  ·rw [sleb_high f hn]
   cases m with
   | zero => exact absurd h hn
   | succ m =>
    rw [p128] at h
    exact Nat.succ_le_succ (sleb_len_of f m (n / 128) (s_div h))
theorem numR_end {bits j : Nat} {sg : Bool} {r g : List Int} (h : runG ((bits + 6) / 7) r = (g, true)) (hg : g.length = j) (hj : j < (bits + 6) / 7) : numR bits sg r = (endS, 0, 0) := by
 unfold numR numG
 rw [h]
 exact if_pos ⟨rfl, hg ▸ hj⟩
theorem numR_val {bits : Nat} {sg : Bool} {r g : List Int} {n : Int} {m : Nat} (h : runG ((bits + 6) / 7) r = (g, false)) (hv : numV sg g = n) (hl : g.length = m) (lo : numLo bits sg <= n) (hi : n < numHi bits sg) : numR bits sg r = ([], n, m) := by
 subst hv hl
 unfold numR numG
 rw [h]
 exact (if_neg fun z => Bool.false_ne_true z.1).trans (numT_good fun z => z.elim (Int.not_lt.mpr lo) (Int.not_le.mpr hi))
theorem seven {b : Nat} (h : 1 <= b) : ∃ m, (b + 6) / 7 = m + 1 /\ b <= 7 * (m + 1) /\ b - 1 <= 7 * m + 6 := ⟨(b + 6) / 7 - 1, by omega, by omega, by omega⟩
theorem numR_uleb {bits : Nat} {n : Int} (b : 1 <= bits /\ bits <= 64) (h0 : 0 <= n) (h1 : n < (2 : Int) ^ bits) : (∀ rest, numR bits false (uleb 9 n ++ rest) = ([], n, (uleb 9 n).length)) /\ ∀ j, j < (uleb 9 n).length -> numR bits false ((uleb 9 n).take j) = (endS, 0, 0) := by
 obtain ⟨m, hm, hb, _⟩ := seven b.1
 have hl : (uleb 9 n).length <= (bits + 6) / 7 := by
  rw [hm]
  exact uleb_len_of 9 m n (by rw [pow128]; exact Int.lt_of_lt_of_le h1 (two_le hb))
 refine ⟨fun rest => ?_, fun j hj => ?_⟩
 ·obtain ⟨g, e1, e2, e3⟩ := runG_uleb 9 n ((bits + 6) / 7) rest h0 (ten128 (Int.lt_of_lt_of_le h1 (two64 b.2))) hl
  exact numR_val e1 ((if_neg fun z => Bool.false_ne_true z.1).trans e2) e3 h0 h1
 ·obtain ⟨g, e1, e2⟩ := runG_uleb_cut 9 n ((bits + 6) / 7) j hj (Nat.le_trans (Nat.le_of_lt hj) hl)
  exact numR_end e1 e2 (Nat.lt_of_lt_of_le hj hl)
theorem numR_sleb {bits : Nat} {n : Int} (b : 1 <= bits /\ bits <= 64) (h0 : -(2 : Int) ^ (bits - 1) <= n) (h1 : n < (2 : Int) ^ (bits - 1)) : (∀ rest, numR bits true (sleb 9 n ++ rest) = ([], n, (sleb 9 n).length)) /\ ∀ j, j < (sleb 9 n).length -> numR bits true ((sleb 9 n).take j) = (endS, 0, 0) := by
 obtain ⟨m, hm, _, hb⟩ := seven b.1
 have h63 := two63 b.2
 have e64 : 64 * (128 : Int) ^ m = (2 : Int) ^ (7 * m + 6) := by rw [pow128, Int.pow_add, Int.mul_comm]; rfl
 have hp : (2 : Int) ^ (bits - 1) <= 64 * (128 : Int) ^ m := e64 ▸ two_le hb
 have hl : (sleb 9 n).length <= (bits + 6) / 7 := by
  rw [hm]
  exact sleb_len_of 9 m n ⟨by rw [Int.neg_mul]; exact Int.le_trans (Int.neg_le_neg hp) h0, Int.lt_of_lt_of_le h1 hp⟩
 refine ⟨fun rest => ?_, fun j hj => ?_⟩
 ·obtain ⟨x, g, e1, e2, e3⟩ := runG_sleb 9 n ((bits + 6) / 7) rest ⟨Int.le_trans (by decide) (Int.le_trans (Int.neg_le_neg h63) h0), Int.lt_of_lt_of_le h1 (Int.le_trans h63 (by decide))⟩ hl
  exact numR_val e1 e2 e3 h0 h1
 ·obtain ⟨g, e1, e2⟩ := runG_sleb_cut 9 n ((bits + 6) / 7) j hj (Nat.le_trans (Nat.le_of_lt hj) hl)
  exact numR_end e1 e2 (Nat.lt_of_lt_of_le hj hl)
theorem m64 (x : Int) : (128 + x % 64) % 64 = x % 64 := by
 rw [show (128 : Int) + x % 64 = x % 64 + 64 * 2 from Int.add_comm .., Int.add_mul_emod_self_left, Int.emod_emod_of_dvd _ (Int.dvd_refl 64)]
theorem mM {a m : Int} (x : Int) (h : 0 <= x /\ x < m) (ha : a % m = 0) : (a + x % m) % m = x := by
 rw [in_range h.1 h.2, Int.add_emod, ha, Int.zero_add, Int.emod_emod_of_dvd _ (Int.dvd_refl m), in_range h.1 h.2]
theorem b64 (x : Int) : x / 64 * 64 + (128 + x % 64) % 64 = x := by
 rw [m64, Int.mul_comm]; exact Int.mul_ediv_add_emod x 64
theorem dvr {p d m : Int} (h0 : 0 <= p) (hd : 0 < d) (h : p < m * d) : 0 <= p / d /\ p / d < m := ⟨Int.ediv_nonneg h0 (Int.le_of_lt hd), Int.ediv_lt_of_lt_mul hd h⟩
theorem back2 {p : Int} (h : 0 <= p /\ p < 2048) : (192 + p / 64 % 32) % 32 * 64 + (128 + p % 64) % 64 = p := by
 rw [mM (p / 64) (dvr h.1 (by decide) h.2) (by decide), b64]
theorem back3 {p : Int} (h : 0 <= p /\ p < 65536) : ((224 + p / 4096 % 16) % 16 * 64 + (128 + p / 64 % 64) % 64) * 64 + (128 + p % 64) % 64 = p := by
 rw [mM (p / 4096) (dvr h.1 (by decide) h.2) (by decide), d2, b64, b64]
theorem back4 {p : Int} (h : 0 <= p /\ p < 1114112) : (((240 + p / 262144 % 8) % 8 * 64 + (128 + p / 4096 % 64) % 64) * 64 + (128 + p / 64 % 64) % 64) * 64 + (128 + p % 64) % 64 = p := by
 rw [mM (p / 262144) (dvr h.1 (by decide) (Int.lt_trans h.2 (by decide))) (by decide), d3, d2, b64, b64, b64]
theorem pW_enc {p : Int} (hp : pt p) (rest : List Int) : pW (enc p ++ rest) (wid p) = p := by
 obtain ⟨p0, p1, _⟩ := hp
 unfold enc
 by_cases h1 : p < 128
 ·rw [wid1 p0 h1]
  show p % 256 % 128 = p
  rw [in_range p0 (Int.lt_trans h1 (by decide)), in_range p0 h1]
 by_cases h2 : p < 2048
 ·rw [wid2 p0 h1 h2]; exact back2 ⟨p0, h2⟩
 by_cases h3 : p < 65536
 ·rw [wid3 p0 h1 h2 h3]; exact back3 ⟨p0, h3⟩
 ·rw [wid4 p0 h1 h2 h3]; exact back4 ⟨p0, p1⟩
theorem enc_len_eq (p : Int) : (enc p).length = wid p := sgn_len p (wid_le p)
theorem sgnT_enc {p : Int} (hp : pt p) {rest : List Int} (hr : ∀ x ∈ rest, 0 <= x /\ x < 256) : sgnT (enc p ++ rest) = some (p, wid p) := by
 have w1 := wid_pos hp.1
 have hW := pW_enc hp rest
 have ht : (enc p ++ rest).take (wid p) = enc p := by rw [<- enc_len_eq, List.take_left]
 have hok : okW (enc p ++ rest) (wid p) = true := by
  unfold okW
  rw [hW, ht]
  exact Bool.and_eq_true_iff.mpr ⟨Bool.and_eq_true_iff.mpr ⟨decide_eq_true hp.2.1, (Bool.not_eq_true' _).mpr (Bool.eq_false_iff.mpr fun z => hp.2.2 (and_dec z))⟩, Bool.and_eq_true_iff.mpr ⟨beq_self_eq_true _, beq_self_eq_true _⟩⟩
 have hrg : ∀ x ∈ enc p ++ rest, 0 <= x /\ x < 256 := oct_app (enc_range p) hr
 cases e : enc p ++ rest with
 | nil =>
  have := congrArg List.length e
  rw [List.length_append, enc_len_eq] at this
  exact absurd (Nat.le_trans w1 (Nat.le.intro this)) (by decide)
 | cons o r =>
  rw [e] at hok hrg hW
  obtain ⟨z1, z2⟩ := (okW_iff hrg w1 (wid_le p)).mp hok
  show (if 1 <= cls o /\ FitsT o r (cls o) then some (pW (o :: r) (cls o), cls o) else none) = _
  rw [z1]
  exact (if_pos ⟨w1, z2⟩).trans (by rw [hW])
theorem textS_encs : ∀ (t : List Nat) (k : Nat), (∀ c ∈ t, pt (c : Int)) -> (encs t).length <= k -> textS k (encs t) = some t
 | [], k, _, _ => textS_nil k
 | c :: t, k, hp, hk => by
  have hc := hp c List.mem_cons_self
  have w1 := wid_pos hc.1
  rw [encs_cons] at hk ⊢
  rw [List.length_append, enc_len_eq] at hk
  have hs := sgnT_enc hc (encs_range t)
  obtain ⟨k, rfl⟩ := succ_of (Nat.le_trans w1 (Nat.le_trans (Nat.le_add_right _ _) hk))
  have hd : (enc c ++ encs t).drop (wid c) = encs t := by rw [<- enc_len_eq, List.drop_left]
  cases e : enc c ++ encs t with
  | nil =>
   rw [e] at hs
   exact nq hs
  | cons o r =>
   rw [e] at hs hd
   rw [textS_cons, hs]
   show Option.map _ (textS k ((o :: r).drop (wid c))) = _
   rw [hd, textS_encs t k (fun d hd => hp d (List.mem_cons_of_mem _ hd)) (Nat.le_of_lt_succ (Nat.lt_of_lt_of_le (Nat.lt_add_of_pos_left w1) hk))]
   show some (((c : Int).toNat) :: t) = _
   rw [Int.toNat_natCast]
def Err (h : Hp) (c : Nat) (B : List Int) (e : Nat) (why : List Nat) (a p : Nat) (o : Out V) : Prop := ∃ h' i, o = .raise i h' /\ h'[i]? = some (ex0 why a) /\ Cur h' c B p e /\ Fr c h h'
def Okk (h : Hp) (c : Nat) (B : List Int) (e : Nat) (v : V) (p : Nat) (o : Out V) : Prop := ∃ h', o = .ok v h' /\ Cur h' c B p e /\ Fr c h h'
inductive Way (hd bd r : List Int) : Prop where
 | a (j : Nat) : j < hd.length -> r = hd.take j -> Way hd bd r
 | b (r2 : List Int) : r = hd ++ r2 -> r2.length < bd.length -> Way hd bd r
 | c (r2 : List Int) : r = hd ++ (bd ++ r2) -> Way hd bd r
def WayO (h : Hp) (c : Nat) (B : List Int) (e P0 k : Nat) (G : Out V -> Prop) (hd bd r : List Int) (o : Out V) : Prop :=
 (r.length < hd.length /\ Err h c B e endS e e o) \/
 (hd.length <= r.length /\ r.length < hd.length + bd.length /\ Err h c B e (if (k == 7) = true then endS else boundS) (if (k == 7) = true then e else P0 + hd.length) (P0 + hd.length) o) \/
 (hd.length + bd.length <= r.length /\ G o)
section
variable {lv : Loc} {h : Hp} {c p e P0 d m : Nat} {B r tail hd bd : List Int} {o : Out V} {bits : Nat} {sg : Bool} {v : V}
theorem take_lt {j : Nat} (hj : j < hd.length) (hr : r = hd.take j) : r.length < hd.length := by rw [hr, List.length_take]; exact Nat.lt_of_le_of_lt (Nat.min_le_left _ _) hj
theorem app_lt {r2 : List Int} (hr : r = hd ++ r2) (hl : r2.length < bd.length) : hd.length <= r.length /\ r.length < hd.length + bd.length := by rw [hr, List.length_append]; exact ⟨Nat.le_add_right _ _, Nat.add_lt_add_left hl _⟩
theorem app_le {r2 : List Int} (hr : r = hd ++ (bd ++ r2)) : hd.length + bd.length <= r.length := by rw [hr, List.length_append, List.length_append, <- Nat.add_assoc]; exact Nat.le_add_right _ _
theorem ReadO.good {n : Int} {m : Nat} (C : Cur h c B P0 e) (q : ReadO h c B P0 e (numR bits sg r) o) (hR : numR bits sg r = ([], n, m)) : Okk h c B e (.int n) (P0 + m) o := by
 rw [hR] at q
 rcases q with ⟨_, rfl⟩ | ⟨z, _⟩
 ·exact ⟨_, rfl, C.set _, (Fr.refl c h).set _⟩
 ·exact absurd rfl z
theorem ReadO.stop (C : Cur h c B P0 e) (q : ReadO h c B P0 e (numR bits sg r) o) (hR : numR bits sg r = (endS, 0, 0)) : Err h c B e endS e e o := by
 rw [hR] at q
 rcases q with ⟨z, _⟩ | ⟨_, p, a, w, rfl⟩
 ·exact nomatch z
 ·obtain ⟨rfl, rfl⟩ := w rfl
  exact ⟨_, _, rfl, by rw [<- List.length_set (i := c) (a := curO B p p)]; exact g0, getOld (C.set _), ((Fr.refl c h).set _).app _⟩
theorem left_iff : ((e : Int) - (p : Int) < (m : Int)) ↔ e < p + m := by omega
theorem v_left {y : Nat} (C : Cur h c B p e) (l : lv.lookup y = some (.ref c)) : Ev T2 ⟨false, callF T2 (d + 1)⟩ (.mcall (.loc y) 9 .nil) lv h (.int ((e : Int) - p)) h := e_meth (vq l) C (f := 1) rfl rfl (run_left C)
theorem run_take_end (C : Cur h c B p e) (hm : e < p + m) : ∃ o, callF T2 (d + 2) false 5 [.ref c, .int m] h = some o /\ Err h c B e endS e p o :=
 call_ex (r := P2.f5) rfl rfl (r_if (t_of (v_cmp (vq rfl) (v_left C rfl) rfl) rfl) (decide_eq_true (left_iff.mpr hm)) (r_throw rfl (a_end C rfl) ⟨_, _, rfl, g0, getOld C, (Fr.refl c h).app _⟩))
theorem run_part_end (C : Cur h c B p e) (hm : e < p + m) : ∃ o, callF T2 (d + 2) false 6 [.ref c, .int m] h = some o /\ Err h c B e boundS p p o :=
 call_ex (r := P2.f6) rfl rfl (r_if (t_of (v_cmp (vq rfl) (v_left C rfl) rfl) rfl) (decide_eq_true (left_iff.mpr hm)) (r_throw rfl (a_at C rfl) ⟨_, _, rfl, g0, getOld C, (Fr.refl c h).app _⟩))
theorem new_cursor : callG T2 ⟨false, callF T2 (d + 1)⟩ (.cls 0) [.bytes B, .int p, .int e] h = some (.ok (.ref h.length) (h ++ [curO B p e])) := by
 have s1 : ∀ o o' : O, (h ++ [o]).set h.length o' = h ++ [o'] := fun o o' => s0
 have h1 : callF T2 (d + 1) false 0 [.ref h.length, .bytes B, .int p, .int e] (h ++ [.inst 0 []]) = some (.ok .none (h ++ [curO B p e])) := by
  refine call_rn (r := P2.f0) rfl rfl (r_attr rfl rfl g0 (by decide) ?_)
  rw [s1]
  refine r_attr rfl rfl g0 (show 1 <= big by decide) ?_
  rw [s1]
  refine r_attr (v_else (t_of (v_cmp rfl rfl rfl) rfl) rfl rfl) rfl g0 (show 2 <= big by decide) ?_
  rw [s1]
  exact r_nil rfl
 show (okOf (callF T2 (d + 1) false 0 [.ref h.length, .bytes B, .int p, .int e] (h ++ [.inst 0 []]))).bind _ = _
 rw [h1]; rfl
theorem run_part (C : Cur h c B p e) (hm : ¬ e < p + m) : ∃ h' c2, callF T2 (d + 2) false 6 [.ref c, .int m] h = some (.ok (.ref c2) h') /\ Cur h' c B (p + m) e /\ Cur h' c2 B p (p + m) /\ Fr c h h' /\ h.length <= c2 := by
 have C1 : Cur (h ++ [curO B p (p + m)]) c B p e := getOld C
 refine ⟨_, h.length, call_rn (r := P2.f6) rfl rfl (r_else (t_of (v_cmp (vq rfl) (v_left C rfl) rfl) rfl) (decide_eq_false fun z => hm (left_iff.mp z)) (r_assign (v_call (xk (a_buf C rfl) (xk (a_at C rfl) (xk (v_bin (k := (p + m : Nat)) (a_at C rfl) (vq rfl) rfl) rfl))) (new_cursor (d := d))) (r_move C1 (zk (by decide) rfl) (vq (zk (by decide) rfl)) (r_ret (vq lk_same) rfl)))), C1.set _, ?_, ((Fr.refl c h).app _).set _, Nat.le_refl _⟩
 exact (get_set_ne (Nat.ne_of_lt (lt_of_get C))).trans g0
theorem name_left {n : Nat} {r2 : List Int} (he : e = P0 + (hd ++ r2).length) (hn : n = hd.length) : (e < P0 + n + m) ↔ r2.length < m := by
 rw [List.length_append] at he
 omega
theorem run_name {t : List Nat} (C : Cur h c B P0 e) (hne : h ≠ []) (hB : B.drop P0 = r ++ tail) (he : e = P0 + r.length) (hl : B.length <= 900) (hP : P0 <= 9000) (hr : ∀ x ∈ r, 0 <= x /\ x < 256) (ht : ∀ c ∈ t, pt (c : Int)) (htl : t.length <= 4) (w : Way (uleb 9 (encs t).length) (encs t) r) :
  ∃ o, callF T2 (d + 5) false 14 [.ref c] h = some o /\ WayO h c B e P0 3 (Okk h c B e (.str t) (P0 + ((uleb 9 (encs t).length).length + (encs t).length))) (uleb 9 (encs t).length) (encs t) r o := by
 have el := encs4 htl
 have sm := small_nat (Nat.le_trans el (by decide))
 have nr := numR_uleb (bits := 32) (n := ((encs t).length : Int)) (by decide) sm.1 (Int.lt_of_le_of_lt (Int.ofNat_le.mpr el) (by decide))
 obtain ⟨o, ho, q⟩ := run_reader (d := d) 0 (by decide) C hB he (Nat.le_trans hl (by decide)) hr
 have q : ReadO h c B P0 e (numR 32 false r) o := q
 generalize hn : uleb 9 ((encs t).length : Int) = hd at nr w ⊢
 refine call_ex (r := P2.f14) rfl rfl ?_
 cases w with
 | a j hj hr2 =>
  obtain ⟨h', i, rfl, hi, C2, F2⟩ := q.stop C (hr2 ▸ nr.2 j hj)
  exact r_assign_raise (e_meth rfl C (f := 9) rfl rfl ho) (.inl ⟨take_lt hj hr2, _, _, rfl, hi, C2, F2⟩)
 | b r2 hr2 hl2 =>
  obtain ⟨h1, rfl, C1, F1⟩ := q.good C (hr2 ▸ nr.1 r2)
  have l0 : (setL 24 (.int (encs t).length) [(0, .ref c)]).lookup 0 = some (.ref c) := rfl
  refine r_assign (e_meth rfl C (f := 9) rfl rfl ho) (r_if (t_of (v_cmp (vq lk_same) (v_left C1 l0) rfl) rfl) (decide_eq_true (left_iff.mpr ((name_left (hr2 ▸ he) rfl).mpr hl2))) (r_throw rfl (a_at C1 l0) (.inr (.inl ⟨(app_lt hr2 hl2).1, (app_lt hr2 hl2).2, _, _, rfl, g0, getOld C1, F1.app _⟩))))
 | c r2 hr2 =>
  obtain ⟨h1, rfl, C1, F1⟩ := q.good C (hr2 ▸ nr.1 (encs t ++ r2))
  have l0 : (setL 24 (.int (encs t).length) [(0, .ref c)]).lookup 0 = some (.ref c) := rfl
  have hm : (encs t).length <= (encs t ++ r2).length := by rw [List.length_append]; exact Nat.le_add_right _ _
  have hdl : hd.length <= 10 := hn ▸ uleb_len 9 _
  have htake := run_take (n := 0) (d := d + 2) (r := encs t ++ r2) (tail := tail) (m := (encs t).length) C1 (by rw [<- List.drop_drop, hB, hr2, List.append_assoc, List.drop_left]) (by rw [he, hr2, List.length_append, Nat.add_assoc]) (Nat.le_trans hl (by decide)) hm (Nat.le_trans (Nat.add_le_add hP hdl) (by decide))
  rw [List.take_left, Nat.add_assoc P0] at htake
  have C2 := C1.set (P0 + (hd.length + (encs t).length))
  have F2 := F1.set (curO B (P0 + (hd.length + (encs t).length)) e)
  have ne2 : h1.set c (curO B (P0 + (hd.length + (encs t).length)) e) ≠ [] := fun z => by
   have := lt_of_get C2
   rw [z] at this
   exact absurd this (Nat.not_lt_zero _)
  obtain ⟨out, hout, htx⟩ := run_text (d := d + 2) (l := encs t) ne2 (P0 + hd.length : Nat) (Nat.le_trans el (by decide)) (encs_range t)
  unfold TextOut at htx
  rw [textS_encs t _ ht (Nat.le_refl _)] at htx
  obtain ⟨g, rfl⟩ := htx
  exact r_assign (e_meth rfl C (f := 9) rfl rfl ho) (r_else (t_of (v_cmp (vq lk_same) (v_left C1 l0) rfl) rfl) (decide_eq_false fun z => Nat.not_lt.mpr hm ((name_left (hr2 ▸ he) rfl).mp (left_iff.mp z))) (r_assign (a_at C1 l0) (r_ret (v_call (xk (e_meth1 (vq (zk (by decide) l0)) C1 (f := 5) rfl rfl (vq (zk (by decide) lk_same)) htake) (xk (vq lk_same) rfl)) hout) (.inr (.inr ⟨app_le hr2, _, rfl, getOld C2, F2.app g⟩)))))
end
noncomputable def chain : List (Nat × E) -> E -> Ss
 | [], e => .cons (.ret e) .nil
 | q :: l, e => .cons (.ite (.cmp .Eq (.loc 50) (.int (q.1 : Nat))) (.cons (.ret q.2) .nil) .nil) (chain l e)
noncomputable def pick (k : Nat) : List (Nat × E) -> E -> E
 | [], e => e
 | q :: l, e => if (k == q.1) = true then q.2 else pick k l e
theorem r_any {T : Tab} {x : X} {e : E} {lv : Loc} {hp : Hp} {o : Out V} {ss : Ss} (h : ev T x e lv hp = some o) : Rn T x (.cons (.ret e) ss) lv hp fun out => outS out = o := by
 cases o with
 | ok v h' => exact r_ret h rfl
 | raise i h' => exact r_ret_raise h rfl
theorem chain_run {T : Tab} {x : X} {lv : Loc} {hp : Hp} {o : Out V} {k : Nat} (l50 : lv.lookup 50 = some (.int k)) {e : E} : ∀ {l : List (Nat × E)}, ev T x (pick k l e) lv hp = some o -> Rn T x (chain l e) lv hp fun out => outS out = o
 | [], h => r_any h
 | q :: l, h => by
  refine r_ite (t_is (j := q.1) l50) (fun z => r_any ((if_pos z : pick k (q :: l) e = q.2) ▸ h)) fun z => chain_run l50 ?_
  rw [show pick k (q :: l) e = pick k l e from if_neg (by rw [z]; exact Bool.false_ne_true)] at h
  exact h
noncomputable def wd (k : Nat) : E := .callg 55 (.fn 27) (.cons (.int k) (.cons (.loc 51) .nil))
noncomputable def nextL : List (Nat × E) := [(0, .mcall (.loc 75) 17 .nil), (1, .mcall (.loc 75) 14 (.cons (.mcall (.loc 75) 17 .nil) .nil)), (2, .mcall (.loc 75) 19 .nil), (3, .mcall (.loc 75) 22 .nil), (4, .mcall (.loc 75) 15 (.cons (wd 4) .nil)), (6, .mcall (.loc 75) 12 .nil), (7, .mcall (.loc 75) 13 (.cons (.loc 24) .nil)),
 (8, .mcall (.loc 75) 20 .nil), (9, .mcall (.loc 75) 21 .nil), (10, .mcall (.loc 75) 16 (.cons (wd 10) .nil))]
noncomputable def nextE (k : Nat) : E := pick k nextL (.mcall (.loc 75) 18 .nil)
noncomputable def nlv (c k m : Nat) (f : Int) : Loc := [(75, .ref c), (50, .int k), (24, .int m), (51, .int f)]
section
variable {h h' : Hp} {c d k m P0 e i : Nat} {f : Int} {B r tail hd bd : List Int} {o : Out V} {v : V} {bits : Nat} {sg : Bool} {n : Int}
theorem next_eq (he : ev T2 ⟨false, callF T2 d⟩ (nextE k) (nlv c k m f) h = some o) : callF T2 (d + 1) false 37 [.ref c, .int k, .int m, .int f] h = some o := by
 obtain ⟨out, h1, h2⟩ := chain_run (l := nextL) (e := .mcall (.loc 75) 18 .nil) (k := k) (lv := nlv c k m f) rfl he
 exact (call_of (r := P2.f37) rfl rfl h1).trans (congrArg some h2)
theorem next_meth {mt fn : Nat} (C : Cur h c B P0 e) (hk : nextE k = .mcall (.loc 75) mt .nil) (hm : T2.meth 0 mt = some fn) (g : getF [(7, .bytes B), (6, .int P0), (8, .int e)] mt = none) (hr : callF T2 d false fn [.ref c] h = some o) : callF T2 (d + 1) false 37 [.ref c, .int k, .int m, .int f] h = some o :=
 next_eq (by rw [hk]; exact e_meth rfl C hm g hr)
theorem next_meth1 {mt fn : Nat} {a : E} (C : Cur h c B P0 e) (hk : nextE k = .mcall (.loc 75) mt (.cons a .nil)) (hm : T2.meth 0 mt = some fn) (g : getF [(7, .bytes B), (6, .int P0), (8, .int e)] mt = none) (ha : Ev T2 ⟨false, callF T2 d⟩ a (nlv c k m f) h v h) (hr : callF T2 d false fn [.ref c, v] h = some o) : callF T2 (d + 1) false 37 [.ref c, .int k, .int m, .int f] h = some o :=
 next_eq (by rw [hk]; exact e_meth1 rfl C hm g ha hr)
theorem way_num {G : Out V -> Prop} (C : Cur h c B P0 e) (q : ReadO h c B P0 e (numR bits sg r) o) (nr : (∀ rest, numR bits sg (hd ++ rest) = ([], n, hd.length)) /\ ∀ j, j < hd.length -> numR bits sg (hd.take j) = (endS, 0, 0)) (w : Way hd [] r) (hG : Okk h c B e (.int n) (P0 + hd.length) o -> G o) : WayO h c B e P0 k G hd [] r o := by
 cases w with
 | a j hj hr => exact .inl ⟨take_lt hj hr, q.stop C (hr ▸ nr.2 j hj)⟩
 | b r2 hr hl => exact absurd hl (Nat.not_lt_zero _)
 | c r2 hr => exact .inr (.inr ⟨app_le hr, hG (q.good C (hr ▸ nr.1 _))⟩)
theorem next_leaf (C : Cur h c B P0 e) (hne : h ≠ []) (hB : B.drop P0 = r ++ tail) (he : e = P0 + r.length) (hl : B.length <= 900) (hP : P0 <= 9000) (hr : ∀ x ∈ r, 0 <= x /\ x < 256) (L : Leaf k f v hd bd) (w : Way hd bd r) :
  ∃ o, callF T2 (d + 6) false 37 [.ref c, .int k, .int bd.length, .int f] h = some o /\ WayO h c B e P0 k (Okk h c B e v (P0 + (hd.length + bd.length))) hd bd r o := by
 have hlh : B.length <= huge := Nat.le_trans hl (by decide)
 cases L with
 | uns a b q =>
  have nr := numR_uleb (bitsU a) b q
  rcases a with rfl | rfl
  ·exact (run_reader (d := d + 1) 0 (by decide) C hB he hlh hr).imp fun o h => h.imp (next_meth C rfl (fn := 9) rfl rfl) fun q1 => way_num C q1 nr w id
  ·obtain ⟨o, ho, q1⟩ := run_unsigned (d := d + 2) C hB he hlh hr (bitsU (f := f) (.inr rfl)).1 (bitsU (f := f) (.inr rfl)).2
   exact ⟨o, next_meth1 C rfl (fn := 7) rfl rfl (v_call (xk rfl (xk rfl rfl)) (run_width0 (d := d + 4) (hm := false) (k := 4) rfl)) ho, way_num C q1 nr w id⟩
 | sig a b q =>
  have nr := numR_sleb (bitsS a) b q
  rcases a with rfl | rfl | rfl | rfl | rfl
  ·exact (run_reader (d := d + 1) 1 (by decide) C hB he hlh hr).imp fun o h => h.imp (next_meth C rfl (fn := 11) rfl rfl) fun q1 => way_num C q1 nr w id
  ·exact (run_reader (d := d + 1) 2 (by decide) C hB he hlh hr).imp fun o h => h.imp (next_meth C rfl (fn := 12) rfl rfl) fun q1 => way_num C q1 nr w id
  ·exact (run_reader (d := d + 1) 3 (by decide) C hB he hlh hr).imp fun o h => h.imp (next_meth C rfl (fn := 13) rfl rfl) fun q1 => way_num C q1 nr w id
  ·have z := bitsS (k := 10) (f := f) (.inr (.inr (.inr (.inl rfl))))
   obtain ⟨o, ho, q1⟩ := run_signed (d := d + 2) C hB he hlh hr z.1 z.2
   exact ⟨o, next_meth1 C rfl (fn := 8) rfl rfl (v_call (xk rfl (xk rfl rfl)) (run_width0 (d := d + 4) (hm := false) (k := 10) rfl)) ho, way_num C q1 nr w id⟩
  ·exact (run_reader (d := d + 1) 4 (by decide) C hB he hlh hr).imp fun o h => h.imp (next_meth C rfl (fn := 10) rfl rfl) fun q1 => way_num C q1 nr w id
 | @oct _ n a b =>
  cases w with
  | a j hj hr2 =>
   obtain rfl : j = 0 := Nat.lt_one_iff.mp hj
   obtain rfl : r = [] := hr2
   obtain rfl : e = P0 := he
   exact ⟨_, next_meth C rfl (fn := 4) rfl rfl (run_octet_end (d := d + 3) C (Nat.le_refl _)), .inl ⟨Nat.lt_one_iff.mpr rfl, _, _, rfl, g0, getOld C, (Fr.refl c h).app _⟩⟩
  | b r2 hr2 hl => exact absurd hl (Nat.not_lt_zero _)
  | c r2 hr2 =>
   have hBo : B[P0]? = some n := by
    have z : (B.drop P0)[0]? = some n := by rw [hB, hr2]; rfl
    rwa [List.getElem?_drop] at z
   exact ⟨_, next_meth C rfl (fn := 4) rfl rfl (run_octet_ok (d := d + 3) C (by rw [he, hr2]; exact Nat.lt_add_of_pos_right (Nat.succ_pos _)) hBo hlh), .inr (.inr ⟨app_le hr2, _, rfl, C.set _, (Fr.refl c h).set _⟩)⟩
 | txt a b =>
  obtain ⟨o, ho, q⟩ := run_name (d := d) C hne hB he hl hP hr a b w
  exact ⟨o, next_meth C rfl (fn := 14) rfl rfl ho, q⟩
 | byt a b =>
  cases w with
  | a j hj hr2 => exact absurd hj (Nat.not_lt_zero _)
  | b r2 hr2 hl2 =>
   obtain rfl : r = r2 := hr2
   obtain ⟨o, ho, q⟩ := run_take_end (d := d + 3) (m := bd.length) C (by rw [he]; exact Nat.add_lt_add_left hl2 _)
   exact ⟨o, next_meth1 C rfl (fn := 5) rfl rfl rfl ho, .inr (.inl ⟨Nat.zero_le _, by rw [List.length_nil, Nat.zero_add]; exact hl2, q⟩)⟩
  | c r2 hr2 =>
   have hr2 : r = bd ++ r2 := hr2
   have ho := run_take (n := 0) (d := d + 3) (m := bd.length) C hB he (Nat.le_trans hl (by decide)) (by rw [hr2, List.length_append]; exact Nat.le_add_right _ _) (Nat.le_trans hP (by decide))
   rw [hr2, List.take_left] at ho
   refine ⟨_, next_meth1 C rfl (fn := 5) rfl rfl rfl ho, .inr (.inr ⟨app_le (hd := []) hr2, _, rfl, ?_, (Fr.refl c h).set _⟩)⟩
   rw [List.length_nil, Nat.zero_add]
   exact C.set _
def PartO (h : Hp) (c : Nat) (B : List Int) (e P0 P1 P2 : Nat) (o : Out V) : Prop := ∃ h' c2, o = .ok (.ref c2) h' /\ Cur h' c B P2 e /\ Cur h' c2 B P1 P2 /\ Fr c h h' /\ h.length <= c2
theorem e_methA {x : X} {lv : Loc} {a b : E} {p m f : Nat} {R : Option (Out V)} (ho : Ev T2 x a lv h (.ref c) h) (C : Cur h c B p e) (hm : T2.meth 0 m = some f) (g : getF [(7, .bytes B), (6, .int p), (8, .int e)] m = none) (ha : Ev T2 x b lv h v h') (hr : x.call x.hm f [.ref c, v] h' = R) : ev T2 x (.mcall a m (.cons b .nil)) lv h = R :=
 (b_ok ho).trans ((b_ok (show findM T2 (.ref c) m h = some (.ok (.fn f) h) by unfold findM; rw [k_meth C hm g]; rfl)).trans ((b_ok (xk ha rfl)).trans hr))
theorem e_methR {x : X} {lv : Loc} {a b : E} {p m f : Nat} (ho : Ev T2 x a lv h (.ref c) h) (C : Cur h c B p e) (hm : T2.meth 0 m = some f) (g : getF [(7, .bytes B), (6, .int p), (8, .int e)] m = none) (ha : ev T2 x b lv h = some (.raise i h')) : ev T2 x (.mcall a m (.cons b .nil)) lv h = some (.raise i h') :=
 (b_ok ho).trans ((b_ok (show findM T2 (.ref c) m h = some (.ok (.fn f) h) by unfold findM; rw [k_meth C hm g]; rfl)).trans (b_raise (b_raise ha)))
theorem next_part (C : Cur h c B P0 e) (hB : B.drop P0 = r ++ tail) (he : e = P0 + r.length) (hl : B.length <= 900) (hr : ∀ x ∈ r, 0 <= x /\ x < 256) (hb : bd.length <= 5000) (w : Way (uleb 9 bd.length) bd r) :
  ∃ o, callF T2 (d + 6) false 37 [.ref c, .int (1 : Nat), .int bd.length, .int f] h = some o /\ WayO h c B e P0 1 (PartO h c B e P0 (P0 + (uleb 9 bd.length).length) (P0 + ((uleb 9 bd.length).length + bd.length))) (uleb 9 bd.length) bd r o := by
 have sm := small_nat (Nat.le_trans hb (by decide))
 have nr := numR_uleb (bits := 32) (n := (bd.length : Int)) (by decide) sm.1 (Int.lt_of_le_of_lt (Int.ofNat_le.mpr hb) (by decide))
 obtain ⟨o, ho, q⟩ := run_reader (d := d + 1) 0 (by decide) C hB he (Nat.le_trans hl (by decide)) hr
 have q : ReadO h c B P0 e (numR 32 false r) o := q
 generalize hn : uleb 9 (bd.length : Int) = hd at nr w ⊢
 have hm := e_meth (x := ⟨false, callF T2 (d + 5)⟩) (lv := nlv c 1 bd.length f) (o := .loc 75) rfl C (m := 17) (f := 9) rfl rfl ho
 cases w with
 | a j hj hr2 =>
  obtain ⟨h', i, rfl, hi, C2, F2⟩ := q.stop C (hr2 ▸ nr.2 j hj)
  exact ⟨_, next_eq (k := 1) (e_methR rfl C (f := 6) rfl rfl hm), .inl ⟨take_lt hj hr2, _, _, rfl, hi, C2, F2⟩⟩
 | b r2 hr2 hl2 =>
  refine cps fun G_ f_ => ?_
  obtain ⟨h1, rfl, C1, F1⟩ := q.good C (hr2 ▸ nr.1 r2)
  obtain ⟨o, ho, h', i, rfl, hi, C2, F2⟩ := run_part_end (d := d + 3) (m := bd.length) C1 ((name_left (hr2 ▸ he) rfl).mpr hl2)
  refine f_ ?_
  clear f_ G_
  exact ⟨_, next_eq (k := 1) (e_methA rfl C (f := 6) rfl rfl hm ho), .inr (.inl ⟨(app_lt hr2 hl2).1, (app_lt hr2 hl2).2, _, _, rfl, hi, C2, F1.trans F2⟩)⟩
 | c r2 hr2 =>
  refine cps fun G_ f_ => ?_
  obtain ⟨h1, rfl, C1, F1⟩ := q.good C (hr2 ▸ nr.1 (bd ++ r2))
  obtain ⟨h', c2, ho, C2, C3, F2, hc2⟩ := run_part (d := d + 3) (m := bd.length) C1 (fun z => Nat.not_lt.mpr (by rw [List.length_append]; exact Nat.le_add_right _ _) ((name_left (hr2 ▸ he) rfl).mp z))
  refine f_ ?_
  clear f_ G_
  rw [Nat.add_assoc] at C2 C3
  exact ⟨_, next_eq (k := 1) (e_methA rfl C (f := 6) rfl rfl hm ho), .inr (.inr ⟨app_le hr2, _, _, rfl, C2, C3, F1.trans F2, Nat.le_trans F1.1 hc2⟩)⟩
end
theorem seq_i (a : Int) : seq (.int a) (.int a) = some true := congrArg some (beq_self_eq_true a)
theorem seq_s (a : List Nat) : seq (.str a) (.str a) = some true := congrArg some (beq_self_eq_true a)
theorem seq_b (a : Bool) : seq (.bool a) (.bool a) = some true := congrArg some (beq_self_eq_true a)
theorem seq_y (a : List Int) : seq (.bytes a) (.bytes a) = some true := congrArg some (beq_self_eq_true a)
theorem seqAll_cons {a b : V} {as bs : List V} (h : seq a b = some true) (k : seqAll as bs = some true) : seqAll (a :: as) (b :: bs) = some true := by
 show (seq a b).bind _ = _
 rw [h]
 exact k
theorem veq_tup {hp : Hp} {as bs : List V} (h : seqAll as bs = some true) (l : as.length = bs.length) (f : as.all flat = true) (f' : bs.all flat = true) : veq hp (.tup as) (.tup bs) = some true := (if_pos ⟨l, f, f'⟩).trans h
theorem veq_si {hp : Hp} {w : List Nat} {a : Int} : veq hp (.tup [.str w, .int a]) (.tup [.str w, .int a]) = some true := veq_tup (seqAll_cons (seq_s w) (seqAll_cons (seq_i a) rfl)) rfl rfl rfl
section
variable {T : Tab} {x : X} {lv : Loc} {hp h1 h2 h h' : Hp} {l r e : E} {v w : V} {c p d : Nat} {B : List Int}
theorem v_eq (a : Ev T x l lv hp v h1) (b : Ev T x r lv h1 w h2) (q : veq h2 v w = some true) : Ev T x (.cmp .Eq l r) lv hp (.bool true) h2 := v_cmp a b (by
 show (veq h2 v w).map _ = _
 rw [q]; rfl)
theorem v_ne (a : Ev T x l lv hp v h1) (b : Ev T x r lv h1 w h2) (q : veq h2 v w = some true) : Ev T x (.cmp .NotEq l r) lv hp (.bool false) h2 := v_cmp a b (by
 show (veq h2 v w).map _ = _
 rw [q]; rfl)
theorem v_both (a : Ev T x l lv hp (.bool true) h1) (b : Ev T x r lv h1 (.bool true) h2) : Ev T x (.bop .And (.cons l (.cons r .nil))) lv hp (.bool true) h2 := v_past a rfl rfl (v_last b)
theorem e_tag {i : Nat} (a : ev T x e lv hp = some (.raise i h1)) : ev T x (.tup (.cons (.str []) (.cons e .nil))) lv hp = some (.raise i h1) := b_raise ((b_ok rfl).trans (b_raise (b_raise a)))
theorem r_fault {w : List Nat} {a : Int} {i : Nat} {Q : OutS -> Prop} {lv : Loc} (hi : h[i]? = some (ex0 w a)) (q : ∀ lv, Q (.ret (.tup [.str w, .int a]) lv h)) : Rn T ⟨true, x.call⟩ (.cons (.ret (.tup (.cons (.attr (.loc 77) 5) (.cons (.attr (.loc 77) 6) .nil)))) .nil) (setL 77 (.ref i) lv) h (HanQ 77 Q) :=
 r_ret (v_tup (xk (v_attr (vq lk_same) hi rfl rfl) (xk (v_attr (vq lk_same) hi rfl rfl) rfl)) (show 2 <= big by decide)) (q _)
theorem told_ok {a1 a2 a3 a4 : V} (ho : callF T2 d false 37 [a1, a2, a3, a4] h = some (.ok v h')) : callF T2 (d + 1) false 38 [a1, a2, a3, a4] h = some (.ok (.tup [.str [], v]) h') :=
 call_rn (r := P2.f38) rfl rfl (r_try rfl (r_ret (v_tup (xk rfl (xk (v_call (xk rfl (xk rfl (xk rfl (xk rfl rfl)))) ho) rfl)) (show 2 <= big by decide)) rfl))
theorem told_err {a1 a2 a3 a4 : V} {i : Nat} {w : List Nat} {a : Int} (ho : callF T2 d false 37 [a1, a2, a3, a4] h = some (.raise i h')) (hi : h'[i]? = some (ex0 w a)) : callF T2 (d + 1) false 38 [a1, a2, a3, a4] h = some (.ok (.tup [.str w, .int a]) h') :=
 call_rn (r := P2.f38) rfl rfl (r_try rfl (r_ret_raise (e_tag (e_call (xk rfl (xk rfl (xk rfl (xk rfl rfl)))) ho)) ⟨_, hi, r_fault hi fun _ => rfl⟩))
theorem peeked_end {e : Nat} (C : Cur h c B p e) (q : e <= p) : callF T2 (d + 2) false 39 [.ref c] h = some (.ok (.tup [.str endS, .int p]) (h ++ [ex0 endS p])) :=
 call_rn (r := P2.f39) rfl rfl (r_try rfl (r_ret_raise (e_tag (e_meth rfl C (f := 3) rfl rfl (run_peek_end C q))) ⟨_, g0, r_fault g0 fun _ => rfl⟩))
theorem peeked_ok {e : Nat} {y : Int} (C : Cur h c B p e) (q : p < e) (ho : B[p]? = some y) (hl : B.length <= huge) : callF T2 (d + 2) false 39 [.ref c] h = some (.ok (.tup [.str [], .int y]) h) :=
 call_rn (r := P2.f39) rfl rfl (r_try rfl (r_ret (v_tup (xk rfl (xk (e_meth rfl C (f := 3) rfl rfl (run_peek_ok C q ho hl)) rfl)) (show 2 <= big by decide)) rfl))
theorem done_eq {p e : Nat} (h : p <= e) : decide ((e : Int) <= p) = ((p : Int) == e) := by
 by_cases q : p = e
 ·subst q; rw [beq_self_eq_true]; exact decide_eq_true (Int.le_refl _)
 ·rw [beq_eq_false_iff_ne.mpr fun w => q (Int.ofNat_inj.mp w)]
  exact decide_eq_false fun w => q (Nat.le_antisymm h (Int.ofNat_le.mp w))
theorem run_stands {e : Nat} (C : Cur h c B p e) (hpe : p <= e) (hB : p < e -> p < B.length) (hl : B.length <= huge) : ∃ g, callF T2 (d + 3) false 40 [.ref c, .bytes B, .int p, .int e] h = some (.ok (.bool true) (h ++ g)) := by
 have l75 : ([(75, .ref c), (7, .bytes B), (6, .int p), (8, .int e)] : Loc).lookup 75 = some (.ref c) := rfl
 have l7 : ([(75, .ref c), (7, .bytes B), (6, .int p), (8, .int e)] : Loc).lookup 7 = some (.bytes B) := rfl
 have l6 : ([(75, .ref c), (7, .bytes B), (6, .int p), (8, .int e)] : Loc).lookup 6 = some (.int p) := rfl
 have l8 : ([(75, .ref c), (7, .bytes B), (6, .int p), (8, .int e)] : Loc).lookup 8 = some (.int e) := rfl
 have go : ∀ (w : List Nat) (a : Int) (g : Hp), callF T2 (d + 2) false 39 [.ref c] h = some (.ok (.tup [.str w, .int a]) (h ++ g)) -> Ev T2 ⟨false, callF T2 (d + 2)⟩ (.ite (.cmp .Lt (.loc 6) (.loc 8)) (.tup (.cons (.str []) (.cons (.sub (.loc 7) (.loc 6)) .nil))) (.tup (.cons (.str endS) (.cons (.loc 8) .nil)))) [(75, .ref c), (7, .bytes B), (6, .int p), (8, .int e)] h (.tup [.str w, .int a]) h ->
   ∃ g, callF T2 (d + 3) false 40 [.ref c, .bytes B, .int p, .int e] h = some (.ok (.bool true) (h ++ g)) := fun w a g hpk hdue => by
  refine ⟨g, call_rn (r := P2.f40) rfl rfl ?_⟩
  show Rn T2 _ _ [(75, .ref c), (7, .bytes B), (6, .int p), (8, .int e)] h _
  generalize ([(75, .ref c), (7, .bytes B), (6, .int p), (8, .int e)] : Loc) = lv at l75 l7 l6 l8 hdue
  have n75 : (setL 78 (.tup [.str w, .int a]) lv).lookup 75 = some (.ref c) := zk (by decide) l75
  have C2 : Cur (h ++ g) c B p e := getOld C
  refine r_else (t_of (v_ne (v_tup (xk (v_attr (vq l75) C rfl rfl) (xk (v_left C l75) (xk (e_meth (vq l75) C (f := 2) rfl rfl (run_is_done C)) rfl))) (show 3 <= big by decide)) (v_tup (xk (vq l6) (xk (v_bin (vq l8) (vq l6) rfl) (xk (v_cmp (vq l6) (vq l8) rfl) rfl))) (show 3 <= big by decide)) ?_) rfl) rfl
   (r_assign hdue (r_ret (v_both (v_eq (v_call (xk (vq n75) rfl) hpk) (vq lk_same) veq_si) (v_eq (v_attr (vq n75) C2 rfl rfl) (vq (zk (by decide) l6)) (seq_i p))) rfl))
  rw [done_eq hpe]
  exact veq_tup (seqAll_cons (seq_i p) (seqAll_cons (seq_i _) (seqAll_cons (seq_b _) rfl))) rfl rfl rfl
 by_cases q : p < e
 ·have hp := hB q
  have hy := List.getElem?_eq_getElem hp
  generalize B[p] = y at hy
  exact go [] y [] (by rw [List.append_nil]; exact peeked_ok (d := d) C q hy hl) (v_if (t_of (v_cmp (vq l6) (vq l8) rfl) rfl) (decide_eq_true (Int.ofNat_lt.mpr q)) (v_tup (xk rfl (xk (v_subB (vq l7) (vq l6) hl hy) rfl)) (show 2 <= big by decide)))
 ·obtain rfl : p = e := Nat.le_antisymm hpe (Nat.not_lt.mp q)
  exact go endS p _ (peeked_end (d := d) C (Nat.le_refl p)) (v_else (t_of (v_cmp (vq l6) (vq l8) rfl) rfl) (decide_eq_false (Int.lt_irrefl _)) (v_tup (xk rfl (xk (vq l8) rfl)) (show 2 <= big by decide)))
end
noncomputable def isRLast : Ss := (.cons (.ite (.cmp .Eq (.loc 50) (.int 1)) (.cons (.ite (.not (.callg 84 (.fn 41) (.cons (.sub (.loc 82) (.int 1)) (.cons (.loc 7) (.cons (.loc 60) (.cons (.loc 81) (.cons (.loc 6) .nil))))))) (.cons (.ret (.bool false))
 .nil) .nil)
 .nil) (.cons (.ite (.cmp .NotEq (.sub (.loc 82) (.int 1)) (.loc 60)) (.cons (.ret (.bool false))
 .nil) .nil)
 .nil))
 .nil)
noncomputable def isRBody : Ss := (.cons (.ite (.not (.callg 80 (.fn 40) (.cons (.loc 75) (.cons (.loc 7) (.cons (.loc 6) (.cons (.loc 8) .nil)))))) (.cons (.ret (.bool false))
 .nil) .nil)
 (.cons (.assign (.one 81) (.bin .Add (.loc 6) (.callg 26 (.bi .len) (.cons (.loc 59) .nil))))
 (.cons (.assign (.one 6) (.bin .Add (.loc 81) (.callg 26 (.bi .len) (.cons (.loc 62) .nil))))
 (.cons (.assign (.one 82) (.callg 83 (.fn 38) (.cons (.loc 75) (.cons (.loc 50) (.cons (.callg 26 (.bi .len) (.cons (.loc 62) .nil)) (.cons (.loc 51) .nil))))))
 (.cons (.ite (.cmp .Gt (.loc 81) (.loc 8)) (.cons (.ret (.bop .And (.cons (.cmp .Eq (.loc 82) (.tup (.cons (.str endS) (.cons (.loc 8) .nil)))) (.cons (.cmp .Eq (.attr (.loc 75) 6) (.loc 8)) .nil))))
 .nil) .nil)
 (.cons (.ite (.cmp .Gt (.loc 6) (.loc 8)) (.cons (.assign (.one 78) (.ite (.cmp .Eq (.loc 50) (.int 7)) (.tup (.cons (.str endS) (.cons (.loc 8) .nil))) (.tup (.cons (.str boundS) (.cons (.loc 81) .nil)))))
 (.cons (.ret (.bop .And (.cons (.cmp .Eq (.loc 82) (.loc 78)) (.cons (.cmp .Eq (.attr (.loc 75) 6) (.loc 81)) .nil))))
 .nil)) .nil)
 (.cons (.ite (.bop .Or (.cons (.cmp .NotEq (.sub (.loc 82) (.int 0)) (.str [])) (.cons (.cmp .NotEq (.attr (.loc 75) 6) (.loc 6)) .nil))) (.cons (.ret (.bool false))
 .nil) .nil)
 isRLast)))))))
theorem leaf_veq {k : Nat} {f : Int} {v : V} {hd bd : List Int} (L : Leaf k f v hd bd) (h : Hp) : veq h v v = some true := by
 cases L with
 | txt => exact seq_s _
 | byt => exact seq_y _
 | _ => exact seq_i _
structure RL (c : Nat) (B : List Int) (P0 e n m k : Nat) (v : V) (f : Int) (bi : Nat) (lv : Loc) : Prop where
 l75 : lv.lookup 75 = some (.ref c)
 l7 : lv.lookup 7 = some (.bytes B)
 l8 : lv.lookup 8 = some (.int e)
 l81 : lv.lookup 81 = some (.int (P0 + n : Nat))
 l6 : lv.lookup 6 = some (.int (P0 + (n + m) : Nat))
 l50 : lv.lookup 50 = some (.int k)
 l60 : lv.lookup 60 = some v
 l51 : lv.lookup 51 = some (.int f)
 l62 : lv.lookup 62 = some (.ref bi)
section
variable {B : List Int} {c P0 e n m k hi bi d p : Nat} {f : Int} {v : V} {hd bd : List Int} {lv : Loc} {h h2 : Hp} {Q : OutS -> Prop} {x : X} {ss : Ss}
theorem RL.set (R : RL c B P0 e n m k v f bi lv) {y : Nat} {u : V} (hy : 75 ≠ y /\ 7 ≠ y /\ 8 ≠ y /\ 81 ≠ y /\ 6 ≠ y /\ 50 ≠ y /\ 60 ≠ y /\ 51 ≠ y /\ 62 ≠ y) : RL c B P0 e n m k v f bi (setL y u lv) :=
 ⟨zk hy.1 R.l75, zk hy.2.1 R.l7, zk hy.2.2.1 R.l8, zk hy.2.2.2.1 R.l81, zk hy.2.2.2.2.1 R.l6, zk hy.2.2.2.2.2.1 R.l50, zk hy.2.2.2.2.2.2.1 R.l60, zk hy.2.2.2.2.2.2.2.1 R.l51, zk hy.2.2.2.2.2.2.2.2 R.l62⟩
theorem add3 (a b c : Nat) : binInt .Add ((a + b : Nat) : Int) (c : Int) = some ((a + (b + c) : Nat) : Int) := congrArg some (show ((a + b : Nat) : Int) + (c : Int) = ((a + (b + c) : Nat) : Int) by omega)
theorem r_start (C : Cur h c B P0 e) (hpe : P0 <= e) (hB : P0 < e -> P0 < B.length) (hl : B.length <= huge) (e1 : listAt hi h = some (hd.map .int)) (e2 : listAt bi h = some (bd.map .int)) (h1 : hd.length <= huge) (h2 : bd.length <= huge)
  (l75 : lv.lookup 75 = some (.ref c)) (l7 : lv.lookup 7 = some (.bytes B)) (l6 : lv.lookup 6 = some (.int P0)) (l8 : lv.lookup 8 = some (.int e))
  (fin : ∀ g lv', RL c B P0 e hd.length bd.length k v f bi lv' -> Rn T2 ⟨false, callF T2 (d + 3)⟩ (dropS 3 isRBody) lv' (h ++ g) Q) : Rn T2 ⟨false, callF T2 (d + 3)⟩ isRBody (asg k v f hi bi lv) h Q := by
 obtain ⟨g, hst⟩ := run_stands (d := d) C hpe hB hl
 have m75 := asgK (k := k) (v := v) (f := f) (hi := hi) (bi := bi) (by decide) l75
 have m7 := asgK (k := k) (v := v) (f := f) (hi := hi) (bi := bi) (by decide) l7
 have m6 := asgK (k := k) (v := v) (f := f) (hi := hi) (bi := bi) (by decide) l6
 have m8 := asgK (k := k) (v := v) (f := f) (hi := hi) (bi := bi) (by decide) l8
 refine r_else (t_of (v_not (v_call (xk (vq m75) (xk (vq m7) (xk (vq m6) (xk (vq m8) rfl)))) hst) rfl) rfl) rfl
  (r_assign (v_bin (k := (P0 + hd.length : Nat)) (vq m6) (v_call (xk (vq asg59) rfl) (c_lenI (listAt_of (listOld e1)) h1)) rfl)
  (r_assign (v_bin (vq lk_same) (v_call (xk (vq (zk (by decide) asg62)) rfl) (c_lenI (listAt_of (listOld e2)) h2)) (add3 P0 hd.length bd.length)) (fin g _ ?_)))
 exact ⟨zk (by decide) (zk (by decide) m75), zk (by decide) (zk (by decide) m7), zk (by decide) (zk (by decide) m8), zk (by decide) lk_same, lk_same, zk (by decide) (zk (by decide) asg50), zk (by decide) (zk (by decide) asg60), zk (by decide) (zk (by decide) asg51), zk (by decide) (zk (by decide) asg62)⟩
theorem r_asks {u : V} (R : RL c B P0 e n bd.length k v f bi lv) (e2 : listAt bi h = some (bd.map .int)) (hb : bd.length <= huge) (ht : callF T2 d false 38 [.ref c, .int k, .int bd.length, .int f] h = some (.ok u h2)) (fin : Rn T2 ⟨false, callF T2 d⟩ (dropS 4 isRBody) (setL 82 u lv) h2 Q) : Rn T2 ⟨false, callF T2 d⟩ (dropS 3 isRBody) lv h Q :=
 r_assign (v_call (xk (vq R.l75) (xk (vq R.l50) (xk (v_call (xk (vq R.l62) rfl) (c_lenI (listAt_of e2) hb)) (xk (vq R.l51) rfl)))) ht) fin
theorem t_gt {y z : Nat} {a b : Nat} (l : lv.lookup y = some (.int a)) (l' : lv.lookup z = some (.int b)) : Tr T2 x (.cmp .Gt (.loc y) (.loc z)) lv h (decide ((b : Int) < (a : Int))) h := t_of (v_cmp (vq l) (vq l') rfl) rfl
theorem gt_yes {a b : Nat} (h : b < a) : decide ((b : Int) < (a : Int)) = true := decide_eq_true (Int.ofNat_lt.mpr h)
theorem gt_no {a b : Nat} (h : a <= b) : decide ((b : Int) < (a : Int)) = false := decide_eq_false fun z => Nat.not_lt.mpr h (Int.ofNat_lt.mp z)
theorem r_cutA (R : RL c B P0 e n m k v f bi lv) (C : Cur h c B e e) (q : e < P0 + n) (l82 : lv.lookup 82 = some (.tup [.str endS, .int e])) (fin : Q (.ret (.bool true) lv h)) : Rn T2 x (dropS 4 isRBody) lv h Q :=
 r_if (t_gt R.l81 R.l8) (gt_yes q) (r_ret (v_both (v_eq (vq l82) (v_tup (xk rfl (xk (vq R.l8) rfl)) (show 2 <= big by decide)) veq_si) (v_eq (v_attr (vq R.l75) C rfl rfl) (vq R.l8) (seq_i e))) fin)
theorem r_cutB {w : List Nat} {a : Nat} (R : RL c B P0 e n m k v f bi lv) (C : Cur h c B (P0 + n) e) (q : P0 + n <= e) (q' : e < P0 + (n + m)) (hw : w = if (k == 7) = true then endS else boundS) (ha : a = if (k == 7) = true then e else P0 + n) (l82 : lv.lookup 82 = some (.tup [.str w, .int a])) (fin : ∀ lv, Q (.ret (.bool true) lv h)) : Rn T2 x (dropS 4 isRBody) lv h Q := by
 have hd : Ev T2 x (.ite (.cmp .Eq (.loc 50) (.int 7)) (.tup (.cons (.str endS) (.cons (.loc 8) .nil))) (.tup (.cons (.str boundS) (.cons (.loc 81) .nil)))) lv h (.tup [.str w, .int a]) h := by
  subst hw ha
  cases z : k == 7 with
  | true => exact v_if (t_is (j := 7) R.l50) z (v_tup (xk rfl (xk (vq R.l8) rfl)) (show 2 <= big by decide))
  | false => exact v_else (t_is (j := 7) R.l50) z (v_tup (xk rfl (xk (vq R.l81) rfl)) (show 2 <= big by decide))
 have R' : RL c B P0 e n m k v f bi (setL 78 (.tup [.str w, .int a]) lv) := R.set (by decide)
 exact r_else (t_gt R.l81 R.l8) (gt_no q) (r_if (t_gt R.l6 R.l8) (gt_yes q') (r_assign hd (r_ret (v_both (v_eq (vq (zk (by decide) l82)) (vq lk_same) veq_si) (v_eq (v_attr (vq R'.l75) C rfl rfl) (vq R'.l81) (seq_i _))) (fin _))))
theorem r_whole {u : V} (R : RL c B P0 e n m k v f bi lv) (C : Cur h c B (P0 + (n + m)) e) (q : P0 + (n + m) <= e) (l82 : lv.lookup 82 = some (.tup [.str [], u])) (fin : Rn T2 x isRLast lv h Q) : Rn T2 x (dropS 4 isRBody) lv h Q :=
 r_else (t_gt R.l81 R.l8) (gt_no (Nat.le_trans (Nat.add_le_add_left (Nat.le_add_right n m) P0) q)) (r_else (t_gt R.l6 R.l8) (gt_no q) (r_else (t_of (v_or' (a := false) (b := false) (v_ne ((b_ok (vq l82)).trans rfl : Ev T2 x (.sub (.loc 82) (.int 0)) lv h (.str []) h) rfl rfl) (v_last (v_ne (v_attr (vq R.l75) C rfl rfl) (vq R.l6) (seq_i _)))) rfl) rfl fin))
theorem cut_a {L a b : Nat} (he : e = P0 + L) (h : L < a) : e < P0 + a := by omega
theorem cut_b {L a b : Nat} (he : e = P0 + L) (h : a <= L) : P0 + a <= e := by omega
theorem r_read {r : List Int} {o : Out V} {G : Out V -> Prop} (R : RL c B P0 e hd.length bd.length k v f bi lv) (e2 : listAt bi h = some (bd.map .int)) (hb : bd.length <= huge) (he : e = P0 + r.length) (ho : callF T2 d false 37 [.ref c, .int k, .int bd.length, .int f] h = some o) (q : WayO h c B e P0 k G hd bd r o)
  (bad : ∀ lv' h', Fr c h h' -> Q (.ret (.bool true) lv' h')) (good : G o -> P0 + (hd.length + bd.length) <= e -> ∃ u h2, o = .ok u h2 /\ Cur h2 c B (P0 + (hd.length + bd.length)) e /\ ∀ lv', RL c B P0 e hd.length bd.length k v f bi lv' -> lv'.lookup 82 = some (.tup [.str [], u]) -> Rn T2 ⟨false, callF T2 (d + 1)⟩ isRLast lv' h2 Q) : Rn T2 ⟨false, callF T2 (d + 1)⟩ (dropS 3 isRBody) lv h Q := by
 rcases q with ⟨z, h2, i, rfl, hi, C2, F2⟩ | ⟨z1, z2, h2, i, rfl, hi, C2, F2⟩ | ⟨z, g⟩
 ·exact r_asks R e2 hb (told_err ho hi) (r_cutA (R.set (by decide)) C2 (cut_a (b := 0) he z) lk_same (bad _ _ F2))
 ·exact r_asks R e2 hb (told_err ho hi) (r_cutB (R.set (by decide)) C2 (cut_b (b := 0) he z1) (cut_a (b := 0) he z2) rfl rfl lk_same fun _ => bad _ _ F2)
 ·have z := cut_b (b := 0) he z
  obtain ⟨u, h2, rfl, C2, fin⟩ := good g z
  exact r_asks R e2 hb (told_ok ho) (r_whole (R.set (by decide)) C2 z lk_same (fin _ (R.set (by decide)) lk_same))
end
theorem way_of (hd bd os : List Int) (m : Nat) : Way hd bd ((hd ++ (bd ++ os)).take m) := by
 by_cases q : m < hd.length
 ·exact .a m q (List.take_append_of_le_length (Nat.le_of_lt q))
 ·have q := Nat.not_lt.mp q
  have e : (hd ++ (bd ++ os)).take m = hd ++ (bd ++ os).take (m - hd.length) := by rw [List.take_append, List.take_of_length_le q]
  by_cases z : m - hd.length < bd.length
  ·exact .b _ e (by rw [List.length_take]; exact Nat.lt_of_le_of_lt (Nat.min_le_left _ _) z)
  ·exact .c (os.take (m - hd.length - bd.length)) (by rw [e, List.take_append, List.take_of_length_le (Nat.not_lt.mp z)])
theorem rest_len {P L e : Nat} (h : P <= e) (k : e <= P + L) : e = P + min (e - P) L := by omega
theorem node_room {P a b o m L : Nat} (h : L - P = a + b + o + m) (hP : P <= L) (hL : L <= 900) : a <= huge /\ b <= huge /\ (P < P + (a + b + o) -> P < L) /\ P + a <= L /\ P + (a + b) <= L := by
 obtain ⟨n, rfl⟩ := Nat.exists_eq_add_of_le hP
 rw [Nat.add_sub_cancel_left] at h
 subst h
 have e : P + (a + b) <= P + (a + b + o + m) := Nat.add_le_add_left (Nat.le_trans (Nat.le_add_right _ o) (Nat.le_add_right _ m)) P
 have ab : a + b <= huge := Nat.le_trans (Nat.le_trans (Nat.le_add_left _ P) (Nat.le_trans e hL)) (by decide)
 exact ⟨Nat.le_trans (Nat.le_add_right a b) ab, Nat.le_trans (Nat.le_add_left b a) ab, fun z => Nat.lt_of_lt_of_le z (Nat.add_le_add_left (Nat.le_add_right _ m) P), Nat.le_trans (Nat.add_le_add_left (Nat.le_add_right a b) P) e, e⟩
section
variable {B : List Int} {c P0 e k hi bi d i : Nat} {f : Int} {v : V} {hd bd os more : List Int} {lv : Loc} {h : Hp} {Q : OutS -> Prop} {Sb : Nat -> List Int -> Prop}
def HSub (d : Nat) (B : List Int) (h : Hp) (Sb : Nat -> List Int -> Prop) : Prop := ∀ (h' : Hp) (c2 j P1 P2 : Nat) (bd more : List Int), Sb j bd -> (∀ a l, listAt a h = some l -> listAt a h' = some l) -> Cur h' c2 B P1 P2 -> P2 = P1 + bd.length -> B.drop P1 = bd ++ more -> P1 <= B.length -> ∃ h'', callF T2 d false 41 [.ref c2, .bytes B, .ref j, .int P1, .int P2] h' = some (.ok (.bool true) h'') /\ Fr c2 h' h''
theorem r_node (hsub : HSub (d + 7) B h Sb) (C : Cur h c B P0 e) (Kd : Kind Sb k f v hd bd) (e1 : listAt hi h = some (hd.map .int)) (e2 : listAt bi h = some (bd.map .int)) (hB : B.drop P0 = hd ++ bd ++ os ++ more) (hPB : P0 <= B.length) (hpe : P0 <= e) (hee : e <= P0 + (hd ++ bd ++ os).length) (hl : B.length <= 900) (hrg : ∀ x ∈ hd ++ bd ++ os, 0 <= x /\ x < 256)
  (l75 : lv.lookup 75 = some (.ref c)) (l7 : lv.lookup 7 = some (.bytes B)) (l6 : lv.lookup 6 = some (.int P0)) (l8 : lv.lookup 8 = some (.int e))
  (bad : ∀ lv' h', Fr c h h' -> Q (.ret (.bool true) lv' h')) (next : ∀ lv' h', Fr c h h' -> Cur h' c B (P0 + (hd.length + bd.length)) e -> P0 + (hd.length + bd.length) <= e -> P0 + (hd.length + bd.length) <= B.length -> RL c B P0 e hd.length bd.length k v f bi lv' -> Q (.next lv' h')) :
  Rn T2 ⟨false, callF T2 (d + 7)⟩ isRBody (asg k v f hi bi lv) h Q := by
 have hBl := congrArg List.length hB
 rw [List.length_drop, List.length_append, List.length_append, List.length_append] at hBl
 obtain ⟨hh1, hh2, hst, hP1, hP2⟩ := node_room hBl hPB hl
 have hee' : e <= P0 + (hd.length + bd.length + os.length) := by rw [<- List.length_append, <- List.length_append]; exact hee
 refine r_start (d := d + 4) C hpe (fun z => hst (Nat.lt_of_lt_of_le z hee')) (Nat.le_trans hl (by decide)) e1 e2 hh1 hh2 l75 l7 l6 l8 fun g lv1 R => ?_
 have F1 : Fr c h (h ++ g) := (Fr.refl c h).app g
 have C1 : Cur (h ++ g) c B P0 e := getOld C
 have e2' : listAt bi (h ++ g) = some (bd.map .int) := listOld e2
 have lk : ∀ {h2 : Hp}, Fr c (h ++ g) h2 -> ∀ a l, listAt a h = some l -> listAt a h2 = some l := fun F a l z => (F1.trans F).list C rfl z
 have ne1 : h ++ g ≠ [] := fun z => by
  have := lt_of_get C1
  rw [z] at this
  exact absurd this (Nat.not_lt_zero _)
 generalize h ++ g = h1 at F1 C1 e2' lk ne1
 have W := way_of hd bd os (e - P0)
 rw [<- List.append_assoc] at W
 have hBr : B.drop P0 = (hd ++ bd ++ os).take (e - P0) ++ ((hd ++ bd ++ os).drop (e - P0) ++ more) := by rw [hB, <- List.append_assoc (List.take _ _), List.take_append_drop]
 have he : e = P0 + ((hd ++ bd ++ os).take (e - P0)).length := by rw [List.length_take]; exact rest_len hpe hee
 have hr : ∀ x ∈ (hd ++ bd ++ os).take (e - P0), 0 <= x /\ x < 256 := fun x hx => hrg x (List.mem_of_mem_take hx)
 generalize (hd ++ bd ++ os).take (e - P0) = r at W hBr he hr
 rcases Kd with L | ⟨rfl, rfl, hb5, rfl, j, rfl, hsb⟩
 ·obtain ⟨o, ho, q⟩ := next_leaf (d := d) C1 ne1 hBr he hl (Nat.le_trans hPB (Nat.le_trans hl (by decide))) hr L W
  refine r_read (d := d + 6) R e2' hh2 he ho q (fun lv' h' F => bad lv' h' (F1.trans F)) fun ⟨h2, ho, C2, F2⟩ le => ⟨v, h2, ho, C2, fun lv' R' l82 => ?_⟩
  exact r_else (t_is (j := 1) R'.l50) (leaf_not1 L) (r_else (t_of (v_ne ((b_ok (vq l82)).trans rfl : Ev T2 _ (.sub (.loc 82) (.int 1)) lv' h2 v h2) (vq R'.l60) (leaf_veq L _)) rfl) rfl (r_nil (next lv' h2 (F1.trans F2) C2 le hP2 R')))
 ·obtain ⟨o, ho, q⟩ := next_part (d := d) (f := 0) C1 hBr he hl hr hb5 W
  refine r_read (d := d + 6) R e2' hh2 he ho q (fun lv' h' F => bad lv' h' (F1.trans F)) fun ⟨h2, c2, ho, C2, C3, F2, hc2⟩ le => ⟨.ref c2, h2, ho, C2, fun lv' R' l82 => ?_⟩
  obtain ⟨h3, hc, F3⟩ := hsub h2 c2 j _ _ bd (os ++ more) hsb (lk F2) C3 (Nat.add_assoc ..).symm (by rw [<- List.drop_drop, hB, List.append_assoc, List.append_assoc, List.drop_left]) hP1
  have cne : c ≠ c2 := Nat.ne_of_lt (Nat.lt_of_lt_of_le (lt_of_get C1) hc2)
  exact r_if (t_is (j := 1) R'.l50) rfl (r_else (t_of (v_not (v_call (xk ((b_ok (vq l82)).trans rfl : Ev T2 _ (.sub (.loc 82) (.int 1)) lv' h2 (.ref c2) h2) (xk (vq R'.l7) (xk (vq R'.l60) (xk (vq R'.l81) (xk (vq R'.l6) rfl))))) hc) rfl) rfl) rfl (r_nil (next lv' h3 ((F1.trans F2).behind F3 (Nat.le_trans F1.1 hc2)) (F3.get C2 cne) le hP2 R')))
structure RI (h : Hp) (c : Nat) (B : List Int) (e : Nat) (more : List Int) (Sb : Nat -> List Int -> Prop) (r : List V) (lv : Loc) (h' : Hp) (os : List Int) (P : Nat) : Prop where
 N : NodesX (fun i => listAt i h) Sb r os
 hB : B.drop P = os ++ more
 hP : P <= B.length
 pe : P <= e
 ee : e <= P + os.length
 rg : ∀ x ∈ os, 0 <= x /\ x < 256
 C : Cur h' c B P e
 F : Fr c h h'
 l75 : lv.lookup 75 = some (.ref c)
 l7 : lv.lookup 7 = some (.bytes B)
 l6 : lv.lookup 6 = some (.int P)
 l8 : lv.lookup 8 = some (.int e)
theorem ri_rest {e P a b o : Nat} (h : e <= P + (a + b + o)) : e <= P + (a + b) + o := by omega
theorem read_nodes {vs : List V} (hsub : HSub (d + 7) B h Sb) (C : Cur h c B P0 e) (hi : h[i]? = some (.list vs)) (N : NodesX (fun i => listAt i h) Sb vs os) (hv : vs.length <= 900) (hB : B.drop P0 = os ++ more) (hPB : P0 <= B.length) (hpe : P0 <= e) (hee : e <= P0 + os.length) (hl : B.length <= 900) (hrg : ∀ x ∈ os, 0 <= x /\ x < 256) :
  ∃ h', callF T2 (d + 8) false 41 [.ref c, .bytes B, .ref i, .int P0, .int e] h = some (.ok (.bool true) h') /\ Fr c h h' := by
 have R : ∃ out, callF T2 (d + 8) false 41 [.ref c, .bytes B, .ref i, .int P0, .int e] h = some out /\ ∃ h', out = .ok (.bool true) h' /\ Fr c h h' := by
  refine call_ex (r := P2.f41) rfl rfl (r_fori (I := Fr c h) (fun r lv h' => ∃ os P, RI h c B e more Sb r lv h' os P) rfl rfl (it_list hi) (gives_list (fun h' z => z.list C rfl (list_of hi)) vs 0 rfl) (Nat.lt_of_le_of_lt hv (by decide)) (fun _ _ _ ⟨_, _, I⟩ => I.F) ⟨os, P0, N, hB, hPB, hpe, hee, hrg, C, Fr.refl c h, rfl, rfl, rfl, rfl⟩ (fun v r lv h' I => ?_) fun lv h' I => ?_)
  ·obtain ⟨os', P, I⟩ := I
   have N' := I.N
   cases N' with
   | @cons k f v hd bd hi' bi r os'' Kd e1 e2 Nr =>
    have lk : ∀ a l, listAt a h = some l -> listAt a h' = some l := fun a l z => I.F.list C rfl z
    have ee := I.ee
    rw [List.length_append, List.length_append] at ee
    refine ⟨_, asg_of, r_node (d := d) (os := os'') (more := more) (fun h'' c2 j P1 P2 bd more a b => hsub h'' c2 j P1 P2 bd more a fun x l z => b x l (lk x l z)) I.C Kd (lk _ _ e1) (lk _ _ e2) I.hB I.hP I.pe I.ee hl I.rg I.l75 I.l7 I.l6 I.l8 (fun lv' h2 F2 => ⟨h2, rfl, I.F.trans F2⟩) fun lv' h2 F2 C2 le leB R' => ⟨os'', P + (hd.length + bd.length), Nr, ?_, leB, le, ri_rest ee, fun x hx => I.rg x (List.mem_append_right _ hx), C2, I.F.trans F2, R'.l75, R'.l7, R'.l6, R'.l8⟩⟩
    rw [<- List.drop_drop, I.hB, List.append_assoc (hd ++ bd), <- List.length_append, List.drop_left]
  ·obtain ⟨os', P, I⟩ := I
   have N' := I.N
   cases N'
   obtain rfl : P = e := Nat.le_antisymm I.pe I.ee
   obtain ⟨g, hst⟩ := run_stands (d := d + 4) I.C (Nat.le_refl P) (fun q => absurd q (Nat.lt_irrefl _)) (Nat.le_trans hl (by decide))
   have C2 : Cur (h' ++ g) c B P P := getOld I.C
   have ht : callF T2 (d + 7) false 38 [.ref c, .int 6, .int 0, .int 0] (h' ++ g) = some (.ok (.tup [.str endS, .int P]) (h' ++ g ++ [ex0 endS P])) := told_err (d := d + 6) (next_meth (d := d + 5) (k := 6) (m := 0) (f := 0) C2 rfl (fn := 4) rfl rfl (run_octet_end (d := d + 3) C2 (Nat.le_refl P))) g0
   have C3 : Cur (h' ++ g ++ [ex0 endS P]) c B P P := getOld C2
   exact r_else (t_of (v_not (v_call (xk (vq I.l75) (xk (vq I.l7) (xk (vq I.l6) (xk (vq I.l8) rfl)))) hst) rfl) rfl) rfl (r_ret (v_both (v_eq (v_call (xk (vq I.l75) (xk rfl (xk rfl (xk rfl rfl)))) ht) (v_tup (xk rfl (xk (vq I.l8) rfl)) (show 2 <= big by decide)) veq_si) (v_eq (v_attr (vq I.l75) C3 rfl rfl) (vq I.l8) (seq_i _))) ⟨_, rfl, (I.F.app g).app _⟩)
 obtain ⟨out, e, h', rfl, r⟩ := R
 exact ⟨h', e, r⟩
end
theorem run_is_read {d : Nat} {B : List Int} (hl : B.length <= 900) : ∀ (D : Nat) {h : Hp} {c i P0 e : Nat} {vs : List V} {os more : List Int}, Cur h c B P0 e -> h[i]? = some (.list vs) -> NodesD D (fun i => listAt i h) vs os -> vs.length <= 900 -> B.drop P0 = os ++ more -> P0 <= B.length -> P0 <= e -> e <= P0 + os.length ->
  ∃ h', callF T2 (d + D + 8) false 41 [.ref c, .bytes B, .ref i, .int P0, .int e] h = some (.ok (.bool true) h') /\ Fr c h h'
 | 0, _, _, _, _, _, _, _, _, C, hi, N, hv, hB, hPB, hpe, hee => read_nodes (d := d) (fun _ _ _ _ _ _ _ z => z.elim) C hi N hv hB hPB hpe hee hl (N.range 0)
 | D + 1, _, _, _, _, _, _, _, _, C, hi, N, hv, hB, hPB, hpe, hee => read_nodes (d := d + D + 1) (fun h' c2 j P1 P2 bd more ⟨ws, hw, hwl, hnd⟩ hk C2 e2 hBd hP1 => by
   subst e2
   exact run_is_read hl D C2 (listAt_of (hk _ _ hw)) (hnd.mono hk) hwl hBd hP1 (Nat.le_add_right _ _) (Nat.le_refl _)) C hi N hv hB hPB hpe hee hl (N.range (D + 1))
noncomputable def lowS : List Nat := [97, 110, 32, 117, 110, 115, 105, 103, 110, 101, 100, 32, 110, 117, 109, 98, 101, 114, 32, 98, 101, 108, 111, 119, 32, 48]
def Keep (h h' : Hp) : Prop := ∀ (j : Nat) (o : O), h[j]? = some o -> h'[j]? = some o
section
variable {d s b c : Nat} {hp h : Hp} {bs : List Int} {n : Int} {T : Tab} {x : X} {e : E} {lv : Loc} {i : Nat} {h₁ : Hp} {ss : Ss} {Q : OutS -> Prop}
theorem r_expr_raise (h : ev T x e lv hp = some (.raise i h₁)) (k : Q (.raise i lv h₁)) : Rn T x (.cons (.expr e) ss) lv hp Q :=
 r_out (out := .raise i lv h₁) (show onV (ev T x e lv hp) lv _ = _ by rw [h]; rfl) (fun _ _ z => nomatch z) k
theorem e_smeth {a o : E} {m f : Nat} {v : V} {R : Option (Out V)} (ho : Ev T2 x o lv h (.ref s) h) (S : Sink h s b bs) (hm : T2.meth 1 m = some f) (h7 : getF [(7, .ref b)] m = none) (ha : Ev T2 x a lv h v h₁) (hr : x.call x.hm f [.ref s, v] h₁ = R) : ev T2 x (.mcall o m (.cons a .nil)) lv h = R :=
 (b_ok ho).trans ((b_ok (show findM T2 (.ref s) m h = some (.ok (.fn f) h) by unfold findM; rw [k_meth S.1 hm h7]; rfl)).trans ((b_ok (xk ha rfl)).trans hr))
theorem run_sink_low (h0 : n < 0) : callF T2 (d + 1) false 18 [.ref s, .int n] h = some (.raise h.length (h ++ [.exc 1 [(5, .str lowS)]])) :=
 call_raise (r := P2.f18) rfl rfl (r_if (t_of rfl rfl) (decide_eq_true h0) (r_raise (c := 1) (fs := [(5, .str lowS)]) rfl (v_call rfl rfl) g0 rfl))
theorem uleb9_room (n : Int) : (uleb 9 n).length <= big := Nat.le_trans (uleb_len 9 n) (by decide)
theorem callF_new (fin : ∀ H, Sink H hp.length (hp.length + 1) [] -> Keep hp H -> Rn T2 ⟨false, callF T2 (d + 1)⟩ (dropS 1 P2.b42) (setL 40 (.ref hp.length) [(36, .int n)]) H fun o => ∃ h', outS o = .ok (.bool true) h' /\ Keep hp h') : ∃ h', callF T2 (d + 2) false 42 [.int n] hp = some (.ok (.bool true) h') /\ Keep hp h' := by
 obtain ⟨out, e, h', rfl, k⟩ : ∃ out, callF T2 (d + 2) false 42 [.int n] hp = some out /\ ∃ h', out = .ok (.bool true) h' /\ Keep hp h' := call_ex (r := P2.f42) rfl rfl (r_assign (v_call rfl (new_sink (d := d))) (fin _ ⟨g0, g1⟩ fun j o hj => getOld hj))
 exact ⟨h', e, k⟩
theorem run_refused (hne : hp ≠ []) (h0 : 0 <= n) (h1 : n < 18446744073709551616) : ∃ h', callF T2 (d + 2) false 42 [.int n] hp = some (.ok (.bool true) h') /\ Keep hp h' := by
 refine callF_new fun H S0 k0 => ?_
 have S1 := S0.set ([] ++ uleb 9 n)
 have S2 := S1.app [.exc 1 [(5, .str lowS)]]
 have k2 : Keep hp (H.set (hp.length + 1) (.ba ([] ++ uleb 9 n)) ++ [.exc 1 [(5, .str lowS)]]) := fun j o hj => getOld ((get_set_ne (Nat.ne_of_gt (Nat.lt_succ_of_lt (lt_of_get hj)))).trans (k0 j o hj))
 have rg := uleb_range 9 n h0 (ten128 h1)
 refine r_expr (v_smeth (f := 18) (vq lk_same) S0 rfl rfl (vq rfl) (run_sink_unsigned (d := d) S0 (by decide) h0 h1)) ?_
 refine r_try rfl (r_expr_raise (e_smeth (f := 18) (vq lk_same) S1 rfl rfl (v_bin (a := -1) rfl (vq rfl) rfl) (run_sink_low (d := d) (show -1 - n < 0 by omega))) ⟨_, g0, ?_⟩)
 refine r_ret (v_both (v_eq (v_attr (vq lk_same) g0 rfl rfl) rfl (seq_s lowS)) (v_sameB (v_call (xk (v_attr (vq (zk (by decide) lk_same)) S2.1 rfl rfl) rfl) (c_bytes (from_ba S2.2) (uleb9_room n))) (v_call (xk (v_call (xk (vq rfl) (xk rfl rfl)) (run_uleb (d := d) (hm := true) (List.concat_ne_nil _ _) h0 h1)) rfl) (c_bytes (from_list g0 rg) (uleb9_room n))))) ⟨_, rfl, fun j o hj => getOld (k2 j o hj)⟩
end
structure LawW (ns : List Int) (a : Nat) (vs : List V) (os : List Int) (oi : Nat) (h : Hp) : Prop where
 z0 : listAt 0 h = some (ns.map .int)
 ha : listAt a h = some vs
 N : NodesD 25 (fun i => listAt i h) vs os
 ho : listAt oi h = some (os.map .int)
noncomputable def lead (b : Nat) : List Int := (List.range b).map fun k : Nat => 255 - (k : Int)
theorem lead_len (b : Nat) : (lead b).length = b := by unfold lead; rw [List.length_map, List.length_range]
theorem lead_range {b : Nat} (h : b < 4) : ∀ x ∈ lead b, 0 <= x /\ x < 256 := fun x hx => by
 obtain ⟨k, hk, rfl⟩ := List.mem_map.mp hx
 have := List.mem_range.mp hk
 omega
noncomputable def aroundB (b : Nat) (os : List Int) : List Int := lead b ++ os ++ [0, 0]
theorem around_len (b : Nat) (os : List Int) : (aroundB b os).length = b + os.length + 2 := by
 unfold aroundB
 rw [List.length_append, List.length_append, lead_len]; rfl
theorem around_drop (b : Nat) (os : List Int) : (aroundB b os).drop b = os ++ [0, 0] := by
 unfold aroundB
 rw [List.append_assoc]
 exact List.drop_left' (lead_len b)
theorem four (x : Int) : ∃ b : Nat, x % 4 = b /\ b < 4 := ⟨(x % 4).toNat, by omega, by omega⟩
theorem cut_of (L : Nat) (x : Int) : ∃ m : Nat, ((L : Int) - 1 - x) % ((L : Int) + 1) = m /\ m <= L := by
 have M := mod_ge (a := (L : Int) - 1 - x) ((L : Int) + 1) (by omega)
 exact ⟨(((L : Int) - 1 - x) % ((L : Int) + 1)).toNat, (Int.toNat_of_nonneg M.1).symm, by omega⟩
theorem mod_big {L : Nat} (h : L <= 360) : 0 < (L : Int) + 1 /\ ((L : Int) + 1).natAbs < 2 ^ 400 := ⟨by omega, Nat.lt_trans (show ((L : Int) + 1).natAbs < 1000 by omega) (by decide)⟩
theorem room_law {b L : Nat} (hb : b < 4) (h : L <= 360) : b + L + 2 <= 900 /\ b <= b + L + 2 := by omega
section
variable {ns os : List Int} {a oi d : Nat} {vs : List V} {h h' : Hp} {lv : Loc}
theorem LawW.keep (W : LawW ns a vs os oi h) (k : ∀ j l, listAt j h = some l -> listAt j h' = some l) : LawW ns a vs os oi h' := ⟨k _ _ W.z0, k _ _ W.ha, W.N.mono k, k _ _ W.ho⟩
theorem LawW.ne (W : LawW ns a vs os oi h) : h ≠ [] := fun z => by
 have := lt_of_get (listAt_of W.ha)
 rw [z] at this
 exact absurd this (Nat.not_lt_zero _)
theorem v_reads {b e : Nat} (W : LawW ns a vs os oi h) (hb : b < 4) (hos : os.length <= 360) (hvs : vs.length <= 12) (he : b <= e) (he' : e <= b + os.length) {y : Nat} (l87 : lv.lookup 87 = some (.bytes (aroundB b os))) (l65 : lv.lookup 65 = some (.ref a)) (l33 : lv.lookup 33 = some (.int b)) (ly : lv.lookup y = some (.int e)) :
  ∃ h', Ev T2 ⟨false, callF T2 59⟩ (.callg 84 (.fn 41) (.cons (.callg 30 (.cls 0) (.cons (.loc 87) (.cons (.loc 33) (.cons (.loc y) .nil)))) (.cons (.loc 87) (.cons (.loc 65) (.cons (.loc 33) (.cons (.loc y) .nil)))))) lv h (.bool true) h' /\ LawW ns a vs os oi h' := by
 have R := room_law hb hos
 have W1 := W.keep (h' := h ++ [curO (aroundB b os) b e]) fun j l z => listOld z
 have C1 : Cur (h ++ [curO (aroundB b os) b e]) h.length (aroundB b os) b e := g0
 obtain ⟨h2, hr, F2⟩ := run_is_read (d := 26) (B := aroundB b os) (by rw [around_len]; exact R.1) 25 C1 (listAt_of W1.ha) W1.N (Nat.le_trans hvs (by decide)) (around_drop b os) (by rw [around_len]; exact R.2) he he'
 exact ⟨h2, v_call (xk (v_call (xk (vq l87) (xk (vq l33) (xk (vq ly) rfl))) (new_cursor (d := 58))) (xk (vq l87) (xk (vq l65) (xk (vq l33) (xk (vq ly) rfl))))) hr, W1.keep fun j l z => F2.list C1 rfl z⟩
theorem r_law_end {b : Nat} (W : LawW ns a vs os oi h) (hns : ns.length <= 63) (hb : b < 4) (hos : os.length <= 360) (hvs : vs.length <= 12) (hr : ∀ x ∈ os, 0 <= x /\ x < 256) (l49 : lv.lookup 49 = some (.ref 0)) (l65 : lv.lookup 65 = some (.ref a)) (l7 : lv.lookup 7 = some (.ref oi)) (l33 : lv.lookup 33 = some (.int b)) :
  Rn T2 ⟨false, callF T2 59⟩ (dropS 6 P2.b43) lv h fun o => ∃ h', outS o = .ok (.bool true) h' := by
 have Rm := room_law hb hos
 have ob : os.length <= 40000 := Nat.le_trans hos (by decide)
 have hh : os.length <= huge := Nat.le_trans hos (by decide)
 have c1 := v_up (T := T2) (x := ⟨false, callF T2 59⟩) (elt := .bin .Sub (.int 255) (.loc 53)) (iter := .callg 54 (.bi .range) (.cons (.loc 33) .nil)) (y := 53) (lv := lv) (m := b) W.ne (v_call (xk (vq l33) rfl) rfl) (Nat.lt_trans hb (by decide)) (fun k => .int (255 - (k : Int))) fun k hk acc => v_bin rfl (vq rfl) rfl
 rw [show (List.range b).map (fun k : Nat => V.int (255 - (k : Int))) = (lead b).map .int by unfold lead; rw [List.map_map]; rfl] at c1
 have c2 := v_addL c1 (vq l7) g0 (getOld (listAt_of W.ho)) (by rw [List.length_map, List.length_map, lead_len]; exact Nat.le_trans (Nat.le_trans (Nat.le_add_right _ 2) Rm.1) (by decide))
 have c3 := v_addL c2 (v_list (es := .cons (.int 0) (.cons (.int 0) .nil)) (vs := ([0, 0] : List Int).map .int) rfl (show 2 <= big by decide)) (getOld g0) g0 (by rw [List.length_append, List.length_map, List.length_map, lead_len]; exact Nat.le_trans Rm.1 (by decide))
 rw [show (lead b).map V.int ++ os.map .int ++ ([0, 0] : List Int).map .int = (aroundB b os).map .int by unfold aroundB; rw [List.map_append, List.map_append]] at c3
 have hB : ∀ x ∈ aroundB b os, 0 <= x /\ x < 256 := oct_app (oct_app (lead_range hb) hr) (by decide)
 refine r_assign (v_call (xk c3 rfl) (c_bytes (from_list g0 hB) (by rw [around_len]; exact Nat.le_trans Rm.1 (by decide)))) ?_
 have W3 := W.keep (h' := h ++ [O.list ((lead b).map .int)] ++ [O.list ((lead b).map .int ++ os.map .int)] ++ [O.list (([0, 0] : List Int).map .int)] ++ [O.list ((aroundB b os).map .int)]) fun j l z => listOld (listOld (listOld (listOld z)))
 generalize h ++ [O.list ((lead b).map .int)] ++ [O.list ((lead b).map .int ++ os.map .int)] ++ [O.list (([0, 0] : List Int).map .int)] ++ [O.list ((aroundB b os).map .int)] = h3 at W3
 have len : ∀ {lv' : Loc} {h : Hp}, LawW ns a vs os oi h -> lv'.lookup 7 = some (.ref oi) -> Ev T2 ⟨false, callF T2 59⟩ (.callg 26 (.bi .len) (.cons (.loc 7) .nil)) lv' h (.int os.length) h := fun W l => v_call (xk (vq l) rfl) (c_lenI (listAt_of W.ho) hh)
 refine r_assign (v_bin (k := (b + os.length : Nat)) (vq (zk (by decide) l33)) (len W3 (zk (by decide) l7)) rfl) ?_
 have n87 : (setL 8 (.int (b + os.length : Nat)) (setL 87 (.bytes (aroundB b os)) lv)).lookup 87 = some (.bytes (aroundB b os)) := zk (by decide) lk_same
 have n8 : (setL 8 (.int (b + os.length : Nat)) (setL 87 (.bytes (aroundB b os)) lv)).lookup 8 = some (.int (b + os.length : Nat)) := lk_same
 have nk : ∀ {y : Nat} {o : Option V}, y ≠ 8 /\ y ≠ 87 -> lv.lookup y = o -> (setL 8 (.int (b + os.length : Nat)) (setL 87 (.bytes (aroundB b os)) lv)).lookup y = o := fun q z => zk q.1 (zk q.2 z)
 replace l49 := nk (by decide) l49
 replace l65 := nk (by decide) l65
 replace l7 := nk (by decide) l7
 replace l33 := nk (by decide) l33
 clear nk c1 c2 c3
 generalize setL 8 (.int (b + os.length : Nat)) (setL 87 (.bytes (aroundB b os)) lv) = lv2 at n87 n8 l49 l65 l7 l33
 obtain ⟨h4, e4, W4⟩ := v_reads W3 hb hos hvs (Nat.le_add_right b _) (Nat.le_refl _) n87 l65 l33 n8
 obtain ⟨m, hm, hm2⟩ := cut_of os.length (dig ns 25)
 refine r_else (t_of (v_not e4 rfl) rfl) rfl (r_assign (v := .int (b + m : Nat)) (v_bin (vq l33) (v_bin (v_bin (v_bin (len W4 l7) rfl rfl) (v_call (xk (vq l49) (xk rfl rfl)) (run_digit (d := 58) 25 W4.z0 hns)) rfl) (v_bin (len W4 l7) rfl rfl) ((bi_mod (mod_big hos).1 (mod_big hos).2).trans (congrArg some hm))) rfl) ?_)
 obtain ⟨h5, e5, W5⟩ := v_reads (lv := setL 88 (.int (b + m : Nat)) lv2) (y := 88) W4 hb hos hvs (Nat.le_add_right b m) (Nat.add_le_add_left hm2 b) (zk (by decide) n87) (zk (by decide) l65) (zk (by decide) l33) lk_same
 exact r_ret e5 ⟨h5, rfl⟩
theorem plain2 (ns : List Int) (hns : ns.length <= 63) : ∃ hp', callF T2 60 false 43 [.ref 0] [.list (ns.map .int)] = some (.ok (.bool true) hp') := by
 have R : ∃ out, callF T2 60 false 43 [.ref 0] [.list (ns.map .int)] = some out /\ ∃ hp', out = .ok (.bool true) hp' := by
  obtain ⟨h, a, vs, os, ht, ha, z0, N, hos, hvs⟩ := run_tree (d := 55) hns
  have hr := N.range 25
  have hne : h ≠ [] := fun z => by rw [z] at ha; exact nomatch ha
  have v9 : vs.length <= 900 := Nat.le_trans hvs (by decide)
  refine call_ex (r := P2.f43) rfl rfl (r_assign (v_call (xk rfl rfl) ht) (r_assign (v_call (xk (vq lk_same) rfl) (run_octets (d := 58) hne ha (fun _ _ e => e) ((NodesD_eq 25 _ _ _).mp N) v9 (Nat.le_trans hos (by decide)))) (r_assign (v_call rfl (new_sink (d := 58))) ?_)))
  show Rn T2 _ _ (setL 40 (.ref (h ++ [O.list (os.map .int)]).length) (setL 7 (.ref h.length) (setL 65 (.ref a) [(49, .ref 0)]))) (h ++ [O.list (os.map .int)] ++ _) _
  have W1 : LawW ns a vs os h.length (h ++ [.list (os.map .int)]) := ⟨list_of (getOld z0), list_of (getOld ha), N.mono fun _ _ e => listOld e, listLast⟩
  have n49 : (setL 40 (.ref (h ++ [O.list (os.map .int)]).length) (setL 7 (.ref h.length) (setL 65 (.ref a) [(49, .ref 0)]))).lookup 49 = some (.ref 0) := rfl
  have n65 : (setL 40 (.ref (h ++ [O.list (os.map .int)]).length) (setL 7 (.ref h.length) (setL 65 (.ref a) [(49, .ref 0)]))).lookup 65 = some (.ref a) := rfl
  have n7 : (setL 40 (.ref (h ++ [O.list (os.map .int)]).length) (setL 7 (.ref h.length) (setL 65 (.ref a) [(49, .ref 0)]))).lookup 7 = some (.ref h.length) := rfl
  have n40 : (setL 40 (.ref (h ++ [O.list (os.map .int)]).length) (setL 7 (.ref h.length) (setL 65 (.ref a) [(49, .ref 0)]))).lookup 40 = some (.ref (h ++ [O.list (os.map .int)]).length) := lk_same
  generalize setL 40 (.ref (h ++ [O.list (os.map .int)]).length) (setL 7 (.ref h.length) (setL 65 (.ref a) [(49, .ref 0)])) = lv at n49 n65 n7 n40
  generalize h.length = oi at W1 n7
  generalize h ++ [O.list (os.map .int)] = h1 at W1 n40
  have S2 : Sink (h1 ++ [.inst 1 [(7, .ref (h1.length + 1))], .ba []]) h1.length (h1.length + 1) [] := ⟨g0, g1⟩
  have W2 := W1.keep (h' := h1 ++ [.inst 1 [(7, .ref (h1.length + 1))], .ba []]) fun j l z => listOld z
  generalize h1 ++ [.inst 1 [(7, .ref (h1.length + 1))], .ba []] = h2 at S2 W2
  obtain ⟨h3, hw, S3, F3⟩ := run_write (d := 30) 25 S2 (listAt_of W2.ha) W2.N (show 0 + os.length <= 5000 by omega) v9
  have W3 := W2.keep fun j l z => F3.list S2.2 rfl z
  have M := mod_ge (a := dig ns 26) 18446744073709551616 (by decide)
  obtain ⟨h4, hf, K4⟩ := run_refused (d := 57) (hp := h3) W3.ne M.1 M.2
  have W4 := W3.keep fun j l z => list_of (K4 j _ (listAt_of z))
  have ob : os.length <= big := Nat.le_trans hos (by decide)
  obtain ⟨b, hb, hb4⟩ := four (dig ns 24)
  refine r_expr (v_call (xk (vq n40) (xk (vq n65) rfl)) hw) (r_else (t_of (v_past (v_ne (v_call (xk (v_attr (vq n40) S3.1 rfl rfl) rfl) (c_bytes (from_ba S3.2) ob)) (v_call (xk (vq n7) rfl) (c_bytes (from_list (listAt_of W3.ho) hr) ob)) (seq_y os)) rfl rfl (v_last (v_not (v_call (xk (v_bin (v_call (xk (vq n49) (xk rfl rfl)) (run_digit (d := 58) 26 W3.z0 hns)) (v_bin rfl rfl bi_pow64) (bi_mod (by decide) (by decide))) rfl) hf) rfl))) rfl) rfl
   (r_assign (v := .int b) (v_bin (v_call (xk (vq n49) (xk rfl rfl)) (run_digit (d := 58) 24 W4.z0 hns)) rfl ((bi_mod (by decide) (by decide)).trans (congrArg some hb))) ?_))
  obtain ⟨o, e, q⟩ := r_law_end (lv := setL 33 (.int b) lv) W4 hns hb4 hos hvs hr (zk (by decide) n49) (zk (by decide) n65) (zk (by decide) n7) lk_same
  exact ⟨o, e, q⟩
 obtain ⟨out, e, hp', rfl⟩ := R
 exact ⟨hp', e⟩
end
end Mine
namespace Mine
open PySem PySem.W PyProof.Rows
noncomputable def topT (st : SharedT -> Thread -> Option (SharedT × Thread)) (ok : Thread -> Bool) : Nat -> SharedT -> Thread -> Option SharedT
 | 0, _, _ => none
 | n + 1, s, t => match through t with
  | true => some s
  | false => match ok t with
   | false => none
   | true => match st s t with
    | some x => topT st ok n x.1 x.2
    | none => none
theorem topT_of {tb : String -> Option Builtin} {p : Program} {w : World} {n₀ : Nat} {ann : Option Value} : ∀ {n : Nat} {s s' : SharedT} {t : Thread}, topT (stepT (denote tb) p w) (stepOk n₀ ann) n s t = some s' -> topRun tb p w n₀ ann n s.abs t = some s'.abs
 | 0, _, _, _, h => by cases h
 | n + 1, s, s', t, h => by
  unfold topT at h
  unfold topRun
  cases ht : through t with
  | true => rw [ht] at h; cases h; rfl
  | false =>
   rw [ht] at h
   cases hk : stepOk n₀ ann t with
   | false => rw [hk] at h; cases h
   | true =>
    rw [hk] at h
    cases hs : stepT (denote tb) p w s t with
    | none => rw [hs] at h; cases h
    | some x => rw [hs] at h; rw [stepT_spec (t' := x.2) (s' := x.1) hs]; exact topT_of h
noncomputable def ofL : Nat -> List Obj -> BT -> Option BT
 | _, [], t => some t
 | n, o :: l, t => match ((t.ins n o).get n).isSome with
  | true => ofL (n + 1) l (t.ins n o)
  | false => none
theorem ofL_abs {life : Life} : ∀ {l : List Obj} {n : Nat} {t t' : BT}, ofL n l t = some t' -> absHeap t' (n + l.length) life = ⟨⟨(absHeap t n life).objs.toList ++ l⟩, life⟩
 | [], n, t, t', h => by cases h; rw [List.append_nil]; rfl
 | o :: l, n, t, t', h => by
  unfold ofL at h
  cases g : ((t.ins n o).get n).isSome with
  | false => rw [g] at h; cases h
  | true =>
   rw [g] at h
   have := ofL_abs (life := life) h
   rw [absHeap_ins g] at this
   rw [List.length_cons, <- Nat.add_assoc, Nat.add_right_comm, this]
   show Heap.mk ⟨((absHeap t n life).objs.push o).toList ++ l⟩ life = _
   rw [Array.toList_push, List.append_assoc]; rfl
theorem left_of {p q : Program} {loose : List Str} {Xt : Shared -> Bool} {α : Type} {Yf : Shared -> α} {Yt : SharedT -> α} {Ya : World -> α} {N M m₀ : Nat} {ann : Option Value} (hY : ∀ s, Yf s.abs = Yt s)
  (e : opening p = plainProg p.main.scope.names) (hN : Nat.ble 600 N = true) (f : ∀ s, fenceModules? p s = some s) (le : Nat.ble M N = true)
  (size : ∀ w : World, ((boot_heap w.params).isNs mainGlobals, (boot_heap w.params).objs.size, (boot_heap w.params).nsMap mainGlobals "__annotations__") = (true, m₀, ann))
  (run : ∀ (w : World) (os : OsState), ((ofL 0 (boot_heap w.params).objs.toList .nil).bind fun t => (topT (stepT (denote treeTable) p w) (stepOk m₀ ann) M ⟨t, m₀, (boot_heap w.params).life, Array.mk [], boot_drawn, boot_toks, os⟩ (topStub p)).map fun s =>
   (staticsOk (importedModules p.main.body) (boot_heap w.params) s.abs.heap && namesBound p s.abs.heap && gensDone s.abs && laidKept (boot_heap w.params) s.abs.heap, openSeen q loose (importedModules p.main.body) Xt true s.abs, Yt s)) = some (true, openGood q loose, Ya w)) :
  LeftO p q loose Xt Yf Ya N := fun w => by
 obtain ⟨⟨h, gs, d, k, os⟩, e1, e2⟩ := Option.map_eq_some_iff.mp (boot_open e hN f w)
 obtain ⟨rfl, rfl, rfl, rfl⟩ : h = boot_heap w.params /\ gs = Array.mk [] /\ d = boot_drawn /\ k = boot_toks := by simpa using e2
 obtain ⟨z1, z2, z3⟩ : _ /\ _ /\ _ := by simpa only [Prod.mk.injEq] using size w
 obtain ⟨t, t1, t2⟩ := Option.bind_eq_some_iff.mp (run w os)
 obtain ⟨s, s1, s2⟩ := Option.map_eq_some_iff.mp t2
 obtain ⟨l1, l2, l3⟩ : _ /\ _ /\ _ := by simpa only [Prod.mk.injEq] using s2
 have A := ofL_abs (life := (boot_heap w.params).life) t1
 have hl : 0 + (boot_heap w.params).objs.toList.length = m₀ := by rw [Nat.zero_add, Array.length_toList, z2]
 rw [hl] at A
 have A : absHeap t m₀ (boot_heap w.params).life = boot_heap w.params := A
 have r := topRun_mono (N - M) _ _ _ _ (topT_of s1)
 rw [show M + (N - M) = N by have := Nat.le_of_ble_eq_true le; omega] at r
 have r : topRun treeTable p w m₀ ann N ⟨boot_heap w.params, Array.mk [], boot_drawn, boot_toks, os⟩ (topStub p) = some s.abs := by
  rw [<- r]
  show _ = topRun treeTable p w m₀ ann N ⟨absHeap t m₀ _, Array.mk [], boot_drawn, boot_toks, os⟩ (topStub p)
  rw [A]
 have T : topFrom treeTable p w N ⟨boot_heap w.params, Array.mk [], boot_drawn, boot_toks, os⟩ = some s.abs := by
  unfold topFrom
  dsimp only
  rw [z1, z2, z3, r]
  show (match staticsOk (importedModules p.main.body) (boot_heap w.params) s.abs.heap && namesBound p s.abs.heap && gensDone s.abs && laidKept (boot_heap w.params) s.abs.heap with | true => some s.abs | false => none) = _
  rw [l1]
 unfold openEnds
 rw [e1]
 show (topFrom treeTable p w N _).map _ = _
 rw [T]
 exact congrArg some (Prod.ext l2 ((hY s).trans l3))
theorem get_abs {t : BT} {n : Nat} {life : Life} {a : Nat} : (absHeap t n life).get? a = if a < n then alive ((t.get a).getD default) else none := by
 unfold Heap.get?
 rw [absHeap_at]
 by_cases h : a < n
 ·rw [if_pos h, if_pos h]
  generalize (t.get a).getD default = o
  obtain ⟨c, d, dt, sl⟩ := o
  cases dt <;> rfl
 ·rw [if_neg h, if_neg h]
noncomputable def roadsB (p : Program) : Bool := noRoadLSs { strict := !(importedModules p.main.body).all cThrough.contains, foot := none, bare := (["vars", "dir", "locals"] : List Str).filter (readsOut p p.main.body) } p.main.body
noncomputable def meetB (p : Program) : Bool := namesMeet p p.main.body fun _ n => attrL n
noncomputable def restB (p : Program) : Bool := sreFenced p.main && ((moduleNames p.main.body).isEmpty || lookedIntoSs (moduleNames p.main.body) p.main.body) && namesResolve p && p.boundNames.all fun n => !worldNames.contains n
theorem looks_of {p : Program} (a : restB p = true) (b : roadsB p = true) (c : meetB p = true) : looksOpen p = true := look_both (look_both a b) c
theorem pinned_name {b : Bool} {x n : Str} (h : n ∈ if b = true then [x] else []) : n = x := by
 cases b with
 | true => exact List.mem_singleton.mp h
 | false => exact nomatch h
def Post (r : OpenRow) (s s₁ : Shared) (args : List WData) (vs : List Value) (res : Result) (s' : Shared) : Prop := r.claim.Ends s args vs s₁ res s' /\ s'.os = s.os /\ (r.writes = true -> namesKept r.prog r.keeps s.heap s'.heap /\ ∀ x ∈ r.records, ∀ a, classAt s.heap x.1 = some a -> recordClass s'.heap a x.1 (x.2.map (·.1)) = true)
theorem holds_mine {r : OpenRow} {q : Program} {loose : List Str} {Xt : Shared -> Bool} {XP : (Str -> Option Value) -> Heap -> Prop} {α : Type} {Yf : Shared -> α} {Ya : World -> α} {YP : World -> Heap -> Prop} {d : DefRec} {kwd : List (Str × Expr)} {N : Nat}
  (left : LeftO r.prog q loose Xt Yf Ya N) (hY : ∀ w s, Yf s = Ya w -> YP w s.heap)
  (hX : ∀ s, Xt s = true -> XP (s.heap.nsMap mainGlobals) s.heap)
  (hdef : defOf q r.name = some (d, kwd)) (hp : r.prog.theDef r.name = some (d.params, d.body, d.scope)) (hk : kwWritten? d.params.kwonlyargs d.params.kw_defaults = some kwd) (hRf : ∀ s, Xt s = true -> RecFacts r.records s.heap) (hwr : (!r.writes || r.records.isEmpty) = true)
  (k1 : r.wellSaid = true) (ok : (chainsOk q && opensWell r.prog && (frees r.toRowW && r.within.isEmpty)) = true) (hb : r.prog.bare) (hw : r.toRowW.promised)
  (call : WalkT q loose XP YP r.toRowW) : r.Holds := by
 obtain ⟨ok1, ok2⟩ := Bool.and_eq_true_iff.mp ok
 obtain ⟨hch, ho⟩ := Bool.and_eq_true_iff.mp ok1
 obtain ⟨hfr, hwi⟩ := Bool.and_eq_true_iff.mp ok2
 obtain ⟨hsame, hu, hun, hap, hmk⟩ := frees_parts hfr
 have hwi : r.toRowW.claim.within = [] := List.isEmpty_iff.mp hwi
 have hid := ident_freeW hu hun hap
 refine ⟨k1, hw, ⟨hb, ho, by show r.makers.map _ = []; rw [hmk]; rfl⟩, hw.witness, fun w => ?_⟩
 refine cps fun G' fin' => ?_
 obtain ⟨some_run, every⟩ := left.behind (XP := fun mg h => XP mg h /\ RecFacts r.records h) (fun s hs => ⟨hX s hs, hRf s hs⟩) hch w
 refine fin' ⟨some_run, fun s' hs' => ?_⟩
 clear fin'
 refine cps fun G1 fin => ?_
 obtain ⟨s₀, hfence, hgens0, s, hT, hz, hgens, hg, G, hy⟩ := every s' hs'
 have RF := G.X.2
 have G0 : Ground q loose [] XP w s (s.heap.nsMap mainGlobals) (s.heap.nsMap builtinsNs) s.heap := { G with X := G.X.1 }
 have G1 : Ground q loose r.records XP w s (s.heap.nsMap mainGlobals) (s.heap.nsMap builtinsNs) s.heap := RF.ground G0
 have hgens : s.gens = #[] := Array.eq_empty_of_size_eq_zero (beq_iff_eq.mp hgens)
 refine fin ⟨s₀, hfence, hgens0, s, hT, fun n hn => ?_, RF.1, RF.2.1, fun args hpre hlay ord hord => ?_⟩
 all_goals clear fin
 ·obtain rfl : n = r.name := pinned_name hn
  exact pinned_of_view hg G0 hdef hp hk
 ·refine cps fun G2 fin => ?_
  obtain ⟨⟨vs, s₁⟩, hlaid⟩ := Option.isSome_iff_exists.mp (layAllW_isSome (P := w.params) (ord := ord) G1.has args r.args s (pre_splitW hpre).1)
  have keeps := layAllW_keeps _ _ _ hlaid
  obtain ⟨hl1, hl2, hl3, hl4⟩ := layAllW_rest _ _ _ hlaid
  obtain ⟨as, hrd, hin, hold⟩ := reads_layAllW hord _ _ _ hlaid hlay s₁.heap (fun _ _ e => e)
  have L : Laid r.records w s s₁ args vs as := ⟨⟨ord, hord, hlaid⟩, hrd, hin, hold, keeps, hl1.trans hgens, hl3⟩
  obtain ⟨f, hf, hcall⟩ := call w s s₁ _ _ G1 (hY w s hy) args vs as hpre hlay L G1.low
  have good : ∀ {res : Result} {s' : Shared}, GoodWG r.claim (classAt s.heap) (ExcName.means s.heap) args s₁ res s' ->
    Post r s s₁ args vs res s' /\ leftWithCleanup s'.gens = false := fun {res s'} g =>
   have z := g.laid (c := r.claim) hsame hwi hid L
   ⟨⟨z.1, z.2.1, fun q => ⟨namesKept_of hT hg r.keeps keeps g.2.1.old, noTable hwr q⟩⟩, leftWithCleanup_false_of_bare z.2.2⟩
  have hrun : wpX (model r.prog w) callerA (do match <- nsGet mainNs r.name with
     | some f => do ret (<- PySem.call f vs)
     | none => unsupported "claim.caller:no-such-global")
    (fun fin s' => ∃ f, fin = .done f /\ Post r s s₁ args vs (.ok f) s' /\ leftWithCleanup s'.gens = false)
    (fun e s' => Post r s s₁ args vs (.error e) s' /\ leftWithCleanup s'.gens = false) s₁ := by
   refine X_bind (wpX_any (wpAny_nsGet (G1.T.g.keeps keeps) ?_))
   rw [hf]
   exact X_bind (X_mono hcall (fun v s' g => X_pure ⟨_, rfl, good g⟩) fun e s' g => good g)
  obtain ⟨k, res, s₂, s₃, hr1, hsched, hfo, hcase, hos, hkp⟩ := ends_X (R := Post r s s₁ args vs) (Shared.asleep_of_life hl4 hz) hrun
  obtain ⟨eh, _, _, eo, _⟩ := Shared.forget_eq hfo
  have hcase := hcase.congr eh
  rw [<- eh] at hkp
  rw [<- eo] at hos
  have hlife : s₂.heap.life = s.heap.life := (runN_life _ _ _ hr1).trans hl4
  refine fin ⟨vs, s₁, hlaid, k, _, s₂, hsched, ?_, (fun _ i x hx => by rw [hgens] at hx; simp at hx), hkp, by rw [hlife], Shared.rest_eq hos⟩
  rcases hcase with ⟨v, rfl, d1, d2, d3, d4, d5⟩ | ⟨e, ob, cls, rfl, d1, d2, d3, d4, d5⟩
  ·exact .inl ⟨v, rfl, d1, d2, d3, fun b o y _ => d4 b o y, d5⟩
  ·exact .inr ⟨e, ob, cls, rfl, d1, d2, d3, d4, fun b o y _ => d5 b o y⟩
noncomputable def defS : Nat -> Stmt -> List Df
 | 0, _ => []
 | n + 1, s => match s with
  | .FunctionDef _ _ b _ _ _ sc _ _ _ => [(.stmts b, sc)]
  | .ClassDef _ _ _ b _ _ _ _ _ _ _ => b.flatMap (defS n)
  | _ => []
noncomputable def dfs (p : Program) : List Df := p.main.body.flatMap (defS 2)
noncomputable def P2.prog : Prog := ⟨P2.names, P2.fns, P2.meths, P2.inits, P2.gls, [80, 87, 94, 101, 108, 115, 122, 129, 136, 143, 150, 157, 164, 171, 178, 199, 206, 213, 220, 227, 234, 241, 248, 262, 269, 277, 284, 291, 298, 303, 308, 313, 318, 325, 332, 339, 346, 353, 360, 367, 374, 381, 388, 393]⟩
noncomputable abbrev P2.pw : Program := PySem.Challenge.rw_nm0121_02.prog
theorem P2.said : Said P2.prog (dfs P2.pw) where
 names := by kernel_rfl
 re := by kernel_rfl
 ok := by kernel_rfl
theorem P2.len : (dfs P2.pw).length = 46 := by kernel_rfl
noncomputable def viewAt (p : Program) (k : Nat) : Program := { p with main := { p.main with body := (p.main.body.drop k).take 1 } }
noncomputable abbrev P2.q : Program := viewAt P2.pw 28
noncomputable def looseOf (p : Program) (n : Str) : List Str := (p.main.body.flatMap bindsAtTop).eraseDups.filter fun x => x != n
noncomputable def obs (P : Prog) (n : Str) (a : Addr) (K : Frag) : Bool × List Df × Bnd := (lookB P K && isV (nsIn K mainGlobals n) (some (.ref a)), (fnAs P).map (fun a => ((fdOf K a).body, (fdOf K a).scope)), bndK P K)
noncomputable def obsOk (P : Prog) (ds : List Df) : Bool × List Df × Bnd := (true, ds, bndP P)
theorem look_of {P : Prog} {n : Str} {a : Addr} {as : List Addr} {ds : List Df} {h : Heap} (e : obs P n a (fragOf as h) = obsOk P ds) : LookP P ds n a h := by
 obtain ⟨e1, e2⟩ := Prod.mk.inj e
 obtain ⟨e2, e3⟩ := Prod.mk.inj e2
 obtain ⟨b1, b2⟩ := and2 e1
 exact ⟨fragOf as h, fragOf_in, ⟨b1, e2, e3⟩, b2⟩
noncomputable def allA : List Addr := (List.range 450)
noncomputable def fragT (as : List Addr) (n : Nat) (t : BT) : Frag := as.filterMap fun a => (if a < n then alive ((t.get a).getD default) else none).map (a, ·)
theorem fragT_abs {as : List Addr} {s : SharedT} : fragOf as s.abs.heap = fragT as s.n s.tree := congrArg (List.filterMap · as) (funext fun a => congrArg (Option.map (a, ·)) get_abs)
theorem P2.left : LeftO P2.pw P2.q (looseOf P2.pw PySem.Challenge.rw_nm0121_02.name) (fun s => xlAt P2.q [] s && recOk [] s) (fun s => obs P2.prog PySem.Challenge.rw_nm0121_02.name 393 (fragOf allA s.heap)) (fun _ => obsOk P2.prog (dfs P2.pw)) 4866 := by
 refine left_of (Yt := fun s => obs P2.prog PySem.Challenge.rw_nm0121_02.name 393 (fragT allA s.n s.tree)) (fun s => congrArg _ fragT_abs) (M := 3000) (m₀ := 11) (ann := some (.ref 6)) (by kernel_rfl) (by decide) (fun s => by rfl) (by decide) ?_ ?_
 ·intro w; kernel_rfl
 ·rw [Fast.te10156331382660048174, Fast.te11892475500146522536, Fast.te14364793385576792824, Fast.te6613529449190102663, Fast.te4187177175401517315]; intro w os; kernel_rfl
abbrev P2.law : OpenLaw := PySem.Challenge.rw_nm0121_02
theorem P2.rest : restB P2.pw = true := by kernel_rfl
theorem P2.roads : roadsB P2.pw = true := by kernel_rfl
theorem P2.meet : meetB P2.pw = true := by kernel_rfl
theorem P2.looks : looksOpen P2.law.row.prog = true := looks_of P2.rest P2.roads P2.meet
theorem P2.wellSaid : P2.law.wellSaid = true := by
 unfold OpenLaw.wellSaid OpenRow.wellSaid OpenRow.partSaid
 rw [P2.looks]; kernel_rfl
theorem P2.isDef : (defOf P2.q P2.law.name).isSome = true := by kernel_rfl
noncomputable def P2.df : DefRec × List (Str × Expr) := (defOf P2.q P2.law.name).get P2.isDef
theorem P2.holds (plain : ∀ ns : List Int, ns.length <= 63 -> ∃ hp', callF P2.prog.tab 60 false 43 [.ref 0] [.list (ns.map .int)] = some (.ok (.bool true) hp')) : P2.law.Holds :=
 holds_law P2.wellSaid fun said => holds_mine (q := P2.q) (loose := looseOf P2.pw P2.law.name) (Xt := fun s => xlAt P2.q [] s && recOk [] s) (XP := XL P2.q []) (YP := fun _ h => LookP P2.prog (dfs P2.pw) P2.law.name 393 h)
  (d := P2.df.1) (kwd := P2.df.2) P2.left (fun _ _ e => look_of e)
  (fun s e => xl_of s (Bool.and_eq_true_iff.mp e).1) (by kernel_rfl) (by kernel_rfl) (by kernel_rfl) (fun s e => recFacts_of (Bool.and_eq_true_iff.mp e).2) (by rfl) said (by decide +kernel) ⟨rfl, rfl, rfl, rfl, rfl, by decide +kernel⟩ ⟨[.list []], by decide +kernel, by decide +kernel⟩
  (walk_law (P := P2.prog) (d := 59) (k := 43) (a := 393) rfl rfl (by decide) P2.said (fun _ _ Y => Y) (by decide +kernel) rfl plain)
end Mine
theorem PySem.Challenge.cw_nm0121_02_holds : PySem.Challenge.rw_nm0121_02.Holds :=
 Mine.P2.holds Mine.plain2
