import PyProof.Rows.All
import Wide.All
import OpenK.AllK
import Wide.FinOn
import KE.KStateDown
import KE.SortData
import HandS.ForMost
import HandS.ForExc
import HandS.CallSlots
import HandS.Wide
import HandS.Walk
import HandS.Flow
import HandS.Style
import HandS.Deep
import HandS.Conv
import HandS.Strs
import HandS.IsInst
import HandS.Defaults
import HandS.TupAny
import Lean
import HandS.More
import HandS.Head0
import HandS.Head1
import HandS.Head2
import HandS.HeadEnd
import HandS.HeadHook1
import HandS.HeadHook2
import PySem.Challenge.RW_gripwood_k01_ways_and_steps
set_option Elab.async false
set_option linter.all false
set_option maxRecDepth 100000
set_option maxHeartbeats 0
/-! Gw: a small interpreter of Python over values, its soundness over the model, and what the laws need. -/
namespace Gw
open PySem L2

/-- data: a tree -/
inductive Dt where
  | non | bl (b : Bool) | int (i : Int) | str (x : Str)
  | lst (xs : List Dt) | tup (xs : List Dt)
  | dic (tk : Bool) (kvs : List (List Key × Dt))
deriving Inhabited, BEq
/-- an own error: its class, its fields -/
structure Exn where
  cls : Str
  fs : List (Str × Dt)
deriving Inhabited
/-- a value: a tree that stays as it is, a handle of a cell, the error that a suite holds -/
inductive Wd where
  | t (d : Dt) | h (k : Nat) | x (e : Exn)
  /-- a constant of the module that is a tuple -/
  | c (ds : List Dt)
deriving Inhabited
/-- a cell: a thing that may change; lk: it is walked just now; frz: it changes no more -/
inductive Cl where
  | lst (lk : Bool) (ws : List Wd)
  | dic (tk lk : Bool) (kvs : List (List Key × Wd))
  | ins (c : Str) (fs : List (Str × Wd))
  | frz (d : Dt)
deriving Inhabited
abbrev Store := List Cl
abbrev Env := List (Option Wd)

inductive Res (α : Type) where
  | ok (a : α) (S : Store) | ex (e : Exn) (S : Store) | no
def Res.bd {α β : Type} (r : Res α) (f : α → Store → Res β) : Res β := match r with
  | .ok a S => f a S
  | .ex e S => .ex e S
  | .no => .no
def opt {α : Type} (S : Store) (o : Option α) : Res α := match o with
  | some a => .ok a S
  | none => .no

/-! ### plain data -/
mutual
def pd : Dt → PyData
  | .non => .none
  | .bl b => .bool b
  | .int i => .int i
  | .str x => .str x
  | .lst xs => .list (pds xs)
  | .tup xs => .tuple (pds xs)
  | .dic _ _ => .none
def pds : List Dt → List PyData
  | [] => []
  | x :: r => pd x :: pds r
end
mutual
/-- no dict within -/
def pln : Dt → Bool
  | .lst xs => plns xs
  | .tup xs => plns xs
  | .dic _ _ => false
  | _ => true
def plns : List Dt → Bool
  | [] => true
  | x :: r => pln x && plns r
end
def mapO {α β : Type} (f : α → Option β) : List α → Option (List β)
  | [] => some []
  | a :: r => match f a, mapO f r with
    | some b, some bs => some (b :: bs)
    | _, _ => none
def lineN : Nat := 16777216

/-! ### a value seen from without -/
inductive Vw where
  | seq (tup : Bool) (ws : List Wd) | dic (tk : Bool) (kvs : List (List Key × Wd)) | oth
def vwT : Dt → Vw
  | .lst ds => .seq false (ds.map .t)
  | .tup ds => .seq true (ds.map .t)
  | .dic tk kvs => .dic tk (kvs.map fun p => (p.1, .t p.2))
  | _ => .oth
def vw (S : Store) : Wd → Vw
  | .t d => vwT d
  | .h k => match S[k]? with
    | some (.lst _ ws) => .seq false ws
    | some (.dic tk _ kvs) => .dic tk kvs
    | some (.frz d) => vwT d
    | _ => .oth
  | .x _ => .oth
  | .c ds => .seq true (ds.map .t)
/-- the whole of it -/
def rd (S : Store) : Nat → Wd → Option Dt
  | _, .t d => some d
  | _, .c ds => some (.tup ds)
  | n + 1, .h k => match S[k]? with
    | some (.lst _ ws) => (mapO (rd S n) ws).map .lst
    | some (.dic tk _ kvs) => (mapO (fun p => (rd S n p.2).map fun d => (p.1, d)) kvs).map (.dic tk)
    | some (.frz d) => some d
    | _ => none
  | _, _ => none
/-- trees and cells that change no more -/
def rdF (S : Store) : Wd → Option Dt
  | .t d => some d
  | .h k => match S[k]? with
    | some (.frz d) => some d
    | _ => none
  | .x _ => none
  | .c _ => none
def fzAll (f : Store → Wd → Option Store) : Store → List Wd → Option Store
  | S, [] => some S
  | S, w :: r => match f S w with
    | some S' => fzAll f S' r
    | none => none
/-- a cell and what is in it changes no more -/
def fz : Nat → Store → Wd → Option Store
  | _, S, .t _ => some S
  | n + 1, S, .h k => match S[k]? with
    | some (.lst false ws) => match fzAll (fz n) S ws with
      | some S' => match S'[k]? with
        | some (.lst false ws') => (mapO (rdF S') ws').map fun ds => S'.set k (.frz (.lst ds))
        | _ => none
      | none => none
    | some (.dic tk false kvs) => match fzAll (fz n) S (kvs.map (·.2)) with
      | some S' => match S'[k]? with
        | some (.dic tk' false kvs') => (mapO (fun p => (rdF S' p.2).map fun d => (p.1, d)) kvs').map fun ds => S'.set k (.frz (.dic tk' ds))
        | _ => none
      | none => none
    | some (.frz _) => some S
    | _ => none
  | _, _, .x _ => none
  | _, _, .c _ => none
  | 0, _, .h _ => none
/-- a value that is kept in a tree -/
def keep (S : Store) (w : Wd) : Res Dt := match fz 6 S w with
  | some S' => opt S' (rdF S' w)
  | none => .no
def keeps : Store → List Wd → Res (List Dt)
  | S, [] => .ok [] S
  | S, w :: r => (keep S w).bd fun d S1 => (keeps S1 r).bd fun ds S2 => .ok (d :: ds) S2
def isT : Wd → Bool
  | .t _ => true
  | _ => false
def keepIf (b : Bool) (S : Store) (w : Wd) : Res Wd := match w with
  | .t d => .ok (.t d) S
  | .h k => if b = true then .ok (.h k) S else (keep S (.h k)).bd fun d S' => .ok (.t d) S'
  | .x _ => .no
  | .c _ => .no
def noX : Wd → Bool
  | .x _ => false
  | .c _ => false
  | _ => true

/-! ### dicts -/
def atomK : Dt → Option Key
  | .int i => some (.inl i)
  | .str x => some (.inr x)
  | _ => none
def keyD : Key → Dt
  | .inl i => .int i
  | .inr x => .str x
/-- the key that a value is -/
def keyOf (tk : Bool) (d : Dt) : Option (List Key) := match tk, d with
  | false, d => (atomK d).map fun k => [k]
  | true, .tup ds => mapO atomK ds
  | true, _ => none
def dtOf (tk : Bool) (k : List Key) : Dt := match tk with
  | true => .tup (k.map keyD)
  | false => match k with
    | [k] => keyD k
    | _ => .non
def getA {α : Type} (kvs : List (List Key × α)) (k : List Key) : Option α := (kvs.find? fun kv => decide (kv.1 = k)).map (·.2)
def putA {α : Type} (kvs : List (List Key × α)) (k : List Key) (v : α) : List (List Key × α) :=
  if (kvs.any fun kv => decide (kv.1 = k)) = true then kvs.map (fun kv => if kv.1 = k then (kv.1, v) else kv) else kvs ++ [(k, v)]
def dropA {α : Type} (kvs : List (List Key × α)) (k : List Key) : List (List Key × α) := kvs.filter fun kv => decide (kv.1 ≠ k)

/-! ### operators -/
inductive Bop where | add | sub | mul | mod | fdiv | pow
inductive Cop where | lt | le | gt | ge
def eqD (S : Store) (a b : Wd) : Option Bool := match rd S 6 a, rd S 6 b with
  | some d, some e => if pln d && pln e && SeqAt.shaped (pd d) && SeqAt.shaped (pd e) then some (PyData.eqv (pd d) (pd e)) else none
  | _, _ => none
def cutL {α : Type} (xs : List α) (lo hi : Option Int) : List α :=
  let n : Int := xs.length
  let f (i : Int) : Nat := (if i < 0 then (if i + n < 0 then 0 else i + n) else if i > n then n else i).toNat
  let a := match lo with | some i => f i | none => 0
  let b := match hi with | some i => f i | none => xs.length
  (xs.drop a).take (b - a)
def ixL {α : Type} (xs : List α) (i : Int) : Option α := if 0 ≤ i then xs[i.toNat]? else if 0 ≤ i + xs.length then xs[(i + xs.length).toNat]? else none
end Gw

namespace Gw
open PySem L2

/-- what a loop or a plain target binds: names, tuples of them -/
inductive Tg where
  | nm (i : Nat) (x : Str) (p : Pos)
  | tp (ts : List Tg) (k : Nat) (p : Pos)
deriving Inhabited
inductive B1 where | len | sorted | list | tuple | sum | min | max | all | any | int | str | dict
inductive Mt where | append | extend | pop | reverse | clear | index | join | get1 | get2 | setdefault | update
inductive Lit where | non | bl (b : Bool) | int (i : Int) | str (x : Str)
inductive Ty where | int | bool | str | list | tuple
/- expressions; m: a new list or dict that may change -/
mutual
inductive Ex where
  | var (i : Nat) (x : Str) (p : Pos)
  | glb (x : Str) (p : Pos)
  | lit (c : Lit) (j : Nat) (p : Pos)
  | bin (o : Bop) (m : Bool) (a b : Ex) (p : Pos)
  | eq (neg : Bool) (a b : Ex) (p : Pos)
  | cmp (o : Cop) (a b : Ex) (p : Pos)
  | chain (o o2 : Cop) (a b c : Ex) (p : Pos)
  | isN (neg : Bool) (a : Ex) (j : Nat) (q p : Pos)
  | inS (neg : Bool) (a b : Ex) (p : Pos)
  | inD (neg : Bool) (a b : Ex) (p : Pos)
  | inT (neg : Bool) (a b : Ex) (p : Pos)
  | bop (and : Bool) (as : List Ex) (p : Pos)
  | not (a : Ex) (p : Pos)
  | neg (a : Ex) (p : Pos)
  | ife (c a b : Ex) (p : Pos)
  | tup (es : List Ex) (k : Nat) (p : Pos)
  | lst (m : Bool) (es : List Ex) (p : Pos)
  | dic0 (m tk : Bool) (p : Pos)
  | dic (m tk : Bool) (ks vs : List Ex) (p : Pos)
  | idx (a i : Ex) (p : Pos)
  | dget (a i : Ex) (p : Pos)
  | slc (m : Bool) (a : Ex) (lo hi : Option Ex) (q p : Pos)
  | rev (m : Bool) (a : Ex) (j : Nat) (q1 q2 q3 p : Pos)
  | call (f : Str) (m : Bool) (q : Pos) (es : List Ex) (p : Pos)
  | b1 (b : B1) (m : Bool) (q : Pos) (e : Ex) (p : Pos)
  | sset (m : Bool) (q1 q2 : Pos) (e : Ex) (p2 p : Pos)
  | lset (q1 q2 : Pos) (e : Ex) (p2 p : Pos)
  | sum2 (m : Bool) (q : Pos) (e : Ex) (qe p : Pos)
  | mm2 (mx : Bool) (q : Pos) (a b : Ex) (p : Pos)
  | mmd (mx : Bool) (q : Pos) (a d : Ex) (kq p : Pos)
  | mth (o : Mt) (m : Bool) (a : Ex) (ap : Pos) (es : List Ex) (p : Pos)
  | isi (q : Pos) (a : Ex) (ty : Ty) (tq p : Pos)
  | att (a : Ex) (f : Str) (p : Pos)
  | isx (q : Pos) (a : Ex) (cls : Str) (tq p : Pos)
  | lc (m : Bool) (elt : Ex) (tg : Tg) (it : It) (cond : Option Ex) (sc : Scope) (own : List (Str × Nat)) (p : Pos)
/-- what is walked -/
inductive It where
  | seq (a : Ex)
  | rng1 (q : Pos) (a : Ex) (p : Pos)
  | rng2 (q : Pos) (a b : Ex) (p : Pos)
  | enm (q : Pos) (a : Ex) (p : Pos)
  | zip (q : Pos) (a b : Ex) (p : Pos)
  | itms (a : Ex) (ap p : Pos)
  | vals (a : Ex) (ap p : Pos)
  | kys (a : Ex)
end
instance : Inhabited Ex := ⟨.lit .non 0 ⟨0, 0, 0, 0⟩⟩
inductive St where
  | expr (e : Ex) (p : Pos)
  | asg (tg : Tg) (e : Ex) (p : Pos)
  | aset (o i : Ex) (q : Pos) (e : Ex) (p : Pos)
  | dset (o i : Ex) (q : Pos) (e : Ex) (p : Pos)
  | aug (i : Nat) (x : Str) (q : Pos) (o : Bop) (e : Ex) (p : Pos)
  | ifS (c : Ex) (a b : List St) (p : Pos)
  | forS (tg : Tg) (it : It) (body : List St) (p : Pos)
  | whl (c : Ex) (body : List St) (p : Pos)
  | ret (e : Ex) (p : Pos)
  | ret0 (p : Pos)
  | raise (cls : Str) (q : Pos) (es : List Ex) (cp p : Pos)
  | tryS (body : List St) (cls : Str) (q : Pos) (i : Nat) (x : Str) (suite : List St) (hp p : Pos)
  | pass (p : Pos) | brk (p : Pos) | cont (p : Pos)
deriving Inhabited

/-! ### back to the tree of the row -/
def Bop.op : Bop → Operator
  | .add => .Add | .sub => .Sub | .mul => .Mult | .mod => .Mod | .fdiv => .FloorDiv | .pow => .Pow
def Cop.op : Cop → CmpOp
  | .lt => .Lt | .le => .LtE | .gt => .Gt | .ge => .GtE
def B1.nm : B1 → Str
  | .len => "len" | .sorted => "sorted" | .list => "list" | .tuple => "tuple" | .sum => "sum" | .min => "min" | .max => "max" | .all => "all" | .any => "any" | .int => "int" | .str => "str" | .dict => "dict"
def Mt.nm : Mt → Str
  | .append => "append" | .extend => "extend" | .pop => "pop" | .reverse => "reverse" | .clear => "clear" | .index => "index" | .join => "join" | .get1 => "get" | .get2 => "get" | .setdefault => "setdefault" | .update => "update"
def Ty.nm : Ty → Str
  | .int => "int" | .bool => "bool" | .str => "str" | .list => "list" | .tuple => "tuple"
def Lit.c : Lit → Const
  | .non => .none | .bl b => .bool b | .int i => .int i | .str x => .str x
def Lit.d : Lit → Dt
  | .non => .non | .bl b => .bl b | .int i => .int i | .str x => .str x
mutual
def Tg.e : Tg → Expr
  | .nm _ x p => .Name x p
  | .tp ts k p => .Tuple (Tgs.e ts) k p
def Tgs.e : List Tg → List Expr
  | [] => []
  | t :: r => t.e :: Tgs.e r
end
mutual
def Ex.e : Ex → Expr
  | .var _ x p => .Name x p
  | .glb x p => .Name x p
  | .lit c j p => .Constant c.c j p
  | .bin o _ a b p => .BinOp a.e o.op b.e p
  | .eq neg a b p => .Compare a.e [if neg = true then .NotEq else .Eq] [b.e] p
  | .cmp o a b p => .Compare a.e [o.op] [b.e] p
  | .chain o o2 a b c p => .Compare a.e [o.op, o2.op] [b.e, c.e] p
  | .isN neg a j q p => .Compare a.e [if neg = true then .IsNot else .Is] [.Constant .none j q] p
  | .inS neg a b p => .Compare a.e [if neg = true then .NotIn else .In] [b.e] p
  | .inD neg a b p => .Compare a.e [if neg = true then .NotIn else .In] [b.e] p
  | .inT neg a b p => .Compare a.e [if neg = true then .NotIn else .In] [b.e] p
  | .bop and as p => .BoolOp (if and = true then .And else .Or) (Exs.e as) p
  | .not a p => .UnaryOp .Not a.e p
  | .neg a p => .UnaryOp .USub a.e p
  | .ife c a b p => .IfExp c.e a.e b.e p
  | .tup es k p => .Tuple (Exs.e es) k p
  | .lst _ es p => .List (Exs.e es) p
  | .dic0 _ _ p => .Dict [] [] p
  | .dic _ _ ks vs p => .Dict (Exs.eS ks) (Exs.e vs) p
  | .idx a i p => .Subscript a.e i.e p
  | .dget a i p => .Subscript a.e i.e p
  | .slc _ a lo hi q p => .Subscript a.e (.Slice (ExO.e lo) (ExO.e hi) none q) p
  | .rev _ a j q1 q2 q3 p => .Subscript a.e (.Slice none none (some (.UnaryOp .USub (.Constant (.int 1) j q1) q2)) q3) p
  | .call f _ q es p => .Call (.Name f q) (Exs.e es) [] p
  | .b1 b _ q e p => .Call (.Name b.nm q) [e.e] [] p
  | .sset _ q1 q2 e p2 p => .Call (.Name "sorted" q1) [.Call (.Name "set" q2) [e.e] [] p2] [] p
  | .lset q1 q2 e p2 p => .Call (.Name "len" q1) [.Call (.Name "set" q2) [e.e] [] p2] [] p
  | .sum2 _ q e qe p => .Call (.Name "sum" q) [e.e, .List [] qe] [] p
  | .mm2 mx q a b p => .Call (.Name (if mx = true then "max" else "min") q) [a.e, b.e] [] p
  | .mmd mx q a d kq p => .Call (.Name (if mx = true then "max" else "min") q) [a.e] [⟨some "default", d.e, kq⟩] p
  | .mth o _ a ap es p => .Call (.Attribute a.e o.nm ap) (Exs.e es) [] p
  | .isi q a ty tq p => .Call (.Name "isinstance" q) [a.e, .Name ty.nm tq] [] p
  | .att a f p => .Attribute a.e f p
  | .isx q a cls tq p => .Call (.Name "isinstance" q) [a.e, .Name cls tq] [] p
  | .lc _ elt tg it cond sc _ p => .ListComp elt.e [{ target := tg.e, iter := it.e, ifs := ExO.l cond, is_async := 0 }] sc p
def It.e : It → Expr
  | .seq a => a.e
  | .rng1 q a p => .Call (.Name "range" q) [a.e] [] p
  | .rng2 q a b p => .Call (.Name "range" q) [a.e, b.e] [] p
  | .enm q a p => .Call (.Name "enumerate" q) [a.e] [] p
  | .zip q a b p => .Call (.Name "zip" q) [a.e, b.e] [] p
  | .itms a ap p => .Call (.Attribute a.e "items" ap) [] [] p
  | .vals a ap p => .Call (.Attribute a.e "values" ap) [] [] p
  | .kys a => a.e
def Exs.e : List Ex → List Expr
  | [] => []
  | a :: r => a.e :: Exs.e r
def Exs.eS : List Ex → List (Option Expr)
  | [] => []
  | a :: r => some a.e :: Exs.eS r
def ExO.e : Option Ex → Option Expr
  | none => none
  | some a => some a.e
def ExO.l : Option Ex → List Expr
  | none => []
  | some a => [a.e]
end
mutual
def St.s : St → Stmt
  | .expr e p => .Expr e.e p
  | .asg tg e p => .Assign [tg.e] e.e p
  | .aset o i q e p => .Assign [.Subscript o.e i.e q] e.e p
  | .dset o i q e p => .Assign [.Subscript o.e i.e q] e.e p
  | .aug _ x q o e p => .AugAssign (.Name x q) o.op e.e p
  | .ifS c a b p => .If c.e (Sts.s a) (Sts.s b) p
  | .forS tg it body p => .For tg.e it.e (Sts.s body) [] p
  | .whl c body p => .While c.e (Sts.s body) [] p
  | .ret e p => .Return (some e.e) p
  | .ret0 p => .Return none p
  | .raise cls q es cp p => .Raise (some (.Call (.Name cls q) (Exs.e es) [] cp)) none p
  | .tryS body cls q _ x suite hp p => .Try (Sts.s body) [.ExceptHandler (some (.Name cls q)) (some x) (Sts.s suite) hp] [] [] p
  | .pass p => .Pass p
  | .brk p => .Break p
  | .cont p => .Continue p
def Sts.s : List St → List Stmt
  | [] => []
  | a :: r => a.s :: Sts.s r
end
end Gw

namespace Gw
open PySem L2

/-- around an expression: the defs' own meaning, where this frame's cells begin -/
structure Cxt where
  call : Str → Option (Bool → List Wd → Store → Res Wd)
  base : Nat
  fuel : Nat
  /-- an own error: its word, its further fields -/
  err : Str → Option (Str × List Str)
  /-- whether an error of the first class is one of the second -/
  isa : Str → Str → Option Bool
  /-- the module's constants -/
  glb : Str → Option Wd
  /-- not within an except suite -/
  calm : Bool

/-- a list made of values -/
def mkL (m : Bool) (ws : List Wd) (S : Store) : Res Wd := match m with
  | true => if ws.all noX = true then .ok (.h S.length) (S ++ [.lst false ws]) else .no
  | false => (keeps S ws).bd fun ds S' => .ok (.t (.lst ds)) S'
def mkD (m tk : Bool) (kvs : List (List Key × Wd)) (S : Store) : Res Wd := match m with
  | true => if kvs.all (fun p => noX p.2) = true then .ok (.h S.length) (S ++ [.dic tk false kvs]) else .no
  | false => (keeps S (kvs.map (·.2))).bd fun ds S' => .ok (.t (.dic tk ((kvs.map (·.1)).zip ds))) S'
def mkT (ws : List Wd) (S : Store) : Res Wd := (keeps S ws).bd fun ds S' => .ok (.t (.tup ds)) S'

def intsD : List Dt → Option (List Int)
  | [] => some []
  | .int i :: r => (intsD r).map (i :: ·)
  | _ => none
def blsD : List Dt → Option (List Bool)
  | [] => some []
  | .bl i :: r => (blsD r).map (i :: ·)
  | _ => none
def strsD : List Dt → Option (List Str)
  | [] => some []
  | .str i :: r => (strsD r).map (i :: ·)
  | _ => none
/-- the items of a list or tuple, trees -/
def itemsF (S : Store) (w : Wd) : Option (List Dt) := match vw S w with
  | .seq false ws => mapO (rdF S) ws
  | _ => none
/-- the items of a list, tuple or dict, trees -/
def itemsK (S : Store) (w : Wd) : Option (List Dt) := match vw S w with
  | .seq _ ws => mapO (rdF S) ws
  | .dic tk kvs => some (kvs.map fun p => dtOf tk p.1)
  | .oth => none
def sortable (ds : List Dt) : Bool :=
  ds.all pln && (ds.all fun d => ds.all fun e => PySem.W.alike (pd d) (pd e)) &&
    ((ds.all fun d => match d with | .tup (_ :: _) => true | _ => false) || (ds.all fun d => match d with | .tup _ => false | .non => false | _ => true)) && ds.all fun d => decide ((pd d).depth ≤ 64)
def dle (d e : Dt) : Bool := PySem.W.dataLe false pd d e
def dlt (d e : Dt) : Bool := !dle e d
def sortD (ds : List Dt) : Option (List Dt) := if sortable ds = true then some (ds.mergeSort dle) else none
def dedup : List Dt → List Dt
  | [] => []
  | d :: r => let r' := dedup r; if r'.any (fun e => decide (PyData.eqv (pd e) (pd d) = true)) = true then r' else d :: r'
def flat : Dt → Bool
  | .int _ => true
  | .str _ => true
  | .tup ds => (mapO atomK ds).isSome
  | _ => false
/-- of some texts, of some numbers, of some tuples alone -/
def setable (ds : List Dt) : Bool := (ds.all fun d => match d with | .int _ => true | _ => false) || (ds.all fun d => match d with | .str _ => true | _ => false) || (ds.all fun d => match d with | .tup es => (mapO atomK es).isSome | _ => false)
def leastD (better : Dt → Dt → Bool) : Dt → List Dt → Dt
  | d, [] => d
  | d, e :: r => leastD better (if better e d = true then e else d) r

def binD (m : Bool) (o : Bop) (a b : Wd) (S : Store) : Res Wd := match o, a, b with
  | .add, .t (.int i), .t (.int j) => .ok (.t (.int (i + j))) S
  | .sub, .t (.int i), .t (.int j) => .ok (.t (.int (i - j))) S
  | .mul, .t (.int i), .t (.int j) => if (-(2 ^ 64) < j ∧ j < 2 ^ 64) ∨ (-(2 ^ 64) < i ∧ i < 2 ^ 64) then .ok (.t (.int (i * j))) S else .no
  | .mod, .t (.int i), .t (.int j) => if 0 < j then .ok (.t (.int (i % j))) S else .no
  | .fdiv, .t (.int i), .t (.int j) => if 0 < j ∧ j.natAbs.log2 < 8000 then .ok (.t (.int (i / j))) S else .no
  | .pow, .t (.int i), .t (.int j) => if 0 ≤ j ∧ j ≤ 1000 ∧ i.natAbs < 2 ^ 64 then .ok (.t (.int (i ^ j.toNat))) S else .no
  | .add, .t (.str x), .t (.str y) => if x.length + y.length ≤ lineN then .ok (.t (.str (x ++ y))) S else .no
  | .add, .t (.tup x), .t (.tup y) => if x.length + y.length ≤ lineN then .ok (.t (.tup (x ++ y))) S else .no
  | .add, a, b => match vw S a, vw S b with
    | .seq false xs, .seq false ys => if xs.length + ys.length ≤ lineN then mkL m (xs ++ ys) S else .no
    | _, _ => .no
  | _, _, _ => .no
def cmpD (o : Cop) (i j : Int) : Bool := match o with
  | .lt => decide (i < j) | .le => decide (i ≤ j) | .gt => decide (j < i) | .ge => decide (j ≤ i)
def isBl (w : Wd) : Option Bool := match w with
  | .t (.bl b) => some b
  | _ => none
def isInt (w : Wd) : Option Int := match w with
  | .t (.int b) => some b
  | _ => none
def isNonD : Dt → Bool
  | .non => true
  | _ => false
def isNon (S : Store) : Wd → Option Bool
  | .t d => some (isNonD d)
  | .h k => match S[k]? with
    | some (.lst _ _) => some false
    | some (.dic _ _ _) => some false
    | some (.frz d) => some (isNonD d)
    | _ => none
  | _ => none
/-- x in xs -/
def inSD (S : Store) (a b : Wd) : Option Bool := match rd S 6 a, vw S b with
  | some d, .seq _ ws => match mapO (rd S 6) ws with
    | some ds => if pln d && SeqAt.shaped (pd d) && plns ds && ds.all (fun e => SeqAt.shaped (pd e)) then some (ds.any fun e => PyData.eqv (pd e) (pd d)) else none
    | none => none
  | _, _ => none
def cutG {α : Type} (xs : List α) (lo hi : Option Int) : List α := (xs.drop (HT.sIx xs.length 0 lo)).take (HT.sIx xs.length xs.length hi - HT.sIx xs.length 0 lo)
def slcD (m : Bool) (a : Wd) (lo hi : Option Int) (S : Store) : Res Wd := match a with
  | .t (.str x) => if x.length ≤ lineN then .ok (.t (.str (cutS x lo hi))) S else .no
  | .t (.tup ds) => .ok (.t (.tup (cutG ds lo hi))) S
  | a => match vw S a with
    | .seq false ws => mkL m (cutG ws lo hi) S
    | _ => .no
def idxD (a : Wd) (i : Int) (S : Store) : Res Wd := match a with
  | .t (.str x) => if x.length ≤ lineN then (match atI x.cps.toList i with | some c => .ok (.t (.str ⟨#[c]⟩)) S | none => .no) else .no
  | a => match vw S a with
    | .seq _ ws => opt S (atI ws i)
    | _ => .no
def isiB (ty : Ty) : Dt → Option Bool
  | .non => some false
  | .bl _ => some (match ty with | .int => true | .bool => true | _ => false)
  | .int _ => some (match ty with | .int => true | _ => false)
  | .str _ => some (match ty with | .str => true | _ => false)
  | .lst _ => some (match ty with | .list => true | _ => false)
  | .tup _ => some (match ty with | .tuple => true | _ => false)
  | .dic _ _ => none
def isiD (S : Store) (w : Wd) (ty : Ty) : Option Bool := match w with
  | .t d => isiB ty d
  | .h k => match S[k]? with
    | some (.lst _ _) => some (match ty with | .list => true | _ => false)
    | some (.frz d) => isiB ty d
    | _ => none
  | _ => none

def b1D (b : B1) (m : Bool) (w : Wd) (S : Store) : Res Wd := match b with
  | .len => match w with
    | .t (.str x) => if x.length ≤ lineN then .ok (.t (.int x.length)) S else .no
    | w => match vw S w with
      | .seq _ ws => .ok (.t (.int ws.length)) S
      | .dic _ _ => match w with
        | .h k => match S[k]? with
          | some (.dic false false kvs) => .ok (.t (.int kvs.length)) S
          | _ => .no
        | _ => .no
      | .oth => .no
  | .sorted => match itemsK S w with
    | some ds => match sortD ds with
      | some ds => mkL m (ds.map .t) S
      | none => .no
    | none => .no
  | .list => match vw S w with
    | .seq _ ws => mkL m ws S
    | _ => .no
  | .tuple => match vw S w with
    | .seq false ws => mkT ws S
    | .seq true _ => match w with
      | .t d => .ok (.t d) S
      | _ => .no
    | _ => .no
  | .sum => match (itemsF S w).bind intsD with
    | some is => .ok (.t (.int is.sum)) S
    | none => .no
  | .min => match itemsF S w with
    | some (d :: ds) => if sortable (d :: ds) = true then .ok (.t (leastD (fun x y => dlt x y) d ds)) S else .no
    | _ => .no
  | .max => match itemsF S w with
    | some (d :: ds) => if sortable (d :: ds) = true then .ok (.t (leastD (fun x y => dlt y x) d ds)) S else .no
    | _ => .no
  | .all => match (itemsF S w).bind blsD with
    | some bs => .ok (.t (.bl (bs.all id))) S
    | none => .no
  | .any => match (itemsF S w).bind blsD with
    | some bs => .ok (.t (.bl (bs.any id))) S
    | none => .no
  | .int => match w with
    | .t (.int i) => .ok (.t (.int i)) S
    | .t (.bl b) => .ok (.t (.int (if b then 1 else 0))) S
    | _ => .no
  | .str => match w with
    | .t (.int i) => if i.natAbs.log2 < 1900 then .ok (.t (.str (toString i : String))) S else .no
    | _ => .no
  | .dict => .no

/-- a method of a list, dict or text -/
def mthD (base : Nat) (o : Mt) (m : Bool) (w : Wd) (as : List Wd) (S : Store) : Res Wd := match o, as with
  | .append, [a] => match w with
    | .h k => (keepIf (decide (base ≤ k)) S a).bd fun a S1 => match S1[k]? with
      | some (.lst false ws) => if ws.length < lineN then .ok (.t .non) (S1.set k (.lst false (ws ++ [a]))) else .no
      | _ => .no
    | _ => .no
  | .extend, [a] => match w, a with
    | .h k, .h k2 => match S[k2]?, S[k]? with
      | some (.lst _ zs), some (.lst false ws) => if ws.length + zs.length ≤ lineN ∧ zs.all isT = true then .ok (.t .non) (S.set k (.lst false (ws ++ zs))) else .no
      | _, _ => .no
    | _, _ => .no
  | .pop, [] => match w with
    | .h k => match S[k]? with
      | some (.lst false ws) => match ws[ws.length - 1]? with
        | some y => .ok y (S.set k (.lst false ws.dropLast))
        | none => .no
      | _ => .no
    | _ => .no
  | .reverse, [] => match w with
    | .h k => match S[k]? with
      | some (.lst false ws) => .ok (.t .non) (S.set k (.lst false ws.reverse))
      | _ => .no
    | _ => .no
  | .clear, [] => match w with
    | .h k => match S[k]? with
      | some (.lst false ws) => .ok (.t .non) (S.set k (.lst false []))
      | _ => .no
    | _ => .no
  | .index, [.t (.str x)] => match w, vw S w with
    | .c ds, _ => match strsD ds with
      | some xs => match xs.findIdx? (fun y => decide (y = x)) with
        | some j => .ok (.t (.int j)) S
        | none => .no
      | none => .no
    | _, .seq false ws => match (mapO (rdF S) ws).bind strsD with
      | some xs => match xs.findIdx? (fun y => decide (y = x)) with
        | some j => .ok (.t (.int j)) S
        | none => .no
      | none => .no
    | _, _ => .no
  | .join, [a] => match w with
    | .t (.str x) => match (itemsF S a).bind strsD with
      | some xs => if (xs.map fun z => z.length + x.length).sum ≤ 1000000 then .ok (.t (.str (Txt.join x xs))) S else .no
      | none => .no
    | _ => .no
  | .get1, [.t k] => match vw S w with
    | .dic tk kvs => match keyOf tk k with
      | some k => .ok ((getA kvs k).getD (.t .non)) S
      | none => .no
    | _ => .no
  | .get2, [.t k, a] => match vw S w with
    | .dic tk kvs => match keyOf tk k with
      | some k => .ok ((getA kvs k).getD a) S
      | none => .no
    | _ => .no
  | .setdefault, [.t key, a] => match w with
    | .h k => (keepIf (decide (base ≤ k)) S a).bd fun a S1 => match S1[k]? with
      | some (.dic tk false kvs) => match keyOf tk key with
        | some key => match getA kvs key with
          | some v => .ok v S1
          | none => if kvs.length < lineN then .ok a (S1.set k (.dic tk false (putA kvs key a))) else .no
        | none => .no
      | _ => .no
    | _ => .no
  | .update, [a] => match w with
    | .h k => match vw S a with
      | .dic tk zs => match S[k]? with
        | some (.dic tk' false kvs) => if tk = tk' ∧ kvs.length + zs.length ≤ lineN ∧ (zs.all fun p => isT p.2) = true then .ok (.t .non) (S.set k (.dic tk false (zs.foldl (fun acc p => putA acc p.1 p.2) kvs))) else .no
        | _ => .no
      | _ => .no
    | _ => .no
  | _, _ => .no

/-- the handle of a list -/
def isLstC (S : Store) : Wd → Bool
  | .h k => match S[k]? with
    | some (.lst _ _) => true
    | _ => false
  | _ => false
/-- the thing whose method is called -/
def rcvOk (o : Mt) (S : Store) (w : Wd) : Bool := match o with
  | .index => match w with
    | .c _ => true
    | w => match vw S w with
      | .seq false _ => true
      | _ => false
  | .join => match w with
    | .t (.str _) => true
    | _ => false
  | .append => isLstC S w
  | .extend => isLstC S w
  | .pop => isLstC S w
  | .reverse => isLstC S w
  | .clear => isLstC S w
  | _ => match vw S w with
    | .dic _ _ => true
    | _ => false
/-! ### what is walked -/
/-- the list at a handle is walked just now -/
def lockO (S : Store) : Option Nat → Store × Option Nat
  | some k => match S[k]? with
    | some (.lst false ws) => (S.set k (.lst true ws), some k)
    | _ => (S, none)
  | none => (S, none)
def unlockC (S : Store) (o : Option Nat) : Store := match o with
  | some k => match S[k]? with
    | some (.lst true ws) => S.set k (.lst false ws)
    | _ => S
  | none => S
def hdl : Wd → Option Nat
  | .h k => some k
  | _ => none
/- names bound by a walk or by a plain target -/
mutual
def bindT (S : Store) : Tg → Wd → Env → Option Env
  | .nm i _ _, w, ρ => if i < ρ.length then some (ρ.set i (some w)) else none
  | .tp ts _ _, w, ρ => match vw S w with
    | .seq true ws => if ws.length = ts.length then bindTs S ts ws ρ else none
    | _ => none
def bindTs (S : Store) : List Tg → List Wd → Env → Option Env
  | [], [], ρ => some ρ
  | t :: ts, w :: ws, ρ => (bindT S t w ρ).bind fun ρ' => bindTs S ts ws ρ'
  | _, _, _ => none
end
def wipeE (ρ : Env) : List Nat → Env
  | [] => ρ
  | v :: vs => (wipeE ρ vs).set v none
/-- a comprehension's turns -/
def compGo (f : Wd → Store → Res (Option Wd)) : List Wd → Store → Res (List Wd)
  | [], S => .ok [] S
  | w :: r, S => match f w S with
    | .ok o S1 => match compGo f r S1 with
      | .ok ws S2 => .ok (match o with | some w => w :: ws | none => ws) S2
      | _ => .no
    | _ => .no
def rngL (lo hi : Int) : Option (List Wd) := if -(2 ^ 62) ≤ lo ∧ lo < 2 ^ 62 ∧ -(2 ^ 62) ≤ hi ∧ hi < 2 ^ 62 ∧ hi - lo ≤ lineN then some ((List.range (hi - lo).toNat).map fun i => .t (.int (lo + (i : Nat)))) else none

/-- a test -/
def tst (r : Res Wd) : Res Bool := r.bd fun w S => opt S (isBl w)
mutual
def ev (C : Cxt) : Ex → Env → Store → Res Wd
  | .var i _ _, ρ, S => match ρ[i]? with
    | some (some w) => .ok w S
    | _ => .no
  | .glb x _, _, S => opt S (C.glb x)
  | .lit c _ _, _, S => .ok (.t c.d) S
  | .bin o m a b _, ρ, S => (ev C a ρ S).bd fun x S1 => (ev C b ρ S1).bd fun y S2 => binD m o x y S2
  | .eq neg a b _, ρ, S => (ev C a ρ S).bd fun x S1 => (ev C b ρ S1).bd fun y S2 => (opt S2 (eqD S2 x y)).bd fun c S3 => .ok (.t (.bl (neg ^^ c))) S3
  | .cmp o a b _, ρ, S => (ev C a ρ S).bd fun x S1 => (ev C b ρ S1).bd fun y S2 => match x, y with
    | .t (.int i), .t (.int j) => .ok (.t (.bl (cmpD o i j))) S2
    | _, _ => .no
  | .chain o o2 a b c _, ρ, S => (ev C a ρ S).bd fun x S1 => (ev C b ρ S1).bd fun y S2 => (opt S2 (isInt x)).bd fun i S2 => (opt S2 (isInt y)).bd fun j S2 =>
    if cmpD o i j = true then (ev C c ρ S2).bd fun z S3 => (opt S3 (isInt z)).bd fun k S3 => .ok (.t (.bl (cmpD o2 j k))) S3 else .ok (.t (.bl false)) S2
  | .isN neg a _ _ _, ρ, S => (ev C a ρ S).bd fun x S1 => (opt S1 (isNon S1 x)).bd fun c S2 => .ok (.t (.bl (neg ^^ c))) S2
  | .inS neg a b _, ρ, S => (ev C a ρ S).bd fun x S1 => (ev C b ρ S1).bd fun y S2 => (opt S2 (inSD S2 x y)).bd fun c S3 => .ok (.t (.bl (neg ^^ c))) S3
  | .inD neg a b _, ρ, S => (ev C a ρ S).bd fun x S1 => (ev C b ρ S1).bd fun y S2 => match x, vw S2 y with
    | .t d, .dic tk kvs => (opt S2 (keyOf tk d)).bd fun k S3 => .ok (.t (.bl (neg ^^ (getA kvs k).isSome))) S3
    | _, _ => .no
  | .inT neg a b _, ρ, S => (ev C a ρ S).bd fun x S1 => (ev C b ρ S1).bd fun y S2 => match x, y with
    | .t (.str i), .t (.str j) => .ok (.t (.bl (neg ^^ !(Builtin.Str.occurrences j i 0 j.length 1).isEmpty))) S2
    | _, _ => .no
  | .bop and as _, ρ, S => evB C and as ρ S
  | .not a _, ρ, S => (ev C a ρ S).bd fun x S1 => (opt S1 (isBl x)).bd fun b S2 => .ok (.t (.bl (!b))) S2
  | .neg a _, ρ, S => (ev C a ρ S).bd fun x S1 => (opt S1 (isInt x)).bd fun i S2 => .ok (.t (.int (-i))) S2
  | .ife c a b _, ρ, S => (tst (ev C c ρ S)).bd fun x S1 => if x = true then ev C a ρ S1 else ev C b ρ S1
  | .tup es _ _, ρ, S => if es.length ≤ 1000 then (evs C es ρ S).bd fun ws S1 => mkT ws S1 else .no
  | .lst m es _, ρ, S => if es.length ≤ 1000 then (evs C es ρ S).bd fun ws S1 => mkL m ws S1 else .no
  | .dic0 m tk _, _, S => mkD m tk [] S
  | .dic m tk ks vs _, ρ, S => .no
  | .idx a i _, ρ, S => (ev C a ρ S).bd fun x S1 => (ev C i ρ S1).bd fun y S2 => (opt S2 (isInt y)).bd fun j S3 => idxD x j S3
  | .dget a i _, ρ, S => (ev C a ρ S).bd fun x S1 => (ev C i ρ S1).bd fun y S2 => match y, vw S2 x with
    | .t d, .dic tk kvs => (opt S2 (keyOf tk d)).bd fun k S3 => opt S3 (getA kvs k)
    | _, _ => .no
  | .slc m a lo hi _ _, ρ, S => (ev C a ρ S).bd fun x S1 => (evO C lo ρ S1).bd fun l S2 => (evO C hi ρ S2).bd fun h S3 => slcD m x l h S3
  | .rev m a _ _ _ _ _, ρ, S => (ev C a ρ S).bd fun x S1 => match vw S1 x with
    | .seq false ws => mkL m ws.reverse S1
    | _ => .no
  | .call f m _ es _, ρ, S => match C.call f with
    | some g => (evs C es ρ S).bd (g m)
    | none => .no
  | .b1 b m _ e _, ρ, S => if C.calm = false then .no else (ev C e ρ S).bd fun w S1 => b1D b m w S1
  | .sset m _ _ e _ _, ρ, S => if C.calm = false then .no else (ev C e ρ S).bd fun w S1 => match itemsF S1 w with
    | some ds => if setable ds = true then (match sortD (dedup ds) with
      | some ds => mkL m (ds.map .t) S1
      | none => .no) else .no
    | none => .no
  | .lset _ _ e _ _, ρ, S => if C.calm = false then .no else (ev C e ρ S).bd fun w S1 => match itemsF S1 w with
    | some ds => if setable ds = true then .ok (.t (.int (dedup ds).length)) S1 else .no
    | none => .no
  | .sum2 m _ e _ _, ρ, S => .no
  | .mm2 mx _ a b _, ρ, S => if C.calm = false then .no else (ev C a ρ S).bd fun x S1 => (ev C b ρ S1).bd fun y S2 => match rdF S2 x, rdF S2 y with
    | some d, some e => if sortable [d, e] = true then .ok (if (if mx = true then dlt d e else dlt e d) = true then y else x) S2 else .no
    | _, _ => .no
  | .mmd mx _ a d _ _, ρ, S => .no
  | .mth o m a _ es _, ρ, S => if C.calm = false then .no else (ev C a ρ S).bd fun w S1 => if rcvOk o S1 w = true then (evs C es ρ S1).bd fun ws S2 => mthD C.base o m w ws S2 else .no
  | .isi _ a ty _ _, ρ, S => (ev C a ρ S).bd fun w S1 => (opt S1 (isiD S1 w ty)).bd fun b S2 => .ok (.t (.bl b)) S2
  | .att a f _, ρ, S => (ev C a ρ S).bd fun w S1 => match w with
    | .x e => opt S1 ((e.fs.lookup f).map .t)
    | _ => .no
  | .isx _ a cls _ _, ρ, S => (ev C a ρ S).bd fun w S1 => match w with
    | .x e => (opt S1 (C.isa e.cls cls)).bd fun b S2 => .ok (.t (.bl b)) S2
    | _ => .no
  | .lc m elt tg it cond _ own _, ρ, S => if C.calm = false then .no else (evI C it ρ S).bd fun p S1 => if p.1.length ≤ lineN then
      match compGo (fun w S => match bindT S tg w (wipeE ρ (own.map (·.2))) with
        | some ρ' => (evC C cond ρ' S).bd fun b S => if b = true then (ev C elt ρ' S).bd fun w S => .ok (some w) S else .ok none S
        | none => .no) p.1 (lockO S1 p.2).1 with
      | .ok ws S2 => mkL m ws (unlockC S2 (lockO S1 p.2).2)
      | _ => .no
    else .no
def evs (C : Cxt) : List Ex → Env → Store → Res (List Wd)
  | [], _, S => .ok [] S
  | a :: r, ρ, S => (ev C a ρ S).bd fun w S1 => (evs C r ρ S1).bd fun ws S2 => .ok (w :: ws) S2
def evO (C : Cxt) : Option Ex → Env → Store → Res (Option Int)
  | none, _, S => .ok none S
  | some a, ρ, S => (ev C a ρ S).bd fun w S1 => (opt S1 (isInt w)).bd fun i S2 => .ok (some i) S2
def evC (C : Cxt) : Option Ex → Env → Store → Res Bool
  | none, _, S => .ok true S
  | some a, ρ, S => tst (ev C a ρ S)
/-- and, or, of True and False -/
def evB (C : Cxt) (and : Bool) : List Ex → Env → Store → Res Wd
  | [], _, _ => .no
  | a :: r, ρ, S => match r with
    | [] => (ev C a ρ S).bd fun w S1 => (opt S1 (isBl w)).bd fun b S2 => .ok (.t (.bl b)) S2
    | _ :: _ => (ev C a ρ S).bd fun w S1 => (opt S1 (isBl w)).bd fun b S2 => if (b ^^ and) = true then .ok (.t (.bl b)) S2 else evB C and r ρ S2
/-- what is walked: its items, the cell that is walked -/
def evI (C : Cxt) : It → Env → Store → Res (List Wd × Option Nat)
  | .rng1 _ a _, ρ, S => (ev C a ρ S).bd fun w S1 => (opt S1 ((isInt w).bind fun n => rngL 0 n)).bd fun ws S2 => .ok (ws, none) S2
  | .rng2 _ a b _, ρ, S => (ev C a ρ S).bd fun w S1 => (ev C b ρ S1).bd fun v S2 => (opt S2 ((isInt w).bind fun lo => (isInt v).bind fun n => rngL lo n)).bd fun ws S3 => .ok (ws, none) S3
  | .enm _ a _, ρ, S => (ev C a ρ S).bd fun w S1 => match itemsF S1 w, vw S1 w with
    | some ds, .seq false _ => .ok (((List.range ds.length).zip ds).map fun p => .t (.tup [.int (p.1 : Nat), p.2]), hdl w) S1
    | _, _ => .no
  | .zip _ a b _, ρ, S => (ev C a ρ S).bd fun w S1 => (ev C b ρ S1).bd fun v S2 => match itemsF S2 w, vw S2 w, itemsF S2 v, vw S2 v with
    | some ds, .seq false _, some es, .seq false _ => if isT w && isT v then .ok ((ds.zip es).map fun p => .t (.tup [p.1, p.2]), none) S2 else .no
    | _, _, _, _ => .no
  | .itms a _ _, ρ, S => (ev C a ρ S).bd fun w S1 => match w, vw S1 w with
    | .t _, .dic tk kvs => (opt S1 (mapO (fun p => (rdF S1 p.2).map fun d => Wd.t (.tup [dtOf tk p.1, d])) kvs)).bd fun ws S2 => .ok (ws, none) S2
    | _, _ => .no
  | .vals a _ _, ρ, S => (ev C a ρ S).bd fun w S1 => match w, vw S1 w with
    | .t _, .dic tk kvs => .ok (kvs.map (·.2), none) S1
    | _, _ => .no
  | .kys a, ρ, S => (ev C a ρ S).bd fun w S1 => match w, vw S1 w with
    | .t _, .dic tk kvs => .ok (kvs.map fun p => .t (dtOf tk p.1), none) S1
    | _, _ => .no
  | .seq a, ρ, S => (ev C a ρ S).bd fun w S1 => match vw S1 w with
    | .seq _ ws => .ok (ws, hdl w) S1
    | _ => .no
end
end Gw

namespace Gw
open PySem L2

inductive Out where
  | nx (ρ : Env) (S : Store) | rt (w : Wd) (S : Store) | bk (ρ : Env) (S : Store) | ct (ρ : Env) (S : Store) | ex (e : Exn) (ρ : Env) (S : Store) | no
/-- an expression's end in a statement -/
def Res.st {α : Type} (r : Res α) (ρ : Env) (f : α → Store → Out) : Out := match r with
  | .ok a S => f a S
  | .ex e S => .ex e ρ S
  | .no => .no
def Out.unl (o : Out) (k : Option Nat) : Out := match o with
  | .nx ρ S => .nx ρ (unlockC S k)
  | .rt w S => .rt w (unlockC S k)
  | .ex e ρ S => .ex e ρ (unlockC S k)
  | _ => .no
def forGo (f : Wd → Env → Store → Out) : List Wd → Env → Store → Out
  | [], ρ, S => .nx ρ S
  | w :: r, ρ, S => match f w ρ S with
    | .nx ρ S => forGo f r ρ S
    | .ct ρ S => forGo f r ρ S
    | .bk ρ S => .nx ρ S
    | o => o
def whGo (c : Env → Store → Res Bool) (f : Env → Store → Out) : Nat → Env → Store → Out
  | 0, _, _ => .no
  | n + 1, ρ, S => (c ρ S).st ρ fun b S1 => if b = true then (match f ρ S1 with
    | .nx ρ S => whGo c f n ρ S
    | .ct ρ S => whGo c f n ρ S
    | .bk ρ S => .nx ρ S
    | o => o) else .nx ρ S1
def asetD (base : Nat) (w : Wd) (i : Int) (v : Wd) (S : Store) : Res Unit := match w with
  | .h k => (keepIf (decide (base ≤ k)) S v).bd fun v S => match S[k]? with
    | some (.lst false ws) => match ixN ws.length i with
      | some j => .ok () (S.set k (.lst false (ws.set j v)))
      | none => .no
    | _ => .no
  | _ => .no
def dsetD (base : Nat) (w : Wd) (key : Wd) (v : Wd) (S : Store) : Res Unit := match w, key with
  | .h k, .t key => (keepIf (decide (base ≤ k)) S v).bd fun v S => match S[k]? with
    | some (.dic tk false kvs) => match keyOf tk key with
      | some key => if kvs.length < lineN then .ok () (S.set k (.dic tk false (putA kvs key v))) else .no
      | none => .no
    | _ => .no
  | _, _ => .no
def bindA (C : Cxt) (S : Store) (tg : Tg) (w : Wd) (ρ : Env) : Option Env := match tg with
  | .nm _ _ _ => bindT S tg w ρ
  | .tp _ _ _ => if C.calm = true then bindT S tg w ρ else none
def toOut (S : Store) (o : Option Env) : Out := match o with
  | some ρ => .nx ρ S
  | none => .no
def Out.gone (o : Out) (i : Nat) : Out := match o with
  | .nx ρ S => .nx (ρ.set i none) S
  | .bk ρ S => .bk (ρ.set i none) S
  | .ct ρ S => .ct (ρ.set i none) S
  | .rt w S => .rt w S
  | _ => .no
mutual
def exec (C : Cxt) : St → Env → Store → Out
  | .expr e _, ρ, S => (ev C e ρ S).st ρ fun _ S => .nx ρ S
  | .asg tg e _, ρ, S => (ev C e ρ S).st ρ fun w S => toOut S (bindA C S tg w ρ)
  | .aset o i _ e _, ρ, S => (ev C e ρ S).st ρ fun v S => (ev C o ρ S).st ρ fun w S => (ev C i ρ S).st ρ fun j S => (opt S (isInt j)).st ρ fun j S => (asetD C.base w j v S).st ρ fun _ S => .nx ρ S
  | .dset o i _ e _, ρ, S => (ev C e ρ S).st ρ fun v S => (ev C o ρ S).st ρ fun w S => (ev C i ρ S).st ρ fun j S => (dsetD C.base w j v S).st ρ fun _ S => .nx ρ S
  | .aug i _ _ o e _, ρ, S => match ρ[i]? with
    | some (some x) => (ev C e ρ S).st ρ fun y S => match o, x, y with
      | .add, .t (.int a), .t (.int b) => if i < ρ.length then .nx (ρ.set i (some (.t (.int (a + b))))) S else .no
      | .sub, .t (.int a), .t (.int b) => if i < ρ.length then .nx (ρ.set i (some (.t (.int (a - b))))) S else .no
      | _, _, _ => .no
    | _ => .no
  | .ifS c a b _, ρ, S => (tst (ev C c ρ S)).st ρ fun x S => if x = true then execs C a ρ S else execs C b ρ S
  | .forS tg it body _, ρ, S => if C.calm = false then .no else (evI C it ρ S).st ρ fun p S => (forGo (fun w ρ S => match bindT S tg w ρ with
    | some ρ' => execs C body ρ' S
    | none => .no) p.1 ρ (lockO S p.2).1).unl (lockO S p.2).2
  | .whl c body _, ρ, S => if C.calm = false then .no else whGo (fun ρ S => tst (ev C c ρ S)) (fun ρ S => execs C body ρ S) C.fuel ρ S
  | .ret e _, ρ, S => (ev C e ρ S).st ρ fun w S => .rt w S
  | .ret0 _, _, S => .rt (.t .non) S
  | .raise cls _ es _ _, ρ, S => .no
  | .tryS body cls _ i _ suite _ _, ρ, S => .no
  | .pass _, ρ, S => .nx ρ S
  | .brk _, ρ, S => .bk ρ S
  | .cont _, ρ, S => .ct ρ S
def execs (C : Cxt) : List St → Env → Store → Out
  | [], ρ, S => .nx ρ S
  | a :: r, ρ, S => match exec C a ρ S with
    | .nx ρ S => execs C r ρ S
    | o => o
end
/-- a def: its names by slot, how many are parameters, its body -/
structure Fn where
  N : List Str
  np : Nat
  body : List St
/-- a program: its defs, its errors, which of them is which -/
structure Prg where
  fn : Str → Option Fn
  err : Str → Option (Str × List Str)
  isa : Str → Str → Option Bool
  glb : Str → Option Wd
/-- what a def hands back: a tree, the cells that it made gone; or as it is -/
def endF (tree : Bool) (n : Nat) (w : Wd) (S : Store) : Res Wd := match tree with
  | true => (keep S w).bd fun d S' => .ok (.t d) (S'.take n)
  | false => .ok w S
def evF (P : Prg) : Nat → Str → Bool → List Wd → Store → Res Wd
  | 0, _, _, _, _ => .no
  | n + 1, f, m, ws, S => match P.fn f with
    | some F => if ws.length = F.np then (match execs ⟨fun g => if (P.fn g).isSome = true then some (evF P n g) else none, S.length, 1000000000, P.err, P.isa, P.glb, true⟩ F.body (ws.map some ++ List.replicate (F.N.length - ws.length) none) S with
      | .nx _ S' => endF (!m) S.length (.t .non) S'
      | .rt w S' => endF (!m) S.length w S'
      | .ex e _ S' => .ex e (S'.take S.length)
      | _ => .no) else .no
    | none => .no
/-- what a call of a def means -/
def callOf (P : Prg) (n : Nat) : Str → Option (Bool → List Wd → Store → Res Wd) := fun g => if (P.fn g).isSome = true then some (evF P n g) else none
end Gw

namespace Gw
open PySem PySem.Spec PyProof.Rows L2

/-! ### heaps -/
structure XR (H H' : Hp) : Prop where
  rd : ∀ a u, Rd H a u → Rd H' a u
  tp : ∀ a xs, H a = some (.tup xs) → H' a = some (.tup xs)
theorem XR.refl (H : Hp) : XR H H := ⟨fun _ _ h => h, fun _ _ h => h⟩
theorem XR.trans {H H1 H2 : Hp} (a : XR H H1) (b : XR H1 H2) : XR H H2 := ⟨fun x u h => b.rd x u (a.rd x u h), fun x u h => b.tp x u (a.tp x u h)⟩
theorem Rd.some {H : Hp} {a : Addr} {u : HO} (h : Rd H a u) : ∃ o, H a = some o := by
  rcases h with h | ⟨o, h⟩
  · exact ⟨_, h⟩
  · exact ⟨_, h⟩
theorem rd_none {H : Hp} {a : Addr} {u : HO} (h : H a = none) : ¬ Rd H a u := fun r => by
  obtain ⟨o, e⟩ := Rd.some r
  rw [h] at e; cases e
theorem rd_ne {H : Hp} {a b : Addr} {u : HO} (h : Rd H a u) (hb : H b = none) : a ≠ b := fun e => by
  rw [e] at h; exact rd_none hb h
theorem rd_upd {H : Hp} {a b : Addr} {u o : HO} (h : Rd H a u) (n : a ≠ b) : Rd (upd H b o) a u := by
  rcases h with h | ⟨z, h⟩
  · exact .inl (by rw [upd_ne n]; exact h)
  · exact .inr ⟨z, by rw [upd_ne n]; exact h⟩
theorem XR.new {H : Hp} {p : Addr} {o : HO} (h : H p = none) : XR H (upd H p o) :=
  ⟨fun a u r => rd_upd r (rd_ne r h), fun a xs e => by rw [upd_ne (ne_of_none e h)]; exact e⟩
/-- an object that is not of it changes -/
theorem XR.mut {H H' : Hp} {p : Addr} {o : HO} (x : XR H H') (h : H p = none) : XR H (upd H' p o) :=
  ⟨fun a u r => rd_upd (x.rd a u r) (rd_ne r h), fun a xs e => by rw [upd_ne (ne_of_none e h)]; exact x.tp a xs e⟩
theorem XR.both {H H' : Hp} {p : Addr} {o : HO} (x : XR H H') (h : H' p = none) : XR (upd H p o) (upd H' p o) := by
  refine ⟨fun a u r => ?_, fun a xs e => ?_⟩
  · by_cases ha : a = p
    · subst ha
      rcases r with r | ⟨z, r⟩
      · rw [upd_same] at r; exact .inl (by rw [upd_same]; exact r)
      · rw [upd_same] at r; exact .inr ⟨z, by rw [upd_same]; exact r⟩
    · refine rd_upd (x.rd a u ?_) ha
      rcases r with r | ⟨z, r⟩
      · rw [upd_ne ha] at r; exact .inl r
      · rw [upd_ne ha] at r; exact .inr ⟨z, r⟩
  · by_cases ha : a = p
    · subst ha; rw [upd_same] at e ⊢; exact e
    · rw [upd_ne ha] at e ⊢; exact x.tp a xs e
theorem XR.none {H H' : Hp} (x : XR H H') {p : Addr} (h : H' p = none) : H p = none := by
  cases e : H p with
  | none => rfl
  | some o =>
    cases o with
    | frz ob u =>
      have r := x.rd p u (.inr ⟨_, e⟩)
      exact absurd r (rd_none h)
    | _ => exact absurd (x.rd p _ (.inl e)) (rd_none h)
/-- the thing at d is locked, as what it is -/
theorem XR.lock {H : Hp} {d : Addr} {u : HO} {od : Obj} (h : H d = some u) (mu : Mut (some u)) : XR H (upd H d (.frz od u)) := by
  refine ⟨fun a v r => ?_, fun a xs e => ?_⟩
  · by_cases ha : a = d
    · subst ha
      rcases r with r | ⟨z, r⟩
      · rw [h] at r; cases r; exact .inr ⟨od, upd_same⟩
      · rw [h] at r; cases r; exact False.elim mu
    · exact rd_upd r ha
  · have ha : a ≠ d := fun z => by rw [z, h] at e; cases e; exact mu
    rw [upd_ne ha]; exact e

/-! ### trees in a heap -/
mutual
inductive Rp (K : PySem.W.Frag) (H : Hp) : V → Dt → Prop
  | non : Rp K H .non .non
  | bl (b : Bool) : Rp K H (.bl b) (.bl b)
  | int (i : Int) : Rp K H (.int i) (.int i)
  | str (x : Str) : Rp K H (.str x) (.str x)
  | lst {a : Addr} {vs : List V} {ds : List Dt} : SqL K H a vs → RpA K H vs ds → Rp K H (.ref a) (.lst ds)
  | tup {a : Addr} {vs : List V} {ds : List Dt} : H a = some (.tup vs) → RpA K H vs ds → Rp K H (.ref a) (.tup ds)
  | dK {a : Addr} {kvs : List (Key × V)} {ks : List (List Key)} {ds : List Dt} {es : List (List Key × Dt)} : Rd H a (.dK kvs) → kvs.map (fun p => [p.1]) = es.map (·.1) → RpA K H (kvs.map (·.2)) ds → es.map (·.2) = ds → Rp K H (.ref a) (.dic false es)
  | dT {a : Addr} {kvs : List (List Key × V)} {ds : List Dt} {es : List (List Key × Dt)} : Rd H a (.dT kvs) → kvs.map (·.1) = es.map (·.1) → RpA K H (kvs.map (·.2)) ds → es.map (·.2) = ds → Rp K H (.ref a) (.dic true es)
inductive RpA (K : PySem.W.Frag) (H : Hp) : List V → List Dt → Prop
  | nil : RpA K H [] []
  | cons {v : V} {vs : List V} {d : Dt} {ds : List Dt} : Rp K H v d → RpA K H vs ds → RpA K H (v :: vs) (d :: ds)
end
theorem sqL_mono {K : PySem.W.Frag} {H H' : Hp} (x : XR H H') {a : Addr} {vs : List V} (h : SqL K H a vs) : SqL K H' a vs := by
  rcases h with h | h
  · exact .inl (x.rd _ _ h)
  · exact .inr h
mutual
theorem Rp.mono {K : PySem.W.Frag} {H H' : Hp} (x : XR H H') : ∀ {v : V} {d : Dt}, Rp K H v d → Rp K H' v d
  | _, _, .non => .non
  | _, _, .bl b => .bl b
  | _, _, .int i => .int i
  | _, _, .str z => .str z
  | _, _, .lst h r => .lst (sqL_mono x h) (RpA.mono x r)
  | _, _, .tup h r => .tup (x.tp _ _ h) (RpA.mono x r)
  | _, _, .dK (ks := ks) h e r e2 => .dK (ks := ks) (x.rd _ _ h) e (RpA.mono x r) e2
  | _, _, .dT h e r e2 => .dT (x.rd _ _ h) e (RpA.mono x r) e2
theorem RpA.mono {K : PySem.W.Frag} {H H' : Hp} (x : XR H H') : ∀ {vs : List V} {ds : List Dt}, RpA K H vs ds → RpA K H' vs ds
  | _, _, .nil => .nil
  | _, _, .cons h r => .cons (h.mono x) (RpA.mono x r)
end
theorem RpA.paired {K : PySem.W.Frag} {H : Hp} : ∀ {vs : List V} {ds : List Dt}, RpA K H vs ds → Paired (Rp K H) vs ds
  | _, _, .nil => .nil
  | _, _, .cons h r => .cons h (RpA.paired r)
theorem RpA.of {K : PySem.W.Frag} {H : Hp} : ∀ {vs : List V} {ds : List Dt}, Paired (Rp K H) vs ds → RpA K H vs ds
  | _, _, .nil => .nil
  | _, _, .cons h r => .cons h (RpA.of r)
theorem RpA.length {K : PySem.W.Frag} {H : Hp} {vs : List V} {ds : List Dt} (h : RpA K H vs ds) : vs.length = ds.length := h.paired.length
mutual
/-- plain data, as the library has it -/
theorem Rp.dp {K : PySem.W.Frag} {H : Hp} : ∀ {v : V} {d : Dt}, Rp K H v d → pln d = true → Dp K H v (pd d)
  | _, _, .non, _ => by unfold pd; exact .non
  | _, _, .bl b, _ => by unfold pd; exact .bl b
  | _, _, .int i, _ => by unfold pd; exact .int i
  | _, _, .str z, _ => by unfold pd; exact .str z
  | _, _, .lst h r, p => by unfold pd; exact .lst h (RpA.dp r (by unfold pln at p; exact p))
  | _, _, .tup h r, p => by unfold pd; exact .tup (.inl (.inl h)) (RpA.dp r (by unfold pln at p; exact p))
  | _, _, .dK _ _ _ _, p => by unfold pln at p; cases p
  | _, _, .dT _ _ _ _, p => by unfold pln at p; cases p
theorem RpA.dp {K : PySem.W.Frag} {H : Hp} : ∀ {vs : List V} {ds : List Dt}, RpA K H vs ds → plns ds = true → DpAll K H vs (pds ds)
  | _, _, .nil, _ => by unfold pds; exact .nil
  | _, _, .cons h r, p => by
    unfold plns at p
    obtain ⟨p1, p2⟩ := Bool.and_eq_true_iff.mp p
    unfold pds
    exact .cons (h.dp p1) (RpA.dp r p2)
end

/-! ### the store in a heap -/
/-- what the error of a suite is; the heap that stood at its entry -/
structure Xr where
  r : Exn → V → Prop
  h0 : Hp
/-- a value of the interpreter; xr: what the error of a suite is -/
def WR (K : PySem.W.Frag) (Hf : Hp) (μ : List V) (xr : Xr) : Wd → V → Prop
  | .t d, v => Rp K Hf v d
  | .h k, v => μ[k]? = some v
  | .x e, v => xr.r e v
  | .c ds, v => ∃ a vs, v = .ref a ∧ (∃ o, K.lookup a = some o ∧ o.cls = .type "tuple" ∧ o.dict = none) ∧ SqT K Hf a vs ∧ RpA K Hf vs ds
abbrev noXr : Xr := ⟨fun _ _ => False, fun _ => none⟩
/-- a cell -/
inductive CR (K : PySem.W.Frag) (H Hf : Hp) (μ : List V) : Cl → V → Prop
  | lst {lk : Bool} {ws : List Wd} {a : Addr} {vs : List V} : H a = some (.lst vs) → Hf a = none → Paired (WR K Hf μ noXr) ws vs → CR K H Hf μ (.lst lk ws) (.ref a)
  | dK {lk : Bool} {kws : List (List Key × Wd)} {a : Addr} {kvs : List (Key × V)} {o : HO} : H a = some o → (if lk = true then ∃ ob, o = .frz ob (.dK kvs) else o = .dK kvs) → Hf a = none →
      kvs.map (fun p => [p.1]) = kws.map (·.1) → Paired (WR K Hf μ noXr) (kws.map (·.2)) (kvs.map (·.2)) → CR K H Hf μ (.dic false lk kws) (.ref a)
  | dT {lk : Bool} {kws : List (List Key × Wd)} {a : Addr} {kvs : List (List Key × V)} {o : HO} : H a = some o → (if lk = true then ∃ ob, o = .frz ob (.dT kvs) else o = .dT kvs) → Hf a = none →
      kvs.map (·.1) = kws.map (·.1) → Paired (WR K Hf μ noXr) (kws.map (·.2)) (kvs.map (·.2)) → CR K H Hf μ (.dic true lk kws) (.ref a)
  | frz {d : Dt} {v : V} : Rp K Hf v d → CR K H Hf μ (.frz d) v
def live : Cl → Bool
  | .frz _ => false
  | _ => true
def lockedC : Cl → Bool
  | .lst lk _ => lk
  | .dic _ lk _ => lk
  | _ => false
def hsW : Wd → List Nat
  | .h k => [k]
  | _ => []
/-- the handles in a cell -/
def hsC : Cl → List Nat
  | .lst _ ws => ws.flatMap hsW
  | .dic _ _ kvs => (kvs.map (·.2)).flatMap hsW
  | .ins _ fs => (fs.map (·.2)).flatMap hsW
  | .frz _ => []
structure Sm (K : PySem.W.Frag) (bs : List Nat) (μ : List V) (S : Store) (H Hf : Hp) : Prop where
  len : μ.length = S.length
  cell : ∀ (k : Nat) (c : Cl) (v : V), S[k]? = some c → μ[k]? = some v → CR K H Hf μ c v
  sep : ∀ (k k' : Nat) (c c' : Cl) (v : V), S[k]? = some c → S[k']? = some c' → live c = true → live c' = true → μ[k]? = some v → μ[k']? = some v → k = k'
  sub : XR Hf H
  bsz : ∀ b ∈ bs, b ≤ S.length
  frm : ∀ b ∈ bs, ∀ (k : Nat) (c : Cl), k < b → S[k]? = some c → ∀ j ∈ hsC c, j < b
/-- an object beside the store -/
def Free (S : Store) (μ : List V) (H Hf : Hp) (a : Addr) (o : HO) : Prop := H a = some o ∧ Hf a = none ∧ ∀ (k : Nat) (c : Cl), S[k]? = some c → live c = true → μ[k]? ≠ some (.ref a)
/-- from a state to a later one -/
structure Xt (S : Store) (μ : List V) (H Hf : Hp) (S' : Store) (μ' : List V) (H' Hf' : Hp) : Prop where
  mu : ∃ t, μ' = μ ++ t
  fr : XR Hf Hf'
  lk : ∀ (k : Nat) (c : Cl) (a : Addr), S[k]? = some c → lockedC c = true → μ[k]? = some (.ref a) → (∃ c', S'[k]? = some c' ∧ lockedC c' = true) ∧ H' a = H a
  un : ∀ (a : Addr) (o : HO), Free S μ H Hf a o → Free S' μ' H' Hf' a o
section
variable {K : PySem.W.Frag} {bs : List Nat} {μ μ' μ2 : List V} {S S' S2 : Store} {H Hf H' Hf' H2 Hf2 : Hp} {xr : Xr}
theorem Xt.refl : Xt S μ H Hf S μ H Hf := ⟨⟨[], by simp⟩, .refl _, fun k c a h1 h2 _ => ⟨⟨c, h1, h2⟩, rfl⟩, fun _ _ h => h⟩
theorem mu_get {k : Nat} {v : V} (h : ∃ t, μ' = μ ++ t) (e : μ[k]? = some v) : μ'[k]? = some v := by
  obtain ⟨t, rfl⟩ := h
  rw [List.getElem?_append_left (List.getElem?_eq_some_iff.mp e).1]
  exact e
theorem Xt.trans (a : Xt S μ H Hf S' μ' H' Hf') (b : Xt S' μ' H' Hf' S2 μ2 H2 Hf2) : Xt S μ H Hf S2 μ2 H2 Hf2 := by
  refine ⟨?_, a.fr.trans b.fr, fun k c ad h1 h2 h3 => ?_, fun x o h => b.un x o (a.un x o h)⟩
  · obtain ⟨t, e⟩ := a.mu
    obtain ⟨t', e'⟩ := b.mu
    exact ⟨t ++ t', by rw [e', e, List.append_assoc]⟩
  · obtain ⟨⟨c', q1, q2⟩, q3⟩ := a.lk k c ad h1 h2 h3
    obtain ⟨z, q4⟩ := b.lk k c' ad q1 q2 (mu_get a.mu h3)
    exact ⟨z, q4.trans q3⟩
theorem WR.mono {w : Wd} {v : V} (hm : ∃ t, μ' = μ ++ t) (hf : XR Hf Hf') (h : WR K Hf μ xr w v) : WR K Hf' μ' xr w v := by
  cases w with
  | t d => exact Rp.mono hf h
  | h k => exact mu_get hm h
  | x e => exact h
  | c ds =>
    obtain ⟨a, vs, e, q, s, r⟩ := h
    refine ⟨a, vs, e, q, ?_, r.mono hf⟩
    rcases s with s | s
    · exact .inl (hf.rd _ _ s)
    · exact .inr s
theorem WR.xt {w : Wd} {v : V} (x : Xt S μ H Hf S' μ' H' Hf') (h : WR K Hf μ xr w v) : WR K Hf' μ' xr w v := h.mono x.mu x.fr
theorem wrs_mono {ws : List Wd} {vs : List V} (hm : ∃ t, μ' = μ ++ t) (hf : XR Hf Hf') (h : Paired (WR K Hf μ xr) ws vs) : Paired (WR K Hf' μ' xr) ws vs := L2.Paired.mapP h fun _ _ r => r.mono hm hf
/-- a value without errors -/
theorem WR.reX {w : Wd} {v : V} {xr' : Xr} (hn : ∀ e, w ≠ .x e) (h : WR K Hf μ xr w v) : WR K Hf μ xr' w v := by
  cases w with
  | x e => exact absurd rfl (hn e)
  | _ => exact h
theorem Sm.mem (s : Sm K bs μ S H Hf) {k : Nat} {c : Cl} (h : S[k]? = some c) : ∃ v, μ[k]? = some v := by
  have hk := (List.getElem?_eq_some_iff.mp h).1
  rw [← s.len] at hk
  exact ⟨μ[k], List.getElem?_eq_getElem hk⟩
theorem Sm.mem' (s : Sm K bs μ S H Hf) {k : Nat} {v : V} (h : μ[k]? = some v) : ∃ c, S[k]? = some c := by
  have hk := (List.getElem?_eq_some_iff.mp h).1
  rw [s.len] at hk
  exact ⟨S[k], List.getElem?_eq_getElem hk⟩
/-- nothing of it lies at a new address -/
theorem Sm.fresh (s : Sm K bs μ S H Hf) {p : Addr} (h : H p = none) : Hf p = none := s.sub.none h
end
end Gw

namespace Gw
open PySem PySem.Spec PyProof.Rows L2
section
variable {K : PySem.W.Frag} {bs : List Nat} {μ μ' μ2 : List V} {S S' S2 : Store} {H Hf H' Hf' H2 Hf2 : Hp} {xr : Xr}
theorem CR.at_ {c : Cl} {v : V} (h : CR K H Hf μ c v) (hl : live c = true) : ∃ a o, v = .ref a ∧ H a = some o ∧ Hf a = none := by
  cases h with
  | lst h1 h2 _ => exact ⟨_, _, rfl, h1, h2⟩
  | dK h1 _ h2 _ _ => exact ⟨_, _, rfl, h1, h2⟩
  | dT h1 _ h2 _ _ => exact ⟨_, _, rfl, h1, h2⟩
  | frz _ => cases hl
theorem CR.keep {c : Cl} {v : V} (h : CR K H Hf μ c v) (hm : ∃ t, μ' = μ ++ t) (hf : XR Hf Hf') (ha : ∀ a, live c = true → v = .ref a → H' a = H a ∧ Hf' a = none) : CR K H' Hf' μ' c v := by
  cases h with
  | lst h1 h2 h3 =>
    obtain ⟨e1, e2⟩ := ha _ rfl rfl
    exact .lst (by rw [e1]; exact h1) e2 (wrs_mono hm hf h3)
  | dK h1 h0 h2 h3 h4 =>
    obtain ⟨e1, e2⟩ := ha _ rfl rfl
    exact .dK (by rw [e1]; exact h1) h0 e2 h3 (wrs_mono hm hf h4)
  | dT h1 h0 h2 h3 h4 =>
    obtain ⟨e1, e2⟩ := ha _ rfl rfl
    exact .dT (by rw [e1]; exact h1) h0 e2 h3 (wrs_mono hm hf h4)
  | frz h1 => exact .frz (h1.mono hf)
theorem mu_id : ∃ t : List V, μ = μ ++ t := ⟨[], by simp⟩
/-- a new tree's object -/
theorem Sm.tree (s : Sm K bs μ S H Hf) {p : Addr} {o : HO} (hp : H p = none) : Sm K bs μ S (upd H p o) (upd Hf p o) ∧ Xt S μ H Hf S μ (upd H p o) (upd Hf p o) := by
  have hf := s.fresh hp
  refine ⟨⟨s.len, fun k c v h1 h2 => ?_, s.sep, s.sub.both hp, s.bsz, s.frm⟩, ⟨mu_id, XR.new hf, fun k c a h1 h2 h3 => ⟨⟨c, h1, h2⟩, ?_⟩, fun a o' ⟨f1, f2, f3⟩ => ⟨by rw [upd_ne (ne_of_none f1 hp)]; exact f1, by rw [upd_ne (ne_of_none f1 hp)]; exact f2, f3⟩⟩⟩
  · have cr := s.cell k c v h1 h2
    refine cr.keep mu_id (XR.new hf) fun a hl e => ?_
    obtain ⟨a', o', e', h, h'⟩ := cr.at_ hl
    rw [e] at e'; cases e'
    have n : a ≠ p := ne_of_none h hp
    exact ⟨upd_ne n, by rw [upd_ne n]; exact h'⟩
  · have cr := s.cell k c _ h1 h3
    have hl : live c = true := by cases c <;> first | rfl | cases h2
    obtain ⟨a', o', e', h, h'⟩ := cr.at_ hl
    cases e'
    exact upd_ne (ne_of_none h hp)
/-- a new cell -/
theorem Sm.newC (s : Sm K bs μ S H Hf) {p : Addr} {o : HO} {c : Cl} (hp : H p = none) (cr : CR K (upd H p o) Hf (μ ++ [.ref p]) c (.ref p)) (hl : lockedC c = false) :
    Sm K bs (μ ++ [.ref p]) (S ++ [c]) (upd H p o) Hf ∧ Xt S μ H Hf (S ++ [c]) (μ ++ [.ref p]) (upd H p o) Hf := by
  have hf := s.fresh hp
  have old : ∀ {k : Nat} {c' : Cl}, (S ++ [c])[k]? = some c' → (S[k]? = some c' ∧ k < S.length) ∨ (k = S.length ∧ c' = c) := fun {k c'} h => by
    by_cases hk : k < S.length
    · rw [List.getElem?_append_left hk] at h; exact .inl ⟨h, hk⟩
    · rw [List.getElem?_append_right (by omega)] at h
      have : k - S.length = 0 := by
        cases e : k - S.length with
        | zero => rfl
        | succ n => rw [e] at h; simp at h
      rw [this] at h
      simp at h
      exact .inr ⟨by omega, h.symm⟩
  have oldm : ∀ {k : Nat} {v : V}, (μ ++ [V.ref p])[k]? = some v → k < S.length → μ[k]? = some v := fun {k v} h hk => by
    rw [← s.len] at hk
    rwa [List.getElem?_append_left hk] at h
  have newm : ∀ {v : V}, (μ ++ [V.ref p])[S.length]? = some v → v = .ref p := fun {v} h => by
    rw [← s.len, List.getElem?_append_right (Nat.le_refl _)] at h
    simp at h; exact h.symm
  have ad : ∀ {k : Nat} {c' : Cl} {v : V}, S[k]? = some c' → live c' = true → μ[k]? = some v → ∃ a, v = .ref a ∧ a ≠ p ∧ Hf a = none := fun {k c' v} h1 h2 h3 => by
    obtain ⟨a, o', e, h, h'⟩ := (s.cell k c' v h1 h3).at_ h2
    exact ⟨a, e, ne_of_none h hp, h'⟩
  refine ⟨⟨by simp [s.len], fun k c' v h1 h2 => ?_, fun k k' c1 c2 v h1 h2 l1 l2 m1 m2 => ?_, s.sub.mut hf, fun b hb => ?_, fun b hb k c' hk h => ?_⟩, ⟨⟨_, rfl⟩, .refl _, fun k c' a h1 h2 h3 => ⟨⟨c', ?_, h2⟩, ?_⟩, fun a o' ⟨f1, f2, f3⟩ => ⟨by rw [upd_ne (ne_of_none f1 hp)]; exact f1, f2, fun k c' h1 h2 h3 => ?_⟩⟩⟩
  · rcases old h1 with ⟨h1, hk⟩ | ⟨rfl, rfl⟩
    · have m := oldm h2 hk
      have cr' := s.cell k c' v h1 m
      refine cr'.keep ⟨_, rfl⟩ (.refl _) fun a hl' e => ?_
      obtain ⟨a', e', n, h'⟩ := ad h1 hl' m
      rw [e] at e'; cases e'
      exact ⟨upd_ne n, h'⟩
    · rw [newm h2]; exact cr
  · rcases old h1 with ⟨g1, hk⟩ | ⟨e1, f1⟩
    · rcases old h2 with ⟨g2, hk'⟩ | ⟨e2, f2⟩
      · exact s.sep k k' c1 c2 v g1 g2 l1 l2 (oldm m1 hk) (oldm m2 hk')
      · obtain ⟨a, e, n, _⟩ := ad g1 l1 (oldm m1 hk)
        rw [e2] at m2
        rw [newm m2] at e
        cases e; exact absurd rfl n
    · rcases old h2 with ⟨g2, hk'⟩ | ⟨e2, f2⟩
      · obtain ⟨a, e, n, _⟩ := ad g2 l2 (oldm m2 hk')
        rw [e1] at m1
        rw [newm m1] at e
        cases e; exact absurd rfl n
      · rw [e1, e2]
  · have := s.bsz b hb
    rw [List.length_append]; omega
  · rcases old h with ⟨h, _⟩ | ⟨rfl, rfl⟩
    · exact s.frm b hb k c' hk h
    · have := s.bsz b hb
      omega
  · rw [List.getElem?_append_left (List.getElem?_eq_some_iff.mp h1).1]; exact h1
  · have hl' : live c' = true := by cases c' <;> first | rfl | cases h2
    obtain ⟨a', e, n, _⟩ := ad h1 hl' h3
    cases e
    exact upd_ne n
  · rcases old h1 with ⟨g1, hk⟩ | ⟨e1, _⟩
    · exact f3 k c' g1 h2 (oldm h3 hk)
    · rw [e1] at h3
      have e := newm h3
      injection e with e
      exact ne_of_none f1 hp e
theorem set_get {k j : Nat} {c c' : Cl} (h : (S.set k c')[j]? = some c) : (j = k ∧ c = c' ∧ k < S.length) ∨ (j ≠ k ∧ S[j]? = some c) := by
  by_cases e : j = k
  · subst e
    have hl := (List.getElem?_eq_some_iff.mp h).1
    rw [List.length_set] at hl
    rw [List.getElem?_set_self hl] at h
    cases h
    exact .inl ⟨rfl, rfl, hl⟩
  · rw [List.getElem?_set_ne (Ne.symm e)] at h
    exact .inr ⟨e, h⟩
/-- a cell is written: its object is another one -/
theorem Sm.setC (s : Sm K bs μ S H Hf) {k : Nat} {a : Addr} {o : HO} {c c' : Cl} (hc : S[k]? = some c) (hl : live c = true) (hk : lockedC c = false) (hm : μ[k]? = some (.ref a)) (cr : CR K (upd H a o) Hf μ c' (.ref a))
    (hb : ∀ b ∈ bs, k < b → ∀ j ∈ hsC c', j < b) : Sm K bs μ (S.set k c') (upd H a o) Hf ∧ Xt S μ H Hf (S.set k c') μ (upd H a o) Hf := by
  have ha : Hf a = none := by
    obtain ⟨a', o', e, _, h'⟩ := (s.cell k c _ hc hm).at_ hl
    cases e; exact h'
  have ad : ∀ {j : Nat} {c2 : Cl} {v : V}, j ≠ k → S[j]? = some c2 → live c2 = true → μ[j]? = some v → v ≠ .ref a := fun {j c2 v} n h1 h2 h3 e => by
    subst e
    exact n (s.sep j k c2 c _ h1 hc h2 hl h3 hm)
  refine ⟨⟨by simp [s.len], fun j c2 v h1 h2 => ?_, fun j j' c1 c2 v h1 h2 l1 l2 m1 m2 => ?_, s.sub.mut ha, fun b hb => by rw [List.length_set]; exact s.bsz b hb, fun b hb' j c2 hj h => ?_⟩, ⟨mu_id, .refl _, fun j c2 ad' h1 h2 h3 => ?_, fun b o' ⟨f1, f2, f3⟩ => ⟨?_, f2, fun j c2 h1 h2 h3 => ?_⟩⟩⟩
  · rcases set_get h1 with ⟨rfl, rfl, _⟩ | ⟨n, h1⟩
    · rw [hm] at h2; cases h2; exact cr
    · have cr' := s.cell j c2 v h1 h2
      refine cr'.keep mu_id (.refl _) fun a' hl' e => ?_
      obtain ⟨a2, o2, e2, _, h'⟩ := cr'.at_ hl'
      rw [e] at e2; cases e2
      have n' : a' ≠ a := fun z => ad n h1 hl' h2 (by rw [e, z])
      exact ⟨upd_ne n', h'⟩
  · have key : ∀ {i : Nat} {ci : Cl}, (S.set k c')[i]? = some ci → live ci = true → ∃ ci', S[i]? = some ci' ∧ live ci' = true := fun {i ci} h l => by
      rcases set_get h with ⟨rfl, rfl, _⟩ | ⟨_, h⟩
      · exact ⟨c, hc, hl⟩
      · exact ⟨ci, h, l⟩
    obtain ⟨d1, q1, r1⟩ := key h1 l1
    obtain ⟨d2, q2, r2⟩ := key h2 l2
    exact s.sep j j' d1 d2 v q1 q2 r1 r2 m1 m2
  · rcases set_get h with ⟨rfl, rfl, _⟩ | ⟨_, h⟩
    · exact hb b hb' hj
    · exact s.frm b hb' j c2 hj h
  · have n : j ≠ k := fun e => by
      subst e
      rw [hc] at h1; cases h1
      rw [hk] at h2; cases h2
    have hl' : live c2 = true := by cases c2 <;> first | rfl | cases h2
    refine ⟨⟨c2, by rw [List.getElem?_set_ne (Ne.symm n)]; exact h1, h2⟩, upd_ne fun z => ?_⟩
    exact ad n h1 hl' h3 (by rw [z])
  · have n : b ≠ a := fun z => f3 k c hc hl (by rw [z]; exact hm)
    rw [upd_ne n]; exact f1
  · rcases set_get h1 with ⟨rfl, rfl, _⟩ | ⟨_, h1⟩
    · exact f3 j c hc hl h3
    · exact f3 j c2 h1 h2 h3
/-- a cell changes no more: what it is becomes a tree -/
theorem Sm.frzC (s : Sm K bs μ S H Hf) {k : Nat} {a : Addr} {o : HO} {c : Cl} {d : Dt} (hc : S[k]? = some c) (hl : live c = true) (hk : lockedC c = false) (hm : μ[k]? = some (.ref a)) (ho : H a = some o)
    (r : Rp K (upd Hf a o) (.ref a) d) : Sm K bs μ (S.set k (.frz d)) H (upd Hf a o) ∧ Xt S μ H Hf (S.set k (.frz d)) μ H (upd Hf a o) := by
  have ha : Hf a = none := by
    obtain ⟨a', o', e, _, h'⟩ := (s.cell k c _ hc hm).at_ hl
    cases e; exact h'
  have ad : ∀ {j : Nat} {c2 : Cl} {v : V}, j ≠ k → S[j]? = some c2 → live c2 = true → μ[j]? = some v → v ≠ .ref a := fun {j c2 v} n h1 h2 h3 e => by
    subst e
    exact n (s.sep j k c2 c _ h1 hc h2 hl h3 hm)
  have sub : XR (upd Hf a o) H := by
    refine ⟨fun b u q => ?_, fun b xs q => ?_⟩
    · by_cases e : b = a
      · subst e
        rcases q with q | ⟨z, q⟩
        · rw [upd_same] at q; cases q; exact .inl ho
        · rw [upd_same] at q; cases q; exact .inr ⟨z, ho⟩
      · refine s.sub.rd b u ?_
        rcases q with q | ⟨z, q⟩
        · rw [upd_ne e] at q; exact .inl q
        · rw [upd_ne e] at q; exact .inr ⟨z, q⟩
    · by_cases e : b = a
      · subst e; rw [upd_same] at q; cases q; exact ho
      · rw [upd_ne e] at q; exact s.sub.tp b xs q
  refine ⟨⟨by simp [s.len], fun j c2 v h1 h2 => ?_, fun j j' c1 c2 v h1 h2 l1 l2 m1 m2 => ?_, sub, fun b hb => by rw [List.length_set]; exact s.bsz b hb, fun b hb' j c2 hj h => ?_⟩, ⟨mu_id, XR.new ha, fun j c2 ad' h1 h2 h3 => ?_, fun b o' ⟨f1, f2, f3⟩ => ⟨f1, ?_, fun j c2 h1 h2 h3 => ?_⟩⟩⟩
  · rcases set_get h1 with ⟨rfl, rfl, _⟩ | ⟨n, h1⟩
    · rw [hm] at h2; cases h2; exact .frz r
    · have cr' := s.cell j c2 v h1 h2
      refine cr'.keep mu_id (XR.new ha) fun a' hl' e => ⟨rfl, ?_⟩
      obtain ⟨a2, o2, e2, _, h'⟩ := cr'.at_ hl'
      rw [e] at e2; cases e2
      have n' : a' ≠ a := fun z => ad n h1 hl' h2 (by rw [e, z])
      rw [upd_ne n']; exact h'
  · have key : ∀ {i : Nat} {ci : Cl}, (S.set k (.frz d))[i]? = some ci → live ci = true → S[i]? = some ci := fun {i ci} h l => by
      rcases set_get h with ⟨rfl, rfl, _⟩ | ⟨_, h⟩
      · cases l
      · exact h
    exact s.sep j j' c1 c2 v (key h1 l1) (key h2 l2) l1 l2 m1 m2
  · rcases set_get h with ⟨rfl, rfl, _⟩ | ⟨_, h⟩
    · intro i hi; exact absurd hi (by simp [hsC])
    · exact s.frm b hb' j c2 hj h
  · have n : j ≠ k := fun e => by
      subst e
      rw [hc] at h1; cases h1
      rw [hk] at h2; cases h2
    exact ⟨⟨c2, by rw [List.getElem?_set_ne (Ne.symm n)]; exact h1, h2⟩, rfl⟩
  · have n : b ≠ a := fun z => f3 k c hc hl (by rw [z]; exact hm)
    rw [upd_ne n]; exact f2
  · rcases set_get h1 with ⟨rfl, rfl, _⟩ | ⟨_, h1⟩
    · cases h2
    · exact f3 j c2 h1 h2 h3
/-- an object beside the store changes, or comes -/
theorem Sm.side (s : Sm K bs μ S H Hf) {a : Addr} {o : HO} (h1 : Hf a = none) (h2 : ∀ (k : Nat) (c : Cl), S[k]? = some c → live c = true → μ[k]? ≠ some (.ref a)) : Sm K bs μ S (upd H a o) Hf := by
  refine ⟨s.len, fun k c v e1 e2 => ?_, s.sep, s.sub.mut h1, s.bsz, s.frm⟩
  refine (s.cell k c v e1 e2).keep mu_id (.refl _) fun b hl e => ?_
  obtain ⟨b', o', e', h, h'⟩ := (s.cell k c v e1 e2).at_ hl
  rw [e] at e'; cases e'
  have n : b ≠ a := fun z => h2 k c e1 hl (by rw [e2, e, z])
  exact ⟨upd_ne n, h'⟩
theorem Sm.fresh' (s : Sm K bs μ S H Hf) {a : Addr} (h : H a = none) : ∀ (k : Nat) (c : Cl), S[k]? = some c → live c = true → μ[k]? ≠ some (.ref a) := fun k c e1 hl e2 => by
  obtain ⟨b', o', e', h1, h'⟩ := (s.cell k c _ e1 e2).at_ hl
  cases e'
  rw [h] at h1; cases h1
/-- from a state without it -/
theorem Xt.side (x : Xt S μ H Hf S' μ' H' Hf') {a : Addr} {o : HO} (s : Sm K bs μ S H Hf) (h : H a = none) : Xt S μ H Hf S' μ' (upd H' a o) Hf' := by
  refine ⟨x.mu, x.fr, fun k c b e1 e2 e3 => ?_, fun b o' f => ?_⟩
  · obtain ⟨q1, q2⟩ := x.lk k c b e1 e2 e3
    refine ⟨q1, ?_⟩
    have hl : live c = true := by cases c <;> first | rfl | cases e2
    have n : b ≠ a := fun z => s.fresh' h k c e1 hl (by rw [e3, z])
    rw [upd_ne n]; exact q2
  · have n : b ≠ a := ne_of_none f.1 h
    obtain ⟨g1, g2, g3⟩ := x.un b o' f
    exact ⟨by rw [upd_ne n]; exact g1, g2, g3⟩
theorem Free.upd {a : Addr} {o o' : HO} (f : Free S μ H Hf a o) : Free S μ (upd H a o') Hf a o' := ⟨upd_same, f.2.1, f.2.2⟩
/-- fewer cells -/
theorem Sm.cut (s : Sm K bs μ S H Hf) (n : Nat) (hb : ∀ b ∈ bs, b ≤ n) (hn : n ≤ S.length) (hin : ∀ k c, k < n → S[k]? = some c → ∀ j ∈ hsC c, j < n) : Sm K bs (μ.take n) (S.take n) H Hf := by
  have gs : ∀ {k : Nat} {c : Cl}, (S.take n)[k]? = some c → S[k]? = some c ∧ k < n := fun {k c} h => by
    have hk := (List.getElem?_eq_some_iff.mp h).1
    rw [List.length_take] at hk
    exact ⟨by rwa [List.getElem?_take_of_lt (by omega)] at h, by omega⟩
  have gm : ∀ {k : Nat} {v : V}, (μ.take n)[k]? = some v → μ[k]? = some v ∧ k < n := fun {k v} h => by
    have hk := (List.getElem?_eq_some_iff.mp h).1
    rw [List.length_take] at hk
    exact ⟨by rwa [List.getElem?_take_of_lt (by omega)] at h, by omega⟩
  have wr : ∀ {w : Wd} {v : V}, (∀ j ∈ hsW w, j < n) → WR K Hf μ noXr w v → WR K Hf (μ.take n) noXr w v := fun {w v} hj h => by
    cases w with
    | h k =>
      have e : μ[k]? = some v := h
      show (μ.take n)[k]? = some v
      rw [List.getElem?_take_of_lt (hj k (by simp [hsW]))]; exact e
    | _ => exact h
  have wrs : ∀ {ws : List Wd} {vs : List V}, (∀ j ∈ ws.flatMap hsW, j < n) → Paired (WR K Hf μ noXr) ws vs → Paired (WR K Hf (μ.take n) noXr) ws vs := fun {ws vs} hj h => by
    induction h with
    | nil => exact .nil
    | cons h1 h2 ih => exact .cons (wr (fun j q => hj j (by simp [q])) h1) (ih fun j q => hj j (by simp only [List.flatMap_cons, List.mem_append]; exact .inr q))
  refine ⟨by simp [s.len], fun k c v h1 h2 => ?_, fun k k' c c' v h1 h2 l1 l2 m1 m2 => s.sep k k' c c' v (gs h1).1 (gs h2).1 l1 l2 (gm m1).1 (gm m2).1, s.sub, fun b q => by have := hb b q; rw [List.length_take]; omega, fun b hb' k c hk h => s.frm b hb' k c hk (gs h).1⟩
  obtain ⟨g1, hk⟩ := gs h1
  have cr := s.cell k c v g1 (gm h2).1
  have hj := hin k c hk g1
  cases cr with
  | lst q1 q2 q3 => exact .lst q1 q2 (wrs hj q3)
  | dK q1 q0 q2 q3 q4 => exact .dK q1 q0 q2 q3 (wrs hj q4)
  | dT q1 q0 q2 q3 q4 => exact .dT q1 q0 q2 q3 (wrs hj q4)
  | frz r => exact .frz r
end
end Gw

namespace Gw
open PySem PySem.Spec PyProof.Rows L2

theorem impPE {X : Cx} {e : Expr} {t t' : TE} (h : PE X e t) (i : ∀ σ H Q, t' σ H Q → t σ H Q) : PE X e t' := ⟨fun pins s σ H Q I q => h.run pins s σ H Q I (i σ H Q q)⟩
theorem impPT {X : Cx} {e : Expr} {t t' : TT} (h : PT X e t) (i : ∀ σ H Q, t' σ H Q → t σ H Q) : PT X e t' := ⟨fun pins s σ H Q I q => h.run pins s σ H Q I (i σ H Q q)⟩
theorem impPA {X : Cx} {e : List Expr} {t t' : TA} (h : PA X e t) (i : ∀ σ H Q, t' σ H Q → t σ H Q) : PA X e t' := ⟨fun pos pins s σ H Q I q => h.run pos pins s σ H Q I (i σ H Q q)⟩
theorem impPS {X : Cx} {e : Stmt} {t t' : TS} (h : PS X e t) (i : ∀ D σ H, t' D σ H → t D σ H) : PS X e t' := ⟨fun pins s σ H D I q => h.run pins s σ H D I (i D σ H q)⟩
theorem impPSs {X : Cx} {e : List Stmt} {t t' : TS} (h : PSs X e t) (i : ∀ D σ H, t' D σ H → t D σ H) : PSs X e t' := ⟨fun pins s σ H D I q => h.run pins s σ H D I (i D σ H q)⟩
theorem neverPE {X : Cx} {e : Expr} {t : TE} (h : ∀ σ H Q, ¬ t σ H Q) : PE X e t := ⟨fun _ _ σ H Q _ q => absurd q (h σ H Q)⟩
theorem neverPT {X : Cx} {e : Expr} {t : TT} (h : ∀ σ H Q, ¬ t σ H Q) : PT X e t := ⟨fun _ _ σ H Q _ q => absurd q (h σ H Q)⟩
theorem neverPA {X : Cx} {e : List Expr} {t : TA} (h : ∀ σ H Q, ¬ t σ H Q) : PA X e t := ⟨fun _ _ _ σ H Q _ q => absurd q (h σ H Q)⟩

/-- an own error as it flies: its class, its dict's fields -/
def XO (K : PySem.W.Frag) (ca : Str → Addr) (Hf : Hp) (e : Exn) (cls : Value) (d : Option Addr) : Prop :=
  cls = .ref (ca e.cls) ∧ ∃ dd fs, d = some dd ∧ Rd Hf dd (.xd fs) ∧ fs.map (·.1) = e.fs.map (·.1) ∧ RpA K Hf (fs.map (·.2)) (e.fs.map (·.2))
/-- the slots -/
structure En (K : PySem.W.Frag) (Hf : Hp) (μ : List V) (xr : Xr) (ρ : Env) (σ : L2.St) : Prop where
  len : ρ.length = σ.length
  h0 : XR xr.h0 Hf
  at_ : ∀ (i : Nat) (w : Wd), ρ[i]? = some (some w) → ∃ v, σ[i]? = some (some v) ∧ WR K Hf μ xr w v
theorem En.mono {K : PySem.W.Frag} {Hf Hf' : Hp} {μ μ' : List V} {xr : Xr} {ρ : Env} {σ : L2.St} (e : En K Hf μ xr ρ σ) (hm : ∃ t, μ' = μ ++ t) (hf : XR Hf Hf') : En K Hf' μ' xr ρ σ :=
  ⟨e.len, e.h0.trans hf, fun i w h => let ⟨v, h1, h2⟩ := e.at_ i w h; ⟨v, h1, h2.mono hm hf⟩⟩
/-- what is fixed around an expression -/
structure Pa where
  K : PySem.W.Frag
  ca : Str → Addr
  bs : List Nat
  xr : Xr
  W : WX
section
variable (A : Pa)
/-- what is wanted behind an expression -/
def Rs {α β : Type} (R : Hp → List V → α → β → Prop) (σ : L2.St) (S : Store) (μ : List V) (H Hf : Hp) (r : Res α) (Q : β → Hp → Prop) : Prop := match r with
  | .ok w S' => ∀ v μ' H' Hf', Sm A.K A.bs μ' S' H' Hf' → Xt S μ H Hf S' μ' H' Hf' → R Hf' μ' w v → Q v H'
  | .ex e S' => ∀ cls d μ' H' Hf', Sm A.K A.bs μ' S' H' Hf' → Xt S μ H Hf S' μ' H' Hf' → XO A.K A.ca Hf' e cls d → A.W cls d σ H'
  | .no => False
abbrev RW : Hp → List V → Wd → V → Prop := fun Hf μ w v => WR A.K Hf μ A.xr w v
def tEv (ρ : Env) (S : Store) (r : Res Wd) : TE := fun σ H Q => ∃ μ Hf, Sm A.K A.bs μ S H Hf ∧ En A.K Hf μ A.xr ρ σ ∧ Rs A (RW A) σ S μ H Hf r Q
end
section
variable {A : Pa} {α β : Type} {R : Hp → List V → α → β → Prop} {σ : L2.St} {S S1 : Store} {μ μ1 : List V} {H Hf H1 Hf1 : Hp} {r : Res α} {Q : β → Hp → Prop} {ρ : Env}
theorem En.xt {S' : Store} {μ' : List V} {H' Hf' : Hp} {xr : Xr} {K : PySem.W.Frag} (e : En K Hf μ xr ρ σ) (x : Xt S μ H Hf S' μ' H' Hf') : En K Hf' μ' xr ρ σ := e.mono x.mu x.fr
theorem Rs.step (h : Rs A R σ S μ H Hf r Q) (x : Xt S μ H Hf S1 μ1 H1 Hf1) : Rs A R σ S1 μ1 H1 Hf1 r Q := by
  cases r with
  | ok w S' => exact fun v μ' H' Hf' s y w => h v μ' H' Hf' s (x.trans y) w
  | ex e S' => exact fun cls d μ' H' Hf' s y w => h cls d μ' H' Hf' s (x.trans y) w
  | no => exact h
/-- it ends here -/
theorem Rs.done {w : α} {v : β} (h : Rs A R σ S μ H Hf (.ok w S) Q) (s : Sm A.K A.bs μ S H Hf) (r : R Hf μ w v) : Q v H := h v μ H Hf s .refl r
theorem Rs.to {w : α} {v : β} (h : Rs A R σ S μ H Hf (.ok w S1) Q) (s : Sm A.K A.bs μ1 S1 H1 Hf1) (x : Xt S μ H Hf S1 μ1 H1 Hf1) (r : R Hf1 μ1 w v) : Q v H1 := h v μ1 H1 Hf1 s x r
end

section
variable {A : Pa} {X : Cx} {ρ : Env} {S : Store} {e a b : Expr}
/-- one part, then a step -/
theorem un_sd {f : Wd → Store → Res Wd} {g : Res Wd} {T : TE → TE} (ha : PE X a (tEv A ρ S g)) (hn : ∀ ta, PE X a ta → PE X e (T ta))
    (hT : ∀ (σ : L2.St) (H : Hp) (Q : VK) (μ : List V) (Hf : Hp), Sm A.K A.bs μ S H Hf → En A.K Hf μ A.xr ρ σ → (∀ x S1, g = .ok x S1 → Rs A (RW A) σ S μ H Hf (f x S1) Q) → (∀ x S1, g = .ex x S1 → Rs A (RW A) σ S μ H Hf (.ex x S1) Q) → (g = .no → False) → T (tEv A ρ S g) σ H Q) :
    PE X e (tEv A ρ S (g.bd f)) := by
  refine impPE (hn _ ha) fun σ H Q ⟨μ, Hf, sm, en, h⟩ => hT σ H Q μ Hf sm en (fun x S1 q => ?_) (fun x S1 q => ?_) fun q => ?_
  · rw [q] at h; exact h
  · rw [q] at h; exact h
  · rw [q] at h; exact h
/-- a part's value v, then r -/
theorem ev_then {g : Res Wd} {f : Wd → Store → Res Wd} {σ : L2.St} {H : Hp} {Q : VK} {r : V → Hp → Prop} {μ : List V} {Hf : Hp} (sm : Sm A.K A.bs μ S H Hf) (en : En A.K Hf μ A.xr ρ σ) (h : Rs A (RW A) σ S μ H Hf (g.bd f) Q)
    (hr : ∀ x S1 v μ1 H1 Hf1, Sm A.K A.bs μ1 S1 H1 Hf1 → En A.K Hf1 μ1 A.xr ρ σ → WR A.K Hf1 μ1 A.xr x v → Xt S μ H Hf S1 μ1 H1 Hf1 → Rs A (RW A) σ S1 μ1 H1 Hf1 (f x S1) Q → r v H1) : tEv A ρ S g σ H r := by
  refine ⟨μ, Hf, sm, en, ?_⟩
  cases g with
  | ok x S1 => exact fun v μ1 H1 Hf1 s1 x1 w1 => hr x S1 v μ1 H1 Hf1 s1 (en.xt x1) w1 x1 (Rs.step h x1)
  | ex x S1 => exact h
  | no => exact h
theorem un_op {f : Wd → Store → Res Wd} {g : Res Wd} {r : V → Hp → VK → Prop} (ha : PE X a (tEv A ρ S g)) (hn : ∀ ta, PE X a ta → PE X e (fun σ H Q => ta σ H fun x H1 => r x H1 Q))
    (hr : ∀ x S1 v σ H μ Hf Q, Sm A.K A.bs μ S1 H Hf → WR A.K Hf μ A.xr x v → Rs A (RW A) σ S1 μ H Hf (f x S1) Q → r v H Q) : PE X e (tEv A ρ S (g.bd f)) :=
  impPE (hn _ ha) fun σ H Q ⟨μ, Hf, sm, en, h⟩ => ev_then sm en h fun x S1 v μ1 H1 Hf1 s1 _ w1 _ h1 => hr x S1 v σ H1 μ1 Hf1 Q s1 w1 h1
theorem bin_op {f : Wd → Wd → Store → Res Wd} {g : Res Wd} {gb : Store → Res Wd} {r : R2} (ha : PE X a (tEv A ρ S g)) (hb : ∀ S1, PE X b (tEv A ρ S1 (gb S1))) (hn : ∀ ta tb, PE X a ta → PE X b tb → PE X e (tOp r ta tb))
    (hr : ∀ x y S1 v u σ H μ Hf Q, Sm A.K A.bs μ S1 H Hf → WR A.K Hf μ A.xr x v → WR A.K Hf μ A.xr y u → Rs A (RW A) σ S1 μ H Hf (f x y S1) Q → r v u H Q) : PE X e (tEv A ρ S (g.bd fun x S1 => (gb S1).bd fun y S2 => f x y S2)) := by
  cases g with
  | no => exact neverPE fun σ H Q ⟨_, _, _, _, h⟩ => h
  | ex x S1 => exact impPE (hn _ _ ha (hb S)) fun σ H Q ⟨μ, Hf, sm, en, h⟩ => ⟨μ, Hf, sm, en, h⟩
  | ok x S1 =>
    refine impPE (hn _ _ ha (hb S1)) fun σ H Q ⟨μ, Hf, sm, en, h⟩ => ⟨μ, Hf, sm, en, fun v μ1 H1 Hf1 s1 x1 w1 => ?_⟩
    have h' : Rs A (RW A) σ S1 μ1 H1 Hf1 ((gb S1).bd fun y S2 => f x y S2) Q := Rs.step h x1
    exact ev_then s1 (en.xt x1) h' fun y S2 u μ2 H2 Hf2 s2 _ w2 x2 h2 => hr x y S2 v u σ H2 μ2 Hf2 Q s2 (w1.xt x2) w2 h2

/-! ### names and constants -/
theorem sd_var {i : Nat} {x : Str} {p : Pos} (hN : X.N[i]? = some x) (hv : Vis X.env.scope x) (h1 : (x == ("__debug__" : Str)) = false) (h2 : (x == ("__classdict__" : Str)) = false) :
    PE X (.Name x p) (tEv A ρ S (match ρ[i]? with | some (some w) => .ok w S | _ => .no)) := by
  refine impPE (pe_var (i := i) hN hv h1 h2) fun σ H Q ⟨μ, Hf, sm, en, h⟩ => ?_
  cases e : ρ[i]? with
  | none => rw [e] at h; exact h.elim
  | some o =>
    rw [e] at h
    cases o with
    | none => exact h.elim
    | some w =>
      obtain ⟨v, e1, e2⟩ := en.at_ i w e
      exact ⟨v, e1, Rs.done h sm e2⟩
theorem sd_lit {c : Lit} {j : Nat} {p : Pos} : PE X (.Constant c.c j p) (tEv A ρ S (.ok (.t c.d) S)) := by
  cases c with
  | non => exact impPE pe_non fun σ H Q ⟨μ, Hf, sm, en, h⟩ => Rs.done h sm .non
  | bl b => exact impPE pe_bl fun σ H Q ⟨μ, Hf, sm, en, h⟩ => Rs.done h sm (.bl b)
  | int i => exact impPE pe_int fun σ H Q ⟨μ, Hf, sm, en, h⟩ => Rs.done h sm (.int i)
  | str x => exact impPE pe_str fun σ H Q ⟨μ, Hf, sm, en, h⟩ => Rs.done h sm (.str x)
end
end Gw

namespace Gw
open PySem PySem.Spec PyProof.Rows L2
section
variable {K : PySem.W.Frag} {bs : List Nat} {μ μ' : List V} {S S' S1 : Store} {H Hf H' Hf' : Hp} {xr : Xr}

theorem paired_map {α β γ : Type} {R : γ → β → Prop} {f : α → γ} : ∀ {xs : List α} {ys : List β}, Paired (fun a b => R (f a) b) xs ys → Paired R (xs.map f) ys
  | _, _, .nil => .nil
  | _, _, .cons h t => .cons h (paired_map t)
theorem paired_swap {α β : Type} {R : α → β → Prop} : ∀ {xs : List α} {ys : List β}, Paired R xs ys → Paired (fun b a => R a b) ys xs
  | _, _, .nil => .nil
  | _, _, .cons h t => .cons h (paired_swap t)
theorem paired_app {α β : Type} {R : α → β → Prop} : ∀ {xs : List α} {ys : List β} {xs' : List α} {ys' : List β}, Paired R xs ys → Paired R xs' ys' → Paired R (xs ++ xs') (ys ++ ys')
  | _, _, _, _, .nil, h => h
  | _, _, _, _, .cons h t, h' => .cons h (paired_app t h')
theorem paired_take {α β : Type} {R : α → β → Prop} : ∀ {xs : List α} {ys : List β} (n : Nat), Paired R xs ys → Paired R (xs.take n) (ys.take n)
  | _, _, 0, _ => .nil
  | _, _, _ + 1, .nil => .nil
  | _, _, n + 1, .cons h t => .cons h (paired_take n t)
theorem paired_drop {α β : Type} {R : α → β → Prop} : ∀ {xs : List α} {ys : List β} (n : Nat), Paired R xs ys → Paired R (xs.drop n) (ys.drop n)
  | _, _, 0, h => h
  | _, _, _ + 1, .nil => .nil
  | _, _, n + 1, .cons _ t => paired_drop n t
theorem paired_rev {α β : Type} {R : α → β → Prop} : ∀ {xs : List α} {ys : List β}, Paired R xs ys → Paired R xs.reverse ys.reverse
  | _, _, .nil => .nil
  | _, _, .cons h t => by
    rw [List.reverse_cons, List.reverse_cons]
    exact paired_app (paired_rev t) (.cons h .nil)
theorem paired_get {α β : Type} {R : α → β → Prop} : ∀ {xs : List α} {ys : List β} {i : Nat} {x : α}, Paired R xs ys → xs[i]? = some x → ∃ y, ys[i]? = some y ∧ R x y
  | _, _, _, _, .nil, h => by simp at h
  | _, _, 0, x, .cons h t, e => by simp at e; subst e; exact ⟨_, rfl, h⟩
  | _, _, i + 1, x, .cons h t, e => by
    simp only [List.getElem?_cons_succ] at e
    obtain ⟨y, h1, h2⟩ := paired_get t e
    exact ⟨y, by simpa using h1, h2⟩
theorem paired_set {α β : Type} {R : α → β → Prop} {x : α} {y : β} (r : R x y) : ∀ {xs : List α} {ys : List β} (i : Nat), Paired R xs ys → Paired R (xs.set i x) (ys.set i y)
  | _, _, _, .nil => .nil
  | _, _, 0, .cons _ t => .cons r t
  | _, _, i + 1, .cons h t => .cons h (paired_set r i t)
theorem paired_dropLast {α β : Type} {R : α → β → Prop} : ∀ {xs : List α} {ys : List β}, Paired R xs ys → Paired R xs.dropLast ys.dropLast
  | _, _, .nil => .nil
  | _, _, .cons h .nil => .nil
  | _, _, .cons h (.cons h2 t) => .cons h (paired_dropLast (.cons h2 t))
theorem paired_at {α β : Type} {R : α → β → Prop} {xs : List α} {ys : List β} {i : Int} {x : α} (p : Paired R xs ys) (h : atI xs i = some x) : ∃ y, atI ys i = some y ∧ R x y := by
  unfold atI at h ⊢
  rw [← p.length]
  cases e : ixN xs.length i with
  | none => rw [e] at h; cases h
  | some j =>
    rw [e] at h
    exact paired_get p h
theorem paired_mapO {α β γ : Type} {R : α → β → Prop} {R' : γ → β → Prop} {f : α → Option γ} (hf : ∀ a b c, R a b → f a = some c → R' c b) : ∀ {xs : List α} {ys : List β} {zs : List γ}, Paired R xs ys → mapO f xs = some zs → Paired R' zs ys
  | _, _, zs, .nil, h => by
    have : zs = [] := by simpa [mapO] using h.symm
    subst this; exact .nil
  | a :: r, _, zs, .cons h t, e => by
    unfold mapO at e
    cases e1 : f a with
    | none => rw [e1] at e; simp at e
    | some c =>
      cases e2 : mapO f r with
      | none => rw [e1, e2] at e; simp at e
      | some cs =>
        rw [e1, e2] at e
        simp at e
        subst e
        exact .cons (hf _ _ _ h e1) (paired_mapO hf t e2)

/-! ### values seen from without -/
theorem wrt_of {ds : List Dt} {vs : List V} (h : RpA K Hf vs ds) : Paired (WR K Hf μ noXr) (ds.map .t) vs := paired_map (paired_swap (h.paired))
theorem Sm.sqL (s : Sm K bs μ S H Hf) {a : Addr} {vs : List V} (h : SqL K Hf a vs) : SqL K H a vs := sqL_mono s.sub h
theorem Sm.rp (s : Sm K bs μ S H Hf) {v : V} {d : Dt} (h : Rp K Hf v d) : Rp K H v d := h.mono s.sub
theorem vwT_seq {d : Dt} {ws : List Wd} {tup : Bool} {v : V} (s : Sm K bs μ S H Hf) (r : Rp K Hf v d) (h : vwT d = .seq tup ws) :
    ∃ a vs, v = .ref a ∧ (if tup = true then SqT K H a vs else SqL K H a vs) ∧ Paired (WR K Hf μ noXr) ws vs := by
  cases r with
  | lst h1 h2 =>
    obtain ⟨rfl, rfl⟩ : false = tup ∧ _ = ws := by simpa [vwT] using h
    exact ⟨_, _, rfl, s.sqL h1, wrt_of h2⟩
  | tup h1 h2 =>
    obtain ⟨rfl, rfl⟩ : true = tup ∧ _ = ws := by simpa [vwT] using h
    exact ⟨_, _, rfl, .inl (.inl (s.sub.tp _ _ h1)), wrt_of h2⟩
  | _ => simp [vwT] at h
theorem Sm.seq (s : Sm K bs μ S H Hf) {w : Wd} {v : V} {ws : List Wd} {tup : Bool} (r : WR K Hf μ xr w v) (h : vw S w = .seq tup ws) :
    ∃ a vs, v = .ref a ∧ (if tup = true then SqT K H a vs else SqL K H a vs) ∧ Paired (WR K Hf μ noXr) ws vs := by
  cases w with
  | t d => exact vwT_seq s r h
  | x e => simp [vw] at h
  | c ds =>
    obtain ⟨a, vs, e, _, q, rs⟩ := r
    obtain ⟨rfl, rfl⟩ : true = tup ∧ _ = ws := by simpa [vw] using h
    refine ⟨a, vs, e, ?_, wrt_of rs⟩
    rcases q with q | q
    · exact .inl (s.sub.rd _ _ q)
    · exact .inr q
  | h k =>
    unfold vw at h
    cases e : S[k]? with
    | none => simp [e] at h
    | some c =>
      have cr := s.cell k c v e r
      cases c with
      | lst lk zs =>
        obtain ⟨rfl, rfl⟩ : false = tup ∧ _ = ws := by simpa [e] using h
        cases cr with
        | lst h1 h2 h3 => exact ⟨_, _, rfl, SqL.of h1, h3⟩
      | dic tk lk kvs => simp [e] at h
      | ins c fs => simp [e] at h
      | frz d =>
        cases cr with
        | frz r' =>
          have h' : vwT d = .seq tup ws := by simpa [e] using h
          exact vwT_seq s r' h'
/-- a dict that is read -/
def DicR (K : PySem.W.Frag) (H Hf : Hp) (μ : List V) (tk : Bool) (kws : List (List Key × Wd)) (a : Addr) : Prop :=
  (tk = false ∧ ∃ kvs : List (Key × V), Rd H a (.dK kvs) ∧ kvs.map (fun p => [p.1]) = kws.map (·.1) ∧ Paired (WR K Hf μ noXr) (kws.map (·.2)) (kvs.map (·.2))) ∨
  (tk = true ∧ ∃ kvs : List (List Key × V), Rd H a (.dT kvs) ∧ kvs.map (·.1) = kws.map (·.1) ∧ Paired (WR K Hf μ noXr) (kws.map (·.2)) (kvs.map (·.2)))
theorem vwT_dic {d : Dt} {kws : List (List Key × Wd)} {tk : Bool} {v : V} (s : Sm K bs μ S H Hf) (r : Rp K Hf v d) (h : vwT d = .dic tk kws) : ∃ a, v = .ref a ∧ DicR K H Hf μ tk kws a := by
  cases r with
  | dK h1 h2 h3 h4 =>
    rename_i a kvs ks ds es
    obtain ⟨rfl, rfl⟩ : false = tk ∧ _ = kws := by simpa [vwT] using h
    refine ⟨_, rfl, .inl ⟨rfl, kvs, s.sub.rd _ _ h1, ?_, ?_⟩⟩
    · rw [h2, List.map_map]; rfl
    · subst h4
      have := wrt_of (μ := μ) h3
      rw [List.map_map] at this ⊢
      exact this
  | dT h1 h2 h3 h4 =>
    rename_i a kvs ds es
    obtain ⟨rfl, rfl⟩ : true = tk ∧ _ = kws := by simpa [vwT] using h
    refine ⟨_, rfl, .inr ⟨rfl, kvs, s.sub.rd _ _ h1, ?_, ?_⟩⟩
    · rw [h2, List.map_map]; rfl
    · subst h4
      have := wrt_of (μ := μ) h3
      rw [List.map_map] at this ⊢
      exact this
  | _ => simp [vwT] at h
theorem Sm.dic (s : Sm K bs μ S H Hf) {w : Wd} {v : V} {kws : List (List Key × Wd)} {tk : Bool} (r : WR K Hf μ xr w v) (h : vw S w = .dic tk kws) : ∃ a, v = .ref a ∧ DicR K H Hf μ tk kws a := by
  cases w with
  | t d => exact vwT_dic s r h
  | x e => simp [vw] at h
  | c ds => simp [vw] at h
  | h k =>
    unfold vw at h
    cases e : S[k]? with
    | none => simp [e] at h
    | some c =>
      have cr := s.cell k c v e r
      cases c with
      | lst lk zs => simp [e] at h
      | dic tk' lk kvs =>
        obtain ⟨rfl, rfl⟩ : tk' = tk ∧ kvs = kws := by simpa [e] using h
        cases cr with
        | dK h1 h0 h2 h3 h4 =>
          rename_i a kv o
          refine ⟨_, rfl, .inl ⟨rfl, kv, ?_, h3, h4⟩⟩
          cases lk with
          | true => obtain ⟨ob, e⟩ := (if_pos rfl).mp h0; subst e; exact .inr ⟨ob, h1⟩
          | false => have e := (if_neg Bool.false_ne_true).mp h0; subst e; exact .inl h1
        | dT h1 h0 h2 h3 h4 =>
          rename_i a kv o
          refine ⟨_, rfl, .inr ⟨rfl, kv, ?_, h3, h4⟩⟩
          cases lk with
          | true => obtain ⟨ob, e⟩ := (if_pos rfl).mp h0; subst e; exact .inr ⟨ob, h1⟩
          | false => have e := (if_neg Bool.false_ne_true).mp h0; subst e; exact .inl h1
      | ins c fs => simp [e] at h
      | frz d =>
        cases cr with
        | frz r' =>
          have h' : vwT d = .dic tk kws := by simpa [e] using h
          exact vwT_dic s r' h'

/-! ### trees and frozen cells -/
theorem Sm.rdF (s : Sm K bs μ S H Hf) {w : Wd} {v : V} {d : Dt} (r : WR K Hf μ xr w v) (h : rdF S w = some d) : Rp K Hf v d := by
  cases w with
  | t d' =>
    have e : d' = d := Option.some.inj h
    subst e; exact r
  | x e => cases h
  | c ds => cases h
  | h k =>
    unfold Gw.rdF at h
    cases e : S[k]? with
    | none => simp [e] at h
    | some c =>
      cases c with
      | frz d' =>
        have e' : d' = d := by simpa [e] using h
        subst e'
        cases s.cell k _ v e r with
        | frz r' => exact r'
      | _ => simp [e] at h
theorem Sm.rdFs (s : Sm K bs μ S H Hf) {ws : List Wd} {vs : List V} {ds : List Dt} (r : Paired (WR K Hf μ xr) ws vs) (h : mapO (Gw.rdF S) ws = some ds) : RpA K Hf vs ds :=
  RpA.of (paired_swap (paired_mapO (f := Gw.rdF S) (R' := fun d v => Rp K Hf v d) (fun _ _ _ q e => s.rdF q e) r h))
theorem fzAll_ok {f : Store → Wd → Option Store} (hf : ∀ S S' Hf w, Sm K bs μ S H Hf → f S w = some S' → (∃ v, WR K Hf μ noXr w v) → ∃ Hf', Sm K bs μ S' H Hf' ∧ Xt S μ H Hf S' μ H Hf') :
    ∀ (ws : List Wd) (S S' : Store) (Hf : Hp), Sm K bs μ S H Hf → (∀ w ∈ ws, ∃ v, WR K Hf μ noXr w v) → fzAll f S ws = some S' → ∃ Hf', Sm K bs μ S' H Hf' ∧ Xt S μ H Hf S' μ H Hf'
  | [], S, S', Hf, s, _, h => by
    have e : S = S' := Option.some.inj h
    subst e
    exact ⟨Hf, s, .refl⟩
  | w :: r, S, S', Hf, s, hw, h => by
    unfold fzAll at h
    cases e : f S w with
    | none => rw [e] at h; cases h
    | some S1 =>
      rw [e] at h
      obtain ⟨Hf1, s1, x1⟩ := hf S S1 Hf w s e (hw w List.mem_cons_self)
      obtain ⟨Hf2, s2, x2⟩ := fzAll_ok hf r S1 S' Hf1 s1 (fun w' hm => let ⟨v, q⟩ := hw w' (List.mem_cons_of_mem _ hm); ⟨v, q.xt x1⟩) h
      exact ⟨Hf2, s2, x1.trans x2⟩
theorem paired_ex {α β : Type} {R : α → β → Prop} : ∀ {xs : List α} {ys : List β}, Paired R xs ys → ∀ x ∈ xs, ∃ y, R x y
  | _, _, .cons h t, x, hx => by
    rcases List.mem_cons.mp hx with e | hx
    · subst e; exact ⟨_, h⟩
    · exact paired_ex t x hx
theorem mapO_snd {f : Wd → Option Dt} : ∀ {kvs : List (List Key × Wd)} {es : List (List Key × Dt)}, mapO (fun p => (f p.2).map fun d => (p.1, d)) kvs = some es → es.map (·.1) = kvs.map (·.1) ∧ mapO f (kvs.map (·.2)) = some (es.map (·.2))
  | [], es, h => by
    have : es = [] := by simpa [mapO] using h.symm
    subst this; exact ⟨rfl, rfl⟩
  | p :: r, es, h => by
    unfold mapO at h
    cases e1 : f p.2 with
    | none => rw [e1] at h; simp at h
    | some d =>
      cases e2 : mapO (fun p => (f p.2).map fun d => (p.1, d)) r with
      | none => rw [e1, e2] at h; simp at h
      | some ds =>
        rw [e1, e2] at h
        simp at h
        subst h
        obtain ⟨q1, q2⟩ := mapO_snd e2
        refine ⟨by simp [q1], ?_⟩
        simp only [List.map_cons]
        unfold mapO
        rw [e1, q2]
theorem fz_ok : ∀ (n : Nat) (S S' : Store) (Hf : Hp) (w : Wd), Sm K bs μ S H Hf → fz n S w = some S' → (∃ v, WR K Hf μ noXr w v) → ∃ Hf', Sm K bs μ S' H Hf' ∧ Xt S μ H Hf S' μ H Hf'
  | n, S, S', Hf, .t d, s, h, _ => by
    have e : S = S' := by cases n <;> exact Option.some.inj h
    subst e
    exact ⟨Hf, s, .refl⟩
  | n, S, S', Hf, .x e, s, h, _ => by cases n <;> cases h
  | n, S, S', Hf, .c e, s, h, _ => by cases n <;> cases h
  | 0, S, S', Hf, .h k, s, h, _ => by cases h
  | n + 1, S, S', Hf, .h k, s, h, ⟨v, hv⟩ => by
    have hv : μ[k]? = some v := hv
    unfold fz at h
    cases e : S[k]? with
    | none => simp [e] at h
    | some c =>
      have cr := s.cell k c v e hv
      cases c with
      | ins c fs => simp [e] at h
      | frz d =>
        have e' : S = S' := by simpa [e] using h
        subst e'
        exact ⟨Hf, s, .refl⟩
      | lst lk ws =>
        cases lk with
        | true => simp [e] at h
        | false =>
          simp only [e] at h
          cases e1 : fzAll (fz n) S ws with
          | none => simp [e1] at h
          | some S1 =>
            simp only [e1] at h
            have hws : ∀ w ∈ ws, ∃ v, WR K Hf μ noXr w v := by
              cases cr with
              | lst _ _ h3 => exact paired_ex h3
            obtain ⟨Hf1, s1, x1⟩ := fzAll_ok (fun S S' Hf w => fz_ok n S S' Hf w) ws S S1 Hf s hws e1
            cases e2 : S1[k]? with
            | none => simp [e2] at h
            | some c1 =>
              cases c1 with
              | lst lk1 ws1 =>
                cases lk1 with
                | true => simp [e2] at h
                | false =>
                  simp only [e2] at h
                  cases e3 : mapO (Gw.rdF S1) ws1 with
                  | none => simp [e3] at h
                  | some ds =>
                    simp [e3] at h
                    subst h
                    have cr1 := s1.cell k _ v e2 hv
                    cases cr1 with
                    | lst q1 q2 q3 =>
                      rename_i a vs
                      have rp := s1.rdFs q3 e3
                      obtain ⟨s2, x2⟩ := s1.frzC e2 rfl rfl hv q1 (.lst (SqL.of upd_same) (rp.mono (XR.new q2)))
                      exact ⟨_, s2, x1.trans x2⟩
              | _ => simp [e2] at h
      | dic tk lk kvs =>
        cases lk with
        | true => simp [e] at h
        | false =>
          simp only [e] at h
          cases e1 : fzAll (fz n) S (kvs.map (·.2)) with
          | none => simp [e1] at h
          | some S1 =>
            simp only [e1] at h
            have hws : ∀ w ∈ kvs.map (·.2), ∃ v, WR K Hf μ noXr w v := by
              cases cr with
              | dK _ _ _ _ h3 => exact paired_ex h3
              | dT _ _ _ _ h3 => exact paired_ex h3
            obtain ⟨Hf1, s1, x1⟩ := fzAll_ok (fun S S' Hf w => fz_ok n S S' Hf w) (kvs.map (·.2)) S S1 Hf s hws e1
            cases e2 : S1[k]? with
            | none => simp [e2] at h
            | some c1 =>
              cases c1 with
              | dic tk1 lk1 kvs1 =>
                cases lk1 with
                | true => simp [e2] at h
                | false =>
                  simp only [e2] at h
                  cases e3 : mapO (fun p => (Gw.rdF S1 p.2).map fun d => (p.1, d)) kvs1 with
                  | none => simp [e3] at h
                  | some es =>
                    simp [e3] at h
                    subst h
                    obtain ⟨m1, m2⟩ := mapO_snd e3
                    have cr1 := s1.cell k _ v e2 hv
                    cases cr1 with
                    | dK q1 q0 q2 q3 q4 =>
                      rename_i a kv o
                      have e0 := (if_neg Bool.false_ne_true).mp q0
                      subst e0
                      have rp := s1.rdFs q4 m2
                      obtain ⟨s2, x2⟩ := s1.frzC (d := .dic false es) e2 rfl rfl hv q1 (.dK (ks := []) (.inl upd_same) (by rw [q3, m1]) (rp.mono (XR.new q2)) rfl)
                      exact ⟨_, s2, x1.trans x2⟩
                    | dT q1 q0 q2 q3 q4 =>
                      rename_i a kv o
                      have e0 := (if_neg Bool.false_ne_true).mp q0
                      subst e0
                      have rp := s1.rdFs q4 m2
                      obtain ⟨s2, x2⟩ := s1.frzC (d := .dic true es) e2 rfl rfl hv q1 (.dT (.inl upd_same) (by rw [q3, m1]) (rp.mono (XR.new q2)) rfl)
                      exact ⟨_, s2, x1.trans x2⟩
              | _ => simp [e2] at h
/-- what is kept in a tree -/
theorem keep_ok {w : Wd} {v : V} {d : Dt} (s : Sm K bs μ S H Hf) (r : WR K Hf μ xr w v) (h : keep S w = .ok d S') : ∃ Hf', Sm K bs μ S' H Hf' ∧ Xt S μ H Hf S' μ H Hf' ∧ Rp K Hf' v d := by
  unfold keep at h
  cases e : fz 6 S w with
  | none => rw [e] at h; cases h
  | some S1 =>
    rw [e] at h
    have r' : WR K Hf μ noXr w v := by
      cases w with
      | x e' => cases e
      | _ => exact r
    obtain ⟨Hf1, s1, x1⟩ := fz_ok 6 S S1 Hf w s e ⟨v, r'⟩
    replace h : opt S1 (rdF S1 w) = .ok d S' := h
    cases e2 : rdF S1 w with
    | none => rw [e2] at h; cases h
    | some d' =>
      rw [e2] at h
      injection h with h1 h2
      subst h1; subst h2
      exact ⟨Hf1, s1, x1, s1.rdF (r'.xt x1) e2⟩
theorem keep_noex {w : Wd} {e : Exn} : keep S w ≠ .ex e S' := fun h => by
  unfold keep at h
  cases e1 : fz 6 S w with
  | none => rw [e1] at h; cases h
  | some S1 =>
    rw [e1] at h
    replace h : opt S1 (rdF S1 w) = .ex e S' := h
    cases e2 : rdF S1 w with
    | none => rw [e2] at h; cases h
    | some d' => rw [e2] at h; cases h
theorem keeps_ok : ∀ {ws : List Wd} {vs : List V} {ds : List Dt} {S S' : Store} {Hf : Hp}, Sm K bs μ S H Hf → Paired (WR K Hf μ xr) ws vs → keeps S ws = .ok ds S' → ∃ Hf', Sm K bs μ S' H Hf' ∧ Xt S μ H Hf S' μ H Hf' ∧ RpA K Hf' vs ds
  | [], _, ds, S, S', Hf, s, .nil, h => by
    injection h with h1 h2
    subst h1; subst h2
    exact ⟨Hf, s, .refl, .nil⟩
  | w :: r, _, ds, S, S', Hf, s, .cons h1 t, h => by
    unfold keeps at h
    cases e : keep S w with
    | no => rw [e] at h; cases h
    | ex e' S1 => exact absurd e keep_noex
    | ok d S1 =>
      rw [e] at h
      obtain ⟨Hf1, s1, x1, r1⟩ := keep_ok s h1 e
      have h' : (keeps S1 r).bd (fun ds S2 => .ok (d :: ds) S2) = .ok ds S' := h
      cases e2 : keeps S1 r with
      | no => rw [e2] at h'; cases h'
      | ex e' S2 => rw [e2] at h'; cases h'
      | ok ds2 S2 =>
        rw [e2] at h'
        injection h' with h1' h2'
        subst h1'; subst h2'
        obtain ⟨Hf2, s2, x2, r2⟩ := keeps_ok s1 (wrs_mono x1.mu x1.fr t) e2
        exact ⟨Hf2, s2, x1.trans x2, .cons (r1.mono x2.fr) r2⟩
theorem keeps_noex : ∀ {ws : List Wd} {S S' : Store} {e : Exn}, keeps S ws ≠ .ex e S'
  | [], S, S', e, h => by cases h
  | w :: r, S, S', e, h => by
    unfold keeps at h
    cases e1 : keep S w with
    | no => rw [e1] at h; cases h
    | ex e' S1 => exact absurd e1 keep_noex
    | ok d S1 =>
      rw [e1] at h
      have h' : (keeps S1 r).bd (fun ds S2 => .ok (d :: ds) S2) = .ex e S' := h
      cases e2 : keeps S1 r with
      | no => rw [e2] at h'; cases h'
      | ex e' S2 => exact absurd e2 keeps_noex
      | ok ds2 S2 => rw [e2] at h'; cases h'
end
end Gw

namespace Gw
open PySem PySem.Spec PyProof.Rows L2
/-! ### rules that the layer lacks -/
section
variable {X : Cx}
def rCatS (K : PySem.W.Frag) : R2 := fun x y H Q => ∃ l b xs zs, x = .ref l ∧ y = .ref b ∧ SqL K H l xs ∧ SqL K H b zs ∧ xs.length + zs.length ≤ sizeLine ∧ ∀ p, H p = none → Q (.ref p) (upd H p (.lst (xs ++ zs)))
theorem op_catS : OpR X (binaryOp .Add) (rCatS X.K) := by
  intro pins s σ H x y v u Q I rx ry h
  obtain ⟨l, b, xs, zs, rfl, rfl, hH, hB, hz, q⟩ := h
  cases rx
  cases ry
  obtain ⟨its, r, pl, z⟩ := I.list hH
  obtain ⟨its2, r2, pl2, z2⟩ := I.list hB
  obtain ⟨⟨c1, d1, dt1, sl1⟩, n1, ho1, hc1, hd1, hq1⟩ := id pl
  obtain ⟨⟨c2, d2, dt2, sl2⟩, n2, ho2, hc2, hd2, hq2⟩ := id pl2
  simp only at hc1 hd1 hq1 hc2 hd2 hq2
  subst hc1 hd1 hq1 hc2 hd2 hq2
  have hl := r.length
  have hl2 := r2.length
  refine concat_meets ⟨_, ho1, rfl⟩ ⟨_, ho2, rfl⟩ PySem.noFill_list_add PySem.seq_list_add F.slot_list_add F.entry_list_add (F.args_list_add_2 _ _) (list_addW l b its.toArray its2.toArray n1 n2 none none sl1 sl2 (by rw [List.size_toArray, List.size_toArray]; omega)) ⟨ho1, ho2, ?_⟩
  have ea : its.toArray ++ its2.toArray = (its ++ its2).toArray := by simp
  rw [ea]
  exact ⟨.ref _, _, I.lnew (t' := s.toks) (r.append r2) (by rw [List.length_append]; omega), rfl, q _ I.fresh⟩
def rInD (K : PySem.W.Frag) (neg : Bool) : R2 := fun x y H Q => ∃ p xs d ds, y = .ref p ∧ (SqL K H p xs ∨ SqT K H p xs) ∧ Dp K H x d ∧ DpAll K H xs ds ∧ SeqAt.shaped d = true ∧ PyData.canLayAll0 ds = true ∧ Q (.bl (neg ^^ ds.any fun e => PyData.eqv e d)) H
theorem op_inD (neg : Bool) (hu : X.A.units + 65 < cLine) : OpR X (compareOp (if neg = true then .NotIn else .In)) (rInD X.K neg) := by
  intro pins s σ H x y v u Q I rx ry h
  obtain ⟨p, xs, d, ds, rfl, hq, hx, hs, sd, ss, q⟩ := h
  obtain ⟨as, r1⟩ := Dp.reads I d x v hx rx
  cases neg with
  | false =>
    rw [Bool.false_xor] at q
    rcases hq with hq | hq
    · obtain ⟨bs, r2⟩ := Dp.reads I (.list ds) (.ref p) u (.lst hq hs) ry
      exact PySem.SeqAt.in_list_reads r2 r1 (by simpa [PyData.canLay0] using ss) (SeqAt.canLay_of_shaped sd) (room_in_shaped sd hu) ⟨.bl _, H, I, rfl, q⟩
    · obtain ⟨bs, r2⟩ := Dp.reads I (.tuple ds) (.ref p) u (.tup hq hs) ry
      exact PySem.SeqAt.in_tuple_reads r2 r1 (by simpa [PyData.canLay0] using ss) (SeqAt.canLay_of_shaped sd) (room_in_shaped sd hu) ⟨.bl _, H, I, rfl, q⟩
  | true =>
    rw [Bool.true_xor] at q
    rcases hq with hq | hq
    · obtain ⟨bs, r2⟩ := Dp.reads I (.list ds) (.ref p) u (.lst hq hs) ry
      exact PySem.SeqAt.notIn_list_reads r2 r1 (by simpa [PyData.canLay0] using ss) (SeqAt.canLay_of_shaped sd) (room_in_shaped sd hu) ⟨.bl _, H, I, rfl, q⟩
    · obtain ⟨bs, r2⟩ := Dp.reads I (.tuple ds) (.ref p) u (.tup hq hs) ry
      exact PySem.SeqAt.notIn_tuple_reads r2 r1 (by simpa [PyData.canLay0] using ss) (SeqAt.canLay_of_shaped sd) (room_in_shaped sd hu) ⟨.bl _, H, I, rfl, q⟩
end

/-! ### what is made -/
section
variable {A : Pa} {σ : L2.St} {S : Store} {μ : List V} {H Hf : Hp} {Q : VK} {xr : Xr} {ρ : Env} {X : Cx} {e a b : Expr}
theorem noX_of {ws : List Wd} (h : ws.all noX = true) {vs : List V} (r : Paired (WR A.K Hf μ xr) ws vs) : Paired (WR A.K Hf μ noXr) ws vs := by
  induction r with
  | nil => exact .nil
  | cons h1 t ih =>
    rw [List.all_cons, Bool.and_eq_true] at h
    refine .cons (h1.reX fun e z => ?_) (ih h.2)
    rw [z] at h; cases h.1
theorem hs_lt {w : Wd} {v : V} {xr : Xr} (s : Sm A.K A.bs μ S H Hf) (r : WR A.K Hf μ xr w v) : ∀ j ∈ hsW w, j < S.length := fun j hj => by
  cases w with
  | h k =>
    have e : j = k := by simpa [hsW] using hj
    subst e
    have e : μ[j]? = some v := r
    rw [← s.len]
    exact (List.getElem?_eq_some_iff.mp e).1
  | _ => simp [hsW] at hj
/-- a new list of values -/
theorem mkL_rs {m : Bool} {ws : List Wd} {vs : List V} {p : Addr} (s : Sm A.K A.bs μ S H Hf) (r : Paired (WR A.K Hf μ xr) ws vs) (h : Rs A (RW A) σ S μ H Hf (mkL m ws S) Q) (hp : H p = none) : Q (.ref p) (upd H p (.lst vs)) := by
  cases m with
  | true =>
    unfold mkL at h
    simp only at h
    split at h
    · rename_i hn
      have r' := noX_of hn r
      obtain ⟨s1, x1⟩ := s.newC (o := .lst vs) (c := .lst false ws) hp (.lst upd_same (s.fresh hp) (wrs_mono ⟨_, rfl⟩ (.refl _) r')) rfl
      refine h.to s1 x1 ?_
      show (μ ++ [V.ref p])[S.length]? = some (.ref p)
      rw [← s.len]; simp
    · exact h.elim
  | false =>
    unfold mkL at h
    simp only at h
    cases e : keeps S ws with
    | no => rw [e] at h; exact h.elim
    | ex e' S1 => exact absurd e keeps_noex
    | ok ds S1 =>
      rw [e] at h
      obtain ⟨Hf1, s1, x1, r1⟩ := keeps_ok s r e
      obtain ⟨s2, x2⟩ := s1.tree (o := .lst vs) hp
      exact h.to s2 (x1.trans x2) (.lst (SqL.of upd_same) (r1.mono x2.fr))
theorem mkT_rs {ws : List Wd} {vs : List V} {p : Addr} (s : Sm A.K A.bs μ S H Hf) (r : Paired (WR A.K Hf μ xr) ws vs) (h : Rs A (RW A) σ S μ H Hf (mkT ws S) Q) (hp : H p = none) : Q (.ref p) (upd H p (.tup vs)) := by
  unfold mkT at h
  cases e : keeps S ws with
  | no => rw [e] at h; exact h.elim
  | ex e' S1 => exact absurd e keeps_noex
  | ok ds S1 =>
    rw [e] at h
    obtain ⟨Hf1, s1, x1, r1⟩ := keeps_ok s r e
    obtain ⟨s2, x2⟩ := s1.tree (o := .tup vs) hp
    exact h.to s2 (x1.trans x2) (.tup upd_same (r1.mono x2.fr))

/-! ### arithmetic, comparisons -/
theorem wr_int {i : Int} {v : V} (r : WR A.K Hf μ xr (.t (.int i)) v) : v = .int i := by cases r; rfl
theorem wr_str {i : Str} {v : V} (r : WR A.K Hf μ xr (.t (.str i)) v) : v = .str i := by cases r; rfl
theorem wr_bl {i : Bool} {v : V} (r : WR A.K Hf μ xr (.t (.bl i)) v) : v = .bl i := by cases r; rfl
def rBin (K : PySem.W.Frag) (o : Bop) : R2 := match o with
  | .add => fun x y H Q => (rI0 (fun i j => .int (i + j)) x y H Q ∨ ((∃ i j, x = .str i ∧ y = .str j ∧ i.length + j.length ≤ sizeLine ∧ Q (.str (i ++ j)) H) ∨ (rCatS K x y H Q ∨ rCatA K x y H Q)))
  | .sub => rI0 fun i j => .int (i - j)
  | .mul => rI CMul fun i j => .int (i * j)
  | .mod => rI (fun _ j => j ≠ 0) fun i j => .int (i.fmod j)
  | .fdiv => rI CDivW fun i j => .int (i / j)
  | .pow => rI CPow fun i j => .int (i ^ j.toNat)
theorem op_bin {o : Bop} : OpR X (binaryOp o.op) (rBin X.K o) := by
  cases o with
  | add => exact op_add.or (op_add_str.or (op_catS.or op_catA))
  | sub => exact op_sub
  | mul => exact op_mul
  | mod => exact op_modN
  | fdiv => exact op_fdivW
  | pow => exact op_pow
theorem lineN_eq : lineN = sizeLine := by rw [sizeLine_eq]; rfl
theorem binD_rs {o : Bop} {m : Bool} {x y : Wd} {v u : V} (s : Sm A.K A.bs μ S H Hf) (rx : WR A.K Hf μ A.xr x v) (ry : WR A.K Hf μ A.xr y u) (h : Rs A (RW A) σ S μ H Hf (binD m o x y S) Q) : rBin A.K o v u H Q := by
  unfold binD at h
  split at h
  · cases wr_int rx; cases wr_int ry
    exact .inl ⟨_, _, rfl, rfl, h.done s (.int _)⟩
  · cases wr_int rx; cases wr_int ry
    exact ⟨_, _, rfl, rfl, h.done s (.int _)⟩
  · cases wr_int rx; cases wr_int ry
    split at h
    · rename_i hc
      exact ⟨_, _, rfl, rfl, hc.symm, h.done s (.int _)⟩
    · exact h.elim
  · cases wr_int rx; cases wr_int ry
    split at h
    · rename_i i j hc
      refine ⟨_, _, rfl, rfl, by omega, ?_⟩
      show Q (V.int (i.fmod j)) H
      rw [Int.fmod_eq_emod_of_nonneg _ (Int.le_of_lt hc)]
      exact h.done s (.int _)
    · exact h.elim
  · cases wr_int rx; cases wr_int ry
    split at h
    · rename_i hc
      exact ⟨_, _, rfl, rfl, ⟨hc.1, by omega⟩, h.done s (.int _)⟩
    · exact h.elim
  · cases wr_int rx; cases wr_int ry
    split at h
    · rename_i hc
      exact ⟨_, _, rfl, rfl, ⟨hc.1, by omega, hc.2.2⟩, h.done s (.int _)⟩
    · exact h.elim
  · cases wr_str rx; cases wr_str ry
    split at h
    · rename_i hc
      exact .inr (.inl ⟨_, _, rfl, rfl, by rw [← lineN_eq]; exact hc, h.done s (.str _)⟩)
    · exact h.elim
  · cases rx with
    | tup q1 r1 =>
      cases ry with
      | tup q2 r2 =>
        split at h
        · rename_i hc
          have l1 := r1.length
          have l2 := r2.length
          refine .inr (.inr (.inr ⟨_, _, _, _, rfl, rfl, .inl (.inl (s.sub.tp _ _ q1)), .inl (.inl (s.sub.tp _ _ q2)), by rw [← lineN_eq]; omega, fun e => ?_, fun _ e => ?_, fun _ _ p hp => ?_⟩))
          · subst e
            cases r1
            exact h.done s (.tup q2 r2)
          · subst e
            cases r2
            rw [List.append_nil] at h
            exact h.done s (.tup q1 r1)
          · obtain ⟨s1, x1⟩ := s.tree (o := .tup (_ ++ _)) hp
            exact h.to s1 x1 (.tup upd_same (RpA.of (paired_app (r1.mono x1.fr).paired (r2.mono x1.fr).paired)))
        · exact h.elim
  · split at h
    · rename_i xs ys e1 e2
      obtain ⟨a, vs, rfl, q1, r1⟩ := s.seq rx e1
      obtain ⟨b, us, rfl, q2, r2⟩ := s.seq ry e2
      split at h
      · rename_i hc
        refine .inr (.inr (.inl ⟨a, b, vs, us, rfl, rfl, q1, q2, by rw [← lineN_eq, ← r1.length, ← r2.length]; exact hc, fun p hp => ?_⟩))
        exact mkL_rs s (paired_app r1 r2) h hp
      · exact h.elim
    · exact h.elim
  · exact h.elim
end
end Gw

namespace Gw
open PySem PySem.Spec PyProof.Rows L2
/-- an expression, as a value and as a test -/
structure PB (X : Cx) (e : Expr) (t : TE) : Prop where
  pe : PE X e t
  pt : PT X e (tTest t)
theorem PB.of {X : Cx} {e : Expr} {t : TE} (h : PE X e t) (he : ∀ whole, isTrue e X.env whole = (do let v ← whole; standAt e.pos; holding [v] (truthy v)) := by intro _; rfl) : PB X e t := ⟨h, pt_val h he⟩
theorem impPB {X : Cx} {e : Expr} {t t' : TE} (h : PB X e t) (i : ∀ σ H Q, t' σ H Q → t σ H Q) : PB X e t' := ⟨impPE h.pe i, impPT h.pt fun σ H _ q => i σ H _ q⟩
theorem neverPB {X : Cx} {e : Expr} {t : TE} (h : ∀ σ H Q, ¬ t σ H Q) : PB X e t := ⟨neverPE h, neverPT fun σ H _ q => h σ H _ q⟩
section
variable {A : Pa} {X : Cx} {ρ : Env} {S : Store} {e a b : Expr}
theorem noPB : PB X e (tEv A ρ S .no) := neverPB fun _ _ _ ⟨_, _, _, _, h⟩ => h
theorem unB {f : Wd → Store → Res Wd} {g : Res Wd} {r : V → Hp → VK → Prop} (ha : PB X a (tEv A ρ S g)) (hn : ∀ ta, PB X a ta → PB X e (fun σ H Q => ta σ H fun x H1 => r x H1 Q))
    (hr : ∀ x S1 v σ H μ Hf Q, Sm A.K A.bs μ S1 H Hf → WR A.K Hf μ A.xr x v → Rs A (RW A) σ S1 μ H Hf (f x S1) Q → r v H Q) : PB X e (tEv A ρ S (g.bd f)) :=
  impPB (hn _ ha) fun σ H Q ⟨μ, Hf, sm, en, h⟩ => ev_then sm en h fun x S1 v μ1 H1 Hf1 s1 _ w1 _ h1 => hr x S1 v σ H1 μ1 Hf1 Q s1 w1 h1
theorem binB {f : Wd → Wd → Store → Res Wd} {g : Res Wd} {gb : Store → Res Wd} {r : R2} (ha : PB X a (tEv A ρ S g)) (hb : ∀ S1, PB X b (tEv A ρ S1 (gb S1))) (hn : ∀ ta tb, PE X a ta → PE X b tb → PB X e (tOp r ta tb))
    (hr : ∀ x y S1 v u σ H μ Hf Q, Sm A.K A.bs μ S1 H Hf → WR A.K Hf μ A.xr x v → WR A.K Hf μ A.xr y u → Rs A (RW A) σ S1 μ H Hf (f x y S1) Q → r v u H Q) : PB X e (tEv A ρ S (g.bd fun x S1 => (gb S1).bd fun y S2 => f x y S2)) := by
  cases g with
  | no => exact noPB
  | ex x S1 => exact impPB (hn _ _ ha.pe (hb S).pe) fun σ H Q ⟨μ, Hf, sm, en, h⟩ => ⟨μ, Hf, sm, en, h⟩
  | ok x S1 =>
    refine impPB (hn _ _ ha.pe (hb S1).pe) fun σ H Q ⟨μ, Hf, sm, en, h⟩ => ⟨μ, Hf, sm, en, fun v μ1 H1 Hf1 s1 x1 w1 => ?_⟩
    have h' : Rs A (RW A) σ S1 μ1 H1 Hf1 ((gb S1).bd fun y S2 => f x y S2) Q := Rs.step h x1
    exact ev_then s1 (en.xt x1) h' fun y S2 u μ2 H2 Hf2 s2 _ w2 x2 h2 => hr x y S2 v u σ H2 μ2 Hf2 Q s2 (w1.xt x2) w2 h2
theorem opt_rs {α β γ : Type} {R : Hp → List V → β → γ → Prop} {σ : L2.St} {μ : List V} {H Hf : Hp} {o : Option α} {f : α → Store → Res β} {Q : γ → Hp → Prop} (h : Rs A R σ S μ H Hf ((opt S o).bd f) Q) : ∃ a, o = some a ∧ Rs A R σ S μ H Hf (f a S) Q := by
  cases o with
  | none => exact h.elim
  | some a => exact ⟨a, rfl, h⟩
/-! ### deep readings -/
mutual
theorem rd_dp {K : PySem.W.Frag} {bs : List Nat} {μ : List V} {H Hf : Hp} {xr : Xr} (s : Sm K bs μ S H Hf) : ∀ (n : Nat) (w : Wd) (v : V) (d : Dt), WR K Hf μ xr w v → rd S n w = some d → pln d = true → Dp K H v (pd d)
  | n, .t d', v, d, r, h, p => by
    have e : d' = d := by cases n <;> exact Option.some.inj h
    subst e
    exact (s.rp r).dp p
  | n, .c ds, v, d, r, h, p => by
    have e : .tup ds = d := by cases n <;> exact Option.some.inj h
    subst e
    obtain ⟨a, vs, rfl, _, q, rs⟩ := r
    unfold pln at p
    unfold pd
    refine .tup ?_ ((rs.mono s.sub).dp p)
    rcases q with q | q
    · exact .inl (s.sub.rd _ _ q)
    · exact .inr q
  | 0, .h k, v, d, r, h, p => by cases h
  | n, .x e, v, d, r, h, p => by cases n <;> cases h
  | n + 1, .h k, v, d, r, h, p => by
    have r : μ[k]? = some v := r
    unfold rd at h
    cases e : S[k]? with
    | none => simp [e] at h
    | some c =>
      have cr := s.cell k c v e r
      cases c with
      | lst lk ws =>
        cases e2 : mapO (rd S n) ws with
        | none => simp [e, e2] at h
        | some ds =>
          simp [e, e2] at h
          subst h
          cases cr with
          | lst h1 h2 h3 =>
            unfold pln at p
            unfold pd
            exact .lst (SqL.of h1) (rds_dp s n ws _ ds h3 e2 p)
      | dic tk lk kvs =>
        cases e2 : mapO (fun p => (rd S n p.2).map fun d => (p.1, d)) kvs with
        | none => simp [e, e2] at h
        | some ds =>
          simp [e, e2] at h
          subst h
          unfold pln at p; cases p
      | ins c fs => simp [e] at h
      | frz d' =>
        have e' : d' = d := by simpa [e] using h
        subst e'
        cases cr with
        | frz r' => exact (s.rp r').dp p
theorem rds_dp {K : PySem.W.Frag} {bs : List Nat} {μ : List V} {H Hf : Hp} {xr : Xr} (s : Sm K bs μ S H Hf) : ∀ (n : Nat) (ws : List Wd) (vs : List V) (ds : List Dt), Paired (WR K Hf μ xr) ws vs → mapO (rd S n) ws = some ds → plns ds = true → DpAll K H vs (pds ds)
  | n, [], _, ds, .nil, h, p => by
    have : ds = [] := by simpa [mapO] using h.symm
    subst this
    unfold pds; exact .nil
  | n, w :: r, _, ds, .cons h1 t, h, p => by
    unfold mapO at h
    cases e1 : rd S n w with
    | none => rw [e1] at h; simp at h
    | some d =>
      cases e2 : mapO (rd S n) r with
      | none => rw [e1, e2] at h; simp at h
      | some es =>
        rw [e1, e2] at h
        simp at h
        subst h
        unfold plns at p
        obtain ⟨p1, p2⟩ := Bool.and_eq_true_iff.mp p
        unfold pds
        exact .cons (rd_dp s n w _ d h1 e1 p1) (rds_dp s n r _ es t e2 p2)
end

/-! ### equality, in -/
def rEqN (K : PySem.W.Frag) (neg : Bool) : R2 := fun x y H Q => ∃ d e, Dp K H x d ∧ Dp K H y e ∧ SeqAt.shaped d = true ∧ SeqAt.shaped e = true ∧ Q (.bl (neg ^^ PyData.eqv d e)) H
theorem op_eqN (neg : Bool) (hu : X.A.units + 64 < cLine) : OpR X (compareOp (if neg = true then .NotEq else .Eq)) (rEqN X.K neg) := by
  cases neg with
  | false =>
    intro pins s σ H x y v u Q I rx ry ⟨d, e, h1, h2, h3, h4, q⟩
    rw [Bool.false_xor] at q
    exact op_eqD hu pins s σ H x y v u Q I rx ry ⟨d, e, h1, h2, h3, h4, q⟩
  | true =>
    intro pins s σ H x y v u Q I rx ry ⟨d, e, h1, h2, h3, h4, q⟩
    rw [Bool.true_xor] at q
    exact op_neD hu pins s σ H x y v u Q I rx ry ⟨d, e, h1, h2, h3, h4, q⟩
theorem cmpPB {op : CmpOp} {r : R2} {pos : Pos} (ho : OpR X (compareOp op) r) (hm : behindInMarks op b = false) (ta tb : TE) (ha : PE X a ta) (hb : PE X b tb) : PB X (.Compare a [op] [b] pos) (tOp r ta tb) := ⟨pe_cmpR ho ha hb hm, pt_cmpR ho ha hb hm⟩
theorem noSet (t : Ex) (op : CmpOp) : behindInMarks op t.e = false := by cases t <;> rfl
theorem canAll : ∀ {ds : List Dt}, (ds.all fun e => SeqAt.shaped (pd e)) = true → PyData.canLayAll0 (pds ds) = true
  | [], _ => by unfold pds; rfl
  | d :: r, h => by
    rw [List.all_cons, Bool.and_eq_true] at h
    unfold pds
    show (PyData.canLay0 (pd d) && PyData.canLayAll0 (pds r)) = true
    rw [SeqAt.canLay_of_shaped h.1, canAll h.2]; rfl
theorem any_pds {f : PyData → Bool} : ∀ ds : List Dt, (pds ds).any f = ds.any fun e => f (pd e)
  | [] => by unfold pds; rfl
  | d :: r => by unfold pds; rw [List.any_cons, List.any_cons, any_pds r]
theorem sd_eq {C : Cxt} {neg : Bool} {x y : Ex} {p : Pos} (hu : X.A.units + 64 < cLine) (hK : X.K = A.K) (ha : ∀ S, PB X x.e (tEv A ρ S (ev C x ρ S))) (hb : ∀ S, PB X y.e (tEv A ρ S (ev C y ρ S))) :
    PB X (Ex.eq neg x y p).e (tEv A ρ S (ev C (.eq neg x y p) ρ S)) := by
  unfold Ex.e ev
  refine binB (r := rEqN X.K neg) (ha S) hb (cmpPB (op_eqN neg hu) (noSet _ _)) fun x y S1 v u σ H μ Hf Q s rx ry h => ?_
  obtain ⟨c, e, h⟩ := opt_rs h
  unfold eqD at e
  cases e1 : rd S1 6 x with
  | none => simp [e1] at e
  | some d =>
    cases e2 : rd S1 6 y with
    | none => simp [e1, e2] at e
    | some d2 =>
      simp only [e1, e2] at e
      split at e
      · rename_i hc
        simp only [Bool.and_eq_true] at hc
        have e' := Option.some.inj e
        subst e'
        rw [hK]
        exact ⟨pd d, pd d2, rd_dp s 6 x v d rx e1 hc.1.1.1, rd_dp s 6 y u d2 ry e2 hc.1.1.2, hc.1.2, hc.2, h.done s (.bl _)⟩
      · cases e
theorem sd_inS {C : Cxt} {neg : Bool} {x y : Ex} {p : Pos} (hu : X.A.units + 65 < cLine) (hK : X.K = A.K) (ha : ∀ S, PB X x.e (tEv A ρ S (ev C x ρ S))) (hb : ∀ S, PB X y.e (tEv A ρ S (ev C y ρ S))) :
    PB X (Ex.inS neg x y p).e (tEv A ρ S (ev C (.inS neg x y p) ρ S)) := by
  unfold Ex.e ev
  refine binB (r := rInD X.K neg) (ha S) hb (cmpPB (op_inD neg hu) (noSet _ _)) fun x y S1 v u σ H μ Hf Q s rx ry h => ?_
  obtain ⟨c, e, h⟩ := opt_rs h
  unfold inSD at e
  cases e1 : rd S1 6 x with
  | none => simp [e1] at e
  | some d =>
    cases e2 : vw S1 y with
    | dic tk kvs => simp [e1, e2] at e
    | oth => simp [e1, e2] at e
    | seq tup ws =>
      cases e3 : mapO (rd S1 6) ws with
      | none => simp [e1, e2, e3] at e
      | some ds =>
        simp only [e1, e2, e3] at e
        split at e
        · rename_i hc
          simp only [Bool.and_eq_true] at hc
          have e' := Option.some.inj e
          subst e'
          obtain ⟨a, vs, rfl, q, r⟩ := s.seq ry e2
          rw [hK]
          refine ⟨a, vs, pd d, pds ds, rfl, ?_, rd_dp s 6 x v d rx e1 hc.1.1.1, rds_dp s 6 ws vs ds r e3 hc.1.2, hc.1.1.2, canAll hc.2, ?_⟩
          · cases tup with
            | true => exact .inr q
            | false => exact .inl q
          · rw [any_pds]
            exact h.done s (.bl _)
        · cases e
def rCmp (o : Cop) : R2 := rI0 fun i j => .bl (cmpD o i j)
theorem op_cmpD (o : Cop) : OpR X (compareOp o.op) (rCmp o) := by
  cases o with
  | lt => exact op_lt
  | le => exact op_le
  | gt => exact op_gt
  | ge => exact op_ge
theorem sd_cmp {C : Cxt} {o : Cop} {x y : Ex} {p : Pos} (ha : ∀ S, PB X x.e (tEv A ρ S (ev C x ρ S))) (hb : ∀ S, PB X y.e (tEv A ρ S (ev C y ρ S))) : PB X (Ex.cmp o x y p).e (tEv A ρ S (ev C (.cmp o x y p) ρ S)) := by
  unfold Ex.e ev
  refine binB (r := rCmp o) (ha S) hb (cmpPB (op_cmpD o) (noSet _ _)) fun x y S1 v u σ H μ Hf Q s rx ry h => ?_
  split at h
  · cases wr_int rx; cases wr_int ry
    exact ⟨_, _, rfl, rfl, h.done s (.bl _)⟩
  · exact h.elim
theorem sd_bin {C : Cxt} {o : Bop} {m : Bool} {x y : Ex} {p : Pos} (hK : X.K = A.K) (ha : ∀ S, PB X x.e (tEv A ρ S (ev C x ρ S))) (hb : ∀ S, PB X y.e (tEv A ρ S (ev C y ρ S))) : PB X (Ex.bin o m x y p).e (tEv A ρ S (ev C (.bin o m x y p) ρ S)) := by
  unfold Ex.e ev
  refine binB (r := rBin X.K o) (ha S) hb (fun ta tb h1 h2 => .of (pe_op op_bin h1 h2)) fun x y S1 v u σ H μ Hf Q s rx ry h => ?_
  rw [hK]
  exact binD_rs s rx ry h
end
end Gw

namespace Gw
open PySem PySem.Spec PyProof.Rows L2
section
variable {A : Pa} {X : Cx} {ρ : Env} {S : Store} {e a b : Expr}
/-- what the reading of an expression gives -/
abbrev Ok (A : Pa) (X : Cx) (C : Cxt) (ρ : Env) (x : Ex) : Prop := ∀ S, PB X x.e (tEv A ρ S (ev C x ρ S))
theorem opt_rs' {α : Type} {R : Hp → List V → α → V → Prop} {σ : L2.St} {μ : List V} {H Hf : Hp} {o : Option α} {Q : VK} (h : Rs A R σ S μ H Hf (opt S o) Q) : ∃ a, o = some a ∧ Rs A R σ S μ H Hf (.ok a S) Q := by
  cases o with
  | none => exact h.elim
  | some a => exact ⟨a, rfl, h⟩
theorem bl_of {w : Wd} {b : Bool} (e : isBl w = some b) : w = .t (.bl b) := by
  cases w with
  | t d => cases d <;> cases e <;> rfl
  | _ => cases e
theorem int_of {w : Wd} {b : Int} (e : isInt w = some b) : w = .t (.int b) := by
  cases w with
  | t d => cases d <;> cases e <;> rfl
  | _ => cases e
theorem sd_chain {C : Cxt} {o o2 : Cop} {x y z : Ex} {p : Pos} (ha : Ok A X C ρ x) (hb : Ok A X C ρ y) (hc : Ok A X C ρ z) : Ok A X C ρ (.chain o o2 x y z p) := by
  intro S
  unfold Ex.e ev
  have hm : lastMarks [o.op, o2.op] [y.e, z.e] = false := by
    show lastMarks [o2.op] [z.e] = false
    show behindInMarks o2.op z.e = false
    exact noSet _ _
  have mk : ∀ ta tb tc, PE X x.e ta → PE X y.e tb → PE X z.e tc → PB X (.Compare x.e [o.op, o2.op] [y.e, z.e] p) (tChain (rCmp o) (rCmp o2) ta tb tc) :=
    fun ta tb tc h1 h2 h3 => ⟨pe_chain (op_cmpD o) (op_cmpD o2) h1 h2 h3 hm, pt_chain (op_cmpD o) (op_cmpD o2) h1 h2 h3 hm⟩
  cases e1 : ev C x ρ S with
  | no => exact noPB
  | ex q S1 =>
    have h1 := (ha S).pe
    rw [e1] at h1
    exact impPB (mk _ _ _ h1 (hb S).pe (hc S).pe) fun σ H Q ⟨μ, Hf, sm, en, h⟩ => ⟨μ, Hf, sm, en, h⟩
  | ok w S1 =>
    have h1 := (ha S).pe
    rw [e1] at h1
    show PB X _ (tEv A ρ S ((ev C y ρ S1).bd _))
    cases e2 : ev C y ρ S1 with
    | no => exact noPB
    | ex q S2 =>
      have h2 := (hb S1).pe
      rw [e2] at h2
      refine impPB (mk _ _ _ h1 h2 (hc S).pe) fun σ H Q ⟨μ, Hf, sm, en, h⟩ => ⟨μ, Hf, sm, en, fun v μ1 H1 Hf1 s1 x1 w1 => ?_⟩
      exact ⟨μ1, Hf1, s1, en.xt x1, Rs.step h x1⟩
    | ok u S2 =>
      have h2 := (hb S1).pe
      rw [e2] at h2
      refine impPB (mk _ _ _ h1 h2 (hc S2).pe) fun σ H Q ⟨μ, Hf, sm, en, h⟩ => ⟨μ, Hf, sm, en, fun v μ1 H1 Hf1 s1 x1 w1 => ?_⟩
      refine ⟨μ1, Hf1, s1, en.xt x1, fun v2 μ2 H2 Hf2 s2 x2 w2 => ?_⟩
      have w1' := w1.xt x2
      have x12 := x1.trans x2
      have h' : Rs A (RW A) σ S μ H Hf ((opt S2 (isInt w)).bd fun i S2 => (opt S2 (isInt u)).bd fun j S2 => if cmpD o i j = true then (ev C z ρ S2).bd fun z S3 => (opt S3 (isInt z)).bd fun k S3 => .ok (.t (.bl (cmpD o2 j k))) S3 else .ok (.t (.bl false)) S2) Q := h
      have h5 := Rs.step h' x12
      obtain ⟨i, ei, h6⟩ := opt_rs h5
      obtain ⟨j, ej, h7⟩ := opt_rs h6
      clear h h' h5 h6
      obtain rfl := int_of ei
      obtain rfl := int_of ej
      cases wr_int w1'; cases wr_int w2
      refine ⟨_, _, rfl, rfl, _, rfl, ?_⟩
      by_cases hk : cmpD o i j = true
      · rw [if_pos hk] at h7 ⊢
        refine ev_then s2 (en.xt x12) h7 fun c S3 u3 μ3 H3 Hf3 s3 _ w3 x3 h3 => ?_
        obtain ⟨k, ek, h3⟩ := opt_rs h3
        obtain rfl := int_of ek
        cases wr_int w3
        exact ⟨_, _, rfl, rfl, h3.done s3 (.bl _)⟩
      · rw [if_neg hk] at h7 ⊢
        exact h7.done s2 (.bl _)
def rIsN (neg : Bool) : V → Hp → VK → Prop := fun x H Q => Q (.bl (neg ^^ decide (x = .non))) H
theorem sd_isN {C : Cxt} {neg : Bool} {x : Ex} {j : Nat} {q p : Pos} (ha : Ok A X C ρ x) : Ok A X C ρ (.isN neg x j q p) := by
  intro S
  unfold Ex.e ev
  refine unB (r := rIsN neg) (ha S) (fun ta h => ?_) fun w S1 v σ H μ Hf Q s r h => ?_
  · cases neg with
    | false => exact ⟨impPE (pe_cmp (pc_isN h.pe)) fun σ H Q h => by simpa [rIsN, tIsN] using h, impPT (pt_cmp (pc_isN h.pe)) fun σ H Q h => by simpa [rIsN, tIsN, tTest, tB] using h⟩
    | true => exact ⟨impPE (pe_cmp (pc_notN h.pe)) fun σ H Q h => by simpa [rIsN, tNotN] using h, impPT (pt_cmp (pc_notN h.pe)) fun σ H Q h => by simpa [rIsN, tNotN, tTest, tB] using h⟩
  · unfold rIsN
    obtain ⟨c, e, h⟩ := opt_rs h
    have nd : ∀ {Hx : Hp} {v : V} {d : Dt}, Rp A.K Hx v d → decide (v = .non) = isNonD d := fun r => by cases r <;> simp [isNonD]
    have ec : decide (v = .non) = c := by
      cases w with
      | x e => cases e
      | c ds => cases e
      | t d => rw [nd r]; exact Option.some.inj e
      | h k =>
        have r : μ[k]? = some v := r
        unfold isNon at e
        cases e1 : S1[k]? with
        | none => simp [e1] at e
        | some c =>
          have cr := s.cell k c v e1 r
          cases cr with
          | lst _ _ _ => simp [e1] at e; simp [e]
          | dK _ _ _ _ _ => simp [e1] at e; simp [e]
          | dT _ _ _ _ _ => simp [e1] at e; simp [e]
          | frz r' => simp [e1] at e; rw [nd r', e]
    rw [ec]
    exact h.done s (.bl _)
theorem sd_not {C : Cxt} {x : Ex} {p : Pos} (ha : Ok A X C ρ x) : Ok A X C ρ (.not x p) := by
  intro S
  unfold Ex.e ev
  have key : ∀ (σ : L2.St) (H : Hp) (Q : VK), tEv A ρ S ((ev C x ρ S).bd fun x S1 => (opt S1 (isBl x)).bd fun b S2 => .ok (.t (.bl (!b))) S2) σ H Q → tEv A ρ S (ev C x ρ S) σ H fun v H1 => ∃ c, v = .bl c ∧ Q (.bl (!c)) H1 := fun σ H Q ⟨μ, Hf, sm, en, h⟩ => by
    refine ev_then sm en h fun w S1 v μ1 H1 Hf1 s1 _ w1 _ h1 => ?_
    obtain ⟨c, e, h1⟩ := opt_rs h1
    cases w with
    | t d =>
      cases d with
      | bl b =>
        have e' : b = c := Option.some.inj e
        subst e'
        cases wr_bl w1
        exact ⟨_, rfl, h1.done s1 (.bl _)⟩
      | _ => cases e
    | _ => cases e
  refine ⟨impPE (pe_not (ha S).pe) fun σ H Q h => key σ H Q h, impPT (pt_not (ha S).pt) fun σ H Q h => ?_⟩
  obtain ⟨μ, Hf, sm, en, h'⟩ := key σ H _ h
  refine ⟨μ, Hf, sm, en, ?_⟩
  have mono : ∀ (g : Res Wd) (Q1 Q2 : VK), (∀ v H, Q1 v H → Q2 v H) → Rs A (RW A) σ S μ H Hf g Q1 → Rs A (RW A) σ S μ H Hf g Q2 := fun g Q1 Q2 i h => by
    cases g with
    | ok w S' => exact fun v μ' H' Hf' a b c => i _ _ (h v μ' H' Hf' a b c)
    | ex e S' => exact h
    | no => exact h
  refine mono _ _ _ (fun v H1 ⟨c, e, k, ek, q⟩ => ⟨c, e, ?_⟩) h'
  have ek' : (!c) = k := by injection ek
  show Q (!c) H1
  rw [ek']; exact q
theorem sd_neg {C : Cxt} {x : Ex} {p : Pos} (ha : Ok A X C ρ x) : Ok A X C ρ (.neg x p) := by
  intro S
  unfold Ex.e ev
  refine unB (r := rU fun i => .int (-i)) (ha S) (fun ta h => .of (pe_un un_neg h.pe)) fun w S1 v σ H μ Hf Q s r h => ?_
  obtain ⟨i, e, h⟩ := opt_rs h
  cases w with
  | t d =>
    cases d with
    | int j =>
      have e' : j = i := Option.some.inj e
      subst e'
      cases wr_int r
      exact ⟨_, rfl, h.done s (.int _)⟩
    | _ => cases e
  | _ => cases e
/-! ### and, or -/
theorem PW.imp' {e : Expr} {t t' : TT} (h : PW X e t) (i : ∀ σ H Q, t' σ H Q → t σ H Q) : PW X e t' := ⟨fun wh pins s σ H Q I q => h.run wh pins s σ H Q I (i σ H Q q)⟩
theorem evB_cons {C : Cxt} {and : Bool} {x y : Ex} {r : List Ex} {S : Store} : evB C and (x :: y :: r) ρ S = (ev C x ρ S).bd fun w S1 => (opt S1 (isBl w)).bd fun b S2 => if (b ^^ and) = true then .ok (.t (.bl b)) S2 else evB C and (y :: r) ρ S2 := by
  conv => lhs; unfold evB
theorem evB_one {C : Cxt} {and : Bool} {x : Ex} {S : Store} : evB C and [x] ρ S = (ev C x ρ S).bd fun w S1 => (opt S1 (isBl w)).bd fun b S2 => .ok (.t (.bl b)) S2 := by
  conv => lhs; unfold evB
theorem sdB {C : Cxt} {and : Bool} {p : Pos} : ∀ (as : List Ex), as ≠ [] → (∀ x ∈ as, Ok A X C ρ x) → ∀ S, PE X (.BoolOp (if and = true then .And else .Or) (Exs.e as) p) (tEv A ρ S (evB C and as ρ S)) ∧ PW X (.BoolOp (if and = true then .And else .Or) (Exs.e as) p) (tTest (tEv A ρ S (evB C and as ρ S)))
  | [], h, _, _ => absurd rfl h
  | [x], _, hx, S => by
    have ha := hx x List.mem_cons_self S
    rw [evB_one]
    unfold Exs.e Exs.e
    have key : ∀ (σ : L2.St) (H : Hp) (Q : VK), tEv A ρ S ((ev C x ρ S).bd fun w S1 => (opt S1 (isBl w)).bd fun b S2 => .ok (.t (.bl b)) S2) σ H Q → tEv A ρ S (ev C x ρ S) σ H Q := fun σ H Q ⟨μ, Hf, sm, en, h⟩ => by
      refine ev_then sm en h fun w S1 v μ1 H1 Hf1 s1 _ w1 _ h1 => ?_
      obtain ⟨c, e, h1⟩ := opt_rs h1
      obtain rfl := bl_of e
      exact h1.done s1 w1
    refine ⟨impPE (pe_one ha.pe) key, ?_⟩
    cases and with
    | true => exact PW.imp' (pw_and1 ha.pt) fun σ H Q h => key σ H _ h
    | false => exact PW.imp' (pw_or1 ha.pt) fun σ H Q h => key σ H _ h
  | x :: y :: r, _, hx, S => by
    have ha := hx x List.mem_cons_self S
    have ih := fun S => sdB (and := and) (p := p) (y :: r) (by simp) (fun z hz => hx z (List.mem_cons_of_mem _ hz)) S
    rw [evB_cons]
    unfold Exs.e
    cases e1 : ev C x ρ S with
    | no => exact ⟨neverPE fun σ H Q ⟨_, _, _, _, h⟩ => h, PW.imp' (t := fun _ _ _ => False) ⟨fun _ _ _ _ _ _ _ h => h.elim⟩ fun σ H Q ⟨_, _, _, _, h⟩ => h⟩
    | ex q S1 =>
      rw [e1] at ha
      cases and with
      | true => exact ⟨impPE (pe_and ha.pe (ih S).1) fun σ H Q ⟨μ, Hf, sm, en, h⟩ => ⟨μ, Hf, sm, en, h⟩, PW.imp' (pw_and ha.pt (ih S).2) fun σ H Q ⟨μ, Hf, sm, en, h⟩ => ⟨μ, Hf, sm, en, h⟩⟩
      | false => exact ⟨impPE (pe_or ha.pe (ih S).1) fun σ H Q ⟨μ, Hf, sm, en, h⟩ => ⟨μ, Hf, sm, en, h⟩, PW.imp' (pw_or ha.pt (ih S).2) fun σ H Q ⟨μ, Hf, sm, en, h⟩ => ⟨μ, Hf, sm, en, h⟩⟩
    | ok w S1 =>
      rw [e1] at ha
      cases e2 : isBl w with
      | none =>
        have z : ∀ (σ : L2.St) (H : Hp) (Q : VK), ¬ tEv A ρ S ((Res.ok w S1).bd fun w S1 => (opt S1 (isBl w)).bd fun b S2 => if (b ^^ and) = true then .ok (.t (.bl b)) S2 else evB C and (y :: r) ρ S2) σ H Q := fun σ H Q ⟨_, _, _, _, h⟩ => by
          have h' : Rs A (RW A) σ S _ H _ ((opt S1 (isBl w)).bd fun b S2 => if (b ^^ and) = true then Res.ok (.t (.bl b)) S2 else evB C and (y :: r) ρ S2) Q := h
          rw [e2] at h'
          exact h'
        exact ⟨neverPE z, PW.imp' (t := fun _ _ _ => False) ⟨fun _ _ _ _ _ _ _ h => h.elim⟩ fun σ H Q h => z σ H _ h⟩
      | some c =>
        obtain rfl := bl_of e2
        have simpR : ((Res.ok (Wd.t (.bl c)) S1).bd fun w S1 => (opt S1 (isBl w)).bd fun b S2 => if (b ^^ and) = true then Res.ok (.t (.bl b)) S2 else evB C and (y :: r) ρ S2) = (if (c ^^ and) = true then Res.ok (.t (.bl c)) S1 else evB C and (y :: r) ρ S1) := rfl
        rw [simpR]
        have key : ∀ (σ : L2.St) (H : Hp) (Q : VK) (Q2 : VK), tEv A ρ S (if (c ^^ and) = true then Res.ok (.t (.bl c)) S1 else evB C and (y :: r) ρ S1) σ H Q →
            (∀ H1, (c ^^ and) = true → Q (.bl c) H1 → Q2 (.bl c) H1) → (∀ H1, (c ^^ and) = false → tEv A ρ S1 (evB C and (y :: r) ρ S1) σ H1 Q → Q2 (.bl c) H1) → tEv A ρ S (.ok (.t (.bl c)) S1) σ H Q2 := fun σ H Q Q2 ⟨μ, Hf, sm, en, h⟩ k1 k2 => by
          refine ⟨μ, Hf, sm, en, fun v μ1 H1 Hf1 s1 x1 w1 => ?_⟩
          cases wr_bl w1
          by_cases hc : (c ^^ and) = true
          · rw [if_pos hc] at h
            exact k1 H1 hc (h _ μ1 H1 Hf1 s1 x1 w1)
          · rw [if_neg hc] at h
            exact k2 H1 (by simpa using hc) ⟨μ1, Hf1, s1, en.xt x1, Rs.step h x1⟩
        cases and with
        | true =>
          refine ⟨impPE (pe_and ha.pe (ih S1).1) fun σ H Q h => ?_, PW.imp' (pw_and ha.pt (ih S1).2) fun σ H Q h => ?_⟩
          · refine key σ H Q _ h (fun H1 hc q => ⟨c, rfl, ?_⟩) fun H1 hc q => ⟨c, rfl, ?_⟩
            · have : c = false := by simpa using hc
              subst this; exact iteF q
            · have : c = true := by simpa using hc
              subst this; exact iteT q
          · refine key σ H _ _ h (fun H1 hc q => ⟨c, rfl, ?_⟩) fun H1 hc q => ⟨c, rfl, ?_⟩
            · have : c = false := by simpa using hc
              subst this
              obtain ⟨k, ek, q⟩ := q
              cases ek
              exact iteF q
            · have : c = true := by simpa using hc
              subst this; exact iteT q
        | false =>
          refine ⟨impPE (pe_or ha.pe (ih S1).1) fun σ H Q h => ?_, PW.imp' (pw_or ha.pt (ih S1).2) fun σ H Q h => ?_⟩
          · refine key σ H Q _ h (fun H1 hc q => ⟨c, rfl, ?_⟩) fun H1 hc q => ⟨c, rfl, ?_⟩
            · have : c = true := by simpa using hc
              subst this; exact iteT q
            · have : c = false := by simpa using hc
              subst this; exact iteF q
          · refine key σ H _ _ h (fun H1 hc q => ⟨c, rfl, ?_⟩) fun H1 hc q => ⟨c, rfl, ?_⟩
            · have : c = true := by simpa using hc
              subst this
              obtain ⟨k, ek, q⟩ := q
              cases ek
              exact iteT q
            · have : c = false := by simpa using hc
              subst this; exact iteF q
theorem sd_bop {C : Cxt} {and : Bool} {as : List Ex} {p : Pos} (hn : as ≠ []) (ha : ∀ x ∈ as, Ok A X C ρ x) : Ok A X C ρ (.bop and as p) := fun S => by
  unfold Ex.e ev
  obtain ⟨h1, h2⟩ := sdB (and := and) (p := p) as hn ha S
  exact ⟨h1, h2.pt⟩
/-! ### a if c else b -/
theorem pt_ife {c x y : Expr} {tc tx ty : TT} {p : Pos} (hc : PT X c tc) (hx : PT X x tx) (hy : PT X y ty) : PT X (.IfExp c x y p) (fun σ H Q => tc σ H fun b H1 => if b = true then tx σ H1 Q else ty σ H1 Q) := by
  refine ⟨fun pins s σ H Q I h => ?_⟩
  have e : ∀ whole, isTrue (.IfExp c x y p) X.env whole = (do if ← isTrue c X.env (eval c X.env) then isTrue x X.env (eval x X.env) else isTrue y X.env (eval y X.env)) := fun whole => by
    conv => lhs; unfold PySem.isTrue
  rw [e]
  refine wpAny_bind (thn (hc.run pins s σ H _ I h) fun b s1 ⟨H1, I1, q1⟩ => ?_)
  cases b with
  | true => exact hx.run pins s1 σ H1 Q I1 q1
  | false => exact hy.run pins s1 σ H1 Q I1 q1
theorem tst_then {C : Cxt} {x : Ex} {β : Type} {R : Hp → List V → β → V → Prop} {f : Bool → Store → Res β} {σ : L2.St} {H : Hp} {Q : VK} {r : Bool → Hp → Prop} {μ : List V} {Hf : Hp} (sm : Sm A.K A.bs μ S H Hf) (en : En A.K Hf μ A.xr ρ σ)
    (h : Rs A R σ S μ H Hf ((tst (ev C x ρ S)).bd f) Q) (hr : ∀ b S1 μ1 H1 Hf1, Sm A.K A.bs μ1 S1 H1 Hf1 → En A.K Hf1 μ1 A.xr ρ σ → Xt S μ H Hf S1 μ1 H1 Hf1 → Rs A R σ S1 μ1 H1 Hf1 (f b S1) Q → tst (ev C x ρ S) = .ok b S1 → r b H1) : tTest (tEv A ρ S (ev C x ρ S)) σ H r := by
  refine ⟨μ, Hf, sm, en, ?_⟩
  unfold tst at h hr
  cases e1 : ev C x ρ S with
  | no => rw [e1] at h; exact h
  | ex q S1 => rw [e1] at h; exact h
  | ok w S1 =>
    rw [e1] at h hr
    intro v μ1 H1 Hf1 s1 x1 w1
    cases e2 : isBl w with
    | none =>
      have h' : Rs A R σ S μ H Hf ((opt S1 (isBl w)).bd f) Q := h
      rw [e2] at h'
      exact h'.elim
    | some c =>
      have h' : Rs A R σ S μ H Hf ((opt S1 (isBl w)).bd f) Q := h
      rw [e2] at h'
      obtain rfl := bl_of e2
      cases wr_bl w1
      exact ⟨c, rfl, hr c S1 μ1 H1 Hf1 s1 (en.xt x1) x1 (Rs.step h' x1) rfl⟩
theorem sd_ife {C : Cxt} {c x y : Ex} {p : Pos} (hc : Ok A X C ρ c) (ha : Ok A X C ρ x) (hb : Ok A X C ρ y) : Ok A X C ρ (.ife c x y p) := fun S => by
  unfold Ex.e ev
  cases e1 : tst (ev C c ρ S) with
  | no => exact noPB
  | ex q S1 =>
    refine ⟨impPE (pe_ifExp (hc S).pt (ha S).pe (hb S).pe) fun σ H Q ⟨μ, Hf, sm, en, h⟩ => ?_, impPT (pt_ife (hc S).pt (ha S).pt (hb S).pt) fun σ H Q ⟨μ, Hf, sm, en, h⟩ => ?_⟩
    · refine tst_then (R := RW A) (f := fun _ S => .no) sm en (by rw [e1]; exact h) fun b S1 μ1 H1 Hf1 s1 en1 x1 h1 _ => h1.elim
    · refine tst_then (R := RW A) (f := fun _ S => .no) sm en (by rw [e1]; exact h) fun b S1 μ1 H1 Hf1 s1 en1 x1 h1 _ => h1.elim
  | ok b S1 =>
    have go : ∀ (σ : L2.St) (H : Hp) (Q : VK) (r : Bool → Hp → Prop), tEv A ρ S ((Res.ok b S1).bd fun x_1 S1 => if x_1 = true then ev C x ρ S1 else ev C y ρ S1) σ H Q → (∀ H1, (if b = true then tEv A ρ S1 (ev C x ρ S1) σ H1 Q else tEv A ρ S1 (ev C y ρ S1) σ H1 Q) → r b H1) → tTest (tEv A ρ S (ev C c ρ S)) σ H r := fun σ H Q r ⟨μ, Hf, sm, en, h⟩ k => by
      have h' : Rs A (RW A) σ S μ H Hf ((tst (ev C c ρ S)).bd fun x_1 S1 => if x_1 = true then ev C x ρ S1 else ev C y ρ S1) Q := by rw [e1]; exact h
      refine tst_then sm en h' fun b2 S2 μ1 H1 Hf1 s1 en1 x1 h1 e2 => ?_
      rw [e1] at e2
      injection e2 with q1 q2
      subst q1; subst q2
      refine k H1 ?_
      cases b with
      | true => rw [if_pos rfl]; exact ⟨μ1, Hf1, s1, en1, by rw [if_pos rfl] at h1; exact h1⟩
      | false => rw [if_neg Bool.false_ne_true]; exact ⟨μ1, Hf1, s1, en1, by rw [if_neg Bool.false_ne_true] at h1; exact h1⟩
    exact ⟨impPE (pe_ifExp (hc S).pt (ha S1).pe (hb S1).pe) fun σ H Q h => go σ H Q _ h fun H1 q => q, impPT (pt_ife (hc S).pt (ha S1).pt (hb S1).pt) fun σ H Q h => go σ H _ _ h fun H1 q => q⟩
end
end Gw

namespace Gw
open PySem PySem.Spec PyProof.Rows L2
/-! ### argument lists -/
theorem star_ex (x : Ex) (r : List Expr) (env : PySem.Env) : starEach (x.e :: r) env = (false, eval x.e env) :: starEach r env := by cases x <;> rfl
theorem star_exs (pos : Pos) (env : PySem.Env) : ∀ es : List Ex, ((backTo pos (starEach (Exs.e es) env)).any (·.1)) = false
  | [] => rfl
  | x :: r => by
    unfold Exs.e
    rw [star_ex]
    show (false || (backTo pos (starEach (Exs.e r) env)).any (·.1)) = false
    rw [star_exs pos env r]; rfl
section
variable (A : Pa)
abbrev RWs : Hp → List V → List Wd → List V → Prop := fun Hf μ ws vs => Paired (WR A.K Hf μ A.xr) ws vs
def tAs (ρ : Env) (S : Store) (r : Res (List Wd)) : TA := fun σ H Q => ∃ μ Hf, Sm A.K A.bs μ S H Hf ∧ En A.K Hf μ A.xr ρ σ ∧ Rs A (RWs A) σ S μ H Hf r Q
end
section
variable {A : Pa} {X : Cx} {ρ : Env} {S : Store} {e a b : Expr} {C : Cxt}
theorem pa_evs : ∀ (es : List Ex), (∀ x ∈ es, Ok A X C ρ x) → ∀ S, PA X (Exs.e es) (tAs A ρ S (evs C es ρ S))
  | [], _, S => by
    unfold Exs.e evs
    exact impPA pa_nil fun σ H Q ⟨μ, Hf, sm, en, h⟩ => Rs.done h sm .nil
  | x :: r, hx, S => by
    have ha := (hx x List.mem_cons_self S).pe
    have ih := pa_evs r fun y hy => hx y (List.mem_cons_of_mem _ hy)
    unfold Exs.e evs
    cases e1 : ev C x ρ S with
    | no => exact neverPA fun σ H Q ⟨_, _, _, _, h⟩ => h
    | ex q S1 =>
      rw [e1] at ha
      exact impPA (pa_cons ha (ih S) (star_ex _ _ _)) fun σ H Q ⟨μ, Hf, sm, en, h⟩ => ⟨μ, Hf, sm, en, h⟩
    | ok w S1 =>
      rw [e1] at ha
      refine impPA (pa_cons ha (ih S1) (star_ex _ _ _)) fun σ H Q ⟨μ, Hf, sm, en, h⟩ => ⟨μ, Hf, sm, en, fun v μ1 H1 Hf1 s1 x1 w1 => ?_⟩
      have h' : Rs A (RWs A) σ S μ H Hf ((evs C r ρ S1).bd fun ws S2 => .ok (w :: ws) S2) Q := h
      have h2 := Rs.step h' x1
      refine ⟨μ1, Hf1, s1, en.xt x1, ?_⟩
      cases e2 : evs C r ρ S1 with
      | no => rw [e2] at h2; exact h2
      | ex q S2 => rw [e2] at h2; exact h2
      | ok ws S2 =>
        rw [e2] at h2
        exact fun vs μ2 H2 Hf2 s2 x2 w2 => h2 (v :: vs) μ2 H2 Hf2 s2 x2 (.cons (w1.xt x2) w2)
theorem evs_len : ∀ (es : List Ex) (S S' : Store) (ws : List Wd), evs C es ρ S = .ok ws S' → ws.length = es.length
  | [], S, S', ws, h => by
    unfold evs at h
    injection h with h1 _
    subst h1; rfl
  | x :: r, S, S', ws, h => by
    unfold evs at h
    cases e1 : ev C x ρ S with
    | no => rw [e1] at h; cases h
    | ex q S1 => rw [e1] at h; cases h
    | ok w S1 =>
      rw [e1] at h
      have h' : (evs C r ρ S1).bd (fun ws S2 => .ok (w :: ws) S2) = .ok ws S' := h
      cases e2 : evs C r ρ S1 with
      | no => rw [e2] at h'; cases h'
      | ex q S2 => rw [e2] at h'; cases h'
      | ok zs S2 =>
        rw [e2] at h'
        injection h' with h1 _
        subst h1
        rw [List.length_cons, List.length_cons, evs_len r S1 S2 zs e2]
/-- an argument list, then something -/
theorem as_then {es : List Ex} {β γ : Type} {R : Hp → List V → β → γ → Prop} {f : List Wd → Store → Res β} {σ : L2.St} {H : Hp} {Q : γ → Hp → Prop} {r : List V → Hp → Prop} {μ : List V} {Hf : Hp} (sm : Sm A.K A.bs μ S H Hf) (en : En A.K Hf μ A.xr ρ σ)
    (h : Rs A R σ S μ H Hf ((evs C es ρ S).bd f) Q) (hr : ∀ ws S1 vs μ1 H1 Hf1, evs C es ρ S = .ok ws S1 → Sm A.K A.bs μ1 S1 H1 Hf1 → En A.K Hf1 μ1 A.xr ρ σ → Paired (WR A.K Hf1 μ1 A.xr) ws vs → Xt S μ H Hf S1 μ1 H1 Hf1 → Rs A R σ S1 μ1 H1 Hf1 (f ws S1) Q → r vs H1) : tAs A ρ S (evs C es ρ S) σ H r := by
  refine ⟨μ, Hf, sm, en, ?_⟩
  cases e1 : evs C es ρ S with
  | ok ws S1 => rw [e1] at h; exact fun vs μ1 H1 Hf1 s1 x1 w1 => hr ws S1 vs μ1 H1 Hf1 e1 s1 (en.xt x1) w1 x1 (Rs.step h x1)
  | ex x S1 => rw [e1] at h; exact h
  | no => rw [e1] at h; exact h
theorem len_line {n : Nat} (h : n ≤ 1000) : n ≤ sizeLine := by rw [sizeLine_eq]; omega
theorem sd_tup {es : List Ex} {k : Nat} {p : Pos} (ha : ∀ x ∈ es, Ok A X C ρ x) : Ok A X C ρ (.tup es k p) := fun S => by
  unfold Ex.e ev
  by_cases hl : es.length ≤ 1000
  · rw [if_pos hl]
    refine .of (impPE (pe_tup (pa_evs es ha S)) fun σ H Q ⟨μ, Hf, sm, en, h⟩ => ?_)
    refine as_then sm en h fun ws S1 vs μ1 H1 Hf1 e1 s1 _ w1 _ h1 => ⟨?_, fun p hp => mkT_rs s1 w1 h1 hp⟩
    rw [← w1.length, evs_len _ _ _ _ e1]
    exact len_line hl
  · rw [if_neg hl]; exact noPB
theorem sd_lst {m : Bool} {es : List Ex} {p : Pos} (ha : ∀ x ∈ es, Ok A X C ρ x) : Ok A X C ρ (.lst m es p) := fun S => by
  unfold Ex.e ev
  by_cases hl : es.length ≤ 1000
  · rw [if_pos hl]
    refine .of (impPE (pe_lst (pa_evs es ha S)) fun σ H Q ⟨μ, Hf, sm, en, h⟩ => ?_)
    refine as_then sm en h fun ws S1 vs μ1 H1 Hf1 e1 s1 _ w1 _ h1 => ⟨?_, fun p hp => mkL_rs s1 w1 h1 hp⟩
    rw [← w1.length, evs_len _ _ _ _ e1]
    exact len_line hl
  · rw [if_neg hl]; exact noPB
/-! ### dicts -/
theorem sd_dic0 {m tk : Bool} {p : Pos} : Ok A X C ρ (.dic0 m tk p) := fun S => by
  unfold Ex.e ev
  show PB X (.Dict [] [] p) _
  have key : ∀ (σ : L2.St) (H : Hp) (Q : VK) (o : HO), (tk = false → o = .dK []) → (tk = true → o = .dT []) → tEv A ρ S (mkD m tk [] S) σ H Q → ∀ q, H q = none → Q (.ref q) (upd H q o) := fun σ H Q o h0 h1 ⟨μ, Hf, sm, en, h⟩ q hq => by
    cases m with
    | true =>
      have h' : Rs A (RW A) σ S μ H Hf (.ok (.h S.length) (S ++ [.dic tk false []])) Q := h
      have cr : CR A.K (upd H q o) Hf (μ ++ [.ref q]) (.dic tk false []) (.ref q) := by
        cases tk with
        | false => exact .dK (kvs := []) upd_same (by rw [h0 rfl]; rfl) (sm.fresh hq) rfl .nil
        | true => exact .dT (kvs := []) upd_same (by rw [h1 rfl]; rfl) (sm.fresh hq) rfl .nil
      obtain ⟨s1, x1⟩ := sm.newC hq cr rfl
      refine h'.to s1 x1 ?_
      show (μ ++ [V.ref q])[S.length]? = some (.ref q)
      rw [← sm.len]; simp
    | false =>
      have h' : Rs A (RW A) σ S μ H Hf (.ok (.t (.dic tk [])) S) Q := h
      obtain ⟨s1, x1⟩ := sm.tree (o := o) hq
      refine h'.to s1 x1 ?_
      cases tk with
      | false => exact .dK (kvs := []) (ks := []) (.inl (by rw [upd_same, h0 rfl])) rfl .nil rfl
      | true => exact .dT (kvs := []) (.inl (by rw [upd_same, h1 rfl])) rfl .nil rfl
  cases tk with
  | false => exact .of (impPE pe_dnewK fun σ H Q h => key σ H Q (.dK []) (fun _ => rfl) (fun z => by cases z) h)
  | true => exact .of (impPE pe_dnewT fun σ H Q h => key σ H Q (.dT []) (fun z => by cases z) (fun _ => rfl) h)
theorem atom_v {K : PySem.W.Frag} {H : Hp} {v : V} {d : Dt} {k : Key} (r : Rp K H v d) (h : atomK d = some k) : v = kV k := by
  cases r <;> cases h <;> rfl
theorem atoms_v {K : PySem.W.Frag} {H : Hp} : ∀ {vs : List V} {ds : List Dt} {ks : List Key}, RpA K H vs ds → mapO atomK ds = some ks → vs = ks.map kV
  | _, _, ks, .nil, h => by
    have : ks = [] := by simpa [mapO] using h.symm
    subst this; rfl
  | _, _, ks, .cons h1 t, h => by
    rename_i v vs d ds
    unfold mapO at h
    cases e1 : atomK d with
    | none => rw [e1] at h; simp at h
    | some k =>
      cases e2 : mapO atomK ds with
      | none => rw [e1, e2] at h; simp at h
      | some ks' =>
        rw [e1, e2] at h
        simp at h
        subst h
        rw [List.map_cons, ← atom_v h1 e1, ← atoms_v t e2]
theorem val_get {κ : Type} [DecidableEq κ] {R : Wd → V → Prop} {f : κ → List Key} (hf : ∀ a b, f a = f b → a = b) (k : κ) : ∀ {kvs : List (κ × V)} {kws : List (List Key × Wd)}, kvs.map (fun p => f p.1) = kws.map (·.1) → Paired R (kws.map (·.2)) (kvs.map (·.2)) →
    match getA kws (f k) with | some w => ∃ v, valV kvs k = some v ∧ R w v | none => valV kvs k = none
  | [], [], _, _ => rfl
  | p :: r, q :: s, h1, h2 => by
    simp only [List.map_cons, List.cons.injEq] at h1
    rw [List.map_cons, List.map_cons] at h2
    cases h2 with
    | cons g1 g2 =>
      by_cases e : p.1 = k
      · have e' : q.1 = f k := by rw [← h1.1, e]
        have g : getA (q :: s) (f k) = some q.2 := by simp [getA, List.find?_cons, e']
        rw [g]
        exact ⟨p.2, valV_pos e, g1⟩
      · have e' : ¬ q.1 = f k := fun z => e (hf _ _ (by rw [h1.1, z]))
        have g : getA (q :: s) (f k) = getA s (f k) := by simp [getA, List.find?_cons, e']
        rw [g, valV_neg e]
        exact val_get hf k h1.2 g2
  | [], _ :: _, h1, _ => by simp at h1
  | _ :: _, [], h1, _ => by simp at h1
theorem one_inj (a b : Key) (h : [a] = [b]) : a = b := by injection h
/-- what a dict holds at a key -/
theorem dget_ok {K : PySem.W.Frag} {bs : List Nat} {μ : List V} {H Hf : Hp} {tk : Bool} {kws : List (List Key × Wd)} {a : Addr} {d : Dt} {u : V} {k : List Key} (s : Sm K bs μ S H Hf) (g : DicR K H Hf μ tk kws a) (r : Rp K Hf u d) (hk : keyOf tk d = some k) :
    ∃ o, DGet H a u o ∧ match getA kws k with | some w => ∃ v, o = some v ∧ WR K Hf μ noXr w v | none => o = none := by
  rcases g with ⟨rfl, kvs, h1, h2, h3⟩ | ⟨rfl, kvs, h1, h2, h3⟩
  · cases e : atomK d with
    | none => simp [keyOf, e] at hk
    | some k0 =>
      have ek : [k0] = k := by simpa [keyOf, e] using hk
      subst ek
      have eu := atom_v r e
      exact ⟨valV kvs k0, .inl ⟨kvs, k0, h1, eu, rfl⟩, val_get (f := fun k => [k]) one_inj k0 h2 h3⟩
  · cases r with
    | tup q1 q2 =>
      rename_i b vs ds
      have eu := atoms_v q2 (show mapO atomK ds = some k from hk)
      subst eu
      exact ⟨valV kvs k, .inr ⟨kvs, k, b, h1, rfl, s.sub.tp _ _ q1, rfl⟩, val_get (f := fun k => k) (fun _ _ e => e) k h2 h3⟩
    | _ => simp [keyOf] at hk
def dgetD (x y : Wd) (S : Store) : Res Wd := match y, vw S x with
  | .t d, .dic tk kvs => (opt S (keyOf tk d)).bd fun k S3 => opt S3 (getA kvs k)
  | _, _ => .no
theorem sd_dget {x y : Ex} {p : Pos} (hu : X.A.units + 1 < cLine) (ha : Ok A X C ρ x) (hb : Ok A X C ρ y) : Ok A X C ρ (.dget x y p) := fun S => by
  unfold Ex.e ev
  refine binB (f := dgetD) (r := fun x y H Q => ∃ a v, x = .ref a ∧ DGet H a y (some v) ∧ Q v H) (ha S) hb (fun ta tb h1 h2 => .of (pe_dget hu h1 h2 (by cases y <;> intro _ _ <;> rfl))) fun x y S1 v u σ H μ Hf Q s rx ry h => ?_
  unfold dgetD at h
  split at h
  · rename_i d tk kvs e
    obtain ⟨k, ek, h1⟩ := opt_rs h
    obtain ⟨w, ew, h2⟩ := opt_rs' h1
    obtain ⟨a, rfl, g⟩ := s.dic rx e
    obtain ⟨o, q1, q2⟩ := dget_ok s g ry ek
    rw [ew] at q2
    obtain ⟨v, rfl, r⟩ := q2
    exact ⟨a, v, rfl, q1, h2.done s (r.reX fun e z => by rw [z] at r; exact r)⟩
  · exact h.elim
def rDIn (neg : Bool) : R2 := fun y x H Q => ∃ a o, x = .ref a ∧ DGet H a y o ∧ Q (.bl (neg ^^ o.isSome)) H
theorem sd_inD {neg : Bool} {x y : Ex} {p : Pos} (hu : X.A.units + 1 < cLine) (ha : Ok A X C ρ x) (hb : Ok A X C ρ y) : Ok A X C ρ (.inD neg x y p) := fun S => by
  unfold Ex.e ev
  refine binB (r := rDIn neg) (ha S) hb (fun ta tb h1 h2 => ?_) fun x y S1 v u σ H μ Hf Q s rx ry h => ?_
  · cases neg with
    | false =>
      exact ⟨impPE (pe_cmp (pc_din hu h1 h2) (noSet _ _)) fun σ H Q h => by simpa [tOp, rDIn, tDIn] using h, impPT (pt_cmp (pc_din hu h1 h2) (noSet _ _)) fun σ H Q h => by simpa [tTest, tB, tOp, rDIn, tDIn] using h⟩
    | true =>
      exact ⟨impPE (pe_cmp (pc_dnotin hu h1 h2) (noSet _ _)) fun σ H Q h => by simpa [tOp, rDIn, tDNotIn] using h, impPT (pt_cmp (pc_dnotin hu h1 h2) (noSet _ _)) fun σ H Q h => by simpa [tTest, tB, tOp, rDIn, tDNotIn] using h⟩
  · split at h
    · rename_i d tk kvs e
      obtain ⟨k, ek, h1⟩ := opt_rs h
      obtain ⟨a, rfl, g⟩ := s.dic ry e
      obtain ⟨o, q1, q2⟩ := dget_ok s g rx ek
      refine ⟨a, o, rfl, q1, ?_⟩
      have eo : o.isSome = (getA kvs k).isSome := by
        cases e2 : getA kvs k with
        | none => rw [e2] at q2; rw [q2]; rfl
        | some w => rw [e2] at q2; obtain ⟨v, rfl, _⟩ := q2; rfl
      rw [eo]
      exact h1.done s (.bl _)
    · exact h.elim
theorem sd_inT {neg : Bool} {x y : Ex} {p : Pos} (ha : Ok A X C ρ x) (hb : Ok A X C ρ y) : Ok A X C ρ (.inT neg x y p) := fun S => by
  unfold Ex.e ev
  refine binB (r := fun x y H Q => ∃ i j, x = .str i ∧ y = .str j ∧ Q (.bl (neg ^^ (!(Builtin.Str.occurrences j i 0 j.length 1).isEmpty))) H) (ha S) hb (cmpPB ?_ (noSet _ _)) fun x y S1 v u σ H μ Hf Q s rx ry h => ?_
  · cases neg with
    | false =>
      intro pins s σ H x y v u Q I rx ry ⟨i, j, h1, h2, q⟩
      exact op_in_str pins s σ H x y v u Q I rx ry ⟨i, j, h1, h2, by simpa using q⟩
    | true =>
      intro pins s σ H x y v u Q I rx ry ⟨i, j, h1, h2, q⟩
      exact op_notIn_str pins s σ H x y v u Q I rx ry ⟨i, j, h1, h2, by simpa using q⟩
  · split at h
    · cases wr_str rx; cases wr_str ry
      exact ⟨_, _, rfl, rfl, h.done s (.bl _)⟩
    · exact h.elim
/-! ### items, slices -/
theorem noXr_any {K : PySem.W.Frag} {Hf : Hp} {μ : List V} {xr : Xr} {w : Wd} {v : V} (r : WR K Hf μ noXr w v) : WR K Hf μ xr w v := r.reX fun e z => by rw [z] at r; exact r
theorem noXr_anys {K : PySem.W.Frag} {Hf : Hp} {μ : List V} {xr : Xr} {ws : List Wd} {vs : List V} (r : Paired (WR K Hf μ noXr) ws vs) : Paired (WR K Hf μ xr) ws vs := L2.Paired.mapP r fun _ _ q => noXr_any q
theorem sd_idx {x y : Ex} {p : Pos} (hK : X.K = A.K) (ha : Ok A X C ρ x) (hb : Ok A X C ρ y) : Ok A X C ρ (.idx x y p) := fun S => by
  unfold Ex.e ev
  refine binB (r := rIx X.K) (ha S) hb (fun ta tb h1 h2 => .of (pe_ix ix_seq h1 h2 (by cases y <;> intro _ _ <;> rfl))) fun x y S1 v u σ H μ Hf Q s rx ry h => ?_
  obtain ⟨i, ei, h1⟩ := opt_rs h
  obtain rfl := int_of ei
  cases wr_int ry
  unfold idxD at h1
  split at h1
  · cases wr_str rx
    split at h1
    · rename_i hl
      split at h1
      · rename_i c ec
        exact .inr (.inr ⟨_, _, c, rfl, rfl, by rw [← lineN_eq]; exact hl, ec, h1.done s (.str _)⟩)
      · exact h1.elim
    · exact h1.elim
  · split at h1
    · rename_i tup ws e
      obtain ⟨w, ew, h2⟩ := opt_rs' h1
      obtain ⟨a, vs, rfl, q, r⟩ := s.seq rx e
      obtain ⟨v, ev, rv⟩ := paired_at r ew
      have h3 := h2.done s (noXr_any rv)
      rw [hK]
      cases tup with
      | false => exact .inl ⟨a, vs, i, v, rfl, rfl, q, ev, h3⟩
      | true => exact .inr (.inl ⟨a, vs, i, v, rfl, rfl, q, ev, h3⟩)
    · exact h1.elim
theorem cut_eq (vs : List V) (lo hi : Option Int) : cutV vs lo hi = cutG vs lo hi := rfl
theorem paired_cut {α β : Type} {R : α → β → Prop} {xs : List α} {ys : List β} (r : Paired R xs ys) (lo hi : Option Int) : Paired R (cutG xs lo hi) (cutG ys lo hi) := by
  unfold cutG
  rw [r.length]
  exact paired_take _ (paired_drop _ r)
theorem map_cut {α β : Type} {f : α → β} {xs : List α} (lo hi : Option Int) : (cutG xs lo hi).map f = cutG (xs.map f) lo hi := by
  unfold cutG
  rw [List.map_take, List.map_drop, List.length_map]
theorem rpa_cut {K : PySem.W.Frag} {H : Hp} {vs : List V} {ds : List Dt} (r : RpA K H vs ds) (lo hi : Option Int) : RpA K H (cutG vs lo hi) (cutG ds lo hi) := RpA.of (paired_cut r.paired lo hi)
theorem sd_slc {m : Bool} {x : Ex} {lo hi : Option Ex} {q p : Pos} (hK : X.K = A.K) (ha : Ok A X C ρ x) (hl : ∀ y, lo = some y → Ok A X C ρ y) (hh : ∀ y, hi = some y → Ok A X C ρ y) : Ok A X C ρ (.slc m x lo hi q p) := fun S => by
  unfold Ex.e ev
  -- parts
  have part : ∀ (o : Option Ex), (∀ y, o = some y → Ok A X C ρ y) → ∀ S, ∃ t : TO, PO X (ExO.e o) t ∧ ∀ (σ : L2.St) (H : Hp) (Q : VK) (f : Option Int → Store → Res Wd) (r : Option Int → Hp → Prop) (μ : List V) (Hf : Hp), Sm A.K A.bs μ S H Hf → En A.K Hf μ A.xr ρ σ →
      Rs A (RW A) σ S μ H Hf ((evO C o ρ S).bd f) Q → (∀ i S1 μ1 H1 Hf1, evO C o ρ S = .ok i S1 → Sm A.K A.bs μ1 S1 H1 Hf1 → En A.K Hf1 μ1 A.xr ρ σ → Xt S μ H Hf S1 μ1 H1 Hf1 → Rs A (RW A) σ S1 μ1 H1 Hf1 (f i S1) Q → r i H1) → t σ H r := by
    intro o ho S
    cases o with
    | none =>
      refine ⟨_, po_none, fun σ H Q f r μ Hf sm en h k => ?_⟩
      have e : evO C none ρ S = .ok none S := by unfold evO; rfl
      rw [e] at h
      exact k none S μ H Hf e sm en .refl h
    | some y =>
      refine ⟨_, po_some (ho y rfl S).pe, fun σ H Q f r μ Hf sm en h k => ?_⟩
      have e : evO C (some y) ρ S = (ev C y ρ S).bd fun w S1 => (opt S1 (isInt w)).bd fun i S2 => .ok (some i) S2 := by unfold evO; rfl
      refine ⟨μ, Hf, sm, en, ?_⟩
      rw [e] at h k
      cases e1 : ev C y ρ S with
      | no => rw [e1] at h; exact h
      | ex q S1 => rw [e1] at h; exact h
      | ok w S1 =>
        rw [e1] at h k
        intro v μ1 H1 Hf1 s1 x1 w1
        cases e2 : isInt w with
        | none =>
          have h' : Rs A (RW A) σ S μ H Hf (((opt S1 (isInt w)).bd fun i S2 => Res.ok (some i) S2).bd f) Q := h
          rw [e2] at h'
          exact h'.elim
        | some i =>
          have h' : Rs A (RW A) σ S μ H Hf (((opt S1 (isInt w)).bd fun i S2 => Res.ok (some i) S2).bd f) Q := h
          rw [e2] at h'
          obtain rfl := int_of e2
          cases wr_int w1
          exact ⟨i, rfl, k (some i) S1 μ1 H1 Hf1 rfl s1 (en.xt x1) x1 (Rs.step h' x1)⟩
  have mk : ∀ (t1 : TO) (t2 : TO), PO X (ExO.e lo) t1 → PO X (ExO.e hi) t2 → ∀ ta, PE X x.e ta → PE X (.Subscript x.e (.Slice (ExO.e lo) (ExO.e hi) none q) p) (tSl (fun x lo hi H Q => rSlL X.K x lo hi H Q ∨ (rSlA X.K x lo hi H Q ∨ rSlS x lo hi H Q)) ta t1 t2) :=
    fun t1 t2 h1 h2 ta h => pe_slice (sl_list.or (sl_tupA.or sl_str)) h h1 h2
  refine .of ?_
  cases e1 : ev C x ρ S with
  | no => exact noPB.pe
  | ex q1 S1 =>
    obtain ⟨t1, p1, _⟩ := part lo hl S
    obtain ⟨t2, p2, _⟩ := part hi hh S
    have ha' := (ha S).pe
    rw [e1] at ha'
    exact impPE (mk t1 t2 p1 p2 _ ha') fun σ H Q ⟨μ, Hf, sm, en, h⟩ => ⟨μ, Hf, sm, en, h⟩
  | ok w S1 =>
    have ha' := (ha S).pe
    rw [e1] at ha'
    obtain ⟨t1, p1, k1⟩ := part lo hl S1
    have fin : ∀ (S3 : Store) (l u : Option Int) (σ : L2.St) (H : Hp) (Q : VK) (μ : List V) (Hf : Hp) (v : V), Sm A.K A.bs μ S3 H Hf → WR A.K Hf μ A.xr w v → Rs A (RW A) σ S3 μ H Hf (slcD m w l u S3) Q → (rSlL X.K v l u H Q ∨ (rSlA X.K v l u H Q ∨ rSlS v l u H Q)) := by
      intro S3 l u σ H Q μ Hf v s rw_ h
      unfold slcD at h
      split at h
      · cases wr_str rw_
        split at h
        · rename_i hc
          exact .inr (.inr ⟨_, rfl, by rw [← lineN_eq]; exact hc, h.done s (.str _)⟩)
        · exact h.elim
      · cases rw_ with
        | tup q1 q2 =>
          rename_i ds a vs
          refine .inr (.inl ⟨a, vs, rfl, .inl (.inl (s.sub.tp _ _ q1)), fun hw => ?_, fun hw p hp => ?_⟩)
          · have ew : cutG vs l u = vs := by
              unfold cutG
              rw [hw.1, hw.2]; simp
            have r := rpa_cut q2 l u
            rw [ew] at r
            exact h.done s (.tup q1 r)
          · obtain ⟨s1, x1⟩ := s.tree (o := .tup (cutV vs l u)) hp
            exact h.to s1 x1 (.tup upd_same (rpa_cut (q2.mono x1.fr) l u))
      · split at h
        · rename_i ws e
          obtain ⟨a, vs, rfl, q, r⟩ := s.seq rw_ e
          rw [hK]
          exact .inl ⟨a, vs, rfl, q, fun p hp => mkL_rs (xr := noXr) s (paired_cut r l u) h hp⟩
        · exact h.elim
    cases e2 : evO C lo ρ S1 with
    | no =>
      refine neverPE fun σ H Q ⟨μ, Hf, sm, en, h⟩ => ?_
      have h' : Rs A (RW A) σ S μ H Hf ((evO C lo ρ S1).bd fun l S2 => (evO C hi ρ S2).bd fun h S3 => slcD m w l h S3) Q := h
      rw [e2] at h'
      exact h'
    | ex q1 S2 =>
      obtain ⟨t2, p2, _⟩ := part hi hh S
      refine impPE (mk t1 t2 p1 p2 _ ha') fun σ H Q ⟨μ, Hf, sm, en, h⟩ => ⟨μ, Hf, sm, en, fun v μ1 H1 Hf1 s1 x1 w1 => ?_⟩
      refine k1 σ H1 Q (fun l S2 => (evO C hi ρ S2).bd fun h S3 => slcD m w l h S3) _ μ1 Hf1 s1 (en.xt x1) (Rs.step h x1) fun i S2 μ2 H2 Hf2 e3 => ?_
      rw [e2] at e3; cases e3
    | ok l S2 =>
      obtain ⟨t2, p2, k2⟩ := part hi hh S2
      refine impPE (mk t1 t2 p1 p2 _ ha') fun σ H Q ⟨μ, Hf, sm, en, h⟩ => ⟨μ, Hf, sm, en, fun v μ1 H1 Hf1 s1 x1 w1 => ?_⟩
      refine k1 σ H1 Q (fun l S2 => (evO C hi ρ S2).bd fun h S3 => slcD m w l h S3) _ μ1 Hf1 s1 (en.xt x1) (Rs.step h x1) fun i S2' μ2 H2 Hf2 e3 s2 en2 x2 h2 => ?_
      rw [e2] at e3
      injection e3 with g1 g2
      subst g1; subst g2
      exact k2 σ H2 Q (fun h S3 => slcD m w l h S3) _ μ2 Hf2 s2 en2 h2 fun j S3 μ3 H3 Hf3 _ s3 _ x3 h3 => fin S3 l j σ H3 Q μ3 Hf3 v s3 ((w1.xt x2).xt x3) h3
theorem sd_rev {m : Bool} {x : Ex} {j : Nat} {q1 q2 q3 p : Pos} (hK : X.K = A.K) (ha : Ok A X C ρ x) : Ok A X C ρ (.rev m x j q1 q2 q3 p) := fun S => by
  unfold Ex.e ev
  refine unB (r := fun x H Q => ∃ a xs, x = .ref a ∧ SqL X.K H a xs ∧ ∀ p, H p = none → Q (.ref p) (upd H p (.lst xs.reverse))) (ha S) (fun ta h => .of (pe_revL h.pe)) fun w S1 v σ H μ Hf Q s r h => ?_
  split at h
  · rename_i ws e
    obtain ⟨a, vs, rfl, q, rs⟩ := s.seq r e
    rw [hK]
    exact ⟨a, vs, rfl, q, fun p hp => mkL_rs s (paired_rev rs) h hp⟩
  · exact h.elim
end
end Gw

namespace Gw
open PySem PySem.Spec PyProof.Rows L2
def Fn.ps (F : Fn) : List Str := F.N.take F.np
abbrev paF (K : PySem.W.Frag) (ca : Str → Addr) (bs : List Nat) (E : XK) : Pa := ⟨K, ca, bs, noXr, fun cls d _ H => E cls d H⟩
/-- what a def promises -/
def spG (P : Prg) (K : PySem.W.Frag) (ca : Str → Addr) (n : Nat) (f : Str) (np : Nat) : Sp := fun vs H Q E => vs.length = np ∧ ∃ bs μ Hf S ws m, Sm K bs μ S H Hf ∧ Paired (WR K Hf μ noXr) ws vs ∧ Rs (paF K ca bs E) (RW (paF K ca bs E)) [] S μ H Hf (evF P n f m ws S) Q
/-- how its arguments bind -/
def BindsA (fd : FuncData) (ps : List Str) : Prop := ∀ (s : Shared) (us : List Value), us.length = ps.length → BindsTo s fd ⟨us, []⟩ (ps.zip us)
theorem BindsA.to {K : PySem.W.Frag} {fd : FuncData} {ps : List Str} (b : BindsA fd ps) : Binds K fd ps [] := fun s us _ hl => by
  rw [List.append_nil] at hl ⊢
  exact b s us hl
def FnS (prog : Program) (w : World) (K : PySem.W.Frag) (mg : Str → Option Value) (P : Prg) (ca : Str → Addr) (n : Nat) (f : Str) (F : Fn) : Prop :=
  ∃ fa fd, mg f = some (.ref fa) ∧ PySem.W.keepIn K (.ref fa) = true ∧ BindsA fd F.ps ∧ F.ps.length = F.np ∧ ∀ base, FnOk prog w K mg base (L2.CX prog w) (n + 8) fa fd F.ps (spG P K ca n f F.np)
def noCall : Str → Option (Bool → List Wd → Store → Res Wd) := fun _ => none
def bltNames : List Str := ["len", "sorted", "list", "tuple", "sum", "min", "max", "all", "any", "int", "str", "dict", "set", "range", "enumerate", "zip", "isinstance", "bool"]
structure CalmG (P : Prg) (n : Nat) (A : Pa) (X : Cx) (C : Cxt) : Prop where
  calm : X.calm = true
  xr : A.xr = noXr
  call : C.call = callOf P n
  room : Room (n + 8) X.A
  tk : Takes X A.W
  po : PassesOwn (model X.prog X.w) X.A X.env X.xe
/-- what is fixed around code -/
structure Gd (P : Prg) (n : Nat) (A : Pa) (X : Cx) (C : Cxt) : Prop where
  K : X.K = A.K
  un : X.A.units + 65 < cLine
  nd : X.N.Nodup
  kind : X.env.scope.kind = .function
  bs : ∀ b ∈ A.bs, b ≤ C.base
  on : C.calm = true → CalmG P n A X C
  off : C.calm = false → C.call = noCall
  fns : ∀ f F, P.fn f = some F → FnS X.prog X.w X.K X.mg P A.ca n f F
  glb : ∀ x w, C.glb x = some w → ∃ v u, X.mg x = some u ∧ RelV v u ∧ ∀ Hf μ xr, WR A.K Hf μ xr w v
  blt : ∀ x ∈ bltNames, X.mg x = none
section
variable {P : Prg} {n : Nat} {A : Pa} {X : Cx} {ρ : Env} {C : Cxt}
theorem pe_callS0 {k : Nat} {CX : CXT} {f : Addr} {fd : FuncData} {ps : List Str} {sp : Sp} {E : L2.St → XK} {x : Str} {p pos : Pos} (F : FnOk X.prog X.w X.K X.mg X.base CX k f fd ps sp) (hr : Room k X.A) (hg : Gl X x) (hm : X.mg x = some (.ref f)) (hk : PySem.W.keepIn X.K (.ref f) = true) (hb : Binds X.K fd ps []) (hx : ∀ σ, PassesAt CX X σ (E σ))
    (hdb : (x == ("__debug__" : Str)) = false) : PE X (.Call (.Name x p) [] [] pos) (tCallS sp E tNil) := by
  refine ⟨fun pins s σ H Q I h => ?_⟩
  refine wpAny_Call_Name_kw (ld_glob I hg hm ?_ hdb)
  exact PySem.W.callWith_K0 I.kIn hk (run_fnS (us := []) F hr hb (hx σ) I .nil h)
theorem sd_glb {x : Str} {p : Pos} (G : Gd P n A X C) (hg : Gl X x) (hdb : (x == ("__debug__" : Str)) = false) : Ok A X C ρ (.glb x p) := fun S => by
  unfold Ex.e ev
  cases e : C.glb x with
  | none => exact noPB
  | some w =>
    obtain ⟨v, u, hm, r, hw⟩ := G.glb x w e
    refine .of (impPE (pe_glob hg hm r hdb) fun σ H Q ⟨μ, Hf, sm, en, h⟩ => ?_)
    exact Rs.done h sm (hw _ _ _)
theorem rs_wd {K : PySem.W.Frag} {ca : Str → Addr} {bs : List Nat} {W W' : WX} {σ σ' : L2.St} {S : Store} {μ : List V} {H Hf : Hp} {r : Res Wd} {Q : VK} (h : Rs ⟨K, ca, bs, noXr, W⟩ (RW ⟨K, ca, bs, noXr, W⟩) σ S μ H Hf r Q) (hW : ∀ c d H, W c d σ H → W' c d σ' H) :
    Rs ⟨K, ca, bs, noXr, W'⟩ (RW ⟨K, ca, bs, noXr, W'⟩) σ' S μ H Hf r Q := by
  cases r with
  | ok w S' => exact fun v μ' H' Hf' s x w => h v μ' H' Hf' s x w
  | ex e S' => exact fun cls d μ' H' Hf' s x w => hW _ _ _ (h cls d μ' H' Hf' s x w)
  | no => exact h
theorem evF_len {f : Str} {m : Bool} {ws : List Wd} {S : Store} {F : Fn} (hf : P.fn f = some F) (h : ws.length ≠ F.np) : evF P n f m ws S = .no := by
  cases n with
  | zero => rfl
  | succ n => unfold evF; rw [hf]; exact if_neg h
theorem evF_none {f : Str} {m : Bool} {ws : List Wd} {S : Store} (hf : P.fn f = none) : evF P n f m ws S = .no := by
  cases n with
  | zero => rfl
  | succ n => unfold evF; rw [hf]
theorem sd_call {f : Str} {m : Bool} {es : List Ex} {q p : Pos} (G : Gd P n A X C) (hg : Gl X f) (hdb : (f == ("__debug__" : Str)) = false) (ha : ∀ x ∈ es, Ok A X C ρ x) : Ok A X C ρ (.call f m q es p) := fun S => by
  unfold Ex.e ev
  cases ec : C.call f with
  | none => exact noPB
  | some g =>
    have hcalm : C.calm = true := by
      cases z : C.calm with
      | true => rfl
      | false => rw [G.off z] at ec; cases ec
    have M := G.on hcalm
    rw [M.call] at ec
    unfold callOf at ec
    split at ec
    · rename_i hs
      injection ec with ec
      subst ec
      obtain ⟨F, hF⟩ := Option.isSome_iff_exists.mp hs
      obtain ⟨fa, fd, hm, hk, hb, hl, ok⟩ := G.fns f F hF
      have ax := M.xr
      obtain ⟨aK, aca, abs, axr, aW⟩ := A
      dsimp only at ax
      subst ax
      have hK := G.K
      dsimp only at hK
      subst hK
      have fin : ∀ (S1 : Store) (σ : L2.St) (H : Hp) (Q : VK) (μ : List V) (Hf : Hp) (ws : List Wd) (vs : List V), Sm X.K abs μ S1 H Hf → Paired (WR X.K Hf μ noXr) ws vs → Rs ⟨X.K, aca, abs, noXr, aW⟩ (RW ⟨X.K, aca, abs, noXr, aW⟩) σ S1 μ H Hf (evF P n f m ws S1) Q → spG P X.K aca n f F.np vs H Q (WE aW σ) := by
        intro S1 σ H Q μ Hf ws vs s r h
        refine ⟨?_, abs, μ, Hf, S1, ws, m, s, r, rs_wd h fun _ _ _ z => z⟩
        by_cases hw : ws.length = F.np
        · rw [← hw, r.length]
        · rw [evF_len hF hw] at h; exact h.elim
      cases es with
      | nil =>
        refine .of (impPE (pe_callS0 (E := WE aW) (ok _) M.room hg hm hk hb.to (fun σ => passAt M.tk σ) hdb) fun σ H Q ⟨μ, Hf, sm, en, h⟩ => ?_)
        unfold evs at h
        exact fin S σ H Q μ Hf [] [] sm .nil h
      | cons x r =>
        refine .of (impPE (pe_callS (E := WE aW) (ok _) M.room hg hm hk hb.to (fun σ => passAt M.tk σ) (by exact pa_evs (x :: r) ha S) hdb (star_ex _ _ _) (star_exs _ _ _)) fun σ H Q ⟨μ, Hf, sm, en, h⟩ => ?_)
        exact as_then sm en h fun ws S1 vs μ1 H1 Hf1 _ s1 _ w1 _ h1 => fin S1 σ H1 Q μ1 Hf1 ws vs s1 w1 h1
    · cases ec
end
end Gw

namespace Gw
open PySem PySem.Spec PyProof.Rows L2
/-! ### targets -/
mutual
def gT (K : PySem.W.Frag) : Tg → TG
  | .nm i _ _ => gName i
  | .tp ts _ _ => gTup K ts.length (gTs K ts)
def gTs (K : PySem.W.Frag) : List Tg → TGs
  | [] => gNil
  | t :: r => gCons (gT K t) (gTs K r)
end
mutual
def wfT (N : List Str) (sc : Scope) (fnc : Str → Bool) : Tg → Bool
  | .nm i x _ => decide (N[i]? = some x) && (match sc.names.lookup x with | some .local => true | some .cell => fnc x | _ => false)
  | .tp ts _ _ => wfTs N sc fnc ts
def wfTs (N : List Str) (sc : Scope) (fnc : Str → Bool) : List Tg → Bool
  | [] => true
  | t :: r => wfT N sc fnc t && wfTs N sc fnc r
end
mutual
def ixT : Tg → List Nat
  | .nm i _ _ => [i]
  | .tp ts _ _ => ixTs ts
def ixTs : List Tg → List Nat
  | [] => []
  | t :: r => ixT t ++ ixTs r
end
theorem loc_of {sc : Scope} {x : Str} {b : Bool} (h : (match sc.names.lookup x with | some .local => true | some .cell => b | _ => false) = true) : Loc sc x ∧ (b = true ∨ sc.names.lookup x = some .local) := by
  split at h
  · rename_i e; exact ⟨.inl e, .inr e⟩
  · rename_i e; exact ⟨.inr e, .inl h⟩
  · cases h
theorem tg_each (t : Tg) (r : List Expr) (env : PySem.Env) : assignEach (t.e :: r) env = (false, assign t.e env) :: assignEach r env := by cases t <;> rfl
theorem tgs_len : ∀ (ts : List Tg) (env : PySem.Env), (assignEach (Tgs.e ts) env).length = ts.length
  | [], _ => rfl
  | t :: r, env => by unfold Tgs.e; rw [tg_each, List.length_cons, List.length_cons, tgs_len r env]
theorem tgs_star : ∀ (ts : List Tg) (env : PySem.Env), (assignEach (Tgs.e ts) env).findIdx? (·.1) = none
  | [], _ => rfl
  | t :: r, env => by
    unfold Tgs.e
    rw [tg_each, List.findIdx?_cons, tgs_star r env]
    rfl
section
variable {X : Cx}
mutual
theorem pg_T (hc : X.calm = true) (hN : X.N.Nodup) : ∀ t : Tg, wfT X.N X.env.scope X.fn t = true → PG X t.e (gT X.K t)
  | .nm i x p, h => by
    unfold wfT at h
    obtain ⟨h1, h2⟩ := Bool.and_eq_true_iff.mp h
    obtain ⟨l1, l2⟩ := loc_of h2
    unfold Tg.e gT
    exact pg_name hN (of_decide_eq_true h1) l1 l2
  | .tp ts k p, h => by
    unfold wfT at h
    unfold Tg.e gT
    exact pg_tup hc (pgs_T hc hN ts h) (tgs_len _ _) (tgs_star _ _)
theorem pgs_T (hc : X.calm = true) (hN : X.N.Nodup) : ∀ ts : List Tg, wfTs X.N X.env.scope X.fn ts = true → PGs X (Tgs.e ts) (gTs X.K ts)
  | [], _ => by unfold Tgs.e gTs; exact pgs_nil
  | t :: r, h => by
    unfold wfTs at h
    obtain ⟨h1, h2⟩ := Bool.and_eq_true_iff.mp h
    unfold Tgs.e gTs
    exact pgs_cons (pg_T hc hN t h1) (pgs_T hc hN r h2) (by rw [tg_each]; rfl)
end
end
theorem En.set {K : PySem.W.Frag} {Hf : Hp} {μ : List V} {xr : Xr} {ρ : Env} {σ : L2.St} (e : En K Hf μ xr ρ σ) {i : Nat} {w : Wd} {v : V} (r : WR K Hf μ xr w v) : En K Hf μ xr (ρ.set i (some w)) (σ.set i (some v)) := by
  refine ⟨by simp [e.len], e.h0, fun j u h => ?_⟩
  by_cases hj : i = j
  · subst hj
    by_cases hl : i < ρ.length
    · rw [List.getElem?_set_self hl] at h
      cases h
      exact ⟨v, by rw [List.getElem?_set_self (by rw [← e.len]; exact hl)], r⟩
    · rw [List.getElem?_eq_none (by simpa using hl)] at h; cases h
  · rw [List.getElem?_set_ne hj] at h ⊢
    exact e.at_ j u h
theorem En.unset {K : PySem.W.Frag} {Hf : Hp} {μ : List V} {xr : Xr} {ρ : Env} {σ : L2.St} (e : En K Hf μ xr ρ σ) (i : Nat) : En K Hf μ xr (ρ.set i none) (σ.set i none) := by
  refine ⟨by simp [e.len], e.h0, fun j u h => ?_⟩
  by_cases hj : i = j
  · subst hj
    by_cases hl : i < ρ.length
    · rw [List.getElem?_set_self hl] at h; cases h
    · rw [List.getElem?_eq_none (by simpa using hl)] at h; cases h
  · rw [List.getElem?_set_ne hj] at h ⊢
    exact e.at_ j u h
/-- slots that agree but at some -/
def Off (ix : List Nat) (σ σ' : L2.St) : Prop := σ'.length = σ.length ∧ ∀ j, j ∉ ix → σ'[j]? = σ[j]?
section
variable {K : PySem.W.Frag} {bs : List Nat} {μ : List V} {H Hf : Hp} {xr : Xr} {S : Store}
mutual
theorem gT_ok (sm : Sm K bs μ S H Hf) : ∀ (t : Tg) (w : Wd) (v : V) (ρ ρ' : Env) (σ : L2.St) (Q : L2.St → Hp → Prop), En K Hf μ xr ρ σ → WR K Hf μ xr w v → bindT S t w ρ = some ρ' → (∀ σ', En K Hf μ xr ρ' σ' → Off (ixT t) σ σ' → Q σ' H) → gT K t v σ H Q
  | .nm i x p, w, v, ρ, ρ', σ, Q, en, r, h, k => by
    unfold bindT at h
    split at h
    · injection h with h
      subst h
      unfold gT
      refine k _ (en.set r) ⟨by simp, fun j hj => ?_⟩
      unfold ixT at hj
      rw [List.getElem?_set_ne (fun z => hj (by simp [z]))]
    · cases h
  | .tp ts kk p, w, v, ρ, ρ', σ, Q, en, r, h, k => by
    unfold bindT at h
    split at h
    · rename_i ws e
      split at h
      · rename_i hl
        obtain ⟨a, vs, rfl, q, rs⟩ := sm.seq r e
        unfold gT
        refine ⟨a, vs, rfl, q, by rw [← rs.length]; exact hl, ?_⟩
        exact gTs_ok sm ts ws vs ρ ρ' σ Q en (noXr_anys rs) h fun σ' e' o => k σ' e' (by unfold ixT; exact o)
      · cases h
    · cases h
theorem gTs_ok (sm : Sm K bs μ S H Hf) : ∀ (ts : List Tg) (ws : List Wd) (vs : List V) (ρ ρ' : Env) (σ : L2.St) (Q : L2.St → Hp → Prop), En K Hf μ xr ρ σ → Paired (WR K Hf μ xr) ws vs → bindTs S ts ws ρ = some ρ' → (∀ σ', En K Hf μ xr ρ' σ' → Off (ixTs ts) σ σ' → Q σ' H) → gTs K ts vs σ H Q
  | [], [], vs, ρ, ρ', σ, Q, en, r, h, k => by
    cases r
    unfold bindTs at h
    injection h with h
    subst h
    unfold gTs
    exact ⟨rfl, k σ en ⟨rfl, fun _ _ => rfl⟩⟩
  | [], _ :: _, _, _, _, _, _, _, _, h, _ => by simp [bindTs] at h
  | _ :: _, [], _, _, _, _, _, _, _, h, _ => by simp [bindTs] at h
  | t :: ts, w :: ws, vs, ρ, ρ', σ, Q, en, r, h, k => by
    cases r with
    | cons r1 r2 =>
      rename_i v vs
      unfold bindTs at h
      cases e1 : bindT S t w ρ with
      | none => rw [e1] at h; cases h
      | some ρ1 =>
        rw [e1] at h
        unfold gTs
        refine ⟨v, vs, rfl, ?_⟩
        refine gT_ok sm t w v ρ ρ1 σ _ en r1 e1 fun σ1 en1 o1 => ?_
        refine gTs_ok sm ts ws vs ρ1 ρ' σ1 Q en1 r2 h fun σ2 en2 o2 => k σ2 en2 ⟨o2.1.trans o1.1, fun j hj => ?_⟩
        unfold ixTs at hj
        rw [List.mem_append] at hj
        exact (o2.2 j fun z => hj (.inr z)).trans (o1.2 j fun z => hj (.inl z))
end
end
/-! ### what is wanted behind a statement -/
def RsO (A : Pa) (S : Store) (μ : List V) (H Hf : Hp) (o : Out) (D : Ends) : Prop := match o with
  | .nx ρ' S' => ∀ σ' μ' H' Hf', Sm A.K A.bs μ' S' H' Hf' → Xt S μ H Hf S' μ' H' Hf' → En A.K Hf' μ' A.xr ρ' σ' → D.nx σ' H'
  | .bk ρ' S' => ∀ σ' μ' H' Hf', Sm A.K A.bs μ' S' H' Hf' → Xt S μ H Hf S' μ' H' Hf' → En A.K Hf' μ' A.xr ρ' σ' → D.bk σ' H'
  | .ct ρ' S' => ∀ σ' μ' H' Hf', Sm A.K A.bs μ' S' H' Hf' → Xt S μ H Hf S' μ' H' Hf' → En A.K Hf' μ' A.xr ρ' σ' → D.ct σ' H'
  | .rt w S' => ∀ v μ' H' Hf', Sm A.K A.bs μ' S' H' Hf' → Xt S μ H Hf S' μ' H' Hf' → WR A.K Hf' μ' A.xr w v → D.rt v H'
  | .ex e ρ' S' => ∀ cls d σ' μ' H' Hf', Sm A.K A.bs μ' S' H' Hf' → Xt S μ H Hf S' μ' H' Hf' → En A.K Hf' μ' A.xr ρ' σ' → XO A.K A.ca Hf' e cls d → A.W cls d σ' H'
  | .no => False
def tSt (A : Pa) (ρ : Env) (S : Store) (o : Out) : TS := fun D σ H => ∃ μ Hf, Sm A.K A.bs μ S H Hf ∧ En A.K Hf μ A.xr ρ σ ∧ RsO A S μ H Hf o D
abbrev OkS (A : Pa) (X : Cx) (C : Cxt) (s : St) : Prop := ∀ ρ S, PS X s.s (tSt A ρ S (exec C s ρ S))
abbrev OkSs (A : Pa) (X : Cx) (C : Cxt) (s : List St) : Prop := ∀ ρ S, PSs X (Sts.s s) (tSt A ρ S (execs C s ρ S))
section
variable {A : Pa} {X : Cx} {C : Cxt} {ρ : Env} {S S1 : Store} {σ : L2.St} {μ μ1 : List V} {H Hf H1 Hf1 : Hp} {o : Out} {D D' : Ends}
theorem RsO.step (h : RsO A S μ H Hf o D) (x : Xt S μ H Hf S1 μ1 H1 Hf1) : RsO A S1 μ1 H1 Hf1 o D := by
  cases o with
  | nx ρ' S' => exact fun σ' μ' H' Hf' s y w => h σ' μ' H' Hf' s (x.trans y) w
  | bk ρ' S' => exact fun σ' μ' H' Hf' s y w => h σ' μ' H' Hf' s (x.trans y) w
  | ct ρ' S' => exact fun σ' μ' H' Hf' s y w => h σ' μ' H' Hf' s (x.trans y) w
  | rt w S' => exact fun σ' μ' H' Hf' s y w => h σ' μ' H' Hf' s (x.trans y) w
  | ex e ρ' S' => exact fun c d σ' μ' H' Hf' s y w => h c d σ' μ' H' Hf' s (x.trans y) w
  | no => exact h
theorem neverPS {e : Stmt} {t : TS} (h : ∀ D σ H, ¬ t D σ H) : PS X e t := ⟨fun _ _ σ H D _ q => absurd q (h D σ H)⟩
theorem neverPSs {e : List Stmt} {t : TS} (h : ∀ D σ H, ¬ t D σ H) : PSs X e t := ⟨fun _ _ σ H D _ q => absurd q (h D σ H)⟩
theorem noPS {e : Stmt} : PS X e (tSt A ρ S .no) := neverPS fun _ _ _ ⟨_, _, _, _, h⟩ => h
theorem noPSs {e : List Stmt} : PSs X e (tSt A ρ S .no) := neverPSs fun _ _ _ ⟨_, _, _, _, h⟩ => h
/-- an expression's value, then something -/
theorem st_then {g : Res Wd} {f : Wd → Store → Out} {r : V → Hp → Prop} (sm : Sm A.K A.bs μ S H Hf) (en : En A.K Hf μ A.xr ρ σ) (h : RsO A S μ H Hf (g.st ρ f) D)
    (hr : ∀ x S1 v μ1 H1 Hf1, Sm A.K A.bs μ1 S1 H1 Hf1 → En A.K Hf1 μ1 A.xr ρ σ → WR A.K Hf1 μ1 A.xr x v → Xt S μ H Hf S1 μ1 H1 Hf1 → RsO A S1 μ1 H1 Hf1 (f x S1) D → g = .ok x S1 → r v H1) : tEv A ρ S g σ H r := by
  refine ⟨μ, Hf, sm, en, ?_⟩
  cases g with
  | ok x S1 => exact fun v μ1 H1 Hf1 s1 x1 w1 => hr x S1 v μ1 H1 Hf1 s1 (en.xt x1) w1 x1 (RsO.step h x1) rfl
  | ex x S1 => exact fun cls d μ1 H1 Hf1 s1 x1 w1 => h cls d σ μ1 H1 Hf1 s1 x1 (en.xt x1) w1
  | no => exact h
theorem opt_st {α : Type} {o : Option α} {f : α → Store → Out} (h : RsO A S μ H Hf ((opt S o).st ρ f) D) : ∃ a, o = some a ∧ RsO A S μ H Hf (f a S) D := by
  cases o with
  | none => exact h.elim
  | some a => exact ⟨a, rfl, h⟩
theorem RsO.nx (h : RsO A S μ H Hf (.nx ρ S1) D) (s : Sm A.K A.bs μ1 S1 H1 Hf1) (x : Xt S μ H Hf S1 μ1 H1 Hf1) (e : En A.K Hf1 μ1 A.xr ρ σ) : D.nx σ H1 := h σ μ1 H1 Hf1 s x e
theorem tst_st {x : Ex} {f : Bool → Store → Out} {r : Bool → Hp → Prop} (sm : Sm A.K A.bs μ S H Hf) (en : En A.K Hf μ A.xr ρ σ) (h : RsO A S μ H Hf ((tst (ev C x ρ S)).st ρ f) D)
    (hr : ∀ b S1 μ1 H1 Hf1, Sm A.K A.bs μ1 S1 H1 Hf1 → En A.K Hf1 μ1 A.xr ρ σ → Xt S μ H Hf S1 μ1 H1 Hf1 → RsO A S1 μ1 H1 Hf1 (f b S1) D → tst (ev C x ρ S) = .ok b S1 → r b H1) : tTest (tEv A ρ S (ev C x ρ S)) σ H r := by
  refine ⟨μ, Hf, sm, en, ?_⟩
  unfold tst at h hr
  cases e1 : ev C x ρ S with
  | no => rw [e1] at h; exact h
  | ex q S1 => rw [e1] at h; exact fun cls d μ1 H1 Hf1 s1 x1 w1 => h cls d σ μ1 H1 Hf1 s1 x1 (en.xt x1) w1
  | ok w S1 =>
    rw [e1] at h hr
    intro v μ1 H1 Hf1 s1 x1 w1
    have h' : RsO A S μ H Hf ((opt S1 (isBl w)).st ρ f) D := h
    cases e2 : isBl w with
    | none => rw [e2] at h'; exact h'.elim
    | some b =>
      rw [e2] at h'
      obtain rfl := bl_of e2
      cases wr_bl w1
      refine ⟨b, rfl, hr b S1 μ1 H1 Hf1 s1 (en.xt x1) x1 (RsO.step h' x1) ?_⟩
      show (opt S1 (isBl (.t (.bl b)))) = _
      rw [e2]; rfl
/-! ### the plain statements -/
theorem so_nil : OkSs A X C [] := fun ρ S => by
  unfold Sts.s execs
  exact impPSs pss_nil fun D σ H ⟨μ, Hf, sm, en, h⟩ => RsO.nx h sm .refl en
theorem so_cons {a : St} {r : List St} (ha : OkS A X C a) (hr : OkSs A X C r) : OkSs A X C (a :: r) := fun ρ S => by
  unfold Sts.s execs
  cases e : exec C a ρ S with
  | nx ρ' S' =>
    have h1 := ha ρ S
    rw [e] at h1
    exact impPSs (pss_cons h1 (hr ρ' S')) fun D σ H ⟨μ, Hf, sm, en, h⟩ => ⟨μ, Hf, sm, en, fun σ' μ' H' Hf' s x en' => ⟨μ', Hf', s, en', RsO.step h x⟩⟩
  | no => exact noPSs
  | bk ρ' S' => have h1 := ha ρ S; rw [e] at h1; exact impPSs (pss_cons h1 (hr ρ S)) fun D σ H ⟨μ, Hf, sm, en, h⟩ => ⟨μ, Hf, sm, en, h⟩
  | ct ρ' S' => have h1 := ha ρ S; rw [e] at h1; exact impPSs (pss_cons h1 (hr ρ S)) fun D σ H ⟨μ, Hf, sm, en, h⟩ => ⟨μ, Hf, sm, en, h⟩
  | rt w S' => have h1 := ha ρ S; rw [e] at h1; exact impPSs (pss_cons h1 (hr ρ S)) fun D σ H ⟨μ, Hf, sm, en, h⟩ => ⟨μ, Hf, sm, en, h⟩
  | ex w ρ' S' => have h1 := ha ρ S; rw [e] at h1; exact impPSs (pss_cons h1 (hr ρ S)) fun D σ H ⟨μ, Hf, sm, en, h⟩ => ⟨μ, Hf, sm, en, h⟩
theorem so_pass {p : Pos} : OkS A X C (.pass p) := fun ρ S => by
  unfold St.s exec
  exact impPS ps_pass fun D σ H ⟨μ, Hf, sm, en, h⟩ => RsO.nx h sm .refl en
theorem so_brk {p : Pos} : OkS A X C (.brk p) := fun ρ S => by
  unfold St.s exec
  exact impPS ps_break fun D σ H ⟨μ, Hf, sm, en, h⟩ => h σ μ H Hf sm .refl en
theorem so_cont {p : Pos} : OkS A X C (.cont p) := fun ρ S => by
  unfold St.s exec
  exact impPS ps_continue fun D σ H ⟨μ, Hf, sm, en, h⟩ => h σ μ H Hf sm .refl en
theorem so_ret0 {p : Pos} : OkS A X C (.ret0 p) := fun ρ S => by
  unfold St.s exec
  exact impPS ps_retN fun D σ H ⟨μ, Hf, sm, en, h⟩ => h .non μ H Hf sm .refl .non
theorem so_ret {e : Ex} {p : Pos} (ha : ∀ ρ, Ok A X C ρ e) : OkS A X C (.ret e p) := fun ρ S => by
  unfold St.s exec
  exact impPS (ps_ret (ha ρ S).pe) fun D σ H ⟨μ, Hf, sm, en, h⟩ => st_then sm en h fun x S1 v μ1 H1 Hf1 s1 en1 w1 _ h1 _ => h1 v μ1 H1 Hf1 s1 .refl w1
theorem so_expr {e : Ex} {p : Pos} (ha : ∀ ρ, Ok A X C ρ e) (hs : swapsWith e.e none p.line X.env = pure false) : OkS A X C (.expr e p) := fun ρ S => by
  unfold St.s exec
  exact impPS (ps_expr (ha ρ S).pe hs) fun D σ H ⟨μ, Hf, sm, en, h⟩ => st_then sm en h fun x S1 v μ1 H1 Hf1 s1 en1 w1 _ h1 _ => RsO.nx h1 s1 .refl en1
theorem so_if {c : Ex} {a b : List St} {p : Pos} (hc : ∀ ρ, Ok A X C ρ c) (ha : OkSs A X C a) (hb : OkSs A X C b) : OkS A X C (.ifS c a b p) := fun ρ S => by
  unfold St.s exec
  cases e : tst (ev C c ρ S) with
  | no => exact noPS
  | ex q S1 =>
    refine impPS (ps_if (hc ρ S).pt (ha ρ S) (hb ρ S)) fun D σ H ⟨μ, Hf, sm, en, h⟩ => ?_
    have h' : RsO A S μ H Hf ((tst (ev C c ρ S)).st ρ fun x S => .no) D := by rw [e]; exact h
    exact tst_st sm en h' fun b S1 μ1 H1 Hf1 s1 en1 x1 h1 _ => h1.elim
  | ok z S1 =>
    refine impPS (ps_if (hc ρ S).pt (ha ρ S1) (hb ρ S1)) fun D σ H ⟨μ, Hf, sm, en, h⟩ => ?_
    have h' : RsO A S μ H Hf ((tst (ev C c ρ S)).st ρ fun x S => if x = true then execs C a ρ S else execs C b ρ S) D := by rw [e]; exact h
    refine tst_st sm en h' fun b2 S2 μ1 H1 Hf1 s1 en1 x1 h1 e2 => ?_
    rw [e] at e2
    injection e2 with q1 q2
    subst q1; subst q2
    cases z with
    | true => rw [if_pos rfl] at h1 ⊢; exact ⟨μ1, Hf1, s1, en1, h1⟩
    | false => rw [if_neg Bool.false_ne_true] at h1 ⊢; exact ⟨μ1, Hf1, s1, en1, h1⟩
/-- some suite, whatever its start -/
def tAny (A : Pa) (f : Env → Store → Out) : TS := fun D σ H => ∃ ρ S, tSt A ρ S (f ρ S) D σ H
theorem so_any {b : List St} (hb : OkSs A X C b) : PSs X (Sts.s b) (tAny A (execs C b)) := ⟨fun pins s σ H D I ⟨ρ, S, h⟩ => (hb ρ S).run pins s σ H D I h⟩
theorem RsO.imp (h : RsO A S μ H Hf o D) (hn : ∀ ρ' S', o = .nx ρ' S' → ∀ σ' μ' H' Hf', Sm A.K A.bs μ' S' H' Hf' → Xt S μ H Hf S' μ' H' Hf' → En A.K Hf' μ' A.xr ρ' σ' → D.nx σ' H' → D'.nx σ' H')
    (hb : ∀ σ H, D.bk σ H → D'.bk σ H) (hc : ∀ σ H, D.ct σ H → D'.ct σ H) (hr : ∀ σ H, D.rt σ H → D'.rt σ H) : RsO A S μ H Hf o D' := by
  cases o with
  | nx ρ' S' => exact fun σ' μ' H' Hf' s x w => hn _ _ rfl σ' μ' H' Hf' s x w (h σ' μ' H' Hf' s x w)
  | bk ρ' S' => exact fun σ' μ' H' Hf' s x w => hb _ _ (h σ' μ' H' Hf' s x w)
  | ct ρ' S' => exact fun σ' μ' H' Hf' s x w => hc _ _ (h σ' μ' H' Hf' s x w)
  | rt w S' => exact fun σ' μ' H' Hf' s x w => hr _ _ (h σ' μ' H' Hf' s x w)
  | ex e ρ' S' => exact h
  | no => exact h
theorem so_whl {c : Ex} {b : List St} {p : Pos} (hp : C.calm = true → PassesOwn (model X.prog X.w) X.A X.env X.xe) (hc : ∀ ρ, Ok A X C ρ c) (hb : OkSs A X C b) : OkS A X C (.whl c b p) := fun ρ S => by
  unfold St.s exec
  cases hcalm : C.calm with
  | false => exact noPS
  | true =>
  rw [if_neg (by decide)]
  have pt : PT X c.e (fun σ H Q => ∃ ρ S, tTest (tEv A ρ S (ev C c ρ S)) σ H Q) := ⟨fun pins s σ H Q I ⟨ρ, S, h⟩ => (hc ρ S).pt.run pins s σ H Q I h⟩
  refine impPS (ps_while (hp hcalm) pt (so_any hb)) fun D σ H ⟨μ, Hf, sm, en, h⟩ => ?_
  refine ⟨fun m σ H => ∃ ρ S μ Hf, Sm A.K A.bs μ S H Hf ∧ En A.K Hf μ A.xr ρ σ ∧ RsO A S μ H Hf (whGo (fun ρ S => tst (ev C c ρ S)) (fun ρ S => execs C b ρ S) m ρ S) D, ⟨_, ρ, S, μ, Hf, sm, en, h⟩, ?_⟩
  rintro m σ H ⟨ρ, S, μ, Hf, sm, en, h⟩
  cases m with
  | zero => exact h.elim
  | succ m =>
    refine ⟨ρ, S, ?_⟩
    unfold whGo at h
    refine tst_st sm en h fun z S1 μ1 H1 Hf1 s1 en1 x1 h1 _ => ?_
    cases z with
    | false => rw [if_neg Bool.false_ne_true] at h1 ⊢; exact RsO.nx h1 s1 .refl en1
    | true =>
      rw [if_pos rfl] at h1 ⊢
      refine ⟨fun σ H => ∃ ρ S μ Hf, Sm A.K A.bs μ S H Hf ∧ En A.K Hf μ A.xr ρ σ ∧ RsO A S μ H Hf (whGo (fun ρ S => tst (ev C c ρ S)) (fun ρ S => execs C b ρ S) m ρ S) D, fun σ' H' q => ⟨m, Nat.lt_succ_self m, q⟩, ρ, S1, μ1, Hf1, s1, en1, ?_⟩
      cases e : execs C b ρ S1 with
      | nx ρ' S' => rw [e] at h1; exact fun σ' μ' H' Hf' s x w => ⟨ρ', S', μ', Hf', s, w, RsO.step h1 x⟩
      | ct ρ' S' => rw [e] at h1; exact fun σ' μ' H' Hf' s x w => ⟨ρ', S', μ', Hf', s, w, RsO.step h1 x⟩
      | bk ρ' S' => rw [e] at h1; exact fun σ' μ' H' Hf' s x w => h1 σ' μ' H' Hf' s x w
      | rt w S' => rw [e] at h1; exact h1
      | ex w ρ' S' => rw [e] at h1; exact h1
      | no => rw [e] at h1; exact h1
end
end Gw

namespace Gw
open PySem PySem.Spec PyProof.Rows L2
/-! ### a list that is walked -/
section
variable {K : PySem.W.Frag} {bs : List Nat} {μ μ1 : List V} {H Hf H1 Hf1 : Hp} {xr : Xr} {S S1 : Store}
theorem Sm.flag (s : Sm K bs μ S H Hf) {k : Nat} {b b' : Bool} {ws : List Wd} (hc : S[k]? = some (.lst b ws)) : Sm K bs μ (S.set k (.lst b' ws)) H Hf := by
  refine ⟨by rw [List.length_set]; exact s.len, fun j c v h1 h2 => ?_, fun j j' c c' v h1 h2 l1 l2 m1 m2 => ?_, s.sub, fun b hb => by rw [List.length_set]; exact s.bsz b hb, fun b hb j c hj h1 => ?_⟩
  · rcases set_get h1 with ⟨rfl, e, hk⟩ | ⟨hj, h1⟩
    · subst e
      have := s.cell j _ v hc h2
      cases this with
      | lst q1 q2 q3 => exact .lst q1 q2 q3
    · exact s.cell j c v h1 h2
  · have old : ∀ {j : Nat} {c : Cl}, (S.set k (.lst b' ws))[j]? = some c → live c = true → ∃ c0, S[j]? = some c0 ∧ live c0 = true := fun {j c} h l => by
      rcases set_get h with ⟨rfl, e, hk⟩ | ⟨hj, h⟩
      · exact ⟨_, hc, rfl⟩
      · exact ⟨c, h, l⟩
    obtain ⟨c0, a1, a2⟩ := old h1 l1
    obtain ⟨c1, a3, a4⟩ := old h2 l2
    exact s.sep j j' c0 c1 v a1 a3 a2 a4 m1 m2
  · rcases set_get h1 with ⟨rfl, e, hk⟩ | ⟨hj', h1⟩
    · subst e
      have := s.frm b hb j _ hj hc
      exact this
    · exact s.frm b hb j c hj h1
theorem free_flag {k : Nat} {b b' : Bool} {ws : List Wd} {a : Addr} (hc : S[k]? = some (.lst b ws)) (h : ∀ (k : Nat) (c : Cl), S[k]? = some c → live c = true → μ[k]? ≠ some (.ref a)) : ∀ (j : Nat) (c : Cl), (S.set k (.lst b' ws))[j]? = some c → live c = true → μ[j]? ≠ some (.ref a) := fun j c h1 h2 => by
  rcases set_get h1 with ⟨rfl, _, _⟩ | ⟨_, h1⟩
  · exact h j _ hc rfl
  · exact h j c h1 h2
theorem lock_ok (s : Sm K bs μ S H Hf) (o : Option Nat) : Sm K bs μ (lockO S o).1 H Hf ∧ Xt S μ H Hf (lockO S o).1 μ H Hf := by
  cases o with
  | none => exact ⟨s, .refl⟩
  | some k =>
    unfold lockO
    dsimp only
    split
    · rename_i ws e
      refine ⟨s.flag e, ⟨mu_id, .refl _, fun j c a h1 h2 h3 => ⟨?_, rfl⟩, fun a o' ⟨f1, f2, f3⟩ => ⟨f1, f2, free_flag e f3⟩⟩⟩
      by_cases hj : j = k
      · subst hj
        rw [e] at h1; cases h1
        cases h2
      · exact ⟨c, by rw [List.getElem?_set_ne (Ne.symm hj)]; exact h1, h2⟩
    · exact ⟨s, .refl⟩
/-- behind a walk -/
theorem unlock_ok {o : Option Nat} (s : Sm K bs μ1 S1 H1 Hf1) (x : Xt (lockO S o).1 μ H Hf S1 μ1 H1 Hf1) (s0 : Sm K bs μ S H Hf) : Sm K bs μ1 (unlockC S1 (lockO S o).2) H1 Hf1 ∧ Xt S μ H Hf (unlockC S1 (lockO S o).2) μ1 H1 Hf1 := by
  have x0 := (lock_ok s0 o).2.trans x
  cases o with
  | none => exact ⟨s, x0⟩
  | some k =>
    unfold lockO at x0 ⊢
    dsimp only at x0 ⊢
    split
    · rename_i ws e
      unfold unlockC
      dsimp only
      split
      · rename_i zs e1
        refine ⟨s.flag e1, ⟨x0.mu, x0.fr, fun j c a h1 h2 h3 => ?_, fun a o' f => ⟨(x0.un a o' f).1, (x0.un a o' f).2.1, free_flag e1 (x0.un a o' f).2.2⟩⟩⟩
        obtain ⟨⟨c', q1, q2⟩, q3⟩ := x0.lk j c a h1 h2 h3
        refine ⟨?_, q3⟩
        by_cases hj : j = k
        · subst hj
          rw [e] at h1; cases h1
          cases h2
        · exact ⟨c', by rw [List.getElem?_set_ne (Ne.symm hj)]; exact q1, q2⟩
      · rename_i e1
        exact ⟨s, x0⟩
    · rename_i e
      exact ⟨s, x0⟩
end
/-- a walk gives the values ws, in this order -/
structure IW (A : Pa) (J : L2.It) (ws : List Wd) (S : Store) (μ : List V) (H Hf : Hp) : Prop where
  goes : ∀ S2 μ2 H2 Hf2 i, Sm A.K A.bs μ2 S2 H2 Hf2 → Xt S μ H Hf S2 μ2 H2 Hf2 → i < ws.length → J.go i H2
  stops : ∀ S2 μ2 H2 Hf2, Sm A.K A.bs μ2 S2 H2 Hf2 → Xt S μ H Hf S2 μ2 H2 Hf2 → J.stop ws.length H2
  yields : ∀ S2 μ2 H2 Hf2 i x H3, Sm A.K A.bs μ2 S2 H2 Hf2 → Xt S μ H Hf S2 μ2 H2 Hf2 → i < ws.length → J.yld i H2 x H3 →
    ∃ w Hf3, ws[i]? = some w ∧ Sm A.K A.bs μ2 S2 H3 Hf3 ∧ Xt S2 μ2 H2 Hf2 S2 μ2 H3 Hf3 ∧ WR A.K Hf3 μ2 A.xr w x
theorem iw_of {A : Pa} {J : L2.It} {n : Nat} {G : Hp → Prop} {xs : List V} {ws : List Wd} {S : Store} {μ : List V} {H Hf : Hp} (w : Walk J n G (YAt xs)) (hn : n = ws.length) (r : Paired (WR A.K Hf μ A.xr) ws xs)
    (hG : ∀ S2 μ2 H2 Hf2, Sm A.K A.bs μ2 S2 H2 Hf2 → Xt S μ H Hf S2 μ2 H2 Hf2 → G H2) : IW A J ws S μ H Hf := by
  subst hn
  refine ⟨fun S2 μ2 H2 Hf2 i s x hi => w.goes i H2 hi (hG _ _ _ _ s x), fun S2 μ2 H2 Hf2 s x => w.stops H2 (hG _ _ _ _ s x), fun S2 μ2 H2 Hf2 i v H3 s x hi y => ?_⟩
  obtain ⟨rfl, e⟩ := w.yields i H2 v H3 hi (hG _ _ _ _ s x) y
  obtain ⟨z, ez, rz⟩ := paired_get r (show ws[i]? = some ws[i] by simp [hi])
  rw [e] at ez
  cases ez
  exact ⟨_, Hf2, by simp [hi], s, .refl, rz.xt x⟩
/-- an iterable's reading -/
def RsI (A : Pa) (σ : L2.St) (S : Store) (μ : List V) (H Hf : Hp) (r : Res (List Wd × Option Nat)) (R : L2.It → Hp → Prop) : Prop := match r with
  | .ok p S' => ∀ J μ' H' Hf', Sm A.K A.bs μ' S' H' Hf' → Xt S μ H Hf S' μ' H' Hf' → IW A J p.1 (lockO S' p.2).1 μ' H' Hf' → R J H'
  | .ex e S' => ∀ cls d μ' H' Hf', Sm A.K A.bs μ' S' H' Hf' → Xt S μ H Hf S' μ' H' Hf' → XO A.K A.ca Hf' e cls d → A.W cls d σ H'
  | .no => False
def tIv (A : Pa) (ρ : Env) (S : Store) (r : Res (List Wd × Option Nat)) : TI := fun σ H R => ∃ μ Hf, Sm A.K A.bs μ S H Hf ∧ En A.K Hf μ A.xr ρ σ ∧ RsI A σ S μ H Hf r R
abbrev OkI (A : Pa) (X : Cx) (C : Cxt) (ρ : Env) (tg : Expr) (i : It) : Prop := ∀ S, PI X tg i.e (tIv A ρ S (evI C i ρ S))
section
variable {A : Pa} {X : Cx} {C : Cxt} {ρ : Env} {S S1 : Store} {σ : L2.St} {μ μ1 : List V} {H Hf H1 Hf1 : Hp} {tg : Expr}
theorem impPI {e : Expr} {t t' : TI} (h : PI X tg e t) (i : ∀ σ H Q, t' σ H Q → t σ H Q) : PI X tg e t' := ⟨fun pins s σ H Q I q => h.run pins s σ H Q I (i σ H Q q)⟩
theorem neverPI {e : Expr} {t : TI} (h : ∀ σ H Q, ¬ t σ H Q) : PI X tg e t := ⟨fun _ _ σ H Q _ q => absurd q (h σ H Q)⟩
theorem noPI {e : Expr} : PI X tg e (tIv A ρ S .no) := neverPI fun _ _ _ ⟨_, _, _, _, h⟩ => h
theorem RsI.step {r : Res (List Wd × Option Nat)} {R : L2.It → Hp → Prop} (h : RsI A σ S μ H Hf r R) (x : Xt S μ H Hf S1 μ1 H1 Hf1) : RsI A σ S1 μ1 H1 Hf1 r R := by
  cases r with
  | ok p S' => exact fun J μ' H' Hf' s y w => h J μ' H' Hf' s (x.trans y) w
  | ex e S' => exact fun cls d μ' H' Hf' s y w => h cls d μ' H' Hf' s (x.trans y) w
  | no => exact h
theorem iv_then {g : Res Wd} {f : Wd → Store → Res (List Wd × Option Nat)} {r : V → Hp → Prop} {R : L2.It → Hp → Prop} (sm : Sm A.K A.bs μ S H Hf) (en : En A.K Hf μ A.xr ρ σ) (h : RsI A σ S μ H Hf (g.bd f) R)
    (hr : ∀ x S1 v μ1 H1 Hf1, Sm A.K A.bs μ1 S1 H1 Hf1 → En A.K Hf1 μ1 A.xr ρ σ → WR A.K Hf1 μ1 A.xr x v → Xt S μ H Hf S1 μ1 H1 Hf1 → RsI A σ S1 μ1 H1 Hf1 (f x S1) R → g = .ok x S1 → r v H1) : tEv A ρ S g σ H r := by
  refine ⟨μ, Hf, sm, en, ?_⟩
  cases g with
  | ok x S1 => exact fun v μ1 H1 Hf1 s1 x1 w1 => hr x S1 v μ1 H1 Hf1 s1 (en.xt x1) w1 x1 (RsI.step h x1) rfl
  | ex x S1 => exact h
  | no => exact h
theorem opt_iv {α : Type} {o : Option α} {f : α → Store → Res (List Wd × Option Nat)} {R : L2.It → Hp → Prop} (h : RsI A σ S μ H Hf ((opt S o).bd f) R) : ∃ a, o = some a ∧ RsI A σ S μ H Hf (f a S) R := by
  cases o with
  | none => exact h.elim
  | some a => exact ⟨a, rfl, h⟩
/-- a locked list stays -/
theorem seq_stays {w : Wd} {v : V} {ws : List Wd} {tup : Bool} (s : Sm A.K A.bs μ S H Hf) (r : WR A.K Hf μ A.xr w v) (h : vw S w = .seq tup ws) :
    ∃ a vs, v = .ref a ∧ (if tup = true then SqT A.K H a vs else SqL A.K H a vs) ∧ Paired (WR A.K Hf μ A.xr) ws vs ∧
      ∀ S2 μ2 H2 Hf2, Sm A.K A.bs μ2 S2 H2 Hf2 → Xt (lockO S (hdl w)).1 μ H Hf S2 μ2 H2 Hf2 → (if tup = true then SqT A.K H2 a vs else SqL A.K H2 a vs) := by
  have tree : ∀ (d : Dt), Rp A.K Hf v d → vwT d = .seq tup ws → ∃ a vs, v = .ref a ∧ (if tup = true then SqT A.K H a vs else SqL A.K H a vs) ∧ Paired (WR A.K Hf μ A.xr) ws vs ∧
      ∀ S2 μ2 H2 Hf2, Sm A.K A.bs μ2 S2 H2 Hf2 → XR Hf Hf2 → (if tup = true then SqT A.K H2 a vs else SqL A.K H2 a vs) := fun d rp e => by
    cases d with
    | lst ds =>
      unfold vwT at e
      injection e with e1 e2
      subst e1; subst e2
      cases rp with
      | lst q1 q2 => exact ⟨_, _, rfl, by rw [if_neg Bool.false_ne_true]; exact s.sqL q1, noXr_anys (wrt_of q2), fun S2 μ2 H2 Hf2 s2 x => by rw [if_neg Bool.false_ne_true]; exact s2.sqL (sqL_mono x q1)⟩
    | tup ds =>
      unfold vwT at e
      injection e with e1 e2
      subst e1; subst e2
      cases rp with
      | tup q1 q2 => exact ⟨_, _, rfl, by rw [if_pos rfl]; exact .inl (.inl (s.sub.tp _ _ q1)), noXr_anys (wrt_of q2), fun S2 μ2 H2 Hf2 s2 x => by rw [if_pos rfl]; exact .inl (.inl (s2.sub.tp _ _ (x.tp _ _ q1)))⟩
    | _ => cases e
  cases w with
  | t d =>
    obtain ⟨a, vs, e1, e2, e3, e4⟩ := tree d r h
    exact ⟨a, vs, e1, e2, e3, fun S2 μ2 H2 Hf2 s2 x => e4 S2 μ2 H2 Hf2 s2 x.fr⟩
  | x e => cases h
  | c ds =>
    obtain ⟨a, vs, e, _, q, rs⟩ := r
    unfold vw at h
    injection h with e1 e2
    subst e1; subst e2
    have mv : ∀ {Hx : Hp}, XR Hf Hx → SqT A.K Hx a vs := fun {Hx} x => by
      rcases q with q | q
      · exact .inl (x.rd _ _ q)
      · exact .inr q
    exact ⟨a, vs, e, by rw [if_pos rfl]; exact mv s.sub, noXr_anys (wrt_of rs), fun S2 μ2 H2 Hf2 s2 x => by rw [if_pos rfl]; exact mv (x.fr.trans s2.sub)⟩
  | h k =>
    unfold vw at h
    dsimp only at h
    cases ek : S[k]? with
    | none => rw [ek] at h; cases h
    | some c =>
      rw [ek] at h
      have hm : μ[k]? = some v := r
      have cr := s.cell k c v ek hm
      cases c with
      | lst lk zs =>
        dsimp only at h
        injection h with e1 e2
        subst e1; subst e2
        cases cr with
        | lst q1 q2 q3 =>
          rename_i a vs
          refine ⟨a, vs, rfl, by rw [if_neg Bool.false_ne_true]; exact .inl (.inl q1), noXr_anys q3, fun S2 μ2 H2 Hf2 s2 x => ?_⟩
          rw [if_neg Bool.false_ne_true]
          have hl : ∃ c, (lockO S (hdl (.h k))).1[k]? = some c ∧ lockedC c = true := by
            unfold hdl lockO
            dsimp only
            rw [ek]
            cases lk with
            | true => exact ⟨_, ek, rfl⟩
            | false =>
              refine ⟨.lst true zs, ?_, rfl⟩
              have := (List.getElem?_eq_some_iff.mp ek).1
              dsimp only
              rw [List.getElem?_set_self this]
          obtain ⟨c, h1, h2⟩ := hl
          have := (x.lk k c a h1 h2 hm).2
          exact .inl (.inl (by rw [this]; exact q1))
      | dic tk lk kvs => cases h
      | ins c fs => cases h
      | frz d =>
        cases cr with
        | frz q =>
          obtain ⟨a, vs, e1, e2, e3, e4⟩ := tree d q h
          exact ⟨a, vs, e1, e2, e3, fun S2 μ2 H2 Hf2 s2 x => e4 S2 μ2 H2 Hf2 s2 x.fr⟩
theorem si_seq {x : Ex} (hK : X.K = A.K) (ha : Ok A X C ρ x) : OkI A X C ρ tg (.seq x) := fun S => by
  unfold It.e evI
  have h1 := (ha S).pe
  cases e1 : ev C x ρ S with
  | no => exact noPI
  | ex q S1 =>
    rw [e1] at h1
    exact impPI (pi_list h1) fun σ H Q ⟨μ, Hf, sm, en, h⟩ => ⟨μ, Hf, sm, en, h⟩
  | ok w S1 =>
    rw [e1] at h1
    show PI X tg x.e (tIv A ρ S (match vw S1 w with | .seq _ ws => .ok (ws, hdl w) S1 | _ => .no))
    cases e2 : vw S1 w with
    | dic tk kvs => exact noPI
    | oth => exact noPI
    | seq tup ws =>
      cases tup with
      | false =>
        refine impPI (pi_list h1) fun σ H Q ⟨μ, Hf, sm, en, h⟩ => ⟨μ, Hf, sm, en, fun v μ1 H1 Hf1 s1 x1 w1 => ?_⟩
        obtain ⟨a, vs, rfl, q, rs, st⟩ := seq_stays s1 w1 e2
        refine ⟨a, rfl, ⟨vs, by rw [hK]; exact q⟩, h _ μ1 H1 Hf1 s1 x1 ?_⟩
        rw [hK]
        exact iw_of walk_list (rs.length).symm rs st
      | true =>
        refine impPI (pi_tup h1) fun σ H Q ⟨μ, Hf, sm, en, h⟩ => ⟨μ, Hf, sm, en, fun v μ1 H1 Hf1 s1 x1 w1 => ?_⟩
        obtain ⟨a, vs, rfl, q, rs, st⟩ := seq_stays s1 w1 e2
        refine ⟨a, rfl, ⟨vs, by rw [hK]; exact q⟩, h _ μ1 H1 Hf1 s1 x1 ?_⟩
        rw [hK]
        exact iw_of walk_tup (rs.length).symm rs st
theorem iw_range {lo hi : Int} {ws : List Wd} (h : rngL lo hi = some ws) : IW A (Itr lo (hi - lo).toNat) ws S μ H Hf := by
  unfold rngL at h
  split at h
  · injection h with h
    subst h
    have w := @walk_range lo (hi - lo).toNat
    refine ⟨fun S2 μ2 H2 Hf2 i s x hi => w.goes i H2 (by simpa using hi) trivial, fun S2 μ2 H2 Hf2 s x => by rw [List.length_map, List.length_range]; exact w.stops H2 trivial, fun S2 μ2 H2 Hf2 i v H3 s x hi y => ?_⟩
    obtain ⟨rfl, rfl⟩ := w.yields i H2 v H3 (by simpa using hi) trivial y
    exact ⟨.t (.int (lo + (i : Nat))), Hf2, by rw [List.getElem?_map, List.getElem?_range (by simpa using hi)]; rfl, s, .refl, .int _⟩
  · cases h
theorem rng_ok {lo hi : Int} {ws : List Wd} (h : rngL lo hi = some ws) : -(2 ^ 62) ≤ lo ∧ lo < 2 ^ 62 ∧ -(2 ^ 62) ≤ hi ∧ hi < 2 ^ 62 := by
  unfold rngL at h
  split at h
  · rename_i q; exact ⟨q.1, q.2.1, q.2.2.1, q.2.2.2.1⟩
  · cases h
theorem one_pa {x : Ex} {r : Res Wd} (h : PE X x.e (tEv A ρ S r)) : PA X [x.e] (tCons (tEv A ρ S r) tNil) := pa_cons h pa_nil (star_ex _ _ _)
theorem star1 (x : Ex) (env : PySem.Env) : starEach [x.e] env = [(false, eval x.e env)] := by rw [star_ex]; rfl
theorem si_rng1 {x : Ex} {q p : Pos} (hg : Gl X "range") (hm : X.mg "range" = none) (ha : Ok A X C ρ x) : OkI A X C ρ tg (.rng1 q x p) := fun S => by
  unfold It.e evI
  refine impPI (pi_range1 hg hm (one_pa (ha S).pe) (star1 _ _)) fun σ H Q ⟨μ, Hf, sm, en, h⟩ => ?_
  refine iv_then sm en h fun w S1 v μ1 H1 Hf1 s1 en1 w1 x1 h1 _ => ?_
  obtain ⟨ws, e, h2⟩ := opt_iv h1
  cases ei : isInt w with
  | none => rw [ei] at e; cases e
  | some i =>
    rw [ei] at e
    obtain rfl := int_of ei
    cases wr_int w1
    have e' : rngL 0 i = some ws := e
    have b := rng_ok e'
    refine ⟨i, rfl, b.2.2.1, b.2.2.2, ?_⟩
    have z := iw_range (A := A) (S := (lockO S1 none).1) (μ := μ1) (H := H1) (Hf := Hf1) e'
    rw [Int.sub_zero] at z
    exact h2 _ μ1 H1 Hf1 s1 .refl z
end
end Gw

namespace Gw
open PySem PySem.Spec PyProof.Rows L2
section
variable {A : Pa} {X : Cx} {C : Cxt} {ρ : Env} {S S1 : Store} {σ : L2.St} {μ μ1 : List V} {H Hf H1 Hf1 : Hp} {tg : Expr} {o : Out} {D : Ends}
theorem si_rng2 {x y : Ex} {q p : Pos} (hg : Gl X "range") (hm : X.mg "range" = none) (ha : Ok A X C ρ x) (hb : Ok A X C ρ y) : OkI A X C ρ tg (.rng2 q x y p) := fun S => by
  unfold It.e evI
  have s2 : starEach [x.e, y.e] X.env = [(false, eval x.e X.env), (false, eval y.e X.env)] := by rw [star_ex, star_ex]; rfl
  cases e1 : ev C x ρ S with
  | no => exact noPI
  | ex q S1 =>
    have h1 := (ha S).pe
    rw [e1] at h1
    exact impPI (pi_range2 hg hm (pa_cons h1 (one_pa (hb S).pe) (star_ex _ _ _)) s2 (star1 _ _)) fun σ H Q ⟨μ, Hf, sm, en, h⟩ => ⟨μ, Hf, sm, en, h⟩
  | ok w S1 =>
    have h1 := (ha S).pe
    rw [e1] at h1
    refine impPI (pi_range2 hg hm (pa_cons h1 (one_pa (hb S1).pe) (star_ex _ _ _)) s2 (star1 _ _)) fun σ H Q ⟨μ, Hf, sm, en, h⟩ => ⟨μ, Hf, sm, en, fun v μ1 H1 Hf1 s1 x1 w1 => ?_⟩
    have h' : RsI A σ S μ H Hf ((ev C y ρ S1).bd fun v S2 => (opt S2 ((isInt w).bind fun lo => (isInt v).bind fun n => rngL lo n)).bd fun ws S3 => .ok (ws, none) S3) Q := h
    refine iv_then s1 (en.xt x1) (RsI.step h' x1) fun u S2 v2 μ2 H2 Hf2 s2 en2 w2 x2 h2 _ => ?_
    obtain ⟨ws, e, h3⟩ := opt_iv h2
    cases ei : isInt w with
    | none => rw [ei] at e; cases e
    | some i =>
      cases ej : isInt u with
      | none => rw [ei, ej] at e; cases e
      | some j =>
        rw [ei, ej] at e
        obtain rfl := int_of ei
        obtain rfl := int_of ej
        cases wr_int w1
        cases wr_int w2
        have e' : rngL i j = some ws := e
        have b := rng_ok e'
        exact ⟨i, j, rfl, b, h3 _ μ2 H2 Hf2 s2 .refl (iw_range e')⟩
theorem unl_rs {hk : Option Nat} (s : Sm A.K A.bs μ S H Hf) (h : RsO A S μ H Hf (o.unl (lockO S hk).2) D) : RsO A (lockO S hk).1 μ H Hf o D := by
  cases o with
  | nx ρ' S' => exact fun σ' μ' H' Hf' s' x en => let ⟨q1, q2⟩ := unlock_ok s' x s; h σ' μ' H' Hf' q1 q2 en
  | rt w S' => exact fun v μ' H' Hf' s' x r => let ⟨q1, q2⟩ := unlock_ok s' x s; h v μ' H' Hf' q1 q2 r
  | ex e ρ' S' => exact fun c d σ' μ' H' Hf' s' x en r => let ⟨q1, q2⟩ := unlock_ok s' x s; h c d σ' μ' H' Hf' q1 q2 en r
  | bk ρ' S' => exact h.elim
  | ct ρ' S' => exact h.elim
  | no => exact h
theorem fold_it (i : It) (env : PySem.Env) : ∀ x, foldedSetIterable i.e env x = pure x := by
  have go : ∀ (e : Ex) x, foldedSetIterable e.e env x = pure x := fun e => by cases e <;> intro _ <;> rfl
  intro x
  cases i with
  | seq a => exact go a x
  | kys a => exact go a x
  | _ => rfl
theorem drop_at {α : Type} {l : List α} {i : Nat} {w : α} (h : l[i]? = some w) : l.drop i = w :: l.drop (i + 1) := by
  obtain ⟨hi, e⟩ := List.getElem?_eq_some_iff.mp h
  rw [List.drop_eq_getElem_cons hi, e]
theorem so_for {t : Tg} {it : It} {b : List St} {p : Pos} (hx : C.calm = true → X.calm = true ∧ PassesOwn (model X.prog X.w) X.A X.env X.xe) (hK : X.K = A.K) (hN : X.N.Nodup) (ht : wfT X.N X.env.scope X.fn t = true) (hi : ∀ ρ, OkI A X C ρ t.e it) (hb : OkSs A X C b) : OkS A X C (.forS t it b p) := fun ρ S => by
  unfold St.s exec
  cases hcalm : C.calm with
  | false => exact noPS
  | true =>
  rw [if_neg (by decide)]
  obtain ⟨hc, hp⟩ := hx hcalm
  refine impPS (ps_for hp hc (hi ρ S) (pg_T hc hN t ht) (so_any hb) (fold_it _ _)) fun D σ H ⟨μ, Hf, sm, en, h⟩ => ⟨μ, Hf, sm, en, ?_⟩
  generalize hF : (fun w ρ S => match bindT S t w ρ with | some ρ' => execs C b ρ' S | none => Out.no) = F at h
  cases e1 : evI C it ρ S with
  | no => rw [e1] at h; exact h
  | ex q S1 => rw [e1] at h; exact fun cls d μ1 H1 Hf1 s1 x1 w1 => h cls d σ μ1 H1 Hf1 s1 x1 (en.xt x1) w1
  | ok p S1 =>
    rw [e1] at h
    obtain ⟨ws, hk⟩ := p
    intro J μ1 H1 Hf1 s1 x1 iw
    have h0 : RsO A S1 μ1 H1 Hf1 ((forGo F ws ρ (lockO S1 hk).1).unl (lockO S1 hk).2) D := RsO.step (show RsO A S μ H Hf ((forGo F ws ρ (lockO S1 hk).1).unl (lockO S1 hk).2) D from h) x1
    have h1 := unl_rs s1 h0
    obtain ⟨sL, xL⟩ := lock_ok s1 hk
    refine ⟨fun i m σ H => m = ws.length - i ∧ i ≤ ws.length ∧ ∃ ρ S2 μ2 Hf2, Sm A.K A.bs μ2 S2 H Hf2 ∧ En A.K Hf2 μ2 A.xr ρ σ ∧ Xt (lockO S1 hk).1 μ1 H1 Hf1 S2 μ2 H Hf2 ∧ RsO A S2 μ2 H Hf2 (forGo F (ws.drop i) ρ S2) D,
      ⟨ws.length, rfl, Nat.zero_le _, ρ, _, μ1, Hf1, sL, en.xt x1, .refl, h1⟩, ?_⟩
    rintro i m σ2 H2 ⟨rfl, hi2, ρ2, S2, μ2, Hf2, s2, en2, x2, h2⟩
    by_cases hlt : i < ws.length
    · refine .inr ⟨iw.goes S2 μ2 H2 Hf2 i s2 x2 hlt, fun σ H => ∃ ρ S2 μ2 Hf2, Sm A.K A.bs μ2 S2 H Hf2 ∧ En A.K Hf2 μ2 A.xr ρ σ ∧ Xt (lockO S1 hk).1 μ1 H1 Hf1 S2 μ2 H Hf2 ∧ RsO A S2 μ2 H Hf2 (forGo F (ws.drop (i + 1)) ρ S2) D, fun σ' H' q => ⟨ws.length - (i + 1), by omega, rfl, hlt, q⟩, fun v H3 y => ?_⟩
      obtain ⟨w, Hf3, ew, s3, x3, w3⟩ := iw.yields S2 μ2 H2 Hf2 i v H3 s2 x2 hlt y
      have h3 := RsO.step h2 x3
      rw [drop_at ew] at h3
      unfold forGo at h3
      have eF : F w ρ2 S2 = match bindT S2 t w ρ2 with | some ρ' => execs C b ρ' S2 | none => Out.no := by rw [← hF]
      rw [eF] at h3
      cases eb : bindT S2 t w ρ2 with
      | none => rw [eb] at h3; exact h3.elim
      | some ρ3 =>
        rw [eb] at h3
        dsimp only at h3
        rw [hK]
        refine gT_ok s3 t w v ρ2 ρ3 σ2 _ (en2.xt x3) w3 eb fun σ3 en3 _ => ⟨ρ3, S2, μ2, Hf3, s3, en3, ?_⟩
        cases ee : execs C b ρ3 S2 with
        | nx ρ' S' => rw [ee] at h3; exact fun σ' μ' H' Hf' s x w => ⟨ρ', S', μ', Hf', s, w, (x2.trans x3).trans x, RsO.step h3 x⟩
        | ct ρ' S' => rw [ee] at h3; exact fun σ' μ' H' Hf' s x w => ⟨ρ', S', μ', Hf', s, w, (x2.trans x3).trans x, RsO.step h3 x⟩
        | bk ρ' S' => rw [ee] at h3; exact fun σ' μ' H' Hf' s x w => h3 σ' μ' H' Hf' s x w
        | rt w S' => rw [ee] at h3; exact h3
        | ex w ρ' S' => rw [ee] at h3; exact h3
        | no => rw [ee] at h3; exact h3
    · have ei : i = ws.length := by omega
      subst ei
      rw [List.drop_length] at h2
      exact .inl ⟨iw.stops S2 μ2 H2 Hf2 s2 x2, RsO.nx h2 s2 .refl en2⟩
/-! ### comprehensions -/
abbrev Pa.still (A : Pa) : Pa := { A with W := fun _ _ _ _ => False }
theorem En.wipe {K : PySem.W.Frag} {xr : Xr} : ∀ (vs : List Nat) {ρ : Env} {σ : L2.St}, En K Hf μ xr ρ σ → En K Hf μ xr (wipeE ρ vs) (wipe σ vs)
  | [], _, _, e => e
  | v :: vs, ρ, σ, e => by unfold wipeE L2.wipe; exact (En.wipe vs e).unset v
theorem wipe_at : ∀ (vs : List Nat) (σ : L2.St) (j : Nat), (wipe σ vs)[j]? = if j ∈ vs ∧ j < σ.length then some none else σ[j]?
  | [], σ, j => by simp [wipe]
  | v :: vs, σ, j => by
    unfold wipe
    by_cases h : v = j
    · subst h
      by_cases hl : v < σ.length
      · rw [List.getElem?_set_self (by rw [wipe_length]; exact hl), if_pos ⟨by simp, hl⟩]
      · rw [List.getElem?_eq_none (by rw [List.length_set, wipe_length]; omega), if_neg (by omega), List.getElem?_eq_none (by omega)]
    · rw [List.getElem?_set_ne h, wipe_at vs σ j]
      have : (j ∈ v :: vs) ↔ j ∈ vs := by simp [Ne.symm h]
      simp only [this]
theorem wipe_eq {vs ix : List Nat} {σ σ2 : L2.St} (o : Off ix (wipe σ vs) σ2) (hs : ∀ i ∈ ix, i ∈ vs) : wipe σ2 vs = wipe σ vs := by
  apply List.ext_getElem?
  intro j
  rw [wipe_at, wipe_at]
  have hl : σ2.length = σ.length := by rw [o.1, wipe_length]
  rw [hl]
  by_cases h : j ∈ vs ∧ j < σ.length
  · rw [if_pos h, if_pos h]
  · rw [if_neg h, if_neg h]
    by_cases hj : j ∈ vs
    · have : ¬ j < σ.length := fun z => h ⟨hj, z⟩
      rw [List.getElem?_eq_none (by omega), List.getElem?_eq_none (by omega)]
    · rw [o.2 j (fun z => hj (hs j z)), wipe_at, if_neg h]
def turnE (C : Cxt) (elt : Ex) (tg : Tg) (cond : Option Ex) (vs : List Nat) (ρ : Env) : Wd → Store → Res (Option Wd) := fun w S => match bindT S tg w (wipeE ρ vs) with
        | some ρ' => (evC C cond ρ' S).bd fun b S => if b = true then (ev C elt ρ' S).bd fun w S => .ok (some w) S else .ok none S
        | none => .no
theorem compGo_eq {f : Wd → Store → Res (Option Wd)} {w : Wd} {r : List Wd} {S S2 : Store} {zs : List Wd} (h : compGo f (w :: r) S = .ok zs S2) : ∃ o S1 ws, f w S = .ok o S1 ∧ compGo f r S1 = .ok ws S2 ∧ zs = (match o with | some w => w :: ws | none => ws) := by
  unfold compGo at h
  cases e1 : f w S with
  | no => rw [e1] at h; cases h
  | ex q S1 => rw [e1] at h; cases h
  | ok o S1 =>
    rw [e1] at h
    dsimp only at h
    cases e2 : compGo f r S1 with
    | no => rw [e2] at h; cases h
    | ex q S1 => rw [e2] at h; cases h
    | ok ws S3 =>
      rw [e2] at h
      injection h with q1 q2
      subst q2
      exact ⟨o, S1, ws, rfl, e2, q1.symm⟩
end
end Gw

namespace Gw
open PySem PySem.Spec PyProof.Rows L2
section
variable {K : PySem.W.Frag} {bs : List Nat} {μ μ' : List V} {S S' : Store} {H Hf H' Hf' H2 : Hp}
theorem Sm.off (s : Sm K bs μ S H Hf) {a : Addr} (h1 : Hf a = none) (h2 : ∀ (k : Nat) (c : Cl), S[k]? = some c → live c = true → μ[k]? ≠ some (.ref a)) (ag : ∀ b, b ≠ a → H2 b = H b) : Sm K bs μ S H2 Hf := by
  refine ⟨s.len, fun k c v e1 e2 => ?_, s.sep, ⟨fun b u r => ?_, fun b xs r => ?_⟩, s.bsz, s.frm⟩
  · refine (s.cell k c v e1 e2).keep mu_id (.refl _) fun b hl e => ?_
    obtain ⟨b', o', e', h, h'⟩ := (s.cell k c v e1 e2).at_ hl
    rw [e] at e'; cases e'
    have n : b ≠ a := fun z => h2 k c e1 hl (by rw [e2, e, z])
    exact ⟨ag b n, h'⟩
  · have n : b ≠ a := rd_ne r h1
    have q := s.sub.rd b u r
    unfold Rd at q ⊢
    rw [ag b n]; exact q
  · rw [ag b (ne_of_none r h1)]; exact s.sub.tp b xs r
theorem Xt.off (x : Xt S μ H Hf S' μ' H' Hf') {a : Addr} (s : Sm K bs μ S H Hf) (h : H a = none) (ag : ∀ b, b ≠ a → H2 b = H' b) : Xt S μ H Hf S' μ' H2 Hf' := by
  refine ⟨x.mu, x.fr, fun k c b e1 e2 e3 => ?_, fun b o' f => ?_⟩
  · obtain ⟨q1, q2⟩ := x.lk k c b e1 e2 e3
    refine ⟨q1, ?_⟩
    have hl : live c = true := by cases c <;> first | rfl | cases e2
    have n : b ≠ a := fun z => s.fresh' h k c e1 hl (by rw [e3, z])
    rw [ag b n]; exact q2
  · have n : b ≠ a := ne_of_none f.1 h
    obtain ⟨g1, g2, g3⟩ := x.un b o' f
    exact ⟨by rw [ag b n]; exact g1, g2, g3⟩
def gone (H : Hp) (a : Addr) : Hp := fun b => if b = a then none else H b
theorem gone_ne {a b : Addr} (n : b ≠ a) : gone H a b = H b := if_neg n
theorem gone_back {a : Addr} {o : HO} (h : H a = some o) : upd (gone H a) a o = H := by
  funext b
  by_cases e : b = a
  · subst e; rw [upd_same, h]
  · rw [upd_ne e, gone_ne e]
end
section
variable {A : Pa} {X : Cx} {C : Cxt} {ρ : Env} {S : Store}
def tCond (A : Pa) (C : Cxt) : Option Ex → TT
  | none => tYes
  | some y => fun σ H Q => ∃ ρ S, tTest (tEv A.still ρ S (ev C y ρ S)) σ H Q
def tElt (A : Pa) (C : Cxt) (e : Ex) : TE := fun σ H Q => ∃ ρ S, tEv A.still ρ S (ev C e ρ S) σ H Q
theorem pt_cond {X : Cx} : ∀ (o : Option Ex), (∀ y, o = some y → ∀ ρ, Ok A.still X C ρ y) → PTs X (ExO.l o) (tCond A C o)
  | none, _ => pts_nil
  | some y, h => pts_one ⟨fun pins s σ H Q I ⟨ρ, S, q⟩ => (h y rfl ρ S).pt.run pins s σ H Q I q⟩
theorem pe_elt {X : Cx} {e : Ex} (h : ∀ ρ, Ok A.still X C ρ e) : PE X e.e (tElt A C e) := ⟨fun pins s σ H Q I ⟨ρ, S, q⟩ => (h ρ S).pe.run pins s σ H Q I q⟩
theorem bd_ok {α β : Type} {r : Res α} {f : α → Store → Res β} {b : β} {S : Store} (h : r.bd f = .ok b S) : ∃ a S1, r = .ok a S1 ∧ f a S1 = .ok b S := by
  cases r with
  | ok a S1 => exact ⟨a, S1, rfl, h⟩
  | ex e S1 => cases h
  | no => cases h
theorem tst_ok {r : Res Wd} {b : Bool} {S1 : Store} (h : tst r = .ok b S1) : r = .ok (.t (.bl b)) S1 := by
  unfold tst at h
  obtain ⟨w, S2, e, h⟩ := bd_ok h
  cases e2 : isBl w with
  | none => rw [e2] at h; cases h
  | some c =>
    rw [e2] at h
    obtain rfl := bl_of e2
    have h' : Res.ok c S2 = .ok b S1 := h
    injection h' with q1 q2
    rw [e, q1, q2]
theorem opt_ok {α : Type} {S S1 : Store} {o : Option α} {a : α} (h : opt S o = .ok a S1) : o = some a ∧ S1 = S := by
  cases o with
  | none => cases h
  | some b =>
    have h' : Res.ok b S = .ok a S1 := h
    injection h' with q1 q2
    rw [q1, q2]; exact ⟨rfl, rfl⟩
theorem lc_tev {m : Bool} {elt : Ex} {t : Tg} {it : It} {cond : Option Ex} {sc : Scope} {own : List (Str × Nat)} {p : Pos} (hK : X.K = A.K) (hix : ∀ i ∈ ixT t, i ∈ own.map (·.2)) (σ : L2.St) (H : Hp) (Q : VK) (h : tEv A ρ S (ev C (.lc m elt t it cond sc own p) ρ S) σ H Q) :
    tLc (tIv A ρ S (evI C it ρ S)) (gT X.K t) (tCond A C cond) (tElt A C elt) (own.map (·.2)) σ H Q := by
  obtain ⟨μ, Hf, sm, en, h⟩ := h
  unfold ev at h
  generalize hvs : own.map (·.2) = vs at h hix ⊢
  split at h
  · exact h.elim
  refine ⟨μ, Hf, sm, en, ?_⟩
  cases e1 : evI C it ρ S with
  | no => rw [e1] at h; exact h
  | ex q S1 => rw [e1] at h; exact fun cls d μ1 H1 Hf1 s1 x1 w1 => h cls d μ1 H1 Hf1 s1 x1 w1
  | ok pr S1 =>
    rw [e1] at h
    obtain ⟨ws, hk⟩ := pr
    intro J μ1 H1 Hf1 s1 x1 iw D hD
    have h1 := Rs.step (show Rs A (RW A) σ S μ H Hf (if ws.length ≤ lineN then (match compGo (turnE C elt t cond vs ρ) ws (lockO S1 hk).1 with
      | .ok ws S2 => mkL m ws (unlockC S2 (lockO S1 hk).2)
      | _ => .no) else .no) Q from h) x1
    split at h1
    case isFalse => exact h1.elim
    rename_i hlen
    cases e2 : compGo (turnE C elt t cond vs ρ) ws (lockO S1 hk).1 with
    | no => rw [e2] at h1; exact h1.elim
    | ex q S2 => rw [e2] at h1; exact h1.elim
    | ok zs Se =>
      rw [e2] at h1
      dsimp only at h1
      obtain ⟨sL, xL⟩ := lock_ok s1 hk
      refine ⟨fun i k H => k = ws.length - i ∧ i ≤ ws.length ∧ ∃ S2 μ2 Hf2 acc was zs', Sm A.K A.bs μ2 S2 H Hf2 ∧ Xt (lockO S1 hk).1 μ1 H1 Hf1 S2 μ2 H Hf2 ∧ Free S2 μ2 H Hf2 D (.lst acc) ∧ acc.length ≤ i ∧ Paired (WR A.K Hf2 μ2 A.xr) was acc ∧ compGo (turnE C elt t cond vs ρ) (ws.drop i) S2 = .ok zs' Se ∧ was ++ zs' = zs,
        ⟨ws.length, rfl, Nat.zero_le _, _, μ1, Hf1, [], [], zs, sL.side (sL.fresh hD) (sL.fresh' hD), Xt.side .refl sL hD, ⟨upd_same, sL.fresh hD, sL.fresh' hD⟩, Nat.le_refl _, .nil, e2, rfl⟩, ?_⟩
      rintro i k H2 ⟨rfl, hi, S2, μ2, Hf2, acc, was, zs', s2, x2, fD, hacc, pr, ec, ez⟩
      by_cases hlt : i < ws.length
      · refine .inr ⟨iw.goes S2 μ2 H2 Hf2 i s2 x2 hlt, fun H => ∃ S2 μ2 Hf2 acc was zs', Sm A.K A.bs μ2 S2 H Hf2 ∧ Xt (lockO S1 hk).1 μ1 H1 Hf1 S2 μ2 H Hf2 ∧ Free S2 μ2 H Hf2 D (.lst acc) ∧ acc.length ≤ i + 1 ∧ Paired (WR A.K Hf2 μ2 A.xr) was acc ∧ compGo (turnE C elt t cond vs ρ) (ws.drop (i + 1)) S2 = .ok zs' Se ∧ was ++ zs' = zs,
          fun H' q => ⟨ws.length - (i + 1), by omega, rfl, hlt, q⟩, fun v H3 y => ?_⟩
        obtain ⟨w, Hf3, ew, s3, x3, w3⟩ := iw.yields S2 μ2 H2 Hf2 i v H3 s2 x2 hlt y
        rw [drop_at ew] at ec
        obtain ⟨o, S3, zs2, ef, er, rfl⟩ := compGo_eq ec
        unfold turnE at ef
        cases eb : bindT S2 t w (wipeE ρ vs) with
        | none => rw [eb] at ef; cases ef
        | some ρ3 =>
          rw [eb] at ef
          dsimp only at ef
          obtain ⟨b, Sb, eb1, ef⟩ := bd_ok ef
          have x23 := x2.trans x3
          rw [hK]
          refine gT_ok s3 t w v (wipeE ρ vs) ρ3 (wipe σ vs) _ (((en.xt x1).xt (xL.trans x23)).wipe vs) w3 eb fun σ3 en3 off => ⟨wipe_eq off hix, ?_⟩
          -- behind the test
          have go : ∀ (H4 : Hp) (μ4 : List V) (Hf4 : Hp), Sm A.K A.bs μ4 Sb H4 Hf4 → Xt S2 μ2 H3 Hf3 Sb μ4 H4 Hf4 → (if b = true then tElt A C elt σ3 H4 fun y H5 => ∃ acc, H5 D = some (.lst acc) ∧ acc.length < sizeLine ∧
              (∃ S2 μ2 Hf2 acc' was zs', Sm A.K A.bs μ2 S2 (upd H5 D (.lst (acc ++ [y]))) Hf2 ∧ Xt (lockO S1 hk).1 μ1 H1 Hf1 S2 μ2 (upd H5 D (.lst (acc ++ [y]))) Hf2 ∧ Free S2 μ2 (upd H5 D (.lst (acc ++ [y]))) Hf2 D (.lst acc') ∧ acc'.length ≤ i + 1 ∧ Paired (WR A.K Hf2 μ2 A.xr) was acc' ∧ compGo (turnE C elt t cond vs ρ) (ws.drop (i + 1)) S2 = .ok zs' Se ∧ was ++ zs' = zs)
              else ∃ S2 μ2 Hf2 acc was zs', Sm A.K A.bs μ2 S2 H4 Hf2 ∧ Xt (lockO S1 hk).1 μ1 H1 Hf1 S2 μ2 H4 Hf2 ∧ Free S2 μ2 H4 Hf2 D (.lst acc) ∧ acc.length ≤ i + 1 ∧ Paired (WR A.K Hf2 μ2 A.xr) was acc ∧ compGo (turnE C elt t cond vs ρ) (ws.drop (i + 1)) S2 = .ok zs' Se ∧ was ++ zs' = zs) := by
            intro H4 μ4 Hf4 s4 x4
            have x24 := x23.trans x4
            have f4 := x4.un D _ (x3.un D _ fD)
            cases b with
            | false =>
              rw [if_neg Bool.false_ne_true] at ef ⊢
              injection ef with q1 q2
              subst q1; subst q2
              exact ⟨Sb, μ4, Hf4, acc, was, zs2, s4, x24, f4, by omega, wrs_mono (x3.trans x4).mu (x3.trans x4).fr pr, er, ez⟩
            | true =>
              rw [if_pos rfl] at ef ⊢
              obtain ⟨w5, S5, e5, ef⟩ := bd_ok ef
              injection ef with q1 q2
              subst q1; subst q2
              refine ⟨ρ3, Sb, μ4, Hf4, s4, en3.xt x4, ?_⟩
              rw [e5]
              intro v5 μ5 H5 Hf5 s5 x5 w5'
              have f5 := x5.un D _ f4
              refine ⟨acc, f5.1, by rw [← lineN_eq]; omega, S5, μ5, Hf5, acc ++ [v5], was ++ [w5], zs2, s5.side f5.2.1 f5.2.2, Xt.side (x24.trans x5) sL hD, f5.upd, by rw [List.length_append, List.length_singleton]; omega, paired_app (wrs_mono ((x3.trans x4).trans x5).mu ((x3.trans x4).trans x5).fr pr) (.cons w5' .nil), er, by rw [← ez]; simp⟩
          cases cond with
          | none =>
            unfold evC at eb1
            injection eb1 with q1 q2
            subst q1; subst q2
            exact go H3 μ2 Hf3 s3 .refl
          | some y =>
            unfold evC at eb1
            have ey := tst_ok eb1
            refine ⟨ρ3, S2, μ2, Hf3, s3, en3, ?_⟩
            rw [ey]
            intro v4 μ4 H4 Hf4 s4 x4 w4
            cases wr_bl w4
            exact ⟨b, rfl, go H4 μ4 Hf4 s4 x4⟩
      · have ei : i = ws.length := by omega
        subst ei
        rw [List.drop_length] at ec
        unfold compGo at ec
        injection ec with q1 q2
        subst q1; subst q2
        rw [List.append_nil] at ez
        subst ez
        refine .inl ⟨iw.stops S2 μ2 H2 Hf2 s2 x2, ?_⟩
        have ag : ∀ b, b ≠ D → gone H2 D b = H2 b := fun b n => gone_ne n
        have sg := s2.off fD.2.1 fD.2.2 ag
        have xg := Xt.off x2 sL hD ag
        obtain ⟨su, xu⟩ := unlock_ok sg xg s1
        have := mkL_rs su pr (Rs.step h1 xu) (p := D) (by unfold gone; rw [if_pos rfl])
        rw [gone_back fD.1] at this
        exact this
end
end Gw

namespace Gw
open PySem PySem.Spec PyProof.Rows L2
def isLc : Ex → Bool
  | .lc .. => true
  | _ => false
section
variable {A : Pa} {X : Cx} {C : Cxt} {ρ : Env} {S S1 : Store} {σ : L2.St} {μ μ1 : List V} {H Hf H1 Hf1 : Hp} {D : Ends}
/-- what a comprehension's parts must be -/
structure LcG (A : Pa) (X : Cx) (C : Cxt) (elt : Ex) (t : Tg) (it : It) (cond : Option Ex) (sc : Scope) (own : List (Str × Nat)) : Prop where
  hK : X.K = A.K
  hN : X.N.Nodup
  calm : X.calm = true
  it : ∀ ρ, OkI A X C ρ t.e it
  blk : BlkOk X.N X.env.scope sc own
  ix : ∀ i ∈ ixT t, i ∈ own.map (·.2)
  tg : ∀ (s : Shared) (H : Hp) (Cc : Addr) (cl : List (Str × Addr)) (fp : List Addr), PG (X.blk s H sc (compEnvC sc cl Cc X.env) fp) t.e (gT X.K t)
  cond : ∀ (s : Shared) (H : Hp) (Cc : Addr) (cl : List (Str × Addr)) (fp : List Addr) y, cond = some y → ∀ ρ, Ok A.still (X.blk s H sc (compEnvC sc cl Cc X.env) fp) C ρ y
  elt : ∀ (s : Shared) (H : Hp) (Cc : Addr) (cl : List (Str × Addr)) (fp : List Addr) ρ, Ok A.still (X.blk s H sc (compEnvC sc cl Cc X.env) fp) C ρ elt
theorem sd_lc {m : Bool} {elt : Ex} {t : Tg} {it : It} {cond : Option Ex} {sc : Scope} {own : List (Str × Nat)} {p : Pos} (L : C.calm = true → LcG A X C elt t it cond sc own) : Ok A X C ρ (.lc m elt t it cond sc own p) := fun S => by
  cases hc : C.calm with
  | false =>
    have e : ev C (.lc m elt t it cond sc own p) ρ S = .no := by unfold ev; rw [if_pos hc]
    rw [e]
    exact noPB
  | true =>
    have L := L hc
    refine .of (impPE (pe_lc L.calm L.hN (L.it ρ S) L.blk L.tg (fun s H Cc cl fp => pt_cond cond (L.cond s H Cc cl fp)) (fun s H Cc cl fp => pe_elt (L.elt s H Cc cl fp)) (fold_it _ _)) fun σ H Q h => lc_tev L.hK L.ix σ H Q h)
theorem so_asg {tg : Tg} {e : Ex} {p : Pos} (hK : X.K = A.K) (hp : ∀ ρ S, PS X (.Assign [tg.e] e.e p) (tAsg (tEv A ρ S (ev C e ρ S)) (gT X.K tg))) : OkS A X C (.asg tg e p) := fun ρ S => by
  unfold St.s exec
  refine impPS (hp ρ S) fun D σ H ⟨μ, Hf, sm, en, h⟩ => ?_
  refine st_then sm en h fun w S1 v μ1 H1 Hf1 s1 en1 w1 _ h1 _ => ?_
  cases eb : bindA C S1 tg w ρ with
  | none => rw [eb] at h1; exact h1.elim
  | some ρ' =>
    rw [eb] at h1
    have eb' : bindT S1 tg w ρ = some ρ' := by
      cases tg with
      | nm i x p => exact eb
      | tp ts k p =>
        have eb2 : (if C.calm = true then bindT S1 (.tp ts k p) w ρ else none) = some ρ' := eb
        by_cases z : C.calm = true
        · rw [if_pos z] at eb2; exact eb2
        · rw [if_neg z] at eb2; cases eb2
    rw [hK]
    exact gT_ok s1 tg w v ρ ρ' σ _ en1 w1 eb' fun σ' en' _ => RsO.nx h1 s1 .refl en'
theorem swaps_not {e : Ex} (h : isLc e = false) (t : Option Expr) (l : Nat) (env : PySem.Env) : swapsWith e.e t l env = pure false := by
  cases e with
  | lc => cases h
  | _ => rfl
theorem sole_eq (t : Expr) (e : Expr) (l : Nat) (env : PySem.Env) : swapsWithSole [t] e l env = swapsWith e (some t) l env := rfl
def isTp : Tg → Bool
  | .tp .. => true
  | _ => false
def isTup : Ex → Bool
  | .tup .. => true
  | _ => false
theorem swapped_not {tg : Tg} {e : Ex} (h : (isTp tg && isTup e) = false) (env : PySem.Env) : swappedStores [tg.e] e.e env = pure none := by
  cases tg with
  | nm i x p => cases e <;> rfl
  | tp ts k p => cases e <;> first | (cases h; done) | rfl
theorem each1 (tg : Tg) (env : PySem.Env) : (assignEach [tg.e] env).map (·.2) = [assign tg.e env] := by rw [tg_each]; rfl
/-- name = [..]: how it is stored -/
def swB (sc : Scope) (csc : Scope) (y : Str) (py p : Pos) : Bool := (match sc.names.lookup y with | some .local => true | _ => false) && py.line == p.line && !(csc.names.any fun (n, k) => n == y && (k == .local || k == .cell))
theorem sw_lc {elt : Expr} {gs : List Comprehension} {csc : Scope} {pos py : Pos} {y : Str} {l : Nat} {env : PySem.Env} (hk : env.scope.kind = .function) : swapsWith (.ListComp elt gs csc pos) (some (.Name y py)) l env = pure (swB env.scope csc y py pos) := by
  have hb : env.blockKind = .function := by unfold Env.blockKind; rw [hk]; rfl
  unfold swapsWith swB
  simp only [hb, Expr.pos]
  have : (env.kindOf y == some NameKind.local) = (match env.scope.names.lookup y with | some .local => true | _ => false) := by
    show (env.scope.names.lookup y == some NameKind.local) = _
    cases env.scope.names.lookup y with
    | none => rfl
    | some k => cases k <;> rfl
  rw [this]
  rfl
theorem asg_lc {m : Bool} {elt : Ex} {t : Tg} {it : It} {cond : Option Ex} {sc : Scope} {own : List (Str × Nat)} {p q py : Pos} {i : Nat} {y : Str} (hk : X.env.scope.kind = .function) (hy : wfT X.N X.env.scope X.fn (.nm i y py) = true) (hN : X.N.Nodup) (hcc : X.calm = true) (hoff : C.calm = false → False)
    (L : C.calm = true → LcG A X C elt t it cond sc own) : PS X (.Assign [(Tg.nm i y py).e] (Ex.lc m elt t it cond sc own p).e q) (tAsg (tEv A ρ S (ev C (.lc m elt t it cond sc own p) ρ S)) (gT X.K (.nm i y py))) := by
  have hc : C.calm = true := by
    cases z : C.calm with
    | true => rfl
    | false => exact (hoff z).elim
  have L' := L hc
  cases hs : swB X.env.scope sc y py p with
  | false => exact ps_asg (sd_lc L S).pe (pg_T hcc hN _ hy) (by rw [sole_eq]; unfold Tg.e Ex.e; rw [sw_lc hk, hs]) (swapped_not (by rfl) _) (each1 _ _)
  | true =>
    have hs' := hs
    unfold swB at hs'
    simp only [Bool.and_eq_true] at hs'
    have hl : X.env.scope.names.lookup y = some .local := by
      have h1 := hs'.1.1
      split at h1
      · assumption
      · cases h1
    have hix : X.N[i]? = some y := by
      unfold wfT at hy
      exact of_decide_eq_true (Bool.and_eq_true_iff.mp hy).1
    have base := ps_setLc (i := i) (y := y) (py := py) (spos := q) L'.calm L'.hN hix hl (by rw [sw_lc hk, hs]) (L'.it ρ S) L'.blk L'.tg (fun s H Cc cl fp => pt_cond cond (L'.cond s H Cc cl fp)) (fun s H Cc cl fp => pe_elt (L'.elt s H Cc cl fp)) (fold_it _ _)
    exact impPS base fun D σ H h => lc_tev L'.hK L'.ix σ H _ h
theorem keepIf_ok {b : Bool} {w w' : Wd} {v : V} {S S1 : Store} (h : keepIf b S w = .ok w' S1) (s : Sm A.K A.bs μ S H Hf) (r : WR A.K Hf μ A.xr w v) : ∃ Hf1, Sm A.K A.bs μ S1 H Hf1 ∧ Xt S μ H Hf S1 μ H Hf1 ∧ WR A.K Hf1 μ noXr w' v ∧ ∀ j ∈ hsW w', b = true ∧ w' = .h j := by
  unfold keepIf at h
  split at h
  · injection h with q1 q2
    subst q1; subst q2
    exact ⟨Hf, s, .refl, r, fun j hj => by simp [hsW] at hj⟩
  · split at h
    · rename_i hb
      injection h with q1 q2
      subst q1; subst q2
      exact ⟨Hf, s, .refl, r, fun j hj => ⟨hb, by simp [hsW] at hj; rw [hj]⟩⟩
    · obtain ⟨d, S2, e, h⟩ := bd_ok h
      injection h with q1 q2
      subst q1; subst q2
      obtain ⟨Hf1, s1, x1, r1⟩ := keep_ok s r e
      exact ⟨Hf1, s1, x1, r1, fun j hj => by simp [hsW] at hj⟩
  · cases h
  · cases h
theorem keepIf_noex {b : Bool} {w : Wd} {S S1 : Store} {e : Exn} : keepIf b S w ≠ .ex e S1 := by
  intro h
  unfold keepIf at h
  split at h
  · cases h
  · split at h
    · cases h
    · cases e2 : keep S (.h (by assumption)) with
      | ok d S2 => rw [e2] at h; cases h
      | ex q S2 => exact keep_noex e2
      | no => rw [e2] at h; cases h
  · cases h
  · cases h
end
end Gw

namespace Gw
open PySem PySem.Spec PyProof.Rows L2
def supB : Ex → Bool
  | .call f _ _ [] _ => f == ("super" : Str)
  | _ => false
theorem base_ex {x : Ex} (h : supB x = false) (n : Str) (env : PySem.Env) : attributeBase x.e n env (eval x.e env) = eval x.e env := by
  cases x with
  | call f m q es p =>
    cases es with
    | nil =>
      have hf : (f == ("super" : Str)) = false := h
      have hn : (f != ("super" : Str)) = true := by simp [bne, hf]
      show attributeBase (.Call (.Name f q) [] [] p) n env _ = _
      unfold attributeBase
      simp only [hn, Bool.true_or, if_true]
    | cons a r => rfl
  | _ => rfl
def Ty.tn : Ty → String
  | .int => "int" | .bool => "bool" | .str => "str" | .list => "list" | .tuple => "tuple"
theorem kit_tab (K : PySem.W.Frag) (ty : Ty) : PySem.W.kitOne K (.type "NoneType") (.type ty.tn) = some false ∧ PySem.W.kitOne K (.type "bool") (.type ty.tn) = some (match ty with | .int => true | .bool => true | _ => false) ∧ PySem.W.kitOne K (.type "int") (.type ty.tn) = some (match ty with | .int => true | _ => false)
   ∧ PySem.W.kitOne K (.type "str") (.type ty.tn) = some (match ty with | .str => true | _ => false) ∧ PySem.W.kitOne K (.type "list") (.type ty.tn) = some (match ty with | .list => true | _ => false) ∧ PySem.W.kitOne K (.type "tuple") (.type ty.tn) = some (match ty with | .tuple => true | _ => false) := by
  cases ty <;> exact ⟨by rfl, by rfl, by rfl, by rfl, by rfl, by rfl⟩
section
variable {A : Pa} {X : Cx} {C : Cxt} {ρ : Env} {S S1 : Store} {σ : L2.St} {μ μ1 : List V} {H Hf H1 Hf1 : Hp} {D : Ends} {Q : VK}
/-! ### isinstance -/
theorem tyx_list {a : Addr} {vs : List V} {K : PySem.W.Frag} (q : SqL K H a vs) : TyX K H (.ref a) (.type "list") := by
  rcases q with (q | ⟨o, q⟩) | ⟨o, its, n, e, c, _⟩
  · exact .base (.lst q)
  · exact .base (.frz q)
  · exact .kList e c
theorem isi_tree {K : PySem.W.Frag} {v : V} {d : Dt} {ty : Ty} {b : Bool} (r : Rp K H v d) (h : isiB ty d = some b) : ∃ t, TyX K H v t ∧ PySem.W.kitOne K t (.type ty.tn) = some b := by
  obtain ⟨k1, k2, k3, k4, k5, k6⟩ := kit_tab K ty
  cases r with
  | non => exact ⟨_, .base .non, by rw [k1]; exact h⟩
  | bl c => exact ⟨_, .base (.bl c), by rw [k2]; exact h⟩
  | int c => exact ⟨_, .base (.int c), by rw [k3]; exact h⟩
  | str c => exact ⟨_, .base (.str c), by rw [k4]; exact h⟩
  | lst q1 q2 => exact ⟨_, tyx_list q1, by rw [k5]; exact h⟩
  | tup q1 q2 => exact ⟨_, .base (.tup q1), by rw [k6]; exact h⟩
  | dK q1 q2 q3 q4 => cases h
  | dT q1 q2 q3 q4 => cases h
theorem isi_ok {w : Wd} {v : V} {ty : Ty} {b : Bool} {xr : Xr} {K : PySem.W.Frag} {bs : List Nat} (s : Sm K bs μ S H Hf) (r : WR K Hf μ xr w v) (h : isiD S w ty = some b) : ∃ t, TyX K H v t ∧ PySem.W.kitOne K t (.type ty.tn) = some b := by
  cases w with
  | t d => exact isi_tree (s.rp r) h
  | x e => cases h
  | c ds => cases h
  | h k =>
    unfold isiD at h
    dsimp only at h
    cases ek : S[k]? with
    | none => rw [ek] at h; cases h
    | some c =>
      rw [ek] at h
      have cr := s.cell k c v ek r
      cases cr with
      | lst q1 q2 q3 => exact ⟨_, .base (.lst q1), by rw [(kit_tab K ty).2.2.2.2.1]; exact h⟩
      | frz q => exact isi_tree (s.rp q) h
      | dK => cases h
      | dT => cases h
theorem sd_isi {x : Ex} {ty : Ty} {q tq p : Pos} (hg : Gl X "isinstance") (hm : X.mg "isinstance" = none) (hgt : Gl X ty.nm) (hmt : X.mg ty.nm = none) (ha : Ok A X C ρ x) (hK : X.K = A.K) : Ok A X C ρ (.isi q x ty tq p) := fun S => by
  unfold Ex.e ev
  have pt : PE X (.Name ty.nm tq) (tC (.ty ty.tn)) := pe_bltn (u := .type ty.tn) hgt hmt (by cases ty <;> rfl) (by rfl) (by cases ty <;> decide) (by cases ty <;> decide)
  refine .of (impPE (pe_callB call_isi hg hm (by rfl) (pa_cons (ha S).pe (pa_cons pt pa_nil) (star_ex _ _ _)) (by decide) (by decide) (star_ex _ _ _) (by rfl)) fun σ H Q ⟨μ, Hf, sm, en, h⟩ => ?_)
  refine ev_then sm en h fun w S1 v μ1 H1 Hf1 s1 en1 w1 x1 h1 => ?_
  obtain ⟨b, eb, h2⟩ := opt_rs h1
  obtain ⟨t, q1, q2⟩ := isi_ok s1 w1 eb
  rw [← hK] at q1 q2
  exact ⟨v, .ty ty.tn, t, .type ty.tn, b, rfl, .ty _, q1, q2, h2.done s1 (.bl b)⟩
/-! ### one-place builtins -/
theorem bf_pe {x : Str} {id : String} {r : List V → Hp → VK → Prop} {e : Ex} {q p : Pos} {f : Wd → Store → Res Wd} {g : Res Wd} (hc : CallR X (.builtin id) r) (hg : Gl X x) (hm : X.mg x = none) (hv : bootBuiltins x = some (.builtin id)) (hn : x ≠ "__name__") (hdb : (x == ("__debug__" : Str)) = false)
    (ha : PE X e.e (tEv A ρ S g)) (h : ∀ w S1 v σ H μ Hf Q, g = .ok w S1 → Sm A.K A.bs μ S1 H Hf → WR A.K Hf μ A.xr w v → Rs A (RW A) σ S1 μ H Hf (f w S1) Q → r [v] H Q) : PB X (.Call (.Name x q) [e.e] [] p) (tEv A ρ S (g.bd f)) := by
  refine .of (impPE (pe_callB hc hg hm hv (one_pa ha) hn hdb (star_ex _ _ _) (by rfl)) fun σ H Q ⟨μ, Hf, sm, en, hh⟩ => ?_)
  refine ⟨μ, Hf, sm, en, ?_⟩
  cases g with
  | no => exact hh
  | ex q S1 => exact hh
  | ok w S1 => exact fun v μ1 H1 Hf1 s1 x1 w1 => h w S1 v σ H1 μ1 Hf1 Q rfl s1 w1 (Rs.step (show Rs A (RW A) σ S μ H Hf (f w S1) Q from hh) x1)
theorem bt_pe {x : Str} {T : String} {r : List V → Hp → VK → Prop} {e : Ex} {q p : Pos} {f : Wd → Store → Res Wd} {g : Res Wd} (hc : CallR X (.type T) r) (hg : Gl X x) (hm : X.mg x = none) (hv : bootBuiltins x = some (.type T)) (hn : x ≠ "__name__") (hdb : (x == ("__debug__" : Str)) = false)
    (ha : PE X e.e (tEv A ρ S g)) (h : ∀ w S1 v σ H μ Hf Q, g = .ok w S1 → Sm A.K A.bs μ S1 H Hf → WR A.K Hf μ A.xr w v → Rs A (RW A) σ S1 μ H Hf (f w S1) Q → r [v] H Q) : PB X (.Call (.Name x q) [e.e] [] p) (tEv A ρ S (g.bd f)) := by
  refine .of (impPE (pe_callTy hc hg hm hv (one_pa ha) hn hdb (star_ex _ _ _) (by rfl)) fun σ H Q ⟨μ, Hf, sm, en, hh⟩ => ?_)
  refine ⟨μ, Hf, sm, en, ?_⟩
  cases g with
  | no => exact hh
  | ex q S1 => exact hh
  | ok w S1 => exact fun v μ1 H1 Hf1 s1 x1 w1 => h w S1 v σ H1 μ1 Hf1 Q rfl s1 w1 (Rs.step (show Rs A (RW A) σ S μ H Hf (f w S1) Q from hh) x1)
theorem RpA.ints {K : PySem.W.Frag} : ∀ {vs : List V} {ds : List Dt} {is : List Int}, RpA K H vs ds → intsD ds = some is → vs = is.map V.int
  | _, _, is, .nil, h => by unfold intsD at h; injection h with h; subst h; rfl
  | _, _, is, .cons r1 r2, h => by
    rename_i v vs d ds
    cases d with
    | int i =>
      unfold intsD at h
      cases e : intsD ds with
      | none => rw [e] at h; cases h
      | some js =>
        rw [e] at h
        injection h with h
        subst h
        cases r1
        rw [RpA.ints r2 e]; rfl
    | _ => cases h
theorem RpA.bls {K : PySem.W.Frag} : ∀ {vs : List V} {ds : List Dt} {is : List Bool}, RpA K H vs ds → blsD ds = some is → vs = is.map V.bl
  | _, _, is, .nil, h => by unfold blsD at h; injection h with h; subst h; rfl
  | _, _, is, .cons r1 r2, h => by
    rename_i v vs d ds
    cases d with
    | bl i =>
      unfold blsD at h
      cases e : blsD ds with
      | none => rw [e] at h; cases h
      | some js =>
        rw [e] at h
        injection h with h
        subst h
        cases r1
        rw [RpA.bls r2 e]; rfl
    | _ => cases h
theorem RpA.strs {K : PySem.W.Frag} : ∀ {vs : List V} {ds : List Dt} {is : List Str}, RpA K H vs ds → strsD ds = some is → vs = is.map V.str
  | _, _, is, .nil, h => by unfold strsD at h; injection h with h; subst h; rfl
  | _, _, is, .cons r1 r2, h => by
    rename_i v vs d ds
    cases d with
    | str i =>
      unfold strsD at h
      cases e : strsD ds with
      | none => rw [e] at h; cases h
      | some js =>
        rw [e] at h
        injection h with h
        subst h
        cases r1
        rw [RpA.strs r2 e]; rfl
    | _ => cases h
end
end Gw

namespace Gw
open PySem PySem.Spec PyProof.Rows L2
section
variable {A : Pa} {X : Cx} {C : Cxt} {ρ : Env} {S S1 : Store} {σ : L2.St} {μ μ1 : List V} {H Hf H1 Hf1 : Hp} {D : Ends} {Q : VK}
theorem Sm.items (s : Sm A.K A.bs μ S H Hf) {w : Wd} {v : V} {ds : List Dt} (r : WR A.K Hf μ A.xr w v) (h : itemsF S w = some ds) : ∃ a vs, v = .ref a ∧ SqL A.K H a vs ∧ RpA A.K Hf vs ds := by
  unfold itemsF at h
  split at h
  · rename_i ws e
    obtain ⟨a, vs, rfl, q, rs⟩ := s.seq r e
    exact ⟨a, vs, rfl, q, s.rdFs rs h⟩
  · cases h
def okB1 : B1 → Bool
  | .len => true | .list => true | .tuple => true | .sum => true | .all => true | .any => true | .int => true
  | _ => false
theorem opt_rs3 {α β : Type} {o : Option α} {f : α → Res β} {R : Hp → List V → β → V → Prop} {x : Res β} (h : Rs A R σ S μ H Hf (match o with | some a => f a | none => .no) Q) : ∃ a, o = some a ∧ Rs A R σ S μ H Hf (f a) Q := by
  cases o with
  | none => exact h.elim
  | some a => exact ⟨a, rfl, h⟩
theorem sd_b1 {b : B1} {m : Bool} {q p : Pos} {e : Ex} (hb : okB1 b = true) (hg : Gl X b.nm) (hm : X.mg b.nm = none) (hc : C.calm = true → X.calm = true) (hK : X.K = A.K) (ha : Ok A X C ρ e) : Ok A X C ρ (.b1 b m q e p) := fun S => by
  unfold Ex.e ev
  cases hcal : C.calm with
  | false => exact noPB
  | true =>
  rw [if_neg (by decide)]
  have hcm := hc hcal
  have h0 := (ha S).pe
  cases b with
  | len =>
    cases eg : ev C e ρ S with
    | no => exact noPB
    | ex q0 S1 => rw [eg] at h0; exact bf_pe (r := fun _ _ _ => False) (f := fun _ _ => .no) (fun _ _ _ _ _ _ _ _ _ z => z.elim) hg hm (by rfl) (by decide) (by decide) h0 fun w S1 v σ H μ Hf Q z => by cases z
    | ok w S1 =>
      rw [eg] at h0
      by_cases hd : ∃ k kvs, w = .h k ∧ S1[k]? = some (.dic false false kvs)
      · obtain ⟨k, kvs, rfl, ek⟩ := hd
        refine bf_pe call_lenD hg hm (by rfl) (by decide) (by decide) h0 fun w S2 v σ H μ Hf Q z s r h => ?_
        injection z with z1 z2
        subst z1; subst z2
        have ev : vw S1 (.h k) = .dic false kvs := by unfold vw; dsimp only; rw [ek]
        unfold b1D at h
        simp only [ev, ek] at h
        have cr := s.cell k _ v ek r
        cases cr with
        | dK q1 q0 q2 q3 q4 =>
          rw [if_neg Bool.false_ne_true] at q0
          subst q0
          rename_i a kv
          refine ⟨a, kv, rfl, q1, ?_⟩
          have hl : kv.length = kvs.length := by have := congrArg List.length q3; simpa using this
          rw [hl]
          exact h.done s (.int _)
      · refine bf_pe call_len hg hm (by rfl) (by decide) (by decide) h0 fun w2 S2 v σ H μ Hf Q z s r h => ?_
        injection z with z1 z2
        subst z1; subst z2
        unfold b1D at h
        dsimp only at h
        split at h
        · cases wr_str r
          split at h
          · rename_i hl
            exact ⟨_, _, rfl, ⟨by rw [← lineN_eq]; exact hl, rfl⟩, h.done s (.int _)⟩
          · exact h.elim
        · split at h
          · rename_i tup ws e
            obtain ⟨a, vs, rfl, q, rs⟩ := s.seq r e
            rw [rs.length] at h
            cases tup with
            | true => exact ⟨_, _, rfl, .inr ⟨vs, by rw [hK]; exact q, rfl⟩, h.done s (.int _)⟩
            | false => exact ⟨_, _, rfl, .inl ⟨vs, by rw [hK]; exact q, rfl⟩, h.done s (.int _)⟩
          · split at h
            · rename_i k hw
              split at h
              · rename_i kvs ek
                exact (hd ⟨_, _, rfl, ek⟩).elim
              · exact h.elim
            · exact h.elim
          · exact h.elim
  | list =>
    refine bt_pe call_list_of hg hm (by rfl) (by decide) (by decide) h0 fun w S1 v σ H μ Hf Q _ s r h => ?_
    unfold b1D at h
    dsimp only at h
    split at h
    · rename_i tup ws e
      obtain ⟨a, vs, rfl, q, rs⟩ := s.seq r e
      rw [hK]
      refine ⟨a, vs, rfl, ?_, fun l hl => mkL_rs s rs h hl⟩
      cases tup with
      | true => exact .inr q
      | false => exact .inl q
    · exact h.elim
  | tuple =>
    refine bt_pe call_tuple_of hg hm (by rfl) (by decide) (by decide) h0 fun w S1 v σ H μ Hf Q _ s r h => ?_
    unfold b1D at h
    dsimp only at h
    split at h
    · rename_i ws e
      obtain ⟨a, vs, rfl, q, rs⟩ := s.seq r e
      rw [hK]
      exact ⟨a, vs, rfl, .inl ⟨q, fun l hl => mkT_rs s rs h hl⟩⟩
    · rename_i ws e
      obtain ⟨a, vs, rfl, q, rs⟩ := s.seq r e
      split at h
      · rw [hK]
        exact ⟨a, vs, rfl, .inr ⟨q, h.done s r⟩⟩
      · exact h.elim
    · exact h.elim
  | sum =>
    refine bf_pe (cr_sum hcm) hg hm (by rfl) (by decide) (by decide) h0 fun w S1 v σ H μ Hf Q _ s r h => ?_
    unfold b1D at h
    dsimp only at h
    cases e1 : itemsF S1 w with
    | none => rw [e1] at h; exact h.elim
    | some ds =>
      cases e2 : intsD ds with
      | none => simp only [e1, Option.bind, e2] at h; exact h.elim
      | some is =>
        simp only [e1, Option.bind, e2] at h
        obtain ⟨a, vs, rfl, q, rs⟩ := s.items r e1
        obtain rfl := rs.ints e2
        rw [hK]
        exact ⟨a, is, rfl, q, h.done s (.int _)⟩
  | all =>
    refine bf_pe (cr_all hcm) hg hm (by rfl) (by decide) (by decide) h0 fun w S1 v σ H μ Hf Q _ s r h => ?_
    unfold b1D at h
    dsimp only at h
    cases e1 : itemsF S1 w with
    | none => rw [e1] at h; exact h.elim
    | some ds =>
      cases e2 : blsD ds with
      | none => simp only [e1, Option.bind, e2] at h; exact h.elim
      | some is =>
        simp only [e1, Option.bind, e2] at h
        obtain ⟨a, vs, rfl, q, rs⟩ := s.items r e1
        obtain rfl := rs.bls e2
        rw [hK]
        exact ⟨a, is, rfl, q, h.done s (.bl _)⟩
  | any =>
    refine bf_pe (cr_any hcm) hg hm (by rfl) (by decide) (by decide) h0 fun w S1 v σ H μ Hf Q _ s r h => ?_
    unfold b1D at h
    dsimp only at h
    cases e1 : itemsF S1 w with
    | none => rw [e1] at h; exact h.elim
    | some ds =>
      cases e2 : blsD ds with
      | none => simp only [e1, Option.bind, e2] at h; exact h.elim
      | some is =>
        simp only [e1, Option.bind, e2] at h
        obtain ⟨a, vs, rfl, q, rs⟩ := s.items r e1
        obtain rfl := rs.bls e2
        rw [hK]
        exact ⟨a, is, rfl, q, h.done s (.bl _)⟩
  | int =>
    refine bt_pe call_int1 hg hm (by rfl) (by decide) (by decide) h0 fun w S1 v σ H μ Hf Q _ s r h => ?_
    unfold b1D at h
    dsimp only at h
    split at h
    · cases wr_int r
      exact .inl ⟨_, rfl, h.done s (.int _)⟩
    · cases wr_bl r
      exact .inr ⟨_, rfl, h.done s (.int _)⟩
    · exact h.elim
  | _ => cases hb
/-! ### a list that changes -/
theorem cell_lst {K : PySem.W.Frag} {bs : List Nat} (s : Sm K bs μ S H Hf) {k : Nat} {lk : Bool} {ws : List Wd} {v : V} (hc : S[k]? = some (.lst lk ws)) (r : μ[k]? = some v) : ∃ a vs, v = .ref a ∧ H a = some (.lst vs) ∧ Hf a = none ∧ Paired (WR K Hf μ noXr) ws vs := by
  have cr := s.cell k _ v hc r
  cases cr with
  | lst q1 q2 q3 => exact ⟨_, _, rfl, q1, q2, q3⟩
theorem write_lst {K : PySem.W.Frag} {bs : List Nat} {base : Nat} (s : Sm K bs μ S H Hf) (hb : ∀ b ∈ bs, b ≤ base) {k : Nat} {a : Addr} {ws ws' : List Wd} {vs' : List V} (hc : S[k]? = some (.lst false ws)) (hm : μ[k]? = some (.ref a)) (r : Paired (WR K Hf μ noXr) ws' vs')
    (hh : ∀ w ∈ ws', ∀ j ∈ hsW w, j ∈ ws.flatMap hsW ∨ base ≤ k) : Sm K bs μ (S.set k (.lst false ws')) (upd H a (.lst vs')) Hf ∧ Xt S μ H Hf (S.set k (.lst false ws')) μ (upd H a (.lst vs')) Hf := by
  obtain ⟨a', vs, e, q1, q2, q3⟩ := cell_lst s hc hm
  cases e
  refine s.setC hc rfl rfl hm (.lst upd_same q2 r) fun b hb' hk j hj => ?_
  obtain ⟨w, hw, hj⟩ := List.mem_flatMap.mp (show j ∈ ws'.flatMap hsW from hj)
  rcases hh w hw j hj with z | z
  · exact s.frm b hb' k _ hk hc j z
  · have := hb b hb'
    omega
theorem hs_flat {ws : List Wd} {w : Wd} (h : w ∈ ws) : ∀ j ∈ hsW w, j ∈ ws.flatMap hsW := fun j hj => List.mem_flatMap.mpr ⟨w, h, hj⟩
theorem set_mem {α : Type} {l : List α} {i : Nat} {x y : α} (h : y ∈ l.set i x) : y = x ∨ y ∈ l := by
  rcases List.mem_or_eq_of_mem_set h with h | h
  · exact .inr h
  · exact .inl h
theorem so_aset {o i e : Ex} {q p : Pos} (hK : X.K = A.K) (hbs : ∀ b ∈ A.bs, b ≤ C.base) (ho : ∀ ρ, Ok A X C ρ o) (hi : ∀ ρ, Ok A X C ρ i) (he : ∀ ρ, Ok A X C ρ e) : OkS A X C (.aset o i q e p) := fun ρ S => by
  unfold St.s exec
  have hsw : swapsWith e.e (some (.Subscript o.e i.e q)) p.line X.env = pure false := by cases e <;> rfl
  have hst : swappedStores [.Subscript o.e i.e q] e.e X.env = pure none := by cases e <;> rfl
  have hpg : ∀ (S1 S2 : Store), PG X (.Subscript o.e i.e q) (gSub (tEv A ρ S1 (ev C o ρ S1)) (tEv A ρ S2 (ev C i ρ S2)) rSetL) := fun S1 S2 => pg_sub (ho ρ S1).pe (hi ρ S2).pe set_list (by cases i <;> intro _ <;> rfl)
  have mk : ∀ (S1 S2 : Store), PS X (.Assign [.Subscript o.e i.e q] e.e p) (tAsg (tEv A ρ S (ev C e ρ S)) (gSub (tEv A ρ S1 (ev C o ρ S1)) (tEv A ρ S2 (ev C i ρ S2)) rSetL)) := fun S1 S2 => ps_asg (he ρ S).pe (hpg S1 S2) hsw hst (by rfl)
  cases e1 : ev C e ρ S with
  | no => exact noPS
  | ex q0 S1 => have m := mk S S; rw [e1] at m; exact impPS m fun D σ H ⟨μ, Hf, sm, en, h⟩ => ⟨μ, Hf, sm, en, fun cls d μ1 H1 Hf1 s1 x1 w1 => h cls d σ μ1 H1 Hf1 s1 x1 (en.xt x1) w1⟩
  | ok x S1 =>
    cases e2 : ev C o ρ S1 with
    | no =>
      refine neverPS fun D σ H ⟨μ, Hf, sm, en, h⟩ => ?_
      have h' : RsO A S μ H Hf ((ev C o ρ S1).st ρ fun w S => (ev C i ρ S).st ρ fun j S => (opt S (isInt j)).st ρ fun j S => (asetD C.base w j x S).st ρ fun _ S => .nx ρ S) D := h
      rw [e2] at h'; exact h'
    | ex q0 S2 =>
      have m := mk S1 S1
      rw [e1, e2] at m
      refine impPS m fun D σ H ⟨μ, Hf, sm, en, h⟩ => ⟨μ, Hf, sm, en, fun v μ1 H1 Hf1 s1 x1 w1 => ⟨μ1, Hf1, s1, en.xt x1, ?_⟩⟩
      have h' : RsO A S μ H Hf ((ev C o ρ S1).st ρ fun w S => (ev C i ρ S).st ρ fun j S => (opt S (isInt j)).st ρ fun j S => (asetD C.base w j x S).st ρ fun _ S => .nx ρ S) D := h
      rw [e2] at h'
      exact fun cls d μ2 H2 Hf2 s2 x2 w2 => h' cls d σ μ2 H2 Hf2 s2 (x1.trans x2) ((en.xt x1).xt x2) w2
    | ok w S2 =>
      have m := mk S1 S2
      rw [e1, e2] at m
      refine impPS m fun D σ H ⟨μ, Hf, sm, en, h⟩ => ⟨μ, Hf, sm, en, fun v μ1 H1 Hf1 s1 x1 w1 => ⟨μ1, Hf1, s1, en.xt x1, fun u μ2 H2 Hf2 s2 x2 w2 => ?_⟩⟩
      have h' : RsO A S μ H Hf ((ev C o ρ S1).st ρ fun w S => (ev C i ρ S).st ρ fun j S => (opt S (isInt j)).st ρ fun j S => (asetD C.base w j x S).st ρ fun _ S => .nx ρ S) D := h
      rw [e2] at h'
      have h2 := RsO.step (show RsO A S μ H Hf ((ev C i ρ S2).st ρ fun j S => (opt S (isInt j)).st ρ fun j S => (asetD C.base w j x S).st ρ fun _ S => .nx ρ S) D from h') (x1.trans x2)
      refine st_then s2 ((en.xt x1).xt x2) h2 fun z S3 y μ3 H3 Hf3 s3 en3 w3 x3 h3 _ => ?_
      obtain ⟨j, ej, h4⟩ := opt_st h3
      obtain rfl := int_of ej
      cases wr_int w3
      have rv := (w1.xt x2).xt x3
      have ru := w2.xt x3
      cases w with
      | h k =>
        cases ek : keepIf (decide (C.base ≤ k)) S3 x with
        | no => unfold asetD at h4; dsimp only at h4; rw [ek] at h4; exact h4.elim
        | ex q0 S4 => exact (keepIf_noex ek).elim
        | ok x' S4 =>
          unfold asetD at h4
          dsimp only at h4
          rw [ek] at h4
          obtain ⟨Hf4, s4, x4, r4, hh⟩ := keepIf_ok ek s3 rv
          have h5 : RsO A S3 μ3 H3 Hf3 (Res.st (match S4[k]? with
            | some (.lst false ws) => match ixN ws.length j with
              | some jj => .ok () (S4.set k (.lst false (ws.set jj x')))
              | none => .no
            | _ => .no) ρ fun _ S => .nx ρ S) D := h4
          split at h5
          · rename_i ws ec
            split at h5
            · rename_i jj ej
              have hm : μ3[k]? = some u := ru
              obtain ⟨a, vs, rfl, q1, q2, q3⟩ := cell_lst s4 ec hm
              obtain ⟨s5, x5⟩ := write_lst (ws' := ws.set jj x') (vs' := vs.set jj v) s4 hbs ec hm (paired_set r4 jj q3) fun w hw i' hi' => by
                rcases set_mem hw with rfl | hw
                · obtain ⟨h1, _⟩ := hh i' hi'
                  exact .inr (of_decide_eq_true h1)
                · exact .inl (hs_flat hw i' hi')
              refine ⟨a, vs, j, jj, rfl, rfl, q1, by rw [← q3.length]; exact ej, ?_⟩
              exact h5 σ μ3 _ Hf4 s5 (x4.trans x5) (en3.xt (x4.trans x5))
            · exact h5.elim
          · exact h5.elim
      | _ => exact h4.elim
def okAug : Bop → Bool
  | .add => true
  | .sub => true
  | _ => false
theorem so_aug {i : Nat} {x : Str} {q p : Pos} {o : Bop} {e : Ex} (hop : okAug o = true) (hw : wfT X.N X.env.scope X.fn (.nm i x q) = true) (hN : X.N.Nodup) (he : ∀ ρ, Ok A X C ρ e) : OkS A X C (.aug i x q o e p) := fun ρ S => by
  unfold St.s exec
  unfold wfT at hw
  obtain ⟨h1, h2⟩ := Bool.and_eq_true_iff.mp hw
  obtain ⟨l1, l2⟩ := loc_of h2
  cases e0 : ρ[i]? with
  | none => exact noPS
  | some w =>
    cases w with
    | none => exact noPS
    | some x0 =>
      cases o with
      | add =>
        refine impPS (ps_aug hN (of_decide_eq_true h1) l1 (he ρ S).pe ip_add l2) fun D σ H ⟨μ, Hf, sm, en, h⟩ => ?_
        obtain ⟨v0, ev0, r0⟩ := en.at_ i x0 e0
        refine ⟨v0, ev0, ?_⟩
        refine st_then sm en h fun y S1 v μ1 H1 Hf1 s1 en1 w1 x1 h1 _ => ?_
        have r0' := r0.xt x1
        split at h1
        · cases wr_int r0'; cases wr_int w1
          split at h1
          · exact ⟨_, _, rfl, rfl, RsO.nx h1 s1 .refl (en1.set (.int _))⟩
          · exact h1.elim
        · rename_i z _ _; cases z
        · exact h1.elim
      | sub =>
        refine impPS (ps_aug hN (of_decide_eq_true h1) l1 (he ρ S).pe ip_sub l2) fun D σ H ⟨μ, Hf, sm, en, h⟩ => ?_
        obtain ⟨v0, ev0, r0⟩ := en.at_ i x0 e0
        refine ⟨v0, ev0, ?_⟩
        refine st_then sm en h fun y S1 v μ1 H1 Hf1 s1 en1 w1 x1 h1 _ => ?_
        have r0' := r0.xt x1
        split at h1
        · rename_i z _ _; cases z
        · cases wr_int r0'; cases wr_int w1
          split at h1
          · exact ⟨_, _, rfl, rfl, RsO.nx h1 s1 .refl (en1.set (.int _))⟩
          · exact h1.elim
        · exact h1.elim
      | _ => cases hop
end
end Gw

namespace Gw
open PySem PySem.Spec PyProof.Rows L2
section
variable {A : Pa} {X : Cx} {C : Cxt} {ρ : Env} {S S1 : Store} {σ : L2.St} {μ μ1 : List V} {H Hf H1 Hf1 : Hp} {D : Ends} {Q : VK}
/-- a method with one argument -/
theorem mt1_pe {T id : String} {name : Str} {r : V → List V → Hp → VK → Prop} {a : Ex} {es : List Ex} {ap p : Pos} {g : Res Wd} {rc : Wd → Store → Bool} {f : Wd → List Wd → Store → Res Wd} (pa : PlainAttrs T) (slot : Slot T name id) (hty : typeOf (.builtin id) = pure (.type "method_descriptor")) (hm : MtR X id r) (hs : supB a = false) (hl : (ap.endLine == p.line) = true)
    (he : es.length = 1) (h0 : PE X a.e (tEv A ρ S g)) (hx : ∀ x ∈ es, Ok A X C ρ x) (ht : ∀ w S1, g = .ok w S1 → rc w S1 = true → ∀ v H μ Hf, Sm A.K A.bs μ S1 H Hf → WR A.K Hf μ A.xr w v → tyV X.K T v H)
    (hr : ∀ w S1, g = .ok w S1 → rc w S1 = true → ∀ y S2 v u σ H μ Hf Q, Sm A.K A.bs μ S2 H Hf → WR A.K Hf μ A.xr w v → WR A.K Hf μ A.xr y u → Rs A (RW A) σ S2 μ H Hf (f w [y] S2) Q → r v [u] H Q) :
    PE X (.Call (.Attribute a.e name ap) (Exs.e es) [] p) (tEv A ρ S (g.bd fun w S1 => if rc w S1 = true then (evs C es ρ S1).bd fun ws S2 => f w ws S2 else .no)) := by
  match es, he with
  | [x], _ =>
    have e1 : Exs.e [x] = [x.e] := by unfold Exs.e Exs.e; rfl
    have mk : ∀ S1, PE X (.Call (.Attribute a.e name ap) [x.e] [] p) (tBM X.K T r (tEv A ρ S g) (tAs A ρ S1 (evs C [x] ρ S1))) := fun S1 => by
      have ha := pa_evs [x] hx S1
      rw [e1] at ha
      exact pe_bm pa slot hty hm h0 ha (base_ex hs _ _) (by rw [star1]; rfl) hl (star_ex _ _ _) (by rfl)
    rw [e1]
    cases g with
    | no => exact neverPE fun σ H Q ⟨_, _, _, _, h⟩ => h
    | ex q S1 => exact impPE (mk S) fun σ H Q ⟨μ, Hf, sm, en, h⟩ => ⟨μ, Hf, sm, en, h⟩
    | ok w S1 =>
      refine impPE (mk S1) fun σ H Q ⟨μ, Hf, sm, en, h⟩ => ⟨μ, Hf, sm, en, fun v μ1 H1 Hf1 s1 x1 w1 => ?_⟩
      have h' : Rs A (RW A) σ S μ H Hf (if rc w S1 = true then (evs C [x] ρ S1).bd fun ws S2 => f w ws S2 else .no) Q := h
      by_cases hrc : rc w S1 = true
      · rw [if_pos hrc] at h'
        refine ⟨ht w S1 rfl hrc v H1 μ1 Hf1 s1 w1, ?_⟩
        refine as_then s1 (en.xt x1) (Rs.step h' x1) fun ws S2 vs μ2 H2 Hf2 e2 s2 en2 w2 x2 h2 => ?_
        have hl := evs_len _ _ _ _ e2
        match ws, hl, vs, w2 with
        | [y], _, [u], .cons r1 .nil => exact hr w S1 rfl hrc y S2 v u σ H2 μ2 Hf2 Q s2 (w1.xt x2) r1 h2
      · rw [if_neg hrc] at h'
        exact h'.elim
/-- .. without -/
theorem mt0_pe {T id : String} {name : Str} {r : V → List V → Hp → VK → Prop} {a : Ex} {es : List Ex} {ap p : Pos} {g : Res Wd} {rc : Wd → Store → Bool} {f : Wd → List Wd → Store → Res Wd} (pa : PlainAttrs T) (slot : Slot T name id) (hty : typeOf (.builtin id) = pure (.type "method_descriptor")) (hm : MtR X id r) (hs : supB a = false) (hl : (ap.endLine == p.line) = true)
    (he : es.length = 0) (h0 : PE X a.e (tEv A ρ S g)) (ht : ∀ w S1, g = .ok w S1 → rc w S1 = true → ∀ v H μ Hf, Sm A.K A.bs μ S1 H Hf → WR A.K Hf μ A.xr w v → tyV X.K T v H)
    (hr : ∀ w S1, g = .ok w S1 → rc w S1 = true → ∀ v σ H μ Hf Q, Sm A.K A.bs μ S1 H Hf → WR A.K Hf μ A.xr w v → Rs A (RW A) σ S1 μ H Hf (f w [] S1) Q → r v [] H Q) :
    PE X (.Call (.Attribute a.e name ap) (Exs.e es) [] p) (tEv A ρ S (g.bd fun w S1 => if rc w S1 = true then (evs C es ρ S1).bd fun ws S2 => f w ws S2 else .no)) := by
  match es, he with
  | [], _ =>
    have e1 : Exs.e [] = [] := by unfold Exs.e; rfl
    have e2 : ∀ S1, evs C [] ρ S1 = .ok [] S1 := fun S1 => by unfold evs; rfl
    rw [e1]
    have mk := pe_bm0 pa slot hty hm h0 (base_ex hs name X.env) hl
    cases g with
    | no => exact neverPE fun σ H Q ⟨_, _, _, _, h⟩ => h
    | ex q S1 => exact impPE mk fun σ H Q ⟨μ, Hf, sm, en, h⟩ => ⟨μ, Hf, sm, en, h⟩
    | ok w S1 =>
      refine impPE mk fun σ H Q ⟨μ, Hf, sm, en, h⟩ => ⟨μ, Hf, sm, en, fun v μ1 H1 Hf1 s1 x1 w1 => ?_⟩
      have h' : Rs A (RW A) σ S μ H Hf (if rc w S1 = true then (evs C [] ρ S1).bd fun ws S2 => f w ws S2 else .no) Q := h
      rw [e2] at h'
      by_cases hrc : rc w S1 = true
      · rw [if_pos hrc] at h'
        exact ⟨ht w S1 rfl hrc v H1 μ1 Hf1 s1 w1, hr w S1 rfl hrc v σ H1 μ1 Hf1 Q s1 w1 (Rs.step (show Rs A (RW A) σ S μ H Hf (f w [] S1) Q from h') x1)⟩
      · rw [if_neg hrc] at h'
        exact h'.elim
def okM (o : Mt) (n : Nat) : Bool := match o with
  | .append => n == 1 | .extend => n == 1 | .index => n == 1 | .pop => n == 0 | .reverse => n == 0 | .clear => n == 0
  | _ => false
theorem rcv_lst {w : Wd} (h : isLstC S w = true) : ∃ k lk ws, w = .h k ∧ S[k]? = some (.lst lk ws) := by
  cases w with
  | h k =>
    unfold isLstC at h
    dsimp only at h
    split at h
    · rename_i lk ws e; exact ⟨k, lk, ws, rfl, e⟩
    · cases h
  | _ => cases h
theorem ty_lst {k : Nat} (hK : X.K = A.K) (h : ∃ lk ws, S1[k]? = some (.lst lk ws)) : ∀ v H μ Hf, Sm A.K A.bs μ S1 H Hf → WR A.K Hf μ A.xr (.h k) v → tyV X.K "list" v H := fun v H μ Hf s r => by
  obtain ⟨lk, ws, e⟩ := h
  obtain ⟨a, vs, rfl, q, _⟩ := cell_lst s e r
  exact .inl ⟨rfl, vs, .inl (.inl q)⟩
theorem isT_hs {ws : List Wd} (h : ws.all isT = true) : ∀ w ∈ ws, hsW w = [] := fun w hw => by
  have := List.all_eq_true.mp h w hw
  cases w with
  | t d => rfl
  | _ => cases this
theorem find_str {xs : List Str} {x : Str} {j : Nat} (h : xs.findIdx? (fun y => decide (y = x)) = some j) : xs[j]? = some x ∧ ∀ m, m < j → xs[m]? ≠ some x := by
  rw [List.findIdx?_eq_some_iff_getElem] at h
  obtain ⟨hj, h1, h2⟩ := h
  refine ⟨?_, fun m hm e => ?_⟩
  · rw [List.getElem?_eq_getElem hj]; exact congrArg some (of_decide_eq_true h1)
  · have hm' : m < xs.length := Nat.lt_trans hm hj
    rw [List.getElem?_eq_getElem hm'] at e
    injection e with e
    have := h2 m hm
    simp [e] at this
theorem sd_mth {o : Mt} {m : Bool} {a : Ex} {es : List Ex} {ap p : Pos} (ho : okM o es.length = true) (hs : supB a = false) (hl : (ap.endLine == p.line) = true) (hK : X.K = A.K) (hbs : ∀ b ∈ A.bs, b ≤ C.base) (ha : Ok A X C ρ a) (hx : ∀ x ∈ es, Ok A X C ρ x) : Ok A X C ρ (.mth o m a ap es p) := fun S => by
  unfold Ex.e ev
  cases hcal : C.calm with
  | false => exact noPB
  | true =>
  rw [if_neg (by decide)]
  have h0 := (ha S).pe
  refine .of ?_
  have tl : ∀ w S1, ev C a ρ S = .ok w S1 → isLstC S1 w = true → ∀ v H μ Hf, Sm A.K A.bs μ S1 H Hf → WR A.K Hf μ A.xr w v → tyV X.K "list" v H := fun w S1 _ hrc v H μ Hf s r => by
    obtain ⟨k, lk, ws, rfl, e⟩ := rcv_lst hrc
    exact ty_lst hK ⟨lk, ws, e⟩ v H μ Hf s r
  cases o with
  | append =>
    refine mt1_pe PySem.F.plainAttrs_list PySem.F.slot_list_append PySem.F.type_list_append mt_append hs hl (eq_of_beq ho) h0 hx (rc := fun w S => rcvOk .append S w) tl fun w S1 _ hrc y S2 v u σ H μ Hf Q s r ru h => ?_
    obtain ⟨k, lk, ws, rfl, _⟩ := rcv_lst hrc
    unfold mthD at h
    dsimp only at h
    cases ek : keepIf (decide (C.base ≤ k)) S2 y with
    | no => rw [ek] at h; exact h.elim
    | ex q0 S4 => exact (keepIf_noex ek).elim
    | ok y' S4 =>
      rw [ek] at h
      obtain ⟨Hf4, s4, x4, r4, hh⟩ := keepIf_ok ek s ru
      have h5 : Rs A (RW A) σ S2 μ H Hf (match S4[k]? with
        | some (.lst false ws) => if ws.length < lineN then .ok (.t .non) (S4.set k (.lst false (ws ++ [y']))) else .no
        | _ => .no) Q := h
      split at h5
      · rename_i ws ec
        split at h5
        · rename_i hlen
          obtain ⟨a, vs, rfl, q1, q2, q3⟩ := cell_lst s4 ec r
          obtain ⟨s5, x5⟩ := write_lst (ws' := ws ++ [y']) (vs' := vs ++ [u]) s4 hbs ec r (paired_app q3 (.cons r4 .nil)) fun w hw i' hi' => by
            rcases List.mem_append.mp hw with hw | hw
            · exact .inl (hs_flat hw i' hi')
            · rw [List.mem_singleton.mp hw] at hi'
              exact .inr (of_decide_eq_true (hh i' hi').1)
          refine ⟨a, vs, u, rfl, rfl, q1, by rw [← q3.length, ← lineN_eq]; exact hlen, ?_⟩
          exact h5.to s5 (x4.trans x5) .non
        · exact h5.elim
      · exact h5.elim
  | extend =>
    refine mt1_pe PySem.F.plainAttrs_list PySem.F.slot_list_extend PySem.F.type_list_extend mt_extend hs hl (eq_of_beq ho) h0 hx (rc := fun w S => rcvOk .extend S w) tl fun w S1 _ hrc y S2 v u σ H μ Hf Q s r ru h => ?_
    obtain ⟨k, lk, ws, rfl, _⟩ := rcv_lst hrc
    unfold mthD at h
    dsimp only at h
    cases y with
    | h k2 =>
      dsimp only at h
      split at h
      · rename_i lk2 zs ws2 e2 e1
        split at h
        · rename_i hlen
          obtain ⟨a, vs, rfl, q1, q2, q3⟩ := cell_lst s e1 r
          obtain ⟨b, us, rfl, p1, p2, p3⟩ := cell_lst s e2 ru
          obtain ⟨s5, x5⟩ := write_lst (ws' := ws2 ++ zs) (vs' := vs ++ us) s hbs e1 r (paired_app q3 p3) fun w hw i' hi' => by
            rcases List.mem_append.mp hw with hw | hw
            · exact .inl (hs_flat hw i' hi')
            · rw [isT_hs hlen.2 w hw] at hi'; cases hi'
          refine ⟨a, b, vs, us, rfl, rfl, q1, p1, by rw [← q3.length, ← p3.length, ← lineN_eq]; exact hlen.1, ?_⟩
          exact h.to s5 x5 .non
        · exact h.elim
      · exact h.elim
    | _ => exact h.elim
  | pop =>
    refine mt0_pe PySem.F.plainAttrs_list PySem.F.slot_list_pop PySem.F.type_list_pop mt_pop hs hl (eq_of_beq ho) h0 (rc := fun w S => rcvOk .pop S w) tl fun w S1 _ hrc v σ H μ Hf Q s r h => ?_
    obtain ⟨k, lk, ws, rfl, _⟩ := rcv_lst hrc
    unfold mthD at h
    dsimp only at h
    split at h
    · rename_i ws2 e1
      split at h
      · rename_i y ey
        obtain ⟨a, vs, rfl, q1, q2, q3⟩ := cell_lst s e1 r
        obtain ⟨z, ez, rz⟩ := paired_get q3 ey
        obtain ⟨s5, x5⟩ := write_lst (ws' := ws2.dropLast) (vs' := vs.dropLast) s hbs e1 r (paired_dropLast q3) fun w hw i' hi' => .inl (hs_flat (List.dropLast_subset _ hw) i' hi')
        refine ⟨a, vs, z, rfl, rfl, q1, by rw [← q3.length]; exact ez, ?_⟩
        exact h.to s5 x5 ((noXr_any rz).xt x5)
      · exact h.elim
    · exact h.elim
  | reverse =>
    refine mt0_pe PySem.F.plainAttrs_list PySem.F.slot_list_reverse PySem.F.type_list_reverse mt_reverse hs hl (eq_of_beq ho) h0 (rc := fun w S => rcvOk .reverse S w) tl fun w S1 _ hrc v σ H μ Hf Q s r h => ?_
    obtain ⟨k, lk, ws, rfl, _⟩ := rcv_lst hrc
    unfold mthD at h
    dsimp only at h
    split at h
    · rename_i ws2 e1
      obtain ⟨a, vs, rfl, q1, q2, q3⟩ := cell_lst s e1 r
      obtain ⟨s5, x5⟩ := write_lst (ws' := ws2.reverse) (vs' := vs.reverse) s hbs e1 r (paired_rev q3) fun w hw i' hi' => .inl (hs_flat (List.mem_reverse.mp hw) i' hi')
      exact ⟨a, vs, rfl, rfl, q1, h.to s5 x5 .non⟩
    · exact h.elim
  | clear =>
    refine mt0_pe PySem.F.plainAttrs_list PySem.F.slot_list_clear PySem.F.type_list_clear mt_clear hs hl (eq_of_beq ho) h0 (rc := fun w S => rcvOk .clear S w) tl fun w S1 _ hrc v σ H μ Hf Q s r h => ?_
    obtain ⟨k, lk, ws, rfl, _⟩ := rcv_lst hrc
    unfold mthD at h
    dsimp only at h
    split at h
    · rename_i ws2 e1
      obtain ⟨a, vs, rfl, q1, q2, q3⟩ := cell_lst s e1 r
      obtain ⟨s5, x5⟩ := write_lst (ws' := []) (vs' := []) s hbs e1 r .nil fun w hw => by cases hw
      exact ⟨a, vs, rfl, rfl, q1, h.to s5 x5 .non⟩
    · exact h.elim
  | index =>
    by_cases hc : ∃ ds S1, ev C a ρ S = .ok (.c ds) S1
    · obtain ⟨ds, S1, e1⟩ := hc
      refine mt1_pe PySem.F.plainAttrs_tuple PySem.F.slot_tuple_index PySem.F.type_tuple_index mt_tup_index hs hl (eq_of_beq ho) h0 hx (rc := fun w S => rcvOk .index S w) (fun w S2 e2 _ v H μ Hf s r => ?_) fun w S2 e2 hrc y S2 v u σ H μ Hf Q s r ru h => ?_
      · rw [e1] at e2; cases e2
        obtain ⟨a, vs, rfl, q, _⟩ := r
        rw [hK]
        exact .inr (.inl ⟨rfl, q⟩)
      · rw [e1] at e2; cases e2
        obtain ⟨a, vs, rfl, q, q2, q3⟩ := r
        cases y with
        | t d =>
          cases d with
          | str x =>
            unfold mthD at h
            dsimp only at h
            cases e3 : strsD ds with
            | none => rw [e3] at h; exact h.elim
            | some xs =>
              simp only [e3] at h
              split at h
              · rename_i j ej
                obtain ⟨f1, f2⟩ := find_str ej
                cases wr_str ru
                obtain rfl := q3.strs e3
                refine ⟨a, xs, x, j, rfl, rfl, ?_, f1, f2, h.done s (.int _)⟩
                rw [hK]
                rcases q2 with q2 | q2
                · exact .inl (s.sub.rd _ _ q2)
                · exact .inr q2
              · exact h.elim
          | _ => exact h.elim
        | _ => exact h.elim
    · refine mt1_pe PySem.F.plainAttrs_list PySem.F.slot_list_index PySem.F.type_list_index mt_index hs hl (eq_of_beq ho) h0 hx (rc := fun w S => rcvOk .index S w) (fun w S2 e2 hrc v H μ Hf s r => ?_) fun w S2 e2 hrc y S2 v u σ H μ Hf Q s r ru h => ?_
      · unfold rcvOk at hrc
        dsimp only at hrc
        split at hrc
        · exact (hc ⟨_, _, e2⟩).elim
        · split at hrc
          · rename_i ws e
            obtain ⟨a, vs, rfl, q, rs⟩ := s.seq r e
            rw [hK]
            exact .inl ⟨rfl, vs, q⟩
          · cases hrc
      · cases y with
        | t d =>
          cases d with
          | str x =>
            unfold mthD at h
            dsimp only at h
            split at h
            · exact (hc ⟨_, _, e2⟩).elim
            · rename_i ws _ e
              obtain ⟨a, vs, rfl, q, rs⟩ := s.seq r e
              cases e4 : mapO (rdF S2) ws with
              | none => simp only [e4, Option.bind] at h; exact h.elim
              | some ds =>
                cases e3 : strsD ds with
                | none => simp only [e4, Option.bind, e3] at h; exact h.elim
                | some xs =>
                  simp only [e4, Option.bind, e3] at h
                  split at h
                  · rename_i j ej
                    obtain ⟨f1, f2⟩ := find_str ej
                    cases wr_str ru
                    obtain rfl := (s.rdFs rs e4).strs e3
                    refine ⟨a, xs.map V.str, .str x, j, .str x, rfl, rfl, by rw [hK]; exact q, rfl, by simp [flatV], by simp [f1], by simp [eqV], fun m z' hm hz => ?_, h.done s (.int _)⟩
                    rw [List.getElem?_map] at hz
                    cases e5 : xs[m]? with
                    | none => rw [e5] at hz; cases hz
                    | some y =>
                      rw [e5] at hz
                      cases hz
                      have := f2 m hm
                      show (y == x) = false
                      cases hyx : (y == x) with
                      | false => rfl
                      | true => exact (this (by rw [e5, eq_of_beq hyx])).elim
                  · exact h.elim
            · exact h.elim
          | _ => exact h.elim
        | _ => exact h.elim
  | _ => cases ho
end
end Gw

namespace Gw
open PySem PySem.Spec PyProof.Rows L2
def visB (sc : Scope) (x : Str) : Bool := match sc.names.lookup x with
  | some .local => true
  | some .cell => true
  | some .free => true
  | _ => false
def glB (sc : Scope) (x : Str) : Bool := (match sc.names.lookup x with
  | some .globalImplicit => true
  | _ => false) && !(x == ("__debug__" : Str))
theorem vis_of {sc : Scope} {x : Str} (h : visB sc x = true) : Vis sc x := by
  unfold visB at h
  split at h
  · rename_i e; exact .inl e
  · rename_i e; exact .inr (.inl e)
  · rename_i e; exact .inr (.inr e)
  · cases h
theorem gl_of {X : Cx} {x : Str} (h : glB X.env.scope x = true) : Gl X x ∧ (x == ("__debug__" : Str)) = false := by
  unfold glB at h
  obtain ⟨h1, h2⟩ := Bool.and_eq_true_iff.mp h
  refine ⟨?_, by simpa using h2⟩
  split at h1
  · rename_i e; exact e
  · cases h1
mutual
def wfE (N : List Str) (sc : Scope) (fn : Str → Bool) : Ex → Bool
  | .var i x _ => decide (N[i]? = some x) && (visB sc x && (!(x == ("__debug__" : Str)) && !(x == ("__classdict__" : Str))))
  | .glb x _ => glB sc x
  | .lit _ _ _ => true
  | .bin _ _ a b _ => wfE N sc fn a && wfE N sc fn b
  | .eq _ a b _ => wfE N sc fn a && wfE N sc fn b
  | .cmp _ a b _ => wfE N sc fn a && wfE N sc fn b
  | .chain _ _ a b c _ => wfE N sc fn a && (wfE N sc fn b && wfE N sc fn c)
  | .isN _ a _ _ _ => wfE N sc fn a
  | .inS _ a b _ => wfE N sc fn a && wfE N sc fn b
  | .inD _ a b _ => wfE N sc fn a && wfE N sc fn b
  | .inT _ a b _ => wfE N sc fn a && wfE N sc fn b
  | .bop _ as _ => !as.isEmpty && wfEs N sc fn as
  | .not a _ => wfE N sc fn a
  | .neg a _ => wfE N sc fn a
  | .ife c a b _ => wfE N sc fn c && (wfE N sc fn a && wfE N sc fn b)
  | .tup es _ _ => wfEs N sc fn es
  | .lst _ es _ => wfEs N sc fn es
  | .dic0 _ _ _ => true
  | .dic _ _ _ _ _ => false
  | .idx a i _ => wfE N sc fn a && wfE N sc fn i
  | .dget a i _ => wfE N sc fn a && wfE N sc fn i
  | .slc _ a lo hi _ _ => wfE N sc fn a && (wfO N sc fn lo && wfO N sc fn hi)
  | .rev _ a _ _ _ _ _ => wfE N sc fn a
  | .call f _ _ es _ => glB sc f && wfEs N sc fn es
  | .b1 b _ _ e _ => glB sc b.nm && (okB1 b && wfE N sc fn e)
  | .sset _ _ _ _ _ _ => false
  | .lset _ _ _ _ _ => false
  | .sum2 _ _ _ _ _ => false
  | .mm2 _ _ _ _ _ => false
  | .mmd _ _ _ _ _ _ => false
  | .mth o _ a ap es p => okM o es.length && (!supB a && ((ap.endLine == p.line) && (wfE N sc fn a && wfEs N sc fn es)))
  | .isi _ a ty _ _ => glB sc "isinstance" && (glB sc ty.nm && wfE N sc fn a)
  | .att _ _ _ => false
  | .isx _ _ _ _ _ => false
  | .lc _ elt t it cond csc own _ => blkC N sc csc own && (wfT N (relS csc sc) (fun x => csc.names.lookup x == some .cell) t && ((ixT t).all (fun i => decide (i ∈ own.map (·.2))) && (wfI N sc fn it && (wfO N (relS csc sc) (fun x => csc.names.lookup x == some .cell) cond && wfE N (relS csc sc) (fun x => csc.names.lookup x == some .cell) elt))))
def wfEs (N : List Str) (sc : Scope) (fn : Str → Bool) : List Ex → Bool
  | [] => true
  | a :: r => wfE N sc fn a && wfEs N sc fn r
def wfO (N : List Str) (sc : Scope) (fn : Str → Bool) : Option Ex → Bool
  | none => true
  | some a => wfE N sc fn a
def wfI (N : List Str) (sc : Scope) (fn : Str → Bool) : It → Bool
  | .seq a => wfE N sc fn a
  | .rng1 _ a _ => glB sc "range" && wfE N sc fn a
  | .rng2 _ a b _ => glB sc "range" && (wfE N sc fn a && wfE N sc fn b)
  | _ => false
end
section
variable {P : Prg} {n : Nat} {A : Pa} {X : Cx} {C : Cxt}
theorem Gd.blk (G : Gd P n A X C) (hc : C.calm = true) {csc : Scope} (hk : csc.kind = .function) (s : Shared) (H : Hp) (Cc : Addr) (cl : List (Str × Addr)) (fp : List Addr) : Gd P n A.still (X.blk s H csc (compEnvC csc cl Cc X.env) fp) C :=
  ⟨G.K, G.un, G.nd, hk, G.bs, fun _ => ⟨(G.on hc).calm, (G.on hc).xr, (G.on hc).call, (G.on hc).room, takes0, PassesOwn.never⟩, G.off, G.fns, G.glb, G.blt⟩
theorem bm (h : x ∈ bltNames) (G : Gd P n A X C) : X.mg x = none := G.blt x h
theorem blt_nm (b : B1) : b.nm ∈ bltNames := by cases b <;> decide
theorem ty_nm (b : Ty) : b.nm ∈ bltNames := by cases b <;> decide
theorem Gd.u1 (G : Gd P n A X C) : X.A.units + 1 < cLine := by have := G.un; omega
theorem Gd.u64 (G : Gd P n A X C) : X.A.units + 64 < cLine := by have := G.un; omega
mutual
theorem ev_ok : ∀ (x : Ex) {A : Pa} {X : Cx} (ρ : Env), wfE X.N X.env.scope X.fn x = true → Gd P n A X C → Ok A X C ρ x
  | .var i x p, A, X, ρ, h, G => fun S => by
    unfold wfE at h
    obtain ⟨h1, h2⟩ := Bool.and_eq_true_iff.mp h
    obtain ⟨h2, h3⟩ := Bool.and_eq_true_iff.mp h2
    obtain ⟨h3, h4⟩ := Bool.and_eq_true_iff.mp h3
    unfold Ex.e ev
    exact .of (sd_var (of_decide_eq_true h1) (vis_of h2) (by simpa using h3) (by simpa using h4))
  | .glb x p, A, X, ρ, h, G => by unfold wfE at h; exact sd_glb G (gl_of h).1 (gl_of h).2
  | .lit c j p, A, X, ρ, h, G => fun S => by unfold Ex.e ev; exact .of sd_lit
  | .bin o m a b p, A, X, ρ, h, G => by
    unfold wfE at h
    obtain ⟨h1, h2⟩ := Bool.and_eq_true_iff.mp h
    exact fun S => sd_bin G.K (ev_ok a ρ h1 G) (ev_ok b ρ h2 G)
  | .eq ng a b p, A, X, ρ, h, G => by
    unfold wfE at h
    obtain ⟨h1, h2⟩ := Bool.and_eq_true_iff.mp h
    exact fun S => sd_eq G.u64 G.K (ev_ok a ρ h1 G) (ev_ok b ρ h2 G)
  | .cmp o a b p, A, X, ρ, h, G => by
    unfold wfE at h
    obtain ⟨h1, h2⟩ := Bool.and_eq_true_iff.mp h
    exact fun S => sd_cmp (ev_ok a ρ h1 G) (ev_ok b ρ h2 G)
  | .chain o o2 a b c p, A, X, ρ, h, G => by
    unfold wfE at h
    obtain ⟨h1, h2⟩ := Bool.and_eq_true_iff.mp h
    obtain ⟨h2, h3⟩ := Bool.and_eq_true_iff.mp h2
    exact sd_chain (ev_ok a ρ h1 G) (ev_ok b ρ h2 G) (ev_ok c ρ h3 G)
  | .isN ng a j q p, A, X, ρ, h, G => by
    unfold wfE at h
    exact sd_isN (ev_ok a ρ h G)
  | .inS ng a b p, A, X, ρ, h, G => by
    unfold wfE at h
    obtain ⟨h1, h2⟩ := Bool.and_eq_true_iff.mp h
    exact fun S => sd_inS G.un G.K (ev_ok a ρ h1 G) (ev_ok b ρ h2 G)
  | .inD ng a b p, A, X, ρ, h, G => by
    unfold wfE at h
    obtain ⟨h1, h2⟩ := Bool.and_eq_true_iff.mp h
    exact sd_inD G.u1 (ev_ok a ρ h1 G) (ev_ok b ρ h2 G)
  | .inT ng a b p, A, X, ρ, h, G => by
    unfold wfE at h
    obtain ⟨h1, h2⟩ := Bool.and_eq_true_iff.mp h
    exact sd_inT (ev_ok a ρ h1 G) (ev_ok b ρ h2 G)
  | .bop and as p, A, X, ρ, h, G => by
    unfold wfE at h
    obtain ⟨h1, h2⟩ := Bool.and_eq_true_iff.mp h
    exact sd_bop (fun z => by rw [z] at h1; cases h1) (evs_ok as ρ h2 G)
  | .not a p, A, X, ρ, h, G => by
    unfold wfE at h
    exact sd_not (ev_ok a ρ h G)
  | .neg a p, A, X, ρ, h, G => by
    unfold wfE at h
    exact sd_neg (ev_ok a ρ h G)
  | .ife a b c p, A, X, ρ, h, G => by
    unfold wfE at h
    obtain ⟨h1, h2⟩ := Bool.and_eq_true_iff.mp h
    obtain ⟨h2, h3⟩ := Bool.and_eq_true_iff.mp h2
    exact sd_ife (ev_ok a ρ h1 G) (ev_ok b ρ h2 G) (ev_ok c ρ h3 G)
  | .tup es k p, A, X, ρ, h, G => by
    unfold wfE at h
    exact sd_tup (evs_ok es ρ h G)
  | .lst m es p, A, X, ρ, h, G => by
    unfold wfE at h
    exact sd_lst (evs_ok es ρ h G)
  | .dic0 m tk p, A, X, ρ, h, G => sd_dic0
  | .dic _ _ _ _ _, A, X, ρ, h, G => by unfold wfE at h; cases h
  | .idx a b p, A, X, ρ, h, G => by
    unfold wfE at h
    obtain ⟨h1, h2⟩ := Bool.and_eq_true_iff.mp h
    exact sd_idx G.K (ev_ok a ρ h1 G) (ev_ok b ρ h2 G)
  | .dget a b p, A, X, ρ, h, G => by
    unfold wfE at h
    obtain ⟨h1, h2⟩ := Bool.and_eq_true_iff.mp h
    exact sd_dget G.u1 (ev_ok a ρ h1 G) (ev_ok b ρ h2 G)
  | .slc m a lo hi q p, A, X, ρ, h, G => by
    unfold wfE at h
    obtain ⟨h1, h2⟩ := Bool.and_eq_true_iff.mp h
    obtain ⟨h2, h3⟩ := Bool.and_eq_true_iff.mp h2
    exact sd_slc G.K (ev_ok a ρ h1 G) (evO_ok lo ρ h2 G) (evO_ok hi ρ h3 G)
  | .rev m a j q1 q2 q3 p, A, X, ρ, h, G => by
    unfold wfE at h
    exact sd_rev G.K (ev_ok a ρ h G)
  | .call f m q es p, A, X, ρ, h, G => by
    unfold wfE at h
    obtain ⟨h1, h2⟩ := Bool.and_eq_true_iff.mp h
    exact sd_call G (gl_of h1).1 (gl_of h1).2 (evs_ok es ρ h2 G)
  | .b1 b m q e p, A, X, ρ, h, G => by
    unfold wfE at h
    obtain ⟨h1, h2⟩ := Bool.and_eq_true_iff.mp h
    obtain ⟨h2, h3⟩ := Bool.and_eq_true_iff.mp h2
    exact sd_b1 h2 (gl_of h1).1 (G.blt _ (blt_nm b)) (fun z => (G.on z).calm) G.K (ev_ok e ρ h3 G)
  | .sset _ _ _ _ _ _, A, X, ρ, h, G => by unfold wfE at h; cases h
  | .lset _ _ _ _ _, A, X, ρ, h, G => by unfold wfE at h; cases h
  | .sum2 _ _ _ _ _, A, X, ρ, h, G => by unfold wfE at h; cases h
  | .mm2 _ _ _ _ _, A, X, ρ, h, G => by unfold wfE at h; cases h
  | .mmd _ _ _ _ _ _, A, X, ρ, h, G => by unfold wfE at h; cases h
  | .mth o m a ap es p, A, X, ρ, h, G => by
    unfold wfE at h
    obtain ⟨h1, h2⟩ := Bool.and_eq_true_iff.mp h
    obtain ⟨h2, h3⟩ := Bool.and_eq_true_iff.mp h2
    obtain ⟨h3, h4⟩ := Bool.and_eq_true_iff.mp h3
    obtain ⟨h4, h5⟩ := Bool.and_eq_true_iff.mp h4
    exact sd_mth h1 (by simpa using h2) h3 G.K G.bs (ev_ok a ρ h4 G) (evs_ok es ρ h5 G)
  | .isi q a ty tq p, A, X, ρ, h, G => by
    unfold wfE at h
    obtain ⟨h1, h2⟩ := Bool.and_eq_true_iff.mp h
    obtain ⟨h2, h3⟩ := Bool.and_eq_true_iff.mp h2
    exact sd_isi (gl_of h1).1 (G.blt _ (by decide)) (gl_of h2).1 (G.blt _ (ty_nm ty)) (ev_ok a ρ h3 G) G.K
  | .att _ _ _, A, X, ρ, h, G => by unfold wfE at h; cases h
  | .isx _ _ _ _ _, A, X, ρ, h, G => by unfold wfE at h; cases h
  | .lc m elt t it cond csc own p, A, X, ρ, h, G => sd_lc fun hc => by
    unfold wfE at h
    obtain ⟨h1, h2⟩ := Bool.and_eq_true_iff.mp h
    obtain ⟨h2, h3⟩ := Bool.and_eq_true_iff.mp h2
    obtain ⟨h3, h4⟩ := Bool.and_eq_true_iff.mp h3
    obtain ⟨h4, h5⟩ := Bool.and_eq_true_iff.mp h4
    obtain ⟨h5, h6⟩ := Bool.and_eq_true_iff.mp h5
    have bo := blkOk_by h1
    have M := G.on hc
    exact ⟨G.K, G.nd, M.calm, fun ρ => evI_ok it ρ h4 G, bo, fun i hi => of_decide_eq_true (List.all_eq_true.mp h3 i hi),
      fun s H Cc cl fp => pg_T (X := X.blk s H csc (compEnvC csc cl Cc X.env) fp) M.calm G.nd t h2,
      fun s H Cc cl fp y e ρ => evO_ok cond ρ (X := X.blk s H csc (compEnvC csc cl Cc X.env) fp) h5 (G.blk hc bo.kind s H Cc cl fp) y e,
      fun s H Cc cl fp ρ => ev_ok elt ρ (X := X.blk s H csc (compEnvC csc cl Cc X.env) fp) h6 (G.blk hc bo.kind s H Cc cl fp)⟩
theorem evs_ok : ∀ (xs : List Ex) {A : Pa} {X : Cx} (ρ : Env), wfEs X.N X.env.scope X.fn xs = true → Gd P n A X C → ∀ x ∈ xs, Ok A X C ρ x
  | [], A, X, ρ, h, G, x, hx => by cases hx
  | a :: r, A, X, ρ, h, G, x, hx => by
    unfold wfEs at h
    obtain ⟨h1, h2⟩ := Bool.and_eq_true_iff.mp h
    have ha := ev_ok a ρ h1 G
    have hr := evs_ok r ρ h2 G
    rcases List.mem_cons.mp hx with e | hx
    · rw [e]; exact ha
    · exact hr x hx
theorem evO_ok : ∀ (o : Option Ex) {A : Pa} {X : Cx} (ρ : Env), wfO X.N X.env.scope X.fn o = true → Gd P n A X C → ∀ y, o = some y → Ok A X C ρ y
  | none, A, X, ρ, h, G, y, e => by cases e
  | some a, A, X, ρ, h, G, y, e => by
    unfold wfO at h
    have ha := ev_ok a ρ h G
    injection e with e
    rw [← e]; exact ha
theorem evI_ok : ∀ (i : It) {A : Pa} {X : Cx} {tg : Expr} (ρ : Env), wfI X.N X.env.scope X.fn i = true → Gd P n A X C → OkI A X C ρ tg i
  | .seq a, A, X, tg, ρ, h, G => by unfold wfI at h; exact si_seq G.K (ev_ok a ρ h G)
  | .rng1 q a p, A, X, tg, ρ, h, G => by
    unfold wfI at h
    obtain ⟨h1, h2⟩ := Bool.and_eq_true_iff.mp h
    exact si_rng1 (gl_of h1).1 (G.blt _ (by decide)) (ev_ok a ρ h2 G)
  | .rng2 q a b p, A, X, tg, ρ, h, G => by
    unfold wfI at h
    obtain ⟨h1, h2⟩ := Bool.and_eq_true_iff.mp h
    obtain ⟨h2, h3⟩ := Bool.and_eq_true_iff.mp h2
    exact si_rng2 (gl_of h1).1 (G.blt _ (by decide)) (ev_ok a ρ h2 G) (ev_ok b ρ h3 G)
  | .enm _ _ _, A, X, tg, ρ, h, G => by unfold wfI at h; cases h
  | .zip _ _ _ _, A, X, tg, ρ, h, G => by unfold wfI at h; cases h
  | .itms _ _ _, A, X, tg, ρ, h, G => by unfold wfI at h; cases h
  | .vals _ _ _, A, X, tg, ρ, h, G => by unfold wfI at h; cases h
  | .kys _, A, X, tg, ρ, h, G => by unfold wfI at h; cases h
end
theorem lc_ok (elt : Ex) (t : Tg) (it : It) (cond : Option Ex) (csc : Scope) (own : List (Str × Nat)) {A : Pa} {X : Cx} {m : Bool} {p : Pos} (h : wfE X.N X.env.scope X.fn (.lc m elt t it cond csc own p) = true) (G : Gd P n A X C) (hc : C.calm = true) : LcG A X C elt t it cond csc own := by
  unfold wfE at h
  obtain ⟨h1, h2⟩ := Bool.and_eq_true_iff.mp h
  obtain ⟨h2, h3⟩ := Bool.and_eq_true_iff.mp h2
  obtain ⟨h3, h4⟩ := Bool.and_eq_true_iff.mp h3
  obtain ⟨h4, h5⟩ := Bool.and_eq_true_iff.mp h4
  obtain ⟨h5, h6⟩ := Bool.and_eq_true_iff.mp h5
  have bo := blkOk_by h1
  have M := G.on hc
  exact ⟨G.K, G.nd, M.calm, fun ρ => evI_ok it ρ h4 G, bo, fun i hi => of_decide_eq_true (List.all_eq_true.mp h3 i hi),
    fun s H Cc cl fp => pg_T (X := X.blk s H csc (compEnvC csc cl Cc X.env) fp) M.calm G.nd t h2,
    fun s H Cc cl fp y e ρ => evO_ok cond ρ (X := X.blk s H csc (compEnvC csc cl Cc X.env) fp) h5 (G.blk hc bo.kind s H Cc cl fp) y e,
    fun s H Cc cl fp ρ => ev_ok elt ρ (X := X.blk s H csc (compEnvC csc cl Cc X.env) fp) h6 (G.blk hc bo.kind s H Cc cl fp)⟩
end
end Gw

namespace Gw
open PySem PySem.Spec PyProof.Rows L2
mutual
def wfS (N : List Str) (sc : Scope) (fn : Str → Bool) : St → Bool
  | .expr e _ => !isLc e && wfE N sc fn e
  | .asg t e _ => wfT N sc fn t && (wfE N sc fn e && !(isTp t && isTup e))
  | .aset o i _ e _ => wfE N sc fn o && (wfE N sc fn i && wfE N sc fn e)
  | .dset _ _ _ _ _ => false
  | .aug i x q o e _ => okAug o && (wfT N sc fn (.nm i x q) && wfE N sc fn e)
  | .ifS c a b _ => wfE N sc fn c && (wfSs N sc fn a && wfSs N sc fn b)
  | .forS t it b _ => wfT N sc fn t && (wfI N sc fn it && wfSs N sc fn b)
  | .whl c b _ => wfE N sc fn c && wfSs N sc fn b
  | .ret e _ => wfE N sc fn e
  | .ret0 _ => true
  | .raise _ _ _ _ _ => true
  | .tryS _ _ _ _ _ _ _ _ => true
  | .pass _ => true
  | .brk _ => true
  | .cont _ => true
def wfSs (N : List Str) (sc : Scope) (fn : Str → Bool) : List St → Bool
  | [] => true
  | a :: r => wfS N sc fn a && wfSs N sc fn r
end
section
variable {P : Prg} {n : Nat} {A : Pa} {X : Cx} {C : Cxt}
theorem asg_any {t : Tg} {e : Ex} {p : Pos} (hc : C.calm = true) (G : Gd P n A X C) (h1 : wfT X.N X.env.scope X.fn t = true) (h2 : wfE X.N X.env.scope X.fn e = true) (h3 : (isTp t && isTup e) = false) : OkS A X C (.asg t e p) := by
  have M := G.on hc
  refine so_asg G.K fun ρ S => ?_
  cases hl : isLc e with
  | false => exact ps_asg (ev_ok e ρ h2 G S).pe (pg_T M.calm G.nd t h1) (by rw [sole_eq]; exact swaps_not hl _ _ _) (swapped_not h3 _) (each1 _ _)
  | true =>
    cases e with
    | lc m elt t2 it cond csc own p2 =>
      cases t with
      | nm i y py => exact asg_lc G.kind h1 G.nd M.calm (fun z => by rw [hc] at z; cases z) (fun hc => lc_ok elt t2 it cond csc own h2 G hc)
      | tp ts k q => exact ps_asg (ev_ok (.lc m elt t2 it cond csc own p2) ρ h2 G S).pe (pg_T M.calm G.nd _ h1) (by rfl) (swapped_not h3 _) (each1 _ _)
    | _ => cases hl
mutual
theorem exec_ok : ∀ (s : St) {A : Pa} {X : Cx}, wfS X.N X.env.scope X.fn s = true → C.calm = true → Gd P n A X C → OkS A X C s
  | .expr e p, A, X, h, hc, G => by
    unfold wfS at h
    obtain ⟨h1, h2⟩ := Bool.and_eq_true_iff.mp h
    exact so_expr (fun ρ => ev_ok e ρ h2 G) (swaps_not (by simpa using h1) _ _ _)
  | .asg t e p, A, X, h, hc, G => by
    unfold wfS at h
    obtain ⟨h1, h2⟩ := Bool.and_eq_true_iff.mp h
    obtain ⟨h2, h3⟩ := Bool.and_eq_true_iff.mp h2
    exact asg_any hc G h1 h2 (by cases z : (isTp t && isTup e) with | false => rfl | true => rw [z] at h3; cases h3)
  | .aset o i q e p, A, X, h, hc, G => by
    unfold wfS at h
    obtain ⟨h1, h2⟩ := Bool.and_eq_true_iff.mp h
    obtain ⟨h2, h3⟩ := Bool.and_eq_true_iff.mp h2
    exact so_aset G.K G.bs (fun ρ => ev_ok o ρ h1 G) (fun ρ => ev_ok i ρ h2 G) (fun ρ => ev_ok e ρ h3 G)
  | .dset _ _ _ _ _, A, X, h, hc, G => by unfold wfS at h; cases h
  | .aug i x q o e p, A, X, h, hc, G => by
    unfold wfS at h
    obtain ⟨h1, h2⟩ := Bool.and_eq_true_iff.mp h
    obtain ⟨h2, h3⟩ := Bool.and_eq_true_iff.mp h2
    exact so_aug h1 h2 G.nd (fun ρ => ev_ok e ρ h3 G)
  | .ifS c a b p, A, X, h, hc, G => by
    unfold wfS at h
    obtain ⟨h1, h2⟩ := Bool.and_eq_true_iff.mp h
    obtain ⟨h2, h3⟩ := Bool.and_eq_true_iff.mp h2
    exact so_if (fun ρ => ev_ok c ρ h1 G) (execs_ok a h2 hc G) (execs_ok b h3 hc G)
  | .forS t it b p, A, X, h, hc, G => by
    unfold wfS at h
    obtain ⟨h1, h2⟩ := Bool.and_eq_true_iff.mp h
    obtain ⟨h2, h3⟩ := Bool.and_eq_true_iff.mp h2
    exact so_for (fun z => ⟨(G.on z).calm, (G.on z).po⟩) G.K G.nd h1 (fun ρ => evI_ok it ρ h2 G) (execs_ok b h3 hc G)
  | .whl c b p, A, X, h, hc, G => by
    unfold wfS at h
    obtain ⟨h1, h2⟩ := Bool.and_eq_true_iff.mp h
    exact so_whl (fun z => (G.on z).po) (fun ρ => ev_ok c ρ h1 G) (execs_ok b h2 hc G)
  | .ret e p, A, X, h, hc, G => by unfold wfS at h; exact so_ret fun ρ => ev_ok e ρ h G
  | .ret0 p, A, X, h, hc, G => so_ret0
  | .raise _ _ _ _ _, A, X, h, hc, G => fun ρ S => by unfold exec; exact noPS
  | .tryS _ _ _ _ _ _ _ _, A, X, h, hc, G => fun ρ S => by unfold exec; exact noPS
  | .pass p, A, X, h, hc, G => so_pass
  | .brk p, A, X, h, hc, G => so_brk
  | .cont p, A, X, h, hc, G => so_cont
theorem execs_ok : ∀ (s : List St) {A : Pa} {X : Cx}, wfSs X.N X.env.scope X.fn s = true → C.calm = true → Gd P n A X C → OkSs A X C s
  | [], A, X, h, hc, G => so_nil
  | a :: r, A, X, h, hc, G => by
    unfold wfSs at h
    obtain ⟨h1, h2⟩ := Bool.and_eq_true_iff.mp h
    exact so_cons (exec_ok a h1 hc G) (execs_ok r h2 hc G)
end
end
/-! ### a def -/
/-- what the text and the written part say of a def -/
structure FnT (K : PySem.W.Frag) (mg : Str → Option Value) (f : Str) (F : Fn) : Prop where
  ex : ∃ (fa : Addr) (fd : FuncData) (qual : Str) (params : Arguments) (sc : Scope), mg f = some (.ref fa) ∧ FunD K f qual params (Sts.s F.body) sc [] [] fa fd ∧ FnScope F.N F.ps sc ∧ BindsA fd F.ps ∧ wfSs F.N sc (fun _ => true) F.body = true
  np : F.np ≤ F.N.length
/-- what is fixed through the law -/
structure Gl0 (prog : Program) (w : World) (K : PySem.W.Frag) (mg : Str → Option Value) (P : Prg) : Prop where
  fns : ∀ f F, P.fn f = some F → FnT K mg f F
  glb : ∀ x w, P.glb x = some w → ∃ v u, mg x = some u ∧ RelV v u ∧ ∀ Hf μ xr, WR K Hf μ xr w v
  blt : ∀ x ∈ bltNames, mg x = none
theorem Fn.ps_len {F : Fn} (h : F.np ≤ F.N.length) : F.ps.length = F.np := by unfold Fn.ps; rw [List.length_take]; omega
theorem start_en {K : PySem.W.Frag} {Hf : Hp} {μ : List V} {N : List Str} {ws : List Wd} {vs : List V} (r : Paired (WR K Hf μ noXr) ws vs) : En K Hf μ noXr (ws.map some ++ List.replicate (N.length - ws.length) none) (start N vs) := by
  refine ⟨?_, ⟨fun a u q => ?_, fun a xs q => by cases q⟩, fun i w h => ?_⟩
  · unfold L2.start
    simp [r.length]
  · rcases q with q | ⟨o, q⟩ <;> cases q
  · by_cases hi : i < ws.length
    · rw [List.getElem?_append_left (by simpa using hi), List.getElem?_map] at h
      cases e : ws[i]? with
      | none => rw [e] at h; cases h
      | some w' =>
        rw [e] at h
        cases h
        obtain ⟨v, ev, rv⟩ := paired_get r e
        refine ⟨v, ?_, rv⟩
        unfold L2.start
        rw [List.getElem?_append_left (by simpa [← r.length] using hi), List.getElem?_map, ev]
        rfl
    · rw [List.getElem?_append_right (by simpa using hi)] at h
      rw [List.getElem?_replicate] at h
      split at h <;> cases h
/-- one more frame -/
theorem Sm.push {K : PySem.W.Frag} {bs : List Nat} {μ : List V} {S : Store} {H Hf : Hp} (s : Sm K bs μ S H Hf) : Sm K (S.length :: bs) μ S H Hf := by
  refine ⟨s.len, s.cell, s.sep, s.sub, fun b hb => ?_, fun b hb k c hk e j hj => ?_⟩
  · rcases List.mem_cons.mp hb with e | hb
    · exact Nat.le_of_eq e
    · exact s.bsz b hb
  · rcases List.mem_cons.mp hb with e' | hb
    · rw [e', ← s.len]
      obtain ⟨v, hv⟩ := s.mem e
      have cr := s.cell k c v e hv
      have go : ∀ {ws : List Wd} {vs : List V}, Paired (WR K Hf μ noXr) ws vs → ∀ j ∈ ws.flatMap hsW, j < μ.length := fun {ws vs} r => by
        induction r with
        | nil => intro j hj; cases hj
        | cons r1 r2 ih =>
          rename_i w v ws vs
          intro j hj
          rw [List.flatMap_cons, List.mem_append] at hj
          rcases hj with hj | hj
          · cases w with
            | h k' =>
              have : j = k' := by simpa [hsW] using hj
              subst this
              exact (List.getElem?_eq_some_iff.mp (show μ[j]? = some v from r1)).1
            | _ => cases hj
          · exact ih j hj
      cases cr with
      | lst q1 q2 q3 => exact go q3 j hj
      | dK q1 q0 q2 q3 q4 => exact go q4 j hj
      | dT q1 q0 q2 q3 q4 => exact go q4 j hj
      | frz q => cases hj
    · exact s.frm b hb k c hk e j hj
theorem Sm.pop {K : PySem.W.Frag} {b : Nat} {bs : List Nat} {μ : List V} {S : Store} {H Hf : Hp} (s : Sm K (b :: bs) μ S H Hf) : Sm K bs μ S H Hf :=
  ⟨s.len, s.cell, s.sep, s.sub, fun b hb => s.bsz b (List.mem_cons_of_mem _ hb), fun b hb => s.frm b (List.mem_cons_of_mem _ hb)⟩
/-- back to the caller's cells -/
theorem Sm.back {K : PySem.W.Frag} {bs : List Nat} {μ μ' : List V} {S S' : Store} {H Hf H' Hf' : Hp} (s : Sm K bs μ S H Hf) (s' : Sm K (S.length :: bs) μ' S' H' Hf') (x : Xt S μ H Hf S' μ' H' Hf') :
    Sm K bs μ (S'.take S.length) H' Hf' ∧ Xt S μ H Hf (S'.take S.length) μ H' Hf' := by
  obtain ⟨t, e⟩ := x.mu
  have hl : S.length ≤ S'.length := s'.bsz S.length List.mem_cons_self
  have em : μ'.take S.length = μ := by rw [e, ← s.len]; simp
  have q := s'.pop.cut S.length (fun b hb => s.bsz b hb) hl fun k c hk h => s'.frm S.length List.mem_cons_self k c hk h
  rw [em] at q
  refine ⟨q, ⟨⟨[], by simp⟩, x.fr, fun k c a h1 h2 h3 => ?_, fun a o f => ?_⟩⟩
  · obtain ⟨⟨c', q1, q2⟩, q3⟩ := x.lk k c a h1 h2 h3
    have hk := (List.getElem?_eq_some_iff.mp h1).1
    exact ⟨⟨c', by rw [List.getElem?_take_of_lt hk]; exact q1, q2⟩, q3⟩
  · obtain ⟨g1, g2, g3⟩ := x.un a o f
    refine ⟨g1, g2, fun k c h1 h2 h3 => ?_⟩
    have hk := (List.getElem?_eq_some_iff.mp h1).1
    rw [List.length_take] at hk
    rw [List.getElem?_take_of_lt (by omega)] at h1
    exact g3 k c h1 h2 (mu_get x.mu h3)
theorem endF_rs {A : Pa} {S S' : Store} {μ μ' : List V} {H Hf H' Hf' : Hp} {tree : Bool} {w : Wd} {v : V} {Q : VK} (hx : A.xr = noXr) (s : Sm A.K A.bs μ S H Hf) (s' : Sm A.K (S.length :: A.bs) μ' S' H' Hf') (x : Xt S μ H Hf S' μ' H' Hf') (r : WR A.K Hf' μ' noXr w v)
    (h : Rs A (RW A) [] S μ H Hf (endF tree S.length w S') Q) : Q v H' := by
  cases tree with
  | false =>
    have h' : Rs A (RW A) [] S μ H Hf (.ok w S') Q := h
    exact h'.to s'.pop x (by show WR A.K Hf' μ' A.xr w v; rw [hx]; exact r)
  | true =>
    have h' : Rs A (RW A) [] S μ H Hf ((keep S' w).bd fun d S' => .ok (.t d) (S'.take S.length)) Q := h
    cases e : keep S' w with
    | no => rw [e] at h'; exact h'.elim
    | ex q S2 => exact (keep_noex e).elim
    | ok d S2 =>
      rw [e] at h'
      obtain ⟨Hf2, s2, x2, r2⟩ := keep_ok s' r e
      obtain ⟨sb, xb⟩ := s.back s2 (x.trans x2)
      have h2 : Rs A (RW A) [] S μ H Hf (.ok (.t d) (S2.take S.length)) Q := h'
      exact h2.to sb xb r2
/-- THE DEFS: each does what the interpreter says -/
theorem fn_ok {prog : Program} {w : World} {K : PySem.W.Frag} {mg : Str → Option Value} {P : Prg} {ca : Str → Addr} (T : Gl0 prog w K mg P) : ∀ (n : Nat) (f : Str) (F : Fn), P.fn f = some F → FnS prog w K mg P ca n f F
  | 0, f, F, hF => by
    obtain ⟨⟨fa, fd, qual, params, sc, hm, FD, FS, bi, wf⟩, hnp⟩ := T.fns f F hF
    refine ⟨fa, fd, hm, FD.kp, bi, Fn.ps_len hnp, fun base => ⟨fun vs H Q E h => by rw [Fn.ps_len hnp]; exact h.1, fun A outer s H args us vs Q E _ _ _ _ h => ?_⟩⟩
    obtain ⟨_, bs, μ, Hf, S, ws, m, _, _, h⟩ := h
    exact h.elim
  | n + 1, f, F, hF => by
    have ih := fn_ok (ca := ca) T n
    obtain ⟨⟨fa, fd, qual, params, sc, hm, FD, FS, bi, wf⟩, hnp⟩ := T.fns f F hF
    refine ⟨fa, fd, hm, FD.kp, bi, Fn.ps_len hnp, fun base => FnOk.mono (k := n + 1 + 8) (j := n + 8 + 1) (FD.ok FS (fun vs H Q E h => by rw [Fn.ps_len hnp]; exact h.1) fun cdv A outer s H vs Q E hr h => ?_) (by omega)⟩
    obtain ⟨hvl, bs, μ, Hf, S, ws, m, sm, pr, h⟩ := h
    generalize hX : cxOf (L2.CX prog w) prog w K mg base F.N qual sc fa cdv A outer s H E = X
    have hwl : ws.length = F.np := by rw [pr.length]; exact hvl
    unfold evF at h
    rw [hF] at h
    dsimp only at h
    rw [if_pos hwl] at h
    generalize hC : (⟨fun g => if (P.fn g).isSome = true then some (evF P n g) else none, S.length, 1000000000, P.err, P.isa, P.glb, true⟩ : Cxt) = C at h
    have tk : Takes X (fun cls d _ H => E cls d H) := by subst hX; exact takes_of rfl rfl rfl rfl
    have po : PassesOwn (model X.prog X.w) X.A X.env X.xe := by subst hX; exact passes_of rfl
    have G : Gd P n (paF K ca (S.length :: bs) E) X C := by
      subst hX; subst hC
      have hu := hr.un
      have hbz : ∀ b ∈ S.length :: bs, b ≤ S.length := fun b hb => by
        rcases List.mem_cons.mp hb with e | hb
        · exact Nat.le_of_eq e
        · exact sm.bsz b hb
      refine ⟨rfl, ?_, FS.nd, FS.kind, hbz, fun _ => ⟨rfl, rfl, rfl, hr, tk, po⟩, fun z => (Bool.noConfusion z), ih, T.glb, T.blt⟩
      show (A.deeper _).units + 65 < cLine
      omega
    have hb : OkSs (paF K ca (S.length :: bs) E) X C F.body := by
      refine execs_ok F.body ?_ (by subst hC; rfl) G
      subst hX
      exact wf
    refine ⟨_, hb (ws.map some ++ List.replicate (F.N.length - ws.length) none) S, μ, Hf, sm.push, start_en pr, ?_⟩
    have fin : ∀ {S' : Store} {μ' : List V} {H' Hf' : Hp} {w : Wd} {v : V}, Sm K (S.length :: bs) μ' S' H' Hf' → Xt S μ H Hf S' μ' H' Hf' → WR K Hf' μ' noXr w v → Rs (paF K ca bs E) (RW (paF K ca bs E)) [] S μ H Hf (endF (!m) S.length w S') Q → Q v H' :=
      fun s' x r h => endF_rs (A := paF K ca bs E) rfl sm s' x r h
    cases e : execs C F.body (ws.map some ++ List.replicate (F.N.length - ws.length) none) S with
    | nx ρ' S' => rw [e] at h; exact fun σ' μ' H' Hf' s' x en => fin (w := .t .non) s' x (show Rp K _ V.non Dt.non from .non) h
    | rt w S' => rw [e] at h; exact fun v μ' H' Hf' s' x r => fin s' x r h
    | ex q ρ' S' =>
      rw [e] at h
      exact fun cls d σ' μ' H' Hf' s' x en xo => by
        obtain ⟨sb, xb⟩ := sm.back s' x
        exact h cls d μ H' Hf' sb xb xo
    | bk ρ' S' => rw [e] at h; exact h.elim
    | ct ρ' S' => rw [e] at h; exact h.elim
    | no => rw [e] at h; exact h.elim
end Gw

namespace Gw
open PySem PySem.Spec PyProof.Rows L2
/-! ### the head: what is told of the written part -/
abbrev Chk : Type := PySem.W.Frag → Bool
def obsG (chk : Chk) (fn : List He.DefD) (K : PySem.W.Frag) : He.AlD := (chk K && fn.all fun d => d.ok K, fn.map fun d => He.fnW K d.at_)
def SaysG (chk : Chk) (fn : List He.DefD) (K : PySem.W.Frag) : Prop := obsG chk fn K = He.valD fn
def obsGG (n : Nat) (chk : Chk) (fn : List He.DefD) (g : Addr → Option Obj) : He.AlD := obsG chk fn (He.frG g (He.asD g n))
def hookG (n : Nat) (chk : Chk) (fn : List He.DefD) : PySem.W.Hook where
  α := He.AlD
  obs := fun s => obsGG n chk fn s.heap.get?
  val := fun _ => He.valD fn
  says := fun _ h => ∃ K : PySem.W.Frag, K.In h ∧ SaysG chk fn K
  of := fun _ _ e => ⟨_, He.frG_in, e⟩
  keeps := fun _ _ _ ⟨K, hK, c⟩ k => ⟨K, PySem.W.Frag.In.keeps hK k, c⟩
theorem obsGG_eq {n : Nat} {chk : Chk} {fn : List He.DefD} {g : Addr → Option Obj} {s : Shared} (h : ∀ a, g a = s.heap.get? a) : obsGG n chk fn g = (hookG n chk fn).obs s := by
  have e : g = s.heap.get? := funext h
  rw [e] <;> rfl
section
variable {chk : Chk} {fn : List He.DefD} {K : PySem.W.Frag}
theorem SaysG.fact (c : SaysG chk fn K) : chk K = true := (He.ba (show (chk K && fn.all fun d => d.ok K) = true from congrArg (fun z : He.AlD => z.1) c)).1
theorem SaysG.def_ (c : SaysG chk fn K) (i : Nat) {d : He.DefD} (h : fn[i]? = some d) : ∃ fd, FunD K d.name d.qual d.params d.body d.scope (d.dvs K) (d.kws K) (He.fAd K d.at_) fd := by
  have c2 := (He.ba (show (chk K && fn.all fun d => d.ok K) = true from congrArg (fun z : He.AlD => z.1) c)).2
  have e : fn.map (fun d => He.fnW K d.at_) = fn.map He.DefD.val := congrArg (fun z : He.AlD => z.2) c
  have e2 : (fn.map fun d => He.fnW K d.at_)[i]? = (fn.map He.DefD.val)[i]? := by rw [e]
  rw [List.getElem?_map, List.getElem?_map, h] at e2
  exact He.DefD.funD (Option.some.inj e2) (List.all_eq_true.mp c2 d (List.mem_of_getElem? h))
end
/-! ### the text -/
/-- a def of the row's top, what the interpreter has of it -/
structure Df where
  name : Str
  st : Stmt
  F : Fn
def Df.d (f : Df) : He.DefD := ⟨(f.name, none), f.name, f.name, defArgs f.st, defBody f.st, defScope f.st, [], []⟩
/-- plain parameters -/
def plainArgs (a : Arguments) (ps : List Str) : Bool := a.posonlyargs.isEmpty && (a.vararg.isNone && (a.kwonlyargs.isEmpty && (a.kw_defaults.isEmpty && (a.kwarg.isNone && (a.defaults.isEmpty && decide (a.args.map (·.arg) = ps))))))
def scopeB (N P : List Str) (sc : Scope) : Bool := (match sc.kind with | .function => true | _ => false) && (!sc.isCoroutine && (!sc.isGenerator && (decide N.Nodup && (decide (N.take P.length = P) && ((P.all fun x => match sc.names.lookup x with | some .local => true | some .cell => true | _ => false) && sc.names.all fun y => match y.2 with | .free => false | _ => true)))))
theorem scope_of {N P : List Str} {sc : Scope} (h : scopeB N P sc = true) : FnScope N P sc := by
  unfold scopeB at h
  obtain ⟨h1, h⟩ := He.ba h
  obtain ⟨h2, h⟩ := He.ba h
  obtain ⟨h3, h⟩ := He.ba h
  obtain ⟨h4, h⟩ := He.ba h
  obtain ⟨h5, h⟩ := He.ba h
  obtain ⟨h6, h7⟩ := He.ba h
  refine ⟨?_, by simpa using h2, by simpa using h3, of_decide_eq_true h4, of_decide_eq_true h5, fun x hx => ?_, fun y hy e => ?_⟩
  · split at h1
    · assumption
    · cases h1
  · have := List.all_eq_true.mp h6 x hx
    split at this
    · rename_i e; exact .inl e
    · rename_i e; exact .inr e
    · cases this
  · have := List.all_eq_true.mp h7 y hy
    rw [e] at this; cases this
/-- what a def's text must be -/
def Df.wf (f : Df) : Bool := scopeB f.F.N f.F.ps (defScope f.st) && (decide (f.F.np ≤ f.F.N.length) && wfSs f.F.N (defScope f.st) (fun _ => true) f.F.body)
/-- the defs, the constants of the module -/
structure Tb where
  defs : List Df
  cons : List (Str × List Dt)
  err : Str → Option (Str × List Str)
  isa : Str → Str → Option Bool
def Dt.dv : Dt → He.Dv
  | .int i => .int i
  | .str x => .str x
  | .bl b => .bl b
  | _ => .non
def flatD : Dt → Bool
  | .int _ => true
  | .str _ => true
  | .bl _ => true
  | .non => true
  | _ => false
/-- a constant that is a tuple -/
def conB (K : PySem.W.Frag) (x : Str) (ds : List Dt) : Bool := (He.Fa.glo x).ok K && (He.tupB K x (ds.map Dt.dv) && (ds.all flatD && (match K.lookup (He.ga K x) with | some ⟨_, none, _, _⟩ => true | _ => false)))
def Tb.P (t : Tb) : Prg := ⟨fun f => (t.defs.find? fun d => decide (d.name = f)).map (·.F), t.err, t.isa, fun x => (t.cons.find? fun c => decide (c.1 = x)).map fun c => .c c.2⟩
def Tb.chk (t : Tb) (K : PySem.W.Frag) : Bool := (t.defs.all fun d => (He.Fa.glo d.name).ok K) && ((bltNames.all fun x => (He.Fa.free x).ok K) && t.cons.all fun c => conB K c.1 c.2)
theorem dv_rp {K : PySem.W.Frag} {H : Hp} : ∀ {ds : List Dt}, ds.all flatD = true → RpA K H (ds.map fun d => (Dt.dv d).v K) ds
  | [], _ => .nil
  | d :: r, h => by
    rw [List.all_cons] at h
    obtain ⟨h1, h2⟩ := He.ba h
    refine .cons ?_ (dv_rp h2)
    cases d with
    | int i => exact .int i
    | str i => exact .str i
    | bl i => exact .bl i
    | non => exact .non
    | _ => cases h1
theorem con_ok {K : PySem.W.Frag} {x : Str} {ds : List Dt} {h : Heap} {mg : Str → Option Value} (X : K.In h) (G : h.Ns mainGlobals mg) (c : conB K x ds = true) : ∃ v u, mg x = some u ∧ RelV v u ∧ ∀ Hf μ xr, WR K Hf μ xr (.c ds) v := by
  unfold conB at c
  obtain ⟨c1, c⟩ := He.ba c
  obtain ⟨c2, c⟩ := He.ba c
  obtain ⟨c3, c4⟩ := He.ba c
  refine ⟨.ref (He.ga K x), .ref (He.ga K x), He.glo_ok X G c1, rfl, fun Hf μ xr => ⟨_, _, rfl, ?_, He.tupB_ok c2 Hf, ?_⟩⟩
  · have q := He.tupB_ok c2 (fun _ => none)
    rcases q with q | ⟨o, its, n, e1, e2, _⟩
    · rcases q with q | ⟨o, q⟩ <;> cases q
    · refine ⟨o, e1, e2, ?_⟩
      rw [e1] at c4
      obtain ⟨oc, od, dt, sl⟩ := o
      cases od with
      | none => rfl
      | some a => cases c4
  · rw [List.map_map]
    exact dv_rp c3
theorem find_mem {α : Type} {p : α → Bool} {l : List α} {a : α} (h : l.find? p = some a) : a ∈ l ∧ p a = true := ⟨List.mem_of_find?_eq_some h, List.find?_some h⟩
/-- how the parameters of a def bind -/
def BindT (d : Df) : Prop := ∀ (kV doc pm : Value) (an : Option Addr) (cdv ct : Value) (us : List Value), us.length = d.F.ps.length → bindArgs (PySem.W.fnOf d.name d.name (defArgs d.st) (defBody d.st) (defScope d.st) .none kV doc pm an cdv ct) ⟨us, []⟩ = pure (d.F.ps.zip us)
theorem gl0_of {prog : Program} {w : World} {K : PySem.W.Frag} {h : Heap} {mg : Str → Option Value} (t : Tb) (X : K.In h) (G : h.Ns mainGlobals mg) (c : SaysG t.chk (t.defs.map Df.d) K)
    (hb : ∀ d ∈ t.defs, defBody d.st = Sts.s d.F.body) (hw : ∀ d ∈ t.defs, d.wf = true) (hbi : ∀ d ∈ t.defs, BindT d) : Gl0 prog w K mg t.P := by
  have ch := c.fact
  unfold Tb.chk at ch
  obtain ⟨c1, c2⟩ := He.ba ch
  obtain ⟨c2, c3⟩ := He.ba c2
  refine ⟨fun f F hF => ?_, fun x w hx => ?_, fun x hx => He.free_ok X G (List.all_eq_true.mp c2 x hx)⟩
  · have hF' : (t.defs.find? fun d => decide (d.name = f)).map (·.F) = some F := hF
    cases e : t.defs.find? fun d => decide (d.name = f) with
    | none => rw [e] at hF'; cases hF'
    | some d =>
      rw [e] at hF'
      obtain ⟨hm, hn⟩ := find_mem e
      have hn := of_decide_eq_true hn
      injection hF' with hF'
      subst hF'
      subst hn
      obtain ⟨i, hi, ei⟩ := List.getElem_of_mem hm
      obtain ⟨fd, FD⟩ := c.def_ i (d := d.d) (by rw [List.getElem?_map, List.getElem?_eq_getElem hi, ei]; rfl)
      have hwf := hw d hm
      unfold Df.wf at hwf
      obtain ⟨w1, w2⟩ := He.ba hwf
      obtain ⟨w2, w3⟩ := He.ba w2
      have FD' : FunD K d.name d.name (defArgs d.st) (defBody d.st) (defScope d.st) [] [] (He.fAd K (d.name, none)) fd := FD
      refine ⟨⟨He.fAd K (d.name, none), fd, d.name, defArgs d.st, defScope d.st, He.glo_ok X G (List.all_eq_true.mp c1 d hm), by rw [← hb d hm]; exact FD', scope_of w1, fun s us hl => FD'.bindsA (hbi d hm) s us hl, w3⟩, of_decide_eq_true w2⟩
  · have hx' : ((t.cons.find? fun c => decide (c.1 = x)).map fun c => Wd.c c.2) = some w := hx
    cases e : t.cons.find? fun c => decide (c.1 = x) with
    | none => rw [e] at hx'; cases hx'
    | some p =>
      rw [e] at hx'
      obtain ⟨hm, hn⟩ := find_mem e
      have hn := of_decide_eq_true hn
      injection hx' with hx'
      subst hx'
      subst hn
      exact con_ok X G (List.all_eq_true.mp c3 p hm)
/-! ### the end -/
theorem ints_rp {K : PySem.W.Frag} {H : Hp} : ∀ ns : List Int, RpA K H (ns.map V.int) (ns.map Dt.int)
  | [] => .nil
  | n :: r => .cons (.int n) (ints_rp r)
theorem FnOk.cx {P : Program} {w : World} {K : PySem.W.Frag} {mg : Str → Option Value} {base : Heap} {CX CX' : CXT} {k : Nat} {f : Addr} {fd : FuncData} {ps : List Str} {sp : Sp} (F : FnOk P w K mg base CX k f fd ps sp)
    (h : ∀ o H s E e s', CX o H s E e s' → CX' o H s E e s') : FnOk P w K mg base CX' k f fd ps sp :=
  ⟨F.len, fun A outer s H args us vs Q E hr he hb hv hs => codeAny_mono (F.run A outer s H args us vs Q E hr he hb hv hs) fun r s' q => by
    cases r with
    | error e => exact h _ _ _ _ _ _ q
    | ok fl => cases fl <;> exact q⟩
theorem walk_gw {l : PySem.W.OpenLaw} {q : Program} {loose : List Str} {XP : (Str → Option Value) → Heap → Prop} {d : DefRec} {t : Tb} {n : Nat} {F : Fn} {x : Str}
    (hn : l.most = some 63) (hdf : d.params.defaults = []) (hd : d.name = ("law" : Str)) (hr : Room (n + 8) callerA) (hF : t.P.fn "law" = some F) (hps : F.ps = [x])
    (hb : ∀ d ∈ t.defs, defBody d.st = Sts.s d.F.body) (hw : ∀ d ∈ t.defs, d.wf = true) (hbi : ∀ d ∈ t.defs, BindT d)
    (ans : ∀ ns : List Int, ns.length ≤ 63 → ∃ S, evF t.P n "law" true [.t (.lst (ns.map Dt.int))] [] = .ok (.t (.bl true)) S) :
    PySem.W.WalkO q loose XP (hookG 4 t.chk (t.defs.map Df.d)).says l.row.toRowW d [] (fun f vs => PySem.call f vs) := by
  refine L2.walk_ofE (l := l) (n := 63) (k := n + 8) (x := x) (CX := fun o H s E e s' => ∃ w, L2.CX l.prog w o H s E e s') hn (by decide) hdf hr ?_ (fun H s e s' ⟨w, z⟩ => ?_)
  · intro w mg fa h ⟨K, KX, c⟩ G hmg
    have T : Gl0 l.prog w K mg t.P := gl0_of t KX G c hb hw hbi
    obtain ⟨fa', fd, hm, hk, bi, hl, ok⟩ := fn_ok (ca := fun _ => 0) T n "law" F hF
    have e : fa' = fa := by
      rw [hd] at hmg
      rw [hmg] at hm
      injection hm with hm
      injection hm with hm
      exact hm.symm
    subst e
    have hnp : F.np = 1 := by rw [← hl, hps]; rfl
    refine ⟨K, fd, spG t.P K (fun _ => 0) n "law" F.np, KX, fun s u => by have := bi s [u] (by rw [hps]; rfl); rw [hps] at this; exact this, fun H a ns hlen _ hS => ?_, fun base Kb _ => ?_⟩
    · refine ⟨hnp.symm, [], [], H, [], [.t (.lst (ns.map Dt.int))], true, ⟨rfl, (fun k c v h => by simp at h), (fun k k' c c' v h => by simp at h), .refl _, (fun b hb => by cases hb), (fun b hb => by cases hb)⟩, .cons (.lst hS (ints_rp ns)) .nil, ?_⟩
      obtain ⟨S, e⟩ := ans ns hlen
      rw [e]
      intro v μ' H' Hf' s x r
      exact wr_bl r
    · have o2 := FnOk.cx (ok base) (CX' := fun o H s E e s' => ∃ w, L2.CX l.prog w o H s E e s') fun _ _ _ _ _ _ z => ⟨w, z⟩
      rw [hps] at o2
      exact o2
  · obtain ⟨_, _, _, _, _, _, _, _, _, _, _, _, z⟩ := z
    exact z
def Alls {α : Type} (p : α → Prop) : List α → Prop
  | [] => True
  | a :: r => p a ∧ Alls p r
theorem Alls.of {α : Type} {p : α → Prop} : ∀ {l : List α}, Alls p l → ∀ a ∈ l, p a
  | [], _, _, h => by cases h
  | b :: r, ⟨h1, h2⟩, a, h => by
    rcases List.mem_cons.mp h with e | h
    · rw [e]; exact h1
    · exact Alls.of h2 a h
theorem of_map {α β : Type} {f g : α → β} {l : List α} (h : l.map f = l.map g) : ∀ a ∈ l, f a = g a := fun a ha => by
  obtain ⟨i, hi, e⟩ := List.getElem_of_mem ha
  have := congrArg (fun x => x[i]?) h
  simp only [List.getElem?_map, List.getElem?_eq_getElem hi, e] at this
  simpa using this
end Gw

namespace Gw
open PySem L2
/-! ### stepping through the interpreter -/
abbrev cxP (P : Prg) (n b : Nat) : Cxt := ⟨callOf P n, b, 1000000000, P.err, P.isa, P.glb, true⟩
def finO (m : Bool) (S : Store) (o : Out) : Res Wd := match o with
  | .nx _ S' => endF (!m) S.length (.t .non) S'
  | .rt w S' => endF (!m) S.length w S'
  | .ex e _ S' => .ex e (S'.take S.length)
  | _ => .no
section
variable {P : Prg} {n : Nat} {f : Str} {F : Fn} {m : Bool} {ws : List Wd} {S S' : Store} {C : Cxt} {ρ : Env}
theorem evF_call (h : P.fn f = some F) (hl : ws.length = F.np) : evF P (n + 1) f m ws S = finO m S (execs (cxP P n S.length) F.body (ws.map some ++ List.replicate (F.N.length - ws.length) none) S) := by
  show (match P.fn f with | some F => _ | none => _) = _
  rw [h]
  dsimp only
  rw [if_pos hl]
  rfl
def Out.sq (o : Out) (f : Env → Store → Out) : Out := match o with
  | .nx ρ S => f ρ S
  | o => o
theorem execs_cons {a : St} {r : List St} : execs C (a :: r) ρ S = (exec C a ρ S).sq (execs C r) := by
  conv => lhs; unfold execs
  unfold Out.sq
  cases exec C a ρ S <;> rfl
theorem execs_nil : execs C [] ρ S = .nx ρ S := by unfold execs; rfl
theorem sq_nx {f : Env → Store → Out} : (Out.nx ρ S).sq f = f ρ S := rfl
theorem sq_rt {f : Env → Store → Out} {w : Wd} : (Out.rt w S).sq f = .rt w S := rfl
theorem sq_bk {f : Env → Store → Out} : (Out.bk ρ S).sq f = .bk ρ S := rfl
theorem sq_ct {f : Env → Store → Out} : (Out.ct ρ S).sq f = .ct ρ S := rfl
theorem sq_ex {f : Env → Store → Out} {e : Exn} : (Out.ex e ρ S).sq f = .ex e ρ S := rfl
theorem bd_ok' {α β : Type} {a : α} {f : α → Store → Res β} : (Res.ok a S).bd f = f a S := rfl
theorem st_ok {α : Type} {a : α} {f : α → Store → Out} : (Res.ok a S).st ρ f = f a S := rfl
theorem opt_some {α : Type} {a : α} : opt S (some a) = .ok a S := rfl
theorem tst_bl {b : Bool} : tst (.ok (.t (.bl b)) S) = .ok b S := rfl
theorem keep_t {d : Dt} : keep S (.t d) = .ok d S := rfl
theorem fin_rt {d : Dt} (hs : S'.take S.length = S) : finO false S (.rt (.t d) S') = .ok (.t d) S := by
  show Res.ok (Wd.t d) (S'.take S.length) = _
  rw [hs]
theorem fin_nx {d : Dt} (hs : S'.take S.length = S) : finO false S (.nx ρ S') = .ok (.t .non) S := by
  show Res.ok (Wd.t Dt.non) (S'.take S.length) = _
  rw [hs]
theorem callOf_some {g : Str} (h : (P.fn g).isSome = true) : callOf P n g = some (evF P n g) := if_pos h
theorem call_rt {d : Dt} {ρ0 : Env} (h : P.fn f = some F) (hl : ws.length = F.np) (hρ : ws.map some ++ List.replicate (F.N.length - ws.length) none = ρ0) (he : execs (cxP P n S.length) F.body ρ0 S = .rt (.t d) S') (hs : S'.take S.length = S) : evF P (n + 1) f false ws S = .ok (.t d) S := by
  rw [evF_call h hl, hρ, he]
  exact fin_rt hs
/-- .. that is not made a tree -/
theorem call_rt' {w : Wd} {ρ0 : Env} (h : P.fn f = some F) (hl : ws.length = F.np) (hρ : ws.map some ++ List.replicate (F.N.length - ws.length) none = ρ0) (he : execs (cxP P n S.length) F.body ρ0 S = .rt w S') : evF P (n + 1) f true ws S = .ok w S' := by
  rw [evF_call h hl, hρ, he]; rfl
theorem bin_add {m : Bool} {i j : Int} : binD m .add (.t (.int i)) (.t (.int j)) S = .ok (.t (.int (i + j))) S := rfl
theorem bin_sub {m : Bool} {i j : Int} : binD m .sub (.t (.int i)) (.t (.int j)) S = .ok (.t (.int (i - j))) S := rfl
theorem bin_mul {m : Bool} {i j : Int} (h : (-(2 ^ 64) < i ∧ i < 2 ^ 64) ∨ (-(2 ^ 64) < j ∧ j < 2 ^ 64)) : binD m .mul (.t (.int i)) (.t (.int j)) S = .ok (.t (.int (i * j))) S := if_pos h.symm
theorem bin_mod {m : Bool} {i j : Int} (h : 0 < j) : binD m .mod (.t (.int i)) (.t (.int j)) S = .ok (.t (.int (i % j))) S := if_pos h
theorem bin_fdiv {m : Bool} {i j : Int} (h : 0 < j ∧ j.natAbs.log2 < 8000) : binD m .fdiv (.t (.int i)) (.t (.int j)) S = .ok (.t (.int (i / j))) S := if_pos h
theorem bin_pow {m : Bool} {i j : Int} (h : 0 ≤ j ∧ j ≤ 1000 ∧ i.natAbs < 2 ^ 64) : binD m .pow (.t (.int i)) (.t (.int j)) S = .ok (.t (.int (i ^ j.toNat))) S := if_pos h
theorem bin_addT {m : Bool} {i j : List Dt} (h : i.length + j.length ≤ lineN) : binD m .add (.t (.tup i)) (.t (.tup j)) S = .ok (.t (.tup (i ++ j))) S := if_pos h
/-- names by place -/
theorem ev_var {i : Nat} {x : Str} {p : Pos} {w : Wd} (h : ρ[i]? = some (some w)) : ev C (.var i x p) ρ S = .ok w S := by
  unfold ev; rw [h]
theorem ev_lit {c : Lit} {j : Nat} {p : Pos} : ev C (.lit c j p) ρ S = .ok (.t c.d) S := by unfold ev; rfl
theorem ev_bin {o : Bop} {m : Bool} {a b : Ex} {p : Pos} {x y : Wd} {S1 S2 : Store} (ha : ev C a ρ S = .ok x S1) (hb : ev C b ρ S1 = .ok y S2) : ev C (.bin o m a b p) ρ S = binD m o x y S2 := by
  unfold ev; rw [ha, bd_ok', hb, bd_ok']
theorem ev_call1 {g : Str} {q p : Pos} {a : Ex} {x : Wd} {S1 : Store} {h : Bool → List Wd → Store → Res Wd} (hc : C.call g = some h) (ha : ev C a ρ S = .ok x S1) : ev C (.call g m q [a] p) ρ S = h m [x] S1 := by
  unfold ev; rw [hc]; unfold evs; rw [ha]; unfold evs; rfl
/-! ### cells -/
theorem idx_cell {k : Nat} {lk : Bool} {zs : List Wd} {i : Int} (h : S[k]? = some (.lst lk zs)) : idxD (.h k) i S = opt S (atI zs i) := by
  unfold idxD vw; simp only [h]
theorem idx_lst {ds : List Dt} {i : Int} : idxD (.t (.lst ds)) i S = opt S (atI (ds.map .t) i) := rfl
theorem idx_tup {ds : List Dt} {i : Int} : idxD (.t (.tup ds)) i S = opt S (atI (ds.map .t) i) := rfl
theorem idx_c {ds : List Dt} {i : Int} : idxD (.c ds) i S = opt S (atI (ds.map .t) i) := rfl
theorem aset_cell {b k j : Nat} {zs : List Wd} {i : Int} {d : Dt} (h : S[k]? = some (.lst false zs)) (hi : ixN zs.length i = some j) : asetD b (.h k) i (.t d) S = .ok () (S.set k (.lst false (zs.set j (.t d)))) := by
  unfold asetD keepIf
  dsimp only
  rw [bd_ok', h]
  dsimp only
  rw [hi]
theorem atI_map {α β : Type} {f : α → β} {l : List α} {i : Int} : atI (l.map f) i = (atI l i).map f := by
  unfold atI
  rw [List.length_map]
  cases ixN l.length i with
  | none => rfl
  | some j => simp
theorem atI_nat {α : Type} {l : List α} {i : Int} (h0 : 0 ≤ i) (h : i < l.length) : atI l i = l[i.toNat]? := by
  unfold atI ixN
  rw [if_pos h0, if_pos h]; rfl
theorem len_lst {m : Bool} {ds : List Dt} : b1D .len m (.t (.lst ds)) S = .ok (.t (.int ds.length)) S := by
  show Res.ok (Wd.t (.int ((ds.map Wd.t).length : Nat))) S = _
  rw [List.length_map]
theorem len_tup {m : Bool} {ds : List Dt} : b1D .len m (.t (.tup ds)) S = .ok (.t (.int ds.length)) S := by
  show Res.ok (Wd.t (.int ((ds.map Wd.t).length : Nat))) S = _
  rw [List.length_map]
theorem set_self {k : Nat} {c c' : Cl} (h : S[k]? = some c) : (S.set k c')[k]? = some c' := by
  have := (List.getElem?_eq_some_iff.mp h).1
  rw [List.getElem?_set_self this]
theorem set_take {k : Nat} {c' : Cl} : (S.set k c').take S.length = S.set k c' := by
  rw [List.take_of_length_le (by rw [List.length_set]; exact Nat.le_refl _)]
end
end Gw

namespace K01
open PySem PySem.Spec PyProof.Rows L2 Gw
def top (i : Nat) : Stmt := PySem.Challenge.pw_gripwood_k01_ways_and_steps.main.body.getD i (.Pass ⟨0, 0, 0, 0⟩)

def f_ways : Fn := ⟨[], 0,
  [.ret (.b1 .list true ⟨18, 11, 18, 15⟩ (.glb "WAYS" ⟨18, 16, 18, 20⟩) ⟨18, 11, 18, 21⟩) ⟨18, 4, 18, 21⟩]⟩

def f_lines : Fn := ⟨[], 0,
  [.ret (.b1 .list true ⟨20, 11, 20, 15⟩ (.glb "LINES" ⟨20, 16, 20, 21⟩) ⟨20, 11, 20, 22⟩) ⟨20, 4, 20, 22⟩]⟩

def f_way_number : Fn := ⟨["way"], 1,
  [.ifS (.inS true (.var 0 "way" ⟨22, 7, 22, 10⟩) (.glb "WAYS" ⟨22, 18, 22, 22⟩) ⟨22, 7, 22, 22⟩) [.raise "BadWay" ⟨23, 14, 23, 20⟩ [] ⟨23, 14, 23, 22⟩ ⟨23, 8, 23, 22⟩] [] ⟨22, 4, 23, 22⟩,
  .ret (.mth .index false (.glb "WAYS" ⟨24, 11, 24, 15⟩) ⟨24, 11, 24, 21⟩ [(.var 0 "way" ⟨24, 22, 24, 25⟩)] ⟨24, 11, 24, 26⟩) ⟨24, 4, 24, 26⟩]⟩

def f_line_number : Fn := ⟨["line"], 1,
  [.ifS (.inS true (.var 0 "line" ⟨26, 7, 26, 11⟩) (.glb "LINES" ⟨26, 19, 26, 24⟩) ⟨26, 7, 26, 24⟩) [.raise "BadLine" ⟨27, 14, 27, 21⟩ [] ⟨27, 14, 27, 23⟩ ⟨27, 8, 27, 23⟩] [] ⟨26, 4, 27, 23⟩,
  .ret (.mth .index false (.glb "LINES" ⟨28, 11, 28, 16⟩) ⟨28, 11, 28, 22⟩ [(.var 0 "line" ⟨28, 23, 28, 27⟩)] ⟨28, 11, 28, 28⟩) ⟨28, 4, 28, 28⟩]⟩

def f_sign_of : Fn := ⟨["way"], 1,
  [.ret (.bin .sub false (.lit (.int (1)) 0 ⟨30, 11, 30, 12⟩) (.bin .mul false (.lit (.int (2)) 0 ⟨30, 15, 30, 16⟩) (.bin .mod false (.call "way_number" false ⟨30, 20, 30, 30⟩ [(.var 0 "way" ⟨30, 31, 30, 34⟩)] ⟨30, 20, 30, 35⟩) (.lit (.int (2)) 0 ⟨30, 38, 30, 39⟩) ⟨30, 20, 30, 39⟩) ⟨30, 15, 30, 40⟩) ⟨30, 11, 30, 40⟩) ⟨30, 4, 30, 40⟩]⟩

def f_back : Fn := ⟨["way"], 1,
  [.ret (.idx (.glb "WAYS" ⟨32, 11, 32, 15⟩) (.bin .add false (.call "way_number" false ⟨32, 16, 32, 26⟩ [(.var 0 "way" ⟨32, 27, 32, 30⟩)] ⟨32, 16, 32, 31⟩) (.call "sign_of" false ⟨32, 34, 32, 41⟩ [(.var 0 "way" ⟨32, 42, 32, 45⟩)] ⟨32, 34, 32, 46⟩) ⟨32, 16, 32, 46⟩) ⟨32, 11, 32, 47⟩) ⟨32, 4, 32, 47⟩]⟩

def f_line_of : Fn := ⟨["way"], 1,
  [.ret (.idx (.glb "LINES" ⟨34, 11, 34, 16⟩) (.bin .fdiv false (.call "way_number" false ⟨34, 17, 34, 27⟩ [(.var 0 "way" ⟨34, 28, 34, 31⟩)] ⟨34, 17, 34, 32⟩) (.lit (.int (2)) 0 ⟨34, 36, 34, 37⟩) ⟨34, 17, 34, 37⟩) ⟨34, 11, 34, 38⟩) ⟨34, 4, 34, 38⟩]⟩

def f_ways_of : Fn := ⟨["line", "at"], 1,
  [.asg (.nm 1 "at" ⟨36, 4, 36, 6⟩) (.call "line_number" false ⟨36, 9, 36, 20⟩ [(.var 0 "line" ⟨36, 21, 36, 25⟩)] ⟨36, 9, 36, 26⟩) ⟨36, 4, 36, 26⟩,
  .ret (.lst true [(.idx (.glb "WAYS" ⟨37, 12, 37, 16⟩) (.bin .mul false (.lit (.int (2)) 0 ⟨37, 17, 37, 18⟩) (.var 1 "at" ⟨37, 21, 37, 23⟩) ⟨37, 17, 37, 23⟩) ⟨37, 12, 37, 24⟩), (.idx (.glb "WAYS" ⟨37, 26, 37, 30⟩) (.bin .add false (.bin .mul false (.lit (.int (2)) 0 ⟨37, 31, 37, 32⟩) (.var 1 "at" ⟨37, 35, 37, 37⟩) ⟨37, 31, 37, 37⟩) (.lit (.int (1)) 0 ⟨37, 40, 37, 41⟩) ⟨37, 31, 37, 41⟩) ⟨37, 26, 37, 42⟩)] ⟨37, 11, 37, 43⟩) ⟨37, 4, 37, 43⟩]⟩

def f_step : Fn := ⟨["cell", "way", "many", "at"], 3,
  [.asg (.nm 3 "at" ⟨39, 4, 39, 6⟩) (.bin .fdiv false (.call "way_number" false ⟨39, 9, 39, 19⟩ [(.var 1 "way" ⟨39, 20, 39, 23⟩)] ⟨39, 9, 39, 24⟩) (.lit (.int (2)) 0 ⟨39, 28, 39, 29⟩) ⟨39, 9, 39, 29⟩) ⟨39, 4, 39, 29⟩,
  .ret (.bin .add false (.bin .add false (.slc false (.var 0 "cell" ⟨40, 11, 40, 15⟩) none (some (.var 3 "at" ⟨40, 17, 40, 19⟩)) ⟨40, 16, 40, 19⟩ ⟨40, 11, 40, 20⟩) (.tup [(.bin .add false (.idx (.var 0 "cell" ⟨40, 24, 40, 28⟩) (.var 3 "at" ⟨40, 29, 40, 31⟩) ⟨40, 24, 40, 32⟩) (.bin .mul false (.var 2 "many" ⟨40, 35, 40, 39⟩) (.call "sign_of" false ⟨40, 42, 40, 49⟩ [(.var 1 "way" ⟨40, 50, 40, 53⟩)] ⟨40, 42, 40, 54⟩) ⟨40, 35, 40, 54⟩) ⟨40, 24, 40, 54⟩)] 0 ⟨40, 23, 40, 56⟩) ⟨40, 11, 40, 56⟩) (.slc false (.var 0 "cell" ⟨40, 59, 40, 63⟩) (some (.bin .add false (.var 3 "at" ⟨40, 64, 40, 66⟩) (.lit (.int (1)) 0 ⟨40, 69, 40, 70⟩) ⟨40, 64, 40, 70⟩)) none ⟨40, 64, 40, 71⟩ ⟨40, 59, 40, 72⟩) ⟨40, 11, 40, 72⟩) ⟨40, 4, 40, 72⟩]⟩

def f_place : Fn := ⟨["cell", "way"], 2,
  [.ret (.bin .mul false (.idx (.var 0 "cell" ⟨42, 11, 42, 15⟩) (.bin .fdiv false (.call "way_number" false ⟨42, 16, 42, 26⟩ [(.var 1 "way" ⟨42, 27, 42, 30⟩)] ⟨42, 16, 42, 31⟩) (.lit (.int (2)) 0 ⟨42, 35, 42, 36⟩) ⟨42, 16, 42, 36⟩) ⟨42, 11, 42, 37⟩) (.call "sign_of" false ⟨42, 40, 42, 47⟩ [(.var 1 "way" ⟨42, 48, 42, 51⟩)] ⟨42, 40, 42, 52⟩) ⟨42, 11, 42, 52⟩) ⟨42, 4, 42, 52⟩]⟩

def f_lane : Fn := ⟨["cell", "way", "at"], 2,
  [.asg (.nm 2 "at" ⟨44, 4, 44, 6⟩) (.bin .fdiv false (.call "way_number" false ⟨44, 9, 44, 19⟩ [(.var 1 "way" ⟨44, 20, 44, 23⟩)] ⟨44, 9, 44, 24⟩) (.lit (.int (2)) 0 ⟨44, 28, 44, 29⟩) ⟨44, 9, 44, 29⟩) ⟨44, 4, 44, 29⟩,
  .ret (.bin .add false (.slc false (.var 0 "cell" ⟨45, 11, 45, 15⟩) none (some (.var 2 "at" ⟨45, 17, 45, 19⟩)) ⟨45, 16, 45, 19⟩ ⟨45, 11, 45, 20⟩) (.slc false (.var 0 "cell" ⟨45, 23, 45, 27⟩) (some (.bin .add false (.var 2 "at" ⟨45, 28, 45, 30⟩) (.lit (.int (1)) 0 ⟨45, 33, 45, 34⟩) ⟨45, 28, 45, 34⟩)) none ⟨45, 28, 45, 35⟩ ⟨45, 23, 45, 36⟩) ⟨45, 11, 45, 36⟩) ⟨45, 4, 45, 36⟩]⟩

def f_law_feed : Fn := ⟨["_law_script"], 1,
  [.ret (.lst true [(.b1 .list false ⟨48, 12, 48, 16⟩ (.slc false (.var 0 "_law_script" ⟨48, 17, 48, 28⟩) none (some (.lit (.int (63)) 0 ⟨48, 30, 48, 32⟩)) ⟨48, 29, 48, 32⟩ ⟨48, 17, 48, 33⟩) ⟨48, 12, 48, 34⟩), (.lit (.int (0)) 0 ⟨48, 36, 48, 37⟩), (.lit (.int (0)) 0 ⟨48, 39, 48, 40⟩), (.lit (.int (1)) 0 ⟨48, 42, 48, 43⟩)] ⟨48, 11, 48, 44⟩) ⟨48, 4, 48, 44⟩]⟩

def f_law_draw : Fn := ⟨["_law_feed_here", "_law_many", "_law_cell", "_law_digit"], 2,
  [.ifS (.cmp .lt (.idx (.var 0 "_law_feed_here" ⟨50, 7, 50, 21⟩) (.lit (.int (2)) 0 ⟨50, 22, 50, 23⟩) ⟨50, 7, 50, 24⟩) (.lit (.int (2)) 0 ⟨50, 27, 50, 28⟩) ⟨50, 7, 50, 28⟩) [.asg (.nm 2 "_law_cell" ⟨51, 8, 51, 17⟩) (.lit (.int (17)) 0 ⟨51, 20, 51, 22⟩) ⟨51, 8, 51, 22⟩,
  .ifS (.cmp .lt (.idx (.var 0 "_law_feed_here" ⟨52, 11, 52, 25⟩) (.lit (.int (1)) 0 ⟨52, 26, 52, 27⟩) ⟨52, 11, 52, 28⟩) (.b1 .len false ⟨52, 31, 52, 34⟩ (.idx (.var 0 "_law_feed_here" ⟨52, 35, 52, 49⟩) (.lit (.int (0)) 0 ⟨52, 50, 52, 51⟩) ⟨52, 35, 52, 52⟩) ⟨52, 31, 52, 53⟩) ⟨52, 11, 52, 53⟩) [.asg (.nm 2 "_law_cell" ⟨53, 12, 53, 21⟩) (.idx (.idx (.var 0 "_law_feed_here" ⟨53, 24, 53, 38⟩) (.lit (.int (0)) 0 ⟨53, 39, 53, 40⟩) ⟨53, 24, 53, 41⟩) (.idx (.var 0 "_law_feed_here" ⟨53, 42, 53, 56⟩) (.lit (.int (1)) 0 ⟨53, 57, 53, 58⟩) ⟨53, 42, 53, 59⟩) ⟨53, 24, 53, 60⟩) ⟨53, 12, 53, 60⟩] [] ⟨52, 8, 53, 60⟩,
  .aset (.var 0 "_law_feed_here" ⟨54, 8, 54, 22⟩) (.lit (.int (1)) 0 ⟨54, 23, 54, 24⟩) ⟨54, 8, 54, 25⟩ (.bin .add false (.idx (.var 0 "_law_feed_here" ⟨54, 28, 54, 42⟩) (.lit (.int (1)) 0 ⟨54, 43, 54, 44⟩) ⟨54, 28, 54, 45⟩) (.lit (.int (1)) 0 ⟨54, 48, 54, 49⟩) ⟨54, 28, 54, 49⟩) ⟨54, 8, 54, 49⟩,
  .aset (.var 0 "_law_feed_here" ⟨55, 8, 55, 22⟩) (.lit (.int (3)) 0 ⟨55, 23, 55, 24⟩) ⟨55, 8, 55, 25⟩ (.bin .mod false (.bin .add false (.bin .add false (.bin .mul false (.idx (.var 0 "_law_feed_here" ⟨55, 29, 55, 43⟩) (.lit (.int (3)) 0 ⟨55, 44, 55, 45⟩) ⟨55, 29, 55, 46⟩) (.lit (.int (104651)) 0 ⟨55, 49, 55, 55⟩) ⟨55, 29, 55, 55⟩) (.bin .mod false (.var 2 "_law_cell" ⟨55, 58, 55, 67⟩) (.lit (.int (1000000007)) 0 ⟨55, 70, 55, 80⟩) ⟨55, 58, 55, 80⟩) ⟨55, 29, 55, 80⟩) (.bin .mul false (.lit (.int (31)) 0 ⟨55, 83, 55, 85⟩) (.idx (.var 0 "_law_feed_here" ⟨55, 88, 55, 102⟩) (.lit (.int (1)) 0 ⟨55, 103, 55, 104⟩) ⟨55, 88, 55, 105⟩) ⟨55, 83, 55, 105⟩) ⟨55, 29, 55, 105⟩) (.lit (.int (2147483629)) 0 ⟨55, 109, 55, 119⟩) ⟨55, 28, 55, 119⟩) ⟨55, 8, 55, 119⟩,
  .ifS (.cmp .ge (.var 2 "_law_cell" ⟨56, 11, 56, 20⟩) (.bin .pow false (.lit (.int (10)) 0 ⟨56, 24, 56, 26⟩) (.lit (.int (18)) 0 ⟨56, 30, 56, 32⟩) ⟨56, 24, 56, 32⟩) ⟨56, 11, 56, 32⟩) [.aset (.var 0 "_law_feed_here" ⟨57, 12, 57, 26⟩) (.lit (.int (2)) 0 ⟨57, 27, 57, 28⟩) ⟨57, 12, 57, 29⟩ (.var 2 "_law_cell" ⟨57, 32, 57, 41⟩) ⟨57, 12, 57, 41⟩] [] ⟨56, 8, 57, 41⟩] [] ⟨50, 4, 57, 41⟩,
  .ifS (.cmp .gt (.idx (.var 0 "_law_feed_here" ⟨58, 7, 58, 21⟩) (.lit (.int (2)) 0 ⟨58, 22, 58, 23⟩) ⟨58, 7, 58, 24⟩) (.lit (.int (1)) 0 ⟨58, 27, 58, 28⟩) ⟨58, 7, 58, 28⟩) [.asg (.nm 3 "_law_digit" ⟨59, 8, 59, 18⟩) (.bin .mod false (.idx (.var 0 "_law_feed_here" ⟨59, 21, 59, 35⟩) (.lit (.int (2)) 0 ⟨59, 36, 59, 37⟩) ⟨59, 21, 59, 38⟩) (.var 1 "_law_many" ⟨59, 41, 59, 50⟩) ⟨59, 21, 59, 50⟩) ⟨59, 8, 59, 50⟩,
  .aset (.var 0 "_law_feed_here" ⟨60, 8, 60, 22⟩) (.lit (.int (2)) 0 ⟨60, 23, 60, 24⟩) ⟨60, 8, 60, 25⟩ (.bin .fdiv false (.idx (.var 0 "_law_feed_here" ⟨60, 28, 60, 42⟩) (.lit (.int (2)) 0 ⟨60, 43, 60, 44⟩) ⟨60, 28, 60, 45⟩) (.var 1 "_law_many" ⟨60, 49, 60, 58⟩) ⟨60, 28, 60, 58⟩) ⟨60, 8, 60, 58⟩,
  .ret (.var 3 "_law_digit" ⟨61, 15, 61, 25⟩) ⟨61, 8, 61, 25⟩] [] ⟨58, 4, 61, 25⟩,
  .ret (.bin .mod false (.bin .fdiv false (.bin .mod false (.bin .mul false (.idx (.var 0 "_law_feed_here" ⟨62, 11, 62, 25⟩) (.lit (.int (3)) 0 ⟨62, 26, 62, 27⟩) ⟨62, 11, 62, 28⟩) (.lit (.int (52391)) 0 ⟨62, 31, 62, 36⟩) ⟨62, 11, 62, 36⟩) (.lit (.int (2147483587)) 0 ⟨62, 39, 62, 49⟩) ⟨62, 11, 62, 49⟩) (.lit (.int (5)) 0 ⟨62, 53, 62, 54⟩) ⟨62, 11, 62, 54⟩) (.var 1 "_law_many" ⟨62, 57, 62, 66⟩) ⟨62, 11, 62, 66⟩) ⟨62, 4, 62, 66⟩]⟩

def f_law_whole : Fn := ⟨["_law_found"], 1,
  [.ret (.bop true [(.isi ⟨64, 11, 64, 21⟩ (.var 0 "_law_found" ⟨64, 22, 64, 32⟩) .int ⟨64, 34, 64, 37⟩ ⟨64, 11, 64, 38⟩), (.not (.isi ⟨64, 48, 64, 58⟩ (.var 0 "_law_found" ⟨64, 59, 64, 69⟩) .bool ⟨64, 71, 64, 75⟩ ⟨64, 48, 64, 76⟩) ⟨64, 44, 64, 76⟩)] ⟨64, 11, 64, 77⟩) ⟨64, 4, 64, 77⟩]⟩

def f_law_same : Fn := ⟨["_law_found", "_law_due", "_law_k"], 2,
  [.ifS (.isN false (.var 1 "_law_due" ⟨66, 7, 66, 15⟩) 0 ⟨66, 19, 66, 23⟩ ⟨66, 7, 66, 23⟩) [.ret (.isN false (.var 0 "_law_found" ⟨67, 15, 67, 25⟩) 0 ⟨67, 29, 67, 33⟩ ⟨67, 15, 67, 33⟩) ⟨67, 8, 67, 33⟩] [] ⟨66, 4, 67, 33⟩,
  .ifS (.isi ⟨68, 7, 68, 17⟩ (.var 1 "_law_due" ⟨68, 18, 68, 26⟩) .bool ⟨68, 28, 68, 32⟩ ⟨68, 7, 68, 33⟩) [.ret (.bop true [(.isi ⟨69, 15, 69, 25⟩ (.var 0 "_law_found" ⟨69, 26, 69, 36⟩) .bool ⟨69, 38, 69, 42⟩ ⟨69, 15, 69, 43⟩), (.eq false (.var 0 "_law_found" ⟨69, 48, 69, 58⟩) (.var 1 "_law_due" ⟨69, 62, 69, 70⟩) ⟨69, 48, 69, 70⟩)] ⟨69, 15, 69, 70⟩) ⟨69, 8, 69, 70⟩] [] ⟨68, 4, 69, 70⟩,
  .ifS (.isi ⟨70, 7, 70, 17⟩ (.var 1 "_law_due" ⟨70, 18, 70, 26⟩) .int ⟨70, 28, 70, 31⟩ ⟨70, 7, 70, 32⟩) [.ret (.bop true [(.call "_law_whole" false ⟨71, 15, 71, 25⟩ [(.var 0 "_law_found" ⟨71, 26, 71, 36⟩)] ⟨71, 15, 71, 37⟩), (.eq false (.var 0 "_law_found" ⟨71, 42, 71, 52⟩) (.var 1 "_law_due" ⟨71, 56, 71, 64⟩) ⟨71, 42, 71, 64⟩)] ⟨71, 15, 71, 64⟩) ⟨71, 8, 71, 64⟩] [] ⟨70, 4, 71, 64⟩,
  .ifS (.isi ⟨72, 7, 72, 17⟩ (.var 1 "_law_due" ⟨72, 18, 72, 26⟩) .str ⟨72, 28, 72, 31⟩ ⟨72, 7, 72, 32⟩) [.ret (.bop true [(.isi ⟨73, 15, 73, 25⟩ (.var 0 "_law_found" ⟨73, 26, 73, 36⟩) .str ⟨73, 38, 73, 41⟩ ⟨73, 15, 73, 42⟩), (.eq false (.var 0 "_law_found" ⟨73, 47, 73, 57⟩) (.var 1 "_law_due" ⟨73, 61, 73, 69⟩) ⟨73, 47, 73, 69⟩)] ⟨73, 15, 73, 69⟩) ⟨73, 8, 73, 69⟩] [] ⟨72, 4, 73, 69⟩,
  .ifS (.bop false [(.eq true (.isi ⟨74, 7, 74, 17⟩ (.var 1 "_law_due" ⟨74, 18, 74, 26⟩) .list ⟨74, 28, 74, 32⟩ ⟨74, 7, 74, 33⟩) (.isi ⟨74, 37, 74, 47⟩ (.var 0 "_law_found" ⟨74, 48, 74, 58⟩) .list ⟨74, 60, 74, 64⟩ ⟨74, 37, 74, 65⟩) ⟨74, 7, 74, 65⟩), (.eq true (.isi ⟨74, 69, 74, 79⟩ (.var 1 "_law_due" ⟨74, 80, 74, 88⟩) .tuple ⟨74, 90, 74, 95⟩ ⟨74, 69, 74, 96⟩) (.isi ⟨74, 100, 74, 110⟩ (.var 0 "_law_found" ⟨74, 111, 74, 121⟩) .tuple ⟨74, 123, 74, 128⟩ ⟨74, 100, 74, 129⟩) ⟨74, 69, 74, 129⟩)] ⟨74, 7, 74, 129⟩) [.ret (.lit (.bl false) 0 ⟨75, 15, 75, 20⟩) ⟨75, 8, 75, 20⟩] [] ⟨74, 4, 75, 20⟩,
  .ifS (.eq true (.b1 .len false ⟨76, 7, 76, 10⟩ (.var 0 "_law_found" ⟨76, 11, 76, 21⟩) ⟨76, 7, 76, 22⟩) (.b1 .len false ⟨76, 26, 76, 29⟩ (.var 1 "_law_due" ⟨76, 30, 76, 38⟩) ⟨76, 26, 76, 39⟩) ⟨76, 7, 76, 39⟩) [.ret (.lit (.bl false) 0 ⟨77, 15, 77, 20⟩) ⟨77, 8, 77, 20⟩] [] ⟨76, 4, 77, 20⟩,
  .ret (.b1 .all false ⟨78, 11, 78, 14⟩ (.lc false (.call "_law_same" false ⟨78, 16, 78, 25⟩ [(.idx (.var 0 "_law_found" ⟨78, 26, 78, 36⟩) (.var 2 "_law_k" ⟨78, 37, 78, 43⟩) ⟨78, 26, 78, 44⟩), (.idx (.var 1 "_law_due" ⟨78, 46, 78, 54⟩) (.var 2 "_law_k" ⟨78, 55, 78, 61⟩) ⟨78, 46, 78, 62⟩)] ⟨78, 16, 78, 63⟩) (.nm 2 "_law_k" ⟨78, 68, 78, 74⟩) (.rng1 ⟨78, 78, 78, 83⟩ (.b1 .len false ⟨78, 84, 78, 87⟩ (.var 1 "_law_due" ⟨78, 88, 78, 96⟩) ⟨78, 84, 78, 97⟩) ⟨78, 78, 78, 98⟩) none { kind := .function, names := [(".0", .local), ("_law_k", .local), ("_law_same", .globalImplicit), ("_law_due", .free), ("_law_found", .free)], isGenerator := false, isCoroutine := false, more := [] } [("_law_k", 2)] ⟨78, 15, 78, 99⟩) ⟨78, 11, 78, 100⟩) ⟨78, 4, 78, 100⟩]⟩

def f_law_ways : Fn := ⟨[], 0,
  [.ret (.lst false [(.lit (.str "east") 0 ⟨80, 12, 80, 18⟩), (.lit (.str "west") 0 ⟨80, 20, 80, 26⟩), (.lit (.str "north") 0 ⟨80, 28, 80, 35⟩), (.lit (.str "south") 0 ⟨80, 37, 80, 44⟩), (.lit (.str "up") 0 ⟨80, 46, 80, 50⟩), (.lit (.str "down") 0 ⟨80, 52, 80, 58⟩)] ⟨80, 11, 80, 59⟩) ⟨80, 4, 80, 59⟩]⟩

def f_law_back : Fn := ⟨["_law_way"], 1,
  [.ret (.idx (.lst false [(.lit (.str "west") 0 ⟨82, 12, 82, 18⟩), (.lit (.str "east") 0 ⟨82, 20, 82, 26⟩), (.lit (.str "south") 0 ⟨82, 28, 82, 35⟩), (.lit (.str "north") 0 ⟨82, 37, 82, 44⟩), (.lit (.str "down") 0 ⟨82, 46, 82, 52⟩), (.lit (.str "up") 0 ⟨82, 54, 82, 58⟩)] ⟨82, 11, 82, 59⟩) (.mth .index false (.call "_law_ways" false ⟨82, 60, 82, 69⟩ [] ⟨82, 60, 82, 71⟩) ⟨82, 60, 82, 77⟩ [(.var 0 "_law_way" ⟨82, 78, 82, 86⟩)] ⟨82, 60, 82, 87⟩) ⟨82, 11, 82, 88⟩) ⟨82, 4, 82, 88⟩]⟩

def f_law_line : Fn := ⟨["_law_way"], 1,
  [.ret (.idx (.lst false [(.lit (.str "long") 0 ⟨84, 12, 84, 18⟩), (.lit (.str "broad") 0 ⟨84, 20, 84, 27⟩), (.lit (.str "high") 0 ⟨84, 29, 84, 35⟩)] ⟨84, 11, 84, 36⟩) (.bin .fdiv false (.mth .index false (.call "_law_ways" false ⟨84, 37, 84, 46⟩ [] ⟨84, 37, 84, 48⟩) ⟨84, 37, 84, 54⟩ [(.var 0 "_law_way" ⟨84, 55, 84, 63⟩)] ⟨84, 37, 84, 64⟩) (.lit (.int (2)) 0 ⟨84, 68, 84, 69⟩) ⟨84, 37, 84, 69⟩) ⟨84, 11, 84, 70⟩) ⟨84, 4, 84, 70⟩]⟩

def f_law_place : Fn := ⟨["_law_cell", "_law_way", "_law_at"], 2,
  [.asg (.nm 2 "_law_at" ⟨86, 4, 86, 11⟩) (.mth .index false (.call "_law_ways" false ⟨86, 14, 86, 23⟩ [] ⟨86, 14, 86, 25⟩) ⟨86, 14, 86, 31⟩ [(.var 1 "_law_way" ⟨86, 32, 86, 40⟩)] ⟨86, 14, 86, 41⟩) ⟨86, 4, 86, 41⟩,
  .ret (.bin .mul false (.idx (.var 0 "_law_cell" ⟨87, 11, 87, 20⟩) (.bin .fdiv false (.var 2 "_law_at" ⟨87, 21, 87, 28⟩) (.lit (.int (2)) 0 ⟨87, 32, 87, 33⟩) ⟨87, 21, 87, 33⟩) ⟨87, 11, 87, 34⟩) (.idx (.lst false [(.lit (.int (1)) 0 ⟨87, 38, 87, 39⟩), (.neg (.lit (.int (1)) 0 ⟨87, 42, 87, 43⟩) ⟨87, 41, 87, 43⟩)] ⟨87, 37, 87, 44⟩) (.bin .mod false (.var 2 "_law_at" ⟨87, 45, 87, 52⟩) (.lit (.int (2)) 0 ⟨87, 55, 87, 56⟩) ⟨87, 45, 87, 56⟩) ⟨87, 37, 87, 57⟩) ⟨87, 11, 87, 57⟩) ⟨87, 4, 87, 57⟩]⟩

def f_law_lane : Fn := ⟨["_law_cell", "_law_way", "_law_at"], 2,
  [.asg (.nm 2 "_law_at" ⟨89, 4, 89, 11⟩) (.bin .fdiv false (.mth .index false (.call "_law_ways" false ⟨89, 14, 89, 23⟩ [] ⟨89, 14, 89, 25⟩) ⟨89, 14, 89, 31⟩ [(.var 1 "_law_way" ⟨89, 32, 89, 40⟩)] ⟨89, 14, 89, 41⟩) (.lit (.int (2)) 0 ⟨89, 45, 89, 46⟩) ⟨89, 14, 89, 46⟩) ⟨89, 4, 89, 46⟩,
  .ret (.bin .add false (.slc false (.var 0 "_law_cell" ⟨90, 11, 90, 20⟩) none (some (.var 2 "_law_at" ⟨90, 22, 90, 29⟩)) ⟨90, 21, 90, 29⟩ ⟨90, 11, 90, 30⟩) (.slc false (.var 0 "_law_cell" ⟨90, 33, 90, 42⟩) (some (.bin .add false (.var 2 "_law_at" ⟨90, 43, 90, 50⟩) (.lit (.int (1)) 0 ⟨90, 53, 90, 54⟩) ⟨90, 43, 90, 54⟩)) none ⟨90, 43, 90, 55⟩ ⟨90, 33, 90, 56⟩) ⟨90, 11, 90, 56⟩) ⟨90, 4, 90, 56⟩]⟩

def f_law_step : Fn := ⟨["_law_cell", "_law_way", "_law_many", "_law_at", "_law_found"], 3,
  [.asg (.nm 3 "_law_at" ⟨92, 4, 92, 11⟩) (.mth .index false (.call "_law_ways" false ⟨92, 14, 92, 23⟩ [] ⟨92, 14, 92, 25⟩) ⟨92, 14, 92, 31⟩ [(.var 1 "_law_way" ⟨92, 32, 92, 40⟩)] ⟨92, 14, 92, 41⟩) ⟨92, 4, 92, 41⟩,
  .asg (.nm 4 "_law_found" ⟨93, 4, 93, 14⟩) (.b1 .list true ⟨93, 17, 93, 21⟩ (.var 0 "_law_cell" ⟨93, 22, 93, 31⟩) ⟨93, 17, 93, 32⟩) ⟨93, 4, 93, 32⟩,
  .aset (.var 4 "_law_found" ⟨94, 4, 94, 14⟩) (.bin .fdiv false (.var 3 "_law_at" ⟨94, 15, 94, 22⟩) (.lit (.int (2)) 0 ⟨94, 26, 94, 27⟩) ⟨94, 15, 94, 27⟩) ⟨94, 4, 94, 28⟩ (.bin .add false (.idx (.var 4 "_law_found" ⟨94, 31, 94, 41⟩) (.bin .fdiv false (.var 3 "_law_at" ⟨94, 42, 94, 49⟩) (.lit (.int (2)) 0 ⟨94, 53, 94, 54⟩) ⟨94, 42, 94, 54⟩) ⟨94, 31, 94, 55⟩) (.bin .mul false (.var 2 "_law_many" ⟨94, 58, 94, 67⟩) (.idx (.lst false [(.lit (.int (1)) 0 ⟨94, 71, 94, 72⟩), (.neg (.lit (.int (1)) 0 ⟨94, 75, 94, 76⟩) ⟨94, 74, 94, 76⟩)] ⟨94, 70, 94, 77⟩) (.bin .mod false (.var 3 "_law_at" ⟨94, 78, 94, 85⟩) (.lit (.int (2)) 0 ⟨94, 88, 94, 89⟩) ⟨94, 78, 94, 89⟩) ⟨94, 70, 94, 90⟩) ⟨94, 58, 94, 90⟩) ⟨94, 31, 94, 90⟩) ⟨94, 4, 94, 90⟩,
  .ret (.b1 .tuple false ⟨95, 11, 95, 16⟩ (.var 4 "_law_found" ⟨95, 17, 95, 27⟩) ⟨95, 11, 95, 28⟩) ⟨95, 4, 95, 28⟩]⟩

def f_law_lists_stay : Fn := ⟨["_law_told", "_law_rows", "_law_pair"], 0,
  [.asg (.nm 0 "_law_told" ⟨97, 4, 97, 13⟩) (.call "ways" true ⟨97, 16, 97, 20⟩ [] ⟨97, 16, 97, 22⟩) ⟨97, 4, 97, 22⟩,
  .asg (.nm 1 "_law_rows" ⟨98, 4, 98, 13⟩) (.call "lines" true ⟨98, 16, 98, 21⟩ [] ⟨98, 16, 98, 23⟩) ⟨98, 4, 98, 23⟩,
  .asg (.nm 2 "_law_pair" ⟨99, 4, 99, 13⟩) (.call "ways_of" true ⟨99, 16, 99, 23⟩ [(.lit (.str "broad") 0 ⟨99, 24, 99, 31⟩)] ⟨99, 16, 99, 32⟩) ⟨99, 4, 99, 32⟩,
  .ifS (.bop false [(.not (.call "_law_same" false ⟨100, 11, 100, 20⟩ [(.var 0 "_law_told" ⟨100, 21, 100, 30⟩), (.call "_law_ways" false ⟨100, 32, 100, 41⟩ [] ⟨100, 32, 100, 43⟩)] ⟨100, 11, 100, 44⟩) ⟨100, 7, 100, 44⟩), (.not (.call "_law_same" false ⟨100, 52, 100, 61⟩ [(.var 1 "_law_rows" ⟨100, 62, 100, 71⟩), (.lst false [(.lit (.str "long") 0 ⟨100, 74, 100, 80⟩), (.lit (.str "broad") 0 ⟨100, 82, 100, 89⟩), (.lit (.str "high") 0 ⟨100, 91, 100, 97⟩)] ⟨100, 73, 100, 98⟩)] ⟨100, 52, 100, 99⟩) ⟨100, 48, 100, 99⟩)] ⟨100, 7, 100, 99⟩) [.ret (.lit (.bl false) 0 ⟨101, 15, 101, 20⟩) ⟨101, 8, 101, 20⟩] [] ⟨100, 4, 101, 20⟩,
  .ifS (.not (.call "_law_same" false ⟨102, 11, 102, 20⟩ [(.var 2 "_law_pair" ⟨102, 21, 102, 30⟩), (.lst false [(.lit (.str "north") 0 ⟨102, 33, 102, 40⟩), (.lit (.str "south") 0 ⟨102, 42, 102, 49⟩)] ⟨102, 32, 102, 50⟩)] ⟨102, 11, 102, 51⟩) ⟨102, 7, 102, 51⟩) [.ret (.lit (.bl false) 0 ⟨103, 15, 103, 20⟩) ⟨103, 8, 103, 20⟩] [] ⟨102, 4, 103, 20⟩,
  .expr (.mth .reverse false (.var 0 "_law_told" ⟨104, 4, 104, 13⟩) ⟨104, 4, 104, 21⟩ [] ⟨104, 4, 104, 23⟩) ⟨104, 4, 104, 23⟩,
  .expr (.mth .append false (.var 1 "_law_rows" ⟨105, 4, 105, 13⟩) ⟨105, 4, 105, 20⟩ [(.lit (.str "deep") 0 ⟨105, 21, 105, 27⟩)] ⟨105, 4, 105, 28⟩) ⟨105, 4, 105, 28⟩,
  .expr (.mth .clear false (.var 2 "_law_pair" ⟨106, 4, 106, 13⟩) ⟨106, 4, 106, 19⟩ [] ⟨106, 4, 106, 21⟩) ⟨106, 4, 106, 21⟩,
  .ifS (.bop false [(.not (.call "_law_same" false ⟨107, 11, 107, 20⟩ [(.call "ways" false ⟨107, 21, 107, 25⟩ [] ⟨107, 21, 107, 27⟩), (.call "_law_ways" false ⟨107, 29, 107, 38⟩ [] ⟨107, 29, 107, 40⟩)] ⟨107, 11, 107, 41⟩) ⟨107, 7, 107, 41⟩), (.not (.call "_law_same" false ⟨107, 49, 107, 58⟩ [(.call "lines" false ⟨107, 59, 107, 64⟩ [] ⟨107, 59, 107, 66⟩), (.lst false [(.lit (.str "long") 0 ⟨107, 69, 107, 75⟩), (.lit (.str "broad") 0 ⟨107, 77, 107, 84⟩), (.lit (.str "high") 0 ⟨107, 86, 107, 92⟩)] ⟨107, 68, 107, 93⟩)] ⟨107, 49, 107, 94⟩) ⟨107, 45, 107, 94⟩)] ⟨107, 7, 107, 94⟩) [.ret (.lit (.bl false) 0 ⟨108, 15, 108, 20⟩) ⟨108, 8, 108, 20⟩] [] ⟨107, 4, 108, 20⟩,
  .ret (.call "_law_same" false ⟨109, 11, 109, 20⟩ [(.call "ways_of" false ⟨109, 21, 109, 28⟩ [(.lit (.str "broad") 0 ⟨109, 29, 109, 36⟩)] ⟨109, 21, 109, 37⟩), (.lst false [(.lit (.str "north") 0 ⟨109, 40, 109, 47⟩), (.lit (.str "south") 0 ⟨109, 49, 109, 56⟩)] ⟨109, 39, 109, 57⟩)] ⟨109, 11, 109, 58⟩) ⟨109, 4, 109, 58⟩]⟩

def f_law : Fn := ⟨["_law_script", "_law_feed_here", "_law_cell", "_law_far", "_law_small", "_law_way", "_law_one", "_law_many", "_law_k"], 1,
  [.asg (.nm 1 "_law_feed_here" ⟨111, 4, 111, 18⟩) (.call "_law_feed" true ⟨111, 21, 111, 30⟩ [(.var 0 "_law_script" ⟨111, 31, 111, 42⟩)] ⟨111, 21, 111, 43⟩) ⟨111, 4, 111, 43⟩,
  .ifS (.not (.call "_law_lists_stay" false ⟨112, 11, 112, 26⟩ [] ⟨112, 11, 112, 28⟩) ⟨112, 7, 112, 28⟩) [.ret (.lit (.bl false) 0 ⟨113, 15, 113, 20⟩) ⟨113, 8, 113, 20⟩] [] ⟨112, 4, 113, 20⟩,
  .asg (.nm 2 "_law_cell" ⟨114, 4, 114, 13⟩) (.b1 .tuple false ⟨114, 16, 114, 21⟩ (.lc false (.bin .sub false (.call "_law_draw" false ⟨114, 23, 114, 32⟩ [(.var 1 "_law_feed_here" ⟨114, 33, 114, 47⟩), (.bin .add false (.bin .mul false (.lit (.int (2)) 0 ⟨114, 49, 114, 50⟩) (.bin .pow false (.lit (.int (10)) 0 ⟨114, 53, 114, 55⟩) (.lit (.int (20)) 0 ⟨114, 59, 114, 61⟩) ⟨114, 53, 114, 61⟩) ⟨114, 49, 114, 61⟩) (.lit (.int (1)) 0 ⟨114, 64, 114, 65⟩) ⟨114, 49, 114, 65⟩)] ⟨114, 23, 114, 66⟩) (.bin .pow false (.lit (.int (10)) 0 ⟨114, 69, 114, 71⟩) (.lit (.int (20)) 0 ⟨114, 75, 114, 77⟩) ⟨114, 69, 114, 77⟩) ⟨114, 23, 114, 77⟩) (.nm 8 "_law_k" ⟨114, 82, 114, 88⟩) (.rng1 ⟨114, 92, 114, 97⟩ (.lit (.int (3)) 0 ⟨114, 98, 114, 99⟩) ⟨114, 92, 114, 100⟩) none { kind := .function, names := [(".0", .local), ("_law_k", .local), ("_law_draw", .globalImplicit), ("_law_feed_here", .free)], isGenerator := false, isCoroutine := false, more := [] } [("_law_k", 8)] ⟨114, 22, 114, 101⟩) ⟨114, 16, 114, 102⟩) ⟨114, 4, 114, 102⟩,
  .asg (.nm 3 "_law_far" ⟨115, 4, 115, 12⟩) (.bin .sub false (.call "_law_draw" false ⟨115, 15, 115, 24⟩ [(.var 1 "_law_feed_here" ⟨115, 25, 115, 39⟩), (.bin .add false (.bin .mul false (.lit (.int (2)) 0 ⟨115, 41, 115, 42⟩) (.bin .pow false (.lit (.int (10)) 0 ⟨115, 45, 115, 47⟩) (.lit (.int (20)) 0 ⟨115, 51, 115, 53⟩) ⟨115, 45, 115, 53⟩) ⟨115, 41, 115, 53⟩) (.lit (.int (1)) 0 ⟨115, 56, 115, 57⟩) ⟨115, 41, 115, 57⟩)] ⟨115, 15, 115, 58⟩) (.bin .pow false (.lit (.int (10)) 0 ⟨115, 61, 115, 63⟩) (.lit (.int (20)) 0 ⟨115, 67, 115, 69⟩) ⟨115, 61, 115, 69⟩) ⟨115, 15, 115, 69⟩) ⟨115, 4, 115, 69⟩,
  .asg (.nm 4 "_law_small" ⟨116, 4, 116, 14⟩) (.b1 .tuple false ⟨116, 17, 116, 22⟩ (.lc false (.bin .sub false (.call "_law_draw" false ⟨116, 24, 116, 33⟩ [(.var 1 "_law_feed_here" ⟨116, 34, 116, 48⟩), (.lit (.int (9)) 0 ⟨116, 50, 116, 51⟩)] ⟨116, 24, 116, 52⟩) (.lit (.int (4)) 0 ⟨116, 55, 116, 56⟩) ⟨116, 24, 116, 56⟩) (.nm 8 "_law_k" ⟨116, 61, 116, 67⟩) (.rng1 ⟨116, 71, 116, 76⟩ (.lit (.int (3)) 0 ⟨116, 77, 116, 78⟩) ⟨116, 71, 116, 79⟩) none { kind := .function, names := [(".0", .local), ("_law_k", .local), ("_law_draw", .globalImplicit), ("_law_feed_here", .free)], isGenerator := false, isCoroutine := false, more := [] } [("_law_k", 8)] ⟨116, 23, 116, 80⟩) ⟨116, 17, 116, 81⟩) ⟨116, 4, 116, 81⟩,
  .forS (.nm 5 "_law_way" ⟨117, 8, 117, 16⟩) (.seq (.call "_law_ways" false ⟨117, 20, 117, 29⟩ [] ⟨117, 20, 117, 31⟩)) [.ifS (.not (.call "_law_same" false ⟨118, 15, 118, 24⟩ [(.lst false [(.call "back" false ⟨118, 26, 118, 30⟩ [(.var 5 "_law_way" ⟨118, 31, 118, 39⟩)] ⟨118, 26, 118, 40⟩), (.call "line_of" false ⟨118, 42, 118, 49⟩ [(.var 5 "_law_way" ⟨118, 50, 118, 58⟩)] ⟨118, 42, 118, 59⟩)] ⟨118, 25, 118, 60⟩), (.lst false [(.call "_law_back" false ⟨118, 63, 118, 72⟩ [(.var 5 "_law_way" ⟨118, 73, 118, 81⟩)] ⟨118, 63, 118, 82⟩), (.call "_law_line" false ⟨118, 84, 118, 93⟩ [(.var 5 "_law_way" ⟨118, 94, 118, 102⟩)] ⟨118, 84, 118, 103⟩)] ⟨118, 62, 118, 104⟩)] ⟨118, 15, 118, 105⟩) ⟨118, 11, 118, 105⟩) [.ret (.lit (.bl false) 0 ⟨119, 19, 119, 24⟩) ⟨119, 12, 119, 24⟩] [] ⟨118, 8, 119, 24⟩,
  .ifS (.bop false [(.inS true (.var 5 "_law_way" ⟨120, 11, 120, 19⟩) (.call "ways_of" false ⟨120, 27, 120, 34⟩ [(.call "line_of" false ⟨120, 35, 120, 42⟩ [(.var 5 "_law_way" ⟨120, 43, 120, 51⟩)] ⟨120, 35, 120, 52⟩)] ⟨120, 27, 120, 53⟩) ⟨120, 11, 120, 53⟩), (.eq true (.b1 .len false ⟨120, 57, 120, 60⟩ (.call "ways_of" false ⟨120, 61, 120, 68⟩ [(.call "line_of" false ⟨120, 69, 120, 76⟩ [(.var 5 "_law_way" ⟨120, 77, 120, 85⟩)] ⟨120, 69, 120, 86⟩)] ⟨120, 61, 120, 87⟩) ⟨120, 57, 120, 88⟩) (.lit (.int (2)) 0 ⟨120, 92, 120, 93⟩) ⟨120, 57, 120, 93⟩)] ⟨120, 11, 120, 93⟩) [.ret (.lit (.bl false) 0 ⟨121, 19, 121, 24⟩) ⟨121, 12, 121, 24⟩] [] ⟨120, 8, 121, 24⟩,
  .forS (.tp [(.nm 6 "_law_one" ⟨122, 12, 122, 20⟩), (.nm 7 "_law_many" ⟨122, 22, 122, 31⟩)] 0 ⟨122, 12, 122, 31⟩) (.seq (.lst false [(.tup [(.var 2 "_law_cell" ⟨122, 37, 122, 46⟩), (.var 3 "_law_far" ⟨122, 48, 122, 56⟩)] 0 ⟨122, 36, 122, 57⟩), (.tup [(.var 4 "_law_small" ⟨122, 60, 122, 70⟩), (.lit (.int (3)) 0 ⟨122, 72, 122, 73⟩)] 0 ⟨122, 59, 122, 74⟩), (.tup [(.var 2 "_law_cell" ⟨122, 77, 122, 86⟩), (.neg (.lit (.int (2)) 0 ⟨122, 89, 122, 90⟩) ⟨122, 88, 122, 90⟩)] 0 ⟨122, 76, 122, 91⟩), (.tup [(.var 4 "_law_small" ⟨122, 94, 122, 104⟩), (.lit (.int (0)) 0 ⟨122, 106, 122, 107⟩)] 0 ⟨122, 93, 122, 108⟩)] ⟨122, 35, 122, 109⟩)) [.ifS (.not (.call "_law_same" false ⟨123, 19, 123, 28⟩ [(.call "step" false ⟨123, 29, 123, 33⟩ [(.var 6 "_law_one" ⟨123, 34, 123, 42⟩), (.var 5 "_law_way" ⟨123, 44, 123, 52⟩), (.var 7 "_law_many" ⟨123, 54, 123, 63⟩)] ⟨123, 29, 123, 64⟩), (.call "_law_step" false ⟨123, 66, 123, 75⟩ [(.var 6 "_law_one" ⟨123, 76, 123, 84⟩), (.var 5 "_law_way" ⟨123, 86, 123, 94⟩), (.var 7 "_law_many" ⟨123, 96, 123, 105⟩)] ⟨123, 66, 123, 106⟩)] ⟨123, 19, 123, 107⟩) ⟨123, 15, 123, 107⟩) [.ret (.lit (.bl false) 0 ⟨124, 23, 124, 28⟩) ⟨124, 16, 124, 28⟩] [] ⟨123, 12, 124, 28⟩,
  .ifS (.not (.call "_law_same" false ⟨125, 19, 125, 28⟩ [(.lst false [(.call "place" false ⟨125, 30, 125, 35⟩ [(.var 6 "_law_one" ⟨125, 36, 125, 44⟩), (.var 5 "_law_way" ⟨125, 46, 125, 54⟩)] ⟨125, 30, 125, 55⟩), (.call "lane" false ⟨125, 57, 125, 61⟩ [(.var 6 "_law_one" ⟨125, 62, 125, 70⟩), (.var 5 "_law_way" ⟨125, 72, 125, 80⟩)] ⟨125, 57, 125, 81⟩)] ⟨125, 29, 125, 82⟩), (.lst false [(.call "_law_place" false ⟨125, 85, 125, 95⟩ [(.var 6 "_law_one" ⟨125, 96, 125, 104⟩), (.var 5 "_law_way" ⟨125, 106, 125, 114⟩)] ⟨125, 85, 125, 115⟩), (.call "_law_lane" false ⟨125, 117, 125, 126⟩ [(.var 6 "_law_one" ⟨125, 127, 125, 135⟩), (.var 5 "_law_way" ⟨125, 137, 125, 145⟩)] ⟨125, 117, 125, 146⟩)] ⟨125, 84, 125, 147⟩)] ⟨125, 19, 125, 148⟩) ⟨125, 15, 125, 148⟩) [.ret (.lit (.bl false) 0 ⟨126, 23, 126, 28⟩) ⟨126, 16, 126, 28⟩] [] ⟨125, 12, 126, 28⟩] ⟨122, 8, 126, 28⟩] ⟨117, 4, 126, 28⟩,
  .ret (.lit (.bl true) 0 ⟨127, 11, 127, 15⟩) ⟨127, 4, 127, 15⟩]⟩

def defs : List Df := [⟨"ways", top 7, f_ways⟩,
  ⟨"lines", top 8, f_lines⟩,
  ⟨"way_number", top 9, f_way_number⟩,
  ⟨"line_number", top 10, f_line_number⟩,
  ⟨"sign_of", top 11, f_sign_of⟩,
  ⟨"back", top 12, f_back⟩,
  ⟨"line_of", top 13, f_line_of⟩,
  ⟨"ways_of", top 14, f_ways_of⟩,
  ⟨"step", top 15, f_step⟩,
  ⟨"place", top 16, f_place⟩,
  ⟨"lane", top 17, f_lane⟩,
  ⟨"_law_feed", top 19, f_law_feed⟩,
  ⟨"_law_draw", top 20, f_law_draw⟩,
  ⟨"_law_whole", top 21, f_law_whole⟩,
  ⟨"_law_same", top 22, f_law_same⟩,
  ⟨"_law_ways", top 23, f_law_ways⟩,
  ⟨"_law_back", top 24, f_law_back⟩,
  ⟨"_law_line", top 25, f_law_line⟩,
  ⟨"_law_place", top 26, f_law_place⟩,
  ⟨"_law_lane", top 27, f_law_lane⟩,
  ⟨"_law_step", top 28, f_law_step⟩,
  ⟨"_law_lists_stay", top 29, f_law_lists_stay⟩,
  ⟨"law", top 30, f_law⟩]

def tb : Tb := ⟨defs, [("WAYS", [.str "east", .str "west", .str "north", .str "south", .str "up", .str "down"]), ("LINES", [.str "long", .str "broad", .str "high"])], fun _ => none, fun _ _ => none⟩

def names : List PySem.Str := (["WoodError", "BadWay", "BadLine", "WAYS", "LINES", "ways", "lines", "way_number", "line_number", "sign_of", "back", "line_of", "ways_of", "step", "place", "lane", "_law_feed", "_law_draw", "_law_whole", "_law_same", "_law_ways", "_law_back", "_law_line", "_law_place", "_law_lane", "_law_step", "_law_lists_stay"] : List PySem.Str)

theorem bodies : defs.map (fun d => defBody d.st) = defs.map (fun d => Sts.s d.F.body) := by kernel_rfl

theorem wfs : (defs.all fun d => d.wf) = true := by decide +kernel

theorem b_f_ways : BindT ⟨"ways", top 7, f_ways⟩ := fun _ _ _ _ _ _ us hl => match us, hl with | [], _ => rfl

theorem b_f_lines : BindT ⟨"lines", top 8, f_lines⟩ := fun _ _ _ _ _ _ us hl => match us, hl with | [], _ => rfl

theorem b_f_way_number : BindT ⟨"way_number", top 9, f_way_number⟩ := fun _ _ _ _ _ _ us hl => match us, hl with | [_], _ => rfl

theorem b_f_line_number : BindT ⟨"line_number", top 10, f_line_number⟩ := fun _ _ _ _ _ _ us hl => match us, hl with | [_], _ => rfl

theorem b_f_sign_of : BindT ⟨"sign_of", top 11, f_sign_of⟩ := fun _ _ _ _ _ _ us hl => match us, hl with | [_], _ => rfl

theorem b_f_back : BindT ⟨"back", top 12, f_back⟩ := fun _ _ _ _ _ _ us hl => match us, hl with | [_], _ => rfl

theorem b_f_line_of : BindT ⟨"line_of", top 13, f_line_of⟩ := fun _ _ _ _ _ _ us hl => match us, hl with | [_], _ => rfl

theorem b_f_ways_of : BindT ⟨"ways_of", top 14, f_ways_of⟩ := fun _ _ _ _ _ _ us hl => match us, hl with | [_], _ => rfl

theorem b_f_step : BindT ⟨"step", top 15, f_step⟩ := fun _ _ _ _ _ _ us hl => match us, hl with | [_, _, _], _ => rfl

theorem b_f_place : BindT ⟨"place", top 16, f_place⟩ := fun _ _ _ _ _ _ us hl => match us, hl with | [_, _], _ => rfl

theorem b_f_lane : BindT ⟨"lane", top 17, f_lane⟩ := fun _ _ _ _ _ _ us hl => match us, hl with | [_, _], _ => rfl

theorem b_f_law_feed : BindT ⟨"_law_feed", top 19, f_law_feed⟩ := fun _ _ _ _ _ _ us hl => match us, hl with | [_], _ => rfl

theorem b_f_law_draw : BindT ⟨"_law_draw", top 20, f_law_draw⟩ := fun _ _ _ _ _ _ us hl => match us, hl with | [_, _], _ => rfl

theorem b_f_law_whole : BindT ⟨"_law_whole", top 21, f_law_whole⟩ := fun _ _ _ _ _ _ us hl => match us, hl with | [_], _ => rfl

theorem b_f_law_same : BindT ⟨"_law_same", top 22, f_law_same⟩ := fun _ _ _ _ _ _ us hl => match us, hl with | [_, _], _ => rfl

theorem b_f_law_ways : BindT ⟨"_law_ways", top 23, f_law_ways⟩ := fun _ _ _ _ _ _ us hl => match us, hl with | [], _ => rfl

theorem b_f_law_back : BindT ⟨"_law_back", top 24, f_law_back⟩ := fun _ _ _ _ _ _ us hl => match us, hl with | [_], _ => rfl

theorem b_f_law_line : BindT ⟨"_law_line", top 25, f_law_line⟩ := fun _ _ _ _ _ _ us hl => match us, hl with | [_], _ => rfl

theorem b_f_law_place : BindT ⟨"_law_place", top 26, f_law_place⟩ := fun _ _ _ _ _ _ us hl => match us, hl with | [_, _], _ => rfl

theorem b_f_law_lane : BindT ⟨"_law_lane", top 27, f_law_lane⟩ := fun _ _ _ _ _ _ us hl => match us, hl with | [_, _], _ => rfl

theorem b_f_law_step : BindT ⟨"_law_step", top 28, f_law_step⟩ := fun _ _ _ _ _ _ us hl => match us, hl with | [_, _, _], _ => rfl

theorem b_f_law_lists_stay : BindT ⟨"_law_lists_stay", top 29, f_law_lists_stay⟩ := fun _ _ _ _ _ _ us hl => match us, hl with | [], _ => rfl

theorem b_f_law : BindT ⟨"law", top 30, f_law⟩ := fun _ _ _ _ _ _ us hl => match us, hl with | [_], _ => rfl

theorem binds : Alls BindT defs := ⟨b_f_ways, b_f_lines, b_f_way_number, b_f_line_number, b_f_sign_of, b_f_back, b_f_line_of, b_f_ways_of, b_f_step, b_f_place, b_f_lane, b_f_law_feed, b_f_law_draw, b_f_law_whole, b_f_law_same, b_f_law_ways, b_f_law_back, b_f_law_line, b_f_law_place, b_f_law_lane, b_f_law_step, b_f_law_lists_stay, b_f_law, trivial⟩

abbrev R : PySem.W.OpenRow := PySem.W.OpenLaw.row PySem.Challenge.rw_gripwood_k01_ways_and_steps
abbrev hk : PySem.W.Hook := hookG 4 tb.chk (tb.defs.map Df.d)
def ob (s : PySem.W.SharedT) : He.AlD := obsGG 4 tb.chk (tb.defs.map Df.d) (HandSHeadRun.getT s)
theorem ob_eq (s : PySem.W.SharedT) : ob s = hk.obs s.abs := obsGG_eq (HandSHeadRun.getT_eq s)
theorem run (w : World) : HandSHeadRun.RunEq R (PySem.W.view R.prog [30]) hk ob 4000 names w := by
  intro os
  kernel_rfl
/-- the law's answer, by the interpreter -/
def Ans : Prop := ∀ ns : List Int, ns.length ≤ 63 → ∃ S, evF tb.P 40 "law" true [.t (.lst (ns.map Dt.int))] [] = .ok (.t (.bl true)) S

end K01

open PySem PySem.W PySem.Calls PyProof.Rows in
theorem K01.fin (ans : K01.Ans) : PySem.Challenge.rw_gripwood_k01_ways_and_steps.Holds := by
  w_on; o_law
  refine HandSHeadRun.head_any (r := OpenLaw.row PySem.Challenge.rw_gripwood_k01_ways_and_steps) (q := view (OpenLaw.row PySem.Challenge.rw_gripwood_k01_ways_and_steps).prog [30]) (H := K01.hk) (ob := K01.ob) (M := 4000) (loose := K01.names) (d := HandSHeadRun.topDef (OpenLaw.row PySem.Challenge.rw_gripwood_k01_ways_and_steps).prog 30) (kwd := []) K01.ob_eq
    (by kernel_rfl) (fun s => by kernel_rfl) K01.run (by kernel_rfl) (by kernel_rfl) (by kernel_rfl) (by rfl) (by first | assumption | decide +kernel) (by decide +kernel) ⟨rfl, rfl, rfl, rfl, rfl, by decide +kernel⟩ ?hw ?hc
  case hw => w_witness2
  case hc =>
    exact Gw.walk_gw (l := PySem.Challenge.rw_gripwood_k01_ways_and_steps) (t := K01.tb) (n := 40) (F := K01.f_law) (x := "_law_script") rfl (by kernel_rfl) (by kernel_rfl) ⟨rfl, by decide, by decide⟩ (by rfl) (by rfl) (Gw.of_map K01.bodies) (fun d hd => List.all_eq_true.mp K01.wfs d hd) (Gw.Alls.of K01.binds) ans

namespace K01
open Gw
theorem c_way_number {n : Nat} : callOf tb.P n "way_number" = some (evF tb.P n "way_number") := rfl
theorem c_sign_of {n : Nat} : callOf tb.P n "sign_of" = some (evF tb.P n "sign_of") := rfl
def W6 : List PySem.Str := ["east", "west", "north", "south", "up", "down"]
/-- the feed: the script's numbers, the place, the great number, the seed -/
def FeedAt (S : Store) (k : Nat) (xs : List Int) (a b c : Int) : Prop := S[k]? = some (.lst false [.t (.lst (xs.map .int)), .t (.int a), .t (.int b), .t (.int c)])
def feedC (xs : List Int) (a b c : Int) : Cl := .lst false [.t (.lst (xs.map .int)), .t (.int a), .t (.int b), .t (.int c)]
theorem set_same {S : Store} {k : Nat} {c : Cl} (h : S[k]? = some c) : S.set k c = S := by
  apply List.ext_getElem?
  intro j
  by_cases hj : k = j
  · subst hj
    rw [List.getElem?_set_self (List.getElem?_eq_some_iff.mp h).1, h]
  · rw [List.getElem?_set_ne hj]
theorem at4_0 {α : Type} {a b c d : α} : L2.atI [a, b, c, d] 0 = some a := rfl
theorem at4_1 {α : Type} {a b c d : α} : L2.atI [a, b, c, d] 1 = some b := rfl
theorem at4_2 {α : Type} {a b c d : α} : L2.atI [a, b, c, d] 2 = some c := rfl
theorem at4_3 {α : Type} {a b c d : α} : L2.atI [a, b, c, d] 3 = some d := rfl
section
variable {C : Cxt} {ρ : Env} {S : Store} {k : Nat} {xs : List Int} {a b c : Int} {p q r : PySem.Pos} {x : PySem.Str} {e : Ex}
theorem fd_idx (hk : S[k]? = some (feedC xs a b c)) {i : Int} : idxD (.h k) i S = opt S (L2.atI [.t (.lst (xs.map .int)), .t (.int a), .t (.int b), .t (.int c)] i) := idx_cell hk
theorem fd_set1 (hk : S[k]? = some (feedC xs a b c)) {z : Int} {bs : Nat} : asetD bs (.h k) 1 (.t (.int z)) S = .ok () (S.set k (feedC xs z b c)) := aset_cell (j := 1) hk rfl
theorem fd_set2 (hk : S[k]? = some (feedC xs a b c)) {z : Int} {bs : Nat} : asetD bs (.h k) 2 (.t (.int z)) S = .ok () (S.set k (feedC xs a z c)) := aset_cell (j := 2) hk rfl
theorem fd_set3 (hk : S[k]? = some (feedC xs a b c)) {z : Int} {bs : Nat} : asetD bs (.h k) 3 (.t (.int z)) S = .ok () (S.set k (feedC xs a b z)) := aset_cell (j := 3) hk rfl
end
theorem pow18 {m : Bool} {S : Store} : binD m .pow (.t (.int 10)) (.t (.int 18)) S = .ok (.t (.int 1000000000000000000)) S := by
  rw [bin_pow ⟨by decide, by decide, by decide⟩]; rfl
theorem mulr {m : Bool} {S : Store} {i j : Int} (h : -(2 ^ 64) < j ∧ j < 2 ^ 64) : binD m .mul (.t (.int i)) (.t (.int j)) S = .ok (.t (.int (i * j))) S := bin_mul (.inr h)
theorem mull {m : Bool} {S : Store} {i j : Int} (h : -(2 ^ 64) < i ∧ i < 2 ^ 64) : binD m .mul (.t (.int i)) (.t (.int j)) S = .ok (.t (.int (i * j))) S := bin_mul (.inl h)
/-- the part behind the first if -/
theorem draw2 (n bs : Nat) (S : Store) (k : Nat) (xs : List Int) (a b c many : Int) (w2 : Option Wd) (hk : S[k]? = some (feedC xs a b c)) (ha : 0 ≤ a) (hm : 0 < many) (hg : many.natAbs.log2 < 8000) :
    ∃ r a' b' c', execs (cxP tb.P n bs) (f_law_draw.body.drop 1) [some (.h k), some (.t (.int many)), w2, none] S = .rt (.t (.int r)) (S.set k (feedC xs a' b' c')) ∧ 0 ≤ a' ∧ 0 ≤ r ∧ r < many := by
  have m0 : many ≠ 0 := by omega
  simp only [f_law_draw, List.drop, execs_cons, execs_nil, exec, ev, evs, bd_ok', st_ok, opt_some, tst_bl, Lit.d, isInt, isBl, List.getElem?_cons_zero, List.getElem?_cons_succ, cmpD, toOut, bindA, bindT, List.length_cons, List.length_nil, sq_nx, sq_rt, List.set_cons_zero, List.set_cons_succ, Nat.reduceAdd, Nat.reduceLT, if_true, if_false, Bool.false_eq_true, at4_0, at4_1, at4_2, at4_3, bin_add, bin_sub, fd_idx hk, bin_mod hm]
  by_cases hb : 1 < b
  · simp only [hb, decide_true, execs_cons, execs_nil, exec, ev, evs, bd_ok', st_ok, opt_some, tst_bl, Lit.d, isInt, isBl, List.getElem?_cons_zero, List.getElem?_cons_succ, cmpD, toOut, bindA, bindT, List.length_cons, List.length_nil, sq_nx, sq_rt, List.set_cons_zero, List.set_cons_succ, Nat.reduceAdd, Nat.reduceLT, if_true, if_false, Bool.false_eq_true, at4_0, at4_1, at4_2, at4_3, bin_add, bin_sub, fd_idx hk, bin_mod hm, bin_fdiv ⟨hm, hg⟩, fd_set2 hk]
    exact ⟨_, a, _, c, rfl, ha, Int.emod_nonneg _ m0, Int.emod_lt_of_pos _ hm⟩
  · simp only [hb, decide_false, execs_cons, execs_nil, exec, ev, evs, bd_ok', st_ok, opt_some, tst_bl, Lit.d, isInt, isBl, List.getElem?_cons_zero, List.getElem?_cons_succ, cmpD, toOut, bindA, bindT, List.length_cons, List.length_nil, sq_nx, sq_rt, List.set_cons_zero, List.set_cons_succ, Nat.reduceAdd, Nat.reduceLT, if_true, if_false, Bool.false_eq_true, at4_0, at4_1, at4_2, at4_3, bin_add, bin_sub, fd_idx hk, bin_mod hm, mulr (show -(2 ^ 64) < (52391 : Int) ∧ (52391 : Int) < 2 ^ 64 by decide), bin_mod (show (0 : Int) < 2147483587 by decide), bin_fdiv (show (0 : Int) < 5 ∧ (5 : Int).natAbs.log2 < 8000 by decide)]
    exact ⟨c * 52391 % 2147483587 / 5 % many, a, b, c, by rw [set_same hk], ha, Int.emod_nonneg _ m0, Int.emod_lt_of_pos _ hm⟩
theorem drawA (n bs : Nat) (S : Store) (k : Nat) (xs : List Int) (a b c many : Int) (hk : S[k]? = some (feedC xs a b c)) (ha : 0 ≤ a) :
    ∃ a' b' c' w2, exec (cxP tb.P n bs) (f_law_draw.body.headD default) [some (.h k), some (.t (.int many)), none, none] S = .nx [some (.h k), some (.t (.int many)), w2, none] (S.set k (feedC xs a' b' c')) ∧ 0 ≤ a' := by
  simp only [f_law_draw, List.headD, execs_cons, execs_nil, exec, ev, evs, bd_ok', st_ok, opt_some, tst_bl, Lit.d, isInt, isBl, List.getElem?_cons_zero, List.getElem?_cons_succ, cmpD, toOut, bindA, bindT, List.length_cons, List.length_nil, sq_nx, sq_rt, List.set_cons_zero, List.set_cons_succ, Nat.reduceAdd, Nat.reduceLT, if_true, if_false, Bool.false_eq_true, at4_0, at4_1, at4_2, at4_3, bin_add, bin_sub, fd_idx hk]
  by_cases hb : b < 2
  case neg =>
    simp only [hb, decide_false, execs_cons, execs_nil, exec, ev, evs, bd_ok', st_ok, opt_some, tst_bl, Lit.d, isInt, isBl, List.getElem?_cons_zero, List.getElem?_cons_succ, cmpD, toOut, bindA, bindT, List.length_cons, List.length_nil, sq_nx, sq_rt, List.set_cons_zero, List.set_cons_succ, Nat.reduceAdd, Nat.reduceLT, if_true, if_false, Bool.false_eq_true, at4_0, at4_1, at4_2, at4_3, bin_add, bin_sub]
    exact ⟨a, b, c, none, by rw [set_same hk], ha⟩
  simp only [hb, decide_true, execs_cons, execs_nil, exec, ev, evs, bd_ok', st_ok, opt_some, tst_bl, Lit.d, isInt, isBl, List.getElem?_cons_zero, List.getElem?_cons_succ, cmpD, toOut, bindA, bindT, List.length_cons, List.length_nil, sq_nx, sq_rt, List.set_cons_zero, List.set_cons_succ, Nat.reduceAdd, Nat.reduceLT, if_true, if_false, Bool.false_eq_true, at4_0, at4_1, at4_2, at4_3, bin_add, bin_sub, fd_idx hk, Bool.true_eq_false, len_lst, List.length_map]
  have hk1 := set_self (c' := feedC xs (a + 1) b c) hk
  have fin : ∀ v : Int, ∃ a' b' c' w2, ((Out.nx [some (.h k), some (.t (.int many)), some (.t (.int v)), none] S).sq (execs (cxP tb.P n bs) ((match f_law_draw.body with | .ifS _ t _ _ :: _ => t | _ => []).drop 2))) = .nx [some (.h k), some (.t (.int many)), w2, none] (S.set k (feedC xs a' b' c')) ∧ 0 ≤ a' := fun v => by
    simp only [f_law_draw, List.drop, execs_cons, execs_nil, exec, ev, evs, bd_ok', st_ok, opt_some, tst_bl, Lit.d, isInt, isBl, List.getElem?_cons_zero, List.getElem?_cons_succ, cmpD, toOut, bindA, bindT, List.length_cons, List.length_nil, sq_nx, sq_rt, List.set_cons_zero, List.set_cons_succ, Nat.reduceAdd, Nat.reduceLT, if_true, if_false, Bool.false_eq_true, at4_0, at4_1, at4_2, at4_3, bin_add, bin_sub, fd_idx hk, fd_set1 hk]
    simp only [execs_cons, execs_nil, exec, ev, evs, bd_ok', st_ok, opt_some, tst_bl, Lit.d, isInt, isBl, List.getElem?_cons_zero, List.getElem?_cons_succ, cmpD, toOut, bindA, bindT, List.length_cons, List.length_nil, sq_nx, sq_rt, List.set_cons_zero, List.set_cons_succ, Nat.reduceAdd, Nat.reduceLT, if_true, if_false, Bool.false_eq_true, at4_0, at4_1, at4_2, at4_3, bin_add, bin_sub, fd_idx hk1, mulr (show -(2 ^ 64) < (104651 : Int) ∧ (104651 : Int) < 2 ^ 64 by decide), mull (show -(2 ^ 64) < (31 : Int) ∧ (31 : Int) < 2 ^ 64 by decide), bin_mod (show (0 : Int) < 1000000007 by decide), bin_mod (show (0 : Int) < 2147483629 by decide), fd_set3 hk1, List.set_set]
    have hk2 := set_self (c' := feedC xs (a + 1) b ((c * 104651 + v % 1000000007 + 31 * (a + 1)) % 2147483629)) hk
    simp only [execs_cons, execs_nil, exec, ev, evs, bd_ok', st_ok, opt_some, tst_bl, Lit.d, isInt, isBl, List.getElem?_cons_zero, List.getElem?_cons_succ, cmpD, toOut, bindA, bindT, List.length_cons, List.length_nil, sq_nx, sq_rt, List.set_cons_zero, List.set_cons_succ, Nat.reduceAdd, Nat.reduceLT, if_true, if_false, Bool.false_eq_true, at4_0, at4_1, at4_2, at4_3, bin_add, bin_sub, fd_idx hk2, pow18]
    by_cases hv : 1000000000000000000 ≤ v
    · simp only [hv, decide_true, execs_cons, execs_nil, exec, ev, evs, bd_ok', st_ok, opt_some, tst_bl, Lit.d, isInt, isBl, List.getElem?_cons_zero, List.getElem?_cons_succ, cmpD, toOut, bindA, bindT, List.length_cons, List.length_nil, sq_nx, sq_rt, List.set_cons_zero, List.set_cons_succ, Nat.reduceAdd, Nat.reduceLT, if_true, if_false, Bool.false_eq_true, at4_0, at4_1, at4_2, at4_3, bin_add, bin_sub, fd_set2 hk2, List.set_set]
      exact ⟨a + 1, v, (c * 104651 + v % 1000000007 + 31 * (a + 1)) % 2147483629, _, rfl, by omega⟩
    · simp only [hv, decide_false, execs_cons, execs_nil, exec, ev, evs, bd_ok', st_ok, opt_some, tst_bl, Lit.d, isInt, isBl, List.getElem?_cons_zero, List.getElem?_cons_succ, cmpD, toOut, bindA, bindT, List.length_cons, List.length_nil, sq_nx, sq_rt, List.set_cons_zero, List.set_cons_succ, Nat.reduceAdd, Nat.reduceLT, if_true, if_false, Bool.false_eq_true, at4_0, at4_1, at4_2, at4_3, bin_add, bin_sub]
      exact ⟨a + 1, b, (c * 104651 + v % 1000000007 + 31 * (a + 1)) % 2147483629, _, rfl, by omega⟩
  by_cases hl : a < xs.length
  · have ea : L2.atI ((xs.map Dt.int).map Wd.t) a = some (.t (.int (xs[a.toNat]'(by omega)))) := by
      rw [atI_nat ha (by simpa using hl)]
      simp
    simp only [hl, decide_true, execs_cons, execs_nil, exec, ev, evs, bd_ok', st_ok, opt_some, tst_bl, Lit.d, isInt, isBl, List.getElem?_cons_zero, List.getElem?_cons_succ, cmpD, toOut, bindA, bindT, List.length_cons, List.length_nil, sq_nx, sq_rt, List.set_cons_zero, List.set_cons_succ, Nat.reduceAdd, Nat.reduceLT, if_true, if_false, Bool.false_eq_true, at4_0, at4_1, at4_2, at4_3, bin_add, bin_sub, idx_lst, ea]
    exact fin _
  · simp only [hl, decide_false, if_false, Bool.false_eq_true]
    exact fin 17
theorem draw (n : Nat) (S : Store) (k : Nat) (xs : List Int) (a b c many : Int) (hk : S[k]? = some (feedC xs a b c)) (ha : 0 ≤ a) (hm : 0 < many) (hg : many.natAbs.log2 < 8000) :
    ∃ r a' b' c', evF tb.P (n + 1) "_law_draw" false [.h k, .t (.int many)] S = .ok (.t (.int r)) (S.set k (feedC xs a' b' c')) ∧ 0 ≤ a' ∧ 0 ≤ r ∧ r < many := by
  rw [evF_call (F := f_law_draw) rfl rfl]
  obtain ⟨a1, b1, c1, w2, e1, h1⟩ := drawA n S.length S k xs a b c many hk ha
  obtain ⟨r, a', b', c', e2, h2, h3, h4⟩ := draw2 n S.length (S.set k (feedC xs a1 b1 c1)) k xs a1 b1 c1 many w2 (set_self hk) h1 hm hg
  refine ⟨r, a', b', c', ?_, h2, h3, h4⟩
  show finO false S (execs (cxP tb.P n S.length) (f_law_draw.body.headD default :: f_law_draw.body.drop 1) [some (.h k), some (.t (.int many)), none, none] S) = _
  rw [execs_cons, e1, sq_nx, e2, List.set_set]
  show Res.ok _ ((S.set k _).take S.length) = _
  rw [set_take]
end K01

namespace K01
open Gw
theorem eqD_int {S : Store} {i j : Int} : eqD S (.t (.int i)) (.t (.int j)) = some (i == j) := by
  simp [eqD, rd, pln, pd, PySem.SeqAt.shaped, PySem.PyData.eqv]
  exact ⟨rfl, rfl, rfl, rfl⟩
theorem eqD_bl {S : Store} {i j : Bool} : eqD S (.t (.bl i)) (.t (.bl j)) = some (i == j) := by cases i <;> cases j <;> rfl
theorem eqD_str {S : Store} {i j : PySem.Str} (hi : PySem.PyData.strOk i = true) (hj : PySem.PyData.strOk j = true) : eqD S (.t (.str i)) (.t (.str j)) = some (i == j) := by
  simp [eqD, rd, pln, pd, PySem.SeqAt.shaped, PySem.PyData.eqv, PySem.PyData.canLay0, PySem.PyData.depth, hi, hj]
theorem c_same {n : Nat} : callOf tb.P n "_law_same" = some (evF tb.P n "_law_same") := rfl
theorem c_whole {n : Nat} : callOf tb.P n "_law_whole" = some (evF tb.P n "_law_whole") := rfl
theorem whole {n : Nat} {S : Store} {i : Int} : evF tb.P (n + 1) "_law_whole" false [.t (.int i)] S = .ok (.t (.bl true)) S :=
  call_rt (F := f_law_whole) rfl rfl rfl (S' := S) (by rfl) List.take_length
mutual
def hgt : Dt → Nat
  | .lst ds => hgts ds + 1
  | .tup ds => hgts ds + 1
  | _ => 0
def hgts : List Dt → Nat
  | [] => 0
  | d :: r => max (hgt d) (hgts r)
end
mutual
/-- plain, and of no great lists -/
def smallD : Dt → Bool
  | .lst ds => decide (ds.length ≤ 1000) && smallDs ds
  | .tup ds => decide (ds.length ≤ 1000) && smallDs ds
  | .dic _ _ => false
  | _ => true
def smallDs : List Dt → Bool
  | [] => true
  | d :: r => smallD d && smallDs r
end
theorem hgt_mem : ∀ {ds : List Dt} {d : Dt}, d ∈ ds → hgt d ≤ hgts ds
  | e :: r, d, h => by
    unfold hgts
    rcases List.mem_cons.mp h with h | h
    · subst h; exact Nat.le_max_left _ _
    · exact Nat.le_trans (hgt_mem h) (Nat.le_max_right _ _)
theorem small_mem : ∀ {ds : List Dt} {d : Dt}, smallDs ds = true → d ∈ ds → smallD d = true
  | e :: r, d, s, h => by
    unfold smallDs at s
    obtain ⟨s1, s2⟩ := Bool.and_eq_true_iff.mp s
    rcases List.mem_cons.mp h with h | h
    · subst h; exact s1
    · exact small_mem s2 h
theorem keeps_t {S : Store} : ∀ ds : List Dt, keeps S (ds.map .t) = .ok ds S
  | [] => rfl
  | d :: r => by
    show (keep S (.t d)).bd _ = _
    rw [keep_t, bd_ok', keeps_t r]; rfl
theorem mkL_t {S : Store} {ds : List Dt} : mkL false (ds.map .t) S = .ok (.t (.lst ds)) S := by
  show (keeps S (ds.map .t)).bd _ = _
  rw [keeps_t]; rfl
theorem rng0 {n : Nat} (h : n ≤ 16777216) : rngL 0 (n : Int) = some ((List.range n).map fun i => Wd.t (.int (i : Nat))) := by
  unfold rngL lineN
  rw [if_pos (by omega)]
  simp
theorem comp_map {f : Wd → Store → Res (Option Wd)} {S : Store} {g : Nat → Dt} : ∀ (l : List Nat), (∀ i ∈ l, f (.t (.int (i : Nat))) S = .ok (some (.t (g i))) S) → compGo f (l.map fun i => Wd.t (.int (i : Nat))) S = .ok ((l.map g).map .t) S
  | [], _ => rfl
  | i :: r, h => by
    show compGo f (_ :: _) S = _
    unfold compGo
    rw [h i List.mem_cons_self]
    dsimp only
    have := comp_map r fun j hj => h j (List.mem_cons_of_mem _ hj)
    rw [this]
    rfl
theorem items_lst {S : Store} {ds : List Dt} : itemsF S (.t (.lst ds)) = some ds := by
  show mapO (rdF S) (ds.map Wd.t) = some ds
  induction ds with
  | nil => rfl
  | cons d r ih =>
    rw [List.map_cons]
    unfold mapO
    rw [ih]; rfl
theorem bls_rep (n : Nat) : blsD ((List.range n).map fun _ => Dt.bl true) = some (List.replicate n true) := by
  have : ∀ l : List Nat, blsD (l.map fun _ => Dt.bl true) = some (List.replicate l.length true) := fun l => by
    induction l with
    | nil => rfl
    | cons i r ih =>
      rw [List.map_cons]
      unfold blsD
      rw [ih]; rfl
  have q := this (List.range n)
  rw [List.length_range] at q
  exact q
theorem all_true {S : Store} {m : Bool} (n : Nat) : b1D .all m (.t (.lst ((List.range n).map fun _ => Dt.bl true))) S = .ok (.t (.bl true)) S := by
  unfold b1D
  dsimp only
  simp only [items_lst, Option.bind, bls_rep]
  simp
theorem isN_t {S : Store} {d : Dt} : isNon S (.t d) = some (isNonD d) := rfl
theorem isi_t {S : Store} {d : Dt} {ty : Ty} : isiD S (.t d) ty = isiB ty d := rfl
theorem evI_rng' {C : Cxt} {ρ : Env} {S S1 : Store} {q p : PySem.Pos} {a : Ex} {n : Int} {L : List Wd} (ha : ev C a ρ S = .ok (.t (.int n)) S1) (h : rngL 0 n = some L) : evI C (.rng1 q a p) ρ S = .ok (L, none) S1 := by
  unfold evI
  rw [ha, bd_ok']
  show ((opt S1 (rngL 0 n)).bd _) = _
  rw [h]; rfl
theorem evI_rng {C : Cxt} {ρ : Env} {S S1 : Store} {q p : PySem.Pos} {a : Ex} {n : Nat} (ha : ev C a ρ S = .ok (.t (.int (n : Nat))) S1) (h : n ≤ 16777216) : evI C (.rng1 q a p) ρ S = .ok ((List.range n).map (fun i => Wd.t (.int (i : Nat))), none) S1 := evI_rng' ha (rng0 h)
/-- a comprehension over a range: values without change of the store -/
theorem lc_rng {C : Cxt} {ρ : Env} {S S1 : Store} {q p p2 : PySem.Pos} {a elt : Ex} {t : Tg} {sc : PySem.Scope} {own : List (PySem.Str × Nat)} {n : Nat} {g : Nat → Dt} (hc : C.calm = true) (ha : ev C a ρ S = .ok (.t (.int (n : Nat))) S1) (h : n ≤ 16777216)
    (he : ∀ i, i < n → ∃ ρ', bindT S1 t (.t (.int (i : Nat))) (wipeE ρ (own.map (·.2))) = some ρ' ∧ ev C elt ρ' S1 = .ok (.t (g i)) S1) : ev C (.lc false elt t (.rng1 q a p) none sc own p2) ρ S = .ok (.t (.lst ((List.range n).map g))) S1 := by
  unfold ev
  rw [if_neg (by rw [hc]; decide), evI_rng ha h, bd_ok']
  dsimp only
  rw [if_pos (by rw [List.length_map, List.length_range]; exact h)]
  have e : lockO S1 none = (S1, none) := rfl
  rw [e]
  dsimp only
  rw [comp_map (g := g)]
  · dsimp only [unlockC]
    rw [mkL_t]
  · intro i hi
    obtain ⟨ρ', h1, h2⟩ := he i (List.mem_range.mp hi)
    rw [h1]
    dsimp only
    unfold evC
    rw [bd_ok', if_pos rfl, h2]
    rfl
theorem same_int (n : Nat) (S : Store) (i : Int) : evF tb.P (n + 2) "_law_same" false [.t (.int i), .t (.int i)] S = .ok (.t (.bl true)) S := by
  refine call_rt (F := f_law_same) rfl rfl (ρ0 := [some (.t (.int i)), some (.t (.int i)), none]) rfl (S' := S) ?_ List.take_length
  simp only [f_law_same, execs_cons, execs_nil, exec, ev, evs, bd_ok', st_ok, opt_some, tst_bl, Lit.d, isInt, isBl, List.getElem?_cons_zero, List.getElem?_cons_succ, cmpD, toOut, bindA, bindT, List.length_cons, List.length_nil, sq_nx, sq_rt, List.set_cons_zero, List.set_cons_succ, Nat.reduceAdd, Nat.reduceLT, if_true, if_false, Bool.false_eq_true, bin_add, bin_sub, isN_t, isi_t, isiB, isNonD, evB, beq_self_eq_true, Bool.xor_true, Bool.not_true, Bool.not_false, Bool.false_xor, Bool.true_xor, c_whole, whole, eqD_int]
theorem same_str (n : Nat) (S : Store) (i : PySem.Str) (hi : PySem.PyData.strOk i = true) : evF tb.P (n + 2) "_law_same" false [.t (.str i), .t (.str i)] S = .ok (.t (.bl true)) S := by
  refine call_rt (F := f_law_same) rfl rfl (ρ0 := [some (.t (.str i)), some (.t (.str i)), none]) rfl (S' := S) ?_ List.take_length
  simp only [f_law_same, execs_cons, execs_nil, exec, ev, evs, bd_ok', st_ok, opt_some, tst_bl, Lit.d, isInt, isBl, List.getElem?_cons_zero, List.getElem?_cons_succ, cmpD, toOut, bindA, bindT, List.length_cons, List.length_nil, sq_nx, sq_rt, List.set_cons_zero, List.set_cons_succ, Nat.reduceAdd, Nat.reduceLT, if_true, if_false, Bool.false_eq_true, bin_add, bin_sub, isN_t, isi_t, isiB, isNonD, evB, beq_self_eq_true, Bool.xor_true, Bool.not_true, Bool.not_false, Bool.false_xor, Bool.true_xor, eqD_str hi hi]
theorem execs_append {C : Cxt} {ρ : Env} {S : Store} : ∀ {a b : List St}, execs C (a ++ b) ρ S = (execs C a ρ S).sq (execs C b) := fun {a b} => by
  induction a generalizing ρ S with
  | nil => rw [List.nil_append, execs_nil, sq_nx]
  | cons x r ih =>
    rw [List.cons_append, execs_cons, execs_cons]
    cases exec C x ρ S with
    | nx ρ' S' => rw [sq_nx, sq_nx]; exact ih
    | _ => rfl
theorem same_lst (n : Nat) (S : Store) (ds : List Dt) (hl : ds.length ≤ 1000) (h : ∀ d ∈ ds, evF tb.P (n + 2) "_law_same" false [.t d, .t d] S = .ok (.t (.bl true)) S) : evF tb.P (n + 3) "_law_same" false [.t (.lst ds), .t (.lst ds)] S = .ok (.t (.bl true)) S := by
  refine call_rt (F := f_law_same) rfl rfl (ρ0 := [some (.t (.lst ds)), some (.t (.lst ds)), none]) rfl (S' := S) ?_ List.take_length
  have key : ∀ C : Cxt, C.calm = true → C.call "_law_same" = some (evF tb.P (n + 2) "_law_same") → execs C (f_law_same.body.drop 6) [some (.t (.lst ds)), some (.t (.lst ds)), none] S = .rt (.t (.bl true)) S := fun C hc hcall => by
    simp only [f_law_same, List.drop]
    rw [execs_cons]
    unfold exec
    unfold ev
    rw [if_neg (by rw [hc]; decide), lc_rng (n := ds.length) (g := fun _ => Dt.bl true) (S1 := S) hc]
    · rw [bd_ok', all_true]; rfl
    · simp only [execs_cons, execs_nil, exec, ev, evs, bd_ok', st_ok, opt_some, tst_bl, Lit.d, isInt, isBl, List.getElem?_cons_zero, List.getElem?_cons_succ, cmpD, toOut, bindA, bindT, List.length_cons, List.length_nil, sq_nx, sq_rt, List.set_cons_zero, List.set_cons_succ, Nat.reduceAdd, Nat.reduceLT, if_true, if_false, Bool.false_eq_true, bin_add, bin_sub, isN_t, isi_t, isiB, isNonD, evB, beq_self_eq_true, Bool.xor_true, Bool.not_true, Bool.not_false, Bool.false_xor, Bool.true_xor, hc, len_lst, Bool.true_eq_false]
    · omega
    · intro i hi
      refine ⟨_, rfl, ?_⟩
      have e : L2.atI (ds.map Wd.t) (i : Int) = some (.t ds[i]) := by
        rw [atI_nat (by omega) (by simpa using hi)]
        simp [hi]
      simp only [execs_cons, execs_nil, exec, ev, evs, bd_ok', st_ok, opt_some, tst_bl, Lit.d, isInt, isBl, List.getElem?_cons_zero, List.getElem?_cons_succ, cmpD, toOut, bindA, bindT, List.length_cons, List.length_nil, sq_nx, sq_rt, List.set_cons_zero, List.set_cons_succ, Nat.reduceAdd, Nat.reduceLT, if_true, if_false, Bool.false_eq_true, bin_add, bin_sub, isN_t, isi_t, isiB, isNonD, evB, beq_self_eq_true, Bool.xor_true, Bool.not_true, Bool.not_false, Bool.false_xor, Bool.true_xor, hcall, wipeE, List.map_cons, List.map_nil, idx_lst, e, h _ (List.getElem_mem hi)]
  have pre : ∀ C : Cxt, C.calm = true → execs C (f_law_same.body.take 6) [some (.t (.lst ds)), some (.t (.lst ds)), none] S = .nx [some (.t (.lst ds)), some (.t (.lst ds)), none] S := fun C hc => by
    simp only [f_law_same, List.take, execs_cons, execs_nil, exec, ev, evs, bd_ok', st_ok, opt_some, tst_bl, Lit.d, isInt, isBl, List.getElem?_cons_zero, List.getElem?_cons_succ, cmpD, toOut, bindA, bindT, List.length_cons, List.length_nil, sq_nx, sq_rt, List.set_cons_zero, List.set_cons_succ, Nat.reduceAdd, Nat.reduceLT, if_true, if_false, Bool.false_eq_true, bin_add, bin_sub, isN_t, isi_t, isiB, isNonD, evB, beq_self_eq_true, Bool.xor_true, Bool.not_true, Bool.not_false, Bool.false_xor, Bool.true_xor, eqD_bl, eqD_int, len_lst, hc, Bool.true_eq_false]
  rw [← List.take_append_drop 6 f_law_same.body, execs_append, pre _ rfl, sq_nx]
  exact key _ rfl rfl
theorem same_tup (n : Nat) (S : Store) (ds : List Dt) (hl : ds.length ≤ 1000) (h : ∀ d ∈ ds, evF tb.P (n + 2) "_law_same" false [.t d, .t d] S = .ok (.t (.bl true)) S) : evF tb.P (n + 3) "_law_same" false [.t (.tup ds), .t (.tup ds)] S = .ok (.t (.bl true)) S := by
  refine call_rt (F := f_law_same) rfl rfl (ρ0 := [some (.t (.tup ds)), some (.t (.tup ds)), none]) rfl (S' := S) ?_ List.take_length
  have key : ∀ C : Cxt, C.calm = true → C.call "_law_same" = some (evF tb.P (n + 2) "_law_same") → execs C (f_law_same.body.drop 6) [some (.t (.tup ds)), some (.t (.tup ds)), none] S = .rt (.t (.bl true)) S := fun C hc hcall => by
    simp only [f_law_same, List.drop]
    rw [execs_cons]
    unfold exec
    unfold ev
    rw [if_neg (by rw [hc]; decide), lc_rng (n := ds.length) (g := fun _ => Dt.bl true) (S1 := S) hc]
    · rw [bd_ok', all_true]; rfl
    · simp only [execs_cons, execs_nil, exec, ev, evs, bd_ok', st_ok, opt_some, tst_bl, Lit.d, isInt, isBl, List.getElem?_cons_zero, List.getElem?_cons_succ, cmpD, toOut, bindA, bindT, List.length_cons, List.length_nil, sq_nx, sq_rt, List.set_cons_zero, List.set_cons_succ, Nat.reduceAdd, Nat.reduceLT, if_true, if_false, Bool.false_eq_true, bin_add, bin_sub, isN_t, isi_t, isiB, isNonD, evB, beq_self_eq_true, Bool.xor_true, Bool.not_true, Bool.not_false, Bool.false_xor, Bool.true_xor, hc, len_tup, Bool.true_eq_false]
    · omega
    · intro i hi
      refine ⟨_, rfl, ?_⟩
      have e : L2.atI (ds.map Wd.t) (i : Int) = some (.t ds[i]) := by
        rw [atI_nat (by omega) (by simpa using hi)]
        simp [hi]
      simp only [execs_cons, execs_nil, exec, ev, evs, bd_ok', st_ok, opt_some, tst_bl, Lit.d, isInt, isBl, List.getElem?_cons_zero, List.getElem?_cons_succ, cmpD, toOut, bindA, bindT, List.length_cons, List.length_nil, sq_nx, sq_rt, List.set_cons_zero, List.set_cons_succ, Nat.reduceAdd, Nat.reduceLT, if_true, if_false, Bool.false_eq_true, bin_add, bin_sub, isN_t, isi_t, isiB, isNonD, evB, beq_self_eq_true, Bool.xor_true, Bool.not_true, Bool.not_false, Bool.false_xor, Bool.true_xor, hcall, wipeE, List.map_cons, List.map_nil, idx_tup, e, h _ (List.getElem_mem hi)]
  have pre : ∀ C : Cxt, C.calm = true → execs C (f_law_same.body.take 6) [some (.t (.tup ds)), some (.t (.tup ds)), none] S = .nx [some (.t (.tup ds)), some (.t (.tup ds)), none] S := fun C hc => by
    simp only [f_law_same, List.take, execs_cons, execs_nil, exec, ev, evs, bd_ok', st_ok, opt_some, tst_bl, Lit.d, isInt, isBl, List.getElem?_cons_zero, List.getElem?_cons_succ, cmpD, toOut, bindA, bindT, List.length_cons, List.length_nil, sq_nx, sq_rt, List.set_cons_zero, List.set_cons_succ, Nat.reduceAdd, Nat.reduceLT, if_true, if_false, Bool.false_eq_true, bin_add, bin_sub, isN_t, isi_t, isiB, isNonD, evB, beq_self_eq_true, Bool.xor_true, Bool.not_true, Bool.not_false, Bool.false_xor, Bool.true_xor, eqD_bl, eqD_int, len_tup, hc, Bool.true_eq_false]
  rw [← List.take_append_drop 6 f_law_same.body, execs_append, pre _ rfl, sq_nx]
  exact key _ rfl rfl
mutual
/-- plain, of no great lists, of valid texts -/
def niceD : Dt → Bool
  | .lst ds => decide (ds.length ≤ 1000) && niceDs ds
  | .tup ds => decide (ds.length ≤ 1000) && niceDs ds
  | .dic _ _ => false
  | .str x => PySem.PyData.strOk x
  | _ => true
def niceDs : List Dt → Bool
  | [] => true
  | d :: r => niceD d && niceDs r
end
/- THE LAW'S OWN ==: of a thing with itself -/
mutual
theorem same_refl : ∀ (d : Dt) (n : Nat) (S : Store), hgt d ≤ n → niceD d = true → evF tb.P (n + 2) "_law_same" false [.t d, .t d] S = .ok (.t (.bl true)) S
  | .non, n, S, _, _ => call_rt (F := f_law_same) rfl rfl (ρ0 := [some (.t .non), some (.t .non), none]) rfl (S' := S) (by rfl) List.take_length
  | .bl true, n, S, _, _ => call_rt (F := f_law_same) rfl rfl (ρ0 := [some (.t (.bl true)), some (.t (.bl true)), none]) rfl (S' := S) (by rfl) List.take_length
  | .bl false, n, S, _, _ => call_rt (F := f_law_same) rfl rfl (ρ0 := [some (.t (.bl false)), some (.t (.bl false)), none]) rfl (S' := S) (by rfl) List.take_length
  | .int i, n, S, _, _ => same_int n S i
  | .str x, n, S, _, h => same_str n S x (by unfold niceD at h; exact h)
  | .lst ds, n, S, hn, h => by
    unfold hgt at hn
    unfold niceD at h
    obtain ⟨h1, h2⟩ := Bool.and_eq_true_iff.mp h
    obtain ⟨n, rfl⟩ : ∃ n', n = n' + 1 := ⟨n - 1, by omega⟩
    exact same_lst n S ds (of_decide_eq_true h1) (same_all ds n S (by omega) h2)
  | .tup ds, n, S, hn, h => by
    unfold hgt at hn
    unfold niceD at h
    obtain ⟨h1, h2⟩ := Bool.and_eq_true_iff.mp h
    obtain ⟨n, rfl⟩ : ∃ n', n = n' + 1 := ⟨n - 1, by omega⟩
    exact same_tup n S ds (of_decide_eq_true h1) (same_all ds n S (by omega) h2)
  | .dic _ _, n, S, _, h => by unfold niceD at h; cases h
theorem same_all : ∀ (ds : List Dt) (n : Nat) (S : Store), hgts ds ≤ n → niceDs ds = true → ∀ d ∈ ds, evF tb.P (n + 2) "_law_same" false [.t d, .t d] S = .ok (.t (.bl true)) S
  | [], n, S, _, _, d, hd => by cases hd
  | e :: r, n, S, hn, h, d, hd => by
    unfold hgts at hn
    unfold niceDs at h
    obtain ⟨h1, h2⟩ := Bool.and_eq_true_iff.mp h
    have a := same_refl e n S (by omega) h1
    have b := same_all r n S (by omega) h2
    rcases List.mem_cons.mp hd with z | z
    · rw [z]; exact a
    · exact b d z
end
end K01

namespace K01
open Gw
def loopS : St := f_law.body.getD 5 (.pass ⟨0, 0, 0, 0⟩)
def loopB : List St := match loopS with | .forS _ _ b _ => b | _ => []
def B (i : Nat) : St := loopB.getD i (.pass ⟨0, 0, 0, 0⟩)
def innerB : List St := match B 2 with | .forS _ _ b _ => b | _ => []
def Cs (i : Nat) : St := innerB.getD i (.pass ⟨0, 0, 0, 0⟩)
theorem stay (c : Cl) : evF tb.P 39 "_law_lists_stay" false [] [c] = .ok (.t (.bl true)) [c] := by kernel_rfl
/-- the slots within the loop -/
def slots (s cell far small k w one many : Option Wd) : Env := [s, some (.h 0), cell, far, small, w, one, many, k]
/-- if not same(a, b): return False -/
theorem guard_same {C : Cxt} {ρ : Env} {S : Store} {q p p2 p3 : PySem.Pos} {a b : Ex} {t : List St} {d : Dt} {n : Nat} (hc : C.call "_law_same" = some (evF tb.P (n + 2) "_law_same")) (ha : ev C a ρ S = .ok (.t d) S) (hb : ev C b ρ S = .ok (.t d) S) (h1 : Nat.ble (hgt d) n = true) (h2 : niceD d = true) :
    exec C (.ifS (.not (.call "_law_same" false q [a, b] p) p2) t [] p3) ρ S = .nx ρ S := by
  have e : ev C (.not (.call "_law_same" false q [a, b] p) p2) ρ S = .ok (.t (.bl false)) S := by
    unfold ev; unfold ev
    rw [hc]
    simp only [evs, ha, hb, bd_ok', same_refl d n S (Nat.le_of_ble_eq_true h1) h2]
    rfl
  unfold exec
  rw [e, tst_bl, st_ok]
  unfold execs
  rfl
theorem b0_0 (c : Cl) (s cell far small k one many : Option Wd) : exec (cxP tb.P 39 0) (B 0) (slots s cell far small k (some (.t (.str "east"))) one many) [c] = .nx (slots s cell far small k (some (.t (.str "east"))) one many) [c] := by kernel_rfl
theorem b1_0 (c : Cl) (s cell far small k one many : Option Wd) : exec (cxP tb.P 39 0) (B 1) (slots s cell far small k (some (.t (.str "east"))) one many) [c] = .nx (slots s cell far small k (some (.t (.str "east"))) one many) [c] := by kernel_rfl
theorem c0_0 (c : Cl) (s cell far small k : Option Wd) (x y z m : Int) : exec (cxP tb.P 39 0) (Cs 0) (slots s cell far small k (some (.t (.str "east"))) (some (.t (.tup [.int x, .int y, .int z]))) (some (.t (.int m)))) [c] = .nx (slots s cell far small k (some (.t (.str "east"))) (some (.t (.tup [.int x, .int y, .int z]))) (some (.t (.int m)))) [c] :=
  guard_same (n := 37) (d := .tup [.int (x + m * 1), .int y, .int z]) rfl (by kernel_rfl) (by kernel_rfl) rfl rfl
theorem c1_0 (c : Cl) (s cell far small k : Option Wd) (x y z m : Int) : exec (cxP tb.P 39 0) (Cs 1) (slots s cell far small k (some (.t (.str "east"))) (some (.t (.tup [.int x, .int y, .int z]))) (some (.t (.int m)))) [c] = .nx (slots s cell far small k (some (.t (.str "east"))) (some (.t (.tup [.int x, .int y, .int z]))) (some (.t (.int m)))) [c] :=
  guard_same (n := 37) (d := .lst [.int (x * 1), .tup [.int y, .int z]]) rfl (by kernel_rfl) (by kernel_rfl) rfl rfl
theorem b0_1 (c : Cl) (s cell far small k one many : Option Wd) : exec (cxP tb.P 39 0) (B 0) (slots s cell far small k (some (.t (.str "west"))) one many) [c] = .nx (slots s cell far small k (some (.t (.str "west"))) one many) [c] := by kernel_rfl
theorem b1_1 (c : Cl) (s cell far small k one many : Option Wd) : exec (cxP tb.P 39 0) (B 1) (slots s cell far small k (some (.t (.str "west"))) one many) [c] = .nx (slots s cell far small k (some (.t (.str "west"))) one many) [c] := by kernel_rfl
theorem c0_1 (c : Cl) (s cell far small k : Option Wd) (x y z m : Int) : exec (cxP tb.P 39 0) (Cs 0) (slots s cell far small k (some (.t (.str "west"))) (some (.t (.tup [.int x, .int y, .int z]))) (some (.t (.int m)))) [c] = .nx (slots s cell far small k (some (.t (.str "west"))) (some (.t (.tup [.int x, .int y, .int z]))) (some (.t (.int m)))) [c] :=
  guard_same (n := 37) (d := .tup [.int (x + m * (-1)), .int y, .int z]) rfl (by kernel_rfl) (by kernel_rfl) rfl rfl
theorem c1_1 (c : Cl) (s cell far small k : Option Wd) (x y z m : Int) : exec (cxP tb.P 39 0) (Cs 1) (slots s cell far small k (some (.t (.str "west"))) (some (.t (.tup [.int x, .int y, .int z]))) (some (.t (.int m)))) [c] = .nx (slots s cell far small k (some (.t (.str "west"))) (some (.t (.tup [.int x, .int y, .int z]))) (some (.t (.int m)))) [c] :=
  guard_same (n := 37) (d := .lst [.int (x * (-1)), .tup [.int y, .int z]]) rfl (by kernel_rfl) (by kernel_rfl) rfl rfl
theorem b0_2 (c : Cl) (s cell far small k one many : Option Wd) : exec (cxP tb.P 39 0) (B 0) (slots s cell far small k (some (.t (.str "north"))) one many) [c] = .nx (slots s cell far small k (some (.t (.str "north"))) one many) [c] := by kernel_rfl
theorem b1_2 (c : Cl) (s cell far small k one many : Option Wd) : exec (cxP tb.P 39 0) (B 1) (slots s cell far small k (some (.t (.str "north"))) one many) [c] = .nx (slots s cell far small k (some (.t (.str "north"))) one many) [c] := by kernel_rfl
theorem c0_2 (c : Cl) (s cell far small k : Option Wd) (x y z m : Int) : exec (cxP tb.P 39 0) (Cs 0) (slots s cell far small k (some (.t (.str "north"))) (some (.t (.tup [.int x, .int y, .int z]))) (some (.t (.int m)))) [c] = .nx (slots s cell far small k (some (.t (.str "north"))) (some (.t (.tup [.int x, .int y, .int z]))) (some (.t (.int m)))) [c] :=
  guard_same (n := 37) (d := .tup [.int x, .int (y + m * 1), .int z]) rfl (by kernel_rfl) (by kernel_rfl) rfl rfl
theorem c1_2 (c : Cl) (s cell far small k : Option Wd) (x y z m : Int) : exec (cxP tb.P 39 0) (Cs 1) (slots s cell far small k (some (.t (.str "north"))) (some (.t (.tup [.int x, .int y, .int z]))) (some (.t (.int m)))) [c] = .nx (slots s cell far small k (some (.t (.str "north"))) (some (.t (.tup [.int x, .int y, .int z]))) (some (.t (.int m)))) [c] :=
  guard_same (n := 37) (d := .lst [.int (y * 1), .tup [.int x, .int z]]) rfl (by kernel_rfl) (by kernel_rfl) rfl rfl
theorem b0_3 (c : Cl) (s cell far small k one many : Option Wd) : exec (cxP tb.P 39 0) (B 0) (slots s cell far small k (some (.t (.str "south"))) one many) [c] = .nx (slots s cell far small k (some (.t (.str "south"))) one many) [c] := by kernel_rfl
theorem b1_3 (c : Cl) (s cell far small k one many : Option Wd) : exec (cxP tb.P 39 0) (B 1) (slots s cell far small k (some (.t (.str "south"))) one many) [c] = .nx (slots s cell far small k (some (.t (.str "south"))) one many) [c] := by kernel_rfl
theorem c0_3 (c : Cl) (s cell far small k : Option Wd) (x y z m : Int) : exec (cxP tb.P 39 0) (Cs 0) (slots s cell far small k (some (.t (.str "south"))) (some (.t (.tup [.int x, .int y, .int z]))) (some (.t (.int m)))) [c] = .nx (slots s cell far small k (some (.t (.str "south"))) (some (.t (.tup [.int x, .int y, .int z]))) (some (.t (.int m)))) [c] :=
  guard_same (n := 37) (d := .tup [.int x, .int (y + m * (-1)), .int z]) rfl (by kernel_rfl) (by kernel_rfl) rfl rfl
theorem c1_3 (c : Cl) (s cell far small k : Option Wd) (x y z m : Int) : exec (cxP tb.P 39 0) (Cs 1) (slots s cell far small k (some (.t (.str "south"))) (some (.t (.tup [.int x, .int y, .int z]))) (some (.t (.int m)))) [c] = .nx (slots s cell far small k (some (.t (.str "south"))) (some (.t (.tup [.int x, .int y, .int z]))) (some (.t (.int m)))) [c] :=
  guard_same (n := 37) (d := .lst [.int (y * (-1)), .tup [.int x, .int z]]) rfl (by kernel_rfl) (by kernel_rfl) rfl rfl
theorem b0_4 (c : Cl) (s cell far small k one many : Option Wd) : exec (cxP tb.P 39 0) (B 0) (slots s cell far small k (some (.t (.str "up"))) one many) [c] = .nx (slots s cell far small k (some (.t (.str "up"))) one many) [c] := by kernel_rfl
theorem b1_4 (c : Cl) (s cell far small k one many : Option Wd) : exec (cxP tb.P 39 0) (B 1) (slots s cell far small k (some (.t (.str "up"))) one many) [c] = .nx (slots s cell far small k (some (.t (.str "up"))) one many) [c] := by kernel_rfl
theorem c0_4 (c : Cl) (s cell far small k : Option Wd) (x y z m : Int) : exec (cxP tb.P 39 0) (Cs 0) (slots s cell far small k (some (.t (.str "up"))) (some (.t (.tup [.int x, .int y, .int z]))) (some (.t (.int m)))) [c] = .nx (slots s cell far small k (some (.t (.str "up"))) (some (.t (.tup [.int x, .int y, .int z]))) (some (.t (.int m)))) [c] :=
  guard_same (n := 37) (d := .tup [.int x, .int y, .int (z + m * 1)]) rfl (by kernel_rfl) (by kernel_rfl) rfl rfl
theorem c1_4 (c : Cl) (s cell far small k : Option Wd) (x y z m : Int) : exec (cxP tb.P 39 0) (Cs 1) (slots s cell far small k (some (.t (.str "up"))) (some (.t (.tup [.int x, .int y, .int z]))) (some (.t (.int m)))) [c] = .nx (slots s cell far small k (some (.t (.str "up"))) (some (.t (.tup [.int x, .int y, .int z]))) (some (.t (.int m)))) [c] :=
  guard_same (n := 37) (d := .lst [.int (z * 1), .tup [.int x, .int y]]) rfl (by kernel_rfl) (by kernel_rfl) rfl rfl
theorem b0_5 (c : Cl) (s cell far small k one many : Option Wd) : exec (cxP tb.P 39 0) (B 0) (slots s cell far small k (some (.t (.str "down"))) one many) [c] = .nx (slots s cell far small k (some (.t (.str "down"))) one many) [c] := by kernel_rfl
theorem b1_5 (c : Cl) (s cell far small k one many : Option Wd) : exec (cxP tb.P 39 0) (B 1) (slots s cell far small k (some (.t (.str "down"))) one many) [c] = .nx (slots s cell far small k (some (.t (.str "down"))) one many) [c] := by kernel_rfl
theorem c0_5 (c : Cl) (s cell far small k : Option Wd) (x y z m : Int) : exec (cxP tb.P 39 0) (Cs 0) (slots s cell far small k (some (.t (.str "down"))) (some (.t (.tup [.int x, .int y, .int z]))) (some (.t (.int m)))) [c] = .nx (slots s cell far small k (some (.t (.str "down"))) (some (.t (.tup [.int x, .int y, .int z]))) (some (.t (.int m)))) [c] :=
  guard_same (n := 37) (d := .tup [.int x, .int y, .int (z + m * (-1))]) rfl (by kernel_rfl) (by kernel_rfl) rfl rfl
theorem c1_5 (c : Cl) (s cell far small k : Option Wd) (x y z m : Int) : exec (cxP tb.P 39 0) (Cs 1) (slots s cell far small k (some (.t (.str "down"))) (some (.t (.tup [.int x, .int y, .int z]))) (some (.t (.int m)))) [c] = .nx (slots s cell far small k (some (.t (.str "down"))) (some (.t (.tup [.int x, .int y, .int z]))) (some (.t (.int m)))) [c] :=
  guard_same (n := 37) (d := .lst [.int (z * (-1)), .tup [.int x, .int y]]) rfl (by kernel_rfl) (by kernel_rfl) rfl rfl
end K01

namespace K01
open Gw
theorem forS_run {C : Cxt} {ρ : Env} {S : Store} {t : Tg} {it : It} {b : List St} {p : PySem.Pos} {ws : List Wd} (hc : C.calm = true) (hi : evI C it ρ S = .ok (ws, none) S) :
    exec C (.forS t it b p) ρ S = (forGo (fun w ρ S => match bindT S t w ρ with | some ρ' => execs C b ρ' S | none => .no) ws ρ S).unl none := by
  unfold exec
  rw [if_neg (by rw [hc]; decide), hi, st_ok]
  rfl
theorem forGo_inv {f : Wd → Env → Store → Out} {I : Env → Prop} {S : Store} : ∀ (ws : List Wd), (∀ w ∈ ws, ∀ ρ, I ρ → ∃ ρ', f w ρ S = .nx ρ' S ∧ I ρ') → ∀ ρ, I ρ → ∃ ρ', forGo f ws ρ S = .nx ρ' S ∧ I ρ'
  | [], _, ρ, h => ⟨ρ, rfl, h⟩
  | w :: r, hf, ρ, h => by
    obtain ⟨ρ1, e1, h1⟩ := hf w List.mem_cons_self ρ h
    obtain ⟨ρ2, e2, h2⟩ := forGo_inv r (fun v hv => hf v (List.mem_cons_of_mem _ hv)) ρ1 h1
    refine ⟨ρ2, ?_, h2⟩
    unfold forGo
    rw [e1]
    exact e2
theorem inner (c : Cl) (s k : Option Wd) (x y z u v q far : Int) (w : PySem.Str) (one many : Option Wd)
    (h0 : ∀ (x y z m : Int) cell far small, exec (cxP tb.P 39 0) (Cs 0) (slots s cell far small k (some (.t (.str w))) (some (.t (.tup [.int x, .int y, .int z]))) (some (.t (.int m)))) [c] = .nx (slots s cell far small k (some (.t (.str w))) (some (.t (.tup [.int x, .int y, .int z]))) (some (.t (.int m)))) [c])
    (h1 : ∀ (x y z m : Int) cell far small, exec (cxP tb.P 39 0) (Cs 1) (slots s cell far small k (some (.t (.str w))) (some (.t (.tup [.int x, .int y, .int z]))) (some (.t (.int m)))) [c] = .nx (slots s cell far small k (some (.t (.str w))) (some (.t (.tup [.int x, .int y, .int z]))) (some (.t (.int m)))) [c]) :
    ∃ one' many', exec (cxP tb.P 39 0) (B 2) (slots s (some (.t (.tup [.int x, .int y, .int z]))) (some (.t (.int far))) (some (.t (.tup [.int u, .int v, .int q]))) k (some (.t (.str w))) one many) [c] = .nx (slots s (some (.t (.tup [.int x, .int y, .int z]))) (some (.t (.int far))) (some (.t (.tup [.int u, .int v, .int q]))) k (some (.t (.str w))) one' many') [c] := by
  have hB : ∃ t it p, B 2 = .forS t it innerB p ∧ innerB = [Cs 0, Cs 1] ∧
      (∀ one many, evI (cxP tb.P 39 0) it (slots s (some (.t (.tup [.int x, .int y, .int z]))) (some (.t (.int far))) (some (.t (.tup [.int u, .int v, .int q]))) k (some (.t (.str w))) one many) [c] = .ok ([.t (.tup [.tup [.int x, .int y, .int z], .int far]), .t (.tup [.tup [.int u, .int v, .int q], .int 3]), .t (.tup [.tup [.int x, .int y, .int z], .int (-2)]), .t (.tup [.tup [.int u, .int v, .int q], .int 0])], none) [c]) ∧
      (∀ a b cell far small one many, bindT [c] t (.t (.tup [a, b])) (slots s cell far small k (some (.t (.str w))) one many) = some (slots s cell far small k (some (.t (.str w))) (some (.t a)) (some (.t b)))) :=
    ⟨_, _, _, rfl, rfl, fun _ _ => by kernel_rfl, fun _ _ _ _ _ _ _ => by kernel_rfl⟩
  obtain ⟨t, it, p, e, ei, hi, hb⟩ := hB
  rw [e, forS_run rfl (hi one many)]
  refine (fun key => ?_) (forGo_inv (S := [c]) (f := fun w ρ S => match bindT S t w ρ with | some ρ' => execs (cxP tb.P 39 0) innerB ρ' S | none => .no) (I := fun ρ => ∃ one' many', ρ = slots s (some (.t (.tup [.int x, .int y, .int z]))) (some (.t (.int far))) (some (.t (.tup [.int u, .int v, .int q]))) k (some (.t (.str w))) one' many')
    [.t (.tup [.tup [.int x, .int y, .int z], .int far]), .t (.tup [.tup [.int u, .int v, .int q], .int 3]), .t (.tup [.tup [.int x, .int y, .int z], .int (-2)]), .t (.tup [.tup [.int u, .int v, .int q], .int 0])] ?_ _ ⟨one, many, rfl⟩)
  · obtain ⟨ρ', e2, one', many', rfl⟩ := key
    exact ⟨one', many', by rw [e2]; rfl⟩
  · intro wd hw ρ hρ
    obtain ⟨one, many, rfl⟩ := hρ
    have go : ∀ (a b d m : Int), ∃ ρ', (match bindT [c] t (.t (.tup [.tup [.int a, .int b, .int d], .int m])) (slots s (some (.t (.tup [.int x, .int y, .int z]))) (some (.t (.int far))) (some (.t (.tup [.int u, .int v, .int q]))) k (some (.t (.str w))) one many) with | some ρ' => execs (cxP tb.P 39 0) innerB ρ' [c] | none => .no) = .nx ρ' [c] ∧
        ∃ one' many', ρ' = slots s (some (.t (.tup [.int x, .int y, .int z]))) (some (.t (.int far))) (some (.t (.tup [.int u, .int v, .int q]))) k (some (.t (.str w))) one' many' := fun a b d m => by
      rw [hb, ei]
      dsimp only
      rw [execs_cons, h0, sq_nx, execs_cons, h1, sq_nx, execs_nil]
      exact ⟨_, rfl, _, _, rfl⟩
    simp only [List.mem_cons, List.not_mem_nil, or_false] at hw
    rcases hw with rfl | rfl | rfl | rfl
    · exact go _ _ _ _
    · exact go _ _ _ _
    · exact go _ _ _ _
    · exact go _ _ _ _
theorem body_of (c : Cl) (s k : Option Wd) (x y z u v q far : Int) (w : PySem.Str) (one many : Option Wd)
    (b0 : ∀ cell far small one many, exec (cxP tb.P 39 0) (B 0) (slots s cell far small k (some (.t (.str w))) one many) [c] = .nx (slots s cell far small k (some (.t (.str w))) one many) [c])
    (b1 : ∀ cell far small one many, exec (cxP tb.P 39 0) (B 1) (slots s cell far small k (some (.t (.str w))) one many) [c] = .nx (slots s cell far small k (some (.t (.str w))) one many) [c])
    (h0 : ∀ (x y z m : Int) cell far small, exec (cxP tb.P 39 0) (Cs 0) (slots s cell far small k (some (.t (.str w))) (some (.t (.tup [.int x, .int y, .int z]))) (some (.t (.int m)))) [c] = .nx (slots s cell far small k (some (.t (.str w))) (some (.t (.tup [.int x, .int y, .int z]))) (some (.t (.int m)))) [c])
    (h1 : ∀ (x y z m : Int) cell far small, exec (cxP tb.P 39 0) (Cs 1) (slots s cell far small k (some (.t (.str w))) (some (.t (.tup [.int x, .int y, .int z]))) (some (.t (.int m)))) [c] = .nx (slots s cell far small k (some (.t (.str w))) (some (.t (.tup [.int x, .int y, .int z]))) (some (.t (.int m)))) [c]) :
    ∃ one' many', execs (cxP tb.P 39 0) loopB (slots s (some (.t (.tup [.int x, .int y, .int z]))) (some (.t (.int far))) (some (.t (.tup [.int u, .int v, .int q]))) k (some (.t (.str w))) one many) [c] = .nx (slots s (some (.t (.tup [.int x, .int y, .int z]))) (some (.t (.int far))) (some (.t (.tup [.int u, .int v, .int q]))) k (some (.t (.str w))) one' many') [c] := by
  obtain ⟨one', many', e⟩ := inner c s k x y z u v q far w one many h0 h1
  have eb : loopB = [B 0, B 1, B 2] := rfl
  refine ⟨one', many', ?_⟩
  rw [eb, execs_cons, b0, sq_nx, execs_cons, b1, sq_nx, execs_cons, e, sq_nx, execs_nil]
theorem outer (c : Cl) (s k : Option Wd) (x y z u v q far : Int) : ∃ ρ', exec (cxP tb.P 39 0) loopS (slots s (some (.t (.tup [.int x, .int y, .int z]))) (some (.t (.int far))) (some (.t (.tup [.int u, .int v, .int q]))) k none none none) [c] = .nx ρ' [c] := by
  have hB : ∃ t it p, loopS = .forS t it loopB p ∧
      (evI (cxP tb.P 39 0) it (slots s (some (.t (.tup [.int x, .int y, .int z]))) (some (.t (.int far))) (some (.t (.tup [.int u, .int v, .int q]))) k none none none) [c] = .ok ([.t (.str "east"), .t (.str "west"), .t (.str "north"), .t (.str "south"), .t (.str "up"), .t (.str "down")], none) [c]) ∧
      (∀ a cell far small w one many, bindT [c] t (.t a) (slots s cell far small k w one many) = some (slots s cell far small k (some (.t a)) one many)) :=
    ⟨_, _, _, rfl, by kernel_rfl, fun _ _ _ _ _ _ _ => by kernel_rfl⟩
  obtain ⟨t, it, p, e, hi, hb⟩ := hB
  rw [e, forS_run rfl hi]
  refine (fun key => ?_) (forGo_inv (S := [c]) (f := fun w ρ S => match bindT S t w ρ with | some ρ' => execs (cxP tb.P 39 0) loopB ρ' S | none => .no) (I := fun ρ => ∃ w one' many', ρ = slots s (some (.t (.tup [.int x, .int y, .int z]))) (some (.t (.int far))) (some (.t (.tup [.int u, .int v, .int q]))) k w one' many')
    [.t (.str "east"), .t (.str "west"), .t (.str "north"), .t (.str "south"), .t (.str "up"), .t (.str "down")] ?_ _ ⟨none, none, none, rfl⟩)
  · obtain ⟨ρ', e2, _⟩ := key
    exact ⟨ρ', by rw [e2]; rfl⟩
  · intro wd hw ρ hρ
    obtain ⟨w, one, many, rfl⟩ := hρ
    simp only [List.mem_cons, List.not_mem_nil, or_false] at hw
    rcases hw with rfl | rfl | rfl | rfl | rfl | rfl
    · rw [hb]
      dsimp only
      obtain ⟨one', many', e3⟩ := body_of c s k x y z u v q far _ one many (fun _ _ _ _ _ => b0_0 _ _ _ _ _ _ _ _) (fun _ _ _ _ _ => b1_0 _ _ _ _ _ _ _ _) (fun _ _ _ _ _ _ _ => c0_0 _ _ _ _ _ _ _ _ _ _) (fun _ _ _ _ _ _ _ => c1_0 _ _ _ _ _ _ _ _ _ _)
      exact ⟨_, e3, _, _, _, rfl⟩
    · rw [hb]
      dsimp only
      obtain ⟨one', many', e3⟩ := body_of c s k x y z u v q far _ one many (fun _ _ _ _ _ => b0_1 _ _ _ _ _ _ _ _) (fun _ _ _ _ _ => b1_1 _ _ _ _ _ _ _ _) (fun _ _ _ _ _ _ _ => c0_1 _ _ _ _ _ _ _ _ _ _) (fun _ _ _ _ _ _ _ => c1_1 _ _ _ _ _ _ _ _ _ _)
      exact ⟨_, e3, _, _, _, rfl⟩
    · rw [hb]
      dsimp only
      obtain ⟨one', many', e3⟩ := body_of c s k x y z u v q far _ one many (fun _ _ _ _ _ => b0_2 _ _ _ _ _ _ _ _) (fun _ _ _ _ _ => b1_2 _ _ _ _ _ _ _ _) (fun _ _ _ _ _ _ _ => c0_2 _ _ _ _ _ _ _ _ _ _) (fun _ _ _ _ _ _ _ => c1_2 _ _ _ _ _ _ _ _ _ _)
      exact ⟨_, e3, _, _, _, rfl⟩
    · rw [hb]
      dsimp only
      obtain ⟨one', many', e3⟩ := body_of c s k x y z u v q far _ one many (fun _ _ _ _ _ => b0_3 _ _ _ _ _ _ _ _) (fun _ _ _ _ _ => b1_3 _ _ _ _ _ _ _ _) (fun _ _ _ _ _ _ _ => c0_3 _ _ _ _ _ _ _ _ _ _) (fun _ _ _ _ _ _ _ => c1_3 _ _ _ _ _ _ _ _ _ _)
      exact ⟨_, e3, _, _, _, rfl⟩
    · rw [hb]
      dsimp only
      obtain ⟨one', many', e3⟩ := body_of c s k x y z u v q far _ one many (fun _ _ _ _ _ => b0_4 _ _ _ _ _ _ _ _) (fun _ _ _ _ _ => b1_4 _ _ _ _ _ _ _ _) (fun _ _ _ _ _ _ _ => c0_4 _ _ _ _ _ _ _ _ _ _) (fun _ _ _ _ _ _ _ => c1_4 _ _ _ _ _ _ _ _ _ _)
      exact ⟨_, e3, _, _, _, rfl⟩
    · rw [hb]
      dsimp only
      obtain ⟨one', many', e3⟩ := body_of c s k x y z u v q far _ one many (fun _ _ _ _ _ => b0_5 _ _ _ _ _ _ _ _) (fun _ _ _ _ _ => b1_5 _ _ _ _ _ _ _ _) (fun _ _ _ _ _ _ _ => c0_5 _ _ _ _ _ _ _ _ _ _) (fun _ _ _ _ _ _ _ => c1_5 _ _ _ _ _ _ _ _ _ _)
      exact ⟨_, e3, _, _, _, rfl⟩
end K01

namespace K01
open Gw
theorem map_cutG {α β : Type} {f : α → β} {l : List α} {lo hi : Option Int} : cutG (l.map f) lo hi = (cutG l lo hi).map f := by
  unfold cutG
  rw [List.length_map, List.map_take, List.map_drop]
theorem slc_lst {ds : List Dt} {lo hi : Option Int} {S : Store} : slcD false (.t (.lst ds)) lo hi S = .ok (.t (.lst (cutG ds lo hi))) S := by
  show mkL false (cutG (ds.map Wd.t) lo hi) S = _
  rw [map_cutG, mkL_t]
theorem list_lst {ds : List Dt} {S : Store} : b1D .list false (.t (.lst ds)) S = .ok (.t (.lst ds)) S := by
  show mkL false (ds.map Wd.t) S = _
  rw [mkL_t]
theorem feed (n : Nat) (ns : List Int) : evF tb.P (n + 1) "_law_feed" true [.t (.lst (ns.map .int))] [] = .ok (.h 0) [feedC (cutG ns none (some 63)) 0 0 1] := by
  refine call_rt' (F := f_law_feed) rfl rfl (ρ0 := [some (.t (.lst (ns.map .int)))]) rfl ?_
  have hc : (cxP tb.P n 0).calm = true := rfl
  simp only [f_law_feed, execs_cons, execs_nil, exec, ev, evs, evO, bd_ok', st_ok, opt_some, Lit.d, isInt, List.getElem?_cons_zero, slc_lst, list_lst, Bool.true_eq_false, if_false, List.length_cons, List.length_nil, map_cutG]
  rfl
theorem comp_feed {f : Wd → Store → Res (Option Wd)} {I : Store → Prop} : ∀ (l : List Nat), (∀ i ∈ l, ∀ S, I S → ∃ (r : Int) (S' : Store), f (.t (.int (i : Nat))) S = .ok (some (.t (.int r))) S' ∧ I S') → ∀ S, I S → ∃ (is : List Int) (S' : Store), compGo f (l.map fun i => Wd.t (.int (i : Nat))) S = .ok ((is.map Dt.int).map .t) S' ∧ I S' ∧ is.length = l.length
  | [], _, S, h => ⟨[], S, rfl, h, rfl⟩
  | i :: r, hf, S, h => by
    obtain ⟨v, S1, e1, h1⟩ := hf i List.mem_cons_self S h
    obtain ⟨is, S2, e2, h2, h3⟩ := comp_feed r (fun j hj => hf j (List.mem_cons_of_mem _ hj)) S1 h1
    refine ⟨v :: is, S2, ?_, h2, by simp [h3]⟩
    show compGo f (_ :: _) S = _
    unfold compGo
    rw [e1]
    dsimp only
    rw [e2]; rfl
def IsFeed (xs : List Int) (S : Store) : Prop := ∃ a b c, S = [feedC xs a b c] ∧ 0 ≤ a
theorem lc_feed {C : Cxt} {ρ : Env} {S : Store} {xs : List Int} {q p p2 : PySem.Pos} {a elt : Ex} {t : Tg} {sc : PySem.Scope} {own : List (PySem.Str × Nat)} {n : Nat} (hc : C.calm = true) (ha : ev C a ρ S = .ok (.t (.int (n : Nat))) S) (h : n ≤ 16777216) (hS : IsFeed xs S)
    (he : ∀ (i : Nat) S, IsFeed xs S → ∃ ρ', bindT S t (.t (.int (i : Nat))) (wipeE ρ (own.map (·.2))) = some ρ' ∧ ∃ (r : Int) (S' : Store), ev C elt ρ' S = .ok (.t (.int r)) S' ∧ IsFeed xs S') : ∃ (is : List Int) (S' : Store), ev C (.lc false elt t (.rng1 q a p) none sc own p2) ρ S = .ok (.t (.lst (is.map .int))) S' ∧ IsFeed xs S' ∧ is.length = n := by
  unfold ev
  rw [if_neg (by rw [hc]; decide), evI_rng ha h, bd_ok']
  dsimp only
  rw [if_pos (by rw [List.length_map, List.length_range]; exact h)]
  have e : lockO S none = (S, none) := rfl
  rw [e]
  dsimp only
  refine (fun key => ?_) (comp_feed (f := turnE C elt t none (own.map (·.2)) ρ) (I := IsFeed xs) (List.range n) ?_ S hS)
  · obtain ⟨is, S', e1, e2, e3⟩ := key
    refine ⟨is, S', ?_, e2, by rw [e3, List.length_range]⟩
    show (match compGo (turnE C elt t none (own.map (·.2)) ρ) ((List.range n).map fun i => Wd.t (.int (i : Nat))) S with
      | .ok ws S2 => mkL false ws (unlockC S2 none)
      | _ => .no) = _
    rw [e1]
    dsimp only [unlockC]
    rw [mkL_t]
  · intro i _ S hS
    obtain ⟨ρ', h1, r, S', h2, h3⟩ := he i S hS
    refine ⟨r, S', ?_, h3⟩
    unfold turnE
    rw [h1]
    dsimp only
    unfold evC
    rw [bd_ok', if_pos rfl, h2]
    rfl
theorem ev_draw {n bs : Nat} {ρ : Env} {e k : Ex} {q p p1 p2 : PySem.Pos} {x : PySem.Str} {M K : Int} {S : Store} {xs : List Int} (h1 : ρ[1]? = some (some (.h 0))) (he : ∀ S, ev (cxP tb.P (n + 1) bs) e ρ S = .ok (.t (.int M)) S) (hk : ∀ S, ev (cxP tb.P (n + 1) bs) k ρ S = .ok (.t (.int K)) S) (hm : 0 < M) (hg : M.natAbs.log2 < 8000) (hS : IsFeed xs S) :
    ∃ (r : Int) (S' : Store), ev (cxP tb.P (n + 1) bs) (.bin .sub false (.call "_law_draw" false q [.var 1 x p1, e] p) k p2) ρ S = .ok (.t (.int r)) S' ∧ IsFeed xs S' := by
  obtain ⟨a, b, c, rfl, ha⟩ := hS
  obtain ⟨r, a', b', c', e1, h2, h3, h4⟩ := draw n [feedC xs a b c] 0 xs a b c M rfl ha hm hg
  refine ⟨r - K, [feedC xs a' b' c'], ?_, a', b', c', rfl, h2⟩
  have hd : ev (cxP tb.P (n + 1) bs) (.call "_law_draw" false q [.var 1 x p1, e] p) ρ [feedC xs a b c] = .ok (.t (.int r)) [feedC xs a' b' c'] := by
    have hcall : (cxP tb.P (n + 1) bs).call "_law_draw" = some (evF tb.P (n + 1) "_law_draw") := rfl
    unfold ev
    rw [hcall]
    dsimp only
    unfold evs
    rw [ev_var h1, bd_ok']
    unfold evs
    rw [he, bd_ok']
    unfold evs
    exact e1
  exact (ev_bin hd (hk _)).trans bin_sub
end K01

namespace K01
open Gw
theorem exec_asg {C : Cxt} {ρ ρ' : Env} {S S' : Store} {t : Tg} {e : Ex} {p : PySem.Pos} {w : Wd} (he : ev C e ρ S = .ok w S') (hb : bindA C S' t w ρ = some ρ') : exec C (.asg t e p) ρ S = .nx ρ' S' := by
  unfold exec
  rw [he, st_ok, hb]; rfl
theorem ev_tuple {C : Cxt} {ρ : Env} {S S' : Store} {q p : PySem.Pos} {e : Ex} {ds : List Dt} (hc : C.calm = true) (he : ev C e ρ S = .ok (.t (.lst ds)) S') : ev C (.b1 .tuple false q e p) ρ S = .ok (.t (.tup ds)) S' := by
  unfold ev
  rw [if_neg (by rw [hc]; decide), he, bd_ok']
  show (keeps S' (ds.map Wd.t)).bd _ = _
  rw [keeps_t]; rfl
/-- the cell, the small cell: three draws -/
theorem three {ρ : Env} {S : Store} {xs : List Int} {e k : Ex} {q p p1 p2 p3 p4 p5 p6 p7 p8 p9 p10 p11 : PySem.Pos} {x y z : PySem.Str} {sc : PySem.Scope} {own : List (PySem.Str × Nat)} {M K : Int} {i : Nat} (hown : own.map (·.2) = [8]) (hl : ρ.length = 9) (hi : i < 9) (h1 : ρ[1]? = some (some (.h 0)))
    (he : ∀ ρ S, ev (cxP tb.P 39 0) e ρ S = .ok (.t (.int M)) S) (hk : ∀ ρ S, ev (cxP tb.P 39 0) k ρ S = .ok (.t (.int K)) S) (hm : 0 < M) (hg : M.natAbs.log2 < 8000) (hS : IsFeed xs S) :
    ∃ (a b c : Int) (S' : Store), exec (cxP tb.P 39 0) (.asg (.nm i z p9) (.b1 .tuple false p8 (.lc false (.bin .sub false (.call "_law_draw" false q [.var 1 x p1, e] p11) k p2) (.nm 8 y p4) (.rng1 p5 (.lit (.int 3) 0 p6) p7) none sc own p3) p10) p) ρ S = .nx (ρ.set i (some (.t (.tup [.int a, .int b, .int c])))) S' ∧ IsFeed xs S' := by
  obtain ⟨is, S', e1, e2, e3⟩ := lc_feed (C := cxP tb.P 39 0) (ρ := ρ) (S := S) (xs := xs) (q := p5) (p := p7) (p2 := p3) (a := .lit (.int 3) 0 p6) (elt := .bin .sub false (.call "_law_draw" false q [.var 1 x p1, e] p11) k p2) (t := .nm 8 y p4) (sc := sc) (own := own) (n := 3) rfl ev_lit (by decide) hS fun j S hS => by
    refine ⟨(wipeE ρ (own.map (·.2))).set 8 (some (.t (.int (j : Nat)))), ?_, ?_⟩
    · unfold bindT
      rw [hown]
      rw [if_pos (by unfold wipeE wipeE; rw [List.length_set, hl]; decide)]
    · refine ev_draw (n := 38) ?_ (he _) (hk _) hm hg hS
      rw [hown]
      unfold wipeE wipeE
      rw [List.getElem?_set_ne (by decide), List.getElem?_set_ne (by decide)]
      exact h1
  match is, e3 with
  | [a, b, c], _ =>
    refine ⟨a, b, c, S', exec_asg (ev_tuple rfl e1) ?_, e2⟩
    show bindT S' (.nm i z p9) _ ρ = _
    unfold bindT
    rw [if_pos (by rw [hl]; exact hi)]
    rfl
theorem ans : Ans := fun ns _ => by
  rw [evF_call (F := f_law) rfl rfl]
  obtain ⟨c0, hc0⟩ : ∃ c0, c0 = feedC (cutG ns none (some 63)) 0 0 1 := ⟨_, rfl⟩
  have hS0 : IsFeed (cutG ns none (some 63)) [c0] := ⟨0, 0, 1, by rw [hc0], Int.le_refl _⟩
  obtain ⟨s, hs⟩ : ∃ s : Option Wd, s = some (.t (.lst (ns.map .int))) := ⟨_, rfl⟩
  show ∃ S, finO true [] (execs (cxP tb.P 39 0) f_law.body [some (.t (.lst (ns.map .int))), none, none, none, none, none, none, none, none] []) = _
  -- the feed
  have st0 : exec (cxP tb.P 39 0) (f_law.body.getD 0 (.pass ⟨0, 0, 0, 0⟩)) [some (.t (.lst (ns.map .int))), none, none, none, none, none, none, none, none] [] = .nx [some (.t (.lst (ns.map .int))), some (.h 0), none, none, none, none, none, none, none] [c0] := by
    obtain ⟨y, q0, q, x, p1, p2, p, sh⟩ : ∃ y q0 q x p1 p2 p, f_law.body.getD 0 (.pass ⟨0, 0, 0, 0⟩) = .asg (.nm 1 y q0) (.call "_law_feed" true q [.var 0 x p1] p2) p := ⟨_, _, _, _, _, _, _, rfl⟩
    have hv : ev (cxP tb.P 39 0) (.call "_law_feed" true q [.var 0 x p1] p2) [some (.t (.lst (ns.map .int))), none, none, none, none, none, none, none, none] [] = .ok (.h 0) [c0] := by
      rw [ev_call1 (h := evF tb.P 39 "_law_feed") rfl (ev_var (w := .t (.lst (ns.map .int))) rfl), feed 38 ns, hc0]
    rw [sh]; exact exec_asg hv rfl
  have st1 : ∀ ρ c, exec (cxP tb.P 39 0) (f_law.body.getD 1 (.pass ⟨0, 0, 0, 0⟩)) ρ [c] = .nx ρ [c] := fun ρ c => by kernel_rfl
  generalize hxs : cutG ns none (some 63) = xs at hc0 hS0
  obtain ⟨y2, q0, q1, q, z, p1, e, p2, k, p3, y8, p4, p5, p6, p7, sc, own, p8, p9, p10, M, K, sh2, o2, he2, hk2, hm2, hg2⟩ : ∃ y2 q0 q1 q z p1 e p2 k p3 y8 p4 p5 p6 p7 sc own p8 p9 p10, ∃ M K : Int, f_law.body.getD 2 (.pass ⟨0, 0, 0, 0⟩) = .asg (.nm 2 y2 q0) (.b1 .tuple false q1 (.lc false (.bin .sub false (.call "_law_draw" false q [.var 1 z p1, e] p2) k p3) (.nm 8 y8 p4) (.rng1 p5 (.lit (.int 3) 0 p6) p7) none sc own p8) p9) p10 ∧ own.map (·.2) = [8] ∧
      (∀ ρ S, ev (cxP tb.P 39 0) e ρ S = .ok (.t (.int M)) S) ∧ (∀ ρ S, ev (cxP tb.P 39 0) k ρ S = .ok (.t (.int K)) S) ∧ 0 < M ∧ M.natAbs.log2 < 8000 :=
    ⟨_, _, _, _, _, _, _, _, _, _, _, _, _, _, _, _, _, _, _, _, 200000000000000000001, 100000000000000000000, rfl, rfl, fun _ _ => by kernel_rfl, fun _ _ => by kernel_rfl, by decide, by decide⟩
  obtain ⟨x0, x1, x2, S2, e2, hS2⟩ := three (i := 2) (ρ := [some (.t (.lst (ns.map .int))), some (.h 0), none, none, none, none, none, none, none]) (z := y2) (p9 := q0) (p8 := q1) (q := q) (x := z) (p1 := p1) (e := e) (p := p10) (k := k) (p2 := p3) (y := y8) (p4 := p4) (p5 := p5) (p6 := p6) (p7 := p7) (sc := sc) (own := own) (p3 := p8) (p10 := p9) (p11 := p2) o2 rfl (by decide) rfl he2 hk2 hm2 hg2 hS0
  obtain ⟨y3, t0, t1, t2, t3, t4, t5, z3, e3, k3, M3, K3, sh3, he3, hk3, hm3, hg3⟩ : ∃ y3 t0 t1 t2 t3 t4 t5 z3 e3 k3, ∃ M K : Int, f_law.body.getD 3 (.pass ⟨0, 0, 0, 0⟩) = .asg (.nm 3 y3 t0) (.bin .sub false (.call "_law_draw" false t1 [.var 1 z3 t2, e3] t3) k3 t4) t5 ∧
      (∀ ρ S, ev (cxP tb.P 39 0) e3 ρ S = .ok (.t (.int M)) S) ∧ (∀ ρ S, ev (cxP tb.P 39 0) k3 ρ S = .ok (.t (.int K)) S) ∧ 0 < M ∧ M.natAbs.log2 < 8000 := by
    exact ⟨_, _, _, _, _, _, _, _, _, _, 200000000000000000001, 100000000000000000000, rfl, fun _ _ => by kernel_rfl, fun _ _ => by kernel_rfl, by decide, by decide⟩
  obtain ⟨far, S3, ef, hS3⟩ := ev_draw (n := 38) (bs := 0) (ρ := [some (.t (.lst (ns.map .int))), some (.h 0), some (.t (.tup [.int x0, .int x1, .int x2])), none, none, none, none, none, none]) (e := e3) (k := k3) (q := t1) (p := t3) (p1 := t2) (p2 := t4) (x := z3) (S := S2) (xs := xs) rfl (he3 _) (hk3 _) hm3 hg3 hS2
  have st3 : exec (cxP tb.P 39 0) (f_law.body.getD 3 (.pass ⟨0, 0, 0, 0⟩)) [some (.t (.lst (ns.map .int))), some (.h 0), some (.t (.tup [.int x0, .int x1, .int x2])), none, none, none, none, none, none] S2 = .nx [some (.t (.lst (ns.map .int))), some (.h 0), some (.t (.tup [.int x0, .int x1, .int x2])), some (.t (.int far)), none, none, none, none, none] S3 := by
    rw [sh3]; exact exec_asg ef rfl
  obtain ⟨y4, u0, u1, u2, z4, u3, e4, u4, k4, u5, y9, u6, u7, u8, u9, sc4, own4, v1, v2, v3, M4, K4, sh4, o4, he4, hk4, hm4, hg4⟩ : ∃ y4 u0 u1 u2 z4 u3 e4 u4 k4 u5 y9 u6 u7 u8 u9 sc4 own4 v1 v2 v3, ∃ M K : Int, f_law.body.getD 4 (.pass ⟨0, 0, 0, 0⟩) = .asg (.nm 4 y4 u0) (.b1 .tuple false u1 (.lc false (.bin .sub false (.call "_law_draw" false u2 [.var 1 z4 u3, e4] u4) k4 u5) (.nm 8 y9 u6) (.rng1 u7 (.lit (.int 3) 0 u8) u9) none sc4 own4 v1) v2) v3 ∧ own4.map (·.2) = [8] ∧
      (∀ ρ S, ev (cxP tb.P 39 0) e4 ρ S = .ok (.t (.int M)) S) ∧ (∀ ρ S, ev (cxP tb.P 39 0) k4 ρ S = .ok (.t (.int K)) S) ∧ 0 < M ∧ M.natAbs.log2 < 8000 :=
    ⟨_, _, _, _, _, _, _, _, _, _, _, _, _, _, _, _, _, _, _, _, 9, 4, rfl, rfl, fun _ _ => by kernel_rfl, fun _ _ => by kernel_rfl, by decide, by decide⟩
  obtain ⟨y0, y1, y2', S4, e4', hS4⟩ := three (i := 4) (ρ := [some (.t (.lst (ns.map .int))), some (.h 0), some (.t (.tup [.int x0, .int x1, .int x2])), some (.t (.int far)), none, none, none, none, none]) (z := y4) (p9 := u0) (p8 := u1) (q := u2) (x := z4) (p1 := u3) (e := e4) (p := v3) (k := k4) (p2 := u5) (y := y9) (p4 := u6) (p5 := u7) (p6 := u8) (p7 := u9) (sc := sc4) (own := own4) (p3 := v1) (p10 := v2) (p11 := u4) o4 rfl (by decide) rfl he4 hk4 hm4 hg4 hS3
  obtain ⟨a, b, c, rfl, _⟩ := hS4
  obtain ⟨ρ5, e5⟩ := outer (feedC xs a b c) (some (.t (.lst (ns.map .int)))) none x0 x1 x2 y0 y1 y2' far
  have eb : f_law.body = [f_law.body.getD 0 (.pass ⟨0, 0, 0, 0⟩), f_law.body.getD 1 (.pass ⟨0, 0, 0, 0⟩), f_law.body.getD 2 (.pass ⟨0, 0, 0, 0⟩), f_law.body.getD 3 (.pass ⟨0, 0, 0, 0⟩), f_law.body.getD 4 (.pass ⟨0, 0, 0, 0⟩), loopS, f_law.body.getD 6 (.pass ⟨0, 0, 0, 0⟩)] := rfl
  have st6 : ∀ ρ S, exec (cxP tb.P 39 0) (f_law.body.getD 6 (.pass ⟨0, 0, 0, 0⟩)) ρ S = .rt (.t (.bl true)) S := fun ρ S => by kernel_rfl
  refine ⟨[feedC xs a b c], ?_⟩
  rw [eb, execs_cons, st0, sq_nx, execs_cons, st1, sq_nx, execs_cons, sh2, e2, sq_nx, execs_cons]
  simp only [List.set_cons_succ, List.set_cons_zero]
  rw [st3, sq_nx, execs_cons, sh4, e4', sq_nx, execs_cons]
  simp only [List.set_cons_succ, List.set_cons_zero]
  have e5' : exec (cxP tb.P 39 0) loopS [some (.t (.lst (ns.map .int))), some (.h 0), some (.t (.tup [.int x0, .int x1, .int x2])), some (.t (.int far)), some (.t (.tup [.int y0, .int y1, .int y2'])), none, none, none, none] [feedC xs a b c] = .nx ρ5 [feedC xs a b c] := e5
  rw [e5', sq_nx, execs_cons, st6, sq_rt]
  rfl
end K01

theorem PySem.Challenge.cw_gripwood_k01_ways_and_steps_holds : PySem.Challenge.rw_gripwood_k01_ways_and_steps.Holds := by
  exact K01.fin K01.ans
