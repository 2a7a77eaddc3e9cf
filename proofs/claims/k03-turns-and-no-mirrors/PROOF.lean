import PyProof.Rows.All
import Wide.All
import OpenK.AllK
import Wide.FinOn
import KE.KStateDown
import KE.SortData
import HandS.ForMost
import HandS.ForExc
import HandS.CallSlots
import HandS.Wide
import HandS.Walk
import HandS.Flow
import HandS.Style
import HandS.Deep
import HandS.Conv
import HandS.Strs
import HandS.IsInst
import HandS.Defaults
import HandS.TupAny
import HandS.TupLe
import Lean
import HandS.More
import HandS.Head0
import HandS.Head1
import HandS.Head2
import HandS.HeadEnd
import HandS.HeadHook1
import HandS.HeadHook2
import PySem.Challenge.RW_gripwood_k03_turns_and_no_mirrors
set_option Elab.async false
set_option linter.all false
set_option maxRecDepth 100000
set_option maxHeartbeats 0
/-! Gw: a small interpreter of Python over values, its soundness over the model, and what the laws need. -/
namespace Gw
open PySem L2

/-- data: a tree -/
inductive Dt where
  | non | bl (b : Bool) | int (i : Int) | str (x : Str)
  | lst (xs : List Dt) | tup (xs : List Dt)
  | dic (tk : Bool) (kvs : List (List Key × Dt))
deriving Inhabited, BEq
/-- an own error: its class, its fields -/
structure Exn where
  cls : Str
  fs : List (Str × Dt)
deriving Inhabited
/-- a value: a tree that stays as it is, a handle of a cell, the error that a suite holds -/
inductive Wd where
  | t (d : Dt) | h (k : Nat) | x (e : Exn)
  /-- a constant of the module that is a tuple -/
  | c (ds : List Dt)
deriving Inhabited
/-- a cell: a thing that may change; lk: it is walked just now; frz: it changes no more -/
inductive Cl where
  | lst (lk : Bool) (ws : List Wd)
  | dic (tk lk : Bool) (kvs : List (List Key × Wd))
  | ins (c : Str) (fs : List (Str × Wd))
  | frz (d : Dt)
deriving Inhabited
abbrev Store := List Cl
abbrev Env := List (Option Wd)

inductive Res (α : Type) where
  | ok (a : α) (S : Store) | ex (e : Exn) (S : Store) | no
def Res.bd {α β : Type} (r : Res α) (f : α → Store → Res β) : Res β := match r with
  | .ok a S => f a S
  | .ex e S => .ex e S
  | .no => .no
def opt {α : Type} (S : Store) (o : Option α) : Res α := match o with
  | some a => .ok a S
  | none => .no

/-! ### plain data -/
mutual
def pd : Dt → PyData
  | .non => .none
  | .bl b => .bool b
  | .int i => .int i
  | .str x => .str x
  | .lst xs => .list (pds xs)
  | .tup xs => .tuple (pds xs)
  | .dic _ _ => .none
def pds : List Dt → List PyData
  | [] => []
  | x :: r => pd x :: pds r
end
mutual
/-- no dict within -/
def pln : Dt → Bool
  | .lst xs => plns xs
  | .tup xs => plns xs
  | .dic _ _ => false
  | _ => true
def plns : List Dt → Bool
  | [] => true
  | x :: r => pln x && plns r
end
def mapO {α β : Type} (f : α → Option β) : List α → Option (List β)
  | [] => some []
  | a :: r => match f a, mapO f r with
    | some b, some bs => some (b :: bs)
    | _, _ => none
def lineN : Nat := 16777216

/-! ### a value seen from without -/
inductive Vw where
  | seq (tup : Bool) (ws : List Wd) | dic (tk : Bool) (kvs : List (List Key × Wd)) | oth
def vwT : Dt → Vw
  | .lst ds => .seq false (ds.map .t)
  | .tup ds => .seq true (ds.map .t)
  | .dic tk kvs => .dic tk (kvs.map fun p => (p.1, .t p.2))
  | _ => .oth
def vw (S : Store) : Wd → Vw
  | .t d => vwT d
  | .h k => match S[k]? with
    | some (.lst _ ws) => .seq false ws
    | some (.dic tk _ kvs) => .dic tk kvs
    | some (.frz d) => vwT d
    | _ => .oth
  | .x _ => .oth
  | .c ds => .seq true (ds.map .t)
/-- the whole of it -/
def rd (S : Store) : Nat → Wd → Option Dt
  | _, .t d => some d
  | _, .c ds => some (.tup ds)
  | n + 1, .h k => match S[k]? with
    | some (.lst _ ws) => (mapO (rd S n) ws).map .lst
    | some (.dic tk _ kvs) => (mapO (fun p => (rd S n p.2).map fun d => (p.1, d)) kvs).map (.dic tk)
    | some (.frz d) => some d
    | _ => none
  | _, _ => none
/-- trees and cells that change no more -/
def rdF (S : Store) : Wd → Option Dt
  | .t d => some d
  | .h k => match S[k]? with
    | some (.frz d) => some d
    | _ => none
  | .x _ => none
  | .c _ => none
def fzAll (f : Store → Wd → Option Store) : Store → List Wd → Option Store
  | S, [] => some S
  | S, w :: r => match f S w with
    | some S' => fzAll f S' r
    | none => none
/-- a cell and what is in it changes no more -/
def fz : Nat → Store → Wd → Option Store
  | _, S, .t _ => some S
  | n + 1, S, .h k => match S[k]? with
    | some (.lst false ws) => match fzAll (fz n) S ws with
      | some S' => match S'[k]? with
        | some (.lst false ws') => (mapO (rdF S') ws').map fun ds => S'.set k (.frz (.lst ds))
        | _ => none
      | none => none
    | some (.dic tk false kvs) => match fzAll (fz n) S (kvs.map (·.2)) with
      | some S' => match S'[k]? with
        | some (.dic tk' false kvs') => (mapO (fun p => (rdF S' p.2).map fun d => (p.1, d)) kvs').map fun ds => S'.set k (.frz (.dic tk' ds))
        | _ => none
      | none => none
    | some (.frz _) => some S
    | _ => none
  | _, _, .x _ => none
  | _, _, .c _ => none
  | 0, _, .h _ => none
/-- a value that is kept in a tree -/
def keep (S : Store) (w : Wd) : Res Dt := match fz 6 S w with
  | some S' => opt S' (rdF S' w)
  | none => .no
def keeps : Store → List Wd → Res (List Dt)
  | S, [] => .ok [] S
  | S, w :: r => (keep S w).bd fun d S1 => (keeps S1 r).bd fun ds S2 => .ok (d :: ds) S2
def isT : Wd → Bool
  | .t _ => true
  | _ => false
def keepIf (b : Bool) (S : Store) (w : Wd) : Res Wd := match w with
  | .t d => .ok (.t d) S
  | .h k => if b = true then .ok (.h k) S else (keep S (.h k)).bd fun d S' => .ok (.t d) S'
  | .x _ => .no
  | .c _ => .no
def noX : Wd → Bool
  | .x _ => false
  | .c _ => false
  | _ => true

/-! ### dicts -/
def atomK : Dt → Option Key
  | .int i => some (.inl i)
  | .str x => some (.inr x)
  | _ => none
def keyD : Key → Dt
  | .inl i => .int i
  | .inr x => .str x
/-- the key that a value is -/
def keyOf (tk : Bool) (d : Dt) : Option (List Key) := match tk, d with
  | false, d => (atomK d).map fun k => [k]
  | true, .tup ds => mapO atomK ds
  | true, _ => none
def dtOf (tk : Bool) (k : List Key) : Dt := match tk with
  | true => .tup (k.map keyD)
  | false => match k with
    | [k] => keyD k
    | _ => .non
def getA {α : Type} (kvs : List (List Key × α)) (k : List Key) : Option α := (kvs.find? fun kv => decide (kv.1 = k)).map (·.2)
def putA {α : Type} (kvs : List (List Key × α)) (k : List Key) (v : α) : List (List Key × α) :=
  if (kvs.any fun kv => decide (kv.1 = k)) = true then kvs.map (fun kv => if kv.1 = k then (kv.1, v) else kv) else kvs ++ [(k, v)]
def dropA {α : Type} (kvs : List (List Key × α)) (k : List Key) : List (List Key × α) := kvs.filter fun kv => decide (kv.1 ≠ k)

/-! ### operators -/
inductive Bop where | add | sub | mul | mod | fdiv | pow
inductive Cop where | lt | le | gt | ge
def eqD (S : Store) (a b : Wd) : Option Bool := match rd S 6 a, rd S 6 b with
  | some d, some e => if pln d && pln e && SeqAt.shaped (pd d) && SeqAt.shaped (pd e) then some (PyData.eqv (pd d) (pd e)) else none
  | _, _ => none
def cutL {α : Type} (xs : List α) (lo hi : Option Int) : List α :=
  let n : Int := xs.length
  let f (i : Int) : Nat := (if i < 0 then (if i + n < 0 then 0 else i + n) else if i > n then n else i).toNat
  let a := match lo with | some i => f i | none => 0
  let b := match hi with | some i => f i | none => xs.length
  (xs.drop a).take (b - a)
def ixL {α : Type} (xs : List α) (i : Int) : Option α := if 0 ≤ i then xs[i.toNat]? else if 0 ≤ i + xs.length then xs[(i + xs.length).toNat]? else none
end Gw

namespace Gw
open PySem L2

/-- what a loop or a plain target binds: names, tuples of them -/
inductive Tg where
  | nm (i : Nat) (x : Str) (p : Pos)
  | tp (ts : List Tg) (k : Nat) (p : Pos)
deriving Inhabited
inductive B1 where | len | sorted | list | tuple | sum | min | max | all | any | int | str | dict
inductive Mt where | append | extend | pop | reverse | clear | index | join | get1 | get2 | setdefault | update
inductive Lit where | non | bl (b : Bool) | int (i : Int) | str (x : Str)
inductive Ty where | int | bool | str | list | tuple
/- expressions; m: a new list or dict that may change -/
mutual
inductive Ex where
  | var (i : Nat) (x : Str) (p : Pos)
  | glb (x : Str) (p : Pos)
  | lit (c : Lit) (j : Nat) (p : Pos)
  | bin (o : Bop) (m : Bool) (a b : Ex) (p : Pos)
  | eq (neg : Bool) (a b : Ex) (p : Pos)
  | cmp (o : Cop) (a b : Ex) (p : Pos)
  | chain (o o2 : Cop) (a b c : Ex) (p : Pos)
  | isN (neg : Bool) (a : Ex) (j : Nat) (q p : Pos)
  | isB (neg : Bool) (a b : Ex) (p : Pos)
  | inS (neg : Bool) (a b : Ex) (p : Pos)
  | inD (neg : Bool) (a b : Ex) (p : Pos)
  | inT (neg : Bool) (a b : Ex) (p : Pos)
  | bop (and : Bool) (as : List Ex) (p : Pos)
  | not (a : Ex) (p : Pos)
  | neg (a : Ex) (p : Pos)
  | ife (c a b : Ex) (p : Pos)
  | tup (es : List Ex) (k : Nat) (p : Pos)
  | lst (m : Bool) (es : List Ex) (p : Pos)
  | dic0 (m tk : Bool) (p : Pos)
  | dic (m tk : Bool) (ks vs : List Ex) (p : Pos)
  | idx (a i : Ex) (p : Pos)
  | dget (a i : Ex) (p : Pos)
  | slc (m : Bool) (a : Ex) (lo hi : Option Ex) (q p : Pos)
  | rev (m : Bool) (a : Ex) (j : Nat) (q1 q2 q3 p : Pos)
  | call (f : Str) (m : Bool) (q : Pos) (es : List Ex) (p : Pos)
  | b1 (b : B1) (m : Bool) (q : Pos) (e : Ex) (p : Pos)
  | sset (m : Bool) (q1 q2 : Pos) (e : Ex) (p2 p : Pos)
  | lset (q1 q2 : Pos) (e : Ex) (p2 p : Pos)
  | sum2 (m : Bool) (q : Pos) (e : Ex) (qe p : Pos)
  | mm2 (mx : Bool) (q : Pos) (a b : Ex) (p : Pos)
  | mmd (mx : Bool) (q : Pos) (a d : Ex) (kq p : Pos)
  | mth (o : Mt) (m : Bool) (a : Ex) (ap : Pos) (es : List Ex) (p : Pos)
  | isi (q : Pos) (a : Ex) (ty : Ty) (tq p : Pos)
  | att (a : Ex) (f : Str) (p : Pos)
  | isx (q : Pos) (a : Ex) (cls : Str) (tq p : Pos)
  | lc (m : Bool) (elt : Ex) (tg : Tg) (it : It) (cond : Option Ex) (sc : Scope) (own : List (Str × Nat)) (p : Pos)
/-- what is walked -/
inductive It where
  | seq (a : Ex)
  | rng1 (q : Pos) (a : Ex) (p : Pos)
  | rng2 (q : Pos) (a b : Ex) (p : Pos)
  | enm (q : Pos) (a : Ex) (p : Pos)
  | zip (q : Pos) (a b : Ex) (p : Pos)
  | itms (a : Ex) (ap p : Pos)
  | vals (a : Ex) (ap p : Pos)
  | kys (a : Ex)
end
instance : Inhabited Ex := ⟨.lit .non 0 ⟨0, 0, 0, 0⟩⟩
inductive St where
  | expr (e : Ex) (p : Pos)
  | asg (tg : Tg) (e : Ex) (p : Pos)
  | aset (o i : Ex) (q : Pos) (e : Ex) (p : Pos)
  | dset (o i : Ex) (q : Pos) (e : Ex) (p : Pos)
  | aug (i : Nat) (x : Str) (q : Pos) (o : Bop) (e : Ex) (p : Pos)
  | ifS (c : Ex) (a b : List St) (p : Pos)
  | forS (tg : Tg) (it : It) (body : List St) (p : Pos)
  | whl (c : Ex) (body : List St) (p : Pos)
  | ret (e : Ex) (p : Pos)
  | ret0 (p : Pos)
  | raise (cls : Str) (q : Pos) (es : List Ex) (cp p : Pos)
  | tryS (body : List St) (cls : Str) (q : Pos) (i : Nat) (x : Str) (suite : List St) (hp p : Pos)
  | pass (p : Pos) | brk (p : Pos) | cont (p : Pos)
deriving Inhabited

/-! ### back to the tree of the row -/
def Bop.op : Bop → Operator
  | .add => .Add | .sub => .Sub | .mul => .Mult | .mod => .Mod | .fdiv => .FloorDiv | .pow => .Pow
def Cop.op : Cop → CmpOp
  | .lt => .Lt | .le => .LtE | .gt => .Gt | .ge => .GtE
def B1.nm : B1 → Str
  | .len => "len" | .sorted => "sorted" | .list => "list" | .tuple => "tuple" | .sum => "sum" | .min => "min" | .max => "max" | .all => "all" | .any => "any" | .int => "int" | .str => "str" | .dict => "dict"
def Mt.nm : Mt → Str
  | .append => "append" | .extend => "extend" | .pop => "pop" | .reverse => "reverse" | .clear => "clear" | .index => "index" | .join => "join" | .get1 => "get" | .get2 => "get" | .setdefault => "setdefault" | .update => "update"
def Ty.nm : Ty → Str
  | .int => "int" | .bool => "bool" | .str => "str" | .list => "list" | .tuple => "tuple"
def Lit.c : Lit → Const
  | .non => .none | .bl b => .bool b | .int i => .int i | .str x => .str x
def Lit.d : Lit → Dt
  | .non => .non | .bl b => .bl b | .int i => .int i | .str x => .str x
mutual
def Tg.e : Tg → Expr
  | .nm _ x p => .Name x p
  | .tp ts k p => .Tuple (Tgs.e ts) k p
def Tgs.e : List Tg → List Expr
  | [] => []
  | t :: r => t.e :: Tgs.e r
end
mutual
def Ex.e : Ex → Expr
  | .var _ x p => .Name x p
  | .glb x p => .Name x p
  | .lit c j p => .Constant c.c j p
  | .bin o _ a b p => .BinOp a.e o.op b.e p
  | .eq neg a b p => .Compare a.e [if neg = true then .NotEq else .Eq] [b.e] p
  | .cmp o a b p => .Compare a.e [o.op] [b.e] p
  | .chain o o2 a b c p => .Compare a.e [o.op, o2.op] [b.e, c.e] p
  | .isN neg a j q p => .Compare a.e [if neg = true then .IsNot else .Is] [.Constant .none j q] p
  | .isB neg a b p => .Compare a.e [if neg = true then .IsNot else .Is] [b.e] p
  | .inS neg a b p => .Compare a.e [if neg = true then .NotIn else .In] [b.e] p
  | .inD neg a b p => .Compare a.e [if neg = true then .NotIn else .In] [b.e] p
  | .inT neg a b p => .Compare a.e [if neg = true then .NotIn else .In] [b.e] p
  | .bop and as p => .BoolOp (if and = true then .And else .Or) (Exs.e as) p
  | .not a p => .UnaryOp .Not a.e p
  | .neg a p => .UnaryOp .USub a.e p
  | .ife c a b p => .IfExp c.e a.e b.e p
  | .tup es k p => .Tuple (Exs.e es) k p
  | .lst _ es p => .List (Exs.e es) p
  | .dic0 _ _ p => .Dict [] [] p
  | .dic _ _ ks vs p => .Dict (Exs.eS ks) (Exs.e vs) p
  | .idx a i p => .Subscript a.e i.e p
  | .dget a i p => .Subscript a.e i.e p
  | .slc _ a lo hi q p => .Subscript a.e (.Slice (ExO.e lo) (ExO.e hi) none q) p
  | .rev _ a j q1 q2 q3 p => .Subscript a.e (.Slice none none (some (.UnaryOp .USub (.Constant (.int 1) j q1) q2)) q3) p
  | .call f _ q es p => .Call (.Name f q) (Exs.e es) [] p
  | .b1 b _ q e p => .Call (.Name b.nm q) [e.e] [] p
  | .sset _ q1 q2 e p2 p => .Call (.Name "sorted" q1) [.Call (.Name "set" q2) [e.e] [] p2] [] p
  | .lset q1 q2 e p2 p => .Call (.Name "len" q1) [.Call (.Name "set" q2) [e.e] [] p2] [] p
  | .sum2 _ q e qe p => .Call (.Name "sum" q) [e.e, .List [] qe] [] p
  | .mm2 mx q a b p => .Call (.Name (if mx = true then "max" else "min") q) [a.e, b.e] [] p
  | .mmd mx q a d kq p => .Call (.Name (if mx = true then "max" else "min") q) [a.e] [⟨some "default", d.e, kq⟩] p
  | .mth o _ a ap es p => .Call (.Attribute a.e o.nm ap) (Exs.e es) [] p
  | .isi q a ty tq p => .Call (.Name "isinstance" q) [a.e, .Name ty.nm tq] [] p
  | .att a f p => .Attribute a.e f p
  | .isx q a cls tq p => .Call (.Name "isinstance" q) [a.e, .Name cls tq] [] p
  | .lc _ elt tg it cond sc _ p => .ListComp elt.e [{ target := tg.e, iter := it.e, ifs := ExO.l cond, is_async := 0 }] sc p
def It.e : It → Expr
  | .seq a => a.e
  | .rng1 q a p => .Call (.Name "range" q) [a.e] [] p
  | .rng2 q a b p => .Call (.Name "range" q) [a.e, b.e] [] p
  | .enm q a p => .Call (.Name "enumerate" q) [a.e] [] p
  | .zip q a b p => .Call (.Name "zip" q) [a.e, b.e] [] p
  | .itms a ap p => .Call (.Attribute a.e "items" ap) [] [] p
  | .vals a ap p => .Call (.Attribute a.e "values" ap) [] [] p
  | .kys a => a.e
def Exs.e : List Ex → List Expr
  | [] => []
  | a :: r => a.e :: Exs.e r
def Exs.eS : List Ex → List (Option Expr)
  | [] => []
  | a :: r => some a.e :: Exs.eS r
def ExO.e : Option Ex → Option Expr
  | none => none
  | some a => some a.e
def ExO.l : Option Ex → List Expr
  | none => []
  | some a => [a.e]
end
mutual
def St.s : St → Stmt
  | .expr e p => .Expr e.e p
  | .asg tg e p => .Assign [tg.e] e.e p
  | .aset o i q e p => .Assign [.Subscript o.e i.e q] e.e p
  | .dset o i q e p => .Assign [.Subscript o.e i.e q] e.e p
  | .aug _ x q o e p => .AugAssign (.Name x q) o.op e.e p
  | .ifS c a b p => .If c.e (Sts.s a) (Sts.s b) p
  | .forS tg it body p => .For tg.e it.e (Sts.s body) [] p
  | .whl c body p => .While c.e (Sts.s body) [] p
  | .ret e p => .Return (some e.e) p
  | .ret0 p => .Return none p
  | .raise cls q es cp p => .Raise (some (.Call (.Name cls q) (Exs.e es) [] cp)) none p
  | .tryS body cls q _ x suite hp p => .Try (Sts.s body) [.ExceptHandler (some (.Name cls q)) (some x) (Sts.s suite) hp] [] [] p
  | .pass p => .Pass p
  | .brk p => .Break p
  | .cont p => .Continue p
def Sts.s : List St → List Stmt
  | [] => []
  | a :: r => a.s :: Sts.s r
end
end Gw

namespace Gw
open PySem L2

/-- around an expression: the defs' own meaning, where this frame's cells begin -/
structure Cxt where
  call : Str → Option (Bool → List Wd → Store → Res Wd)
  base : Nat
  fuel : Nat
  /-- an own error: its word, its further fields -/
  err : Str → Option (Str × List Str)
  /-- whether an error of the first class is one of the second -/
  isa : Str → Str → Option Bool
  /-- the module's constants -/
  glb : Str → Option Wd
  /-- not within an except suite -/
  calm : Bool

/-- a list made of values -/
def mkL (m : Bool) (ws : List Wd) (S : Store) : Res Wd := match m with
  | true => if ws.all noX = true then .ok (.h S.length) (S ++ [.lst false ws]) else .no
  | false => (keeps S ws).bd fun ds S' => .ok (.t (.lst ds)) S'
def mkD (m tk : Bool) (kvs : List (List Key × Wd)) (S : Store) : Res Wd := match m with
  | true => if kvs.all (fun p => noX p.2) = true then .ok (.h S.length) (S ++ [.dic tk false kvs]) else .no
  | false => (keeps S (kvs.map (·.2))).bd fun ds S' => .ok (.t (.dic tk ((kvs.map (·.1)).zip ds))) S'
def mkT (ws : List Wd) (S : Store) : Res Wd := (keeps S ws).bd fun ds S' => .ok (.t (.tup ds)) S'

def intsD : List Dt → Option (List Int)
  | [] => some []
  | .int i :: r => (intsD r).map (i :: ·)
  | _ => none
def blsD : List Dt → Option (List Bool)
  | [] => some []
  | .bl i :: r => (blsD r).map (i :: ·)
  | _ => none
def strsD : List Dt → Option (List Str)
  | [] => some []
  | .str i :: r => (strsD r).map (i :: ·)
  | _ => none
/-- the items of a list or tuple, trees -/
def itemsF (S : Store) (w : Wd) : Option (List Dt) := match vw S w with
  | .seq false ws => mapO (rdF S) ws
  | _ => none
/-- the items of a list, tuple or dict, trees -/
def itemsK (S : Store) (w : Wd) : Option (List Dt) := match vw S w with
  | .seq _ ws => mapO (rdF S) ws
  | .dic tk kvs => some (kvs.map fun p => dtOf tk p.1)
  | .oth => none
def sortable (ds : List Dt) : Bool :=
  ds.all pln && (ds.all fun d => ds.all fun e => PySem.W.alike (pd d) (pd e)) &&
    ((ds.all fun d => match d with | .tup (_ :: _) => true | _ => false) || (ds.all fun d => match d with | .tup _ => false | .non => false | _ => true)) && ds.all fun d => decide ((pd d).depth ≤ 64)
def dle (d e : Dt) : Bool := PySem.W.dataLe false pd d e
def dlt (d e : Dt) : Bool := !dle e d
/-- insertion, that the kernel can run -/
def insD (d : Dt) : List Dt → List Dt
  | [] => [d]
  | e :: r => if dle d e = true then d :: e :: r else e :: insD d r
def isortD : List Dt → List Dt
  | [] => []
  | d :: r => insD d (isortD r)
def sortD (ds : List Dt) : Option (List Dt) := if sortable ds = true then some (isortD ds) else none
def dedup : List Dt → List Dt
  | [] => []
  | d :: r => let r' := dedup r; if r'.any (fun e => decide (PyData.eqv (pd e) (pd d) = true)) = true then r' else d :: r'
def flat : Dt → Bool
  | .int _ => true
  | .str _ => true
  | .tup ds => (mapO atomK ds).isSome
  | _ => false
/-- of some texts, of some numbers, of some tuples alone -/
def setable (ds : List Dt) : Bool := (ds.all fun d => match d with | .int _ => true | _ => false) || (ds.all fun d => match d with | .str _ => true | _ => false) || (ds.all fun d => match d with | .tup es => (mapO atomK es).isSome | _ => false)
def leastD (better : Dt → Dt → Bool) : Dt → List Dt → Dt
  | d, [] => d
  | d, e :: r => leastD better (if better e d = true then e else d) r

def binD (m : Bool) (o : Bop) (a b : Wd) (S : Store) : Res Wd := match o, a, b with
  | .add, .t (.int i), .t (.int j) => .ok (.t (.int (i + j))) S
  | .sub, .t (.int i), .t (.int j) => .ok (.t (.int (i - j))) S
  | .mul, .t (.int i), .t (.int j) => if (-(2 ^ 64) < j ∧ j < 2 ^ 64) ∨ (-(2 ^ 64) < i ∧ i < 2 ^ 64) then .ok (.t (.int (i * j))) S else .no
  | .mod, .t (.int i), .t (.int j) => if 0 < j then .ok (.t (.int (i % j))) S else .no
  | .fdiv, .t (.int i), .t (.int j) => if 0 < j ∧ j.natAbs.log2 < 8000 then .ok (.t (.int (i / j))) S else .no
  | .pow, .t (.int i), .t (.int j) => if 0 ≤ j ∧ j ≤ 1000 ∧ i.natAbs < 2 ^ 64 then .ok (.t (.int (i ^ j.toNat))) S else .no
  | .add, .t (.str x), .t (.str y) => if x.length + y.length ≤ lineN then .ok (.t (.str (x ++ y))) S else .no
  | .add, .t (.tup x), .t (.tup y) => if x.length + y.length ≤ lineN then .ok (.t (.tup (x ++ y))) S else .no
  | .add, a, b => match vw S a, vw S b with
    | .seq false xs, .seq false ys => if xs.length + ys.length ≤ lineN then mkL m (xs ++ ys) S else .no
    | _, _ => .no
  | _, _, _ => .no
def cmpD (o : Cop) (i j : Int) : Bool := match o with
  | .lt => decide (i < j) | .le => decide (i ≤ j) | .gt => decide (j < i) | .ge => decide (j ≤ i)
def isBl (w : Wd) : Option Bool := match w with
  | .t (.bl b) => some b
  | _ => none
def isInt (w : Wd) : Option Int := match w with
  | .t (.int b) => some b
  | _ => none
def isNonD : Dt → Bool
  | .non => true
  | _ => false
def isNon (S : Store) : Wd → Option Bool
  | .t d => some (isNonD d)
  | .h k => match S[k]? with
    | some (.lst _ _) => some false
    | some (.dic _ _ _) => some false
    | some (.frz d) => some (isNonD d)
    | _ => none
  | _ => none
/-- x in xs -/
def inSD (S : Store) (a b : Wd) : Option Bool := match rd S 6 a, vw S b with
  | some d, .seq _ ws => match mapO (rd S 6) ws with
    | some ds => if pln d && SeqAt.shaped (pd d) && plns ds && ds.all (fun e => SeqAt.shaped (pd e)) then some (ds.any fun e => PyData.eqv (pd e) (pd d)) else none
    | none => none
  | _, _ => none
def cutG {α : Type} (xs : List α) (lo hi : Option Int) : List α := (xs.drop (HT.sIx xs.length 0 lo)).take (HT.sIx xs.length xs.length hi - HT.sIx xs.length 0 lo)
def slcD (m : Bool) (a : Wd) (lo hi : Option Int) (S : Store) : Res Wd := match a with
  | .t (.str x) => if x.length ≤ lineN then .ok (.t (.str (cutS x lo hi))) S else .no
  | .t (.tup ds) => .ok (.t (.tup (cutG ds lo hi))) S
  | a => match vw S a with
    | .seq false ws => mkL m (cutG ws lo hi) S
    | _ => .no
def idxD (a : Wd) (i : Int) (S : Store) : Res Wd := match a with
  | .t (.str x) => if x.length ≤ lineN then (match atI x.cps.toList i with | some c => .ok (.t (.str ⟨#[c]⟩)) S | none => .no) else .no
  | a => match vw S a with
    | .seq _ ws => opt S (atI ws i)
    | _ => .no
def isiB (ty : Ty) : Dt → Option Bool
  | .non => some false
  | .bl _ => some (match ty with | .int => true | .bool => true | _ => false)
  | .int _ => some (match ty with | .int => true | _ => false)
  | .str _ => some (match ty with | .str => true | _ => false)
  | .lst _ => some (match ty with | .list => true | _ => false)
  | .tup _ => some (match ty with | .tuple => true | _ => false)
  | .dic _ _ => none
def isiD (S : Store) (w : Wd) (ty : Ty) : Option Bool := match w with
  | .t d => isiB ty d
  | .h k => match S[k]? with
    | some (.lst _ _) => some (match ty with | .list => true | _ => false)
    | some (.frz d) => isiB ty d
    | _ => none
  | _ => none

def b1D (b : B1) (m : Bool) (w : Wd) (S : Store) : Res Wd := match b with
  | .len => match w with
    | .t (.str x) => if x.length ≤ lineN then .ok (.t (.int x.length)) S else .no
    | w => match vw S w with
      | .seq _ ws => .ok (.t (.int ws.length)) S
      | .dic _ _ => match w with
        | .h k => match S[k]? with
          | some (.dic false false kvs) => .ok (.t (.int kvs.length)) S
          | _ => .no
        | _ => .no
      | .oth => .no
  | .sorted => match itemsF S w with
    | some ds => match sortD ds with
      | some ds => mkL m (ds.map .t) S
      | none => .no
    | none => .no
  | .list => match vw S w with
    | .seq _ ws => mkL m ws S
    | _ => .no
  | .tuple => match vw S w with
    | .seq false ws => mkT ws S
    | .seq true _ => match w with
      | .t d => .ok (.t d) S
      | _ => .no
    | _ => .no
  | .sum => match (itemsF S w).bind intsD with
    | some is => .ok (.t (.int is.sum)) S
    | none => .no
  | .min => match itemsF S w with
    | some (d :: ds) => if sortable (d :: ds) = true then .ok (.t (leastD (fun x y => dlt x y) d ds)) S else .no
    | _ => .no
  | .max => match itemsF S w with
    | some (d :: ds) => if sortable (d :: ds) = true then .ok (.t (leastD (fun x y => dlt y x) d ds)) S else .no
    | _ => .no
  | .all => match (itemsF S w).bind blsD with
    | some bs => .ok (.t (.bl (bs.all id))) S
    | none => .no
  | .any => match (itemsF S w).bind blsD with
    | some bs => .ok (.t (.bl (bs.any id))) S
    | none => .no
  | .int => match w with
    | .t (.int i) => .ok (.t (.int i)) S
    | .t (.bl b) => .ok (.t (.int (if b then 1 else 0))) S
    | _ => .no
  | .str => match w with
    | .t (.int i) => if i.natAbs.log2 < 1900 then .ok (.t (.str (toString i : String))) S else .no
    | _ => .no
  | .dict => .no

/-- a method of a list, dict or text -/
def mthD (base : Nat) (o : Mt) (m : Bool) (w : Wd) (as : List Wd) (S : Store) : Res Wd := match o, as with
  | .append, [a] => match w with
    | .h k => (keepIf (decide (base ≤ k)) S a).bd fun a S1 => match S1[k]? with
      | some (.lst false ws) => if ws.length < lineN then .ok (.t .non) (S1.set k (.lst false (ws ++ [a]))) else .no
      | _ => .no
    | _ => .no
  | .extend, [a] => match w, a with
    | .h k, .h k2 => match S[k2]?, S[k]? with
      | some (.lst _ zs), some (.lst false ws) => if ws.length + zs.length ≤ lineN ∧ zs.all isT = true then .ok (.t .non) (S.set k (.lst false (ws ++ zs))) else .no
      | _, _ => .no
    | _, _ => .no
  | .pop, [] => match w with
    | .h k => match S[k]? with
      | some (.lst false ws) => match ws[ws.length - 1]? with
        | some y => .ok y (S.set k (.lst false ws.dropLast))
        | none => .no
      | _ => .no
    | _ => .no
  | .reverse, [] => match w with
    | .h k => match S[k]? with
      | some (.lst false ws) => .ok (.t .non) (S.set k (.lst false ws.reverse))
      | _ => .no
    | _ => .no
  | .clear, [] => match w with
    | .h k => match S[k]? with
      | some (.lst false ws) => .ok (.t .non) (S.set k (.lst false []))
      | _ => .no
    | _ => .no
  | .index, [.t (.str x)] => match w, vw S w with
    | .c ds, _ => match strsD ds with
      | some xs => match xs.findIdx? (fun y => decide (y = x)) with
        | some j => .ok (.t (.int j)) S
        | none => .no
      | none => .no
    | _, .seq false ws => match (mapO (rdF S) ws).bind strsD with
      | some xs => match xs.findIdx? (fun y => decide (y = x)) with
        | some j => .ok (.t (.int j)) S
        | none => .no
      | none => .no
    | _, _ => .no
  | .join, [a] => match w with
    | .t (.str x) => match (itemsF S a).bind strsD with
      | some xs => if (xs.map fun z => z.length + x.length).sum ≤ 1000000 then .ok (.t (.str (Txt.join x xs))) S else .no
      | none => .no
    | _ => .no
  | .get1, [.t k] => match vw S w with
    | .dic tk kvs => match keyOf tk k with
      | some k => .ok ((getA kvs k).getD (.t .non)) S
      | none => .no
    | _ => .no
  | .get2, [.t k, a] => match vw S w with
    | .dic tk kvs => match keyOf tk k with
      | some k => .ok ((getA kvs k).getD a) S
      | none => .no
    | _ => .no
  | .setdefault, [.t key, a] => match w with
    | .h k => (keepIf (decide (base ≤ k)) S a).bd fun a S1 => match S1[k]? with
      | some (.dic tk false kvs) => match keyOf tk key with
        | some key => match getA kvs key with
          | some v => .ok v S1
          | none => if kvs.length < lineN then .ok a (S1.set k (.dic tk false (putA kvs key a))) else .no
        | none => .no
      | _ => .no
    | _ => .no
  | .update, [a] => match w with
    | .h k => match vw S a with
      | .dic tk zs => match S[k]? with
        | some (.dic tk' false kvs) => if tk = tk' ∧ kvs.length + zs.length ≤ lineN ∧ (zs.all fun p => isT p.2) = true then .ok (.t .non) (S.set k (.dic tk false (zs.foldl (fun acc p => putA acc p.1 p.2) kvs))) else .no
        | _ => .no
      | _ => .no
    | _ => .no
  | _, _ => .no

/-- the handle of a list -/
def isLstC (S : Store) : Wd → Bool
  | .h k => match S[k]? with
    | some (.lst _ _) => true
    | _ => false
  | _ => false
/-- the thing whose method is called -/
def rcvOk (o : Mt) (S : Store) (w : Wd) : Bool := match o with
  | .index => match w with
    | .c _ => true
    | w => match vw S w with
      | .seq false _ => true
      | _ => false
  | .join => match w with
    | .t (.str _) => true
    | _ => false
  | .append => isLstC S w
  | .extend => isLstC S w
  | .pop => isLstC S w
  | .reverse => isLstC S w
  | .clear => isLstC S w
  | _ => match vw S w with
    | .dic _ _ => true
    | _ => false
/-! ### what is walked -/
/-- the list at a handle is walked just now -/
def lockO (S : Store) : Option Nat → Store × Option Nat
  | some k => match S[k]? with
    | some (.lst false ws) => (S.set k (.lst true ws), some k)
    | _ => (S, none)
  | none => (S, none)
def unlockC (S : Store) (o : Option Nat) : Store := match o with
  | some k => match S[k]? with
    | some (.lst true ws) => S.set k (.lst false ws)
    | _ => S
  | none => S
def hdl : Wd → Option Nat
  | .h k => some k
  | _ => none
/- names bound by a walk or by a plain target -/
mutual
def bindT (S : Store) : Tg → Wd → Env → Option Env
  | .nm i _ _, w, ρ => if i < ρ.length then some (ρ.set i (some w)) else none
  | .tp ts _ _, w, ρ => match vw S w with
    | .seq true ws => if ws.length = ts.length then bindTs S ts ws ρ else none
    | _ => none
def bindTs (S : Store) : List Tg → List Wd → Env → Option Env
  | [], [], ρ => some ρ
  | t :: ts, w :: ws, ρ => (bindT S t w ρ).bind fun ρ' => bindTs S ts ws ρ'
  | _, _, _ => none
end
def wipeE (ρ : Env) : List Nat → Env
  | [] => ρ
  | v :: vs => (wipeE ρ vs).set v none
/-- a comprehension's turns -/
def compGo (f : Wd → Store → Res (Option Wd)) : List Wd → Store → Res (List Wd)
  | [], S => .ok [] S
  | w :: r, S => match f w S with
    | .ok o S1 => match compGo f r S1 with
      | .ok ws S2 => .ok (match o with | some w => w :: ws | none => ws) S2
      | _ => .no
    | _ => .no
def rngL (lo hi : Int) : Option (List Wd) := if -(2 ^ 62) ≤ lo ∧ lo < 2 ^ 62 ∧ -(2 ^ 62) ≤ hi ∧ hi < 2 ^ 62 ∧ hi - lo ≤ lineN then some ((List.range (hi - lo).toNat).map fun i => .t (.int (lo + (i : Nat)))) else none

/-- a test -/
def tst (r : Res Wd) : Res Bool := r.bd fun w S => opt S (isBl w)
mutual
def ev (C : Cxt) : Ex → Env → Store → Res Wd
  | .var i _ _, ρ, S => match ρ[i]? with
    | some (some w) => .ok w S
    | _ => .no
  | .glb x _, _, S => opt S (C.glb x)
  | .lit c _ _, _, S => .ok (.t c.d) S
  | .bin o m a b _, ρ, S => (ev C a ρ S).bd fun x S1 => (ev C b ρ S1).bd fun y S2 => binD m o x y S2
  | .eq neg a b _, ρ, S => (ev C a ρ S).bd fun x S1 => (ev C b ρ S1).bd fun y S2 => (opt S2 (eqD S2 x y)).bd fun c S3 => .ok (.t (.bl (neg ^^ c))) S3
  | .cmp o a b _, ρ, S => (ev C a ρ S).bd fun x S1 => (ev C b ρ S1).bd fun y S2 => match x, y with
    | .t (.int i), .t (.int j) => .ok (.t (.bl (cmpD o i j))) S2
    | _, _ => .no
  | .chain o o2 a b c _, ρ, S => (ev C a ρ S).bd fun x S1 => (ev C b ρ S1).bd fun y S2 => (opt S2 (isInt x)).bd fun i S2 => (opt S2 (isInt y)).bd fun j S2 =>
    if cmpD o i j = true then (ev C c ρ S2).bd fun z S3 => (opt S3 (isInt z)).bd fun k S3 => .ok (.t (.bl (cmpD o2 j k))) S3 else .ok (.t (.bl false)) S2
  | .isN neg a _ _ _, ρ, S => (ev C a ρ S).bd fun x S1 => (opt S1 (isNon S1 x)).bd fun c S2 => .ok (.t (.bl (neg ^^ c))) S2
  | .isB neg a b _, ρ, S => (ev C a ρ S).bd fun x S1 => (ev C b ρ S1).bd fun y S2 => match x, y with
    | .t (.bl i), .t (.bl j) => .ok (.t (.bl (neg ^^ decide (i = j)))) S2
    | _, _ => .no
  | .inS neg a b _, ρ, S => (ev C a ρ S).bd fun x S1 => (ev C b ρ S1).bd fun y S2 => (opt S2 (inSD S2 x y)).bd fun c S3 => .ok (.t (.bl (neg ^^ c))) S3
  | .inD neg a b _, ρ, S => (ev C a ρ S).bd fun x S1 => (ev C b ρ S1).bd fun y S2 => match x, vw S2 y with
    | .t d, .dic tk kvs => (opt S2 (keyOf tk d)).bd fun k S3 => .ok (.t (.bl (neg ^^ (getA kvs k).isSome))) S3
    | _, _ => .no
  | .inT neg a b _, ρ, S => (ev C a ρ S).bd fun x S1 => (ev C b ρ S1).bd fun y S2 => match x, y with
    | .t (.str i), .t (.str j) => .ok (.t (.bl (neg ^^ !(Builtin.Str.occurrences j i 0 j.length 1).isEmpty))) S2
    | _, _ => .no
  | .bop and as _, ρ, S => evB C and as ρ S
  | .not a _, ρ, S => (ev C a ρ S).bd fun x S1 => (opt S1 (isBl x)).bd fun b S2 => .ok (.t (.bl (!b))) S2
  | .neg a _, ρ, S => (ev C a ρ S).bd fun x S1 => (opt S1 (isInt x)).bd fun i S2 => .ok (.t (.int (-i))) S2
  | .ife c a b _, ρ, S => (tst (ev C c ρ S)).bd fun x S1 => if x = true then ev C a ρ S1 else ev C b ρ S1
  | .tup es _ _, ρ, S => if es.length ≤ 1000 then (evs C es ρ S).bd fun ws S1 => mkT ws S1 else .no
  | .lst m es _, ρ, S => if es.length ≤ 1000 then (evs C es ρ S).bd fun ws S1 => mkL m ws S1 else .no
  | .dic0 m tk _, _, S => mkD m tk [] S
  | .dic m tk ks vs _, ρ, S => .no
  | .idx a i _, ρ, S => (ev C a ρ S).bd fun x S1 => (ev C i ρ S1).bd fun y S2 => (opt S2 (isInt y)).bd fun j S3 => idxD x j S3
  | .dget a i _, ρ, S => (ev C a ρ S).bd fun x S1 => (ev C i ρ S1).bd fun y S2 => match y, vw S2 x with
    | .t d, .dic tk kvs => (opt S2 (keyOf tk d)).bd fun k S3 => opt S3 (getA kvs k)
    | _, _ => .no
  | .slc m a lo hi _ _, ρ, S => (ev C a ρ S).bd fun x S1 => (evO C lo ρ S1).bd fun l S2 => (evO C hi ρ S2).bd fun h S3 => slcD m x l h S3
  | .rev m a _ _ _ _ _, ρ, S => (ev C a ρ S).bd fun x S1 => match vw S1 x with
    | .seq false ws => mkL m ws.reverse S1
    | _ => .no
  | .call f m _ es _, ρ, S => match C.call f with
    | some g => (evs C es ρ S).bd (g m)
    | none => .no
  | .b1 b m _ e _, ρ, S => if C.calm = false then .no else (ev C e ρ S).bd fun w S1 => b1D b m w S1
  | .sset m _ _ e _ _, ρ, S => if C.calm = false then .no else (ev C e ρ S).bd fun w S1 => match itemsF S1 w with
    | some ds => if setable ds = true then (match sortD (dedup ds) with
      | some ds => mkL m (ds.map .t) S1
      | none => .no) else .no
    | none => .no
  | .lset _ _ e _ _, ρ, S => if C.calm = false then .no else (ev C e ρ S).bd fun w S1 => match itemsF S1 w with
    | some ds => if setable ds = true then .ok (.t (.int (dedup ds).length)) S1 else .no
    | none => .no
  | .sum2 m _ e _ _, ρ, S => .no
  | .mm2 mx _ a b _, ρ, S => if C.calm = false then .no else (ev C a ρ S).bd fun x S1 => (ev C b ρ S1).bd fun y S2 => match rdF S2 x, rdF S2 y with
    | some d, some e => if sortable [d, e] = true then .ok (if (if mx = true then dlt d e else dlt e d) = true then y else x) S2 else .no
    | _, _ => .no
  | .mmd mx _ a d _ _, ρ, S => .no
  | .mth o m a _ es _, ρ, S => if C.calm = false then .no else (ev C a ρ S).bd fun w S1 => if rcvOk o S1 w = true then (evs C es ρ S1).bd fun ws S2 => mthD C.base o m w ws S2 else .no
  | .isi _ a ty _ _, ρ, S => (ev C a ρ S).bd fun w S1 => (opt S1 (isiD S1 w ty)).bd fun b S2 => .ok (.t (.bl b)) S2
  | .att a f _, ρ, S => (ev C a ρ S).bd fun w S1 => match w with
    | .x e => opt S1 ((e.fs.lookup f).map .t)
    | _ => .no
  | .isx _ a cls _ _, ρ, S => (ev C a ρ S).bd fun w S1 => match w with
    | .x e => (opt S1 (C.isa e.cls cls)).bd fun b S2 => .ok (.t (.bl b)) S2
    | _ => .no
  | .lc m elt tg it cond _ own _, ρ, S => if C.calm = false then .no else (evI C it ρ S).bd fun p S1 => if p.1.length ≤ lineN then
      match compGo (fun w S => match bindT S tg w (wipeE ρ (own.map (·.2))) with
        | some ρ' => (evC C cond ρ' S).bd fun b S => if b = true then (ev C elt ρ' S).bd fun w S => .ok (some w) S else .ok none S
        | none => .no) p.1 (lockO S1 p.2).1 with
      | .ok ws S2 => mkL m ws (unlockC S2 (lockO S1 p.2).2)
      | _ => .no
    else .no
def evs (C : Cxt) : List Ex → Env → Store → Res (List Wd)
  | [], _, S => .ok [] S
  | a :: r, ρ, S => (ev C a ρ S).bd fun w S1 => (evs C r ρ S1).bd fun ws S2 => .ok (w :: ws) S2
def evO (C : Cxt) : Option Ex → Env → Store → Res (Option Int)
  | none, _, S => .ok none S
  | some a, ρ, S => (ev C a ρ S).bd fun w S1 => (opt S1 (isInt w)).bd fun i S2 => .ok (some i) S2
def evC (C : Cxt) : Option Ex → Env → Store → Res Bool
  | none, _, S => .ok true S
  | some a, ρ, S => tst (ev C a ρ S)
/-- and, or, of True and False -/
def evB (C : Cxt) (and : Bool) : List Ex → Env → Store → Res Wd
  | [], _, _ => .no
  | a :: r, ρ, S => match r with
    | [] => (ev C a ρ S).bd fun w S1 => (opt S1 (isBl w)).bd fun b S2 => .ok (.t (.bl b)) S2
    | _ :: _ => (ev C a ρ S).bd fun w S1 => (opt S1 (isBl w)).bd fun b S2 => if (b ^^ and) = true then .ok (.t (.bl b)) S2 else evB C and r ρ S2
/-- what is walked: its items, the cell that is walked -/
def evI (C : Cxt) : It → Env → Store → Res (List Wd × Option Nat)
  | .rng1 _ a _, ρ, S => (ev C a ρ S).bd fun w S1 => (opt S1 ((isInt w).bind fun n => rngL 0 n)).bd fun ws S2 => .ok (ws, none) S2
  | .rng2 _ a b _, ρ, S => (ev C a ρ S).bd fun w S1 => (ev C b ρ S1).bd fun v S2 => (opt S2 ((isInt w).bind fun lo => (isInt v).bind fun n => rngL lo n)).bd fun ws S3 => .ok (ws, none) S3
  | .enm _ a _, ρ, S => (ev C a ρ S).bd fun w S1 => match itemsF S1 w, vw S1 w with
    | some ds, .seq false _ => .ok (((List.range ds.length).zip ds).map fun p => .t (.tup [.int (p.1 : Nat), p.2]), hdl w) S1
    | _, _ => .no
  | .zip _ a b _, ρ, S => (ev C a ρ S).bd fun w S1 => (ev C b ρ S1).bd fun v S2 => match itemsF S2 w, vw S2 w, itemsF S2 v, vw S2 v with
    | some ds, .seq false _, some es, .seq false _ => if isT w && isT v then .ok ((ds.zip es).map fun p => .t (.tup [p.1, p.2]), none) S2 else .no
    | _, _, _, _ => .no
  | .itms a _ _, ρ, S => (ev C a ρ S).bd fun w S1 => match w, vw S1 w with
    | .t _, .dic tk kvs => (opt S1 (mapO (fun p => (rdF S1 p.2).map fun d => Wd.t (.tup [dtOf tk p.1, d])) kvs)).bd fun ws S2 => .ok (ws, none) S2
    | _, _ => .no
  | .vals a _ _, ρ, S => (ev C a ρ S).bd fun w S1 => match w, vw S1 w with
    | .t _, .dic tk kvs => .ok (kvs.map (·.2), none) S1
    | _, _ => .no
  | .kys a, ρ, S => (ev C a ρ S).bd fun w S1 => match w, vw S1 w with
    | .t _, .dic tk kvs => .ok (kvs.map fun p => .t (dtOf tk p.1), none) S1
    | _, _ => .no
  | .seq a, ρ, S => (ev C a ρ S).bd fun w S1 => match vw S1 w with
    | .seq _ ws => .ok (ws, hdl w) S1
    | _ => .no
end
end Gw

namespace Gw
open PySem L2

inductive Out where
  | nx (ρ : Env) (S : Store) | rt (w : Wd) (S : Store) | bk (ρ : Env) (S : Store) | ct (ρ : Env) (S : Store) | ex (e : Exn) (ρ : Env) (S : Store) | no
/-- an expression's end in a statement -/
def Res.st {α : Type} (r : Res α) (ρ : Env) (f : α → Store → Out) : Out := match r with
  | .ok a S => f a S
  | .ex e S => .ex e ρ S
  | .no => .no
def Out.unl (o : Out) (k : Option Nat) : Out := match o with
  | .nx ρ S => .nx ρ (unlockC S k)
  | .rt w S => .rt w (unlockC S k)
  | .ex e ρ S => .ex e ρ (unlockC S k)
  | _ => .no
def forGo (f : Wd → Env → Store → Out) : List Wd → Env → Store → Out
  | [], ρ, S => .nx ρ S
  | w :: r, ρ, S => match f w ρ S with
    | .nx ρ S => forGo f r ρ S
    | .ct ρ S => forGo f r ρ S
    | .bk ρ S => .nx ρ S
    | o => o
def whGo (c : Env → Store → Res Bool) (f : Env → Store → Out) : Nat → Env → Store → Out
  | 0, _, _ => .no
  | n + 1, ρ, S => (c ρ S).st ρ fun b S1 => if b = true then (match f ρ S1 with
    | .nx ρ S => whGo c f n ρ S
    | .ct ρ S => whGo c f n ρ S
    | .bk ρ S => .nx ρ S
    | o => o) else .nx ρ S1
def asetD (base : Nat) (w : Wd) (i : Int) (v : Wd) (S : Store) : Res Unit := match w with
  | .h k => (keepIf (decide (base ≤ k)) S v).bd fun v S => match S[k]? with
    | some (.lst false ws) => match ixN ws.length i with
      | some j => .ok () (S.set k (.lst false (ws.set j v)))
      | none => .no
    | _ => .no
  | _ => .no
def dsetD (base : Nat) (w : Wd) (key : Wd) (v : Wd) (S : Store) : Res Unit := match w, key with
  | .h k, .t key => (keepIf (decide (base ≤ k)) S v).bd fun v S => match S[k]? with
    | some (.dic tk false kvs) => match keyOf tk key with
      | some key => if kvs.length < lineN then .ok () (S.set k (.dic tk false (putA kvs key v))) else .no
      | none => .no
    | _ => .no
  | _, _ => .no
def bindA (C : Cxt) (S : Store) (tg : Tg) (w : Wd) (ρ : Env) : Option Env := match tg with
  | .nm _ _ _ => bindT S tg w ρ
  | .tp _ _ _ => if C.calm = true then bindT S tg w ρ else none
def toOut (S : Store) (o : Option Env) : Out := match o with
  | some ρ => .nx ρ S
  | none => .no
def Out.gone (o : Out) (i : Nat) : Out := match o with
  | .nx ρ S => .nx (ρ.set i none) S
  | .bk ρ S => .bk (ρ.set i none) S
  | .ct ρ S => .ct (ρ.set i none) S
  | .rt w S => .rt w S
  | _ => .no
mutual
def exec (C : Cxt) : St → Env → Store → Out
  | .expr e _, ρ, S => (ev C e ρ S).st ρ fun _ S => .nx ρ S
  | .asg tg e _, ρ, S => (ev C e ρ S).st ρ fun w S => toOut S (bindA C S tg w ρ)
  | .aset o i _ e _, ρ, S => (ev C e ρ S).st ρ fun v S => (ev C o ρ S).st ρ fun w S => (ev C i ρ S).st ρ fun j S => (opt S (isInt j)).st ρ fun j S => (asetD C.base w j v S).st ρ fun _ S => .nx ρ S
  | .dset o i _ e _, ρ, S => (ev C e ρ S).st ρ fun v S => (ev C o ρ S).st ρ fun w S => (ev C i ρ S).st ρ fun j S => (dsetD C.base w j v S).st ρ fun _ S => .nx ρ S
  | .aug i _ _ o e _, ρ, S => match ρ[i]? with
    | some (some x) => (ev C e ρ S).st ρ fun y S => match o, x, y with
      | .add, .t (.int a), .t (.int b) => if i < ρ.length then .nx (ρ.set i (some (.t (.int (a + b))))) S else .no
      | .sub, .t (.int a), .t (.int b) => if i < ρ.length then .nx (ρ.set i (some (.t (.int (a - b))))) S else .no
      | _, _, _ => .no
    | _ => .no
  | .ifS c a b _, ρ, S => (tst (ev C c ρ S)).st ρ fun x S => if x = true then execs C a ρ S else execs C b ρ S
  | .forS tg it body _, ρ, S => if C.calm = false then .no else (evI C it ρ S).st ρ fun p S => (forGo (fun w ρ S => match bindT S tg w ρ with
    | some ρ' => execs C body ρ' S
    | none => .no) p.1 ρ (lockO S p.2).1).unl (lockO S p.2).2
  | .whl c body _, ρ, S => if C.calm = false then .no else whGo (fun ρ S => tst (ev C c ρ S)) (fun ρ S => execs C body ρ S) C.fuel ρ S
  | .ret e _, ρ, S => (ev C e ρ S).st ρ fun w S => .rt w S
  | .ret0 _, _, S => .rt (.t .non) S
  | .raise cls _ es _ _, ρ, S => .no
  | .tryS body cls _ i _ suite _ _, ρ, S => .no
  | .pass _, ρ, S => .nx ρ S
  | .brk _, ρ, S => .bk ρ S
  | .cont _, ρ, S => .ct ρ S
def execs (C : Cxt) : List St → Env → Store → Out
  | [], ρ, S => .nx ρ S
  | a :: r, ρ, S => match exec C a ρ S with
    | .nx ρ S => execs C r ρ S
    | o => o
end
/-- a def: its names by slot, how many are parameters, its body -/
structure Fn where
  N : List Str
  np : Nat
  body : List St
/-- a program: its defs, its errors, which of them is which -/
structure Prg where
  fn : Str → Option Fn
  err : Str → Option (Str × List Str)
  isa : Str → Str → Option Bool
  glb : Str → Option Wd
/-- what a def hands back: a tree, the cells that it made gone; or as it is -/
def endF (tree : Bool) (n : Nat) (w : Wd) (S : Store) : Res Wd := match tree with
  | true => (keep S w).bd fun d S' => .ok (.t d) (S'.take n)
  | false => .ok w S
def evF (P : Prg) : Nat → Str → Bool → List Wd → Store → Res Wd
  | 0, _, _, _, _ => .no
  | n + 1, f, m, ws, S => match P.fn f with
    | some F => if ws.length = F.np then (match execs ⟨fun g => if (P.fn g).isSome = true then some (evF P n g) else none, S.length, 1000000000, P.err, P.isa, P.glb, true⟩ F.body (ws.map some ++ List.replicate (F.N.length - ws.length) none) S with
      | .nx _ S' => endF (!m) S.length (.t .non) S'
      | .rt w S' => endF (!m) S.length w S'
      | .ex e _ S' => .ex e (S'.take S.length)
      | _ => .no) else .no
    | none => .no
/-- what a call of a def means -/
def callOf (P : Prg) (n : Nat) : Str → Option (Bool → List Wd → Store → Res Wd) := fun g => if (P.fn g).isSome = true then some (evF P n g) else none
end Gw

namespace Gw
open PySem PySem.Spec PyProof.Rows L2

/-! ### heaps -/
structure XR (H H' : Hp) : Prop where
  rd : ∀ a u, Rd H a u → Rd H' a u
  tp : ∀ a xs, H a = some (.tup xs) → H' a = some (.tup xs)
theorem XR.refl (H : Hp) : XR H H := ⟨fun _ _ h => h, fun _ _ h => h⟩
theorem XR.trans {H H1 H2 : Hp} (a : XR H H1) (b : XR H1 H2) : XR H H2 := ⟨fun x u h => b.rd x u (a.rd x u h), fun x u h => b.tp x u (a.tp x u h)⟩
theorem Rd.some {H : Hp} {a : Addr} {u : HO} (h : Rd H a u) : ∃ o, H a = some o := by
  rcases h with h | ⟨o, h⟩
  · exact ⟨_, h⟩
  · exact ⟨_, h⟩
theorem rd_none {H : Hp} {a : Addr} {u : HO} (h : H a = none) : ¬ Rd H a u := fun r => by
  obtain ⟨o, e⟩ := Rd.some r
  rw [h] at e; cases e
theorem rd_ne {H : Hp} {a b : Addr} {u : HO} (h : Rd H a u) (hb : H b = none) : a ≠ b := fun e => by
  rw [e] at h; exact rd_none hb h
theorem rd_upd {H : Hp} {a b : Addr} {u o : HO} (h : Rd H a u) (n : a ≠ b) : Rd (upd H b o) a u := by
  rcases h with h | ⟨z, h⟩
  · exact .inl (by rw [upd_ne n]; exact h)
  · exact .inr ⟨z, by rw [upd_ne n]; exact h⟩
theorem XR.new {H : Hp} {p : Addr} {o : HO} (h : H p = none) : XR H (upd H p o) :=
  ⟨fun a u r => rd_upd r (rd_ne r h), fun a xs e => by rw [upd_ne (ne_of_none e h)]; exact e⟩
/-- an object that is not of it changes -/
theorem XR.mut {H H' : Hp} {p : Addr} {o : HO} (x : XR H H') (h : H p = none) : XR H (upd H' p o) :=
  ⟨fun a u r => rd_upd (x.rd a u r) (rd_ne r h), fun a xs e => by rw [upd_ne (ne_of_none e h)]; exact x.tp a xs e⟩
theorem XR.both {H H' : Hp} {p : Addr} {o : HO} (x : XR H H') (h : H' p = none) : XR (upd H p o) (upd H' p o) := by
  refine ⟨fun a u r => ?_, fun a xs e => ?_⟩
  · by_cases ha : a = p
    · subst ha
      rcases r with r | ⟨z, r⟩
      · rw [upd_same] at r; exact .inl (by rw [upd_same]; exact r)
      · rw [upd_same] at r; exact .inr ⟨z, by rw [upd_same]; exact r⟩
    · refine rd_upd (x.rd a u ?_) ha
      rcases r with r | ⟨z, r⟩
      · rw [upd_ne ha] at r; exact .inl r
      · rw [upd_ne ha] at r; exact .inr ⟨z, r⟩
  · by_cases ha : a = p
    · subst ha; rw [upd_same] at e ⊢; exact e
    · rw [upd_ne ha] at e ⊢; exact x.tp a xs e
theorem XR.none {H H' : Hp} (x : XR H H') {p : Addr} (h : H' p = none) : H p = none := by
  cases e : H p with
  | none => rfl
  | some o =>
    cases o with
    | frz ob u =>
      have r := x.rd p u (.inr ⟨_, e⟩)
      exact absurd r (rd_none h)
    | _ => exact absurd (x.rd p _ (.inl e)) (rd_none h)
/-- the thing at d is locked, as what it is -/
theorem XR.lock {H : Hp} {d : Addr} {u : HO} {od : Obj} (h : H d = some u) (mu : Mut (some u)) : XR H (upd H d (.frz od u)) := by
  refine ⟨fun a v r => ?_, fun a xs e => ?_⟩
  · by_cases ha : a = d
    · subst ha
      rcases r with r | ⟨z, r⟩
      · rw [h] at r; cases r; exact .inr ⟨od, upd_same⟩
      · rw [h] at r; cases r; exact False.elim mu
    · exact rd_upd r ha
  · have ha : a ≠ d := fun z => by rw [z, h] at e; cases e; exact mu
    rw [upd_ne ha]; exact e

/-! ### trees in a heap -/
mutual
inductive Rp (K : PySem.W.Frag) (H : Hp) : V → Dt → Prop
  | non : Rp K H .non .non
  | bl (b : Bool) : Rp K H (.bl b) (.bl b)
  | int (i : Int) : Rp K H (.int i) (.int i)
  | str (x : Str) : Rp K H (.str x) (.str x)
  | lst {a : Addr} {vs : List V} {ds : List Dt} : SqL K H a vs → RpA K H vs ds → Rp K H (.ref a) (.lst ds)
  | tup {a : Addr} {vs : List V} {ds : List Dt} : H a = some (.tup vs) → RpA K H vs ds → Rp K H (.ref a) (.tup ds)
  | dK {a : Addr} {kvs : List (Key × V)} {ks : List (List Key)} {ds : List Dt} {es : List (List Key × Dt)} : Rd H a (.dK kvs) → kvs.map (fun p => [p.1]) = es.map (·.1) → RpA K H (kvs.map (·.2)) ds → es.map (·.2) = ds → Rp K H (.ref a) (.dic false es)
  | dT {a : Addr} {kvs : List (List Key × V)} {ds : List Dt} {es : List (List Key × Dt)} : Rd H a (.dT kvs) → kvs.map (·.1) = es.map (·.1) → RpA K H (kvs.map (·.2)) ds → es.map (·.2) = ds → Rp K H (.ref a) (.dic true es)
inductive RpA (K : PySem.W.Frag) (H : Hp) : List V → List Dt → Prop
  | nil : RpA K H [] []
  | cons {v : V} {vs : List V} {d : Dt} {ds : List Dt} : Rp K H v d → RpA K H vs ds → RpA K H (v :: vs) (d :: ds)
end
theorem sqL_mono {K : PySem.W.Frag} {H H' : Hp} (x : XR H H') {a : Addr} {vs : List V} (h : SqL K H a vs) : SqL K H' a vs := by
  rcases h with h | h
  · exact .inl (x.rd _ _ h)
  · exact .inr h
mutual
theorem Rp.mono {K : PySem.W.Frag} {H H' : Hp} (x : XR H H') : ∀ {v : V} {d : Dt}, Rp K H v d → Rp K H' v d
  | _, _, .non => .non
  | _, _, .bl b => .bl b
  | _, _, .int i => .int i
  | _, _, .str z => .str z
  | _, _, .lst h r => .lst (sqL_mono x h) (RpA.mono x r)
  | _, _, .tup h r => .tup (x.tp _ _ h) (RpA.mono x r)
  | _, _, .dK (ks := ks) h e r e2 => .dK (ks := ks) (x.rd _ _ h) e (RpA.mono x r) e2
  | _, _, .dT h e r e2 => .dT (x.rd _ _ h) e (RpA.mono x r) e2
theorem RpA.mono {K : PySem.W.Frag} {H H' : Hp} (x : XR H H') : ∀ {vs : List V} {ds : List Dt}, RpA K H vs ds → RpA K H' vs ds
  | _, _, .nil => .nil
  | _, _, .cons h r => .cons (h.mono x) (RpA.mono x r)
end
theorem RpA.paired {K : PySem.W.Frag} {H : Hp} : ∀ {vs : List V} {ds : List Dt}, RpA K H vs ds → Paired (Rp K H) vs ds
  | _, _, .nil => .nil
  | _, _, .cons h r => .cons h (RpA.paired r)
theorem RpA.of {K : PySem.W.Frag} {H : Hp} : ∀ {vs : List V} {ds : List Dt}, Paired (Rp K H) vs ds → RpA K H vs ds
  | _, _, .nil => .nil
  | _, _, .cons h r => .cons h (RpA.of r)
theorem RpA.length {K : PySem.W.Frag} {H : Hp} {vs : List V} {ds : List Dt} (h : RpA K H vs ds) : vs.length = ds.length := h.paired.length
mutual
/-- plain data, as the library has it -/
theorem Rp.dp {K : PySem.W.Frag} {H : Hp} : ∀ {v : V} {d : Dt}, Rp K H v d → pln d = true → Dp K H v (pd d)
  | _, _, .non, _ => by unfold pd; exact .non
  | _, _, .bl b, _ => by unfold pd; exact .bl b
  | _, _, .int i, _ => by unfold pd; exact .int i
  | _, _, .str z, _ => by unfold pd; exact .str z
  | _, _, .lst h r, p => by unfold pd; exact .lst h (RpA.dp r (by unfold pln at p; exact p))
  | _, _, .tup h r, p => by unfold pd; exact .tup (.inl (.inl h)) (RpA.dp r (by unfold pln at p; exact p))
  | _, _, .dK _ _ _ _, p => by unfold pln at p; cases p
  | _, _, .dT _ _ _ _, p => by unfold pln at p; cases p
theorem RpA.dp {K : PySem.W.Frag} {H : Hp} : ∀ {vs : List V} {ds : List Dt}, RpA K H vs ds → plns ds = true → DpAll K H vs (pds ds)
  | _, _, .nil, _ => by unfold pds; exact .nil
  | _, _, .cons h r, p => by
    unfold plns at p
    obtain ⟨p1, p2⟩ := Bool.and_eq_true_iff.mp p
    unfold pds
    exact .cons (h.dp p1) (RpA.dp r p2)
end

/-! ### the store in a heap -/
/-- what the error of a suite is; the heap that stood at its entry -/
structure Xr where
  r : Exn → V → Prop
  h0 : Hp
/-- a value of the interpreter; xr: what the error of a suite is -/
def WR (K : PySem.W.Frag) (Hf : Hp) (μ : List V) (xr : Xr) : Wd → V → Prop
  | .t d, v => Rp K Hf v d
  | .h k, v => μ[k]? = some v
  | .x e, v => xr.r e v
  | .c ds, v => ∃ a vs, v = .ref a ∧ (∃ o, K.lookup a = some o ∧ o.cls = .type "tuple" ∧ o.dict = none) ∧ SqT K Hf a vs ∧ RpA K Hf vs ds
abbrev noXr : Xr := ⟨fun _ _ => False, fun _ => none⟩
/-- a cell -/
inductive CR (K : PySem.W.Frag) (H Hf : Hp) (μ : List V) : Cl → V → Prop
  | lst {lk : Bool} {ws : List Wd} {a : Addr} {vs : List V} : H a = some (.lst vs) → Hf a = none → Paired (WR K Hf μ noXr) ws vs → CR K H Hf μ (.lst lk ws) (.ref a)
  | dK {lk : Bool} {kws : List (List Key × Wd)} {a : Addr} {kvs : List (Key × V)} {o : HO} : H a = some o → (if lk = true then ∃ ob, o = .frz ob (.dK kvs) else o = .dK kvs) → Hf a = none →
      kvs.map (fun p => [p.1]) = kws.map (·.1) → Paired (WR K Hf μ noXr) (kws.map (·.2)) (kvs.map (·.2)) → CR K H Hf μ (.dic false lk kws) (.ref a)
  | dT {lk : Bool} {kws : List (List Key × Wd)} {a : Addr} {kvs : List (List Key × V)} {o : HO} : H a = some o → (if lk = true then ∃ ob, o = .frz ob (.dT kvs) else o = .dT kvs) → Hf a = none →
      kvs.map (·.1) = kws.map (·.1) → Paired (WR K Hf μ noXr) (kws.map (·.2)) (kvs.map (·.2)) → CR K H Hf μ (.dic true lk kws) (.ref a)
  | frz {d : Dt} {v : V} : Rp K Hf v d → CR K H Hf μ (.frz d) v
def live : Cl → Bool
  | .frz _ => false
  | _ => true
def lockedC : Cl → Bool
  | .lst lk _ => lk
  | .dic _ lk _ => lk
  | _ => false
def hsW : Wd → List Nat
  | .h k => [k]
  | _ => []
/-- the handles in a cell -/
def hsC : Cl → List Nat
  | .lst _ ws => ws.flatMap hsW
  | .dic _ _ kvs => (kvs.map (·.2)).flatMap hsW
  | .ins _ fs => (fs.map (·.2)).flatMap hsW
  | .frz _ => []
structure Sm (K : PySem.W.Frag) (bs : List Nat) (μ : List V) (S : Store) (H Hf : Hp) : Prop where
  len : μ.length = S.length
  cell : ∀ (k : Nat) (c : Cl) (v : V), S[k]? = some c → μ[k]? = some v → CR K H Hf μ c v
  sep : ∀ (k k' : Nat) (c c' : Cl) (v : V), S[k]? = some c → S[k']? = some c' → live c = true → live c' = true → μ[k]? = some v → μ[k']? = some v → k = k'
  sub : XR Hf H
  bsz : ∀ b ∈ bs, b ≤ S.length
  frm : ∀ b ∈ bs, ∀ (k : Nat) (c : Cl), k < b → S[k]? = some c → ∀ j ∈ hsC c, j < b
/-- an object beside the store -/
def Free (S : Store) (μ : List V) (H Hf : Hp) (a : Addr) (o : HO) : Prop := H a = some o ∧ Hf a = none ∧ ∀ (k : Nat) (c : Cl), S[k]? = some c → live c = true → μ[k]? ≠ some (.ref a)
/-- from a state to a later one -/
structure Xt (S : Store) (μ : List V) (H Hf : Hp) (S' : Store) (μ' : List V) (H' Hf' : Hp) : Prop where
  mu : ∃ t, μ' = μ ++ t
  fr : XR Hf Hf'
  lk : ∀ (k : Nat) (c : Cl) (a : Addr), S[k]? = some c → lockedC c = true → μ[k]? = some (.ref a) → (∃ c', S'[k]? = some c' ∧ lockedC c' = true) ∧ H' a = H a
  un : ∀ (a : Addr) (o : HO), Free S μ H Hf a o → Free S' μ' H' Hf' a o
section
variable {K : PySem.W.Frag} {bs : List Nat} {μ μ' μ2 : List V} {S S' S2 : Store} {H Hf H' Hf' H2 Hf2 : Hp} {xr : Xr}
theorem Xt.refl : Xt S μ H Hf S μ H Hf := ⟨⟨[], by simp⟩, .refl _, fun k c a h1 h2 _ => ⟨⟨c, h1, h2⟩, rfl⟩, fun _ _ h => h⟩
theorem mu_get {k : Nat} {v : V} (h : ∃ t, μ' = μ ++ t) (e : μ[k]? = some v) : μ'[k]? = some v := by
  obtain ⟨t, rfl⟩ := h
  rw [List.getElem?_append_left (List.getElem?_eq_some_iff.mp e).1]
  exact e
theorem Xt.trans (a : Xt S μ H Hf S' μ' H' Hf') (b : Xt S' μ' H' Hf' S2 μ2 H2 Hf2) : Xt S μ H Hf S2 μ2 H2 Hf2 := by
  refine ⟨?_, a.fr.trans b.fr, fun k c ad h1 h2 h3 => ?_, fun x o h => b.un x o (a.un x o h)⟩
  · obtain ⟨t, e⟩ := a.mu
    obtain ⟨t', e'⟩ := b.mu
    exact ⟨t ++ t', by rw [e', e, List.append_assoc]⟩
  · obtain ⟨⟨c', q1, q2⟩, q3⟩ := a.lk k c ad h1 h2 h3
    obtain ⟨z, q4⟩ := b.lk k c' ad q1 q2 (mu_get a.mu h3)
    exact ⟨z, q4.trans q3⟩
theorem WR.mono {w : Wd} {v : V} (hm : ∃ t, μ' = μ ++ t) (hf : XR Hf Hf') (h : WR K Hf μ xr w v) : WR K Hf' μ' xr w v := by
  cases w with
  | t d => exact Rp.mono hf h
  | h k => exact mu_get hm h
  | x e => exact h
  | c ds =>
    obtain ⟨a, vs, e, q, s, r⟩ := h
    refine ⟨a, vs, e, q, ?_, r.mono hf⟩
    rcases s with s | s
    · exact .inl (hf.rd _ _ s)
    · exact .inr s
theorem WR.xt {w : Wd} {v : V} (x : Xt S μ H Hf S' μ' H' Hf') (h : WR K Hf μ xr w v) : WR K Hf' μ' xr w v := h.mono x.mu x.fr
theorem wrs_mono {ws : List Wd} {vs : List V} (hm : ∃ t, μ' = μ ++ t) (hf : XR Hf Hf') (h : Paired (WR K Hf μ xr) ws vs) : Paired (WR K Hf' μ' xr) ws vs := L2.Paired.mapP h fun _ _ r => r.mono hm hf
/-- a value without errors -/
theorem WR.reX {w : Wd} {v : V} {xr' : Xr} (hn : ∀ e, w ≠ .x e) (h : WR K Hf μ xr w v) : WR K Hf μ xr' w v := by
  cases w with
  | x e => exact absurd rfl (hn e)
  | _ => exact h
theorem Sm.mem (s : Sm K bs μ S H Hf) {k : Nat} {c : Cl} (h : S[k]? = some c) : ∃ v, μ[k]? = some v := by
  have hk := (List.getElem?_eq_some_iff.mp h).1
  rw [← s.len] at hk
  exact ⟨μ[k], List.getElem?_eq_getElem hk⟩
theorem Sm.mem' (s : Sm K bs μ S H Hf) {k : Nat} {v : V} (h : μ[k]? = some v) : ∃ c, S[k]? = some c := by
  have hk := (List.getElem?_eq_some_iff.mp h).1
  rw [s.len] at hk
  exact ⟨S[k], List.getElem?_eq_getElem hk⟩
/-- nothing of it lies at a new address -/
theorem Sm.fresh (s : Sm K bs μ S H Hf) {p : Addr} (h : H p = none) : Hf p = none := s.sub.none h
end
end Gw

namespace Gw
open PySem PySem.Spec PyProof.Rows L2
section
variable {K : PySem.W.Frag} {bs : List Nat} {μ μ' μ2 : List V} {S S' S2 : Store} {H Hf H' Hf' H2 Hf2 : Hp} {xr : Xr}
theorem CR.at_ {c : Cl} {v : V} (h : CR K H Hf μ c v) (hl : live c = true) : ∃ a o, v = .ref a ∧ H a = some o ∧ Hf a = none := by
  cases h with
  | lst h1 h2 _ => exact ⟨_, _, rfl, h1, h2⟩
  | dK h1 _ h2 _ _ => exact ⟨_, _, rfl, h1, h2⟩
  | dT h1 _ h2 _ _ => exact ⟨_, _, rfl, h1, h2⟩
  | frz _ => cases hl
theorem CR.keep {c : Cl} {v : V} (h : CR K H Hf μ c v) (hm : ∃ t, μ' = μ ++ t) (hf : XR Hf Hf') (ha : ∀ a, live c = true → v = .ref a → H' a = H a ∧ Hf' a = none) : CR K H' Hf' μ' c v := by
  cases h with
  | lst h1 h2 h3 =>
    obtain ⟨e1, e2⟩ := ha _ rfl rfl
    exact .lst (by rw [e1]; exact h1) e2 (wrs_mono hm hf h3)
  | dK h1 h0 h2 h3 h4 =>
    obtain ⟨e1, e2⟩ := ha _ rfl rfl
    exact .dK (by rw [e1]; exact h1) h0 e2 h3 (wrs_mono hm hf h4)
  | dT h1 h0 h2 h3 h4 =>
    obtain ⟨e1, e2⟩ := ha _ rfl rfl
    exact .dT (by rw [e1]; exact h1) h0 e2 h3 (wrs_mono hm hf h4)
  | frz h1 => exact .frz (h1.mono hf)
theorem mu_id : ∃ t : List V, μ = μ ++ t := ⟨[], by simp⟩
/-- a new tree's object -/
theorem Sm.tree (s : Sm K bs μ S H Hf) {p : Addr} {o : HO} (hp : H p = none) : Sm K bs μ S (upd H p o) (upd Hf p o) ∧ Xt S μ H Hf S μ (upd H p o) (upd Hf p o) := by
  have hf := s.fresh hp
  refine ⟨⟨s.len, fun k c v h1 h2 => ?_, s.sep, s.sub.both hp, s.bsz, s.frm⟩, ⟨mu_id, XR.new hf, fun k c a h1 h2 h3 => ⟨⟨c, h1, h2⟩, ?_⟩, fun a o' ⟨f1, f2, f3⟩ => ⟨by rw [upd_ne (ne_of_none f1 hp)]; exact f1, by rw [upd_ne (ne_of_none f1 hp)]; exact f2, f3⟩⟩⟩
  · have cr := s.cell k c v h1 h2
    refine cr.keep mu_id (XR.new hf) fun a hl e => ?_
    obtain ⟨a', o', e', h, h'⟩ := cr.at_ hl
    rw [e] at e'; cases e'
    have n : a ≠ p := ne_of_none h hp
    exact ⟨upd_ne n, by rw [upd_ne n]; exact h'⟩
  · have cr := s.cell k c _ h1 h3
    have hl : live c = true := by cases c <;> first | rfl | cases h2
    obtain ⟨a', o', e', h, h'⟩ := cr.at_ hl
    cases e'
    exact upd_ne (ne_of_none h hp)
/-- a new cell -/
theorem Sm.newC (s : Sm K bs μ S H Hf) {p : Addr} {o : HO} {c : Cl} (hp : H p = none) (cr : CR K (upd H p o) Hf (μ ++ [.ref p]) c (.ref p)) (hl : lockedC c = false) :
    Sm K bs (μ ++ [.ref p]) (S ++ [c]) (upd H p o) Hf ∧ Xt S μ H Hf (S ++ [c]) (μ ++ [.ref p]) (upd H p o) Hf := by
  have hf := s.fresh hp
  have old : ∀ {k : Nat} {c' : Cl}, (S ++ [c])[k]? = some c' → (S[k]? = some c' ∧ k < S.length) ∨ (k = S.length ∧ c' = c) := fun {k c'} h => by
    by_cases hk : k < S.length
    · rw [List.getElem?_append_left hk] at h; exact .inl ⟨h, hk⟩
    · rw [List.getElem?_append_right (by omega)] at h
      have : k - S.length = 0 := by
        cases e : k - S.length with
        | zero => rfl
        | succ n => rw [e] at h; simp at h
      rw [this] at h
      simp at h
      exact .inr ⟨by omega, h.symm⟩
  have oldm : ∀ {k : Nat} {v : V}, (μ ++ [V.ref p])[k]? = some v → k < S.length → μ[k]? = some v := fun {k v} h hk => by
    rw [← s.len] at hk
    rwa [List.getElem?_append_left hk] at h
  have newm : ∀ {v : V}, (μ ++ [V.ref p])[S.length]? = some v → v = .ref p := fun {v} h => by
    rw [← s.len, List.getElem?_append_right (Nat.le_refl _)] at h
    simp at h; exact h.symm
  have ad : ∀ {k : Nat} {c' : Cl} {v : V}, S[k]? = some c' → live c' = true → μ[k]? = some v → ∃ a, v = .ref a ∧ a ≠ p ∧ Hf a = none := fun {k c' v} h1 h2 h3 => by
    obtain ⟨a, o', e, h, h'⟩ := (s.cell k c' v h1 h3).at_ h2
    exact ⟨a, e, ne_of_none h hp, h'⟩
  refine ⟨⟨by simp [s.len], fun k c' v h1 h2 => ?_, fun k k' c1 c2 v h1 h2 l1 l2 m1 m2 => ?_, s.sub.mut hf, fun b hb => ?_, fun b hb k c' hk h => ?_⟩, ⟨⟨_, rfl⟩, .refl _, fun k c' a h1 h2 h3 => ⟨⟨c', ?_, h2⟩, ?_⟩, fun a o' ⟨f1, f2, f3⟩ => ⟨by rw [upd_ne (ne_of_none f1 hp)]; exact f1, f2, fun k c' h1 h2 h3 => ?_⟩⟩⟩
  · rcases old h1 with ⟨h1, hk⟩ | ⟨rfl, rfl⟩
    · have m := oldm h2 hk
      have cr' := s.cell k c' v h1 m
      refine cr'.keep ⟨_, rfl⟩ (.refl _) fun a hl' e => ?_
      obtain ⟨a', e', n, h'⟩ := ad h1 hl' m
      rw [e] at e'; cases e'
      exact ⟨upd_ne n, h'⟩
    · rw [newm h2]; exact cr
  · rcases old h1 with ⟨g1, hk⟩ | ⟨e1, f1⟩
    · rcases old h2 with ⟨g2, hk'⟩ | ⟨e2, f2⟩
      · exact s.sep k k' c1 c2 v g1 g2 l1 l2 (oldm m1 hk) (oldm m2 hk')
      · obtain ⟨a, e, n, _⟩ := ad g1 l1 (oldm m1 hk)
        rw [e2] at m2
        rw [newm m2] at e
        cases e; exact absurd rfl n
    · rcases old h2 with ⟨g2, hk'⟩ | ⟨e2, f2⟩
      · obtain ⟨a, e, n, _⟩ := ad g2 l2 (oldm m2 hk')
        rw [e1] at m1
        rw [newm m1] at e
        cases e; exact absurd rfl n
      · rw [e1, e2]
  · have := s.bsz b hb
    rw [List.length_append]; omega
  · rcases old h with ⟨h, _⟩ | ⟨rfl, rfl⟩
    · exact s.frm b hb k c' hk h
    · have := s.bsz b hb
      omega
  · rw [List.getElem?_append_left (List.getElem?_eq_some_iff.mp h1).1]; exact h1
  · have hl' : live c' = true := by cases c' <;> first | rfl | cases h2
    obtain ⟨a', e, n, _⟩ := ad h1 hl' h3
    cases e
    exact upd_ne n
  · rcases old h1 with ⟨g1, hk⟩ | ⟨e1, _⟩
    · exact f3 k c' g1 h2 (oldm h3 hk)
    · rw [e1] at h3
      have e := newm h3
      injection e with e
      exact ne_of_none f1 hp e
theorem set_get {k j : Nat} {c c' : Cl} (h : (S.set k c')[j]? = some c) : (j = k ∧ c = c' ∧ k < S.length) ∨ (j ≠ k ∧ S[j]? = some c) := by
  by_cases e : j = k
  · subst e
    have hl := (List.getElem?_eq_some_iff.mp h).1
    rw [List.length_set] at hl
    rw [List.getElem?_set_self hl] at h
    cases h
    exact .inl ⟨rfl, rfl, hl⟩
  · rw [List.getElem?_set_ne (Ne.symm e)] at h
    exact .inr ⟨e, h⟩
/-- a cell is written: its object is another one -/
theorem Sm.setC (s : Sm K bs μ S H Hf) {k : Nat} {a : Addr} {o : HO} {c c' : Cl} (hc : S[k]? = some c) (hl : live c = true) (hk : lockedC c = false) (hm : μ[k]? = some (.ref a)) (cr : CR K (upd H a o) Hf μ c' (.ref a))
    (hb : ∀ b ∈ bs, k < b → ∀ j ∈ hsC c', j < b) : Sm K bs μ (S.set k c') (upd H a o) Hf ∧ Xt S μ H Hf (S.set k c') μ (upd H a o) Hf := by
  have ha : Hf a = none := by
    obtain ⟨a', o', e, _, h'⟩ := (s.cell k c _ hc hm).at_ hl
    cases e; exact h'
  have ad : ∀ {j : Nat} {c2 : Cl} {v : V}, j ≠ k → S[j]? = some c2 → live c2 = true → μ[j]? = some v → v ≠ .ref a := fun {j c2 v} n h1 h2 h3 e => by
    subst e
    exact n (s.sep j k c2 c _ h1 hc h2 hl h3 hm)
  refine ⟨⟨by simp [s.len], fun j c2 v h1 h2 => ?_, fun j j' c1 c2 v h1 h2 l1 l2 m1 m2 => ?_, s.sub.mut ha, fun b hb => by rw [List.length_set]; exact s.bsz b hb, fun b hb' j c2 hj h => ?_⟩, ⟨mu_id, .refl _, fun j c2 ad' h1 h2 h3 => ?_, fun b o' ⟨f1, f2, f3⟩ => ⟨?_, f2, fun j c2 h1 h2 h3 => ?_⟩⟩⟩
  · rcases set_get h1 with ⟨rfl, rfl, _⟩ | ⟨n, h1⟩
    · rw [hm] at h2; cases h2; exact cr
    · have cr' := s.cell j c2 v h1 h2
      refine cr'.keep mu_id (.refl _) fun a' hl' e => ?_
      obtain ⟨a2, o2, e2, _, h'⟩ := cr'.at_ hl'
      rw [e] at e2; cases e2
      have n' : a' ≠ a := fun z => ad n h1 hl' h2 (by rw [e, z])
      exact ⟨upd_ne n', h'⟩
  · have key : ∀ {i : Nat} {ci : Cl}, (S.set k c')[i]? = some ci → live ci = true → ∃ ci', S[i]? = some ci' ∧ live ci' = true := fun {i ci} h l => by
      rcases set_get h with ⟨rfl, rfl, _⟩ | ⟨_, h⟩
      · exact ⟨c, hc, hl⟩
      · exact ⟨ci, h, l⟩
    obtain ⟨d1, q1, r1⟩ := key h1 l1
    obtain ⟨d2, q2, r2⟩ := key h2 l2
    exact s.sep j j' d1 d2 v q1 q2 r1 r2 m1 m2
  · rcases set_get h with ⟨rfl, rfl, _⟩ | ⟨_, h⟩
    · exact hb b hb' hj
    · exact s.frm b hb' j c2 hj h
  · have n : j ≠ k := fun e => by
      subst e
      rw [hc] at h1; cases h1
      rw [hk] at h2; cases h2
    have hl' : live c2 = true := by cases c2 <;> first | rfl | cases h2
    refine ⟨⟨c2, by rw [List.getElem?_set_ne (Ne.symm n)]; exact h1, h2⟩, upd_ne fun z => ?_⟩
    exact ad n h1 hl' h3 (by rw [z])
  · have n : b ≠ a := fun z => f3 k c hc hl (by rw [z]; exact hm)
    rw [upd_ne n]; exact f1
  · rcases set_get h1 with ⟨rfl, rfl, _⟩ | ⟨_, h1⟩
    · exact f3 j c hc hl h3
    · exact f3 j c2 h1 h2 h3
/-- a cell changes no more: what it is becomes a tree -/
theorem Sm.frzC (s : Sm K bs μ S H Hf) {k : Nat} {a : Addr} {o : HO} {c : Cl} {d : Dt} (hc : S[k]? = some c) (hl : live c = true) (hk : lockedC c = false) (hm : μ[k]? = some (.ref a)) (ho : H a = some o)
    (r : Rp K (upd Hf a o) (.ref a) d) : Sm K bs μ (S.set k (.frz d)) H (upd Hf a o) ∧ Xt S μ H Hf (S.set k (.frz d)) μ H (upd Hf a o) := by
  have ha : Hf a = none := by
    obtain ⟨a', o', e, _, h'⟩ := (s.cell k c _ hc hm).at_ hl
    cases e; exact h'
  have ad : ∀ {j : Nat} {c2 : Cl} {v : V}, j ≠ k → S[j]? = some c2 → live c2 = true → μ[j]? = some v → v ≠ .ref a := fun {j c2 v} n h1 h2 h3 e => by
    subst e
    exact n (s.sep j k c2 c _ h1 hc h2 hl h3 hm)
  have sub : XR (upd Hf a o) H := by
    refine ⟨fun b u q => ?_, fun b xs q => ?_⟩
    · by_cases e : b = a
      · subst e
        rcases q with q | ⟨z, q⟩
        · rw [upd_same] at q; cases q; exact .inl ho
        · rw [upd_same] at q; cases q; exact .inr ⟨z, ho⟩
      · refine s.sub.rd b u ?_
        rcases q with q | ⟨z, q⟩
        · rw [upd_ne e] at q; exact .inl q
        · rw [upd_ne e] at q; exact .inr ⟨z, q⟩
    · by_cases e : b = a
      · subst e; rw [upd_same] at q; cases q; exact ho
      · rw [upd_ne e] at q; exact s.sub.tp b xs q
  refine ⟨⟨by simp [s.len], fun j c2 v h1 h2 => ?_, fun j j' c1 c2 v h1 h2 l1 l2 m1 m2 => ?_, sub, fun b hb => by rw [List.length_set]; exact s.bsz b hb, fun b hb' j c2 hj h => ?_⟩, ⟨mu_id, XR.new ha, fun j c2 ad' h1 h2 h3 => ?_, fun b o' ⟨f1, f2, f3⟩ => ⟨f1, ?_, fun j c2 h1 h2 h3 => ?_⟩⟩⟩
  · rcases set_get h1 with ⟨rfl, rfl, _⟩ | ⟨n, h1⟩
    · rw [hm] at h2; cases h2; exact .frz r
    · have cr' := s.cell j c2 v h1 h2
      refine cr'.keep mu_id (XR.new ha) fun a' hl' e => ⟨rfl, ?_⟩
      obtain ⟨a2, o2, e2, _, h'⟩ := cr'.at_ hl'
      rw [e] at e2; cases e2
      have n' : a' ≠ a := fun z => ad n h1 hl' h2 (by rw [e, z])
      rw [upd_ne n']; exact h'
  · have key : ∀ {i : Nat} {ci : Cl}, (S.set k (.frz d))[i]? = some ci → live ci = true → S[i]? = some ci := fun {i ci} h l => by
      rcases set_get h with ⟨rfl, rfl, _⟩ | ⟨_, h⟩
      · cases l
      · exact h
    exact s.sep j j' c1 c2 v (key h1 l1) (key h2 l2) l1 l2 m1 m2
  · rcases set_get h with ⟨rfl, rfl, _⟩ | ⟨_, h⟩
    · intro i hi; exact absurd hi (by simp [hsC])
    · exact s.frm b hb' j c2 hj h
  · have n : j ≠ k := fun e => by
      subst e
      rw [hc] at h1; cases h1
      rw [hk] at h2; cases h2
    exact ⟨⟨c2, by rw [List.getElem?_set_ne (Ne.symm n)]; exact h1, h2⟩, rfl⟩
  · have n : b ≠ a := fun z => f3 k c hc hl (by rw [z]; exact hm)
    rw [upd_ne n]; exact f2
  · rcases set_get h1 with ⟨rfl, rfl, _⟩ | ⟨_, h1⟩
    · cases h2
    · exact f3 j c2 h1 h2 h3
/-- an object beside the store changes, or comes -/
theorem Sm.side (s : Sm K bs μ S H Hf) {a : Addr} {o : HO} (h1 : Hf a = none) (h2 : ∀ (k : Nat) (c : Cl), S[k]? = some c → live c = true → μ[k]? ≠ some (.ref a)) : Sm K bs μ S (upd H a o) Hf := by
  refine ⟨s.len, fun k c v e1 e2 => ?_, s.sep, s.sub.mut h1, s.bsz, s.frm⟩
  refine (s.cell k c v e1 e2).keep mu_id (.refl _) fun b hl e => ?_
  obtain ⟨b', o', e', h, h'⟩ := (s.cell k c v e1 e2).at_ hl
  rw [e] at e'; cases e'
  have n : b ≠ a := fun z => h2 k c e1 hl (by rw [e2, e, z])
  exact ⟨upd_ne n, h'⟩
theorem Sm.fresh' (s : Sm K bs μ S H Hf) {a : Addr} (h : H a = none) : ∀ (k : Nat) (c : Cl), S[k]? = some c → live c = true → μ[k]? ≠ some (.ref a) := fun k c e1 hl e2 => by
  obtain ⟨b', o', e', h1, h'⟩ := (s.cell k c _ e1 e2).at_ hl
  cases e'
  rw [h] at h1; cases h1
/-- from a state without it -/
theorem Xt.side (x : Xt S μ H Hf S' μ' H' Hf') {a : Addr} {o : HO} (s : Sm K bs μ S H Hf) (h : H a = none) : Xt S μ H Hf S' μ' (upd H' a o) Hf' := by
  refine ⟨x.mu, x.fr, fun k c b e1 e2 e3 => ?_, fun b o' f => ?_⟩
  · obtain ⟨q1, q2⟩ := x.lk k c b e1 e2 e3
    refine ⟨q1, ?_⟩
    have hl : live c = true := by cases c <;> first | rfl | cases e2
    have n : b ≠ a := fun z => s.fresh' h k c e1 hl (by rw [e3, z])
    rw [upd_ne n]; exact q2
  · have n : b ≠ a := ne_of_none f.1 h
    obtain ⟨g1, g2, g3⟩ := x.un b o' f
    exact ⟨by rw [upd_ne n]; exact g1, g2, g3⟩
theorem Free.upd {a : Addr} {o o' : HO} (f : Free S μ H Hf a o) : Free S μ (upd H a o') Hf a o' := ⟨upd_same, f.2.1, f.2.2⟩
/-- fewer cells -/
theorem Sm.cut (s : Sm K bs μ S H Hf) (n : Nat) (hb : ∀ b ∈ bs, b ≤ n) (hn : n ≤ S.length) (hin : ∀ k c, k < n → S[k]? = some c → ∀ j ∈ hsC c, j < n) : Sm K bs (μ.take n) (S.take n) H Hf := by
  have gs : ∀ {k : Nat} {c : Cl}, (S.take n)[k]? = some c → S[k]? = some c ∧ k < n := fun {k c} h => by
    have hk := (List.getElem?_eq_some_iff.mp h).1
    rw [List.length_take] at hk
    exact ⟨by rwa [List.getElem?_take_of_lt (by omega)] at h, by omega⟩
  have gm : ∀ {k : Nat} {v : V}, (μ.take n)[k]? = some v → μ[k]? = some v ∧ k < n := fun {k v} h => by
    have hk := (List.getElem?_eq_some_iff.mp h).1
    rw [List.length_take] at hk
    exact ⟨by rwa [List.getElem?_take_of_lt (by omega)] at h, by omega⟩
  have wr : ∀ {w : Wd} {v : V}, (∀ j ∈ hsW w, j < n) → WR K Hf μ noXr w v → WR K Hf (μ.take n) noXr w v := fun {w v} hj h => by
    cases w with
    | h k =>
      have e : μ[k]? = some v := h
      show (μ.take n)[k]? = some v
      rw [List.getElem?_take_of_lt (hj k (by simp [hsW]))]; exact e
    | _ => exact h
  have wrs : ∀ {ws : List Wd} {vs : List V}, (∀ j ∈ ws.flatMap hsW, j < n) → Paired (WR K Hf μ noXr) ws vs → Paired (WR K Hf (μ.take n) noXr) ws vs := fun {ws vs} hj h => by
    induction h with
    | nil => exact .nil
    | cons h1 h2 ih => exact .cons (wr (fun j q => hj j (by simp [q])) h1) (ih fun j q => hj j (by simp only [List.flatMap_cons, List.mem_append]; exact .inr q))
  refine ⟨by simp [s.len], fun k c v h1 h2 => ?_, fun k k' c c' v h1 h2 l1 l2 m1 m2 => s.sep k k' c c' v (gs h1).1 (gs h2).1 l1 l2 (gm m1).1 (gm m2).1, s.sub, fun b q => by have := hb b q; rw [List.length_take]; omega, fun b hb' k c hk h => s.frm b hb' k c hk (gs h).1⟩
  obtain ⟨g1, hk⟩ := gs h1
  have cr := s.cell k c v g1 (gm h2).1
  have hj := hin k c hk g1
  cases cr with
  | lst q1 q2 q3 => exact .lst q1 q2 (wrs hj q3)
  | dK q1 q0 q2 q3 q4 => exact .dK q1 q0 q2 q3 (wrs hj q4)
  | dT q1 q0 q2 q3 q4 => exact .dT q1 q0 q2 q3 (wrs hj q4)
  | frz r => exact .frz r
end
end Gw

namespace Gw
open PySem PySem.Spec PyProof.Rows L2

theorem impPE {X : Cx} {e : Expr} {t t' : TE} (h : PE X e t) (i : ∀ σ H Q, t' σ H Q → t σ H Q) : PE X e t' := ⟨fun pins s σ H Q I q => h.run pins s σ H Q I (i σ H Q q)⟩
theorem impPT {X : Cx} {e : Expr} {t t' : TT} (h : PT X e t) (i : ∀ σ H Q, t' σ H Q → t σ H Q) : PT X e t' := ⟨fun pins s σ H Q I q => h.run pins s σ H Q I (i σ H Q q)⟩
theorem impPA {X : Cx} {e : List Expr} {t t' : TA} (h : PA X e t) (i : ∀ σ H Q, t' σ H Q → t σ H Q) : PA X e t' := ⟨fun pos pins s σ H Q I q => h.run pos pins s σ H Q I (i σ H Q q)⟩
theorem impPS {X : Cx} {e : Stmt} {t t' : TS} (h : PS X e t) (i : ∀ D σ H, t' D σ H → t D σ H) : PS X e t' := ⟨fun pins s σ H D I q => h.run pins s σ H D I (i D σ H q)⟩
theorem impPSs {X : Cx} {e : List Stmt} {t t' : TS} (h : PSs X e t) (i : ∀ D σ H, t' D σ H → t D σ H) : PSs X e t' := ⟨fun pins s σ H D I q => h.run pins s σ H D I (i D σ H q)⟩
theorem neverPE {X : Cx} {e : Expr} {t : TE} (h : ∀ σ H Q, ¬ t σ H Q) : PE X e t := ⟨fun _ _ σ H Q _ q => absurd q (h σ H Q)⟩
theorem neverPT {X : Cx} {e : Expr} {t : TT} (h : ∀ σ H Q, ¬ t σ H Q) : PT X e t := ⟨fun _ _ σ H Q _ q => absurd q (h σ H Q)⟩
theorem neverPA {X : Cx} {e : List Expr} {t : TA} (h : ∀ σ H Q, ¬ t σ H Q) : PA X e t := ⟨fun _ _ _ σ H Q _ q => absurd q (h σ H Q)⟩

/-- an own error as it flies: its class, its dict's fields -/
def XO (K : PySem.W.Frag) (ca : Str → Addr) (Hf : Hp) (e : Exn) (cls : Value) (d : Option Addr) : Prop :=
  cls = .ref (ca e.cls) ∧ ∃ dd fs, d = some dd ∧ Rd Hf dd (.xd fs) ∧ fs.map (·.1) = e.fs.map (·.1) ∧ RpA K Hf (fs.map (·.2)) (e.fs.map (·.2))
/-- the slots -/
structure En (K : PySem.W.Frag) (Hf : Hp) (μ : List V) (xr : Xr) (ρ : Env) (σ : L2.St) : Prop where
  len : ρ.length = σ.length
  h0 : XR xr.h0 Hf
  at_ : ∀ (i : Nat) (w : Wd), ρ[i]? = some (some w) → ∃ v, σ[i]? = some (some v) ∧ WR K Hf μ xr w v
theorem En.mono {K : PySem.W.Frag} {Hf Hf' : Hp} {μ μ' : List V} {xr : Xr} {ρ : Env} {σ : L2.St} (e : En K Hf μ xr ρ σ) (hm : ∃ t, μ' = μ ++ t) (hf : XR Hf Hf') : En K Hf' μ' xr ρ σ :=
  ⟨e.len, e.h0.trans hf, fun i w h => let ⟨v, h1, h2⟩ := e.at_ i w h; ⟨v, h1, h2.mono hm hf⟩⟩
/-- what is fixed around an expression -/
structure Pa where
  K : PySem.W.Frag
  ca : Str → Addr
  bs : List Nat
  xr : Xr
  W : WX
section
variable (A : Pa)
/-- what is wanted behind an expression -/
def Rs {α β : Type} (R : Hp → List V → α → β → Prop) (σ : L2.St) (S : Store) (μ : List V) (H Hf : Hp) (r : Res α) (Q : β → Hp → Prop) : Prop := match r with
  | .ok w S' => ∀ v μ' H' Hf', Sm A.K A.bs μ' S' H' Hf' → Xt S μ H Hf S' μ' H' Hf' → R Hf' μ' w v → Q v H'
  | .ex e S' => ∀ cls d μ' H' Hf', Sm A.K A.bs μ' S' H' Hf' → Xt S μ H Hf S' μ' H' Hf' → XO A.K A.ca Hf' e cls d → A.W cls d σ H'
  | .no => False
abbrev RW : Hp → List V → Wd → V → Prop := fun Hf μ w v => WR A.K Hf μ A.xr w v
def tEv (ρ : Env) (S : Store) (r : Res Wd) : TE := fun σ H Q => ∃ μ Hf, Sm A.K A.bs μ S H Hf ∧ En A.K Hf μ A.xr ρ σ ∧ Rs A (RW A) σ S μ H Hf r Q
end
section
variable {A : Pa} {α β : Type} {R : Hp → List V → α → β → Prop} {σ : L2.St} {S S1 : Store} {μ μ1 : List V} {H Hf H1 Hf1 : Hp} {r : Res α} {Q : β → Hp → Prop} {ρ : Env}
theorem En.xt {S' : Store} {μ' : List V} {H' Hf' : Hp} {xr : Xr} {K : PySem.W.Frag} (e : En K Hf μ xr ρ σ) (x : Xt S μ H Hf S' μ' H' Hf') : En K Hf' μ' xr ρ σ := e.mono x.mu x.fr
theorem Rs.step (h : Rs A R σ S μ H Hf r Q) (x : Xt S μ H Hf S1 μ1 H1 Hf1) : Rs A R σ S1 μ1 H1 Hf1 r Q := by
  cases r with
  | ok w S' => exact fun v μ' H' Hf' s y w => h v μ' H' Hf' s (x.trans y) w
  | ex e S' => exact fun cls d μ' H' Hf' s y w => h cls d μ' H' Hf' s (x.trans y) w
  | no => exact h
/-- it ends here -/
theorem Rs.done {w : α} {v : β} (h : Rs A R σ S μ H Hf (.ok w S) Q) (s : Sm A.K A.bs μ S H Hf) (r : R Hf μ w v) : Q v H := h v μ H Hf s .refl r
theorem Rs.to {w : α} {v : β} (h : Rs A R σ S μ H Hf (.ok w S1) Q) (s : Sm A.K A.bs μ1 S1 H1 Hf1) (x : Xt S μ H Hf S1 μ1 H1 Hf1) (r : R Hf1 μ1 w v) : Q v H1 := h v μ1 H1 Hf1 s x r
end

section
variable {A : Pa} {X : Cx} {ρ : Env} {S : Store} {e a b : Expr}
/-- one part, then a step -/
theorem un_sd {f : Wd → Store → Res Wd} {g : Res Wd} {T : TE → TE} (ha : PE X a (tEv A ρ S g)) (hn : ∀ ta, PE X a ta → PE X e (T ta))
    (hT : ∀ (σ : L2.St) (H : Hp) (Q : VK) (μ : List V) (Hf : Hp), Sm A.K A.bs μ S H Hf → En A.K Hf μ A.xr ρ σ → (∀ x S1, g = .ok x S1 → Rs A (RW A) σ S μ H Hf (f x S1) Q) → (∀ x S1, g = .ex x S1 → Rs A (RW A) σ S μ H Hf (.ex x S1) Q) → (g = .no → False) → T (tEv A ρ S g) σ H Q) :
    PE X e (tEv A ρ S (g.bd f)) := by
  refine impPE (hn _ ha) fun σ H Q ⟨μ, Hf, sm, en, h⟩ => hT σ H Q μ Hf sm en (fun x S1 q => ?_) (fun x S1 q => ?_) fun q => ?_
  · rw [q] at h; exact h
  · rw [q] at h; exact h
  · rw [q] at h; exact h
/-- a part's value v, then r -/
theorem ev_then {g : Res Wd} {f : Wd → Store → Res Wd} {σ : L2.St} {H : Hp} {Q : VK} {r : V → Hp → Prop} {μ : List V} {Hf : Hp} (sm : Sm A.K A.bs μ S H Hf) (en : En A.K Hf μ A.xr ρ σ) (h : Rs A (RW A) σ S μ H Hf (g.bd f) Q)
    (hr : ∀ x S1 v μ1 H1 Hf1, Sm A.K A.bs μ1 S1 H1 Hf1 → En A.K Hf1 μ1 A.xr ρ σ → WR A.K Hf1 μ1 A.xr x v → Xt S μ H Hf S1 μ1 H1 Hf1 → Rs A (RW A) σ S1 μ1 H1 Hf1 (f x S1) Q → r v H1) : tEv A ρ S g σ H r := by
  refine ⟨μ, Hf, sm, en, ?_⟩
  cases g with
  | ok x S1 => exact fun v μ1 H1 Hf1 s1 x1 w1 => hr x S1 v μ1 H1 Hf1 s1 (en.xt x1) w1 x1 (Rs.step h x1)
  | ex x S1 => exact h
  | no => exact h
theorem un_op {f : Wd → Store → Res Wd} {g : Res Wd} {r : V → Hp → VK → Prop} (ha : PE X a (tEv A ρ S g)) (hn : ∀ ta, PE X a ta → PE X e (fun σ H Q => ta σ H fun x H1 => r x H1 Q))
    (hr : ∀ x S1 v σ H μ Hf Q, Sm A.K A.bs μ S1 H Hf → WR A.K Hf μ A.xr x v → Rs A (RW A) σ S1 μ H Hf (f x S1) Q → r v H Q) : PE X e (tEv A ρ S (g.bd f)) :=
  impPE (hn _ ha) fun σ H Q ⟨μ, Hf, sm, en, h⟩ => ev_then sm en h fun x S1 v μ1 H1 Hf1 s1 _ w1 _ h1 => hr x S1 v σ H1 μ1 Hf1 Q s1 w1 h1
theorem bin_op {f : Wd → Wd → Store → Res Wd} {g : Res Wd} {gb : Store → Res Wd} {r : R2} (ha : PE X a (tEv A ρ S g)) (hb : ∀ S1, PE X b (tEv A ρ S1 (gb S1))) (hn : ∀ ta tb, PE X a ta → PE X b tb → PE X e (tOp r ta tb))
    (hr : ∀ x y S1 v u σ H μ Hf Q, Sm A.K A.bs μ S1 H Hf → WR A.K Hf μ A.xr x v → WR A.K Hf μ A.xr y u → Rs A (RW A) σ S1 μ H Hf (f x y S1) Q → r v u H Q) : PE X e (tEv A ρ S (g.bd fun x S1 => (gb S1).bd fun y S2 => f x y S2)) := by
  cases g with
  | no => exact neverPE fun σ H Q ⟨_, _, _, _, h⟩ => h
  | ex x S1 => exact impPE (hn _ _ ha (hb S)) fun σ H Q ⟨μ, Hf, sm, en, h⟩ => ⟨μ, Hf, sm, en, h⟩
  | ok x S1 =>
    refine impPE (hn _ _ ha (hb S1)) fun σ H Q ⟨μ, Hf, sm, en, h⟩ => ⟨μ, Hf, sm, en, fun v μ1 H1 Hf1 s1 x1 w1 => ?_⟩
    have h' : Rs A (RW A) σ S1 μ1 H1 Hf1 ((gb S1).bd fun y S2 => f x y S2) Q := Rs.step h x1
    exact ev_then s1 (en.xt x1) h' fun y S2 u μ2 H2 Hf2 s2 _ w2 x2 h2 => hr x y S2 v u σ H2 μ2 Hf2 Q s2 (w1.xt x2) w2 h2

/-! ### names and constants -/
theorem sd_var {i : Nat} {x : Str} {p : Pos} (hN : X.N[i]? = some x) (hv : Vis X.env.scope x) (h1 : (x == ("__debug__" : Str)) = false) (h2 : (x == ("__classdict__" : Str)) = false) :
    PE X (.Name x p) (tEv A ρ S (match ρ[i]? with | some (some w) => .ok w S | _ => .no)) := by
  refine impPE (pe_var (i := i) hN hv h1 h2) fun σ H Q ⟨μ, Hf, sm, en, h⟩ => ?_
  cases e : ρ[i]? with
  | none => rw [e] at h; exact h.elim
  | some o =>
    rw [e] at h
    cases o with
    | none => exact h.elim
    | some w =>
      obtain ⟨v, e1, e2⟩ := en.at_ i w e
      exact ⟨v, e1, Rs.done h sm e2⟩
theorem sd_lit {c : Lit} {j : Nat} {p : Pos} : PE X (.Constant c.c j p) (tEv A ρ S (.ok (.t c.d) S)) := by
  cases c with
  | non => exact impPE pe_non fun σ H Q ⟨μ, Hf, sm, en, h⟩ => Rs.done h sm .non
  | bl b => exact impPE pe_bl fun σ H Q ⟨μ, Hf, sm, en, h⟩ => Rs.done h sm (.bl b)
  | int i => exact impPE pe_int fun σ H Q ⟨μ, Hf, sm, en, h⟩ => Rs.done h sm (.int i)
  | str x => exact impPE pe_str fun σ H Q ⟨μ, Hf, sm, en, h⟩ => Rs.done h sm (.str x)
end
end Gw

namespace Gw
open PySem PySem.Spec PyProof.Rows L2
section
variable {K : PySem.W.Frag} {bs : List Nat} {μ μ' : List V} {S S' S1 : Store} {H Hf H' Hf' : Hp} {xr : Xr}

theorem paired_map {α β γ : Type} {R : γ → β → Prop} {f : α → γ} : ∀ {xs : List α} {ys : List β}, Paired (fun a b => R (f a) b) xs ys → Paired R (xs.map f) ys
  | _, _, .nil => .nil
  | _, _, .cons h t => .cons h (paired_map t)
theorem paired_swap {α β : Type} {R : α → β → Prop} : ∀ {xs : List α} {ys : List β}, Paired R xs ys → Paired (fun b a => R a b) ys xs
  | _, _, .nil => .nil
  | _, _, .cons h t => .cons h (paired_swap t)
theorem paired_app {α β : Type} {R : α → β → Prop} : ∀ {xs : List α} {ys : List β} {xs' : List α} {ys' : List β}, Paired R xs ys → Paired R xs' ys' → Paired R (xs ++ xs') (ys ++ ys')
  | _, _, _, _, .nil, h => h
  | _, _, _, _, .cons h t, h' => .cons h (paired_app t h')
theorem paired_take {α β : Type} {R : α → β → Prop} : ∀ {xs : List α} {ys : List β} (n : Nat), Paired R xs ys → Paired R (xs.take n) (ys.take n)
  | _, _, 0, _ => .nil
  | _, _, _ + 1, .nil => .nil
  | _, _, n + 1, .cons h t => .cons h (paired_take n t)
theorem paired_drop {α β : Type} {R : α → β → Prop} : ∀ {xs : List α} {ys : List β} (n : Nat), Paired R xs ys → Paired R (xs.drop n) (ys.drop n)
  | _, _, 0, h => h
  | _, _, _ + 1, .nil => .nil
  | _, _, n + 1, .cons _ t => paired_drop n t
theorem paired_rev {α β : Type} {R : α → β → Prop} : ∀ {xs : List α} {ys : List β}, Paired R xs ys → Paired R xs.reverse ys.reverse
  | _, _, .nil => .nil
  | _, _, .cons h t => by
    rw [List.reverse_cons, List.reverse_cons]
    exact paired_app (paired_rev t) (.cons h .nil)
theorem paired_get {α β : Type} {R : α → β → Prop} : ∀ {xs : List α} {ys : List β} {i : Nat} {x : α}, Paired R xs ys → xs[i]? = some x → ∃ y, ys[i]? = some y ∧ R x y
  | _, _, _, _, .nil, h => by simp at h
  | _, _, 0, x, .cons h t, e => by simp at e; subst e; exact ⟨_, rfl, h⟩
  | _, _, i + 1, x, .cons h t, e => by
    simp only [List.getElem?_cons_succ] at e
    obtain ⟨y, h1, h2⟩ := paired_get t e
    exact ⟨y, by simpa using h1, h2⟩
theorem paired_set {α β : Type} {R : α → β → Prop} {x : α} {y : β} (r : R x y) : ∀ {xs : List α} {ys : List β} (i : Nat), Paired R xs ys → Paired R (xs.set i x) (ys.set i y)
  | _, _, _, .nil => .nil
  | _, _, 0, .cons _ t => .cons r t
  | _, _, i + 1, .cons h t => .cons h (paired_set r i t)
theorem paired_dropLast {α β : Type} {R : α → β → Prop} : ∀ {xs : List α} {ys : List β}, Paired R xs ys → Paired R xs.dropLast ys.dropLast
  | _, _, .nil => .nil
  | _, _, .cons h .nil => .nil
  | _, _, .cons h (.cons h2 t) => .cons h (paired_dropLast (.cons h2 t))
theorem paired_at {α β : Type} {R : α → β → Prop} {xs : List α} {ys : List β} {i : Int} {x : α} (p : Paired R xs ys) (h : atI xs i = some x) : ∃ y, atI ys i = some y ∧ R x y := by
  unfold atI at h ⊢
  rw [← p.length]
  cases e : ixN xs.length i with
  | none => rw [e] at h; cases h
  | some j =>
    rw [e] at h
    exact paired_get p h
theorem paired_mapO {α β γ : Type} {R : α → β → Prop} {R' : γ → β → Prop} {f : α → Option γ} (hf : ∀ a b c, R a b → f a = some c → R' c b) : ∀ {xs : List α} {ys : List β} {zs : List γ}, Paired R xs ys → mapO f xs = some zs → Paired R' zs ys
  | _, _, zs, .nil, h => by
    have : zs = [] := by simpa [mapO] using h.symm
    subst this; exact .nil
  | a :: r, _, zs, .cons h t, e => by
    unfold mapO at e
    cases e1 : f a with
    | none => rw [e1] at e; simp at e
    | some c =>
      cases e2 : mapO f r with
      | none => rw [e1, e2] at e; simp at e
      | some cs =>
        rw [e1, e2] at e
        simp at e
        subst e
        exact .cons (hf _ _ _ h e1) (paired_mapO hf t e2)

/-! ### values seen from without -/
theorem wrt_of {ds : List Dt} {vs : List V} (h : RpA K Hf vs ds) : Paired (WR K Hf μ noXr) (ds.map .t) vs := paired_map (paired_swap (h.paired))
theorem Sm.sqL (s : Sm K bs μ S H Hf) {a : Addr} {vs : List V} (h : SqL K Hf a vs) : SqL K H a vs := sqL_mono s.sub h
theorem Sm.rp (s : Sm K bs μ S H Hf) {v : V} {d : Dt} (h : Rp K Hf v d) : Rp K H v d := h.mono s.sub
theorem vwT_seq {d : Dt} {ws : List Wd} {tup : Bool} {v : V} (s : Sm K bs μ S H Hf) (r : Rp K Hf v d) (h : vwT d = .seq tup ws) :
    ∃ a vs, v = .ref a ∧ (if tup = true then SqT K H a vs else SqL K H a vs) ∧ Paired (WR K Hf μ noXr) ws vs := by
  cases r with
  | lst h1 h2 =>
    obtain ⟨rfl, rfl⟩ : false = tup ∧ _ = ws := by simpa [vwT] using h
    exact ⟨_, _, rfl, s.sqL h1, wrt_of h2⟩
  | tup h1 h2 =>
    obtain ⟨rfl, rfl⟩ : true = tup ∧ _ = ws := by simpa [vwT] using h
    exact ⟨_, _, rfl, .inl (.inl (s.sub.tp _ _ h1)), wrt_of h2⟩
  | _ => simp [vwT] at h
theorem Sm.seq (s : Sm K bs μ S H Hf) {w : Wd} {v : V} {ws : List Wd} {tup : Bool} (r : WR K Hf μ xr w v) (h : vw S w = .seq tup ws) :
    ∃ a vs, v = .ref a ∧ (if tup = true then SqT K H a vs else SqL K H a vs) ∧ Paired (WR K Hf μ noXr) ws vs := by
  cases w with
  | t d => exact vwT_seq s r h
  | x e => simp [vw] at h
  | c ds =>
    obtain ⟨a, vs, e, _, q, rs⟩ := r
    obtain ⟨rfl, rfl⟩ : true = tup ∧ _ = ws := by simpa [vw] using h
    refine ⟨a, vs, e, ?_, wrt_of rs⟩
    rcases q with q | q
    · exact .inl (s.sub.rd _ _ q)
    · exact .inr q
  | h k =>
    unfold vw at h
    cases e : S[k]? with
    | none => simp [e] at h
    | some c =>
      have cr := s.cell k c v e r
      cases c with
      | lst lk zs =>
        obtain ⟨rfl, rfl⟩ : false = tup ∧ _ = ws := by simpa [e] using h
        cases cr with
        | lst h1 h2 h3 => exact ⟨_, _, rfl, SqL.of h1, h3⟩
      | dic tk lk kvs => simp [e] at h
      | ins c fs => simp [e] at h
      | frz d =>
        cases cr with
        | frz r' =>
          have h' : vwT d = .seq tup ws := by simpa [e] using h
          exact vwT_seq s r' h'
/-- a dict that is read -/
def DicR (K : PySem.W.Frag) (H Hf : Hp) (μ : List V) (tk : Bool) (kws : List (List Key × Wd)) (a : Addr) : Prop :=
  (tk = false ∧ ∃ kvs : List (Key × V), Rd H a (.dK kvs) ∧ kvs.map (fun p => [p.1]) = kws.map (·.1) ∧ Paired (WR K Hf μ noXr) (kws.map (·.2)) (kvs.map (·.2))) ∨
  (tk = true ∧ ∃ kvs : List (List Key × V), Rd H a (.dT kvs) ∧ kvs.map (·.1) = kws.map (·.1) ∧ Paired (WR K Hf μ noXr) (kws.map (·.2)) (kvs.map (·.2)))
theorem vwT_dic {d : Dt} {kws : List (List Key × Wd)} {tk : Bool} {v : V} (s : Sm K bs μ S H Hf) (r : Rp K Hf v d) (h : vwT d = .dic tk kws) : ∃ a, v = .ref a ∧ DicR K H Hf μ tk kws a := by
  cases r with
  | dK h1 h2 h3 h4 =>
    rename_i a kvs ks ds es
    obtain ⟨rfl, rfl⟩ : false = tk ∧ _ = kws := by simpa [vwT] using h
    refine ⟨_, rfl, .inl ⟨rfl, kvs, s.sub.rd _ _ h1, ?_, ?_⟩⟩
    · rw [h2, List.map_map]; rfl
    · subst h4
      have := wrt_of (μ := μ) h3
      rw [List.map_map] at this ⊢
      exact this
  | dT h1 h2 h3 h4 =>
    rename_i a kvs ds es
    obtain ⟨rfl, rfl⟩ : true = tk ∧ _ = kws := by simpa [vwT] using h
    refine ⟨_, rfl, .inr ⟨rfl, kvs, s.sub.rd _ _ h1, ?_, ?_⟩⟩
    · rw [h2, List.map_map]; rfl
    · subst h4
      have := wrt_of (μ := μ) h3
      rw [List.map_map] at this ⊢
      exact this
  | _ => simp [vwT] at h
theorem Sm.dic (s : Sm K bs μ S H Hf) {w : Wd} {v : V} {kws : List (List Key × Wd)} {tk : Bool} (r : WR K Hf μ xr w v) (h : vw S w = .dic tk kws) : ∃ a, v = .ref a ∧ DicR K H Hf μ tk kws a := by
  cases w with
  | t d => exact vwT_dic s r h
  | x e => simp [vw] at h
  | c ds => simp [vw] at h
  | h k =>
    unfold vw at h
    cases e : S[k]? with
    | none => simp [e] at h
    | some c =>
      have cr := s.cell k c v e r
      cases c with
      | lst lk zs => simp [e] at h
      | dic tk' lk kvs =>
        obtain ⟨rfl, rfl⟩ : tk' = tk ∧ kvs = kws := by simpa [e] using h
        cases cr with
        | dK h1 h0 h2 h3 h4 =>
          rename_i a kv o
          refine ⟨_, rfl, .inl ⟨rfl, kv, ?_, h3, h4⟩⟩
          cases lk with
          | true => obtain ⟨ob, e⟩ := (if_pos rfl).mp h0; subst e; exact .inr ⟨ob, h1⟩
          | false => have e := (if_neg Bool.false_ne_true).mp h0; subst e; exact .inl h1
        | dT h1 h0 h2 h3 h4 =>
          rename_i a kv o
          refine ⟨_, rfl, .inr ⟨rfl, kv, ?_, h3, h4⟩⟩
          cases lk with
          | true => obtain ⟨ob, e⟩ := (if_pos rfl).mp h0; subst e; exact .inr ⟨ob, h1⟩
          | false => have e := (if_neg Bool.false_ne_true).mp h0; subst e; exact .inl h1
      | ins c fs => simp [e] at h
      | frz d =>
        cases cr with
        | frz r' =>
          have h' : vwT d = .dic tk kws := by simpa [e] using h
          exact vwT_dic s r' h'

/-! ### trees and frozen cells -/
theorem Sm.rdF (s : Sm K bs μ S H Hf) {w : Wd} {v : V} {d : Dt} (r : WR K Hf μ xr w v) (h : rdF S w = some d) : Rp K Hf v d := by
  cases w with
  | t d' =>
    have e : d' = d := Option.some.inj h
    subst e; exact r
  | x e => cases h
  | c ds => cases h
  | h k =>
    unfold Gw.rdF at h
    cases e : S[k]? with
    | none => simp [e] at h
    | some c =>
      cases c with
      | frz d' =>
        have e' : d' = d := by simpa [e] using h
        subst e'
        cases s.cell k _ v e r with
        | frz r' => exact r'
      | _ => simp [e] at h
theorem Sm.rdFs (s : Sm K bs μ S H Hf) {ws : List Wd} {vs : List V} {ds : List Dt} (r : Paired (WR K Hf μ xr) ws vs) (h : mapO (Gw.rdF S) ws = some ds) : RpA K Hf vs ds :=
  RpA.of (paired_swap (paired_mapO (f := Gw.rdF S) (R' := fun d v => Rp K Hf v d) (fun _ _ _ q e => s.rdF q e) r h))
theorem fzAll_ok {f : Store → Wd → Option Store} (hf : ∀ S S' Hf w, Sm K bs μ S H Hf → f S w = some S' → (∃ v, WR K Hf μ noXr w v) → ∃ Hf', Sm K bs μ S' H Hf' ∧ Xt S μ H Hf S' μ H Hf') :
    ∀ (ws : List Wd) (S S' : Store) (Hf : Hp), Sm K bs μ S H Hf → (∀ w ∈ ws, ∃ v, WR K Hf μ noXr w v) → fzAll f S ws = some S' → ∃ Hf', Sm K bs μ S' H Hf' ∧ Xt S μ H Hf S' μ H Hf'
  | [], S, S', Hf, s, _, h => by
    have e : S = S' := Option.some.inj h
    subst e
    exact ⟨Hf, s, .refl⟩
  | w :: r, S, S', Hf, s, hw, h => by
    unfold fzAll at h
    cases e : f S w with
    | none => rw [e] at h; cases h
    | some S1 =>
      rw [e] at h
      obtain ⟨Hf1, s1, x1⟩ := hf S S1 Hf w s e (hw w List.mem_cons_self)
      obtain ⟨Hf2, s2, x2⟩ := fzAll_ok hf r S1 S' Hf1 s1 (fun w' hm => let ⟨v, q⟩ := hw w' (List.mem_cons_of_mem _ hm); ⟨v, q.xt x1⟩) h
      exact ⟨Hf2, s2, x1.trans x2⟩
theorem paired_ex {α β : Type} {R : α → β → Prop} : ∀ {xs : List α} {ys : List β}, Paired R xs ys → ∀ x ∈ xs, ∃ y, R x y
  | _, _, .cons h t, x, hx => by
    rcases List.mem_cons.mp hx with e | hx
    · subst e; exact ⟨_, h⟩
    · exact paired_ex t x hx
theorem mapO_snd {f : Wd → Option Dt} : ∀ {kvs : List (List Key × Wd)} {es : List (List Key × Dt)}, mapO (fun p => (f p.2).map fun d => (p.1, d)) kvs = some es → es.map (·.1) = kvs.map (·.1) ∧ mapO f (kvs.map (·.2)) = some (es.map (·.2))
  | [], es, h => by
    have : es = [] := by simpa [mapO] using h.symm
    subst this; exact ⟨rfl, rfl⟩
  | p :: r, es, h => by
    unfold mapO at h
    cases e1 : f p.2 with
    | none => rw [e1] at h; simp at h
    | some d =>
      cases e2 : mapO (fun p => (f p.2).map fun d => (p.1, d)) r with
      | none => rw [e1, e2] at h; simp at h
      | some ds =>
        rw [e1, e2] at h
        simp at h
        subst h
        obtain ⟨q1, q2⟩ := mapO_snd e2
        refine ⟨by simp [q1], ?_⟩
        simp only [List.map_cons]
        unfold mapO
        rw [e1, q2]
theorem fz_ok : ∀ (n : Nat) (S S' : Store) (Hf : Hp) (w : Wd), Sm K bs μ S H Hf → fz n S w = some S' → (∃ v, WR K Hf μ noXr w v) → ∃ Hf', Sm K bs μ S' H Hf' ∧ Xt S μ H Hf S' μ H Hf'
  | n, S, S', Hf, .t d, s, h, _ => by
    have e : S = S' := by cases n <;> exact Option.some.inj h
    subst e
    exact ⟨Hf, s, .refl⟩
  | n, S, S', Hf, .x e, s, h, _ => by cases n <;> cases h
  | n, S, S', Hf, .c e, s, h, _ => by cases n <;> cases h
  | 0, S, S', Hf, .h k, s, h, _ => by cases h
  | n + 1, S, S', Hf, .h k, s, h, ⟨v, hv⟩ => by
    have hv : μ[k]? = some v := hv
    unfold fz at h
    cases e : S[k]? with
    | none => simp [e] at h
    | some c =>
      have cr := s.cell k c v e hv
      cases c with
      | ins c fs => simp [e] at h
      | frz d =>
        have e' : S = S' := by simpa [e] using h
        subst e'
        exact ⟨Hf, s, .refl⟩
      | lst lk ws =>
        cases lk with
        | true => simp [e] at h
        | false =>
          simp only [e] at h
          cases e1 : fzAll (fz n) S ws with
          | none => simp [e1] at h
          | some S1 =>
            simp only [e1] at h
            have hws : ∀ w ∈ ws, ∃ v, WR K Hf μ noXr w v := by
              cases cr with
              | lst _ _ h3 => exact paired_ex h3
            obtain ⟨Hf1, s1, x1⟩ := fzAll_ok (fun S S' Hf w => fz_ok n S S' Hf w) ws S S1 Hf s hws e1
            cases e2 : S1[k]? with
            | none => simp [e2] at h
            | some c1 =>
              cases c1 with
              | lst lk1 ws1 =>
                cases lk1 with
                | true => simp [e2] at h
                | false =>
                  simp only [e2] at h
                  cases e3 : mapO (Gw.rdF S1) ws1 with
                  | none => simp [e3] at h
                  | some ds =>
                    simp [e3] at h
                    subst h
                    have cr1 := s1.cell k _ v e2 hv
                    cases cr1 with
                    | lst q1 q2 q3 =>
                      rename_i a vs
                      have rp := s1.rdFs q3 e3
                      obtain ⟨s2, x2⟩ := s1.frzC e2 rfl rfl hv q1 (.lst (SqL.of upd_same) (rp.mono (XR.new q2)))
                      exact ⟨_, s2, x1.trans x2⟩
              | _ => simp [e2] at h
      | dic tk lk kvs =>
        cases lk with
        | true => simp [e] at h
        | false =>
          simp only [e] at h
          cases e1 : fzAll (fz n) S (kvs.map (·.2)) with
          | none => simp [e1] at h
          | some S1 =>
            simp only [e1] at h
            have hws : ∀ w ∈ kvs.map (·.2), ∃ v, WR K Hf μ noXr w v := by
              cases cr with
              | dK _ _ _ _ h3 => exact paired_ex h3
              | dT _ _ _ _ h3 => exact paired_ex h3
            obtain ⟨Hf1, s1, x1⟩ := fzAll_ok (fun S S' Hf w => fz_ok n S S' Hf w) (kvs.map (·.2)) S S1 Hf s hws e1
            cases e2 : S1[k]? with
            | none => simp [e2] at h
            | some c1 =>
              cases c1 with
              | dic tk1 lk1 kvs1 =>
                cases lk1 with
                | true => simp [e2] at h
                | false =>
                  simp only [e2] at h
                  cases e3 : mapO (fun p => (Gw.rdF S1 p.2).map fun d => (p.1, d)) kvs1 with
                  | none => simp [e3] at h
                  | some es =>
                    simp [e3] at h
                    subst h
                    obtain ⟨m1, m2⟩ := mapO_snd e3
                    have cr1 := s1.cell k _ v e2 hv
                    cases cr1 with
                    | dK q1 q0 q2 q3 q4 =>
                      rename_i a kv o
                      have e0 := (if_neg Bool.false_ne_true).mp q0
                      subst e0
                      have rp := s1.rdFs q4 m2
                      obtain ⟨s2, x2⟩ := s1.frzC (d := .dic false es) e2 rfl rfl hv q1 (.dK (ks := []) (.inl upd_same) (by rw [q3, m1]) (rp.mono (XR.new q2)) rfl)
                      exact ⟨_, s2, x1.trans x2⟩
                    | dT q1 q0 q2 q3 q4 =>
                      rename_i a kv o
                      have e0 := (if_neg Bool.false_ne_true).mp q0
                      subst e0
                      have rp := s1.rdFs q4 m2
                      obtain ⟨s2, x2⟩ := s1.frzC (d := .dic true es) e2 rfl rfl hv q1 (.dT (.inl upd_same) (by rw [q3, m1]) (rp.mono (XR.new q2)) rfl)
                      exact ⟨_, s2, x1.trans x2⟩
              | _ => simp [e2] at h
/-- what is kept in a tree -/
theorem keep_ok {w : Wd} {v : V} {d : Dt} (s : Sm K bs μ S H Hf) (r : WR K Hf μ xr w v) (h : keep S w = .ok d S') : ∃ Hf', Sm K bs μ S' H Hf' ∧ Xt S μ H Hf S' μ H Hf' ∧ Rp K Hf' v d := by
  unfold keep at h
  cases e : fz 6 S w with
  | none => rw [e] at h; cases h
  | some S1 =>
    rw [e] at h
    have r' : WR K Hf μ noXr w v := by
      cases w with
      | x e' => cases e
      | _ => exact r
    obtain ⟨Hf1, s1, x1⟩ := fz_ok 6 S S1 Hf w s e ⟨v, r'⟩
    replace h : opt S1 (rdF S1 w) = .ok d S' := h
    cases e2 : rdF S1 w with
    | none => rw [e2] at h; cases h
    | some d' =>
      rw [e2] at h
      injection h with h1 h2
      subst h1; subst h2
      exact ⟨Hf1, s1, x1, s1.rdF (r'.xt x1) e2⟩
theorem keep_noex {w : Wd} {e : Exn} : keep S w ≠ .ex e S' := fun h => by
  unfold keep at h
  cases e1 : fz 6 S w with
  | none => rw [e1] at h; cases h
  | some S1 =>
    rw [e1] at h
    replace h : opt S1 (rdF S1 w) = .ex e S' := h
    cases e2 : rdF S1 w with
    | none => rw [e2] at h; cases h
    | some d' => rw [e2] at h; cases h
theorem keeps_ok : ∀ {ws : List Wd} {vs : List V} {ds : List Dt} {S S' : Store} {Hf : Hp}, Sm K bs μ S H Hf → Paired (WR K Hf μ xr) ws vs → keeps S ws = .ok ds S' → ∃ Hf', Sm K bs μ S' H Hf' ∧ Xt S μ H Hf S' μ H Hf' ∧ RpA K Hf' vs ds
  | [], _, ds, S, S', Hf, s, .nil, h => by
    injection h with h1 h2
    subst h1; subst h2
    exact ⟨Hf, s, .refl, .nil⟩
  | w :: r, _, ds, S, S', Hf, s, .cons h1 t, h => by
    unfold keeps at h
    cases e : keep S w with
    | no => rw [e] at h; cases h
    | ex e' S1 => exact absurd e keep_noex
    | ok d S1 =>
      rw [e] at h
      obtain ⟨Hf1, s1, x1, r1⟩ := keep_ok s h1 e
      have h' : (keeps S1 r).bd (fun ds S2 => .ok (d :: ds) S2) = .ok ds S' := h
      cases e2 : keeps S1 r with
      | no => rw [e2] at h'; cases h'
      | ex e' S2 => rw [e2] at h'; cases h'
      | ok ds2 S2 =>
        rw [e2] at h'
        injection h' with h1' h2'
        subst h1'; subst h2'
        obtain ⟨Hf2, s2, x2, r2⟩ := keeps_ok s1 (wrs_mono x1.mu x1.fr t) e2
        exact ⟨Hf2, s2, x1.trans x2, .cons (r1.mono x2.fr) r2⟩
theorem keeps_noex : ∀ {ws : List Wd} {S S' : Store} {e : Exn}, keeps S ws ≠ .ex e S'
  | [], S, S', e, h => by cases h
  | w :: r, S, S', e, h => by
    unfold keeps at h
    cases e1 : keep S w with
    | no => rw [e1] at h; cases h
    | ex e' S1 => exact absurd e1 keep_noex
    | ok d S1 =>
      rw [e1] at h
      have h' : (keeps S1 r).bd (fun ds S2 => .ok (d :: ds) S2) = .ex e S' := h
      cases e2 : keeps S1 r with
      | no => rw [e2] at h'; cases h'
      | ex e' S2 => exact absurd e2 keeps_noex
      | ok ds2 S2 => rw [e2] at h'; cases h'
end
end Gw

namespace Gw
open PySem PySem.Spec PyProof.Rows L2
/-! ### rules that the layer lacks -/
section
variable {X : Cx}
def rCatS (K : PySem.W.Frag) : R2 := fun x y H Q => ∃ l b xs zs, x = .ref l ∧ y = .ref b ∧ SqL K H l xs ∧ SqL K H b zs ∧ xs.length + zs.length ≤ sizeLine ∧ ∀ p, H p = none → Q (.ref p) (upd H p (.lst (xs ++ zs)))
theorem op_catS : OpR X (binaryOp .Add) (rCatS X.K) := by
  intro pins s σ H x y v u Q I rx ry h
  obtain ⟨l, b, xs, zs, rfl, rfl, hH, hB, hz, q⟩ := h
  cases rx
  cases ry
  obtain ⟨its, r, pl, z⟩ := I.list hH
  obtain ⟨its2, r2, pl2, z2⟩ := I.list hB
  obtain ⟨⟨c1, d1, dt1, sl1⟩, n1, ho1, hc1, hd1, hq1⟩ := id pl
  obtain ⟨⟨c2, d2, dt2, sl2⟩, n2, ho2, hc2, hd2, hq2⟩ := id pl2
  simp only at hc1 hd1 hq1 hc2 hd2 hq2
  subst hc1 hd1 hq1 hc2 hd2 hq2
  have hl := r.length
  have hl2 := r2.length
  refine concat_meets ⟨_, ho1, rfl⟩ ⟨_, ho2, rfl⟩ PySem.noFill_list_add PySem.seq_list_add F.slot_list_add F.entry_list_add (F.args_list_add_2 _ _) (list_addW l b its.toArray its2.toArray n1 n2 none none sl1 sl2 (by rw [List.size_toArray, List.size_toArray]; omega)) ⟨ho1, ho2, ?_⟩
  have ea : its.toArray ++ its2.toArray = (its ++ its2).toArray := by simp
  rw [ea]
  exact ⟨.ref _, _, I.lnew (t' := s.toks) (r.append r2) (by rw [List.length_append]; omega), rfl, q _ I.fresh⟩
def rInD (K : PySem.W.Frag) (neg : Bool) : R2 := fun x y H Q => ∃ p xs d ds, y = .ref p ∧ (SqL K H p xs ∨ SqT K H p xs) ∧ Dp K H x d ∧ DpAll K H xs ds ∧ SeqAt.shaped d = true ∧ PyData.canLayAll0 ds = true ∧ Q (.bl (neg ^^ ds.any fun e => PyData.eqv e d)) H
theorem op_inD (neg : Bool) (hu : X.A.units + 65 < cLine) : OpR X (compareOp (if neg = true then .NotIn else .In)) (rInD X.K neg) := by
  intro pins s σ H x y v u Q I rx ry h
  obtain ⟨p, xs, d, ds, rfl, hq, hx, hs, sd, ss, q⟩ := h
  obtain ⟨as, r1⟩ := Dp.reads I d x v hx rx
  cases neg with
  | false =>
    rw [Bool.false_xor] at q
    rcases hq with hq | hq
    · obtain ⟨bs, r2⟩ := Dp.reads I (.list ds) (.ref p) u (.lst hq hs) ry
      exact PySem.SeqAt.in_list_reads r2 r1 (by simpa [PyData.canLay0] using ss) (SeqAt.canLay_of_shaped sd) (room_in_shaped sd hu) ⟨.bl _, H, I, rfl, q⟩
    · obtain ⟨bs, r2⟩ := Dp.reads I (.tuple ds) (.ref p) u (.tup hq hs) ry
      exact PySem.SeqAt.in_tuple_reads r2 r1 (by simpa [PyData.canLay0] using ss) (SeqAt.canLay_of_shaped sd) (room_in_shaped sd hu) ⟨.bl _, H, I, rfl, q⟩
  | true =>
    rw [Bool.true_xor] at q
    rcases hq with hq | hq
    · obtain ⟨bs, r2⟩ := Dp.reads I (.list ds) (.ref p) u (.lst hq hs) ry
      exact PySem.SeqAt.notIn_list_reads r2 r1 (by simpa [PyData.canLay0] using ss) (SeqAt.canLay_of_shaped sd) (room_in_shaped sd hu) ⟨.bl _, H, I, rfl, q⟩
    · obtain ⟨bs, r2⟩ := Dp.reads I (.tuple ds) (.ref p) u (.tup hq hs) ry
      exact PySem.SeqAt.notIn_tuple_reads r2 r1 (by simpa [PyData.canLay0] using ss) (SeqAt.canLay_of_shaped sd) (room_in_shaped sd hu) ⟨.bl _, H, I, rfl, q⟩
end

/-! ### what is made -/
section
variable {A : Pa} {σ : L2.St} {S : Store} {μ : List V} {H Hf : Hp} {Q : VK} {xr : Xr} {ρ : Env} {X : Cx} {e a b : Expr}
theorem noX_of {ws : List Wd} (h : ws.all noX = true) {vs : List V} (r : Paired (WR A.K Hf μ xr) ws vs) : Paired (WR A.K Hf μ noXr) ws vs := by
  induction r with
  | nil => exact .nil
  | cons h1 t ih =>
    rw [List.all_cons, Bool.and_eq_true] at h
    refine .cons (h1.reX fun e z => ?_) (ih h.2)
    rw [z] at h; cases h.1
theorem hs_lt {w : Wd} {v : V} {xr : Xr} (s : Sm A.K A.bs μ S H Hf) (r : WR A.K Hf μ xr w v) : ∀ j ∈ hsW w, j < S.length := fun j hj => by
  cases w with
  | h k =>
    have e : j = k := by simpa [hsW] using hj
    subst e
    have e : μ[j]? = some v := r
    rw [← s.len]
    exact (List.getElem?_eq_some_iff.mp e).1
  | _ => simp [hsW] at hj
/-- a new list of values -/
theorem mkL_rs {m : Bool} {ws : List Wd} {vs : List V} {p : Addr} (s : Sm A.K A.bs μ S H Hf) (r : Paired (WR A.K Hf μ xr) ws vs) (h : Rs A (RW A) σ S μ H Hf (mkL m ws S) Q) (hp : H p = none) : Q (.ref p) (upd H p (.lst vs)) := by
  cases m with
  | true =>
    unfold mkL at h
    simp only at h
    split at h
    · rename_i hn
      have r' := noX_of hn r
      obtain ⟨s1, x1⟩ := s.newC (o := .lst vs) (c := .lst false ws) hp (.lst upd_same (s.fresh hp) (wrs_mono ⟨_, rfl⟩ (.refl _) r')) rfl
      refine h.to s1 x1 ?_
      show (μ ++ [V.ref p])[S.length]? = some (.ref p)
      rw [← s.len]; simp
    · exact h.elim
  | false =>
    unfold mkL at h
    simp only at h
    cases e : keeps S ws with
    | no => rw [e] at h; exact h.elim
    | ex e' S1 => exact absurd e keeps_noex
    | ok ds S1 =>
      rw [e] at h
      obtain ⟨Hf1, s1, x1, r1⟩ := keeps_ok s r e
      obtain ⟨s2, x2⟩ := s1.tree (o := .lst vs) hp
      exact h.to s2 (x1.trans x2) (.lst (SqL.of upd_same) (r1.mono x2.fr))
theorem mkT_rs {ws : List Wd} {vs : List V} {p : Addr} (s : Sm A.K A.bs μ S H Hf) (r : Paired (WR A.K Hf μ xr) ws vs) (h : Rs A (RW A) σ S μ H Hf (mkT ws S) Q) (hp : H p = none) : Q (.ref p) (upd H p (.tup vs)) := by
  unfold mkT at h
  cases e : keeps S ws with
  | no => rw [e] at h; exact h.elim
  | ex e' S1 => exact absurd e keeps_noex
  | ok ds S1 =>
    rw [e] at h
    obtain ⟨Hf1, s1, x1, r1⟩ := keeps_ok s r e
    obtain ⟨s2, x2⟩ := s1.tree (o := .tup vs) hp
    exact h.to s2 (x1.trans x2) (.tup upd_same (r1.mono x2.fr))

/-! ### arithmetic, comparisons -/
theorem wr_int {i : Int} {v : V} (r : WR A.K Hf μ xr (.t (.int i)) v) : v = .int i := by cases r; rfl
theorem wr_str {i : Str} {v : V} (r : WR A.K Hf μ xr (.t (.str i)) v) : v = .str i := by cases r; rfl
theorem wr_bl {i : Bool} {v : V} (r : WR A.K Hf μ xr (.t (.bl i)) v) : v = .bl i := by cases r; rfl
def rBin (K : PySem.W.Frag) (o : Bop) : R2 := match o with
  | .add => fun x y H Q => (rI0 (fun i j => .int (i + j)) x y H Q ∨ ((∃ i j, x = .str i ∧ y = .str j ∧ i.length + j.length ≤ sizeLine ∧ Q (.str (i ++ j)) H) ∨ (rCatS K x y H Q ∨ rCatA K x y H Q)))
  | .sub => rI0 fun i j => .int (i - j)
  | .mul => rI CMul fun i j => .int (i * j)
  | .mod => rI (fun _ j => j ≠ 0) fun i j => .int (i.fmod j)
  | .fdiv => rI CDivW fun i j => .int (i / j)
  | .pow => rI CPow fun i j => .int (i ^ j.toNat)
theorem op_bin {o : Bop} : OpR X (binaryOp o.op) (rBin X.K o) := by
  cases o with
  | add => exact op_add.or (op_add_str.or (op_catS.or op_catA))
  | sub => exact op_sub
  | mul => exact op_mul
  | mod => exact op_modN
  | fdiv => exact op_fdivW
  | pow => exact op_pow
theorem lineN_eq : lineN = sizeLine := by rw [sizeLine_eq]; rfl
theorem binD_rs {o : Bop} {m : Bool} {x y : Wd} {v u : V} (s : Sm A.K A.bs μ S H Hf) (rx : WR A.K Hf μ A.xr x v) (ry : WR A.K Hf μ A.xr y u) (h : Rs A (RW A) σ S μ H Hf (binD m o x y S) Q) : rBin A.K o v u H Q := by
  unfold binD at h
  split at h
  · cases wr_int rx; cases wr_int ry
    exact .inl ⟨_, _, rfl, rfl, h.done s (.int _)⟩
  · cases wr_int rx; cases wr_int ry
    exact ⟨_, _, rfl, rfl, h.done s (.int _)⟩
  · cases wr_int rx; cases wr_int ry
    split at h
    · rename_i hc
      exact ⟨_, _, rfl, rfl, hc.symm, h.done s (.int _)⟩
    · exact h.elim
  · cases wr_int rx; cases wr_int ry
    split at h
    · rename_i i j hc
      refine ⟨_, _, rfl, rfl, by omega, ?_⟩
      show Q (V.int (i.fmod j)) H
      rw [Int.fmod_eq_emod_of_nonneg _ (Int.le_of_lt hc)]
      exact h.done s (.int _)
    · exact h.elim
  · cases wr_int rx; cases wr_int ry
    split at h
    · rename_i hc
      exact ⟨_, _, rfl, rfl, ⟨hc.1, by omega⟩, h.done s (.int _)⟩
    · exact h.elim
  · cases wr_int rx; cases wr_int ry
    split at h
    · rename_i hc
      exact ⟨_, _, rfl, rfl, ⟨hc.1, by omega, hc.2.2⟩, h.done s (.int _)⟩
    · exact h.elim
  · cases wr_str rx; cases wr_str ry
    split at h
    · rename_i hc
      exact .inr (.inl ⟨_, _, rfl, rfl, by rw [← lineN_eq]; exact hc, h.done s (.str _)⟩)
    · exact h.elim
  · cases rx with
    | tup q1 r1 =>
      cases ry with
      | tup q2 r2 =>
        split at h
        · rename_i hc
          have l1 := r1.length
          have l2 := r2.length
          refine .inr (.inr (.inr ⟨_, _, _, _, rfl, rfl, .inl (.inl (s.sub.tp _ _ q1)), .inl (.inl (s.sub.tp _ _ q2)), by rw [← lineN_eq]; omega, fun e => ?_, fun _ e => ?_, fun _ _ p hp => ?_⟩))
          · subst e
            cases r1
            exact h.done s (.tup q2 r2)
          · subst e
            cases r2
            rw [List.append_nil] at h
            exact h.done s (.tup q1 r1)
          · obtain ⟨s1, x1⟩ := s.tree (o := .tup (_ ++ _)) hp
            exact h.to s1 x1 (.tup upd_same (RpA.of (paired_app (r1.mono x1.fr).paired (r2.mono x1.fr).paired)))
        · exact h.elim
  · split at h
    · rename_i xs ys e1 e2
      obtain ⟨a, vs, rfl, q1, r1⟩ := s.seq rx e1
      obtain ⟨b, us, rfl, q2, r2⟩ := s.seq ry e2
      split at h
      · rename_i hc
        refine .inr (.inr (.inl ⟨a, b, vs, us, rfl, rfl, q1, q2, by rw [← lineN_eq, ← r1.length, ← r2.length]; exact hc, fun p hp => ?_⟩))
        exact mkL_rs s (paired_app r1 r2) h hp
      · exact h.elim
    · exact h.elim
  · exact h.elim
end
end Gw

namespace Gw
open PySem PySem.Spec PyProof.Rows L2
/-- an expression, as a value and as a test -/
structure PB (X : Cx) (e : Expr) (t : TE) : Prop where
  pe : PE X e t
  pt : PT X e (tTest t)
theorem PB.of {X : Cx} {e : Expr} {t : TE} (h : PE X e t) (he : ∀ whole, isTrue e X.env whole = (do let v ← whole; standAt e.pos; holding [v] (truthy v)) := by intro _; rfl) : PB X e t := ⟨h, pt_val h he⟩
theorem impPB {X : Cx} {e : Expr} {t t' : TE} (h : PB X e t) (i : ∀ σ H Q, t' σ H Q → t σ H Q) : PB X e t' := ⟨impPE h.pe i, impPT h.pt fun σ H _ q => i σ H _ q⟩
theorem neverPB {X : Cx} {e : Expr} {t : TE} (h : ∀ σ H Q, ¬ t σ H Q) : PB X e t := ⟨neverPE h, neverPT fun σ H _ q => h σ H _ q⟩
section
variable {A : Pa} {X : Cx} {ρ : Env} {S : Store} {e a b : Expr}
theorem noPB : PB X e (tEv A ρ S .no) := neverPB fun _ _ _ ⟨_, _, _, _, h⟩ => h
theorem unB {f : Wd → Store → Res Wd} {g : Res Wd} {r : V → Hp → VK → Prop} (ha : PB X a (tEv A ρ S g)) (hn : ∀ ta, PB X a ta → PB X e (fun σ H Q => ta σ H fun x H1 => r x H1 Q))
    (hr : ∀ x S1 v σ H μ Hf Q, Sm A.K A.bs μ S1 H Hf → WR A.K Hf μ A.xr x v → Rs A (RW A) σ S1 μ H Hf (f x S1) Q → r v H Q) : PB X e (tEv A ρ S (g.bd f)) :=
  impPB (hn _ ha) fun σ H Q ⟨μ, Hf, sm, en, h⟩ => ev_then sm en h fun x S1 v μ1 H1 Hf1 s1 _ w1 _ h1 => hr x S1 v σ H1 μ1 Hf1 Q s1 w1 h1
theorem binB {f : Wd → Wd → Store → Res Wd} {g : Res Wd} {gb : Store → Res Wd} {r : R2} (ha : PB X a (tEv A ρ S g)) (hb : ∀ S1, PB X b (tEv A ρ S1 (gb S1))) (hn : ∀ ta tb, PE X a ta → PE X b tb → PB X e (tOp r ta tb))
    (hr : ∀ x y S1 v u σ H μ Hf Q, Sm A.K A.bs μ S1 H Hf → WR A.K Hf μ A.xr x v → WR A.K Hf μ A.xr y u → Rs A (RW A) σ S1 μ H Hf (f x y S1) Q → r v u H Q) : PB X e (tEv A ρ S (g.bd fun x S1 => (gb S1).bd fun y S2 => f x y S2)) := by
  cases g with
  | no => exact noPB
  | ex x S1 => exact impPB (hn _ _ ha.pe (hb S).pe) fun σ H Q ⟨μ, Hf, sm, en, h⟩ => ⟨μ, Hf, sm, en, h⟩
  | ok x S1 =>
    refine impPB (hn _ _ ha.pe (hb S1).pe) fun σ H Q ⟨μ, Hf, sm, en, h⟩ => ⟨μ, Hf, sm, en, fun v μ1 H1 Hf1 s1 x1 w1 => ?_⟩
    have h' : Rs A (RW A) σ S1 μ1 H1 Hf1 ((gb S1).bd fun y S2 => f x y S2) Q := Rs.step h x1
    exact ev_then s1 (en.xt x1) h' fun y S2 u μ2 H2 Hf2 s2 _ w2 x2 h2 => hr x y S2 v u σ H2 μ2 Hf2 Q s2 (w1.xt x2) w2 h2
theorem opt_rs {α β γ : Type} {R : Hp → List V → β → γ → Prop} {σ : L2.St} {μ : List V} {H Hf : Hp} {o : Option α} {f : α → Store → Res β} {Q : γ → Hp → Prop} (h : Rs A R σ S μ H Hf ((opt S o).bd f) Q) : ∃ a, o = some a ∧ Rs A R σ S μ H Hf (f a S) Q := by
  cases o with
  | none => exact h.elim
  | some a => exact ⟨a, rfl, h⟩
/-! ### deep readings -/
mutual
theorem rd_dp {K : PySem.W.Frag} {bs : List Nat} {μ : List V} {H Hf : Hp} {xr : Xr} (s : Sm K bs μ S H Hf) : ∀ (n : Nat) (w : Wd) (v : V) (d : Dt), WR K Hf μ xr w v → rd S n w = some d → pln d = true → Dp K H v (pd d)
  | n, .t d', v, d, r, h, p => by
    have e : d' = d := by cases n <;> exact Option.some.inj h
    subst e
    exact (s.rp r).dp p
  | n, .c ds, v, d, r, h, p => by
    have e : .tup ds = d := by cases n <;> exact Option.some.inj h
    subst e
    obtain ⟨a, vs, rfl, _, q, rs⟩ := r
    unfold pln at p
    unfold pd
    refine .tup ?_ ((rs.mono s.sub).dp p)
    rcases q with q | q
    · exact .inl (s.sub.rd _ _ q)
    · exact .inr q
  | 0, .h k, v, d, r, h, p => by cases h
  | n, .x e, v, d, r, h, p => by cases n <;> cases h
  | n + 1, .h k, v, d, r, h, p => by
    have r : μ[k]? = some v := r
    unfold rd at h
    cases e : S[k]? with
    | none => simp [e] at h
    | some c =>
      have cr := s.cell k c v e r
      cases c with
      | lst lk ws =>
        cases e2 : mapO (rd S n) ws with
        | none => simp [e, e2] at h
        | some ds =>
          simp [e, e2] at h
          subst h
          cases cr with
          | lst h1 h2 h3 =>
            unfold pln at p
            unfold pd
            exact .lst (SqL.of h1) (rds_dp s n ws _ ds h3 e2 p)
      | dic tk lk kvs =>
        cases e2 : mapO (fun p => (rd S n p.2).map fun d => (p.1, d)) kvs with
        | none => simp [e, e2] at h
        | some ds =>
          simp [e, e2] at h
          subst h
          unfold pln at p; cases p
      | ins c fs => simp [e] at h
      | frz d' =>
        have e' : d' = d := by simpa [e] using h
        subst e'
        cases cr with
        | frz r' => exact (s.rp r').dp p
theorem rds_dp {K : PySem.W.Frag} {bs : List Nat} {μ : List V} {H Hf : Hp} {xr : Xr} (s : Sm K bs μ S H Hf) : ∀ (n : Nat) (ws : List Wd) (vs : List V) (ds : List Dt), Paired (WR K Hf μ xr) ws vs → mapO (rd S n) ws = some ds → plns ds = true → DpAll K H vs (pds ds)
  | n, [], _, ds, .nil, h, p => by
    have : ds = [] := by simpa [mapO] using h.symm
    subst this
    unfold pds; exact .nil
  | n, w :: r, _, ds, .cons h1 t, h, p => by
    unfold mapO at h
    cases e1 : rd S n w with
    | none => rw [e1] at h; simp at h
    | some d =>
      cases e2 : mapO (rd S n) r with
      | none => rw [e1, e2] at h; simp at h
      | some es =>
        rw [e1, e2] at h
        simp at h
        subst h
        unfold plns at p
        obtain ⟨p1, p2⟩ := Bool.and_eq_true_iff.mp p
        unfold pds
        exact .cons (rd_dp s n w _ d h1 e1 p1) (rds_dp s n r _ es t e2 p2)
end

/-! ### equality, in -/
def rEqN (K : PySem.W.Frag) (neg : Bool) : R2 := fun x y H Q => ∃ d e, Dp K H x d ∧ Dp K H y e ∧ SeqAt.shaped d = true ∧ SeqAt.shaped e = true ∧ Q (.bl (neg ^^ PyData.eqv d e)) H
theorem op_eqN (neg : Bool) (hu : X.A.units + 64 < cLine) : OpR X (compareOp (if neg = true then .NotEq else .Eq)) (rEqN X.K neg) := by
  cases neg with
  | false =>
    intro pins s σ H x y v u Q I rx ry ⟨d, e, h1, h2, h3, h4, q⟩
    rw [Bool.false_xor] at q
    exact op_eqD hu pins s σ H x y v u Q I rx ry ⟨d, e, h1, h2, h3, h4, q⟩
  | true =>
    intro pins s σ H x y v u Q I rx ry ⟨d, e, h1, h2, h3, h4, q⟩
    rw [Bool.true_xor] at q
    exact op_neD hu pins s σ H x y v u Q I rx ry ⟨d, e, h1, h2, h3, h4, q⟩
theorem cmpPB {op : CmpOp} {r : R2} {pos : Pos} (ho : OpR X (compareOp op) r) (hm : behindInMarks op b = false) (ta tb : TE) (ha : PE X a ta) (hb : PE X b tb) : PB X (.Compare a [op] [b] pos) (tOp r ta tb) := ⟨pe_cmpR ho ha hb hm, pt_cmpR ho ha hb hm⟩
theorem noSet (t : Ex) (op : CmpOp) : behindInMarks op t.e = false := by cases t <;> rfl
theorem canAll : ∀ {ds : List Dt}, (ds.all fun e => SeqAt.shaped (pd e)) = true → PyData.canLayAll0 (pds ds) = true
  | [], _ => by unfold pds; rfl
  | d :: r, h => by
    rw [List.all_cons, Bool.and_eq_true] at h
    unfold pds
    show (PyData.canLay0 (pd d) && PyData.canLayAll0 (pds r)) = true
    rw [SeqAt.canLay_of_shaped h.1, canAll h.2]; rfl
theorem any_pds {f : PyData → Bool} : ∀ ds : List Dt, (pds ds).any f = ds.any fun e => f (pd e)
  | [] => by unfold pds; rfl
  | d :: r => by unfold pds; rw [List.any_cons, List.any_cons, any_pds r]
theorem sd_eq {C : Cxt} {neg : Bool} {x y : Ex} {p : Pos} (hu : X.A.units + 64 < cLine) (hK : X.K = A.K) (ha : ∀ S, PB X x.e (tEv A ρ S (ev C x ρ S))) (hb : ∀ S, PB X y.e (tEv A ρ S (ev C y ρ S))) :
    PB X (Ex.eq neg x y p).e (tEv A ρ S (ev C (.eq neg x y p) ρ S)) := by
  unfold Ex.e ev
  refine binB (r := rEqN X.K neg) (ha S) hb (cmpPB (op_eqN neg hu) (noSet _ _)) fun x y S1 v u σ H μ Hf Q s rx ry h => ?_
  obtain ⟨c, e, h⟩ := opt_rs h
  unfold eqD at e
  cases e1 : rd S1 6 x with
  | none => simp [e1] at e
  | some d =>
    cases e2 : rd S1 6 y with
    | none => simp [e1, e2] at e
    | some d2 =>
      simp only [e1, e2] at e
      split at e
      · rename_i hc
        simp only [Bool.and_eq_true] at hc
        have e' := Option.some.inj e
        subst e'
        rw [hK]
        exact ⟨pd d, pd d2, rd_dp s 6 x v d rx e1 hc.1.1.1, rd_dp s 6 y u d2 ry e2 hc.1.1.2, hc.1.2, hc.2, h.done s (.bl _)⟩
      · cases e
theorem sd_inS {C : Cxt} {neg : Bool} {x y : Ex} {p : Pos} (hu : X.A.units + 65 < cLine) (hK : X.K = A.K) (ha : ∀ S, PB X x.e (tEv A ρ S (ev C x ρ S))) (hb : ∀ S, PB X y.e (tEv A ρ S (ev C y ρ S))) :
    PB X (Ex.inS neg x y p).e (tEv A ρ S (ev C (.inS neg x y p) ρ S)) := by
  unfold Ex.e ev
  refine binB (r := rInD X.K neg) (ha S) hb (cmpPB (op_inD neg hu) (noSet _ _)) fun x y S1 v u σ H μ Hf Q s rx ry h => ?_
  obtain ⟨c, e, h⟩ := opt_rs h
  unfold inSD at e
  cases e1 : rd S1 6 x with
  | none => simp [e1] at e
  | some d =>
    cases e2 : vw S1 y with
    | dic tk kvs => simp [e1, e2] at e
    | oth => simp [e1, e2] at e
    | seq tup ws =>
      cases e3 : mapO (rd S1 6) ws with
      | none => simp [e1, e2, e3] at e
      | some ds =>
        simp only [e1, e2, e3] at e
        split at e
        · rename_i hc
          simp only [Bool.and_eq_true] at hc
          have e' := Option.some.inj e
          subst e'
          obtain ⟨a, vs, rfl, q, r⟩ := s.seq ry e2
          rw [hK]
          refine ⟨a, vs, pd d, pds ds, rfl, ?_, rd_dp s 6 x v d rx e1 hc.1.1.1, rds_dp s 6 ws vs ds r e3 hc.1.2, hc.1.1.2, canAll hc.2, ?_⟩
          · cases tup with
            | true => exact .inr q
            | false => exact .inl q
          · rw [any_pds]
            exact h.done s (.bl _)
        · cases e
def rCmp (o : Cop) : R2 := rI0 fun i j => .bl (cmpD o i j)
theorem op_cmpD (o : Cop) : OpR X (compareOp o.op) (rCmp o) := by
  cases o with
  | lt => exact op_lt
  | le => exact op_le
  | gt => exact op_gt
  | ge => exact op_ge
theorem sd_cmp {C : Cxt} {o : Cop} {x y : Ex} {p : Pos} (ha : ∀ S, PB X x.e (tEv A ρ S (ev C x ρ S))) (hb : ∀ S, PB X y.e (tEv A ρ S (ev C y ρ S))) : PB X (Ex.cmp o x y p).e (tEv A ρ S (ev C (.cmp o x y p) ρ S)) := by
  unfold Ex.e ev
  refine binB (r := rCmp o) (ha S) hb (cmpPB (op_cmpD o) (noSet _ _)) fun x y S1 v u σ H μ Hf Q s rx ry h => ?_
  split at h
  · cases wr_int rx; cases wr_int ry
    exact ⟨_, _, rfl, rfl, h.done s (.bl _)⟩
  · exact h.elim
theorem sd_bin {C : Cxt} {o : Bop} {m : Bool} {x y : Ex} {p : Pos} (hK : X.K = A.K) (ha : ∀ S, PB X x.e (tEv A ρ S (ev C x ρ S))) (hb : ∀ S, PB X y.e (tEv A ρ S (ev C y ρ S))) : PB X (Ex.bin o m x y p).e (tEv A ρ S (ev C (.bin o m x y p) ρ S)) := by
  unfold Ex.e ev
  refine binB (r := rBin X.K o) (ha S) hb (fun ta tb h1 h2 => .of (pe_op op_bin h1 h2)) fun x y S1 v u σ H μ Hf Q s rx ry h => ?_
  rw [hK]
  exact binD_rs s rx ry h
end
end Gw

namespace Gw
open PySem PySem.Spec PyProof.Rows L2
section
variable {A : Pa} {X : Cx} {ρ : Env} {S : Store} {e a b : Expr}
/-- what the reading of an expression gives -/
abbrev Ok (A : Pa) (X : Cx) (C : Cxt) (ρ : Env) (x : Ex) : Prop := ∀ S, PB X x.e (tEv A ρ S (ev C x ρ S))
theorem opt_rs' {α : Type} {R : Hp → List V → α → V → Prop} {σ : L2.St} {μ : List V} {H Hf : Hp} {o : Option α} {Q : VK} (h : Rs A R σ S μ H Hf (opt S o) Q) : ∃ a, o = some a ∧ Rs A R σ S μ H Hf (.ok a S) Q := by
  cases o with
  | none => exact h.elim
  | some a => exact ⟨a, rfl, h⟩
theorem bl_of {w : Wd} {b : Bool} (e : isBl w = some b) : w = .t (.bl b) := by
  cases w with
  | t d => cases d <;> cases e <;> rfl
  | _ => cases e
theorem int_of {w : Wd} {b : Int} (e : isInt w = some b) : w = .t (.int b) := by
  cases w with
  | t d => cases d <;> cases e <;> rfl
  | _ => cases e
theorem sd_chain {C : Cxt} {o o2 : Cop} {x y z : Ex} {p : Pos} (ha : Ok A X C ρ x) (hb : Ok A X C ρ y) (hc : Ok A X C ρ z) : Ok A X C ρ (.chain o o2 x y z p) := by
  intro S
  unfold Ex.e ev
  have hm : lastMarks [o.op, o2.op] [y.e, z.e] = false := by
    show lastMarks [o2.op] [z.e] = false
    show behindInMarks o2.op z.e = false
    exact noSet _ _
  have mk : ∀ ta tb tc, PE X x.e ta → PE X y.e tb → PE X z.e tc → PB X (.Compare x.e [o.op, o2.op] [y.e, z.e] p) (tChain (rCmp o) (rCmp o2) ta tb tc) :=
    fun ta tb tc h1 h2 h3 => ⟨pe_chain (op_cmpD o) (op_cmpD o2) h1 h2 h3 hm, pt_chain (op_cmpD o) (op_cmpD o2) h1 h2 h3 hm⟩
  cases e1 : ev C x ρ S with
  | no => exact noPB
  | ex q S1 =>
    have h1 := (ha S).pe
    rw [e1] at h1
    exact impPB (mk _ _ _ h1 (hb S).pe (hc S).pe) fun σ H Q ⟨μ, Hf, sm, en, h⟩ => ⟨μ, Hf, sm, en, h⟩
  | ok w S1 =>
    have h1 := (ha S).pe
    rw [e1] at h1
    show PB X _ (tEv A ρ S ((ev C y ρ S1).bd _))
    cases e2 : ev C y ρ S1 with
    | no => exact noPB
    | ex q S2 =>
      have h2 := (hb S1).pe
      rw [e2] at h2
      refine impPB (mk _ _ _ h1 h2 (hc S).pe) fun σ H Q ⟨μ, Hf, sm, en, h⟩ => ⟨μ, Hf, sm, en, fun v μ1 H1 Hf1 s1 x1 w1 => ?_⟩
      exact ⟨μ1, Hf1, s1, en.xt x1, Rs.step h x1⟩
    | ok u S2 =>
      have h2 := (hb S1).pe
      rw [e2] at h2
      refine impPB (mk _ _ _ h1 h2 (hc S2).pe) fun σ H Q ⟨μ, Hf, sm, en, h⟩ => ⟨μ, Hf, sm, en, fun v μ1 H1 Hf1 s1 x1 w1 => ?_⟩
      refine ⟨μ1, Hf1, s1, en.xt x1, fun v2 μ2 H2 Hf2 s2 x2 w2 => ?_⟩
      have w1' := w1.xt x2
      have x12 := x1.trans x2
      have h' : Rs A (RW A) σ S μ H Hf ((opt S2 (isInt w)).bd fun i S2 => (opt S2 (isInt u)).bd fun j S2 => if cmpD o i j = true then (ev C z ρ S2).bd fun z S3 => (opt S3 (isInt z)).bd fun k S3 => .ok (.t (.bl (cmpD o2 j k))) S3 else .ok (.t (.bl false)) S2) Q := h
      have h5 := Rs.step h' x12
      obtain ⟨i, ei, h6⟩ := opt_rs h5
      obtain ⟨j, ej, h7⟩ := opt_rs h6
      clear h h' h5 h6
      obtain rfl := int_of ei
      obtain rfl := int_of ej
      cases wr_int w1'; cases wr_int w2
      refine ⟨_, _, rfl, rfl, _, rfl, ?_⟩
      by_cases hk : cmpD o i j = true
      · rw [if_pos hk] at h7 ⊢
        refine ev_then s2 (en.xt x12) h7 fun c S3 u3 μ3 H3 Hf3 s3 _ w3 x3 h3 => ?_
        obtain ⟨k, ek, h3⟩ := opt_rs h3
        obtain rfl := int_of ek
        cases wr_int w3
        exact ⟨_, _, rfl, rfl, h3.done s3 (.bl _)⟩
      · rw [if_neg hk] at h7 ⊢
        exact h7.done s2 (.bl _)
def rIsN (neg : Bool) : V → Hp → VK → Prop := fun x H Q => Q (.bl (neg ^^ decide (x = .non))) H
theorem sd_isN {C : Cxt} {neg : Bool} {x : Ex} {j : Nat} {q p : Pos} (ha : Ok A X C ρ x) : Ok A X C ρ (.isN neg x j q p) := by
  intro S
  unfold Ex.e ev
  refine unB (r := rIsN neg) (ha S) (fun ta h => ?_) fun w S1 v σ H μ Hf Q s r h => ?_
  · cases neg with
    | false => exact ⟨impPE (pe_cmp (pc_isN h.pe)) fun σ H Q h => by simpa [rIsN, tIsN] using h, impPT (pt_cmp (pc_isN h.pe)) fun σ H Q h => by simpa [rIsN, tIsN, tTest, tB] using h⟩
    | true => exact ⟨impPE (pe_cmp (pc_notN h.pe)) fun σ H Q h => by simpa [rIsN, tNotN] using h, impPT (pt_cmp (pc_notN h.pe)) fun σ H Q h => by simpa [rIsN, tNotN, tTest, tB] using h⟩
  · unfold rIsN
    obtain ⟨c, e, h⟩ := opt_rs h
    have nd : ∀ {Hx : Hp} {v : V} {d : Dt}, Rp A.K Hx v d → decide (v = .non) = isNonD d := fun r => by cases r <;> simp [isNonD]
    have ec : decide (v = .non) = c := by
      cases w with
      | x e => cases e
      | c ds => cases e
      | t d => rw [nd r]; exact Option.some.inj e
      | h k =>
        have r : μ[k]? = some v := r
        unfold isNon at e
        cases e1 : S1[k]? with
        | none => simp [e1] at e
        | some c =>
          have cr := s.cell k c v e1 r
          cases cr with
          | lst _ _ _ => simp [e1] at e; simp [e]
          | dK _ _ _ _ _ => simp [e1] at e; simp [e]
          | dT _ _ _ _ _ => simp [e1] at e; simp [e]
          | frz r' => simp [e1] at e; rw [nd r', e]
    rw [ec]
    exact h.done s (.bl _)
theorem sd_not {C : Cxt} {x : Ex} {p : Pos} (ha : Ok A X C ρ x) : Ok A X C ρ (.not x p) := by
  intro S
  unfold Ex.e ev
  have key : ∀ (σ : L2.St) (H : Hp) (Q : VK), tEv A ρ S ((ev C x ρ S).bd fun x S1 => (opt S1 (isBl x)).bd fun b S2 => .ok (.t (.bl (!b))) S2) σ H Q → tEv A ρ S (ev C x ρ S) σ H fun v H1 => ∃ c, v = .bl c ∧ Q (.bl (!c)) H1 := fun σ H Q ⟨μ, Hf, sm, en, h⟩ => by
    refine ev_then sm en h fun w S1 v μ1 H1 Hf1 s1 _ w1 _ h1 => ?_
    obtain ⟨c, e, h1⟩ := opt_rs h1
    cases w with
    | t d =>
      cases d with
      | bl b =>
        have e' : b = c := Option.some.inj e
        subst e'
        cases wr_bl w1
        exact ⟨_, rfl, h1.done s1 (.bl _)⟩
      | _ => cases e
    | _ => cases e
  refine ⟨impPE (pe_not (ha S).pe) fun σ H Q h => key σ H Q h, impPT (pt_not (ha S).pt) fun σ H Q h => ?_⟩
  obtain ⟨μ, Hf, sm, en, h'⟩ := key σ H _ h
  refine ⟨μ, Hf, sm, en, ?_⟩
  have mono : ∀ (g : Res Wd) (Q1 Q2 : VK), (∀ v H, Q1 v H → Q2 v H) → Rs A (RW A) σ S μ H Hf g Q1 → Rs A (RW A) σ S μ H Hf g Q2 := fun g Q1 Q2 i h => by
    cases g with
    | ok w S' => exact fun v μ' H' Hf' a b c => i _ _ (h v μ' H' Hf' a b c)
    | ex e S' => exact h
    | no => exact h
  refine mono _ _ _ (fun v H1 ⟨c, e, k, ek, q⟩ => ⟨c, e, ?_⟩) h'
  have ek' : (!c) = k := by injection ek
  show Q (!c) H1
  rw [ek']; exact q
theorem sd_neg {C : Cxt} {x : Ex} {p : Pos} (ha : Ok A X C ρ x) : Ok A X C ρ (.neg x p) := by
  intro S
  unfold Ex.e ev
  refine unB (r := rU fun i => .int (-i)) (ha S) (fun ta h => .of (pe_un un_neg h.pe)) fun w S1 v σ H μ Hf Q s r h => ?_
  obtain ⟨i, e, h⟩ := opt_rs h
  cases w with
  | t d =>
    cases d with
    | int j =>
      have e' : j = i := Option.some.inj e
      subst e'
      cases wr_int r
      exact ⟨_, rfl, h.done s (.int _)⟩
    | _ => cases e
  | _ => cases e
/-! ### and, or -/
theorem PW.imp' {e : Expr} {t t' : TT} (h : PW X e t) (i : ∀ σ H Q, t' σ H Q → t σ H Q) : PW X e t' := ⟨fun wh pins s σ H Q I q => h.run wh pins s σ H Q I (i σ H Q q)⟩
theorem evB_cons {C : Cxt} {and : Bool} {x y : Ex} {r : List Ex} {S : Store} : evB C and (x :: y :: r) ρ S = (ev C x ρ S).bd fun w S1 => (opt S1 (isBl w)).bd fun b S2 => if (b ^^ and) = true then .ok (.t (.bl b)) S2 else evB C and (y :: r) ρ S2 := by
  conv => lhs; unfold evB
theorem evB_one {C : Cxt} {and : Bool} {x : Ex} {S : Store} : evB C and [x] ρ S = (ev C x ρ S).bd fun w S1 => (opt S1 (isBl w)).bd fun b S2 => .ok (.t (.bl b)) S2 := by
  conv => lhs; unfold evB
theorem sdB {C : Cxt} {and : Bool} {p : Pos} : ∀ (as : List Ex), as ≠ [] → (∀ x ∈ as, Ok A X C ρ x) → ∀ S, PE X (.BoolOp (if and = true then .And else .Or) (Exs.e as) p) (tEv A ρ S (evB C and as ρ S)) ∧ PW X (.BoolOp (if and = true then .And else .Or) (Exs.e as) p) (tTest (tEv A ρ S (evB C and as ρ S)))
  | [], h, _, _ => absurd rfl h
  | [x], _, hx, S => by
    have ha := hx x List.mem_cons_self S
    rw [evB_one]
    unfold Exs.e Exs.e
    have key : ∀ (σ : L2.St) (H : Hp) (Q : VK), tEv A ρ S ((ev C x ρ S).bd fun w S1 => (opt S1 (isBl w)).bd fun b S2 => .ok (.t (.bl b)) S2) σ H Q → tEv A ρ S (ev C x ρ S) σ H Q := fun σ H Q ⟨μ, Hf, sm, en, h⟩ => by
      refine ev_then sm en h fun w S1 v μ1 H1 Hf1 s1 _ w1 _ h1 => ?_
      obtain ⟨c, e, h1⟩ := opt_rs h1
      obtain rfl := bl_of e
      exact h1.done s1 w1
    refine ⟨impPE (pe_one ha.pe) key, ?_⟩
    cases and with
    | true => exact PW.imp' (pw_and1 ha.pt) fun σ H Q h => key σ H _ h
    | false => exact PW.imp' (pw_or1 ha.pt) fun σ H Q h => key σ H _ h
  | x :: y :: r, _, hx, S => by
    have ha := hx x List.mem_cons_self S
    have ih := fun S => sdB (and := and) (p := p) (y :: r) (by simp) (fun z hz => hx z (List.mem_cons_of_mem _ hz)) S
    rw [evB_cons]
    unfold Exs.e
    cases e1 : ev C x ρ S with
    | no => exact ⟨neverPE fun σ H Q ⟨_, _, _, _, h⟩ => h, PW.imp' (t := fun _ _ _ => False) ⟨fun _ _ _ _ _ _ _ h => h.elim⟩ fun σ H Q ⟨_, _, _, _, h⟩ => h⟩
    | ex q S1 =>
      rw [e1] at ha
      cases and with
      | true => exact ⟨impPE (pe_and ha.pe (ih S).1) fun σ H Q ⟨μ, Hf, sm, en, h⟩ => ⟨μ, Hf, sm, en, h⟩, PW.imp' (pw_and ha.pt (ih S).2) fun σ H Q ⟨μ, Hf, sm, en, h⟩ => ⟨μ, Hf, sm, en, h⟩⟩
      | false => exact ⟨impPE (pe_or ha.pe (ih S).1) fun σ H Q ⟨μ, Hf, sm, en, h⟩ => ⟨μ, Hf, sm, en, h⟩, PW.imp' (pw_or ha.pt (ih S).2) fun σ H Q ⟨μ, Hf, sm, en, h⟩ => ⟨μ, Hf, sm, en, h⟩⟩
    | ok w S1 =>
      rw [e1] at ha
      cases e2 : isBl w with
      | none =>
        have z : ∀ (σ : L2.St) (H : Hp) (Q : VK), ¬ tEv A ρ S ((Res.ok w S1).bd fun w S1 => (opt S1 (isBl w)).bd fun b S2 => if (b ^^ and) = true then .ok (.t (.bl b)) S2 else evB C and (y :: r) ρ S2) σ H Q := fun σ H Q ⟨_, _, _, _, h⟩ => by
          have h' : Rs A (RW A) σ S _ H _ ((opt S1 (isBl w)).bd fun b S2 => if (b ^^ and) = true then Res.ok (.t (.bl b)) S2 else evB C and (y :: r) ρ S2) Q := h
          rw [e2] at h'
          exact h'
        exact ⟨neverPE z, PW.imp' (t := fun _ _ _ => False) ⟨fun _ _ _ _ _ _ _ h => h.elim⟩ fun σ H Q h => z σ H _ h⟩
      | some c =>
        obtain rfl := bl_of e2
        have simpR : ((Res.ok (Wd.t (.bl c)) S1).bd fun w S1 => (opt S1 (isBl w)).bd fun b S2 => if (b ^^ and) = true then Res.ok (.t (.bl b)) S2 else evB C and (y :: r) ρ S2) = (if (c ^^ and) = true then Res.ok (.t (.bl c)) S1 else evB C and (y :: r) ρ S1) := rfl
        rw [simpR]
        have key : ∀ (σ : L2.St) (H : Hp) (Q : VK) (Q2 : VK), tEv A ρ S (if (c ^^ and) = true then Res.ok (.t (.bl c)) S1 else evB C and (y :: r) ρ S1) σ H Q →
            (∀ H1, (c ^^ and) = true → Q (.bl c) H1 → Q2 (.bl c) H1) → (∀ H1, (c ^^ and) = false → tEv A ρ S1 (evB C and (y :: r) ρ S1) σ H1 Q → Q2 (.bl c) H1) → tEv A ρ S (.ok (.t (.bl c)) S1) σ H Q2 := fun σ H Q Q2 ⟨μ, Hf, sm, en, h⟩ k1 k2 => by
          refine ⟨μ, Hf, sm, en, fun v μ1 H1 Hf1 s1 x1 w1 => ?_⟩
          cases wr_bl w1
          by_cases hc : (c ^^ and) = true
          · rw [if_pos hc] at h
            exact k1 H1 hc (h _ μ1 H1 Hf1 s1 x1 w1)
          · rw [if_neg hc] at h
            exact k2 H1 (by simpa using hc) ⟨μ1, Hf1, s1, en.xt x1, Rs.step h x1⟩
        cases and with
        | true =>
          refine ⟨impPE (pe_and ha.pe (ih S1).1) fun σ H Q h => ?_, PW.imp' (pw_and ha.pt (ih S1).2) fun σ H Q h => ?_⟩
          · refine key σ H Q _ h (fun H1 hc q => ⟨c, rfl, ?_⟩) fun H1 hc q => ⟨c, rfl, ?_⟩
            · have : c = false := by simpa using hc
              subst this; exact iteF q
            · have : c = true := by simpa using hc
              subst this; exact iteT q
          · refine key σ H _ _ h (fun H1 hc q => ⟨c, rfl, ?_⟩) fun H1 hc q => ⟨c, rfl, ?_⟩
            · have : c = false := by simpa using hc
              subst this
              obtain ⟨k, ek, q⟩ := q
              cases ek
              exact iteF q
            · have : c = true := by simpa using hc
              subst this; exact iteT q
        | false =>
          refine ⟨impPE (pe_or ha.pe (ih S1).1) fun σ H Q h => ?_, PW.imp' (pw_or ha.pt (ih S1).2) fun σ H Q h => ?_⟩
          · refine key σ H Q _ h (fun H1 hc q => ⟨c, rfl, ?_⟩) fun H1 hc q => ⟨c, rfl, ?_⟩
            · have : c = true := by simpa using hc
              subst this; exact iteT q
            · have : c = false := by simpa using hc
              subst this; exact iteF q
          · refine key σ H _ _ h (fun H1 hc q => ⟨c, rfl, ?_⟩) fun H1 hc q => ⟨c, rfl, ?_⟩
            · have : c = true := by simpa using hc
              subst this
              obtain ⟨k, ek, q⟩ := q
              cases ek
              exact iteT q
            · have : c = false := by simpa using hc
              subst this; exact iteF q
theorem sd_bop {C : Cxt} {and : Bool} {as : List Ex} {p : Pos} (hn : as ≠ []) (ha : ∀ x ∈ as, Ok A X C ρ x) : Ok A X C ρ (.bop and as p) := fun S => by
  unfold Ex.e ev
  obtain ⟨h1, h2⟩ := sdB (and := and) (p := p) as hn ha S
  exact ⟨h1, h2.pt⟩
/-! ### a if c else b -/
theorem pt_ife {c x y : Expr} {tc tx ty : TT} {p : Pos} (hc : PT X c tc) (hx : PT X x tx) (hy : PT X y ty) : PT X (.IfExp c x y p) (fun σ H Q => tc σ H fun b H1 => if b = true then tx σ H1 Q else ty σ H1 Q) := by
  refine ⟨fun pins s σ H Q I h => ?_⟩
  have e : ∀ whole, isTrue (.IfExp c x y p) X.env whole = (do if ← isTrue c X.env (eval c X.env) then isTrue x X.env (eval x X.env) else isTrue y X.env (eval y X.env)) := fun whole => by
    conv => lhs; unfold PySem.isTrue
  rw [e]
  refine wpAny_bind (thn (hc.run pins s σ H _ I h) fun b s1 ⟨H1, I1, q1⟩ => ?_)
  cases b with
  | true => exact hx.run pins s1 σ H1 Q I1 q1
  | false => exact hy.run pins s1 σ H1 Q I1 q1
theorem tst_then {C : Cxt} {x : Ex} {β : Type} {R : Hp → List V → β → V → Prop} {f : Bool → Store → Res β} {σ : L2.St} {H : Hp} {Q : VK} {r : Bool → Hp → Prop} {μ : List V} {Hf : Hp} (sm : Sm A.K A.bs μ S H Hf) (en : En A.K Hf μ A.xr ρ σ)
    (h : Rs A R σ S μ H Hf ((tst (ev C x ρ S)).bd f) Q) (hr : ∀ b S1 μ1 H1 Hf1, Sm A.K A.bs μ1 S1 H1 Hf1 → En A.K Hf1 μ1 A.xr ρ σ → Xt S μ H Hf S1 μ1 H1 Hf1 → Rs A R σ S1 μ1 H1 Hf1 (f b S1) Q → tst (ev C x ρ S) = .ok b S1 → r b H1) : tTest (tEv A ρ S (ev C x ρ S)) σ H r := by
  refine ⟨μ, Hf, sm, en, ?_⟩
  unfold tst at h hr
  cases e1 : ev C x ρ S with
  | no => rw [e1] at h; exact h
  | ex q S1 => rw [e1] at h; exact h
  | ok w S1 =>
    rw [e1] at h hr
    intro v μ1 H1 Hf1 s1 x1 w1
    cases e2 : isBl w with
    | none =>
      have h' : Rs A R σ S μ H Hf ((opt S1 (isBl w)).bd f) Q := h
      rw [e2] at h'
      exact h'.elim
    | some c =>
      have h' : Rs A R σ S μ H Hf ((opt S1 (isBl w)).bd f) Q := h
      rw [e2] at h'
      obtain rfl := bl_of e2
      cases wr_bl w1
      exact ⟨c, rfl, hr c S1 μ1 H1 Hf1 s1 (en.xt x1) x1 (Rs.step h' x1) rfl⟩
theorem sd_ife {C : Cxt} {c x y : Ex} {p : Pos} (hc : Ok A X C ρ c) (ha : Ok A X C ρ x) (hb : Ok A X C ρ y) : Ok A X C ρ (.ife c x y p) := fun S => by
  unfold Ex.e ev
  cases e1 : tst (ev C c ρ S) with
  | no => exact noPB
  | ex q S1 =>
    refine ⟨impPE (pe_ifExp (hc S).pt (ha S).pe (hb S).pe) fun σ H Q ⟨μ, Hf, sm, en, h⟩ => ?_, impPT (pt_ife (hc S).pt (ha S).pt (hb S).pt) fun σ H Q ⟨μ, Hf, sm, en, h⟩ => ?_⟩
    · refine tst_then (R := RW A) (f := fun _ S => .no) sm en (by rw [e1]; exact h) fun b S1 μ1 H1 Hf1 s1 en1 x1 h1 _ => h1.elim
    · refine tst_then (R := RW A) (f := fun _ S => .no) sm en (by rw [e1]; exact h) fun b S1 μ1 H1 Hf1 s1 en1 x1 h1 _ => h1.elim
  | ok b S1 =>
    have go : ∀ (σ : L2.St) (H : Hp) (Q : VK) (r : Bool → Hp → Prop), tEv A ρ S ((Res.ok b S1).bd fun x_1 S1 => if x_1 = true then ev C x ρ S1 else ev C y ρ S1) σ H Q → (∀ H1, (if b = true then tEv A ρ S1 (ev C x ρ S1) σ H1 Q else tEv A ρ S1 (ev C y ρ S1) σ H1 Q) → r b H1) → tTest (tEv A ρ S (ev C c ρ S)) σ H r := fun σ H Q r ⟨μ, Hf, sm, en, h⟩ k => by
      have h' : Rs A (RW A) σ S μ H Hf ((tst (ev C c ρ S)).bd fun x_1 S1 => if x_1 = true then ev C x ρ S1 else ev C y ρ S1) Q := by rw [e1]; exact h
      refine tst_then sm en h' fun b2 S2 μ1 H1 Hf1 s1 en1 x1 h1 e2 => ?_
      rw [e1] at e2
      injection e2 with q1 q2
      subst q1; subst q2
      refine k H1 ?_
      cases b with
      | true => rw [if_pos rfl]; exact ⟨μ1, Hf1, s1, en1, by rw [if_pos rfl] at h1; exact h1⟩
      | false => rw [if_neg Bool.false_ne_true]; exact ⟨μ1, Hf1, s1, en1, by rw [if_neg Bool.false_ne_true] at h1; exact h1⟩
    exact ⟨impPE (pe_ifExp (hc S).pt (ha S1).pe (hb S1).pe) fun σ H Q h => go σ H Q _ h fun H1 q => q, impPT (pt_ife (hc S).pt (ha S1).pt (hb S1).pt) fun σ H Q h => go σ H _ _ h fun H1 q => q⟩
end
end Gw

namespace Gw
open PySem PySem.Spec PyProof.Rows L2
/-! ### argument lists -/
theorem star_ex (x : Ex) (r : List Expr) (env : PySem.Env) : starEach (x.e :: r) env = (false, eval x.e env) :: starEach r env := by cases x <;> rfl
theorem star_exs (pos : Pos) (env : PySem.Env) : ∀ es : List Ex, ((backTo pos (starEach (Exs.e es) env)).any (·.1)) = false
  | [] => rfl
  | x :: r => by
    unfold Exs.e
    rw [star_ex]
    show (false || (backTo pos (starEach (Exs.e r) env)).any (·.1)) = false
    rw [star_exs pos env r]; rfl
section
variable (A : Pa)
abbrev RWs : Hp → List V → List Wd → List V → Prop := fun Hf μ ws vs => Paired (WR A.K Hf μ A.xr) ws vs
def tAs (ρ : Env) (S : Store) (r : Res (List Wd)) : TA := fun σ H Q => ∃ μ Hf, Sm A.K A.bs μ S H Hf ∧ En A.K Hf μ A.xr ρ σ ∧ Rs A (RWs A) σ S μ H Hf r Q
end
section
variable {A : Pa} {X : Cx} {ρ : Env} {S : Store} {e a b : Expr} {C : Cxt}
theorem pa_evs : ∀ (es : List Ex), (∀ x ∈ es, Ok A X C ρ x) → ∀ S, PA X (Exs.e es) (tAs A ρ S (evs C es ρ S))
  | [], _, S => by
    unfold Exs.e evs
    exact impPA pa_nil fun σ H Q ⟨μ, Hf, sm, en, h⟩ => Rs.done h sm .nil
  | x :: r, hx, S => by
    have ha := (hx x List.mem_cons_self S).pe
    have ih := pa_evs r fun y hy => hx y (List.mem_cons_of_mem _ hy)
    unfold Exs.e evs
    cases e1 : ev C x ρ S with
    | no => exact neverPA fun σ H Q ⟨_, _, _, _, h⟩ => h
    | ex q S1 =>
      rw [e1] at ha
      exact impPA (pa_cons ha (ih S) (star_ex _ _ _)) fun σ H Q ⟨μ, Hf, sm, en, h⟩ => ⟨μ, Hf, sm, en, h⟩
    | ok w S1 =>
      rw [e1] at ha
      refine impPA (pa_cons ha (ih S1) (star_ex _ _ _)) fun σ H Q ⟨μ, Hf, sm, en, h⟩ => ⟨μ, Hf, sm, en, fun v μ1 H1 Hf1 s1 x1 w1 => ?_⟩
      have h' : Rs A (RWs A) σ S μ H Hf ((evs C r ρ S1).bd fun ws S2 => .ok (w :: ws) S2) Q := h
      have h2 := Rs.step h' x1
      refine ⟨μ1, Hf1, s1, en.xt x1, ?_⟩
      cases e2 : evs C r ρ S1 with
      | no => rw [e2] at h2; exact h2
      | ex q S2 => rw [e2] at h2; exact h2
      | ok ws S2 =>
        rw [e2] at h2
        exact fun vs μ2 H2 Hf2 s2 x2 w2 => h2 (v :: vs) μ2 H2 Hf2 s2 x2 (.cons (w1.xt x2) w2)
theorem evs_len : ∀ (es : List Ex) (S S' : Store) (ws : List Wd), evs C es ρ S = .ok ws S' → ws.length = es.length
  | [], S, S', ws, h => by
    unfold evs at h
    injection h with h1 _
    subst h1; rfl
  | x :: r, S, S', ws, h => by
    unfold evs at h
    cases e1 : ev C x ρ S with
    | no => rw [e1] at h; cases h
    | ex q S1 => rw [e1] at h; cases h
    | ok w S1 =>
      rw [e1] at h
      have h' : (evs C r ρ S1).bd (fun ws S2 => .ok (w :: ws) S2) = .ok ws S' := h
      cases e2 : evs C r ρ S1 with
      | no => rw [e2] at h'; cases h'
      | ex q S2 => rw [e2] at h'; cases h'
      | ok zs S2 =>
        rw [e2] at h'
        injection h' with h1 _
        subst h1
        rw [List.length_cons, List.length_cons, evs_len r S1 S2 zs e2]
/-- an argument list, then something -/
theorem as_then {es : List Ex} {β γ : Type} {R : Hp → List V → β → γ → Prop} {f : List Wd → Store → Res β} {σ : L2.St} {H : Hp} {Q : γ → Hp → Prop} {r : List V → Hp → Prop} {μ : List V} {Hf : Hp} (sm : Sm A.K A.bs μ S H Hf) (en : En A.K Hf μ A.xr ρ σ)
    (h : Rs A R σ S μ H Hf ((evs C es ρ S).bd f) Q) (hr : ∀ ws S1 vs μ1 H1 Hf1, evs C es ρ S = .ok ws S1 → Sm A.K A.bs μ1 S1 H1 Hf1 → En A.K Hf1 μ1 A.xr ρ σ → Paired (WR A.K Hf1 μ1 A.xr) ws vs → Xt S μ H Hf S1 μ1 H1 Hf1 → Rs A R σ S1 μ1 H1 Hf1 (f ws S1) Q → r vs H1) : tAs A ρ S (evs C es ρ S) σ H r := by
  refine ⟨μ, Hf, sm, en, ?_⟩
  cases e1 : evs C es ρ S with
  | ok ws S1 => rw [e1] at h; exact fun vs μ1 H1 Hf1 s1 x1 w1 => hr ws S1 vs μ1 H1 Hf1 e1 s1 (en.xt x1) w1 x1 (Rs.step h x1)
  | ex x S1 => rw [e1] at h; exact h
  | no => rw [e1] at h; exact h
theorem len_line {n : Nat} (h : n ≤ 1000) : n ≤ sizeLine := by rw [sizeLine_eq]; omega
theorem sd_tup {es : List Ex} {k : Nat} {p : Pos} (ha : ∀ x ∈ es, Ok A X C ρ x) : Ok A X C ρ (.tup es k p) := fun S => by
  unfold Ex.e ev
  by_cases hl : es.length ≤ 1000
  · rw [if_pos hl]
    refine .of (impPE (pe_tup (pa_evs es ha S)) fun σ H Q ⟨μ, Hf, sm, en, h⟩ => ?_)
    refine as_then sm en h fun ws S1 vs μ1 H1 Hf1 e1 s1 _ w1 _ h1 => ⟨?_, fun p hp => mkT_rs s1 w1 h1 hp⟩
    rw [← w1.length, evs_len _ _ _ _ e1]
    exact len_line hl
  · rw [if_neg hl]; exact noPB
theorem sd_lst {m : Bool} {es : List Ex} {p : Pos} (ha : ∀ x ∈ es, Ok A X C ρ x) : Ok A X C ρ (.lst m es p) := fun S => by
  unfold Ex.e ev
  by_cases hl : es.length ≤ 1000
  · rw [if_pos hl]
    refine .of (impPE (pe_lst (pa_evs es ha S)) fun σ H Q ⟨μ, Hf, sm, en, h⟩ => ?_)
    refine as_then sm en h fun ws S1 vs μ1 H1 Hf1 e1 s1 _ w1 _ h1 => ⟨?_, fun p hp => mkL_rs s1 w1 h1 hp⟩
    rw [← w1.length, evs_len _ _ _ _ e1]
    exact len_line hl
  · rw [if_neg hl]; exact noPB
/-! ### dicts -/
theorem sd_dic0 {m tk : Bool} {p : Pos} : Ok A X C ρ (.dic0 m tk p) := fun S => by
  unfold Ex.e ev
  show PB X (.Dict [] [] p) _
  have key : ∀ (σ : L2.St) (H : Hp) (Q : VK) (o : HO), (tk = false → o = .dK []) → (tk = true → o = .dT []) → tEv A ρ S (mkD m tk [] S) σ H Q → ∀ q, H q = none → Q (.ref q) (upd H q o) := fun σ H Q o h0 h1 ⟨μ, Hf, sm, en, h⟩ q hq => by
    cases m with
    | true =>
      have h' : Rs A (RW A) σ S μ H Hf (.ok (.h S.length) (S ++ [.dic tk false []])) Q := h
      have cr : CR A.K (upd H q o) Hf (μ ++ [.ref q]) (.dic tk false []) (.ref q) := by
        cases tk with
        | false => exact .dK (kvs := []) upd_same (by rw [h0 rfl]; rfl) (sm.fresh hq) rfl .nil
        | true => exact .dT (kvs := []) upd_same (by rw [h1 rfl]; rfl) (sm.fresh hq) rfl .nil
      obtain ⟨s1, x1⟩ := sm.newC hq cr rfl
      refine h'.to s1 x1 ?_
      show (μ ++ [V.ref q])[S.length]? = some (.ref q)
      rw [← sm.len]; simp
    | false =>
      have h' : Rs A (RW A) σ S μ H Hf (.ok (.t (.dic tk [])) S) Q := h
      obtain ⟨s1, x1⟩ := sm.tree (o := o) hq
      refine h'.to s1 x1 ?_
      cases tk with
      | false => exact .dK (kvs := []) (ks := []) (.inl (by rw [upd_same, h0 rfl])) rfl .nil rfl
      | true => exact .dT (kvs := []) (.inl (by rw [upd_same, h1 rfl])) rfl .nil rfl
  cases tk with
  | false => exact .of (impPE pe_dnewK fun σ H Q h => key σ H Q (.dK []) (fun _ => rfl) (fun z => by cases z) h)
  | true => exact .of (impPE pe_dnewT fun σ H Q h => key σ H Q (.dT []) (fun z => by cases z) (fun _ => rfl) h)
theorem atom_v {K : PySem.W.Frag} {H : Hp} {v : V} {d : Dt} {k : Key} (r : Rp K H v d) (h : atomK d = some k) : v = kV k := by
  cases r <;> cases h <;> rfl
theorem atoms_v {K : PySem.W.Frag} {H : Hp} : ∀ {vs : List V} {ds : List Dt} {ks : List Key}, RpA K H vs ds → mapO atomK ds = some ks → vs = ks.map kV
  | _, _, ks, .nil, h => by
    have : ks = [] := by simpa [mapO] using h.symm
    subst this; rfl
  | _, _, ks, .cons h1 t, h => by
    rename_i v vs d ds
    unfold mapO at h
    cases e1 : atomK d with
    | none => rw [e1] at h; simp at h
    | some k =>
      cases e2 : mapO atomK ds with
      | none => rw [e1, e2] at h; simp at h
      | some ks' =>
        rw [e1, e2] at h
        simp at h
        subst h
        rw [List.map_cons, ← atom_v h1 e1, ← atoms_v t e2]
theorem val_get {κ : Type} [DecidableEq κ] {R : Wd → V → Prop} {f : κ → List Key} (hf : ∀ a b, f a = f b → a = b) (k : κ) : ∀ {kvs : List (κ × V)} {kws : List (List Key × Wd)}, kvs.map (fun p => f p.1) = kws.map (·.1) → Paired R (kws.map (·.2)) (kvs.map (·.2)) →
    match getA kws (f k) with | some w => ∃ v, valV kvs k = some v ∧ R w v | none => valV kvs k = none
  | [], [], _, _ => rfl
  | p :: r, q :: s, h1, h2 => by
    simp only [List.map_cons, List.cons.injEq] at h1
    rw [List.map_cons, List.map_cons] at h2
    cases h2 with
    | cons g1 g2 =>
      by_cases e : p.1 = k
      · have e' : q.1 = f k := by rw [← h1.1, e]
        have g : getA (q :: s) (f k) = some q.2 := by simp [getA, List.find?_cons, e']
        rw [g]
        exact ⟨p.2, valV_pos e, g1⟩
      · have e' : ¬ q.1 = f k := fun z => e (hf _ _ (by rw [h1.1, z]))
        have g : getA (q :: s) (f k) = getA s (f k) := by simp [getA, List.find?_cons, e']
        rw [g, valV_neg e]
        exact val_get hf k h1.2 g2
  | [], _ :: _, h1, _ => by simp at h1
  | _ :: _, [], h1, _ => by simp at h1
theorem one_inj (a b : Key) (h : [a] = [b]) : a = b := by injection h
/-- what a dict holds at a key -/
theorem dget_ok {K : PySem.W.Frag} {bs : List Nat} {μ : List V} {H Hf : Hp} {tk : Bool} {kws : List (List Key × Wd)} {a : Addr} {d : Dt} {u : V} {k : List Key} (s : Sm K bs μ S H Hf) (g : DicR K H Hf μ tk kws a) (r : Rp K Hf u d) (hk : keyOf tk d = some k) :
    ∃ o, DGet H a u o ∧ match getA kws k with | some w => ∃ v, o = some v ∧ WR K Hf μ noXr w v | none => o = none := by
  rcases g with ⟨rfl, kvs, h1, h2, h3⟩ | ⟨rfl, kvs, h1, h2, h3⟩
  · cases e : atomK d with
    | none => simp [keyOf, e] at hk
    | some k0 =>
      have ek : [k0] = k := by simpa [keyOf, e] using hk
      subst ek
      have eu := atom_v r e
      exact ⟨valV kvs k0, .inl ⟨kvs, k0, h1, eu, rfl⟩, val_get (f := fun k => [k]) one_inj k0 h2 h3⟩
  · cases r with
    | tup q1 q2 =>
      rename_i b vs ds
      have eu := atoms_v q2 (show mapO atomK ds = some k from hk)
      subst eu
      exact ⟨valV kvs k, .inr ⟨kvs, k, b, h1, rfl, s.sub.tp _ _ q1, rfl⟩, val_get (f := fun k => k) (fun _ _ e => e) k h2 h3⟩
    | _ => simp [keyOf] at hk
def dgetD (x y : Wd) (S : Store) : Res Wd := match y, vw S x with
  | .t d, .dic tk kvs => (opt S (keyOf tk d)).bd fun k S3 => opt S3 (getA kvs k)
  | _, _ => .no
theorem sd_dget {x y : Ex} {p : Pos} (hu : X.A.units + 1 < cLine) (ha : Ok A X C ρ x) (hb : Ok A X C ρ y) : Ok A X C ρ (.dget x y p) := fun S => by
  unfold Ex.e ev
  refine binB (f := dgetD) (r := fun x y H Q => ∃ a v, x = .ref a ∧ DGet H a y (some v) ∧ Q v H) (ha S) hb (fun ta tb h1 h2 => .of (pe_dget hu h1 h2 (by cases y <;> intro _ _ <;> rfl))) fun x y S1 v u σ H μ Hf Q s rx ry h => ?_
  unfold dgetD at h
  split at h
  · rename_i d tk kvs e
    obtain ⟨k, ek, h1⟩ := opt_rs h
    obtain ⟨w, ew, h2⟩ := opt_rs' h1
    obtain ⟨a, rfl, g⟩ := s.dic rx e
    obtain ⟨o, q1, q2⟩ := dget_ok s g ry ek
    rw [ew] at q2
    obtain ⟨v, rfl, r⟩ := q2
    exact ⟨a, v, rfl, q1, h2.done s (r.reX fun e z => by rw [z] at r; exact r)⟩
  · exact h.elim
def rDIn (neg : Bool) : R2 := fun y x H Q => ∃ a o, x = .ref a ∧ DGet H a y o ∧ Q (.bl (neg ^^ o.isSome)) H
theorem sd_inD {neg : Bool} {x y : Ex} {p : Pos} (hu : X.A.units + 1 < cLine) (ha : Ok A X C ρ x) (hb : Ok A X C ρ y) : Ok A X C ρ (.inD neg x y p) := fun S => by
  unfold Ex.e ev
  refine binB (r := rDIn neg) (ha S) hb (fun ta tb h1 h2 => ?_) fun x y S1 v u σ H μ Hf Q s rx ry h => ?_
  · cases neg with
    | false =>
      exact ⟨impPE (pe_cmp (pc_din hu h1 h2) (noSet _ _)) fun σ H Q h => by simpa [tOp, rDIn, tDIn] using h, impPT (pt_cmp (pc_din hu h1 h2) (noSet _ _)) fun σ H Q h => by simpa [tTest, tB, tOp, rDIn, tDIn] using h⟩
    | true =>
      exact ⟨impPE (pe_cmp (pc_dnotin hu h1 h2) (noSet _ _)) fun σ H Q h => by simpa [tOp, rDIn, tDNotIn] using h, impPT (pt_cmp (pc_dnotin hu h1 h2) (noSet _ _)) fun σ H Q h => by simpa [tTest, tB, tOp, rDIn, tDNotIn] using h⟩
  · split at h
    · rename_i d tk kvs e
      obtain ⟨k, ek, h1⟩ := opt_rs h
      obtain ⟨a, rfl, g⟩ := s.dic ry e
      obtain ⟨o, q1, q2⟩ := dget_ok s g rx ek
      refine ⟨a, o, rfl, q1, ?_⟩
      have eo : o.isSome = (getA kvs k).isSome := by
        cases e2 : getA kvs k with
        | none => rw [e2] at q2; rw [q2]; rfl
        | some w => rw [e2] at q2; obtain ⟨v, rfl, _⟩ := q2; rfl
      rw [eo]
      exact h1.done s (.bl _)
    · exact h.elim
theorem sd_inT {neg : Bool} {x y : Ex} {p : Pos} (ha : Ok A X C ρ x) (hb : Ok A X C ρ y) : Ok A X C ρ (.inT neg x y p) := fun S => by
  unfold Ex.e ev
  refine binB (r := fun x y H Q => ∃ i j, x = .str i ∧ y = .str j ∧ Q (.bl (neg ^^ (!(Builtin.Str.occurrences j i 0 j.length 1).isEmpty))) H) (ha S) hb (cmpPB ?_ (noSet _ _)) fun x y S1 v u σ H μ Hf Q s rx ry h => ?_
  · cases neg with
    | false =>
      intro pins s σ H x y v u Q I rx ry ⟨i, j, h1, h2, q⟩
      exact op_in_str pins s σ H x y v u Q I rx ry ⟨i, j, h1, h2, by simpa using q⟩
    | true =>
      intro pins s σ H x y v u Q I rx ry ⟨i, j, h1, h2, q⟩
      exact op_notIn_str pins s σ H x y v u Q I rx ry ⟨i, j, h1, h2, by simpa using q⟩
  · split at h
    · cases wr_str rx; cases wr_str ry
      exact ⟨_, _, rfl, rfl, h.done s (.bl _)⟩
    · exact h.elim
theorem sd_isB {neg : Bool} {x y : Ex} {p : Pos} (ha : Ok A X C ρ x) (hb : Ok A X C ρ y) : Ok A X C ρ (.isB neg x y p) := fun S => by
  unfold Ex.e ev
  refine binB (r := fun x y H Q => ∃ i j, x = .bl i ∧ y = .bl j ∧ Q (.bl (neg ^^ decide (i = j))) H) (ha S) hb (cmpPB ?_ (noSet _ _)) fun x y S1 v u σ H μ Hf Q s rx ry h => ?_
  · cases neg with
    | false =>
      intro pins s σ H x y v u Q I rx ry ⟨i, j, h1, h2, q⟩
      exact op_is_bl pins s σ H x y v u Q I rx ry ⟨i, j, h1, h2, by simpa using q⟩
    | true =>
      intro pins s σ H x y v u Q I rx ry ⟨i, j, h1, h2, q⟩
      exact op_isnot_bl pins s σ H x y v u Q I rx ry ⟨i, j, h1, h2, by simpa using q⟩
  · split at h
    · cases wr_bl rx; cases wr_bl ry
      exact ⟨_, _, rfl, rfl, h.done s (.bl _)⟩
    · exact h.elim
/-! ### items, slices -/
theorem noXr_any {K : PySem.W.Frag} {Hf : Hp} {μ : List V} {xr : Xr} {w : Wd} {v : V} (r : WR K Hf μ noXr w v) : WR K Hf μ xr w v := r.reX fun e z => by rw [z] at r; exact r
theorem noXr_anys {K : PySem.W.Frag} {Hf : Hp} {μ : List V} {xr : Xr} {ws : List Wd} {vs : List V} (r : Paired (WR K Hf μ noXr) ws vs) : Paired (WR K Hf μ xr) ws vs := L2.Paired.mapP r fun _ _ q => noXr_any q
theorem sd_idx {x y : Ex} {p : Pos} (hK : X.K = A.K) (ha : Ok A X C ρ x) (hb : Ok A X C ρ y) : Ok A X C ρ (.idx x y p) := fun S => by
  unfold Ex.e ev
  refine binB (r := rIx X.K) (ha S) hb (fun ta tb h1 h2 => .of (pe_ix ix_seq h1 h2 (by cases y <;> intro _ _ <;> rfl))) fun x y S1 v u σ H μ Hf Q s rx ry h => ?_
  obtain ⟨i, ei, h1⟩ := opt_rs h
  obtain rfl := int_of ei
  cases wr_int ry
  unfold idxD at h1
  split at h1
  · cases wr_str rx
    split at h1
    · rename_i hl
      split at h1
      · rename_i c ec
        exact .inr (.inr ⟨_, _, c, rfl, rfl, by rw [← lineN_eq]; exact hl, ec, h1.done s (.str _)⟩)
      · exact h1.elim
    · exact h1.elim
  · split at h1
    · rename_i tup ws e
      obtain ⟨w, ew, h2⟩ := opt_rs' h1
      obtain ⟨a, vs, rfl, q, r⟩ := s.seq rx e
      obtain ⟨v, ev, rv⟩ := paired_at r ew
      have h3 := h2.done s (noXr_any rv)
      rw [hK]
      cases tup with
      | false => exact .inl ⟨a, vs, i, v, rfl, rfl, q, ev, h3⟩
      | true => exact .inr (.inl ⟨a, vs, i, v, rfl, rfl, q, ev, h3⟩)
    · exact h1.elim
theorem cut_eq (vs : List V) (lo hi : Option Int) : cutV vs lo hi = cutG vs lo hi := rfl
theorem paired_cut {α β : Type} {R : α → β → Prop} {xs : List α} {ys : List β} (r : Paired R xs ys) (lo hi : Option Int) : Paired R (cutG xs lo hi) (cutG ys lo hi) := by
  unfold cutG
  rw [r.length]
  exact paired_take _ (paired_drop _ r)
theorem map_cut {α β : Type} {f : α → β} {xs : List α} (lo hi : Option Int) : (cutG xs lo hi).map f = cutG (xs.map f) lo hi := by
  unfold cutG
  rw [List.map_take, List.map_drop, List.length_map]
theorem rpa_cut {K : PySem.W.Frag} {H : Hp} {vs : List V} {ds : List Dt} (r : RpA K H vs ds) (lo hi : Option Int) : RpA K H (cutG vs lo hi) (cutG ds lo hi) := RpA.of (paired_cut r.paired lo hi)
theorem sd_slc {m : Bool} {x : Ex} {lo hi : Option Ex} {q p : Pos} (hK : X.K = A.K) (ha : Ok A X C ρ x) (hl : ∀ y, lo = some y → Ok A X C ρ y) (hh : ∀ y, hi = some y → Ok A X C ρ y) : Ok A X C ρ (.slc m x lo hi q p) := fun S => by
  unfold Ex.e ev
  -- parts
  have part : ∀ (o : Option Ex), (∀ y, o = some y → Ok A X C ρ y) → ∀ S, ∃ t : TO, PO X (ExO.e o) t ∧ ∀ (σ : L2.St) (H : Hp) (Q : VK) (f : Option Int → Store → Res Wd) (r : Option Int → Hp → Prop) (μ : List V) (Hf : Hp), Sm A.K A.bs μ S H Hf → En A.K Hf μ A.xr ρ σ →
      Rs A (RW A) σ S μ H Hf ((evO C o ρ S).bd f) Q → (∀ i S1 μ1 H1 Hf1, evO C o ρ S = .ok i S1 → Sm A.K A.bs μ1 S1 H1 Hf1 → En A.K Hf1 μ1 A.xr ρ σ → Xt S μ H Hf S1 μ1 H1 Hf1 → Rs A (RW A) σ S1 μ1 H1 Hf1 (f i S1) Q → r i H1) → t σ H r := by
    intro o ho S
    cases o with
    | none =>
      refine ⟨_, po_none, fun σ H Q f r μ Hf sm en h k => ?_⟩
      have e : evO C none ρ S = .ok none S := by unfold evO; rfl
      rw [e] at h
      exact k none S μ H Hf e sm en .refl h
    | some y =>
      refine ⟨_, po_some (ho y rfl S).pe, fun σ H Q f r μ Hf sm en h k => ?_⟩
      have e : evO C (some y) ρ S = (ev C y ρ S).bd fun w S1 => (opt S1 (isInt w)).bd fun i S2 => .ok (some i) S2 := by unfold evO; rfl
      refine ⟨μ, Hf, sm, en, ?_⟩
      rw [e] at h k
      cases e1 : ev C y ρ S with
      | no => rw [e1] at h; exact h
      | ex q S1 => rw [e1] at h; exact h
      | ok w S1 =>
        rw [e1] at h k
        intro v μ1 H1 Hf1 s1 x1 w1
        cases e2 : isInt w with
        | none =>
          have h' : Rs A (RW A) σ S μ H Hf (((opt S1 (isInt w)).bd fun i S2 => Res.ok (some i) S2).bd f) Q := h
          rw [e2] at h'
          exact h'.elim
        | some i =>
          have h' : Rs A (RW A) σ S μ H Hf (((opt S1 (isInt w)).bd fun i S2 => Res.ok (some i) S2).bd f) Q := h
          rw [e2] at h'
          obtain rfl := int_of e2
          cases wr_int w1
          exact ⟨i, rfl, k (some i) S1 μ1 H1 Hf1 rfl s1 (en.xt x1) x1 (Rs.step h' x1)⟩
  have mk : ∀ (t1 : TO) (t2 : TO), PO X (ExO.e lo) t1 → PO X (ExO.e hi) t2 → ∀ ta, PE X x.e ta → PE X (.Subscript x.e (.Slice (ExO.e lo) (ExO.e hi) none q) p) (tSl (fun x lo hi H Q => rSlL X.K x lo hi H Q ∨ (rSlA X.K x lo hi H Q ∨ rSlS x lo hi H Q)) ta t1 t2) :=
    fun t1 t2 h1 h2 ta h => pe_slice (sl_list.or (sl_tupA.or sl_str)) h h1 h2
  refine .of ?_
  cases e1 : ev C x ρ S with
  | no => exact noPB.pe
  | ex q1 S1 =>
    obtain ⟨t1, p1, _⟩ := part lo hl S
    obtain ⟨t2, p2, _⟩ := part hi hh S
    have ha' := (ha S).pe
    rw [e1] at ha'
    exact impPE (mk t1 t2 p1 p2 _ ha') fun σ H Q ⟨μ, Hf, sm, en, h⟩ => ⟨μ, Hf, sm, en, h⟩
  | ok w S1 =>
    have ha' := (ha S).pe
    rw [e1] at ha'
    obtain ⟨t1, p1, k1⟩ := part lo hl S1
    have fin : ∀ (S3 : Store) (l u : Option Int) (σ : L2.St) (H : Hp) (Q : VK) (μ : List V) (Hf : Hp) (v : V), Sm A.K A.bs μ S3 H Hf → WR A.K Hf μ A.xr w v → Rs A (RW A) σ S3 μ H Hf (slcD m w l u S3) Q → (rSlL X.K v l u H Q ∨ (rSlA X.K v l u H Q ∨ rSlS v l u H Q)) := by
      intro S3 l u σ H Q μ Hf v s rw_ h
      unfold slcD at h
      split at h
      · cases wr_str rw_
        split at h
        · rename_i hc
          exact .inr (.inr ⟨_, rfl, by rw [← lineN_eq]; exact hc, h.done s (.str _)⟩)
        · exact h.elim
      · cases rw_ with
        | tup q1 q2 =>
          rename_i ds a vs
          refine .inr (.inl ⟨a, vs, rfl, .inl (.inl (s.sub.tp _ _ q1)), fun hw => ?_, fun hw p hp => ?_⟩)
          · have ew : cutG vs l u = vs := by
              unfold cutG
              rw [hw.1, hw.2]; simp
            have r := rpa_cut q2 l u
            rw [ew] at r
            exact h.done s (.tup q1 r)
          · obtain ⟨s1, x1⟩ := s.tree (o := .tup (cutV vs l u)) hp
            exact h.to s1 x1 (.tup upd_same (rpa_cut (q2.mono x1.fr) l u))
      · split at h
        · rename_i ws e
          obtain ⟨a, vs, rfl, q, r⟩ := s.seq rw_ e
          rw [hK]
          exact .inl ⟨a, vs, rfl, q, fun p hp => mkL_rs (xr := noXr) s (paired_cut r l u) h hp⟩
        · exact h.elim
    cases e2 : evO C lo ρ S1 with
    | no =>
      refine neverPE fun σ H Q ⟨μ, Hf, sm, en, h⟩ => ?_
      have h' : Rs A (RW A) σ S μ H Hf ((evO C lo ρ S1).bd fun l S2 => (evO C hi ρ S2).bd fun h S3 => slcD m w l h S3) Q := h
      rw [e2] at h'
      exact h'
    | ex q1 S2 =>
      obtain ⟨t2, p2, _⟩ := part hi hh S
      refine impPE (mk t1 t2 p1 p2 _ ha') fun σ H Q ⟨μ, Hf, sm, en, h⟩ => ⟨μ, Hf, sm, en, fun v μ1 H1 Hf1 s1 x1 w1 => ?_⟩
      refine k1 σ H1 Q (fun l S2 => (evO C hi ρ S2).bd fun h S3 => slcD m w l h S3) _ μ1 Hf1 s1 (en.xt x1) (Rs.step h x1) fun i S2 μ2 H2 Hf2 e3 => ?_
      rw [e2] at e3; cases e3
    | ok l S2 =>
      obtain ⟨t2, p2, k2⟩ := part hi hh S2
      refine impPE (mk t1 t2 p1 p2 _ ha') fun σ H Q ⟨μ, Hf, sm, en, h⟩ => ⟨μ, Hf, sm, en, fun v μ1 H1 Hf1 s1 x1 w1 => ?_⟩
      refine k1 σ H1 Q (fun l S2 => (evO C hi ρ S2).bd fun h S3 => slcD m w l h S3) _ μ1 Hf1 s1 (en.xt x1) (Rs.step h x1) fun i S2' μ2 H2 Hf2 e3 s2 en2 x2 h2 => ?_
      rw [e2] at e3
      injection e3 with g1 g2
      subst g1; subst g2
      exact k2 σ H2 Q (fun h S3 => slcD m w l h S3) _ μ2 Hf2 s2 en2 h2 fun j S3 μ3 H3 Hf3 _ s3 _ x3 h3 => fin S3 l j σ H3 Q μ3 Hf3 v s3 ((w1.xt x2).xt x3) h3
theorem sd_rev {m : Bool} {x : Ex} {j : Nat} {q1 q2 q3 p : Pos} (hK : X.K = A.K) (ha : Ok A X C ρ x) : Ok A X C ρ (.rev m x j q1 q2 q3 p) := fun S => by
  unfold Ex.e ev
  refine unB (r := fun x H Q => ∃ a xs, x = .ref a ∧ SqL X.K H a xs ∧ ∀ p, H p = none → Q (.ref p) (upd H p (.lst xs.reverse))) (ha S) (fun ta h => .of (pe_revL h.pe)) fun w S1 v σ H μ Hf Q s r h => ?_
  split at h
  · rename_i ws e
    obtain ⟨a, vs, rfl, q, rs⟩ := s.seq r e
    rw [hK]
    exact ⟨a, vs, rfl, q, fun p hp => mkL_rs s (paired_rev rs) h hp⟩
  · exact h.elim
end
end Gw

namespace Gw
open PySem PySem.Spec PyProof.Rows L2
def Fn.ps (F : Fn) : List Str := F.N.take F.np
abbrev paF (K : PySem.W.Frag) (ca : Str → Addr) (bs : List Nat) (E : XK) : Pa := ⟨K, ca, bs, noXr, fun cls d _ H => E cls d H⟩
/-- what a def promises -/
def spG (P : Prg) (K : PySem.W.Frag) (ca : Str → Addr) (n : Nat) (f : Str) (np : Nat) : Sp := fun vs H Q E => vs.length = np ∧ ∃ bs μ Hf S ws m, Sm K bs μ S H Hf ∧ Paired (WR K Hf μ noXr) ws vs ∧ Rs (paF K ca bs E) (RW (paF K ca bs E)) [] S μ H Hf (evF P n f m ws S) Q
/-- how its arguments bind -/
def BindsA (fd : FuncData) (ps : List Str) : Prop := ∀ (s : Shared) (us : List Value), us.length = ps.length → BindsTo s fd ⟨us, []⟩ (ps.zip us)
theorem BindsA.to {K : PySem.W.Frag} {fd : FuncData} {ps : List Str} (b : BindsA fd ps) : Binds K fd ps [] := fun s us _ hl => by
  rw [List.append_nil] at hl ⊢
  exact b s us hl
def FnS (prog : Program) (w : World) (K : PySem.W.Frag) (mg : Str → Option Value) (P : Prg) (ca : Str → Addr) (n : Nat) (f : Str) (F : Fn) : Prop :=
  ∃ fa fd, mg f = some (.ref fa) ∧ PySem.W.keepIn K (.ref fa) = true ∧ BindsA fd F.ps ∧ F.ps.length = F.np ∧ ∀ base, FnOk prog w K mg base (L2.CX prog w) (n + 8) fa fd F.ps (spG P K ca n f F.np)
def noCall : Str → Option (Bool → List Wd → Store → Res Wd) := fun _ => none
def bltNames : List Str := ["len", "sorted", "list", "tuple", "sum", "min", "max", "all", "any", "int", "str", "dict", "set", "range", "enumerate", "zip", "isinstance", "bool"]
structure CalmG (P : Prg) (n : Nat) (A : Pa) (X : Cx) (C : Cxt) : Prop where
  calm : X.calm = true
  xr : A.xr = noXr
  call : C.call = callOf P n
  room : Room (n + 8) X.A
  tk : Takes X A.W
  po : PassesOwn (model X.prog X.w) X.A X.env X.xe
/-- what is fixed around code -/
structure Gd (P : Prg) (n : Nat) (A : Pa) (X : Cx) (C : Cxt) : Prop where
  K : X.K = A.K
  un : X.A.units + 100 < cLine
  nd : X.N.Nodup
  kind : X.env.scope.kind = .function
  bs : ∀ b ∈ A.bs, b ≤ C.base
  on : C.calm = true → CalmG P n A X C
  off : C.calm = false → C.call = noCall
  fns : ∀ f F, P.fn f = some F → FnS X.prog X.w X.K X.mg P A.ca n f F
  glb : ∀ x w, C.glb x = some w → ∃ v u, X.mg x = some u ∧ RelV v u ∧ ∀ Hf μ xr, WR A.K Hf μ xr w v
  blt : ∀ x ∈ bltNames, X.mg x = none
section
variable {P : Prg} {n : Nat} {A : Pa} {X : Cx} {ρ : Env} {C : Cxt}
theorem pe_callS0 {k : Nat} {CX : CXT} {f : Addr} {fd : FuncData} {ps : List Str} {sp : Sp} {E : L2.St → XK} {x : Str} {p pos : Pos} (F : FnOk X.prog X.w X.K X.mg X.base CX k f fd ps sp) (hr : Room k X.A) (hg : Gl X x) (hm : X.mg x = some (.ref f)) (hk : PySem.W.keepIn X.K (.ref f) = true) (hb : Binds X.K fd ps []) (hx : ∀ σ, PassesAt CX X σ (E σ))
    (hdb : (x == ("__debug__" : Str)) = false) : PE X (.Call (.Name x p) [] [] pos) (tCallS sp E tNil) := by
  refine ⟨fun pins s σ H Q I h => ?_⟩
  refine wpAny_Call_Name_kw (ld_glob I hg hm ?_ hdb)
  exact PySem.W.callWith_K0 I.kIn hk (run_fnS (us := []) F hr hb (hx σ) I .nil h)
theorem sd_glb {x : Str} {p : Pos} (G : Gd P n A X C) (hg : Gl X x) (hdb : (x == ("__debug__" : Str)) = false) : Ok A X C ρ (.glb x p) := fun S => by
  unfold Ex.e ev
  cases e : C.glb x with
  | none => exact noPB
  | some w =>
    obtain ⟨v, u, hm, r, hw⟩ := G.glb x w e
    refine .of (impPE (pe_glob hg hm r hdb) fun σ H Q ⟨μ, Hf, sm, en, h⟩ => ?_)
    exact Rs.done h sm (hw _ _ _)
theorem rs_wd {K : PySem.W.Frag} {ca : Str → Addr} {bs : List Nat} {W W' : WX} {σ σ' : L2.St} {S : Store} {μ : List V} {H Hf : Hp} {r : Res Wd} {Q : VK} (h : Rs ⟨K, ca, bs, noXr, W⟩ (RW ⟨K, ca, bs, noXr, W⟩) σ S μ H Hf r Q) (hW : ∀ c d H, W c d σ H → W' c d σ' H) :
    Rs ⟨K, ca, bs, noXr, W'⟩ (RW ⟨K, ca, bs, noXr, W'⟩) σ' S μ H Hf r Q := by
  cases r with
  | ok w S' => exact fun v μ' H' Hf' s x w => h v μ' H' Hf' s x w
  | ex e S' => exact fun cls d μ' H' Hf' s x w => hW _ _ _ (h cls d μ' H' Hf' s x w)
  | no => exact h
theorem evF_len {f : Str} {m : Bool} {ws : List Wd} {S : Store} {F : Fn} (hf : P.fn f = some F) (h : ws.length ≠ F.np) : evF P n f m ws S = .no := by
  cases n with
  | zero => rfl
  | succ n => unfold evF; rw [hf]; exact if_neg h
theorem evF_none {f : Str} {m : Bool} {ws : List Wd} {S : Store} (hf : P.fn f = none) : evF P n f m ws S = .no := by
  cases n with
  | zero => rfl
  | succ n => unfold evF; rw [hf]
theorem sd_call {f : Str} {m : Bool} {es : List Ex} {q p : Pos} (G : Gd P n A X C) (hg : Gl X f) (hdb : (f == ("__debug__" : Str)) = false) (ha : ∀ x ∈ es, Ok A X C ρ x) : Ok A X C ρ (.call f m q es p) := fun S => by
  unfold Ex.e ev
  cases ec : C.call f with
  | none => exact noPB
  | some g =>
    have hcalm : C.calm = true := by
      cases z : C.calm with
      | true => rfl
      | false => rw [G.off z] at ec; cases ec
    have M := G.on hcalm
    rw [M.call] at ec
    unfold callOf at ec
    split at ec
    · rename_i hs
      injection ec with ec
      subst ec
      obtain ⟨F, hF⟩ := Option.isSome_iff_exists.mp hs
      obtain ⟨fa, fd, hm, hk, hb, hl, ok⟩ := G.fns f F hF
      have ax := M.xr
      obtain ⟨aK, aca, abs, axr, aW⟩ := A
      dsimp only at ax
      subst ax
      have hK := G.K
      dsimp only at hK
      subst hK
      have fin : ∀ (S1 : Store) (σ : L2.St) (H : Hp) (Q : VK) (μ : List V) (Hf : Hp) (ws : List Wd) (vs : List V), Sm X.K abs μ S1 H Hf → Paired (WR X.K Hf μ noXr) ws vs → Rs ⟨X.K, aca, abs, noXr, aW⟩ (RW ⟨X.K, aca, abs, noXr, aW⟩) σ S1 μ H Hf (evF P n f m ws S1) Q → spG P X.K aca n f F.np vs H Q (WE aW σ) := by
        intro S1 σ H Q μ Hf ws vs s r h
        refine ⟨?_, abs, μ, Hf, S1, ws, m, s, r, rs_wd h fun _ _ _ z => z⟩
        by_cases hw : ws.length = F.np
        · rw [← hw, r.length]
        · rw [evF_len hF hw] at h; exact h.elim
      cases es with
      | nil =>
        refine .of (impPE (pe_callS0 (E := WE aW) (ok _) M.room hg hm hk hb.to (fun σ => passAt M.tk σ) hdb) fun σ H Q ⟨μ, Hf, sm, en, h⟩ => ?_)
        unfold evs at h
        exact fin S σ H Q μ Hf [] [] sm .nil h
      | cons x r =>
        refine .of (impPE (pe_callS (E := WE aW) (ok _) M.room hg hm hk hb.to (fun σ => passAt M.tk σ) (by exact pa_evs (x :: r) ha S) hdb (star_ex _ _ _) (star_exs _ _ _)) fun σ H Q ⟨μ, Hf, sm, en, h⟩ => ?_)
        exact as_then sm en h fun ws S1 vs μ1 H1 Hf1 _ s1 _ w1 _ h1 => fin S1 σ H1 Q μ1 Hf1 ws vs s1 w1 h1
    · cases ec
end
end Gw

namespace Gw
open PySem PySem.Spec PyProof.Rows L2
/-! ### targets -/
mutual
def gT (K : PySem.W.Frag) : Tg → TG
  | .nm i _ _ => gName i
  | .tp ts _ _ => gTup K ts.length (gTs K ts)
def gTs (K : PySem.W.Frag) : List Tg → TGs
  | [] => gNil
  | t :: r => gCons (gT K t) (gTs K r)
end
mutual
def wfT (N : List Str) (sc : Scope) (fnc : Str → Bool) : Tg → Bool
  | .nm i x _ => decide (N[i]? = some x) && (match sc.names.lookup x with | some .local => true | some .cell => fnc x | _ => false)
  | .tp ts _ _ => wfTs N sc fnc ts
def wfTs (N : List Str) (sc : Scope) (fnc : Str → Bool) : List Tg → Bool
  | [] => true
  | t :: r => wfT N sc fnc t && wfTs N sc fnc r
end
mutual
def ixT : Tg → List Nat
  | .nm i _ _ => [i]
  | .tp ts _ _ => ixTs ts
def ixTs : List Tg → List Nat
  | [] => []
  | t :: r => ixT t ++ ixTs r
end
theorem loc_of {sc : Scope} {x : Str} {b : Bool} (h : (match sc.names.lookup x with | some .local => true | some .cell => b | _ => false) = true) : Loc sc x ∧ (b = true ∨ sc.names.lookup x = some .local) := by
  split at h
  · rename_i e; exact ⟨.inl e, .inr e⟩
  · rename_i e; exact ⟨.inr e, .inl h⟩
  · cases h
theorem tg_each (t : Tg) (r : List Expr) (env : PySem.Env) : assignEach (t.e :: r) env = (false, assign t.e env) :: assignEach r env := by cases t <;> rfl
theorem tgs_len : ∀ (ts : List Tg) (env : PySem.Env), (assignEach (Tgs.e ts) env).length = ts.length
  | [], _ => rfl
  | t :: r, env => by unfold Tgs.e; rw [tg_each, List.length_cons, List.length_cons, tgs_len r env]
theorem tgs_star : ∀ (ts : List Tg) (env : PySem.Env), (assignEach (Tgs.e ts) env).findIdx? (·.1) = none
  | [], _ => rfl
  | t :: r, env => by
    unfold Tgs.e
    rw [tg_each, List.findIdx?_cons, tgs_star r env]
    rfl
section
variable {X : Cx}
mutual
theorem pg_T (hc : X.calm = true) (hN : X.N.Nodup) : ∀ t : Tg, wfT X.N X.env.scope X.fn t = true → PG X t.e (gT X.K t)
  | .nm i x p, h => by
    unfold wfT at h
    obtain ⟨h1, h2⟩ := Bool.and_eq_true_iff.mp h
    obtain ⟨l1, l2⟩ := loc_of h2
    unfold Tg.e gT
    exact pg_name hN (of_decide_eq_true h1) l1 l2
  | .tp ts k p, h => by
    unfold wfT at h
    unfold Tg.e gT
    exact pg_tup hc (pgs_T hc hN ts h) (tgs_len _ _) (tgs_star _ _)
theorem pgs_T (hc : X.calm = true) (hN : X.N.Nodup) : ∀ ts : List Tg, wfTs X.N X.env.scope X.fn ts = true → PGs X (Tgs.e ts) (gTs X.K ts)
  | [], _ => by unfold Tgs.e gTs; exact pgs_nil
  | t :: r, h => by
    unfold wfTs at h
    obtain ⟨h1, h2⟩ := Bool.and_eq_true_iff.mp h
    unfold Tgs.e gTs
    exact pgs_cons (pg_T hc hN t h1) (pgs_T hc hN r h2) (by rw [tg_each]; rfl)
end
end
theorem En.set {K : PySem.W.Frag} {Hf : Hp} {μ : List V} {xr : Xr} {ρ : Env} {σ : L2.St} (e : En K Hf μ xr ρ σ) {i : Nat} {w : Wd} {v : V} (r : WR K Hf μ xr w v) : En K Hf μ xr (ρ.set i (some w)) (σ.set i (some v)) := by
  refine ⟨by simp [e.len], e.h0, fun j u h => ?_⟩
  by_cases hj : i = j
  · subst hj
    by_cases hl : i < ρ.length
    · rw [List.getElem?_set_self hl] at h
      cases h
      exact ⟨v, by rw [List.getElem?_set_self (by rw [← e.len]; exact hl)], r⟩
    · rw [List.getElem?_eq_none (by simpa using hl)] at h; cases h
  · rw [List.getElem?_set_ne hj] at h ⊢
    exact e.at_ j u h
theorem En.unset {K : PySem.W.Frag} {Hf : Hp} {μ : List V} {xr : Xr} {ρ : Env} {σ : L2.St} (e : En K Hf μ xr ρ σ) (i : Nat) : En K Hf μ xr (ρ.set i none) (σ.set i none) := by
  refine ⟨by simp [e.len], e.h0, fun j u h => ?_⟩
  by_cases hj : i = j
  · subst hj
    by_cases hl : i < ρ.length
    · rw [List.getElem?_set_self hl] at h; cases h
    · rw [List.getElem?_eq_none (by simpa using hl)] at h; cases h
  · rw [List.getElem?_set_ne hj] at h ⊢
    exact e.at_ j u h
/-- slots that agree but at some -/
def Off (ix : List Nat) (σ σ' : L2.St) : Prop := σ'.length = σ.length ∧ ∀ j, j ∉ ix → σ'[j]? = σ[j]?
section
variable {K : PySem.W.Frag} {bs : List Nat} {μ : List V} {H Hf : Hp} {xr : Xr} {S : Store}
mutual
theorem gT_ok (sm : Sm K bs μ S H Hf) : ∀ (t : Tg) (w : Wd) (v : V) (ρ ρ' : Env) (σ : L2.St) (Q : L2.St → Hp → Prop), En K Hf μ xr ρ σ → WR K Hf μ xr w v → bindT S t w ρ = some ρ' → (∀ σ', En K Hf μ xr ρ' σ' → Off (ixT t) σ σ' → Q σ' H) → gT K t v σ H Q
  | .nm i x p, w, v, ρ, ρ', σ, Q, en, r, h, k => by
    unfold bindT at h
    split at h
    · injection h with h
      subst h
      unfold gT
      refine k _ (en.set r) ⟨by simp, fun j hj => ?_⟩
      unfold ixT at hj
      rw [List.getElem?_set_ne (fun z => hj (by simp [z]))]
    · cases h
  | .tp ts kk p, w, v, ρ, ρ', σ, Q, en, r, h, k => by
    unfold bindT at h
    split at h
    · rename_i ws e
      split at h
      · rename_i hl
        obtain ⟨a, vs, rfl, q, rs⟩ := sm.seq r e
        unfold gT
        refine ⟨a, vs, rfl, q, by rw [← rs.length]; exact hl, ?_⟩
        exact gTs_ok sm ts ws vs ρ ρ' σ Q en (noXr_anys rs) h fun σ' e' o => k σ' e' (by unfold ixT; exact o)
      · cases h
    · cases h
theorem gTs_ok (sm : Sm K bs μ S H Hf) : ∀ (ts : List Tg) (ws : List Wd) (vs : List V) (ρ ρ' : Env) (σ : L2.St) (Q : L2.St → Hp → Prop), En K Hf μ xr ρ σ → Paired (WR K Hf μ xr) ws vs → bindTs S ts ws ρ = some ρ' → (∀ σ', En K Hf μ xr ρ' σ' → Off (ixTs ts) σ σ' → Q σ' H) → gTs K ts vs σ H Q
  | [], [], vs, ρ, ρ', σ, Q, en, r, h, k => by
    cases r
    unfold bindTs at h
    injection h with h
    subst h
    unfold gTs
    exact ⟨rfl, k σ en ⟨rfl, fun _ _ => rfl⟩⟩
  | [], _ :: _, _, _, _, _, _, _, _, h, _ => by simp [bindTs] at h
  | _ :: _, [], _, _, _, _, _, _, _, h, _ => by simp [bindTs] at h
  | t :: ts, w :: ws, vs, ρ, ρ', σ, Q, en, r, h, k => by
    cases r with
    | cons r1 r2 =>
      rename_i v vs
      unfold bindTs at h
      cases e1 : bindT S t w ρ with
      | none => rw [e1] at h; cases h
      | some ρ1 =>
        rw [e1] at h
        unfold gTs
        refine ⟨v, vs, rfl, ?_⟩
        refine gT_ok sm t w v ρ ρ1 σ _ en r1 e1 fun σ1 en1 o1 => ?_
        refine gTs_ok sm ts ws vs ρ1 ρ' σ1 Q en1 r2 h fun σ2 en2 o2 => k σ2 en2 ⟨o2.1.trans o1.1, fun j hj => ?_⟩
        unfold ixTs at hj
        rw [List.mem_append] at hj
        exact (o2.2 j fun z => hj (.inr z)).trans (o1.2 j fun z => hj (.inl z))
end
end
/-! ### what is wanted behind a statement -/
def RsO (A : Pa) (S : Store) (μ : List V) (H Hf : Hp) (o : Out) (D : Ends) : Prop := match o with
  | .nx ρ' S' => ∀ σ' μ' H' Hf', Sm A.K A.bs μ' S' H' Hf' → Xt S μ H Hf S' μ' H' Hf' → En A.K Hf' μ' A.xr ρ' σ' → D.nx σ' H'
  | .bk ρ' S' => ∀ σ' μ' H' Hf', Sm A.K A.bs μ' S' H' Hf' → Xt S μ H Hf S' μ' H' Hf' → En A.K Hf' μ' A.xr ρ' σ' → D.bk σ' H'
  | .ct ρ' S' => ∀ σ' μ' H' Hf', Sm A.K A.bs μ' S' H' Hf' → Xt S μ H Hf S' μ' H' Hf' → En A.K Hf' μ' A.xr ρ' σ' → D.ct σ' H'
  | .rt w S' => ∀ v μ' H' Hf', Sm A.K A.bs μ' S' H' Hf' → Xt S μ H Hf S' μ' H' Hf' → WR A.K Hf' μ' A.xr w v → D.rt v H'
  | .ex e ρ' S' => ∀ cls d σ' μ' H' Hf', Sm A.K A.bs μ' S' H' Hf' → Xt S μ H Hf S' μ' H' Hf' → En A.K Hf' μ' A.xr ρ' σ' → XO A.K A.ca Hf' e cls d → A.W cls d σ' H'
  | .no => False
def tSt (A : Pa) (ρ : Env) (S : Store) (o : Out) : TS := fun D σ H => ∃ μ Hf, Sm A.K A.bs μ S H Hf ∧ En A.K Hf μ A.xr ρ σ ∧ RsO A S μ H Hf o D
abbrev OkS (A : Pa) (X : Cx) (C : Cxt) (s : St) : Prop := ∀ ρ S, PS X s.s (tSt A ρ S (exec C s ρ S))
abbrev OkSs (A : Pa) (X : Cx) (C : Cxt) (s : List St) : Prop := ∀ ρ S, PSs X (Sts.s s) (tSt A ρ S (execs C s ρ S))
section
variable {A : Pa} {X : Cx} {C : Cxt} {ρ : Env} {S S1 : Store} {σ : L2.St} {μ μ1 : List V} {H Hf H1 Hf1 : Hp} {o : Out} {D D' : Ends}
theorem RsO.step (h : RsO A S μ H Hf o D) (x : Xt S μ H Hf S1 μ1 H1 Hf1) : RsO A S1 μ1 H1 Hf1 o D := by
  cases o with
  | nx ρ' S' => exact fun σ' μ' H' Hf' s y w => h σ' μ' H' Hf' s (x.trans y) w
  | bk ρ' S' => exact fun σ' μ' H' Hf' s y w => h σ' μ' H' Hf' s (x.trans y) w
  | ct ρ' S' => exact fun σ' μ' H' Hf' s y w => h σ' μ' H' Hf' s (x.trans y) w
  | rt w S' => exact fun σ' μ' H' Hf' s y w => h σ' μ' H' Hf' s (x.trans y) w
  | ex e ρ' S' => exact fun c d σ' μ' H' Hf' s y w => h c d σ' μ' H' Hf' s (x.trans y) w
  | no => exact h
theorem neverPS {e : Stmt} {t : TS} (h : ∀ D σ H, ¬ t D σ H) : PS X e t := ⟨fun _ _ σ H D _ q => absurd q (h D σ H)⟩
theorem neverPSs {e : List Stmt} {t : TS} (h : ∀ D σ H, ¬ t D σ H) : PSs X e t := ⟨fun _ _ σ H D _ q => absurd q (h D σ H)⟩
theorem noPS {e : Stmt} : PS X e (tSt A ρ S .no) := neverPS fun _ _ _ ⟨_, _, _, _, h⟩ => h
theorem noPSs {e : List Stmt} : PSs X e (tSt A ρ S .no) := neverPSs fun _ _ _ ⟨_, _, _, _, h⟩ => h
/-- an expression's value, then something -/
theorem st_then {g : Res Wd} {f : Wd → Store → Out} {r : V → Hp → Prop} (sm : Sm A.K A.bs μ S H Hf) (en : En A.K Hf μ A.xr ρ σ) (h : RsO A S μ H Hf (g.st ρ f) D)
    (hr : ∀ x S1 v μ1 H1 Hf1, Sm A.K A.bs μ1 S1 H1 Hf1 → En A.K Hf1 μ1 A.xr ρ σ → WR A.K Hf1 μ1 A.xr x v → Xt S μ H Hf S1 μ1 H1 Hf1 → RsO A S1 μ1 H1 Hf1 (f x S1) D → g = .ok x S1 → r v H1) : tEv A ρ S g σ H r := by
  refine ⟨μ, Hf, sm, en, ?_⟩
  cases g with
  | ok x S1 => exact fun v μ1 H1 Hf1 s1 x1 w1 => hr x S1 v μ1 H1 Hf1 s1 (en.xt x1) w1 x1 (RsO.step h x1) rfl
  | ex x S1 => exact fun cls d μ1 H1 Hf1 s1 x1 w1 => h cls d σ μ1 H1 Hf1 s1 x1 (en.xt x1) w1
  | no => exact h
theorem opt_st {α : Type} {o : Option α} {f : α → Store → Out} (h : RsO A S μ H Hf ((opt S o).st ρ f) D) : ∃ a, o = some a ∧ RsO A S μ H Hf (f a S) D := by
  cases o with
  | none => exact h.elim
  | some a => exact ⟨a, rfl, h⟩
theorem RsO.nx (h : RsO A S μ H Hf (.nx ρ S1) D) (s : Sm A.K A.bs μ1 S1 H1 Hf1) (x : Xt S μ H Hf S1 μ1 H1 Hf1) (e : En A.K Hf1 μ1 A.xr ρ σ) : D.nx σ H1 := h σ μ1 H1 Hf1 s x e
theorem tst_st {x : Ex} {f : Bool → Store → Out} {r : Bool → Hp → Prop} (sm : Sm A.K A.bs μ S H Hf) (en : En A.K Hf μ A.xr ρ σ) (h : RsO A S μ H Hf ((tst (ev C x ρ S)).st ρ f) D)
    (hr : ∀ b S1 μ1 H1 Hf1, Sm A.K A.bs μ1 S1 H1 Hf1 → En A.K Hf1 μ1 A.xr ρ σ → Xt S μ H Hf S1 μ1 H1 Hf1 → RsO A S1 μ1 H1 Hf1 (f b S1) D → tst (ev C x ρ S) = .ok b S1 → r b H1) : tTest (tEv A ρ S (ev C x ρ S)) σ H r := by
  refine ⟨μ, Hf, sm, en, ?_⟩
  unfold tst at h hr
  cases e1 : ev C x ρ S with
  | no => rw [e1] at h; exact h
  | ex q S1 => rw [e1] at h; exact fun cls d μ1 H1 Hf1 s1 x1 w1 => h cls d σ μ1 H1 Hf1 s1 x1 (en.xt x1) w1
  | ok w S1 =>
    rw [e1] at h hr
    intro v μ1 H1 Hf1 s1 x1 w1
    have h' : RsO A S μ H Hf ((opt S1 (isBl w)).st ρ f) D := h
    cases e2 : isBl w with
    | none => rw [e2] at h'; exact h'.elim
    | some b =>
      rw [e2] at h'
      obtain rfl := bl_of e2
      cases wr_bl w1
      refine ⟨b, rfl, hr b S1 μ1 H1 Hf1 s1 (en.xt x1) x1 (RsO.step h' x1) ?_⟩
      show (opt S1 (isBl (.t (.bl b)))) = _
      rw [e2]; rfl
/-! ### the plain statements -/
theorem so_nil : OkSs A X C [] := fun ρ S => by
  unfold Sts.s execs
  exact impPSs pss_nil fun D σ H ⟨μ, Hf, sm, en, h⟩ => RsO.nx h sm .refl en
theorem so_cons {a : St} {r : List St} (ha : OkS A X C a) (hr : OkSs A X C r) : OkSs A X C (a :: r) := fun ρ S => by
  unfold Sts.s execs
  cases e : exec C a ρ S with
  | nx ρ' S' =>
    have h1 := ha ρ S
    rw [e] at h1
    exact impPSs (pss_cons h1 (hr ρ' S')) fun D σ H ⟨μ, Hf, sm, en, h⟩ => ⟨μ, Hf, sm, en, fun σ' μ' H' Hf' s x en' => ⟨μ', Hf', s, en', RsO.step h x⟩⟩
  | no => exact noPSs
  | bk ρ' S' => have h1 := ha ρ S; rw [e] at h1; exact impPSs (pss_cons h1 (hr ρ S)) fun D σ H ⟨μ, Hf, sm, en, h⟩ => ⟨μ, Hf, sm, en, h⟩
  | ct ρ' S' => have h1 := ha ρ S; rw [e] at h1; exact impPSs (pss_cons h1 (hr ρ S)) fun D σ H ⟨μ, Hf, sm, en, h⟩ => ⟨μ, Hf, sm, en, h⟩
  | rt w S' => have h1 := ha ρ S; rw [e] at h1; exact impPSs (pss_cons h1 (hr ρ S)) fun D σ H ⟨μ, Hf, sm, en, h⟩ => ⟨μ, Hf, sm, en, h⟩
  | ex w ρ' S' => have h1 := ha ρ S; rw [e] at h1; exact impPSs (pss_cons h1 (hr ρ S)) fun D σ H ⟨μ, Hf, sm, en, h⟩ => ⟨μ, Hf, sm, en, h⟩
theorem so_pass {p : Pos} : OkS A X C (.pass p) := fun ρ S => by
  unfold St.s exec
  exact impPS ps_pass fun D σ H ⟨μ, Hf, sm, en, h⟩ => RsO.nx h sm .refl en
theorem so_brk {p : Pos} : OkS A X C (.brk p) := fun ρ S => by
  unfold St.s exec
  exact impPS ps_break fun D σ H ⟨μ, Hf, sm, en, h⟩ => h σ μ H Hf sm .refl en
theorem so_cont {p : Pos} : OkS A X C (.cont p) := fun ρ S => by
  unfold St.s exec
  exact impPS ps_continue fun D σ H ⟨μ, Hf, sm, en, h⟩ => h σ μ H Hf sm .refl en
theorem so_ret0 {p : Pos} : OkS A X C (.ret0 p) := fun ρ S => by
  unfold St.s exec
  exact impPS ps_retN fun D σ H ⟨μ, Hf, sm, en, h⟩ => h .non μ H Hf sm .refl .non
theorem so_ret {e : Ex} {p : Pos} (ha : ∀ ρ, Ok A X C ρ e) : OkS A X C (.ret e p) := fun ρ S => by
  unfold St.s exec
  exact impPS (ps_ret (ha ρ S).pe) fun D σ H ⟨μ, Hf, sm, en, h⟩ => st_then sm en h fun x S1 v μ1 H1 Hf1 s1 en1 w1 _ h1 _ => h1 v μ1 H1 Hf1 s1 .refl w1
theorem so_expr {e : Ex} {p : Pos} (ha : ∀ ρ, Ok A X C ρ e) (hs : swapsWith e.e none p.line X.env = pure false) : OkS A X C (.expr e p) := fun ρ S => by
  unfold St.s exec
  exact impPS (ps_expr (ha ρ S).pe hs) fun D σ H ⟨μ, Hf, sm, en, h⟩ => st_then sm en h fun x S1 v μ1 H1 Hf1 s1 en1 w1 _ h1 _ => RsO.nx h1 s1 .refl en1
theorem so_if {c : Ex} {a b : List St} {p : Pos} (hc : ∀ ρ, Ok A X C ρ c) (ha : OkSs A X C a) (hb : OkSs A X C b) : OkS A X C (.ifS c a b p) := fun ρ S => by
  unfold St.s exec
  cases e : tst (ev C c ρ S) with
  | no => exact noPS
  | ex q S1 =>
    refine impPS (ps_if (hc ρ S).pt (ha ρ S) (hb ρ S)) fun D σ H ⟨μ, Hf, sm, en, h⟩ => ?_
    have h' : RsO A S μ H Hf ((tst (ev C c ρ S)).st ρ fun x S => .no) D := by rw [e]; exact h
    exact tst_st sm en h' fun b S1 μ1 H1 Hf1 s1 en1 x1 h1 _ => h1.elim
  | ok z S1 =>
    refine impPS (ps_if (hc ρ S).pt (ha ρ S1) (hb ρ S1)) fun D σ H ⟨μ, Hf, sm, en, h⟩ => ?_
    have h' : RsO A S μ H Hf ((tst (ev C c ρ S)).st ρ fun x S => if x = true then execs C a ρ S else execs C b ρ S) D := by rw [e]; exact h
    refine tst_st sm en h' fun b2 S2 μ1 H1 Hf1 s1 en1 x1 h1 e2 => ?_
    rw [e] at e2
    injection e2 with q1 q2
    subst q1; subst q2
    cases z with
    | true => rw [if_pos rfl] at h1 ⊢; exact ⟨μ1, Hf1, s1, en1, h1⟩
    | false => rw [if_neg Bool.false_ne_true] at h1 ⊢; exact ⟨μ1, Hf1, s1, en1, h1⟩
/-- some suite, whatever its start -/
def tAny (A : Pa) (f : Env → Store → Out) : TS := fun D σ H => ∃ ρ S, tSt A ρ S (f ρ S) D σ H
theorem so_any {b : List St} (hb : OkSs A X C b) : PSs X (Sts.s b) (tAny A (execs C b)) := ⟨fun pins s σ H D I ⟨ρ, S, h⟩ => (hb ρ S).run pins s σ H D I h⟩
theorem RsO.imp (h : RsO A S μ H Hf o D) (hn : ∀ ρ' S', o = .nx ρ' S' → ∀ σ' μ' H' Hf', Sm A.K A.bs μ' S' H' Hf' → Xt S μ H Hf S' μ' H' Hf' → En A.K Hf' μ' A.xr ρ' σ' → D.nx σ' H' → D'.nx σ' H')
    (hb : ∀ σ H, D.bk σ H → D'.bk σ H) (hc : ∀ σ H, D.ct σ H → D'.ct σ H) (hr : ∀ σ H, D.rt σ H → D'.rt σ H) : RsO A S μ H Hf o D' := by
  cases o with
  | nx ρ' S' => exact fun σ' μ' H' Hf' s x w => hn _ _ rfl σ' μ' H' Hf' s x w (h σ' μ' H' Hf' s x w)
  | bk ρ' S' => exact fun σ' μ' H' Hf' s x w => hb _ _ (h σ' μ' H' Hf' s x w)
  | ct ρ' S' => exact fun σ' μ' H' Hf' s x w => hc _ _ (h σ' μ' H' Hf' s x w)
  | rt w S' => exact fun σ' μ' H' Hf' s x w => hr _ _ (h σ' μ' H' Hf' s x w)
  | ex e ρ' S' => exact h
  | no => exact h
theorem so_whl {c : Ex} {b : List St} {p : Pos} (hp : C.calm = true → PassesOwn (model X.prog X.w) X.A X.env X.xe) (hc : ∀ ρ, Ok A X C ρ c) (hb : OkSs A X C b) : OkS A X C (.whl c b p) := fun ρ S => by
  unfold St.s exec
  cases hcalm : C.calm with
  | false => exact noPS
  | true =>
  rw [if_neg (by decide)]
  have pt : PT X c.e (fun σ H Q => ∃ ρ S, tTest (tEv A ρ S (ev C c ρ S)) σ H Q) := ⟨fun pins s σ H Q I ⟨ρ, S, h⟩ => (hc ρ S).pt.run pins s σ H Q I h⟩
  refine impPS (ps_while (hp hcalm) pt (so_any hb)) fun D σ H ⟨μ, Hf, sm, en, h⟩ => ?_
  refine ⟨fun m σ H => ∃ ρ S μ Hf, Sm A.K A.bs μ S H Hf ∧ En A.K Hf μ A.xr ρ σ ∧ RsO A S μ H Hf (whGo (fun ρ S => tst (ev C c ρ S)) (fun ρ S => execs C b ρ S) m ρ S) D, ⟨_, ρ, S, μ, Hf, sm, en, h⟩, ?_⟩
  rintro m σ H ⟨ρ, S, μ, Hf, sm, en, h⟩
  cases m with
  | zero => exact h.elim
  | succ m =>
    refine ⟨ρ, S, ?_⟩
    unfold whGo at h
    refine tst_st sm en h fun z S1 μ1 H1 Hf1 s1 en1 x1 h1 _ => ?_
    cases z with
    | false => rw [if_neg Bool.false_ne_true] at h1 ⊢; exact RsO.nx h1 s1 .refl en1
    | true =>
      rw [if_pos rfl] at h1 ⊢
      refine ⟨fun σ H => ∃ ρ S μ Hf, Sm A.K A.bs μ S H Hf ∧ En A.K Hf μ A.xr ρ σ ∧ RsO A S μ H Hf (whGo (fun ρ S => tst (ev C c ρ S)) (fun ρ S => execs C b ρ S) m ρ S) D, fun σ' H' q => ⟨m, Nat.lt_succ_self m, q⟩, ρ, S1, μ1, Hf1, s1, en1, ?_⟩
      cases e : execs C b ρ S1 with
      | nx ρ' S' => rw [e] at h1; exact fun σ' μ' H' Hf' s x w => ⟨ρ', S', μ', Hf', s, w, RsO.step h1 x⟩
      | ct ρ' S' => rw [e] at h1; exact fun σ' μ' H' Hf' s x w => ⟨ρ', S', μ', Hf', s, w, RsO.step h1 x⟩
      | bk ρ' S' => rw [e] at h1; exact fun σ' μ' H' Hf' s x w => h1 σ' μ' H' Hf' s x w
      | rt w S' => rw [e] at h1; exact h1
      | ex w ρ' S' => rw [e] at h1; exact h1
      | no => rw [e] at h1; exact h1
end
end Gw

namespace Gw
open PySem PySem.Spec PyProof.Rows L2
/-! ### a list that is walked -/
section
variable {K : PySem.W.Frag} {bs : List Nat} {μ μ1 : List V} {H Hf H1 Hf1 : Hp} {xr : Xr} {S S1 : Store}
theorem Sm.flag (s : Sm K bs μ S H Hf) {k : Nat} {b b' : Bool} {ws : List Wd} (hc : S[k]? = some (.lst b ws)) : Sm K bs μ (S.set k (.lst b' ws)) H Hf := by
  refine ⟨by rw [List.length_set]; exact s.len, fun j c v h1 h2 => ?_, fun j j' c c' v h1 h2 l1 l2 m1 m2 => ?_, s.sub, fun b hb => by rw [List.length_set]; exact s.bsz b hb, fun b hb j c hj h1 => ?_⟩
  · rcases set_get h1 with ⟨rfl, e, hk⟩ | ⟨hj, h1⟩
    · subst e
      have := s.cell j _ v hc h2
      cases this with
      | lst q1 q2 q3 => exact .lst q1 q2 q3
    · exact s.cell j c v h1 h2
  · have old : ∀ {j : Nat} {c : Cl}, (S.set k (.lst b' ws))[j]? = some c → live c = true → ∃ c0, S[j]? = some c0 ∧ live c0 = true := fun {j c} h l => by
      rcases set_get h with ⟨rfl, e, hk⟩ | ⟨hj, h⟩
      · exact ⟨_, hc, rfl⟩
      · exact ⟨c, h, l⟩
    obtain ⟨c0, a1, a2⟩ := old h1 l1
    obtain ⟨c1, a3, a4⟩ := old h2 l2
    exact s.sep j j' c0 c1 v a1 a3 a2 a4 m1 m2
  · rcases set_get h1 with ⟨rfl, e, hk⟩ | ⟨hj', h1⟩
    · subst e
      have := s.frm b hb j _ hj hc
      exact this
    · exact s.frm b hb j c hj h1
theorem free_flag {k : Nat} {b b' : Bool} {ws : List Wd} {a : Addr} (hc : S[k]? = some (.lst b ws)) (h : ∀ (k : Nat) (c : Cl), S[k]? = some c → live c = true → μ[k]? ≠ some (.ref a)) : ∀ (j : Nat) (c : Cl), (S.set k (.lst b' ws))[j]? = some c → live c = true → μ[j]? ≠ some (.ref a) := fun j c h1 h2 => by
  rcases set_get h1 with ⟨rfl, _, _⟩ | ⟨_, h1⟩
  · exact h j _ hc rfl
  · exact h j c h1 h2
theorem lock_ok (s : Sm K bs μ S H Hf) (o : Option Nat) : Sm K bs μ (lockO S o).1 H Hf ∧ Xt S μ H Hf (lockO S o).1 μ H Hf := by
  cases o with
  | none => exact ⟨s, .refl⟩
  | some k =>
    unfold lockO
    dsimp only
    split
    · rename_i ws e
      refine ⟨s.flag e, ⟨mu_id, .refl _, fun j c a h1 h2 h3 => ⟨?_, rfl⟩, fun a o' ⟨f1, f2, f3⟩ => ⟨f1, f2, free_flag e f3⟩⟩⟩
      by_cases hj : j = k
      · subst hj
        rw [e] at h1; cases h1
        cases h2
      · exact ⟨c, by rw [List.getElem?_set_ne (Ne.symm hj)]; exact h1, h2⟩
    · exact ⟨s, .refl⟩
/-- behind a walk -/
theorem unlock_ok {o : Option Nat} (s : Sm K bs μ1 S1 H1 Hf1) (x : Xt (lockO S o).1 μ H Hf S1 μ1 H1 Hf1) (s0 : Sm K bs μ S H Hf) : Sm K bs μ1 (unlockC S1 (lockO S o).2) H1 Hf1 ∧ Xt S μ H Hf (unlockC S1 (lockO S o).2) μ1 H1 Hf1 := by
  have x0 := (lock_ok s0 o).2.trans x
  cases o with
  | none => exact ⟨s, x0⟩
  | some k =>
    unfold lockO at x0 ⊢
    dsimp only at x0 ⊢
    split
    · rename_i ws e
      unfold unlockC
      dsimp only
      split
      · rename_i zs e1
        refine ⟨s.flag e1, ⟨x0.mu, x0.fr, fun j c a h1 h2 h3 => ?_, fun a o' f => ⟨(x0.un a o' f).1, (x0.un a o' f).2.1, free_flag e1 (x0.un a o' f).2.2⟩⟩⟩
        obtain ⟨⟨c', q1, q2⟩, q3⟩ := x0.lk j c a h1 h2 h3
        refine ⟨?_, q3⟩
        by_cases hj : j = k
        · subst hj
          rw [e] at h1; cases h1
          cases h2
        · exact ⟨c', by rw [List.getElem?_set_ne (Ne.symm hj)]; exact q1, q2⟩
      · rename_i e1
        exact ⟨s, x0⟩
    · rename_i e
      exact ⟨s, x0⟩
end
/-- a walk gives the values ws, in this order -/
structure IW (A : Pa) (J : L2.It) (ws : List Wd) (S : Store) (μ : List V) (H Hf : Hp) : Prop where
  goes : ∀ S2 μ2 H2 Hf2 i, Sm A.K A.bs μ2 S2 H2 Hf2 → Xt S μ H Hf S2 μ2 H2 Hf2 → i < ws.length → J.go i H2
  stops : ∀ S2 μ2 H2 Hf2, Sm A.K A.bs μ2 S2 H2 Hf2 → Xt S μ H Hf S2 μ2 H2 Hf2 → J.stop ws.length H2
  yields : ∀ S2 μ2 H2 Hf2 i x H3, Sm A.K A.bs μ2 S2 H2 Hf2 → Xt S μ H Hf S2 μ2 H2 Hf2 → i < ws.length → J.yld i H2 x H3 →
    ∃ w Hf3, ws[i]? = some w ∧ Sm A.K A.bs μ2 S2 H3 Hf3 ∧ Xt S2 μ2 H2 Hf2 S2 μ2 H3 Hf3 ∧ WR A.K Hf3 μ2 A.xr w x
theorem iw_of {A : Pa} {J : L2.It} {n : Nat} {G : Hp → Prop} {xs : List V} {ws : List Wd} {S : Store} {μ : List V} {H Hf : Hp} (w : Walk J n G (YAt xs)) (hn : n = ws.length) (r : Paired (WR A.K Hf μ A.xr) ws xs)
    (hG : ∀ S2 μ2 H2 Hf2, Sm A.K A.bs μ2 S2 H2 Hf2 → Xt S μ H Hf S2 μ2 H2 Hf2 → G H2) : IW A J ws S μ H Hf := by
  subst hn
  refine ⟨fun S2 μ2 H2 Hf2 i s x hi => w.goes i H2 hi (hG _ _ _ _ s x), fun S2 μ2 H2 Hf2 s x => w.stops H2 (hG _ _ _ _ s x), fun S2 μ2 H2 Hf2 i v H3 s x hi y => ?_⟩
  obtain ⟨rfl, e⟩ := w.yields i H2 v H3 hi (hG _ _ _ _ s x) y
  obtain ⟨z, ez, rz⟩ := paired_get r (show ws[i]? = some ws[i] by simp [hi])
  rw [e] at ez
  cases ez
  exact ⟨_, Hf2, by simp [hi], s, .refl, rz.xt x⟩
/-- an iterable's reading -/
def RsI (A : Pa) (σ : L2.St) (S : Store) (μ : List V) (H Hf : Hp) (r : Res (List Wd × Option Nat)) (R : L2.It → Hp → Prop) : Prop := match r with
  | .ok p S' => ∀ J μ' H' Hf', Sm A.K A.bs μ' S' H' Hf' → Xt S μ H Hf S' μ' H' Hf' → IW A J p.1 (lockO S' p.2).1 μ' H' Hf' → R J H'
  | .ex e S' => ∀ cls d μ' H' Hf', Sm A.K A.bs μ' S' H' Hf' → Xt S μ H Hf S' μ' H' Hf' → XO A.K A.ca Hf' e cls d → A.W cls d σ H'
  | .no => False
def tIv (A : Pa) (ρ : Env) (S : Store) (r : Res (List Wd × Option Nat)) : TI := fun σ H R => ∃ μ Hf, Sm A.K A.bs μ S H Hf ∧ En A.K Hf μ A.xr ρ σ ∧ RsI A σ S μ H Hf r R
abbrev OkI (A : Pa) (X : Cx) (C : Cxt) (ρ : Env) (tg : Expr) (i : It) : Prop := ∀ S, PI X tg i.e (tIv A ρ S (evI C i ρ S))
section
variable {A : Pa} {X : Cx} {C : Cxt} {ρ : Env} {S S1 : Store} {σ : L2.St} {μ μ1 : List V} {H Hf H1 Hf1 : Hp} {tg : Expr}
theorem impPI {e : Expr} {t t' : TI} (h : PI X tg e t) (i : ∀ σ H Q, t' σ H Q → t σ H Q) : PI X tg e t' := ⟨fun pins s σ H Q I q => h.run pins s σ H Q I (i σ H Q q)⟩
theorem neverPI {e : Expr} {t : TI} (h : ∀ σ H Q, ¬ t σ H Q) : PI X tg e t := ⟨fun _ _ σ H Q _ q => absurd q (h σ H Q)⟩
theorem noPI {e : Expr} : PI X tg e (tIv A ρ S .no) := neverPI fun _ _ _ ⟨_, _, _, _, h⟩ => h
theorem RsI.step {r : Res (List Wd × Option Nat)} {R : L2.It → Hp → Prop} (h : RsI A σ S μ H Hf r R) (x : Xt S μ H Hf S1 μ1 H1 Hf1) : RsI A σ S1 μ1 H1 Hf1 r R := by
  cases r with
  | ok p S' => exact fun J μ' H' Hf' s y w => h J μ' H' Hf' s (x.trans y) w
  | ex e S' => exact fun cls d μ' H' Hf' s y w => h cls d μ' H' Hf' s (x.trans y) w
  | no => exact h
theorem iv_then {g : Res Wd} {f : Wd → Store → Res (List Wd × Option Nat)} {r : V → Hp → Prop} {R : L2.It → Hp → Prop} (sm : Sm A.K A.bs μ S H Hf) (en : En A.K Hf μ A.xr ρ σ) (h : RsI A σ S μ H Hf (g.bd f) R)
    (hr : ∀ x S1 v μ1 H1 Hf1, Sm A.K A.bs μ1 S1 H1 Hf1 → En A.K Hf1 μ1 A.xr ρ σ → WR A.K Hf1 μ1 A.xr x v → Xt S μ H Hf S1 μ1 H1 Hf1 → RsI A σ S1 μ1 H1 Hf1 (f x S1) R → g = .ok x S1 → r v H1) : tEv A ρ S g σ H r := by
  refine ⟨μ, Hf, sm, en, ?_⟩
  cases g with
  | ok x S1 => exact fun v μ1 H1 Hf1 s1 x1 w1 => hr x S1 v μ1 H1 Hf1 s1 (en.xt x1) w1 x1 (RsI.step h x1) rfl
  | ex x S1 => exact h
  | no => exact h
theorem opt_iv {α : Type} {o : Option α} {f : α → Store → Res (List Wd × Option Nat)} {R : L2.It → Hp → Prop} (h : RsI A σ S μ H Hf ((opt S o).bd f) R) : ∃ a, o = some a ∧ RsI A σ S μ H Hf (f a S) R := by
  cases o with
  | none => exact h.elim
  | some a => exact ⟨a, rfl, h⟩
/-- a locked list stays -/
theorem seq_stays {w : Wd} {v : V} {ws : List Wd} {tup : Bool} (s : Sm A.K A.bs μ S H Hf) (r : WR A.K Hf μ A.xr w v) (h : vw S w = .seq tup ws) :
    ∃ a vs, v = .ref a ∧ (if tup = true then SqT A.K H a vs else SqL A.K H a vs) ∧ Paired (WR A.K Hf μ A.xr) ws vs ∧
      ∀ S2 μ2 H2 Hf2, Sm A.K A.bs μ2 S2 H2 Hf2 → Xt (lockO S (hdl w)).1 μ H Hf S2 μ2 H2 Hf2 → (if tup = true then SqT A.K H2 a vs else SqL A.K H2 a vs) := by
  have tree : ∀ (d : Dt), Rp A.K Hf v d → vwT d = .seq tup ws → ∃ a vs, v = .ref a ∧ (if tup = true then SqT A.K H a vs else SqL A.K H a vs) ∧ Paired (WR A.K Hf μ A.xr) ws vs ∧
      ∀ S2 μ2 H2 Hf2, Sm A.K A.bs μ2 S2 H2 Hf2 → XR Hf Hf2 → (if tup = true then SqT A.K H2 a vs else SqL A.K H2 a vs) := fun d rp e => by
    cases d with
    | lst ds =>
      unfold vwT at e
      injection e with e1 e2
      subst e1; subst e2
      cases rp with
      | lst q1 q2 => exact ⟨_, _, rfl, by rw [if_neg Bool.false_ne_true]; exact s.sqL q1, noXr_anys (wrt_of q2), fun S2 μ2 H2 Hf2 s2 x => by rw [if_neg Bool.false_ne_true]; exact s2.sqL (sqL_mono x q1)⟩
    | tup ds =>
      unfold vwT at e
      injection e with e1 e2
      subst e1; subst e2
      cases rp with
      | tup q1 q2 => exact ⟨_, _, rfl, by rw [if_pos rfl]; exact .inl (.inl (s.sub.tp _ _ q1)), noXr_anys (wrt_of q2), fun S2 μ2 H2 Hf2 s2 x => by rw [if_pos rfl]; exact .inl (.inl (s2.sub.tp _ _ (x.tp _ _ q1)))⟩
    | _ => cases e
  cases w with
  | t d =>
    obtain ⟨a, vs, e1, e2, e3, e4⟩ := tree d r h
    exact ⟨a, vs, e1, e2, e3, fun S2 μ2 H2 Hf2 s2 x => e4 S2 μ2 H2 Hf2 s2 x.fr⟩
  | x e => cases h
  | c ds =>
    obtain ⟨a, vs, e, _, q, rs⟩ := r
    unfold vw at h
    injection h with e1 e2
    subst e1; subst e2
    have mv : ∀ {Hx : Hp}, XR Hf Hx → SqT A.K Hx a vs := fun {Hx} x => by
      rcases q with q | q
      · exact .inl (x.rd _ _ q)
      · exact .inr q
    exact ⟨a, vs, e, by rw [if_pos rfl]; exact mv s.sub, noXr_anys (wrt_of rs), fun S2 μ2 H2 Hf2 s2 x => by rw [if_pos rfl]; exact mv (x.fr.trans s2.sub)⟩
  | h k =>
    unfold vw at h
    dsimp only at h
    cases ek : S[k]? with
    | none => rw [ek] at h; cases h
    | some c =>
      rw [ek] at h
      have hm : μ[k]? = some v := r
      have cr := s.cell k c v ek hm
      cases c with
      | lst lk zs =>
        dsimp only at h
        injection h with e1 e2
        subst e1; subst e2
        cases cr with
        | lst q1 q2 q3 =>
          rename_i a vs
          refine ⟨a, vs, rfl, by rw [if_neg Bool.false_ne_true]; exact .inl (.inl q1), noXr_anys q3, fun S2 μ2 H2 Hf2 s2 x => ?_⟩
          rw [if_neg Bool.false_ne_true]
          have hl : ∃ c, (lockO S (hdl (.h k))).1[k]? = some c ∧ lockedC c = true := by
            unfold hdl lockO
            dsimp only
            rw [ek]
            cases lk with
            | true => exact ⟨_, ek, rfl⟩
            | false =>
              refine ⟨.lst true zs, ?_, rfl⟩
              have := (List.getElem?_eq_some_iff.mp ek).1
              dsimp only
              rw [List.getElem?_set_self this]
          obtain ⟨c, h1, h2⟩ := hl
          have := (x.lk k c a h1 h2 hm).2
          exact .inl (.inl (by rw [this]; exact q1))
      | dic tk lk kvs => cases h
      | ins c fs => cases h
      | frz d =>
        cases cr with
        | frz q =>
          obtain ⟨a, vs, e1, e2, e3, e4⟩ := tree d q h
          exact ⟨a, vs, e1, e2, e3, fun S2 μ2 H2 Hf2 s2 x => e4 S2 μ2 H2 Hf2 s2 x.fr⟩
theorem si_seq {x : Ex} (hK : X.K = A.K) (ha : Ok A X C ρ x) : OkI A X C ρ tg (.seq x) := fun S => by
  unfold It.e evI
  have h1 := (ha S).pe
  cases e1 : ev C x ρ S with
  | no => exact noPI
  | ex q S1 =>
    rw [e1] at h1
    exact impPI (pi_list h1) fun σ H Q ⟨μ, Hf, sm, en, h⟩ => ⟨μ, Hf, sm, en, h⟩
  | ok w S1 =>
    rw [e1] at h1
    show PI X tg x.e (tIv A ρ S (match vw S1 w with | .seq _ ws => .ok (ws, hdl w) S1 | _ => .no))
    cases e2 : vw S1 w with
    | dic tk kvs => exact noPI
    | oth => exact noPI
    | seq tup ws =>
      cases tup with
      | false =>
        refine impPI (pi_list h1) fun σ H Q ⟨μ, Hf, sm, en, h⟩ => ⟨μ, Hf, sm, en, fun v μ1 H1 Hf1 s1 x1 w1 => ?_⟩
        obtain ⟨a, vs, rfl, q, rs, st⟩ := seq_stays s1 w1 e2
        refine ⟨a, rfl, ⟨vs, by rw [hK]; exact q⟩, h _ μ1 H1 Hf1 s1 x1 ?_⟩
        rw [hK]
        exact iw_of walk_list (rs.length).symm rs st
      | true =>
        refine impPI (pi_tup h1) fun σ H Q ⟨μ, Hf, sm, en, h⟩ => ⟨μ, Hf, sm, en, fun v μ1 H1 Hf1 s1 x1 w1 => ?_⟩
        obtain ⟨a, vs, rfl, q, rs, st⟩ := seq_stays s1 w1 e2
        refine ⟨a, rfl, ⟨vs, by rw [hK]; exact q⟩, h _ μ1 H1 Hf1 s1 x1 ?_⟩
        rw [hK]
        exact iw_of walk_tup (rs.length).symm rs st
theorem iw_range {lo hi : Int} {ws : List Wd} (h : rngL lo hi = some ws) : IW A (Itr lo (hi - lo).toNat) ws S μ H Hf := by
  unfold rngL at h
  split at h
  · injection h with h
    subst h
    have w := @walk_range lo (hi - lo).toNat
    refine ⟨fun S2 μ2 H2 Hf2 i s x hi => w.goes i H2 (by simpa using hi) trivial, fun S2 μ2 H2 Hf2 s x => by rw [List.length_map, List.length_range]; exact w.stops H2 trivial, fun S2 μ2 H2 Hf2 i v H3 s x hi y => ?_⟩
    obtain ⟨rfl, rfl⟩ := w.yields i H2 v H3 (by simpa using hi) trivial y
    exact ⟨.t (.int (lo + (i : Nat))), Hf2, by rw [List.getElem?_map, List.getElem?_range (by simpa using hi)]; rfl, s, .refl, .int _⟩
  · cases h
theorem rng_ok {lo hi : Int} {ws : List Wd} (h : rngL lo hi = some ws) : -(2 ^ 62) ≤ lo ∧ lo < 2 ^ 62 ∧ -(2 ^ 62) ≤ hi ∧ hi < 2 ^ 62 := by
  unfold rngL at h
  split at h
  · rename_i q; exact ⟨q.1, q.2.1, q.2.2.1, q.2.2.2.1⟩
  · cases h
theorem one_pa {x : Ex} {r : Res Wd} (h : PE X x.e (tEv A ρ S r)) : PA X [x.e] (tCons (tEv A ρ S r) tNil) := pa_cons h pa_nil (star_ex _ _ _)
theorem star1 (x : Ex) (env : PySem.Env) : starEach [x.e] env = [(false, eval x.e env)] := by rw [star_ex]; rfl
theorem si_rng1 {x : Ex} {q p : Pos} (hg : Gl X "range") (hm : X.mg "range" = none) (ha : Ok A X C ρ x) : OkI A X C ρ tg (.rng1 q x p) := fun S => by
  unfold It.e evI
  refine impPI (pi_range1 hg hm (one_pa (ha S).pe) (star1 _ _)) fun σ H Q ⟨μ, Hf, sm, en, h⟩ => ?_
  refine iv_then sm en h fun w S1 v μ1 H1 Hf1 s1 en1 w1 x1 h1 _ => ?_
  obtain ⟨ws, e, h2⟩ := opt_iv h1
  cases ei : isInt w with
  | none => rw [ei] at e; cases e
  | some i =>
    rw [ei] at e
    obtain rfl := int_of ei
    cases wr_int w1
    have e' : rngL 0 i = some ws := e
    have b := rng_ok e'
    refine ⟨i, rfl, b.2.2.1, b.2.2.2, ?_⟩
    have z := iw_range (A := A) (S := (lockO S1 none).1) (μ := μ1) (H := H1) (Hf := Hf1) e'
    rw [Int.sub_zero] at z
    exact h2 _ μ1 H1 Hf1 s1 .refl z
end
end Gw

namespace Gw
open PySem PySem.Spec PyProof.Rows L2
section
variable {A : Pa} {X : Cx} {C : Cxt} {ρ : Env} {S S1 : Store} {σ : L2.St} {μ μ1 : List V} {H Hf H1 Hf1 : Hp} {tg : Expr} {o : Out} {D : Ends}
theorem si_rng2 {x y : Ex} {q p : Pos} (hg : Gl X "range") (hm : X.mg "range" = none) (ha : Ok A X C ρ x) (hb : Ok A X C ρ y) : OkI A X C ρ tg (.rng2 q x y p) := fun S => by
  unfold It.e evI
  have s2 : starEach [x.e, y.e] X.env = [(false, eval x.e X.env), (false, eval y.e X.env)] := by rw [star_ex, star_ex]; rfl
  cases e1 : ev C x ρ S with
  | no => exact noPI
  | ex q S1 =>
    have h1 := (ha S).pe
    rw [e1] at h1
    exact impPI (pi_range2 hg hm (pa_cons h1 (one_pa (hb S).pe) (star_ex _ _ _)) s2 (star1 _ _)) fun σ H Q ⟨μ, Hf, sm, en, h⟩ => ⟨μ, Hf, sm, en, h⟩
  | ok w S1 =>
    have h1 := (ha S).pe
    rw [e1] at h1
    refine impPI (pi_range2 hg hm (pa_cons h1 (one_pa (hb S1).pe) (star_ex _ _ _)) s2 (star1 _ _)) fun σ H Q ⟨μ, Hf, sm, en, h⟩ => ⟨μ, Hf, sm, en, fun v μ1 H1 Hf1 s1 x1 w1 => ?_⟩
    have h' : RsI A σ S μ H Hf ((ev C y ρ S1).bd fun v S2 => (opt S2 ((isInt w).bind fun lo => (isInt v).bind fun n => rngL lo n)).bd fun ws S3 => .ok (ws, none) S3) Q := h
    refine iv_then s1 (en.xt x1) (RsI.step h' x1) fun u S2 v2 μ2 H2 Hf2 s2 en2 w2 x2 h2 _ => ?_
    obtain ⟨ws, e, h3⟩ := opt_iv h2
    cases ei : isInt w with
    | none => rw [ei] at e; cases e
    | some i =>
      cases ej : isInt u with
      | none => rw [ei, ej] at e; cases e
      | some j =>
        rw [ei, ej] at e
        obtain rfl := int_of ei
        obtain rfl := int_of ej
        cases wr_int w1
        cases wr_int w2
        have e' : rngL i j = some ws := e
        have b := rng_ok e'
        exact ⟨i, j, rfl, b, h3 _ μ2 H2 Hf2 s2 .refl (iw_range e')⟩
theorem unl_rs {hk : Option Nat} (s : Sm A.K A.bs μ S H Hf) (h : RsO A S μ H Hf (o.unl (lockO S hk).2) D) : RsO A (lockO S hk).1 μ H Hf o D := by
  cases o with
  | nx ρ' S' => exact fun σ' μ' H' Hf' s' x en => let ⟨q1, q2⟩ := unlock_ok s' x s; h σ' μ' H' Hf' q1 q2 en
  | rt w S' => exact fun v μ' H' Hf' s' x r => let ⟨q1, q2⟩ := unlock_ok s' x s; h v μ' H' Hf' q1 q2 r
  | ex e ρ' S' => exact fun c d σ' μ' H' Hf' s' x en r => let ⟨q1, q2⟩ := unlock_ok s' x s; h c d σ' μ' H' Hf' q1 q2 en r
  | bk ρ' S' => exact h.elim
  | ct ρ' S' => exact h.elim
  | no => exact h
theorem fold_it (i : It) (env : PySem.Env) : ∀ x, foldedSetIterable i.e env x = pure x := by
  have go : ∀ (e : Ex) x, foldedSetIterable e.e env x = pure x := fun e => by cases e <;> intro _ <;> rfl
  intro x
  cases i with
  | seq a => exact go a x
  | kys a => exact go a x
  | _ => rfl
theorem drop_at {α : Type} {l : List α} {i : Nat} {w : α} (h : l[i]? = some w) : l.drop i = w :: l.drop (i + 1) := by
  obtain ⟨hi, e⟩ := List.getElem?_eq_some_iff.mp h
  rw [List.drop_eq_getElem_cons hi, e]
theorem so_for {t : Tg} {it : It} {b : List St} {p : Pos} (hx : C.calm = true → X.calm = true ∧ PassesOwn (model X.prog X.w) X.A X.env X.xe) (hK : X.K = A.K) (hN : X.N.Nodup) (ht : wfT X.N X.env.scope X.fn t = true) (hi : ∀ ρ, OkI A X C ρ t.e it) (hb : OkSs A X C b) : OkS A X C (.forS t it b p) := fun ρ S => by
  unfold St.s exec
  cases hcalm : C.calm with
  | false => exact noPS
  | true =>
  rw [if_neg (by decide)]
  obtain ⟨hc, hp⟩ := hx hcalm
  refine impPS (ps_for hp hc (hi ρ S) (pg_T hc hN t ht) (so_any hb) (fold_it _ _)) fun D σ H ⟨μ, Hf, sm, en, h⟩ => ⟨μ, Hf, sm, en, ?_⟩
  generalize hF : (fun w ρ S => match bindT S t w ρ with | some ρ' => execs C b ρ' S | none => Out.no) = F at h
  cases e1 : evI C it ρ S with
  | no => rw [e1] at h; exact h
  | ex q S1 => rw [e1] at h; exact fun cls d μ1 H1 Hf1 s1 x1 w1 => h cls d σ μ1 H1 Hf1 s1 x1 (en.xt x1) w1
  | ok p S1 =>
    rw [e1] at h
    obtain ⟨ws, hk⟩ := p
    intro J μ1 H1 Hf1 s1 x1 iw
    have h0 : RsO A S1 μ1 H1 Hf1 ((forGo F ws ρ (lockO S1 hk).1).unl (lockO S1 hk).2) D := RsO.step (show RsO A S μ H Hf ((forGo F ws ρ (lockO S1 hk).1).unl (lockO S1 hk).2) D from h) x1
    have h1 := unl_rs s1 h0
    obtain ⟨sL, xL⟩ := lock_ok s1 hk
    refine ⟨fun i m σ H => m = ws.length - i ∧ i ≤ ws.length ∧ ∃ ρ S2 μ2 Hf2, Sm A.K A.bs μ2 S2 H Hf2 ∧ En A.K Hf2 μ2 A.xr ρ σ ∧ Xt (lockO S1 hk).1 μ1 H1 Hf1 S2 μ2 H Hf2 ∧ RsO A S2 μ2 H Hf2 (forGo F (ws.drop i) ρ S2) D,
      ⟨ws.length, rfl, Nat.zero_le _, ρ, _, μ1, Hf1, sL, en.xt x1, .refl, h1⟩, ?_⟩
    rintro i m σ2 H2 ⟨rfl, hi2, ρ2, S2, μ2, Hf2, s2, en2, x2, h2⟩
    by_cases hlt : i < ws.length
    · refine .inr ⟨iw.goes S2 μ2 H2 Hf2 i s2 x2 hlt, fun σ H => ∃ ρ S2 μ2 Hf2, Sm A.K A.bs μ2 S2 H Hf2 ∧ En A.K Hf2 μ2 A.xr ρ σ ∧ Xt (lockO S1 hk).1 μ1 H1 Hf1 S2 μ2 H Hf2 ∧ RsO A S2 μ2 H Hf2 (forGo F (ws.drop (i + 1)) ρ S2) D, fun σ' H' q => ⟨ws.length - (i + 1), by omega, rfl, hlt, q⟩, fun v H3 y => ?_⟩
      obtain ⟨w, Hf3, ew, s3, x3, w3⟩ := iw.yields S2 μ2 H2 Hf2 i v H3 s2 x2 hlt y
      have h3 := RsO.step h2 x3
      rw [drop_at ew] at h3
      unfold forGo at h3
      have eF : F w ρ2 S2 = match bindT S2 t w ρ2 with | some ρ' => execs C b ρ' S2 | none => Out.no := by rw [← hF]
      rw [eF] at h3
      cases eb : bindT S2 t w ρ2 with
      | none => rw [eb] at h3; exact h3.elim
      | some ρ3 =>
        rw [eb] at h3
        dsimp only at h3
        rw [hK]
        refine gT_ok s3 t w v ρ2 ρ3 σ2 _ (en2.xt x3) w3 eb fun σ3 en3 _ => ⟨ρ3, S2, μ2, Hf3, s3, en3, ?_⟩
        cases ee : execs C b ρ3 S2 with
        | nx ρ' S' => rw [ee] at h3; exact fun σ' μ' H' Hf' s x w => ⟨ρ', S', μ', Hf', s, w, (x2.trans x3).trans x, RsO.step h3 x⟩
        | ct ρ' S' => rw [ee] at h3; exact fun σ' μ' H' Hf' s x w => ⟨ρ', S', μ', Hf', s, w, (x2.trans x3).trans x, RsO.step h3 x⟩
        | bk ρ' S' => rw [ee] at h3; exact fun σ' μ' H' Hf' s x w => h3 σ' μ' H' Hf' s x w
        | rt w S' => rw [ee] at h3; exact h3
        | ex w ρ' S' => rw [ee] at h3; exact h3
        | no => rw [ee] at h3; exact h3
    · have ei : i = ws.length := by omega
      subst ei
      rw [List.drop_length] at h2
      exact .inl ⟨iw.stops S2 μ2 H2 Hf2 s2 x2, RsO.nx h2 s2 .refl en2⟩
/-! ### comprehensions -/
abbrev Pa.still (A : Pa) : Pa := { A with W := fun _ _ _ _ => False }
theorem En.wipe {K : PySem.W.Frag} {xr : Xr} : ∀ (vs : List Nat) {ρ : Env} {σ : L2.St}, En K Hf μ xr ρ σ → En K Hf μ xr (wipeE ρ vs) (wipe σ vs)
  | [], _, _, e => e
  | v :: vs, ρ, σ, e => by unfold wipeE L2.wipe; exact (En.wipe vs e).unset v
theorem wipe_at : ∀ (vs : List Nat) (σ : L2.St) (j : Nat), (wipe σ vs)[j]? = if j ∈ vs ∧ j < σ.length then some none else σ[j]?
  | [], σ, j => by simp [wipe]
  | v :: vs, σ, j => by
    unfold wipe
    by_cases h : v = j
    · subst h
      by_cases hl : v < σ.length
      · rw [List.getElem?_set_self (by rw [wipe_length]; exact hl), if_pos ⟨by simp, hl⟩]
      · rw [List.getElem?_eq_none (by rw [List.length_set, wipe_length]; omega), if_neg (by omega), List.getElem?_eq_none (by omega)]
    · rw [List.getElem?_set_ne h, wipe_at vs σ j]
      have : (j ∈ v :: vs) ↔ j ∈ vs := by simp [Ne.symm h]
      simp only [this]
theorem wipe_eq {vs ix : List Nat} {σ σ2 : L2.St} (o : Off ix (wipe σ vs) σ2) (hs : ∀ i ∈ ix, i ∈ vs) : wipe σ2 vs = wipe σ vs := by
  apply List.ext_getElem?
  intro j
  rw [wipe_at, wipe_at]
  have hl : σ2.length = σ.length := by rw [o.1, wipe_length]
  rw [hl]
  by_cases h : j ∈ vs ∧ j < σ.length
  · rw [if_pos h, if_pos h]
  · rw [if_neg h, if_neg h]
    by_cases hj : j ∈ vs
    · have : ¬ j < σ.length := fun z => h ⟨hj, z⟩
      rw [List.getElem?_eq_none (by omega), List.getElem?_eq_none (by omega)]
    · rw [o.2 j (fun z => hj (hs j z)), wipe_at, if_neg h]
def turnE (C : Cxt) (elt : Ex) (tg : Tg) (cond : Option Ex) (vs : List Nat) (ρ : Env) : Wd → Store → Res (Option Wd) := fun w S => match bindT S tg w (wipeE ρ vs) with
        | some ρ' => (evC C cond ρ' S).bd fun b S => if b = true then (ev C elt ρ' S).bd fun w S => .ok (some w) S else .ok none S
        | none => .no
theorem compGo_eq {f : Wd → Store → Res (Option Wd)} {w : Wd} {r : List Wd} {S S2 : Store} {zs : List Wd} (h : compGo f (w :: r) S = .ok zs S2) : ∃ o S1 ws, f w S = .ok o S1 ∧ compGo f r S1 = .ok ws S2 ∧ zs = (match o with | some w => w :: ws | none => ws) := by
  unfold compGo at h
  cases e1 : f w S with
  | no => rw [e1] at h; cases h
  | ex q S1 => rw [e1] at h; cases h
  | ok o S1 =>
    rw [e1] at h
    dsimp only at h
    cases e2 : compGo f r S1 with
    | no => rw [e2] at h; cases h
    | ex q S1 => rw [e2] at h; cases h
    | ok ws S3 =>
      rw [e2] at h
      injection h with q1 q2
      subst q2
      exact ⟨o, S1, ws, rfl, e2, q1.symm⟩
end
end Gw

namespace Gw
open PySem PySem.Spec PyProof.Rows L2
section
variable {K : PySem.W.Frag} {bs : List Nat} {μ μ' : List V} {S S' : Store} {H Hf H' Hf' H2 : Hp}
theorem Sm.off (s : Sm K bs μ S H Hf) {a : Addr} (h1 : Hf a = none) (h2 : ∀ (k : Nat) (c : Cl), S[k]? = some c → live c = true → μ[k]? ≠ some (.ref a)) (ag : ∀ b, b ≠ a → H2 b = H b) : Sm K bs μ S H2 Hf := by
  refine ⟨s.len, fun k c v e1 e2 => ?_, s.sep, ⟨fun b u r => ?_, fun b xs r => ?_⟩, s.bsz, s.frm⟩
  · refine (s.cell k c v e1 e2).keep mu_id (.refl _) fun b hl e => ?_
    obtain ⟨b', o', e', h, h'⟩ := (s.cell k c v e1 e2).at_ hl
    rw [e] at e'; cases e'
    have n : b ≠ a := fun z => h2 k c e1 hl (by rw [e2, e, z])
    exact ⟨ag b n, h'⟩
  · have n : b ≠ a := rd_ne r h1
    have q := s.sub.rd b u r
    unfold Rd at q ⊢
    rw [ag b n]; exact q
  · rw [ag b (ne_of_none r h1)]; exact s.sub.tp b xs r
theorem Xt.off (x : Xt S μ H Hf S' μ' H' Hf') {a : Addr} (s : Sm K bs μ S H Hf) (h : H a = none) (ag : ∀ b, b ≠ a → H2 b = H' b) : Xt S μ H Hf S' μ' H2 Hf' := by
  refine ⟨x.mu, x.fr, fun k c b e1 e2 e3 => ?_, fun b o' f => ?_⟩
  · obtain ⟨q1, q2⟩ := x.lk k c b e1 e2 e3
    refine ⟨q1, ?_⟩
    have hl : live c = true := by cases c <;> first | rfl | cases e2
    have n : b ≠ a := fun z => s.fresh' h k c e1 hl (by rw [e3, z])
    rw [ag b n]; exact q2
  · have n : b ≠ a := ne_of_none f.1 h
    obtain ⟨g1, g2, g3⟩ := x.un b o' f
    exact ⟨by rw [ag b n]; exact g1, g2, g3⟩
def gone (H : Hp) (a : Addr) : Hp := fun b => if b = a then none else H b
theorem gone_ne {a b : Addr} (n : b ≠ a) : gone H a b = H b := if_neg n
theorem gone_back {a : Addr} {o : HO} (h : H a = some o) : upd (gone H a) a o = H := by
  funext b
  by_cases e : b = a
  · subst e; rw [upd_same, h]
  · rw [upd_ne e, gone_ne e]
end
section
variable {A : Pa} {X : Cx} {C : Cxt} {ρ : Env} {S : Store}
def tCond (A : Pa) (C : Cxt) : Option Ex → TT
  | none => tYes
  | some y => fun σ H Q => ∃ ρ S, tTest (tEv A.still ρ S (ev C y ρ S)) σ H Q
def tElt (A : Pa) (C : Cxt) (e : Ex) : TE := fun σ H Q => ∃ ρ S, tEv A.still ρ S (ev C e ρ S) σ H Q
theorem pt_cond {X : Cx} : ∀ (o : Option Ex), (∀ y, o = some y → ∀ ρ, Ok A.still X C ρ y) → PTs X (ExO.l o) (tCond A C o)
  | none, _ => pts_nil
  | some y, h => pts_one ⟨fun pins s σ H Q I ⟨ρ, S, q⟩ => (h y rfl ρ S).pt.run pins s σ H Q I q⟩
theorem pe_elt {X : Cx} {e : Ex} (h : ∀ ρ, Ok A.still X C ρ e) : PE X e.e (tElt A C e) := ⟨fun pins s σ H Q I ⟨ρ, S, q⟩ => (h ρ S).pe.run pins s σ H Q I q⟩
theorem bd_ok {α β : Type} {r : Res α} {f : α → Store → Res β} {b : β} {S : Store} (h : r.bd f = .ok b S) : ∃ a S1, r = .ok a S1 ∧ f a S1 = .ok b S := by
  cases r with
  | ok a S1 => exact ⟨a, S1, rfl, h⟩
  | ex e S1 => cases h
  | no => cases h
theorem tst_ok {r : Res Wd} {b : Bool} {S1 : Store} (h : tst r = .ok b S1) : r = .ok (.t (.bl b)) S1 := by
  unfold tst at h
  obtain ⟨w, S2, e, h⟩ := bd_ok h
  cases e2 : isBl w with
  | none => rw [e2] at h; cases h
  | some c =>
    rw [e2] at h
    obtain rfl := bl_of e2
    have h' : Res.ok c S2 = .ok b S1 := h
    injection h' with q1 q2
    rw [e, q1, q2]
theorem opt_ok {α : Type} {S S1 : Store} {o : Option α} {a : α} (h : opt S o = .ok a S1) : o = some a ∧ S1 = S := by
  cases o with
  | none => cases h
  | some b =>
    have h' : Res.ok b S = .ok a S1 := h
    injection h' with q1 q2
    rw [q1, q2]; exact ⟨rfl, rfl⟩
theorem lc_tev {m : Bool} {elt : Ex} {t : Tg} {it : It} {cond : Option Ex} {sc : Scope} {own : List (Str × Nat)} {p : Pos} (hK : X.K = A.K) (hix : ∀ i ∈ ixT t, i ∈ own.map (·.2)) (σ : L2.St) (H : Hp) (Q : VK) (h : tEv A ρ S (ev C (.lc m elt t it cond sc own p) ρ S) σ H Q) :
    tLc (tIv A ρ S (evI C it ρ S)) (gT X.K t) (tCond A C cond) (tElt A C elt) (own.map (·.2)) σ H Q := by
  obtain ⟨μ, Hf, sm, en, h⟩ := h
  unfold ev at h
  generalize hvs : own.map (·.2) = vs at h hix ⊢
  split at h
  · exact h.elim
  refine ⟨μ, Hf, sm, en, ?_⟩
  cases e1 : evI C it ρ S with
  | no => rw [e1] at h; exact h
  | ex q S1 => rw [e1] at h; exact fun cls d μ1 H1 Hf1 s1 x1 w1 => h cls d μ1 H1 Hf1 s1 x1 w1
  | ok pr S1 =>
    rw [e1] at h
    obtain ⟨ws, hk⟩ := pr
    intro J μ1 H1 Hf1 s1 x1 iw D hD
    have h1 := Rs.step (show Rs A (RW A) σ S μ H Hf (if ws.length ≤ lineN then (match compGo (turnE C elt t cond vs ρ) ws (lockO S1 hk).1 with
      | .ok ws S2 => mkL m ws (unlockC S2 (lockO S1 hk).2)
      | _ => .no) else .no) Q from h) x1
    split at h1
    case isFalse => exact h1.elim
    rename_i hlen
    cases e2 : compGo (turnE C elt t cond vs ρ) ws (lockO S1 hk).1 with
    | no => rw [e2] at h1; exact h1.elim
    | ex q S2 => rw [e2] at h1; exact h1.elim
    | ok zs Se =>
      rw [e2] at h1
      dsimp only at h1
      obtain ⟨sL, xL⟩ := lock_ok s1 hk
      refine ⟨fun i k H => k = ws.length - i ∧ i ≤ ws.length ∧ ∃ S2 μ2 Hf2 acc was zs', Sm A.K A.bs μ2 S2 H Hf2 ∧ Xt (lockO S1 hk).1 μ1 H1 Hf1 S2 μ2 H Hf2 ∧ Free S2 μ2 H Hf2 D (.lst acc) ∧ acc.length ≤ i ∧ Paired (WR A.K Hf2 μ2 A.xr) was acc ∧ compGo (turnE C elt t cond vs ρ) (ws.drop i) S2 = .ok zs' Se ∧ was ++ zs' = zs,
        ⟨ws.length, rfl, Nat.zero_le _, _, μ1, Hf1, [], [], zs, sL.side (sL.fresh hD) (sL.fresh' hD), Xt.side .refl sL hD, ⟨upd_same, sL.fresh hD, sL.fresh' hD⟩, Nat.le_refl _, .nil, e2, rfl⟩, ?_⟩
      rintro i k H2 ⟨rfl, hi, S2, μ2, Hf2, acc, was, zs', s2, x2, fD, hacc, pr, ec, ez⟩
      by_cases hlt : i < ws.length
      · refine .inr ⟨iw.goes S2 μ2 H2 Hf2 i s2 x2 hlt, fun H => ∃ S2 μ2 Hf2 acc was zs', Sm A.K A.bs μ2 S2 H Hf2 ∧ Xt (lockO S1 hk).1 μ1 H1 Hf1 S2 μ2 H Hf2 ∧ Free S2 μ2 H Hf2 D (.lst acc) ∧ acc.length ≤ i + 1 ∧ Paired (WR A.K Hf2 μ2 A.xr) was acc ∧ compGo (turnE C elt t cond vs ρ) (ws.drop (i + 1)) S2 = .ok zs' Se ∧ was ++ zs' = zs,
          fun H' q => ⟨ws.length - (i + 1), by omega, rfl, hlt, q⟩, fun v H3 y => ?_⟩
        obtain ⟨w, Hf3, ew, s3, x3, w3⟩ := iw.yields S2 μ2 H2 Hf2 i v H3 s2 x2 hlt y
        rw [drop_at ew] at ec
        obtain ⟨o, S3, zs2, ef, er, rfl⟩ := compGo_eq ec
        unfold turnE at ef
        cases eb : bindT S2 t w (wipeE ρ vs) with
        | none => rw [eb] at ef; cases ef
        | some ρ3 =>
          rw [eb] at ef
          dsimp only at ef
          obtain ⟨b, Sb, eb1, ef⟩ := bd_ok ef
          have x23 := x2.trans x3
          rw [hK]
          refine gT_ok s3 t w v (wipeE ρ vs) ρ3 (wipe σ vs) _ (((en.xt x1).xt (xL.trans x23)).wipe vs) w3 eb fun σ3 en3 off => ⟨wipe_eq off hix, ?_⟩
          -- behind the test
          have go : ∀ (H4 : Hp) (μ4 : List V) (Hf4 : Hp), Sm A.K A.bs μ4 Sb H4 Hf4 → Xt S2 μ2 H3 Hf3 Sb μ4 H4 Hf4 → (if b = true then tElt A C elt σ3 H4 fun y H5 => ∃ acc, H5 D = some (.lst acc) ∧ acc.length < sizeLine ∧
              (∃ S2 μ2 Hf2 acc' was zs', Sm A.K A.bs μ2 S2 (upd H5 D (.lst (acc ++ [y]))) Hf2 ∧ Xt (lockO S1 hk).1 μ1 H1 Hf1 S2 μ2 (upd H5 D (.lst (acc ++ [y]))) Hf2 ∧ Free S2 μ2 (upd H5 D (.lst (acc ++ [y]))) Hf2 D (.lst acc') ∧ acc'.length ≤ i + 1 ∧ Paired (WR A.K Hf2 μ2 A.xr) was acc' ∧ compGo (turnE C elt t cond vs ρ) (ws.drop (i + 1)) S2 = .ok zs' Se ∧ was ++ zs' = zs)
              else ∃ S2 μ2 Hf2 acc was zs', Sm A.K A.bs μ2 S2 H4 Hf2 ∧ Xt (lockO S1 hk).1 μ1 H1 Hf1 S2 μ2 H4 Hf2 ∧ Free S2 μ2 H4 Hf2 D (.lst acc) ∧ acc.length ≤ i + 1 ∧ Paired (WR A.K Hf2 μ2 A.xr) was acc ∧ compGo (turnE C elt t cond vs ρ) (ws.drop (i + 1)) S2 = .ok zs' Se ∧ was ++ zs' = zs) := by
            intro H4 μ4 Hf4 s4 x4
            have x24 := x23.trans x4
            have f4 := x4.un D _ (x3.un D _ fD)
            cases b with
            | false =>
              rw [if_neg Bool.false_ne_true] at ef ⊢
              injection ef with q1 q2
              subst q1; subst q2
              exact ⟨Sb, μ4, Hf4, acc, was, zs2, s4, x24, f4, by omega, wrs_mono (x3.trans x4).mu (x3.trans x4).fr pr, er, ez⟩
            | true =>
              rw [if_pos rfl] at ef ⊢
              obtain ⟨w5, S5, e5, ef⟩ := bd_ok ef
              injection ef with q1 q2
              subst q1; subst q2
              refine ⟨ρ3, Sb, μ4, Hf4, s4, en3.xt x4, ?_⟩
              rw [e5]
              intro v5 μ5 H5 Hf5 s5 x5 w5'
              have f5 := x5.un D _ f4
              refine ⟨acc, f5.1, by rw [← lineN_eq]; omega, S5, μ5, Hf5, acc ++ [v5], was ++ [w5], zs2, s5.side f5.2.1 f5.2.2, Xt.side (x24.trans x5) sL hD, f5.upd, by rw [List.length_append, List.length_singleton]; omega, paired_app (wrs_mono ((x3.trans x4).trans x5).mu ((x3.trans x4).trans x5).fr pr) (.cons w5' .nil), er, by rw [← ez]; simp⟩
          cases cond with
          | none =>
            unfold evC at eb1
            injection eb1 with q1 q2
            subst q1; subst q2
            exact go H3 μ2 Hf3 s3 .refl
          | some y =>
            unfold evC at eb1
            have ey := tst_ok eb1
            refine ⟨ρ3, S2, μ2, Hf3, s3, en3, ?_⟩
            rw [ey]
            intro v4 μ4 H4 Hf4 s4 x4 w4
            cases wr_bl w4
            exact ⟨b, rfl, go H4 μ4 Hf4 s4 x4⟩
      · have ei : i = ws.length := by omega
        subst ei
        rw [List.drop_length] at ec
        unfold compGo at ec
        injection ec with q1 q2
        subst q1; subst q2
        rw [List.append_nil] at ez
        subst ez
        refine .inl ⟨iw.stops S2 μ2 H2 Hf2 s2 x2, ?_⟩
        have ag : ∀ b, b ≠ D → gone H2 D b = H2 b := fun b n => gone_ne n
        have sg := s2.off fD.2.1 fD.2.2 ag
        have xg := Xt.off x2 sL hD ag
        obtain ⟨su, xu⟩ := unlock_ok sg xg s1
        have := mkL_rs su pr (Rs.step h1 xu) (p := D) (by unfold gone; rw [if_pos rfl])
        rw [gone_back fD.1] at this
        exact this
end
end Gw

namespace Gw
open PySem PySem.Spec PyProof.Rows L2
def isLc : Ex → Bool
  | .lc .. => true
  | _ => false
section
variable {A : Pa} {X : Cx} {C : Cxt} {ρ : Env} {S S1 : Store} {σ : L2.St} {μ μ1 : List V} {H Hf H1 Hf1 : Hp} {D : Ends}
/-- what a comprehension's parts must be -/
structure LcG (A : Pa) (X : Cx) (C : Cxt) (elt : Ex) (t : Tg) (it : It) (cond : Option Ex) (sc : Scope) (own : List (Str × Nat)) : Prop where
  hK : X.K = A.K
  hN : X.N.Nodup
  calm : X.calm = true
  it : ∀ ρ, OkI A X C ρ t.e it
  blk : BlkOk X.N X.env.scope sc own
  ix : ∀ i ∈ ixT t, i ∈ own.map (·.2)
  tg : ∀ (s : Shared) (H : Hp) (Cc : Addr) (cl : List (Str × Addr)) (fp : List Addr), PG (X.blk s H sc (compEnvC sc cl Cc X.env) fp) t.e (gT X.K t)
  cond : ∀ (s : Shared) (H : Hp) (Cc : Addr) (cl : List (Str × Addr)) (fp : List Addr) y, cond = some y → ∀ ρ, Ok A.still (X.blk s H sc (compEnvC sc cl Cc X.env) fp) C ρ y
  elt : ∀ (s : Shared) (H : Hp) (Cc : Addr) (cl : List (Str × Addr)) (fp : List Addr) ρ, Ok A.still (X.blk s H sc (compEnvC sc cl Cc X.env) fp) C ρ elt
theorem sd_lc {m : Bool} {elt : Ex} {t : Tg} {it : It} {cond : Option Ex} {sc : Scope} {own : List (Str × Nat)} {p : Pos} (L : C.calm = true → LcG A X C elt t it cond sc own) : Ok A X C ρ (.lc m elt t it cond sc own p) := fun S => by
  cases hc : C.calm with
  | false =>
    have e : ev C (.lc m elt t it cond sc own p) ρ S = .no := by unfold ev; rw [if_pos hc]
    rw [e]
    exact noPB
  | true =>
    have L := L hc
    refine .of (impPE (pe_lc L.calm L.hN (L.it ρ S) L.blk L.tg (fun s H Cc cl fp => pt_cond cond (L.cond s H Cc cl fp)) (fun s H Cc cl fp => pe_elt (L.elt s H Cc cl fp)) (fold_it _ _)) fun σ H Q h => lc_tev L.hK L.ix σ H Q h)
theorem so_asg {tg : Tg} {e : Ex} {p : Pos} (hK : X.K = A.K) (hp : ∀ ρ S, PS X (.Assign [tg.e] e.e p) (tAsg (tEv A ρ S (ev C e ρ S)) (gT X.K tg))) : OkS A X C (.asg tg e p) := fun ρ S => by
  unfold St.s exec
  refine impPS (hp ρ S) fun D σ H ⟨μ, Hf, sm, en, h⟩ => ?_
  refine st_then sm en h fun w S1 v μ1 H1 Hf1 s1 en1 w1 _ h1 _ => ?_
  cases eb : bindA C S1 tg w ρ with
  | none => rw [eb] at h1; exact h1.elim
  | some ρ' =>
    rw [eb] at h1
    have eb' : bindT S1 tg w ρ = some ρ' := by
      cases tg with
      | nm i x p => exact eb
      | tp ts k p =>
        have eb2 : (if C.calm = true then bindT S1 (.tp ts k p) w ρ else none) = some ρ' := eb
        by_cases z : C.calm = true
        · rw [if_pos z] at eb2; exact eb2
        · rw [if_neg z] at eb2; cases eb2
    rw [hK]
    exact gT_ok s1 tg w v ρ ρ' σ _ en1 w1 eb' fun σ' en' _ => RsO.nx h1 s1 .refl en'
theorem swaps_not {e : Ex} (h : isLc e = false) (t : Option Expr) (l : Nat) (env : PySem.Env) : swapsWith e.e t l env = pure false := by
  cases e with
  | lc => cases h
  | _ => rfl
theorem sole_eq (t : Expr) (e : Expr) (l : Nat) (env : PySem.Env) : swapsWithSole [t] e l env = swapsWith e (some t) l env := rfl
def isTp : Tg → Bool
  | .tp .. => true
  | _ => false
def isTup : Ex → Bool
  | .tup .. => true
  | _ => false
theorem swapped_not {tg : Tg} {e : Ex} (h : (isTp tg && isTup e) = false) (env : PySem.Env) : swappedStores [tg.e] e.e env = pure none := by
  cases tg with
  | nm i x p => cases e <;> rfl
  | tp ts k p => cases e <;> first | (cases h; done) | rfl
theorem each1 (tg : Tg) (env : PySem.Env) : (assignEach [tg.e] env).map (·.2) = [assign tg.e env] := by rw [tg_each]; rfl
/-- name = [..]: how it is stored -/
def swB (sc : Scope) (csc : Scope) (y : Str) (py p : Pos) : Bool := (match sc.names.lookup y with | some .local => true | _ => false) && py.line == p.line && !(csc.names.any fun (n, k) => n == y && (k == .local || k == .cell))
theorem sw_lc {elt : Expr} {gs : List Comprehension} {csc : Scope} {pos py : Pos} {y : Str} {l : Nat} {env : PySem.Env} (hk : env.scope.kind = .function) : swapsWith (.ListComp elt gs csc pos) (some (.Name y py)) l env = pure (swB env.scope csc y py pos) := by
  have hb : env.blockKind = .function := by unfold Env.blockKind; rw [hk]; rfl
  unfold swapsWith swB
  simp only [hb, Expr.pos]
  have : (env.kindOf y == some NameKind.local) = (match env.scope.names.lookup y with | some .local => true | _ => false) := by
    show (env.scope.names.lookup y == some NameKind.local) = _
    cases env.scope.names.lookup y with
    | none => rfl
    | some k => cases k <;> rfl
  rw [this]
  rfl
theorem asg_lc {m : Bool} {elt : Ex} {t : Tg} {it : It} {cond : Option Ex} {sc : Scope} {own : List (Str × Nat)} {p q py : Pos} {i : Nat} {y : Str} (hk : X.env.scope.kind = .function) (hy : wfT X.N X.env.scope X.fn (.nm i y py) = true) (hN : X.N.Nodup) (hcc : X.calm = true) (hoff : C.calm = false → False)
    (L : C.calm = true → LcG A X C elt t it cond sc own) : PS X (.Assign [(Tg.nm i y py).e] (Ex.lc m elt t it cond sc own p).e q) (tAsg (tEv A ρ S (ev C (.lc m elt t it cond sc own p) ρ S)) (gT X.K (.nm i y py))) := by
  have hc : C.calm = true := by
    cases z : C.calm with
    | true => rfl
    | false => exact (hoff z).elim
  have L' := L hc
  cases hs : swB X.env.scope sc y py p with
  | false => exact ps_asg (sd_lc L S).pe (pg_T hcc hN _ hy) (by rw [sole_eq]; unfold Tg.e Ex.e; rw [sw_lc hk, hs]) (swapped_not (by rfl) _) (each1 _ _)
  | true =>
    have hs' := hs
    unfold swB at hs'
    simp only [Bool.and_eq_true] at hs'
    have hl : X.env.scope.names.lookup y = some .local := by
      have h1 := hs'.1.1
      split at h1
      · assumption
      · cases h1
    have hix : X.N[i]? = some y := by
      unfold wfT at hy
      exact of_decide_eq_true (Bool.and_eq_true_iff.mp hy).1
    have base := ps_setLc (i := i) (y := y) (py := py) (spos := q) L'.calm L'.hN hix hl (by rw [sw_lc hk, hs]) (L'.it ρ S) L'.blk L'.tg (fun s H Cc cl fp => pt_cond cond (L'.cond s H Cc cl fp)) (fun s H Cc cl fp => pe_elt (L'.elt s H Cc cl fp)) (fold_it _ _)
    exact impPS base fun D σ H h => lc_tev L'.hK L'.ix σ H _ h
theorem keepIf_ok {b : Bool} {w w' : Wd} {v : V} {S S1 : Store} (h : keepIf b S w = .ok w' S1) (s : Sm A.K A.bs μ S H Hf) (r : WR A.K Hf μ A.xr w v) : ∃ Hf1, Sm A.K A.bs μ S1 H Hf1 ∧ Xt S μ H Hf S1 μ H Hf1 ∧ WR A.K Hf1 μ noXr w' v ∧ ∀ j ∈ hsW w', b = true ∧ w' = .h j := by
  unfold keepIf at h
  split at h
  · injection h with q1 q2
    subst q1; subst q2
    exact ⟨Hf, s, .refl, r, fun j hj => by simp [hsW] at hj⟩
  · split at h
    · rename_i hb
      injection h with q1 q2
      subst q1; subst q2
      exact ⟨Hf, s, .refl, r, fun j hj => ⟨hb, by simp [hsW] at hj; rw [hj]⟩⟩
    · obtain ⟨d, S2, e, h⟩ := bd_ok h
      injection h with q1 q2
      subst q1; subst q2
      obtain ⟨Hf1, s1, x1, r1⟩ := keep_ok s r e
      exact ⟨Hf1, s1, x1, r1, fun j hj => by simp [hsW] at hj⟩
  · cases h
  · cases h
theorem keepIf_noex {b : Bool} {w : Wd} {S S1 : Store} {e : Exn} : keepIf b S w ≠ .ex e S1 := by
  intro h
  unfold keepIf at h
  split at h
  · cases h
  · split at h
    · cases h
    · cases e2 : keep S (.h (by assumption)) with
      | ok d S2 => rw [e2] at h; cases h
      | ex q S2 => exact keep_noex e2
      | no => rw [e2] at h; cases h
  · cases h
  · cases h
end
end Gw

namespace Gw
open PySem PySem.Spec PyProof.Rows L2
def supB : Ex → Bool
  | .call f _ _ [] _ => f == ("super" : Str)
  | _ => false
theorem base_ex {x : Ex} (h : supB x = false) (n : Str) (env : PySem.Env) : attributeBase x.e n env (eval x.e env) = eval x.e env := by
  cases x with
  | call f m q es p =>
    cases es with
    | nil =>
      have hf : (f == ("super" : Str)) = false := h
      have hn : (f != ("super" : Str)) = true := by simp [bne, hf]
      show attributeBase (.Call (.Name f q) [] [] p) n env _ = _
      unfold attributeBase
      simp only [hn, Bool.true_or, if_true]
    | cons a r => rfl
  | _ => rfl
def Ty.tn : Ty → String
  | .int => "int" | .bool => "bool" | .str => "str" | .list => "list" | .tuple => "tuple"
theorem kit_tab (K : PySem.W.Frag) (ty : Ty) : PySem.W.kitOne K (.type "NoneType") (.type ty.tn) = some false ∧ PySem.W.kitOne K (.type "bool") (.type ty.tn) = some (match ty with | .int => true | .bool => true | _ => false) ∧ PySem.W.kitOne K (.type "int") (.type ty.tn) = some (match ty with | .int => true | _ => false)
   ∧ PySem.W.kitOne K (.type "str") (.type ty.tn) = some (match ty with | .str => true | _ => false) ∧ PySem.W.kitOne K (.type "list") (.type ty.tn) = some (match ty with | .list => true | _ => false) ∧ PySem.W.kitOne K (.type "tuple") (.type ty.tn) = some (match ty with | .tuple => true | _ => false) := by
  cases ty <;> exact ⟨by rfl, by rfl, by rfl, by rfl, by rfl, by rfl⟩
section
variable {A : Pa} {X : Cx} {C : Cxt} {ρ : Env} {S S1 : Store} {σ : L2.St} {μ μ1 : List V} {H Hf H1 Hf1 : Hp} {D : Ends} {Q : VK}
/-! ### isinstance -/
theorem tyx_list {a : Addr} {vs : List V} {K : PySem.W.Frag} (q : SqL K H a vs) : TyX K H (.ref a) (.type "list") := by
  rcases q with (q | ⟨o, q⟩) | ⟨o, its, n, e, c, _⟩
  · exact .base (.lst q)
  · exact .base (.frz q)
  · exact .kList e c
theorem isi_tree {K : PySem.W.Frag} {v : V} {d : Dt} {ty : Ty} {b : Bool} (r : Rp K H v d) (h : isiB ty d = some b) : ∃ t, TyX K H v t ∧ PySem.W.kitOne K t (.type ty.tn) = some b := by
  obtain ⟨k1, k2, k3, k4, k5, k6⟩ := kit_tab K ty
  cases r with
  | non => exact ⟨_, .base .non, by rw [k1]; exact h⟩
  | bl c => exact ⟨_, .base (.bl c), by rw [k2]; exact h⟩
  | int c => exact ⟨_, .base (.int c), by rw [k3]; exact h⟩
  | str c => exact ⟨_, .base (.str c), by rw [k4]; exact h⟩
  | lst q1 q2 => exact ⟨_, tyx_list q1, by rw [k5]; exact h⟩
  | tup q1 q2 => exact ⟨_, .base (.tup q1), by rw [k6]; exact h⟩
  | dK q1 q2 q3 q4 => cases h
  | dT q1 q2 q3 q4 => cases h
theorem isi_ok {w : Wd} {v : V} {ty : Ty} {b : Bool} {xr : Xr} {K : PySem.W.Frag} {bs : List Nat} (s : Sm K bs μ S H Hf) (r : WR K Hf μ xr w v) (h : isiD S w ty = some b) : ∃ t, TyX K H v t ∧ PySem.W.kitOne K t (.type ty.tn) = some b := by
  cases w with
  | t d => exact isi_tree (s.rp r) h
  | x e => cases h
  | c ds => cases h
  | h k =>
    unfold isiD at h
    dsimp only at h
    cases ek : S[k]? with
    | none => rw [ek] at h; cases h
    | some c =>
      rw [ek] at h
      have cr := s.cell k c v ek r
      cases cr with
      | lst q1 q2 q3 => exact ⟨_, .base (.lst q1), by rw [(kit_tab K ty).2.2.2.2.1]; exact h⟩
      | frz q => exact isi_tree (s.rp q) h
      | dK => cases h
      | dT => cases h
theorem sd_isi {x : Ex} {ty : Ty} {q tq p : Pos} (hg : Gl X "isinstance") (hm : X.mg "isinstance" = none) (hgt : Gl X ty.nm) (hmt : X.mg ty.nm = none) (ha : Ok A X C ρ x) (hK : X.K = A.K) : Ok A X C ρ (.isi q x ty tq p) := fun S => by
  unfold Ex.e ev
  have pt : PE X (.Name ty.nm tq) (tC (.ty ty.tn)) := pe_bltn (u := .type ty.tn) hgt hmt (by cases ty <;> rfl) (by rfl) (by cases ty <;> decide) (by cases ty <;> decide)
  refine .of (impPE (pe_callB call_isi hg hm (by rfl) (pa_cons (ha S).pe (pa_cons pt pa_nil) (star_ex _ _ _)) (by decide) (by decide) (star_ex _ _ _) (by rfl)) fun σ H Q ⟨μ, Hf, sm, en, h⟩ => ?_)
  refine ev_then sm en h fun w S1 v μ1 H1 Hf1 s1 en1 w1 x1 h1 => ?_
  obtain ⟨b, eb, h2⟩ := opt_rs h1
  obtain ⟨t, q1, q2⟩ := isi_ok s1 w1 eb
  rw [← hK] at q1 q2
  exact ⟨v, .ty ty.tn, t, .type ty.tn, b, rfl, .ty _, q1, q2, h2.done s1 (.bl b)⟩
/-! ### one-place builtins -/
theorem bf_pe {x : Str} {id : String} {r : List V → Hp → VK → Prop} {e : Ex} {q p : Pos} {f : Wd → Store → Res Wd} {g : Res Wd} (hc : CallR X (.builtin id) r) (hg : Gl X x) (hm : X.mg x = none) (hv : bootBuiltins x = some (.builtin id)) (hn : x ≠ "__name__") (hdb : (x == ("__debug__" : Str)) = false)
    (ha : PE X e.e (tEv A ρ S g)) (h : ∀ w S1 v σ H μ Hf Q, g = .ok w S1 → Sm A.K A.bs μ S1 H Hf → WR A.K Hf μ A.xr w v → Rs A (RW A) σ S1 μ H Hf (f w S1) Q → r [v] H Q) : PB X (.Call (.Name x q) [e.e] [] p) (tEv A ρ S (g.bd f)) := by
  refine .of (impPE (pe_callB hc hg hm hv (one_pa ha) hn hdb (star_ex _ _ _) (by rfl)) fun σ H Q ⟨μ, Hf, sm, en, hh⟩ => ?_)
  refine ⟨μ, Hf, sm, en, ?_⟩
  cases g with
  | no => exact hh
  | ex q S1 => exact hh
  | ok w S1 => exact fun v μ1 H1 Hf1 s1 x1 w1 => h w S1 v σ H1 μ1 Hf1 Q rfl s1 w1 (Rs.step (show Rs A (RW A) σ S μ H Hf (f w S1) Q from hh) x1)
theorem bt_pe {x : Str} {T : String} {r : List V → Hp → VK → Prop} {e : Ex} {q p : Pos} {f : Wd → Store → Res Wd} {g : Res Wd} (hc : CallR X (.type T) r) (hg : Gl X x) (hm : X.mg x = none) (hv : bootBuiltins x = some (.type T)) (hn : x ≠ "__name__") (hdb : (x == ("__debug__" : Str)) = false)
    (ha : PE X e.e (tEv A ρ S g)) (h : ∀ w S1 v σ H μ Hf Q, g = .ok w S1 → Sm A.K A.bs μ S1 H Hf → WR A.K Hf μ A.xr w v → Rs A (RW A) σ S1 μ H Hf (f w S1) Q → r [v] H Q) : PB X (.Call (.Name x q) [e.e] [] p) (tEv A ρ S (g.bd f)) := by
  refine .of (impPE (pe_callTy hc hg hm hv (one_pa ha) hn hdb (star_ex _ _ _) (by rfl)) fun σ H Q ⟨μ, Hf, sm, en, hh⟩ => ?_)
  refine ⟨μ, Hf, sm, en, ?_⟩
  cases g with
  | no => exact hh
  | ex q S1 => exact hh
  | ok w S1 => exact fun v μ1 H1 Hf1 s1 x1 w1 => h w S1 v σ H1 μ1 Hf1 Q rfl s1 w1 (Rs.step (show Rs A (RW A) σ S μ H Hf (f w S1) Q from hh) x1)
theorem RpA.ints {K : PySem.W.Frag} : ∀ {vs : List V} {ds : List Dt} {is : List Int}, RpA K H vs ds → intsD ds = some is → vs = is.map V.int
  | _, _, is, .nil, h => by unfold intsD at h; injection h with h; subst h; rfl
  | _, _, is, .cons r1 r2, h => by
    rename_i v vs d ds
    cases d with
    | int i =>
      unfold intsD at h
      cases e : intsD ds with
      | none => rw [e] at h; cases h
      | some js =>
        rw [e] at h
        injection h with h
        subst h
        cases r1
        rw [RpA.ints r2 e]; rfl
    | _ => cases h
theorem RpA.bls {K : PySem.W.Frag} : ∀ {vs : List V} {ds : List Dt} {is : List Bool}, RpA K H vs ds → blsD ds = some is → vs = is.map V.bl
  | _, _, is, .nil, h => by unfold blsD at h; injection h with h; subst h; rfl
  | _, _, is, .cons r1 r2, h => by
    rename_i v vs d ds
    cases d with
    | bl i =>
      unfold blsD at h
      cases e : blsD ds with
      | none => rw [e] at h; cases h
      | some js =>
        rw [e] at h
        injection h with h
        subst h
        cases r1
        rw [RpA.bls r2 e]; rfl
    | _ => cases h
theorem RpA.strs {K : PySem.W.Frag} : ∀ {vs : List V} {ds : List Dt} {is : List Str}, RpA K H vs ds → strsD ds = some is → vs = is.map V.str
  | _, _, is, .nil, h => by unfold strsD at h; injection h with h; subst h; rfl
  | _, _, is, .cons r1 r2, h => by
    rename_i v vs d ds
    cases d with
    | str i =>
      unfold strsD at h
      cases e : strsD ds with
      | none => rw [e] at h; cases h
      | some js =>
        rw [e] at h
        injection h with h
        subst h
        cases r1
        rw [RpA.strs r2 e]; rfl
    | _ => cases h
end
/-! ### sorted, of alike data -/
def encB (b : V × Dt) : PyData := pd b.2
theorem each_zip : ∀ {vs : List V} {us : List Value} {ds : List Dt}, Vals vs us → vs.length = ds.length → PySem.W.EachIs (fun u (b : V × Dt) => RelV b.1 u) us (vs.zip ds)
  | _, _, [], .nil, _ => .nil
  | _, _, _ :: _, .nil, h => by cases h
  | _, _, [], .cons _ _, h => by cases h
  | _, _, d :: ds, .cons r1 r2, h => .cons r1 (each_zip r2 (by simpa using h))
theorem each_read {h : Heap} : ∀ {us : List Value} {ds : List Dt} {vs : List V} {as : List Addr}, ReadsAll h us (pds ds) as → vs.length = ds.length → PySem.W.EachIs (fun u (b : V × Dt) => ∃ as, Reads h u (encB b) as) us (vs.zip ds)
  | us, [], [], as, r, _ => by
    unfold pds at r
    cases r
    exact .nil
  | us, [], _ :: _, as, r, hl => by cases hl
  | us, d :: ds, [], as, r, hl => by cases hl
  | us, d :: ds, v :: vs, as, r, hl => by
    unfold pds at r
    cases r with
    | cons h1 h2 => exact .cons ⟨_, h1⟩ (each_read h2 (by simpa using hl))
theorem vals_each : ∀ {us : List Value} {bs : List (V × Dt)}, PySem.W.EachIs (fun u (b : V × Dt) => RelV b.1 u) us bs → Vals (bs.map (·.1)) us
  | _, _, .nil => .nil
  | _, _, .cons h1 h2 => .cons h1 (vals_each h2)
def rSortedD (X : Cx) : List V → Hp → VK → Prop := fun xs H Q => ∃ (a : Addr) (vs : List V) (ds : List Dt), xs = [V.ref a] ∧ SqL X.K H a vs ∧ vs.length = ds.length ∧ DpAll X.K H vs (pds ds) ∧ PySem.W.AllAlike (ds.map pd) ∧ PySem.W.Sortable (ds.map pd) ∧ (∀ d ∈ ds, (pd d).depth ≤ 64) ∧
  ∀ p, H p = none → Q (.ref p) (upd H p (.lst (((vs.zip ds).mergeSort (PySem.W.dataLe false encB)).map (·.1))))
theorem cr_sortedD {X : Cx} (hu : X.A.units + 80 < cLine) : CallR X (.builtin "sorted") (rSortedD X) := by
  intro pins s σ H xs us Q I r h
  obtain ⟨a, vs, ds, rfl, hs, hlen, hd, hal, hso, hdep, q⟩ := h
  obtain ⟨its, rv, hl, hz⟩ := I.list hs
  rw [Vals.ref1 r]
  obtain ⟨as, ra⟩ := Dp.readsAll I _ _ _ hd rv
  have em : (vs.zip ds).map encB = ds.map pd := by
    have : (vs.zip ds).map (·.2) = ds := List.map_snd_zip (by omega)
    calc (vs.zip ds).map encB = ((vs.zip ds).map (·.2)).map pd := by rw [List.map_map]; rfl
      _ = ds.map pd := by rw [this]
  refine PySem.W.sorted_data hl.isList (each_zip rv hlen) (each_read ra hlen) (by rw [em]; exact hal) (by rw [em]; exact hso) (by rw [List.length_zip, ← hlen, Nat.min_self]; exact hz) (fun b hb => ?_) fun out ho eo => ?_
  · have := hdep b.2 (List.of_mem_zip hb).2
    show X.A.units + 2 + (pd b.2).depth < cLine
    omega
  · obtain ⟨ep, he'⟩ := PyProof.Rows.sortedAll_at s.heap its out.toArray
    have hl2 : (((vs.zip ds).mergeSort (PySem.W.dataLe false encB)).map (·.1)).length ≤ sizeLine := by
      rw [List.length_map, List.length_mergeSort, List.length_zip, ← hlen, Nat.min_self]; exact hz
    exact ⟨.ref _, upd H (s.heap.objs.size + 1) (.lst (((vs.zip ds).mergeSort (PySem.W.dataLe false encB)).map (·.1))), I.laid (t' := s.toks) (fun _ _ => PyProof.Rows.sortedAll_old) (Nat.le_succ _) ⟨hl2, out, ep, vals_each eo, by simpa using he'⟩, rfl, q _ (I.hok.fresh (Nat.le_succ _))⟩
mutual
theorem eqv_eq : ∀ (d e : Dt), pln d = true → pln e = true → PySem.W.alike (pd d) (pd e) = true → PyData.eqv (pd d) (pd e) = true → d = e
  | .non, e, _, hq, a, _ => by
    cases e with
    | non => rfl
    | dic _ _ => unfold pln at hq; cases hq
    | _ => simp [pd, PySem.W.alike] at a
  | .bl b, e, _, _, a, q => by
    cases e with
    | bl c => simp [pd, PyData.eqv] at q; rw [q]
    | _ => simp [pd, PySem.W.alike] at a
  | .int b, e, _, _, a, q => by
    cases e with
    | int c => simp [pd, PyData.eqv] at q; rw [q]
    | _ => simp [pd, PySem.W.alike] at a
  | .str b, e, _, _, a, q => by
    cases e with
    | str c => simp [pd, PyData.eqv] at q; rw [q]
    | _ => simp [pd, PySem.W.alike] at a
  | .lst ds, e, hp, hq, a, q => by
    cases e with
    | lst es =>
      unfold pln at hp hq
      unfold pd at a q
      rw [eqvs_eq ds es hp hq (by simpa [PySem.W.alike] using a) (by simpa [PyData.eqv] using q)]
    | _ => simp [pd, PySem.W.alike] at a
  | .tup ds, e, hp, hq, a, q => by
    cases e with
    | tup es =>
      unfold pln at hp hq
      unfold pd at a q
      rw [eqvs_eq ds es hp hq (by simpa [PySem.W.alike] using a) (by simpa [PyData.eqv] using q)]
    | _ => simp [pd, PySem.W.alike] at a
  | .dic _ _, _, hp, _, _, _ => by unfold pln at hp; cases hp
theorem eqvs_eq : ∀ (ds es : List Dt), plns ds = true → plns es = true → PySem.W.alikeAll (pds ds) (pds es) = true → PyData.eqvAll (pds ds) (pds es) = true → ds = es
  | [], [], _, _, _, _ => rfl
  | [], _ :: _, _, _, _, q => by simp [pds, PyData.eqvAll] at q
  | _ :: _, [], _, _, _, q => by simp [pds, PyData.eqvAll] at q
  | d :: ds, e :: es, hp, hq, a, q => by
    unfold plns at hp hq
    obtain ⟨p1, p2⟩ := Bool.and_eq_true_iff.mp hp
    obtain ⟨q1, q2⟩ := Bool.and_eq_true_iff.mp hq
    unfold pds at a q
    have a' : PySem.W.alike (pd d) (pd e) = true ∧ PySem.W.alikeAll (pds ds) (pds es) = true := by simpa [PySem.W.alikeAll] using a
    have q' : PyData.eqv (pd d) (pd e) = true ∧ PyData.eqvAll (pds ds) (pds es) = true := by simpa [PyData.eqvAll] using q
    rw [eqv_eq d e p1 q1 a'.1 q'.1, eqvs_eq ds es p2 q2 a'.2 q'.2]
end
theorem lex_snoc {O : PyProof.Rows.KeyOrd} (x : O.α) : ∀ l : List O.α, PyProof.Rows.lexLt O l (l ++ [x]) = true
  | [] => rfl
  | y :: r => by
    show PyProof.Rows.lexLt O (y :: r) (y :: (r ++ [x])) = true
    rw [PyProof.Rows.lex_self]
    exact lex_snoc x r
theorem dle_anti {d e : Dt} (hp : pln d = true) (hq : pln e = true) (a : PySem.W.alike (pd d) (pd e) = true) (h1 : dle d e = true) (h2 : dle e d = true) : d = e := by
  have h1' : (!PyProof.Rows.lexLt PyProof.Rows.itemOrd (PySem.W.keyToks (pd e)) (PySem.W.keyToks (pd d))) = true := h1
  have h2' : (!PyProof.Rows.lexLt PyProof.Rows.itemOrd (PySem.W.keyToks (pd d)) (PySem.W.keyToks (pd e))) = true := h2
  rw [Bool.not_eq_true'] at h1' h2'
  have ek : PySem.W.keyToks (pd d) = PySem.W.keyToks (pd e) := (PyProof.Rows.listOrd PyProof.Rows.itemOrd).total _ _ h2' h1'
  obtain ⟨_, t2⟩ := PySem.W.toks_eqv (pd d) (pd e) a
  cases q : PyData.eqv (pd d) (pd e) with
  | true => exact eqv_eq d e hp hq a q
  | false =>
    have := t2 q [] [Sum.inl 0]
    rw [ek, List.append_nil] at this
    rw [lex_snoc, PyProof.Rows.lex_irrefl] at this
    cases this
theorem dle_tot : PySem.W.TotalLe dle := ⟨fun a b c h1 h2 => (PySem.W.sortLe_total (PyProof.Rows.listOrd PyProof.Rows.itemOrd) false fun d : Dt => PySem.W.keyToks (pd d)).trans a b c h1 h2, fun a b => (PySem.W.sortLe_total (PyProof.Rows.listOrd PyProof.Rows.itemOrd) false fun d : Dt => PySem.W.keyToks (pd d)).total a b⟩
theorem insD_perm (d : Dt) : ∀ l : List Dt, (insD d l).Perm (d :: l)
  | [] => .refl _
  | e :: r => by
    unfold insD
    split
    · exact .refl _
    · exact ((insD_perm d r).cons e).trans (.swap d e r)
theorem isortD_perm : ∀ l : List Dt, (isortD l).Perm l
  | [] => .refl _
  | d :: r => (insD_perm d (isortD r)).trans ((isortD_perm r).cons d)
theorem insD_pw (d : Dt) : ∀ l : List Dt, l.Pairwise (fun a b => dle a b = true) → (insD d l).Pairwise (fun a b => dle a b = true)
  | [], _ => by unfold insD; exact List.pairwise_singleton _ _
  | e :: r, h => by
    obtain ⟨h1, h2⟩ := List.pairwise_cons.mp h
    unfold insD
    split
    · rename_i hd
      refine List.pairwise_cons.mpr ⟨fun x hx => ?_, h⟩
      rcases List.mem_cons.mp hx with hx | hx
      · rw [hx]; exact hd
      · exact dle_tot.trans _ _ _ hd (h1 x hx)
    · rename_i hd
      refine List.pairwise_cons.mpr ⟨fun x hx => ?_, insD_pw d r h2⟩
      rcases List.mem_cons.mp ((insD_perm d r).mem_iff.mp hx) with hx | hx
      · rw [hx]
        rcases dle_tot.total d e with q | q
        · exact absurd q hd
        · exact q
      · exact h1 x hx
theorem isortD_pw : ∀ l : List Dt, (isortD l).Pairwise (fun a b => dle a b = true)
  | [] => List.Pairwise.nil
  | d :: r => insD_pw d _ (isortD_pw r)
theorem isort_eq {ds : List Dt} (hp : ds.all pln = true) (ha : ∀ d ∈ ds, ∀ e ∈ ds, PySem.W.alike (pd d) (pd e) = true) : isortD ds = ds.mergeSort dle := by
  have p1 := isortD_perm ds
  have p2 := List.mergeSort_perm ds dle
  refine List.Perm.eq_of_pairwise (le := fun a b => dle a b = true) (fun a b h1 h2 q1 q2 => ?_) (isortD_pw ds) (List.pairwise_mergeSort dle_tot.trans (fun a b => by rcases dle_tot.total a b with q | q <;> simp [q]) ds) (p1.trans p2.symm)
  have m1 := p1.mem_iff.mp h1
  have m2 := p2.mem_iff.mp h2
  exact dle_anti (List.all_eq_true.mp hp a m1) (List.all_eq_true.mp hp b m2) (ha a m1 b m2) q1 q2
end Gw

namespace Gw
open PySem PySem.Spec PyProof.Rows L2
section
variable {A : Pa} {X : Cx} {C : Cxt} {ρ : Env} {S S1 : Store} {σ : L2.St} {μ μ1 : List V} {H Hf H1 Hf1 : Hp} {D : Ends} {Q : VK}
theorem Sm.items (s : Sm A.K A.bs μ S H Hf) {w : Wd} {v : V} {ds : List Dt} (r : WR A.K Hf μ A.xr w v) (h : itemsF S w = some ds) : ∃ a vs, v = .ref a ∧ SqL A.K H a vs ∧ RpA A.K Hf vs ds := by
  unfold itemsF at h
  split at h
  · rename_i ws e
    obtain ⟨a, vs, rfl, q, rs⟩ := s.seq r e
    exact ⟨a, vs, rfl, q, s.rdFs rs h⟩
  · cases h
def okB1 : B1 → Bool
  | .len => true | .sorted => true | .list => true | .tuple => true | .sum => true | .all => true | .any => true | .int => true
  | _ => false
theorem opt_rs3 {α β : Type} {o : Option α} {f : α → Res β} {R : Hp → List V → β → V → Prop} {x : Res β} (h : Rs A R σ S μ H Hf (match o with | some a => f a | none => .no) Q) : ∃ a, o = some a ∧ Rs A R σ S μ H Hf (f a) Q := by
  cases o with
  | none => exact h.elim
  | some a => exact ⟨a, rfl, h⟩
theorem pds_map : ∀ ds : List Dt, pds ds = ds.map pd
  | [] => rfl
  | d :: r => by unfold pds; rw [pds_map r]; rfl
theorem plns_all : ∀ {ds : List Dt}, ds.all pln = true → plns ds = true
  | [], _ => rfl
  | d :: r, h => by
    rw [List.all_cons] at h
    obtain ⟨h1, h2⟩ := Bool.and_eq_true_iff.mp h
    unfold plns
    rw [h1, plns_all h2]; rfl
theorem sortable_of {ds : List Dt} (h : sortable ds = true) : plns ds = true ∧ PySem.W.AllAlike (ds.map pd) ∧ PySem.W.Sortable (ds.map pd) ∧ ∀ d ∈ ds, (pd d).depth ≤ 64 := by
  unfold sortable at h
  obtain ⟨h, h4⟩ := Bool.and_eq_true_iff.mp h
  obtain ⟨h, h3⟩ := Bool.and_eq_true_iff.mp h
  obtain ⟨h1, h2⟩ := Bool.and_eq_true_iff.mp h
  refine ⟨plns_all h1, fun x hx y hy => ?_, ?_, fun d hd => of_decide_eq_true (List.all_eq_true.mp h4 d hd)⟩
  · obtain ⟨d, hd, rfl⟩ := List.mem_map.mp hx
    obtain ⟨e, he, rfl⟩ := List.mem_map.mp hy
    exact List.all_eq_true.mp (List.all_eq_true.mp h2 d hd) e he
  · rcases Bool.or_eq_true_iff.mp h3 with h3 | h3
    · refine .inl fun x hx => ?_
      obtain ⟨d, hd, rfl⟩ := List.mem_map.mp hx
      have := List.all_eq_true.mp h3 d hd
      split at this
      · rename_i a r
        exact ⟨pd a, pds r, rfl⟩
      · cases this
    · refine .inr fun x hx => ?_
      obtain ⟨d, hd, rfl⟩ := List.mem_map.mp hx
      have := List.all_eq_true.mp h3 d hd
      have pl := List.all_eq_true.mp h1 d hd
      cases d with
      | non => cases this
      | tup _ => cases this
      | dic _ _ => cases pl
      | bl _ => exact ⟨fun z => (by unfold pd at z; cases z), fun xs z => (by unfold pd at z; cases z)⟩
      | int _ => exact ⟨fun z => (by unfold pd at z; cases z), fun xs z => (by unfold pd at z; cases z)⟩
      | str _ => exact ⟨fun z => (by unfold pd at z; cases z), fun xs z => (by unfold pd at z; cases z)⟩
      | lst _ => exact ⟨fun z => (by unfold pd at z; cases z), fun xs z => (by unfold pd at z; cases z)⟩
theorem sortable_pln {ds : List Dt} (h : sortable ds = true) : ds.all pln = true := by
  unfold sortable at h
  exact (Bool.and_eq_true_iff.mp (Bool.and_eq_true_iff.mp (Bool.and_eq_true_iff.mp h).1).1).1
theorem zip_rp {K : PySem.W.Frag} {H : Hp} : ∀ {vs : List V} {ds : List Dt}, RpA K H vs ds → ∀ b ∈ vs.zip ds, Rp K H b.1 b.2
  | _, _, .nil, b, h => by cases h
  | _, _, .cons r1 r2, b, h => by
    rw [List.zip_cons_cons] at h
    rcases List.mem_cons.mp h with h | h
    · rw [h]; exact r1
    · exact zip_rp r2 b h
theorem pair_of {K : PySem.W.Frag} {xr : Xr} : ∀ {bs : List (V × Dt)}, (∀ b ∈ bs, Rp K Hf b.1 b.2) → Paired (WR K Hf μ xr) (bs.map (Wd.t ∘ fun b => b.2)) (bs.map (·.1))
  | [], _ => .nil
  | b :: r, h => .cons (h b List.mem_cons_self) (pair_of fun c hc => h c (List.mem_cons_of_mem _ hc))
theorem sd_b1 {b : B1} {m : Bool} {q p : Pos} {e : Ex} (hu : X.A.units + 80 < cLine) (hb : okB1 b = true) (hg : Gl X b.nm) (hm : X.mg b.nm = none) (hc : C.calm = true → X.calm = true) (hK : X.K = A.K) (ha : Ok A X C ρ e) : Ok A X C ρ (.b1 b m q e p) := fun S => by
  unfold Ex.e ev
  cases hcal : C.calm with
  | false => exact noPB
  | true =>
  rw [if_neg (by decide)]
  have hcm := hc hcal
  have h0 := (ha S).pe
  cases b with
  | len =>
    cases eg : ev C e ρ S with
    | no => exact noPB
    | ex q0 S1 => rw [eg] at h0; exact bf_pe (r := fun _ _ _ => False) (f := fun _ _ => .no) (fun _ _ _ _ _ _ _ _ _ z => z.elim) hg hm (by rfl) (by decide) (by decide) h0 fun w S1 v σ H μ Hf Q z => by cases z
    | ok w S1 =>
      rw [eg] at h0
      by_cases hd : ∃ k kvs, w = .h k ∧ S1[k]? = some (.dic false false kvs)
      · obtain ⟨k, kvs, rfl, ek⟩ := hd
        refine bf_pe call_lenD hg hm (by rfl) (by decide) (by decide) h0 fun w S2 v σ H μ Hf Q z s r h => ?_
        injection z with z1 z2
        subst z1; subst z2
        have ev : vw S1 (.h k) = .dic false kvs := by unfold vw; dsimp only; rw [ek]
        unfold b1D at h
        simp only [ev, ek] at h
        have cr := s.cell k _ v ek r
        cases cr with
        | dK q1 q0 q2 q3 q4 =>
          rw [if_neg Bool.false_ne_true] at q0
          subst q0
          rename_i a kv
          refine ⟨a, kv, rfl, q1, ?_⟩
          have hl : kv.length = kvs.length := by have := congrArg List.length q3; simpa using this
          rw [hl]
          exact h.done s (.int _)
      · refine bf_pe call_len hg hm (by rfl) (by decide) (by decide) h0 fun w2 S2 v σ H μ Hf Q z s r h => ?_
        injection z with z1 z2
        subst z1; subst z2
        unfold b1D at h
        dsimp only at h
        split at h
        · cases wr_str r
          split at h
          · rename_i hl
            exact ⟨_, _, rfl, ⟨by rw [← lineN_eq]; exact hl, rfl⟩, h.done s (.int _)⟩
          · exact h.elim
        · split at h
          · rename_i tup ws e
            obtain ⟨a, vs, rfl, q, rs⟩ := s.seq r e
            rw [rs.length] at h
            cases tup with
            | true => exact ⟨_, _, rfl, .inr ⟨vs, by rw [hK]; exact q, rfl⟩, h.done s (.int _)⟩
            | false => exact ⟨_, _, rfl, .inl ⟨vs, by rw [hK]; exact q, rfl⟩, h.done s (.int _)⟩
          · split at h
            · rename_i k hw
              split at h
              · rename_i kvs ek
                exact (hd ⟨_, _, rfl, ek⟩).elim
              · exact h.elim
            · exact h.elim
          · exact h.elim
  | list =>
    refine bt_pe call_list_of hg hm (by rfl) (by decide) (by decide) h0 fun w S1 v σ H μ Hf Q _ s r h => ?_
    unfold b1D at h
    dsimp only at h
    split at h
    · rename_i tup ws e
      obtain ⟨a, vs, rfl, q, rs⟩ := s.seq r e
      rw [hK]
      refine ⟨a, vs, rfl, ?_, fun l hl => mkL_rs s rs h hl⟩
      cases tup with
      | true => exact .inr q
      | false => exact .inl q
    · exact h.elim
  | tuple =>
    refine bt_pe call_tuple_of hg hm (by rfl) (by decide) (by decide) h0 fun w S1 v σ H μ Hf Q _ s r h => ?_
    unfold b1D at h
    dsimp only at h
    split at h
    · rename_i ws e
      obtain ⟨a, vs, rfl, q, rs⟩ := s.seq r e
      rw [hK]
      exact ⟨a, vs, rfl, .inl ⟨q, fun l hl => mkT_rs s rs h hl⟩⟩
    · rename_i ws e
      obtain ⟨a, vs, rfl, q, rs⟩ := s.seq r e
      split at h
      · rw [hK]
        exact ⟨a, vs, rfl, .inr ⟨q, h.done s r⟩⟩
      · exact h.elim
    · exact h.elim
  | sum =>
    refine bf_pe (cr_sum hcm) hg hm (by rfl) (by decide) (by decide) h0 fun w S1 v σ H μ Hf Q _ s r h => ?_
    unfold b1D at h
    dsimp only at h
    cases e1 : itemsF S1 w with
    | none => rw [e1] at h; exact h.elim
    | some ds =>
      cases e2 : intsD ds with
      | none => simp only [e1, Option.bind, e2] at h; exact h.elim
      | some is =>
        simp only [e1, Option.bind, e2] at h
        obtain ⟨a, vs, rfl, q, rs⟩ := s.items r e1
        obtain rfl := rs.ints e2
        rw [hK]
        exact ⟨a, is, rfl, q, h.done s (.int _)⟩
  | all =>
    refine bf_pe (cr_all hcm) hg hm (by rfl) (by decide) (by decide) h0 fun w S1 v σ H μ Hf Q _ s r h => ?_
    unfold b1D at h
    dsimp only at h
    cases e1 : itemsF S1 w with
    | none => rw [e1] at h; exact h.elim
    | some ds =>
      cases e2 : blsD ds with
      | none => simp only [e1, Option.bind, e2] at h; exact h.elim
      | some is =>
        simp only [e1, Option.bind, e2] at h
        obtain ⟨a, vs, rfl, q, rs⟩ := s.items r e1
        obtain rfl := rs.bls e2
        rw [hK]
        exact ⟨a, is, rfl, q, h.done s (.bl _)⟩
  | any =>
    refine bf_pe (cr_any hcm) hg hm (by rfl) (by decide) (by decide) h0 fun w S1 v σ H μ Hf Q _ s r h => ?_
    unfold b1D at h
    dsimp only at h
    cases e1 : itemsF S1 w with
    | none => rw [e1] at h; exact h.elim
    | some ds =>
      cases e2 : blsD ds with
      | none => simp only [e1, Option.bind, e2] at h; exact h.elim
      | some is =>
        simp only [e1, Option.bind, e2] at h
        obtain ⟨a, vs, rfl, q, rs⟩ := s.items r e1
        obtain rfl := rs.bls e2
        rw [hK]
        exact ⟨a, is, rfl, q, h.done s (.bl _)⟩
  | sorted =>
    refine bf_pe (cr_sortedD hu) hg hm (by rfl) (by decide) (by decide) h0 fun w S1 v σ H μ Hf Q _ s r h => ?_
    unfold b1D at h
    dsimp only at h
    cases e1 : itemsF S1 w with
    | none => rw [e1] at h; exact h.elim
    | some ds =>
      rw [e1] at h
      dsimp only at h
      unfold sortD at h
      by_cases hs : sortable ds = true
      · rw [if_pos hs] at h
        dsimp only at h
        obtain ⟨a, vs, rfl, q, rs⟩ := s.items r e1
        obtain ⟨o1, o2, o3, o4⟩ := sortable_of hs
        have ei : isortD ds = ds.mergeSort dle := isort_eq (sortable_pln hs) fun d hd e he => o2 _ (List.mem_map_of_mem hd) _ (List.mem_map_of_mem he)
        rw [ei] at h
        have hlen : vs.length = ds.length := rs.length
        rw [← hK] at q
        refine ⟨a, vs, ds, rfl, q, hlen, by rw [hK]; exact (rs.mono s.sub).dp o1, o2, o3, o4, fun p hp => ?_⟩
        have hz : ∀ b ∈ vs.zip ds, Rp A.K Hf b.1 b.2 := fun b hb => zip_rp rs b hb
        have es : ((vs.zip ds).mergeSort (PySem.W.dataLe false encB)).map (·.2) = ds.mergeSort dle := by
          have e0 := List.map_mergeSort (r := PySem.W.dataLe false encB) (s := dle) (f := fun b : V × Dt => b.2) (l := vs.zip ds) fun a _ b _ => rfl
          rw [e0, List.map_snd_zip (by omega)]
        have pr : Paired (WR A.K Hf μ A.xr) ((ds.mergeSort dle).map .t) (((vs.zip ds).mergeSort (PySem.W.dataLe false encB)).map (·.1)) := by
          rw [← es, List.map_map]
          exact pair_of fun b hb => hz b (List.mem_mergeSort.mp hb)
        exact mkL_rs s pr h hp
      · rw [if_neg hs] at h
        exact h.elim
  | int =>
    refine bt_pe call_int1 hg hm (by rfl) (by decide) (by decide) h0 fun w S1 v σ H μ Hf Q _ s r h => ?_
    unfold b1D at h
    dsimp only at h
    split at h
    · cases wr_int r
      exact .inl ⟨_, rfl, h.done s (.int _)⟩
    · cases wr_bl r
      exact .inr ⟨_, rfl, h.done s (.int _)⟩
    · exact h.elim
  | _ => cases hb
/-! ### a list that changes -/
theorem cell_lst {K : PySem.W.Frag} {bs : List Nat} (s : Sm K bs μ S H Hf) {k : Nat} {lk : Bool} {ws : List Wd} {v : V} (hc : S[k]? = some (.lst lk ws)) (r : μ[k]? = some v) : ∃ a vs, v = .ref a ∧ H a = some (.lst vs) ∧ Hf a = none ∧ Paired (WR K Hf μ noXr) ws vs := by
  have cr := s.cell k _ v hc r
  cases cr with
  | lst q1 q2 q3 => exact ⟨_, _, rfl, q1, q2, q3⟩
theorem write_lst {K : PySem.W.Frag} {bs : List Nat} {base : Nat} (s : Sm K bs μ S H Hf) (hb : ∀ b ∈ bs, b ≤ base) {k : Nat} {a : Addr} {ws ws' : List Wd} {vs' : List V} (hc : S[k]? = some (.lst false ws)) (hm : μ[k]? = some (.ref a)) (r : Paired (WR K Hf μ noXr) ws' vs')
    (hh : ∀ w ∈ ws', ∀ j ∈ hsW w, j ∈ ws.flatMap hsW ∨ base ≤ k) : Sm K bs μ (S.set k (.lst false ws')) (upd H a (.lst vs')) Hf ∧ Xt S μ H Hf (S.set k (.lst false ws')) μ (upd H a (.lst vs')) Hf := by
  obtain ⟨a', vs, e, q1, q2, q3⟩ := cell_lst s hc hm
  cases e
  refine s.setC hc rfl rfl hm (.lst upd_same q2 r) fun b hb' hk j hj => ?_
  obtain ⟨w, hw, hj⟩ := List.mem_flatMap.mp (show j ∈ ws'.flatMap hsW from hj)
  rcases hh w hw j hj with z | z
  · exact s.frm b hb' k _ hk hc j z
  · have := hb b hb'
    omega
theorem hs_flat {ws : List Wd} {w : Wd} (h : w ∈ ws) : ∀ j ∈ hsW w, j ∈ ws.flatMap hsW := fun j hj => List.mem_flatMap.mpr ⟨w, h, hj⟩
theorem set_mem {α : Type} {l : List α} {i : Nat} {x y : α} (h : y ∈ l.set i x) : y = x ∨ y ∈ l := by
  rcases List.mem_or_eq_of_mem_set h with h | h
  · exact .inr h
  · exact .inl h
theorem so_aset {o i e : Ex} {q p : Pos} (hK : X.K = A.K) (hbs : ∀ b ∈ A.bs, b ≤ C.base) (ho : ∀ ρ, Ok A X C ρ o) (hi : ∀ ρ, Ok A X C ρ i) (he : ∀ ρ, Ok A X C ρ e) : OkS A X C (.aset o i q e p) := fun ρ S => by
  unfold St.s exec
  have hsw : swapsWith e.e (some (.Subscript o.e i.e q)) p.line X.env = pure false := by cases e <;> rfl
  have hst : swappedStores [.Subscript o.e i.e q] e.e X.env = pure none := by cases e <;> rfl
  have hpg : ∀ (S1 S2 : Store), PG X (.Subscript o.e i.e q) (gSub (tEv A ρ S1 (ev C o ρ S1)) (tEv A ρ S2 (ev C i ρ S2)) rSetL) := fun S1 S2 => pg_sub (ho ρ S1).pe (hi ρ S2).pe set_list (by cases i <;> intro _ <;> rfl)
  have mk : ∀ (S1 S2 : Store), PS X (.Assign [.Subscript o.e i.e q] e.e p) (tAsg (tEv A ρ S (ev C e ρ S)) (gSub (tEv A ρ S1 (ev C o ρ S1)) (tEv A ρ S2 (ev C i ρ S2)) rSetL)) := fun S1 S2 => ps_asg (he ρ S).pe (hpg S1 S2) hsw hst (by rfl)
  cases e1 : ev C e ρ S with
  | no => exact noPS
  | ex q0 S1 => have m := mk S S; rw [e1] at m; exact impPS m fun D σ H ⟨μ, Hf, sm, en, h⟩ => ⟨μ, Hf, sm, en, fun cls d μ1 H1 Hf1 s1 x1 w1 => h cls d σ μ1 H1 Hf1 s1 x1 (en.xt x1) w1⟩
  | ok x S1 =>
    cases e2 : ev C o ρ S1 with
    | no =>
      refine neverPS fun D σ H ⟨μ, Hf, sm, en, h⟩ => ?_
      have h' : RsO A S μ H Hf ((ev C o ρ S1).st ρ fun w S => (ev C i ρ S).st ρ fun j S => (opt S (isInt j)).st ρ fun j S => (asetD C.base w j x S).st ρ fun _ S => .nx ρ S) D := h
      rw [e2] at h'; exact h'
    | ex q0 S2 =>
      have m := mk S1 S1
      rw [e1, e2] at m
      refine impPS m fun D σ H ⟨μ, Hf, sm, en, h⟩ => ⟨μ, Hf, sm, en, fun v μ1 H1 Hf1 s1 x1 w1 => ⟨μ1, Hf1, s1, en.xt x1, ?_⟩⟩
      have h' : RsO A S μ H Hf ((ev C o ρ S1).st ρ fun w S => (ev C i ρ S).st ρ fun j S => (opt S (isInt j)).st ρ fun j S => (asetD C.base w j x S).st ρ fun _ S => .nx ρ S) D := h
      rw [e2] at h'
      exact fun cls d μ2 H2 Hf2 s2 x2 w2 => h' cls d σ μ2 H2 Hf2 s2 (x1.trans x2) ((en.xt x1).xt x2) w2
    | ok w S2 =>
      have m := mk S1 S2
      rw [e1, e2] at m
      refine impPS m fun D σ H ⟨μ, Hf, sm, en, h⟩ => ⟨μ, Hf, sm, en, fun v μ1 H1 Hf1 s1 x1 w1 => ⟨μ1, Hf1, s1, en.xt x1, fun u μ2 H2 Hf2 s2 x2 w2 => ?_⟩⟩
      have h' : RsO A S μ H Hf ((ev C o ρ S1).st ρ fun w S => (ev C i ρ S).st ρ fun j S => (opt S (isInt j)).st ρ fun j S => (asetD C.base w j x S).st ρ fun _ S => .nx ρ S) D := h
      rw [e2] at h'
      have h2 := RsO.step (show RsO A S μ H Hf ((ev C i ρ S2).st ρ fun j S => (opt S (isInt j)).st ρ fun j S => (asetD C.base w j x S).st ρ fun _ S => .nx ρ S) D from h') (x1.trans x2)
      refine st_then s2 ((en.xt x1).xt x2) h2 fun z S3 y μ3 H3 Hf3 s3 en3 w3 x3 h3 _ => ?_
      obtain ⟨j, ej, h4⟩ := opt_st h3
      obtain rfl := int_of ej
      cases wr_int w3
      have rv := (w1.xt x2).xt x3
      have ru := w2.xt x3
      cases w with
      | h k =>
        cases ek : keepIf (decide (C.base ≤ k)) S3 x with
        | no => unfold asetD at h4; dsimp only at h4; rw [ek] at h4; exact h4.elim
        | ex q0 S4 => exact (keepIf_noex ek).elim
        | ok x' S4 =>
          unfold asetD at h4
          dsimp only at h4
          rw [ek] at h4
          obtain ⟨Hf4, s4, x4, r4, hh⟩ := keepIf_ok ek s3 rv
          have h5 : RsO A S3 μ3 H3 Hf3 (Res.st (match S4[k]? with
            | some (.lst false ws) => match ixN ws.length j with
              | some jj => .ok () (S4.set k (.lst false (ws.set jj x')))
              | none => .no
            | _ => .no) ρ fun _ S => .nx ρ S) D := h4
          split at h5
          · rename_i ws ec
            split at h5
            · rename_i jj ej
              have hm : μ3[k]? = some u := ru
              obtain ⟨a, vs, rfl, q1, q2, q3⟩ := cell_lst s4 ec hm
              obtain ⟨s5, x5⟩ := write_lst (ws' := ws.set jj x') (vs' := vs.set jj v) s4 hbs ec hm (paired_set r4 jj q3) fun w hw i' hi' => by
                rcases set_mem hw with rfl | hw
                · obtain ⟨h1, _⟩ := hh i' hi'
                  exact .inr (of_decide_eq_true h1)
                · exact .inl (hs_flat hw i' hi')
              refine ⟨a, vs, j, jj, rfl, rfl, q1, by rw [← q3.length]; exact ej, ?_⟩
              exact h5 σ μ3 _ Hf4 s5 (x4.trans x5) (en3.xt (x4.trans x5))
            · exact h5.elim
          · exact h5.elim
      | _ => exact h4.elim
def okAug : Bop → Bool
  | .add => true
  | .sub => true
  | _ => false
theorem so_aug {i : Nat} {x : Str} {q p : Pos} {o : Bop} {e : Ex} (hop : okAug o = true) (hw : wfT X.N X.env.scope X.fn (.nm i x q) = true) (hN : X.N.Nodup) (he : ∀ ρ, Ok A X C ρ e) : OkS A X C (.aug i x q o e p) := fun ρ S => by
  unfold St.s exec
  unfold wfT at hw
  obtain ⟨h1, h2⟩ := Bool.and_eq_true_iff.mp hw
  obtain ⟨l1, l2⟩ := loc_of h2
  cases e0 : ρ[i]? with
  | none => exact noPS
  | some w =>
    cases w with
    | none => exact noPS
    | some x0 =>
      cases o with
      | add =>
        refine impPS (ps_aug hN (of_decide_eq_true h1) l1 (he ρ S).pe ip_add l2) fun D σ H ⟨μ, Hf, sm, en, h⟩ => ?_
        obtain ⟨v0, ev0, r0⟩ := en.at_ i x0 e0
        refine ⟨v0, ev0, ?_⟩
        refine st_then sm en h fun y S1 v μ1 H1 Hf1 s1 en1 w1 x1 h1 _ => ?_
        have r0' := r0.xt x1
        split at h1
        · cases wr_int r0'; cases wr_int w1
          split at h1
          · exact ⟨_, _, rfl, rfl, RsO.nx h1 s1 .refl (en1.set (.int _))⟩
          · exact h1.elim
        · rename_i z _ _; cases z
        · exact h1.elim
      | sub =>
        refine impPS (ps_aug hN (of_decide_eq_true h1) l1 (he ρ S).pe ip_sub l2) fun D σ H ⟨μ, Hf, sm, en, h⟩ => ?_
        obtain ⟨v0, ev0, r0⟩ := en.at_ i x0 e0
        refine ⟨v0, ev0, ?_⟩
        refine st_then sm en h fun y S1 v μ1 H1 Hf1 s1 en1 w1 x1 h1 _ => ?_
        have r0' := r0.xt x1
        split at h1
        · rename_i z _ _; cases z
        · cases wr_int r0'; cases wr_int w1
          split at h1
          · exact ⟨_, _, rfl, rfl, RsO.nx h1 s1 .refl (en1.set (.int _))⟩
          · exact h1.elim
        · exact h1.elim
      | _ => cases hop
end
end Gw

namespace Gw
open PySem PySem.Spec PyProof.Rows L2
section
variable {A : Pa} {X : Cx} {C : Cxt} {ρ : Env} {S S1 : Store} {σ : L2.St} {μ μ1 : List V} {H Hf H1 Hf1 : Hp} {D : Ends} {Q : VK}
/-- a method with one argument -/
theorem mt1_pe {T id : String} {name : Str} {r : V → List V → Hp → VK → Prop} {a : Ex} {es : List Ex} {ap p : Pos} {g : Res Wd} {rc : Wd → Store → Bool} {f : Wd → List Wd → Store → Res Wd} (pa : PlainAttrs T) (slot : Slot T name id) (hty : typeOf (.builtin id) = pure (.type "method_descriptor")) (hm : MtR X id r) (hs : supB a = false) (hl : (ap.endLine == p.line) = true)
    (he : es.length = 1) (h0 : PE X a.e (tEv A ρ S g)) (hx : ∀ x ∈ es, Ok A X C ρ x) (ht : ∀ w S1, g = .ok w S1 → rc w S1 = true → ∀ v H μ Hf, Sm A.K A.bs μ S1 H Hf → WR A.K Hf μ A.xr w v → tyV X.K T v H)
    (hr : ∀ w S1, g = .ok w S1 → rc w S1 = true → ∀ y S2 v u σ H μ Hf Q, Sm A.K A.bs μ S2 H Hf → WR A.K Hf μ A.xr w v → WR A.K Hf μ A.xr y u → Rs A (RW A) σ S2 μ H Hf (f w [y] S2) Q → r v [u] H Q) :
    PE X (.Call (.Attribute a.e name ap) (Exs.e es) [] p) (tEv A ρ S (g.bd fun w S1 => if rc w S1 = true then (evs C es ρ S1).bd fun ws S2 => f w ws S2 else .no)) := by
  match es, he with
  | [x], _ =>
    have e1 : Exs.e [x] = [x.e] := by unfold Exs.e Exs.e; rfl
    have mk : ∀ S1, PE X (.Call (.Attribute a.e name ap) [x.e] [] p) (tBM X.K T r (tEv A ρ S g) (tAs A ρ S1 (evs C [x] ρ S1))) := fun S1 => by
      have ha := pa_evs [x] hx S1
      rw [e1] at ha
      exact pe_bm pa slot hty hm h0 ha (base_ex hs _ _) (by rw [star1]; rfl) hl (star_ex _ _ _) (by rfl)
    rw [e1]
    cases g with
    | no => exact neverPE fun σ H Q ⟨_, _, _, _, h⟩ => h
    | ex q S1 => exact impPE (mk S) fun σ H Q ⟨μ, Hf, sm, en, h⟩ => ⟨μ, Hf, sm, en, h⟩
    | ok w S1 =>
      refine impPE (mk S1) fun σ H Q ⟨μ, Hf, sm, en, h⟩ => ⟨μ, Hf, sm, en, fun v μ1 H1 Hf1 s1 x1 w1 => ?_⟩
      have h' : Rs A (RW A) σ S μ H Hf (if rc w S1 = true then (evs C [x] ρ S1).bd fun ws S2 => f w ws S2 else .no) Q := h
      by_cases hrc : rc w S1 = true
      · rw [if_pos hrc] at h'
        refine ⟨ht w S1 rfl hrc v H1 μ1 Hf1 s1 w1, ?_⟩
        refine as_then s1 (en.xt x1) (Rs.step h' x1) fun ws S2 vs μ2 H2 Hf2 e2 s2 en2 w2 x2 h2 => ?_
        have hl := evs_len _ _ _ _ e2
        match ws, hl, vs, w2 with
        | [y], _, [u], .cons r1 .nil => exact hr w S1 rfl hrc y S2 v u σ H2 μ2 Hf2 Q s2 (w1.xt x2) r1 h2
      · rw [if_neg hrc] at h'
        exact h'.elim
/-- .. without -/
theorem mt0_pe {T id : String} {name : Str} {r : V → List V → Hp → VK → Prop} {a : Ex} {es : List Ex} {ap p : Pos} {g : Res Wd} {rc : Wd → Store → Bool} {f : Wd → List Wd → Store → Res Wd} (pa : PlainAttrs T) (slot : Slot T name id) (hty : typeOf (.builtin id) = pure (.type "method_descriptor")) (hm : MtR X id r) (hs : supB a = false) (hl : (ap.endLine == p.line) = true)
    (he : es.length = 0) (h0 : PE X a.e (tEv A ρ S g)) (ht : ∀ w S1, g = .ok w S1 → rc w S1 = true → ∀ v H μ Hf, Sm A.K A.bs μ S1 H Hf → WR A.K Hf μ A.xr w v → tyV X.K T v H)
    (hr : ∀ w S1, g = .ok w S1 → rc w S1 = true → ∀ v σ H μ Hf Q, Sm A.K A.bs μ S1 H Hf → WR A.K Hf μ A.xr w v → Rs A (RW A) σ S1 μ H Hf (f w [] S1) Q → r v [] H Q) :
    PE X (.Call (.Attribute a.e name ap) (Exs.e es) [] p) (tEv A ρ S (g.bd fun w S1 => if rc w S1 = true then (evs C es ρ S1).bd fun ws S2 => f w ws S2 else .no)) := by
  match es, he with
  | [], _ =>
    have e1 : Exs.e [] = [] := by unfold Exs.e; rfl
    have e2 : ∀ S1, evs C [] ρ S1 = .ok [] S1 := fun S1 => by unfold evs; rfl
    rw [e1]
    have mk := pe_bm0 pa slot hty hm h0 (base_ex hs name X.env) hl
    cases g with
    | no => exact neverPE fun σ H Q ⟨_, _, _, _, h⟩ => h
    | ex q S1 => exact impPE mk fun σ H Q ⟨μ, Hf, sm, en, h⟩ => ⟨μ, Hf, sm, en, h⟩
    | ok w S1 =>
      refine impPE mk fun σ H Q ⟨μ, Hf, sm, en, h⟩ => ⟨μ, Hf, sm, en, fun v μ1 H1 Hf1 s1 x1 w1 => ?_⟩
      have h' : Rs A (RW A) σ S μ H Hf (if rc w S1 = true then (evs C [] ρ S1).bd fun ws S2 => f w ws S2 else .no) Q := h
      rw [e2] at h'
      by_cases hrc : rc w S1 = true
      · rw [if_pos hrc] at h'
        exact ⟨ht w S1 rfl hrc v H1 μ1 Hf1 s1 w1, hr w S1 rfl hrc v σ H1 μ1 Hf1 Q s1 w1 (Rs.step (show Rs A (RW A) σ S μ H Hf (f w [] S1) Q from h') x1)⟩
      · rw [if_neg hrc] at h'
        exact h'.elim
def okM (o : Mt) (n : Nat) : Bool := match o with
  | .append => n == 1 | .extend => n == 1 | .index => n == 1 | .pop => n == 0 | .reverse => n == 0 | .clear => n == 0
  | _ => false
theorem rcv_lst {w : Wd} (h : isLstC S w = true) : ∃ k lk ws, w = .h k ∧ S[k]? = some (.lst lk ws) := by
  cases w with
  | h k =>
    unfold isLstC at h
    dsimp only at h
    split at h
    · rename_i lk ws e; exact ⟨k, lk, ws, rfl, e⟩
    · cases h
  | _ => cases h
theorem ty_lst {k : Nat} (hK : X.K = A.K) (h : ∃ lk ws, S1[k]? = some (.lst lk ws)) : ∀ v H μ Hf, Sm A.K A.bs μ S1 H Hf → WR A.K Hf μ A.xr (.h k) v → tyV X.K "list" v H := fun v H μ Hf s r => by
  obtain ⟨lk, ws, e⟩ := h
  obtain ⟨a, vs, rfl, q, _⟩ := cell_lst s e r
  exact .inl ⟨rfl, vs, .inl (.inl q)⟩
theorem isT_hs {ws : List Wd} (h : ws.all isT = true) : ∀ w ∈ ws, hsW w = [] := fun w hw => by
  have := List.all_eq_true.mp h w hw
  cases w with
  | t d => rfl
  | _ => cases this
theorem find_str {xs : List Str} {x : Str} {j : Nat} (h : xs.findIdx? (fun y => decide (y = x)) = some j) : xs[j]? = some x ∧ ∀ m, m < j → xs[m]? ≠ some x := by
  rw [List.findIdx?_eq_some_iff_getElem] at h
  obtain ⟨hj, h1, h2⟩ := h
  refine ⟨?_, fun m hm e => ?_⟩
  · rw [List.getElem?_eq_getElem hj]; exact congrArg some (of_decide_eq_true h1)
  · have hm' : m < xs.length := Nat.lt_trans hm hj
    rw [List.getElem?_eq_getElem hm'] at e
    injection e with e
    have := h2 m hm
    simp [e] at this
theorem sd_mth {o : Mt} {m : Bool} {a : Ex} {es : List Ex} {ap p : Pos} (ho : okM o es.length = true) (hs : supB a = false) (hl : (ap.endLine == p.line) = true) (hK : X.K = A.K) (hbs : ∀ b ∈ A.bs, b ≤ C.base) (ha : Ok A X C ρ a) (hx : ∀ x ∈ es, Ok A X C ρ x) : Ok A X C ρ (.mth o m a ap es p) := fun S => by
  unfold Ex.e ev
  cases hcal : C.calm with
  | false => exact noPB
  | true =>
  rw [if_neg (by decide)]
  have h0 := (ha S).pe
  refine .of ?_
  have tl : ∀ w S1, ev C a ρ S = .ok w S1 → isLstC S1 w = true → ∀ v H μ Hf, Sm A.K A.bs μ S1 H Hf → WR A.K Hf μ A.xr w v → tyV X.K "list" v H := fun w S1 _ hrc v H μ Hf s r => by
    obtain ⟨k, lk, ws, rfl, e⟩ := rcv_lst hrc
    exact ty_lst hK ⟨lk, ws, e⟩ v H μ Hf s r
  cases o with
  | append =>
    refine mt1_pe PySem.F.plainAttrs_list PySem.F.slot_list_append PySem.F.type_list_append mt_append hs hl (eq_of_beq ho) h0 hx (rc := fun w S => rcvOk .append S w) tl fun w S1 _ hrc y S2 v u σ H μ Hf Q s r ru h => ?_
    obtain ⟨k, lk, ws, rfl, _⟩ := rcv_lst hrc
    unfold mthD at h
    dsimp only at h
    cases ek : keepIf (decide (C.base ≤ k)) S2 y with
    | no => rw [ek] at h; exact h.elim
    | ex q0 S4 => exact (keepIf_noex ek).elim
    | ok y' S4 =>
      rw [ek] at h
      obtain ⟨Hf4, s4, x4, r4, hh⟩ := keepIf_ok ek s ru
      have h5 : Rs A (RW A) σ S2 μ H Hf (match S4[k]? with
        | some (.lst false ws) => if ws.length < lineN then .ok (.t .non) (S4.set k (.lst false (ws ++ [y']))) else .no
        | _ => .no) Q := h
      split at h5
      · rename_i ws ec
        split at h5
        · rename_i hlen
          obtain ⟨a, vs, rfl, q1, q2, q3⟩ := cell_lst s4 ec r
          obtain ⟨s5, x5⟩ := write_lst (ws' := ws ++ [y']) (vs' := vs ++ [u]) s4 hbs ec r (paired_app q3 (.cons r4 .nil)) fun w hw i' hi' => by
            rcases List.mem_append.mp hw with hw | hw
            · exact .inl (hs_flat hw i' hi')
            · rw [List.mem_singleton.mp hw] at hi'
              exact .inr (of_decide_eq_true (hh i' hi').1)
          refine ⟨a, vs, u, rfl, rfl, q1, by rw [← q3.length, ← lineN_eq]; exact hlen, ?_⟩
          exact h5.to s5 (x4.trans x5) .non
        · exact h5.elim
      · exact h5.elim
  | extend =>
    refine mt1_pe PySem.F.plainAttrs_list PySem.F.slot_list_extend PySem.F.type_list_extend mt_extend hs hl (eq_of_beq ho) h0 hx (rc := fun w S => rcvOk .extend S w) tl fun w S1 _ hrc y S2 v u σ H μ Hf Q s r ru h => ?_
    obtain ⟨k, lk, ws, rfl, _⟩ := rcv_lst hrc
    unfold mthD at h
    dsimp only at h
    cases y with
    | h k2 =>
      dsimp only at h
      split at h
      · rename_i lk2 zs ws2 e2 e1
        split at h
        · rename_i hlen
          obtain ⟨a, vs, rfl, q1, q2, q3⟩ := cell_lst s e1 r
          obtain ⟨b, us, rfl, p1, p2, p3⟩ := cell_lst s e2 ru
          obtain ⟨s5, x5⟩ := write_lst (ws' := ws2 ++ zs) (vs' := vs ++ us) s hbs e1 r (paired_app q3 p3) fun w hw i' hi' => by
            rcases List.mem_append.mp hw with hw | hw
            · exact .inl (hs_flat hw i' hi')
            · rw [isT_hs hlen.2 w hw] at hi'; cases hi'
          refine ⟨a, b, vs, us, rfl, rfl, q1, p1, by rw [← q3.length, ← p3.length, ← lineN_eq]; exact hlen.1, ?_⟩
          exact h.to s5 x5 .non
        · exact h.elim
      · exact h.elim
    | _ => exact h.elim
  | pop =>
    refine mt0_pe PySem.F.plainAttrs_list PySem.F.slot_list_pop PySem.F.type_list_pop mt_pop hs hl (eq_of_beq ho) h0 (rc := fun w S => rcvOk .pop S w) tl fun w S1 _ hrc v σ H μ Hf Q s r h => ?_
    obtain ⟨k, lk, ws, rfl, _⟩ := rcv_lst hrc
    unfold mthD at h
    dsimp only at h
    split at h
    · rename_i ws2 e1
      split at h
      · rename_i y ey
        obtain ⟨a, vs, rfl, q1, q2, q3⟩ := cell_lst s e1 r
        obtain ⟨z, ez, rz⟩ := paired_get q3 ey
        obtain ⟨s5, x5⟩ := write_lst (ws' := ws2.dropLast) (vs' := vs.dropLast) s hbs e1 r (paired_dropLast q3) fun w hw i' hi' => .inl (hs_flat (List.dropLast_subset _ hw) i' hi')
        refine ⟨a, vs, z, rfl, rfl, q1, by rw [← q3.length]; exact ez, ?_⟩
        exact h.to s5 x5 ((noXr_any rz).xt x5)
      · exact h.elim
    · exact h.elim
  | reverse =>
    refine mt0_pe PySem.F.plainAttrs_list PySem.F.slot_list_reverse PySem.F.type_list_reverse mt_reverse hs hl (eq_of_beq ho) h0 (rc := fun w S => rcvOk .reverse S w) tl fun w S1 _ hrc v σ H μ Hf Q s r h => ?_
    obtain ⟨k, lk, ws, rfl, _⟩ := rcv_lst hrc
    unfold mthD at h
    dsimp only at h
    split at h
    · rename_i ws2 e1
      obtain ⟨a, vs, rfl, q1, q2, q3⟩ := cell_lst s e1 r
      obtain ⟨s5, x5⟩ := write_lst (ws' := ws2.reverse) (vs' := vs.reverse) s hbs e1 r (paired_rev q3) fun w hw i' hi' => .inl (hs_flat (List.mem_reverse.mp hw) i' hi')
      exact ⟨a, vs, rfl, rfl, q1, h.to s5 x5 .non⟩
    · exact h.elim
  | clear =>
    refine mt0_pe PySem.F.plainAttrs_list PySem.F.slot_list_clear PySem.F.type_list_clear mt_clear hs hl (eq_of_beq ho) h0 (rc := fun w S => rcvOk .clear S w) tl fun w S1 _ hrc v σ H μ Hf Q s r h => ?_
    obtain ⟨k, lk, ws, rfl, _⟩ := rcv_lst hrc
    unfold mthD at h
    dsimp only at h
    split at h
    · rename_i ws2 e1
      obtain ⟨a, vs, rfl, q1, q2, q3⟩ := cell_lst s e1 r
      obtain ⟨s5, x5⟩ := write_lst (ws' := []) (vs' := []) s hbs e1 r .nil fun w hw => by cases hw
      exact ⟨a, vs, rfl, rfl, q1, h.to s5 x5 .non⟩
    · exact h.elim
  | index =>
    by_cases hc : ∃ ds S1, ev C a ρ S = .ok (.c ds) S1
    · obtain ⟨ds, S1, e1⟩ := hc
      refine mt1_pe PySem.F.plainAttrs_tuple PySem.F.slot_tuple_index PySem.F.type_tuple_index mt_tup_index hs hl (eq_of_beq ho) h0 hx (rc := fun w S => rcvOk .index S w) (fun w S2 e2 _ v H μ Hf s r => ?_) fun w S2 e2 hrc y S2 v u σ H μ Hf Q s r ru h => ?_
      · rw [e1] at e2; cases e2
        obtain ⟨a, vs, rfl, q, _⟩ := r
        rw [hK]
        exact .inr (.inl ⟨rfl, q⟩)
      · rw [e1] at e2; cases e2
        obtain ⟨a, vs, rfl, q, q2, q3⟩ := r
        cases y with
        | t d =>
          cases d with
          | str x =>
            unfold mthD at h
            dsimp only at h
            cases e3 : strsD ds with
            | none => rw [e3] at h; exact h.elim
            | some xs =>
              simp only [e3] at h
              split at h
              · rename_i j ej
                obtain ⟨f1, f2⟩ := find_str ej
                cases wr_str ru
                obtain rfl := q3.strs e3
                refine ⟨a, xs, x, j, rfl, rfl, ?_, f1, f2, h.done s (.int _)⟩
                rw [hK]
                rcases q2 with q2 | q2
                · exact .inl (s.sub.rd _ _ q2)
                · exact .inr q2
              · exact h.elim
          | _ => exact h.elim
        | _ => exact h.elim
    · refine mt1_pe PySem.F.plainAttrs_list PySem.F.slot_list_index PySem.F.type_list_index mt_index hs hl (eq_of_beq ho) h0 hx (rc := fun w S => rcvOk .index S w) (fun w S2 e2 hrc v H μ Hf s r => ?_) fun w S2 e2 hrc y S2 v u σ H μ Hf Q s r ru h => ?_
      · unfold rcvOk at hrc
        dsimp only at hrc
        split at hrc
        · exact (hc ⟨_, _, e2⟩).elim
        · split at hrc
          · rename_i ws e
            obtain ⟨a, vs, rfl, q, rs⟩ := s.seq r e
            rw [hK]
            exact .inl ⟨rfl, vs, q⟩
          · cases hrc
      · cases y with
        | t d =>
          cases d with
          | str x =>
            unfold mthD at h
            dsimp only at h
            split at h
            · exact (hc ⟨_, _, e2⟩).elim
            · rename_i ws _ e
              obtain ⟨a, vs, rfl, q, rs⟩ := s.seq r e
              cases e4 : mapO (rdF S2) ws with
              | none => simp only [e4, Option.bind] at h; exact h.elim
              | some ds =>
                cases e3 : strsD ds with
                | none => simp only [e4, Option.bind, e3] at h; exact h.elim
                | some xs =>
                  simp only [e4, Option.bind, e3] at h
                  split at h
                  · rename_i j ej
                    obtain ⟨f1, f2⟩ := find_str ej
                    cases wr_str ru
                    obtain rfl := (s.rdFs rs e4).strs e3
                    refine ⟨a, xs.map V.str, .str x, j, .str x, rfl, rfl, by rw [hK]; exact q, rfl, by simp [flatV], by simp [f1], by simp [eqV], fun m z' hm hz => ?_, h.done s (.int _)⟩
                    rw [List.getElem?_map] at hz
                    cases e5 : xs[m]? with
                    | none => rw [e5] at hz; cases hz
                    | some y =>
                      rw [e5] at hz
                      cases hz
                      have := f2 m hm
                      show (y == x) = false
                      cases hyx : (y == x) with
                      | false => rfl
                      | true => exact (this (by rw [e5, eq_of_beq hyx])).elim
                  · exact h.elim
            · exact h.elim
          | _ => exact h.elim
        | _ => exact h.elim
  | _ => cases ho
end
end Gw

namespace Gw
open PySem PySem.Spec PyProof.Rows L2
def visB (sc : Scope) (x : Str) : Bool := match sc.names.lookup x with
  | some .local => true
  | some .cell => true
  | some .free => true
  | _ => false
def glB (sc : Scope) (x : Str) : Bool := (match sc.names.lookup x with
  | some .globalImplicit => true
  | _ => false) && !(x == ("__debug__" : Str))
theorem vis_of {sc : Scope} {x : Str} (h : visB sc x = true) : Vis sc x := by
  unfold visB at h
  split at h
  · rename_i e; exact .inl e
  · rename_i e; exact .inr (.inl e)
  · rename_i e; exact .inr (.inr e)
  · cases h
theorem gl_of {X : Cx} {x : Str} (h : glB X.env.scope x = true) : Gl X x ∧ (x == ("__debug__" : Str)) = false := by
  unfold glB at h
  obtain ⟨h1, h2⟩ := Bool.and_eq_true_iff.mp h
  refine ⟨?_, by simpa using h2⟩
  split at h1
  · rename_i e; exact e
  · cases h1
mutual
def wfE (N : List Str) (sc : Scope) (fn : Str → Bool) : Ex → Bool
  | .var i x _ => decide (N[i]? = some x) && (visB sc x && (!(x == ("__debug__" : Str)) && !(x == ("__classdict__" : Str))))
  | .glb x _ => glB sc x
  | .lit _ _ _ => true
  | .bin _ _ a b _ => wfE N sc fn a && wfE N sc fn b
  | .eq _ a b _ => wfE N sc fn a && wfE N sc fn b
  | .cmp _ a b _ => wfE N sc fn a && wfE N sc fn b
  | .chain _ _ a b c _ => wfE N sc fn a && (wfE N sc fn b && wfE N sc fn c)
  | .isN _ a _ _ _ => wfE N sc fn a
  | .isB _ a b _ => wfE N sc fn a && wfE N sc fn b
  | .inS _ a b _ => wfE N sc fn a && wfE N sc fn b
  | .inD _ a b _ => wfE N sc fn a && wfE N sc fn b
  | .inT _ a b _ => wfE N sc fn a && wfE N sc fn b
  | .bop _ as _ => !as.isEmpty && wfEs N sc fn as
  | .not a _ => wfE N sc fn a
  | .neg a _ => wfE N sc fn a
  | .ife c a b _ => wfE N sc fn c && (wfE N sc fn a && wfE N sc fn b)
  | .tup es _ _ => wfEs N sc fn es
  | .lst _ es _ => wfEs N sc fn es
  | .dic0 _ _ _ => true
  | .dic _ _ _ _ _ => false
  | .idx a i _ => wfE N sc fn a && wfE N sc fn i
  | .dget a i _ => wfE N sc fn a && wfE N sc fn i
  | .slc _ a lo hi _ _ => wfE N sc fn a && (wfO N sc fn lo && wfO N sc fn hi)
  | .rev _ a _ _ _ _ _ => wfE N sc fn a
  | .call f _ _ es _ => glB sc f && wfEs N sc fn es
  | .b1 b _ _ e _ => glB sc b.nm && (okB1 b && wfE N sc fn e)
  | .sset _ _ _ _ _ _ => false
  | .lset _ _ _ _ _ => false
  | .sum2 _ _ _ _ _ => false
  | .mm2 _ _ _ _ _ => false
  | .mmd _ _ _ _ _ _ => false
  | .mth o _ a ap es p => okM o es.length && (!supB a && ((ap.endLine == p.line) && (wfE N sc fn a && wfEs N sc fn es)))
  | .isi _ a ty _ _ => glB sc "isinstance" && (glB sc ty.nm && wfE N sc fn a)
  | .att _ _ _ => false
  | .isx _ _ _ _ _ => false
  | .lc _ elt t it cond csc own _ => blkC N sc csc own && (wfT N (relS csc sc) (fun x => csc.names.lookup x == some .cell) t && ((ixT t).all (fun i => decide (i ∈ own.map (·.2))) && (wfI N sc fn it && (wfO N (relS csc sc) (fun x => csc.names.lookup x == some .cell) cond && wfE N (relS csc sc) (fun x => csc.names.lookup x == some .cell) elt))))
def wfEs (N : List Str) (sc : Scope) (fn : Str → Bool) : List Ex → Bool
  | [] => true
  | a :: r => wfE N sc fn a && wfEs N sc fn r
def wfO (N : List Str) (sc : Scope) (fn : Str → Bool) : Option Ex → Bool
  | none => true
  | some a => wfE N sc fn a
def wfI (N : List Str) (sc : Scope) (fn : Str → Bool) : It → Bool
  | .seq a => wfE N sc fn a
  | .rng1 _ a _ => glB sc "range" && wfE N sc fn a
  | .rng2 _ a b _ => glB sc "range" && (wfE N sc fn a && wfE N sc fn b)
  | _ => false
end
section
variable {P : Prg} {n : Nat} {A : Pa} {X : Cx} {C : Cxt}
theorem Gd.blk (G : Gd P n A X C) (hc : C.calm = true) {csc : Scope} (hk : csc.kind = .function) (s : Shared) (H : Hp) (Cc : Addr) (cl : List (Str × Addr)) (fp : List Addr) : Gd P n A.still (X.blk s H csc (compEnvC csc cl Cc X.env) fp) C :=
  ⟨G.K, G.un, G.nd, hk, G.bs, fun _ => ⟨(G.on hc).calm, (G.on hc).xr, (G.on hc).call, (G.on hc).room, takes0, PassesOwn.never⟩, G.off, G.fns, G.glb, G.blt⟩
theorem bm (h : x ∈ bltNames) (G : Gd P n A X C) : X.mg x = none := G.blt x h
theorem blt_nm (b : B1) : b.nm ∈ bltNames := by cases b <;> decide
theorem ty_nm (b : Ty) : b.nm ∈ bltNames := by cases b <;> decide
theorem Gd.u1 (G : Gd P n A X C) : X.A.units + 1 < cLine := by have := G.un; omega
theorem Gd.u65 (G : Gd P n A X C) : X.A.units + 65 < cLine := by have := G.un; omega
theorem Gd.u64 (G : Gd P n A X C) : X.A.units + 64 < cLine := by have := G.un; omega
mutual
theorem ev_ok : ∀ (x : Ex) {A : Pa} {X : Cx} (ρ : Env), wfE X.N X.env.scope X.fn x = true → Gd P n A X C → Ok A X C ρ x
  | .var i x p, A, X, ρ, h, G => fun S => by
    unfold wfE at h
    obtain ⟨h1, h2⟩ := Bool.and_eq_true_iff.mp h
    obtain ⟨h2, h3⟩ := Bool.and_eq_true_iff.mp h2
    obtain ⟨h3, h4⟩ := Bool.and_eq_true_iff.mp h3
    unfold Ex.e ev
    exact .of (sd_var (of_decide_eq_true h1) (vis_of h2) (by simpa using h3) (by simpa using h4))
  | .glb x p, A, X, ρ, h, G => by unfold wfE at h; exact sd_glb G (gl_of h).1 (gl_of h).2
  | .lit c j p, A, X, ρ, h, G => fun S => by unfold Ex.e ev; exact .of sd_lit
  | .bin o m a b p, A, X, ρ, h, G => by
    unfold wfE at h
    obtain ⟨h1, h2⟩ := Bool.and_eq_true_iff.mp h
    exact fun S => sd_bin G.K (ev_ok a ρ h1 G) (ev_ok b ρ h2 G)
  | .eq ng a b p, A, X, ρ, h, G => by
    unfold wfE at h
    obtain ⟨h1, h2⟩ := Bool.and_eq_true_iff.mp h
    exact fun S => sd_eq G.u64 G.K (ev_ok a ρ h1 G) (ev_ok b ρ h2 G)
  | .cmp o a b p, A, X, ρ, h, G => by
    unfold wfE at h
    obtain ⟨h1, h2⟩ := Bool.and_eq_true_iff.mp h
    exact fun S => sd_cmp (ev_ok a ρ h1 G) (ev_ok b ρ h2 G)
  | .chain o o2 a b c p, A, X, ρ, h, G => by
    unfold wfE at h
    obtain ⟨h1, h2⟩ := Bool.and_eq_true_iff.mp h
    obtain ⟨h2, h3⟩ := Bool.and_eq_true_iff.mp h2
    exact sd_chain (ev_ok a ρ h1 G) (ev_ok b ρ h2 G) (ev_ok c ρ h3 G)
  | .isN ng a j q p, A, X, ρ, h, G => by
    unfold wfE at h
    exact sd_isN (ev_ok a ρ h G)
  | .isB ng a b p, A, X, ρ, h, G => by
    unfold wfE at h
    obtain ⟨h1, h2⟩ := Bool.and_eq_true_iff.mp h
    exact sd_isB (ev_ok a ρ h1 G) (ev_ok b ρ h2 G)
  | .inS ng a b p, A, X, ρ, h, G => by
    unfold wfE at h
    obtain ⟨h1, h2⟩ := Bool.and_eq_true_iff.mp h
    exact fun S => sd_inS G.u65 G.K (ev_ok a ρ h1 G) (ev_ok b ρ h2 G)
  | .inD ng a b p, A, X, ρ, h, G => by
    unfold wfE at h
    obtain ⟨h1, h2⟩ := Bool.and_eq_true_iff.mp h
    exact sd_inD G.u1 (ev_ok a ρ h1 G) (ev_ok b ρ h2 G)
  | .inT ng a b p, A, X, ρ, h, G => by
    unfold wfE at h
    obtain ⟨h1, h2⟩ := Bool.and_eq_true_iff.mp h
    exact sd_inT (ev_ok a ρ h1 G) (ev_ok b ρ h2 G)
  | .bop and as p, A, X, ρ, h, G => by
    unfold wfE at h
    obtain ⟨h1, h2⟩ := Bool.and_eq_true_iff.mp h
    exact sd_bop (fun z => by rw [z] at h1; cases h1) (evs_ok as ρ h2 G)
  | .not a p, A, X, ρ, h, G => by
    unfold wfE at h
    exact sd_not (ev_ok a ρ h G)
  | .neg a p, A, X, ρ, h, G => by
    unfold wfE at h
    exact sd_neg (ev_ok a ρ h G)
  | .ife a b c p, A, X, ρ, h, G => by
    unfold wfE at h
    obtain ⟨h1, h2⟩ := Bool.and_eq_true_iff.mp h
    obtain ⟨h2, h3⟩ := Bool.and_eq_true_iff.mp h2
    exact sd_ife (ev_ok a ρ h1 G) (ev_ok b ρ h2 G) (ev_ok c ρ h3 G)
  | .tup es k p, A, X, ρ, h, G => by
    unfold wfE at h
    exact sd_tup (evs_ok es ρ h G)
  | .lst m es p, A, X, ρ, h, G => by
    unfold wfE at h
    exact sd_lst (evs_ok es ρ h G)
  | .dic0 m tk p, A, X, ρ, h, G => sd_dic0
  | .dic _ _ _ _ _, A, X, ρ, h, G => by unfold wfE at h; cases h
  | .idx a b p, A, X, ρ, h, G => by
    unfold wfE at h
    obtain ⟨h1, h2⟩ := Bool.and_eq_true_iff.mp h
    exact sd_idx G.K (ev_ok a ρ h1 G) (ev_ok b ρ h2 G)
  | .dget a b p, A, X, ρ, h, G => by
    unfold wfE at h
    obtain ⟨h1, h2⟩ := Bool.and_eq_true_iff.mp h
    exact sd_dget G.u1 (ev_ok a ρ h1 G) (ev_ok b ρ h2 G)
  | .slc m a lo hi q p, A, X, ρ, h, G => by
    unfold wfE at h
    obtain ⟨h1, h2⟩ := Bool.and_eq_true_iff.mp h
    obtain ⟨h2, h3⟩ := Bool.and_eq_true_iff.mp h2
    exact sd_slc G.K (ev_ok a ρ h1 G) (evO_ok lo ρ h2 G) (evO_ok hi ρ h3 G)
  | .rev m a j q1 q2 q3 p, A, X, ρ, h, G => by
    unfold wfE at h
    exact sd_rev G.K (ev_ok a ρ h G)
  | .call f m q es p, A, X, ρ, h, G => by
    unfold wfE at h
    obtain ⟨h1, h2⟩ := Bool.and_eq_true_iff.mp h
    exact sd_call G (gl_of h1).1 (gl_of h1).2 (evs_ok es ρ h2 G)
  | .b1 b m q e p, A, X, ρ, h, G => by
    unfold wfE at h
    obtain ⟨h1, h2⟩ := Bool.and_eq_true_iff.mp h
    obtain ⟨h2, h3⟩ := Bool.and_eq_true_iff.mp h2
    exact sd_b1 (by have := G.un; omega) h2 (gl_of h1).1 (G.blt _ (blt_nm b)) (fun z => (G.on z).calm) G.K (ev_ok e ρ h3 G)
  | .sset _ _ _ _ _ _, A, X, ρ, h, G => by unfold wfE at h; cases h
  | .lset _ _ _ _ _, A, X, ρ, h, G => by unfold wfE at h; cases h
  | .sum2 _ _ _ _ _, A, X, ρ, h, G => by unfold wfE at h; cases h
  | .mm2 _ _ _ _ _, A, X, ρ, h, G => by unfold wfE at h; cases h
  | .mmd _ _ _ _ _ _, A, X, ρ, h, G => by unfold wfE at h; cases h
  | .mth o m a ap es p, A, X, ρ, h, G => by
    unfold wfE at h
    obtain ⟨h1, h2⟩ := Bool.and_eq_true_iff.mp h
    obtain ⟨h2, h3⟩ := Bool.and_eq_true_iff.mp h2
    obtain ⟨h3, h4⟩ := Bool.and_eq_true_iff.mp h3
    obtain ⟨h4, h5⟩ := Bool.and_eq_true_iff.mp h4
    exact sd_mth h1 (by simpa using h2) h3 G.K G.bs (ev_ok a ρ h4 G) (evs_ok es ρ h5 G)
  | .isi q a ty tq p, A, X, ρ, h, G => by
    unfold wfE at h
    obtain ⟨h1, h2⟩ := Bool.and_eq_true_iff.mp h
    obtain ⟨h2, h3⟩ := Bool.and_eq_true_iff.mp h2
    exact sd_isi (gl_of h1).1 (G.blt _ (by decide)) (gl_of h2).1 (G.blt _ (ty_nm ty)) (ev_ok a ρ h3 G) G.K
  | .att _ _ _, A, X, ρ, h, G => by unfold wfE at h; cases h
  | .isx _ _ _ _ _, A, X, ρ, h, G => by unfold wfE at h; cases h
  | .lc m elt t it cond csc own p, A, X, ρ, h, G => sd_lc fun hc => by
    unfold wfE at h
    obtain ⟨h1, h2⟩ := Bool.and_eq_true_iff.mp h
    obtain ⟨h2, h3⟩ := Bool.and_eq_true_iff.mp h2
    obtain ⟨h3, h4⟩ := Bool.and_eq_true_iff.mp h3
    obtain ⟨h4, h5⟩ := Bool.and_eq_true_iff.mp h4
    obtain ⟨h5, h6⟩ := Bool.and_eq_true_iff.mp h5
    have bo := blkOk_by h1
    have M := G.on hc
    exact ⟨G.K, G.nd, M.calm, fun ρ => evI_ok it ρ h4 G, bo, fun i hi => of_decide_eq_true (List.all_eq_true.mp h3 i hi),
      fun s H Cc cl fp => pg_T (X := X.blk s H csc (compEnvC csc cl Cc X.env) fp) M.calm G.nd t h2,
      fun s H Cc cl fp y e ρ => evO_ok cond ρ (X := X.blk s H csc (compEnvC csc cl Cc X.env) fp) h5 (G.blk hc bo.kind s H Cc cl fp) y e,
      fun s H Cc cl fp ρ => ev_ok elt ρ (X := X.blk s H csc (compEnvC csc cl Cc X.env) fp) h6 (G.blk hc bo.kind s H Cc cl fp)⟩
theorem evs_ok : ∀ (xs : List Ex) {A : Pa} {X : Cx} (ρ : Env), wfEs X.N X.env.scope X.fn xs = true → Gd P n A X C → ∀ x ∈ xs, Ok A X C ρ x
  | [], A, X, ρ, h, G, x, hx => by cases hx
  | a :: r, A, X, ρ, h, G, x, hx => by
    unfold wfEs at h
    obtain ⟨h1, h2⟩ := Bool.and_eq_true_iff.mp h
    have ha := ev_ok a ρ h1 G
    have hr := evs_ok r ρ h2 G
    rcases List.mem_cons.mp hx with e | hx
    · rw [e]; exact ha
    · exact hr x hx
theorem evO_ok : ∀ (o : Option Ex) {A : Pa} {X : Cx} (ρ : Env), wfO X.N X.env.scope X.fn o = true → Gd P n A X C → ∀ y, o = some y → Ok A X C ρ y
  | none, A, X, ρ, h, G, y, e => by cases e
  | some a, A, X, ρ, h, G, y, e => by
    unfold wfO at h
    have ha := ev_ok a ρ h G
    injection e with e
    rw [← e]; exact ha
theorem evI_ok : ∀ (i : It) {A : Pa} {X : Cx} {tg : Expr} (ρ : Env), wfI X.N X.env.scope X.fn i = true → Gd P n A X C → OkI A X C ρ tg i
  | .seq a, A, X, tg, ρ, h, G => by unfold wfI at h; exact si_seq G.K (ev_ok a ρ h G)
  | .rng1 q a p, A, X, tg, ρ, h, G => by
    unfold wfI at h
    obtain ⟨h1, h2⟩ := Bool.and_eq_true_iff.mp h
    exact si_rng1 (gl_of h1).1 (G.blt _ (by decide)) (ev_ok a ρ h2 G)
  | .rng2 q a b p, A, X, tg, ρ, h, G => by
    unfold wfI at h
    obtain ⟨h1, h2⟩ := Bool.and_eq_true_iff.mp h
    obtain ⟨h2, h3⟩ := Bool.and_eq_true_iff.mp h2
    exact si_rng2 (gl_of h1).1 (G.blt _ (by decide)) (ev_ok a ρ h2 G) (ev_ok b ρ h3 G)
  | .enm _ _ _, A, X, tg, ρ, h, G => by unfold wfI at h; cases h
  | .zip _ _ _ _, A, X, tg, ρ, h, G => by unfold wfI at h; cases h
  | .itms _ _ _, A, X, tg, ρ, h, G => by unfold wfI at h; cases h
  | .vals _ _ _, A, X, tg, ρ, h, G => by unfold wfI at h; cases h
  | .kys _, A, X, tg, ρ, h, G => by unfold wfI at h; cases h
end
theorem lc_ok (elt : Ex) (t : Tg) (it : It) (cond : Option Ex) (csc : Scope) (own : List (Str × Nat)) {A : Pa} {X : Cx} {m : Bool} {p : Pos} (h : wfE X.N X.env.scope X.fn (.lc m elt t it cond csc own p) = true) (G : Gd P n A X C) (hc : C.calm = true) : LcG A X C elt t it cond csc own := by
  unfold wfE at h
  obtain ⟨h1, h2⟩ := Bool.and_eq_true_iff.mp h
  obtain ⟨h2, h3⟩ := Bool.and_eq_true_iff.mp h2
  obtain ⟨h3, h4⟩ := Bool.and_eq_true_iff.mp h3
  obtain ⟨h4, h5⟩ := Bool.and_eq_true_iff.mp h4
  obtain ⟨h5, h6⟩ := Bool.and_eq_true_iff.mp h5
  have bo := blkOk_by h1
  have M := G.on hc
  exact ⟨G.K, G.nd, M.calm, fun ρ => evI_ok it ρ h4 G, bo, fun i hi => of_decide_eq_true (List.all_eq_true.mp h3 i hi),
    fun s H Cc cl fp => pg_T (X := X.blk s H csc (compEnvC csc cl Cc X.env) fp) M.calm G.nd t h2,
    fun s H Cc cl fp y e ρ => evO_ok cond ρ (X := X.blk s H csc (compEnvC csc cl Cc X.env) fp) h5 (G.blk hc bo.kind s H Cc cl fp) y e,
    fun s H Cc cl fp ρ => ev_ok elt ρ (X := X.blk s H csc (compEnvC csc cl Cc X.env) fp) h6 (G.blk hc bo.kind s H Cc cl fp)⟩
end
end Gw

namespace Gw
open PySem PySem.Spec PyProof.Rows L2
mutual
def wfS (N : List Str) (sc : Scope) (fn : Str → Bool) : St → Bool
  | .expr e _ => !isLc e && wfE N sc fn e
  | .asg t e _ => wfT N sc fn t && (wfE N sc fn e && !(isTp t && isTup e))
  | .aset o i _ e _ => wfE N sc fn o && (wfE N sc fn i && wfE N sc fn e)
  | .dset _ _ _ _ _ => false
  | .aug i x q o e _ => okAug o && (wfT N sc fn (.nm i x q) && wfE N sc fn e)
  | .ifS c a b _ => wfE N sc fn c && (wfSs N sc fn a && wfSs N sc fn b)
  | .forS t it b _ => wfT N sc fn t && (wfI N sc fn it && wfSs N sc fn b)
  | .whl c b _ => wfE N sc fn c && wfSs N sc fn b
  | .ret e _ => wfE N sc fn e
  | .ret0 _ => true
  | .raise _ _ _ _ _ => true
  | .tryS _ _ _ _ _ _ _ _ => true
  | .pass _ => true
  | .brk _ => true
  | .cont _ => true
def wfSs (N : List Str) (sc : Scope) (fn : Str → Bool) : List St → Bool
  | [] => true
  | a :: r => wfS N sc fn a && wfSs N sc fn r
end
section
variable {P : Prg} {n : Nat} {A : Pa} {X : Cx} {C : Cxt}
theorem asg_any {t : Tg} {e : Ex} {p : Pos} (hc : C.calm = true) (G : Gd P n A X C) (h1 : wfT X.N X.env.scope X.fn t = true) (h2 : wfE X.N X.env.scope X.fn e = true) (h3 : (isTp t && isTup e) = false) : OkS A X C (.asg t e p) := by
  have M := G.on hc
  refine so_asg G.K fun ρ S => ?_
  cases hl : isLc e with
  | false => exact ps_asg (ev_ok e ρ h2 G S).pe (pg_T M.calm G.nd t h1) (by rw [sole_eq]; exact swaps_not hl _ _ _) (swapped_not h3 _) (each1 _ _)
  | true =>
    cases e with
    | lc m elt t2 it cond csc own p2 =>
      cases t with
      | nm i y py => exact asg_lc G.kind h1 G.nd M.calm (fun z => by rw [hc] at z; cases z) (fun hc => lc_ok elt t2 it cond csc own h2 G hc)
      | tp ts k q => exact ps_asg (ev_ok (.lc m elt t2 it cond csc own p2) ρ h2 G S).pe (pg_T M.calm G.nd _ h1) (by rfl) (swapped_not h3 _) (each1 _ _)
    | _ => cases hl
mutual
theorem exec_ok : ∀ (s : St) {A : Pa} {X : Cx}, wfS X.N X.env.scope X.fn s = true → C.calm = true → Gd P n A X C → OkS A X C s
  | .expr e p, A, X, h, hc, G => by
    unfold wfS at h
    obtain ⟨h1, h2⟩ := Bool.and_eq_true_iff.mp h
    exact so_expr (fun ρ => ev_ok e ρ h2 G) (swaps_not (by simpa using h1) _ _ _)
  | .asg t e p, A, X, h, hc, G => by
    unfold wfS at h
    obtain ⟨h1, h2⟩ := Bool.and_eq_true_iff.mp h
    obtain ⟨h2, h3⟩ := Bool.and_eq_true_iff.mp h2
    exact asg_any hc G h1 h2 (by cases z : (isTp t && isTup e) with | false => rfl | true => rw [z] at h3; cases h3)
  | .aset o i q e p, A, X, h, hc, G => by
    unfold wfS at h
    obtain ⟨h1, h2⟩ := Bool.and_eq_true_iff.mp h
    obtain ⟨h2, h3⟩ := Bool.and_eq_true_iff.mp h2
    exact so_aset G.K G.bs (fun ρ => ev_ok o ρ h1 G) (fun ρ => ev_ok i ρ h2 G) (fun ρ => ev_ok e ρ h3 G)
  | .dset _ _ _ _ _, A, X, h, hc, G => by unfold wfS at h; cases h
  | .aug i x q o e p, A, X, h, hc, G => by
    unfold wfS at h
    obtain ⟨h1, h2⟩ := Bool.and_eq_true_iff.mp h
    obtain ⟨h2, h3⟩ := Bool.and_eq_true_iff.mp h2
    exact so_aug h1 h2 G.nd (fun ρ => ev_ok e ρ h3 G)
  | .ifS c a b p, A, X, h, hc, G => by
    unfold wfS at h
    obtain ⟨h1, h2⟩ := Bool.and_eq_true_iff.mp h
    obtain ⟨h2, h3⟩ := Bool.and_eq_true_iff.mp h2
    exact so_if (fun ρ => ev_ok c ρ h1 G) (execs_ok a h2 hc G) (execs_ok b h3 hc G)
  | .forS t it b p, A, X, h, hc, G => by
    unfold wfS at h
    obtain ⟨h1, h2⟩ := Bool.and_eq_true_iff.mp h
    obtain ⟨h2, h3⟩ := Bool.and_eq_true_iff.mp h2
    exact so_for (fun z => ⟨(G.on z).calm, (G.on z).po⟩) G.K G.nd h1 (fun ρ => evI_ok it ρ h2 G) (execs_ok b h3 hc G)
  | .whl c b p, A, X, h, hc, G => by
    unfold wfS at h
    obtain ⟨h1, h2⟩ := Bool.and_eq_true_iff.mp h
    exact so_whl (fun z => (G.on z).po) (fun ρ => ev_ok c ρ h1 G) (execs_ok b h2 hc G)
  | .ret e p, A, X, h, hc, G => by unfold wfS at h; exact so_ret fun ρ => ev_ok e ρ h G
  | .ret0 p, A, X, h, hc, G => so_ret0
  | .raise _ _ _ _ _, A, X, h, hc, G => fun ρ S => by unfold exec; exact noPS
  | .tryS _ _ _ _ _ _ _ _, A, X, h, hc, G => fun ρ S => by unfold exec; exact noPS
  | .pass p, A, X, h, hc, G => so_pass
  | .brk p, A, X, h, hc, G => so_brk
  | .cont p, A, X, h, hc, G => so_cont
theorem execs_ok : ∀ (s : List St) {A : Pa} {X : Cx}, wfSs X.N X.env.scope X.fn s = true → C.calm = true → Gd P n A X C → OkSs A X C s
  | [], A, X, h, hc, G => so_nil
  | a :: r, A, X, h, hc, G => by
    unfold wfSs at h
    obtain ⟨h1, h2⟩ := Bool.and_eq_true_iff.mp h
    exact so_cons (exec_ok a h1 hc G) (execs_ok r h2 hc G)
end
end
/-! ### a def -/
/-- what the text and the written part say of a def -/
structure FnT (K : PySem.W.Frag) (mg : Str → Option Value) (f : Str) (F : Fn) : Prop where
  ex : ∃ (fa : Addr) (fd : FuncData) (qual : Str) (params : Arguments) (sc : Scope), mg f = some (.ref fa) ∧ FunD K f qual params (Sts.s F.body) sc [] [] fa fd ∧ FnScope F.N F.ps sc ∧ BindsA fd F.ps ∧ wfSs F.N sc (fun _ => true) F.body = true
  np : F.np ≤ F.N.length
/-- what is fixed through the law -/
structure Gl0 (prog : Program) (w : World) (K : PySem.W.Frag) (mg : Str → Option Value) (P : Prg) : Prop where
  fns : ∀ f F, P.fn f = some F → FnT K mg f F
  glb : ∀ x w, P.glb x = some w → ∃ v u, mg x = some u ∧ RelV v u ∧ ∀ Hf μ xr, WR K Hf μ xr w v
  blt : ∀ x ∈ bltNames, mg x = none
theorem Fn.ps_len {F : Fn} (h : F.np ≤ F.N.length) : F.ps.length = F.np := by unfold Fn.ps; rw [List.length_take]; omega
theorem start_en {K : PySem.W.Frag} {Hf : Hp} {μ : List V} {N : List Str} {ws : List Wd} {vs : List V} (r : Paired (WR K Hf μ noXr) ws vs) : En K Hf μ noXr (ws.map some ++ List.replicate (N.length - ws.length) none) (start N vs) := by
  refine ⟨?_, ⟨fun a u q => ?_, fun a xs q => by cases q⟩, fun i w h => ?_⟩
  · unfold L2.start
    simp [r.length]
  · rcases q with q | ⟨o, q⟩ <;> cases q
  · by_cases hi : i < ws.length
    · rw [List.getElem?_append_left (by simpa using hi), List.getElem?_map] at h
      cases e : ws[i]? with
      | none => rw [e] at h; cases h
      | some w' =>
        rw [e] at h
        cases h
        obtain ⟨v, ev, rv⟩ := paired_get r e
        refine ⟨v, ?_, rv⟩
        unfold L2.start
        rw [List.getElem?_append_left (by simpa [← r.length] using hi), List.getElem?_map, ev]
        rfl
    · rw [List.getElem?_append_right (by simpa using hi)] at h
      rw [List.getElem?_replicate] at h
      split at h <;> cases h
/-- one more frame -/
theorem Sm.push {K : PySem.W.Frag} {bs : List Nat} {μ : List V} {S : Store} {H Hf : Hp} (s : Sm K bs μ S H Hf) : Sm K (S.length :: bs) μ S H Hf := by
  refine ⟨s.len, s.cell, s.sep, s.sub, fun b hb => ?_, fun b hb k c hk e j hj => ?_⟩
  · rcases List.mem_cons.mp hb with e | hb
    · exact Nat.le_of_eq e
    · exact s.bsz b hb
  · rcases List.mem_cons.mp hb with e' | hb
    · rw [e', ← s.len]
      obtain ⟨v, hv⟩ := s.mem e
      have cr := s.cell k c v e hv
      have go : ∀ {ws : List Wd} {vs : List V}, Paired (WR K Hf μ noXr) ws vs → ∀ j ∈ ws.flatMap hsW, j < μ.length := fun {ws vs} r => by
        induction r with
        | nil => intro j hj; cases hj
        | cons r1 r2 ih =>
          rename_i w v ws vs
          intro j hj
          rw [List.flatMap_cons, List.mem_append] at hj
          rcases hj with hj | hj
          · cases w with
            | h k' =>
              have : j = k' := by simpa [hsW] using hj
              subst this
              exact (List.getElem?_eq_some_iff.mp (show μ[j]? = some v from r1)).1
            | _ => cases hj
          · exact ih j hj
      cases cr with
      | lst q1 q2 q3 => exact go q3 j hj
      | dK q1 q0 q2 q3 q4 => exact go q4 j hj
      | dT q1 q0 q2 q3 q4 => exact go q4 j hj
      | frz q => cases hj
    · exact s.frm b hb k c hk e j hj
theorem Sm.pop {K : PySem.W.Frag} {b : Nat} {bs : List Nat} {μ : List V} {S : Store} {H Hf : Hp} (s : Sm K (b :: bs) μ S H Hf) : Sm K bs μ S H Hf :=
  ⟨s.len, s.cell, s.sep, s.sub, fun b hb => s.bsz b (List.mem_cons_of_mem _ hb), fun b hb => s.frm b (List.mem_cons_of_mem _ hb)⟩
/-- back to the caller's cells -/
theorem Sm.back {K : PySem.W.Frag} {bs : List Nat} {μ μ' : List V} {S S' : Store} {H Hf H' Hf' : Hp} (s : Sm K bs μ S H Hf) (s' : Sm K (S.length :: bs) μ' S' H' Hf') (x : Xt S μ H Hf S' μ' H' Hf') :
    Sm K bs μ (S'.take S.length) H' Hf' ∧ Xt S μ H Hf (S'.take S.length) μ H' Hf' := by
  obtain ⟨t, e⟩ := x.mu
  have hl : S.length ≤ S'.length := s'.bsz S.length List.mem_cons_self
  have em : μ'.take S.length = μ := by rw [e, ← s.len]; simp
  have q := s'.pop.cut S.length (fun b hb => s.bsz b hb) hl fun k c hk h => s'.frm S.length List.mem_cons_self k c hk h
  rw [em] at q
  refine ⟨q, ⟨⟨[], by simp⟩, x.fr, fun k c a h1 h2 h3 => ?_, fun a o f => ?_⟩⟩
  · obtain ⟨⟨c', q1, q2⟩, q3⟩ := x.lk k c a h1 h2 h3
    have hk := (List.getElem?_eq_some_iff.mp h1).1
    exact ⟨⟨c', by rw [List.getElem?_take_of_lt hk]; exact q1, q2⟩, q3⟩
  · obtain ⟨g1, g2, g3⟩ := x.un a o f
    refine ⟨g1, g2, fun k c h1 h2 h3 => ?_⟩
    have hk := (List.getElem?_eq_some_iff.mp h1).1
    rw [List.length_take] at hk
    rw [List.getElem?_take_of_lt (by omega)] at h1
    exact g3 k c h1 h2 (mu_get x.mu h3)
theorem endF_rs {A : Pa} {S S' : Store} {μ μ' : List V} {H Hf H' Hf' : Hp} {tree : Bool} {w : Wd} {v : V} {Q : VK} (hx : A.xr = noXr) (s : Sm A.K A.bs μ S H Hf) (s' : Sm A.K (S.length :: A.bs) μ' S' H' Hf') (x : Xt S μ H Hf S' μ' H' Hf') (r : WR A.K Hf' μ' noXr w v)
    (h : Rs A (RW A) [] S μ H Hf (endF tree S.length w S') Q) : Q v H' := by
  cases tree with
  | false =>
    have h' : Rs A (RW A) [] S μ H Hf (.ok w S') Q := h
    exact h'.to s'.pop x (by show WR A.K Hf' μ' A.xr w v; rw [hx]; exact r)
  | true =>
    have h' : Rs A (RW A) [] S μ H Hf ((keep S' w).bd fun d S' => .ok (.t d) (S'.take S.length)) Q := h
    cases e : keep S' w with
    | no => rw [e] at h'; exact h'.elim
    | ex q S2 => exact (keep_noex e).elim
    | ok d S2 =>
      rw [e] at h'
      obtain ⟨Hf2, s2, x2, r2⟩ := keep_ok s' r e
      obtain ⟨sb, xb⟩ := s.back s2 (x.trans x2)
      have h2 : Rs A (RW A) [] S μ H Hf (.ok (.t d) (S2.take S.length)) Q := h'
      exact h2.to sb xb r2
/-- THE DEFS: each does what the interpreter says -/
theorem fn_ok {prog : Program} {w : World} {K : PySem.W.Frag} {mg : Str → Option Value} {P : Prg} {ca : Str → Addr} (T : Gl0 prog w K mg P) : ∀ (n : Nat) (f : Str) (F : Fn), P.fn f = some F → FnS prog w K mg P ca n f F
  | 0, f, F, hF => by
    obtain ⟨⟨fa, fd, qual, params, sc, hm, FD, FS, bi, wf⟩, hnp⟩ := T.fns f F hF
    refine ⟨fa, fd, hm, FD.kp, bi, Fn.ps_len hnp, fun base => ⟨fun vs H Q E h => by rw [Fn.ps_len hnp]; exact h.1, fun A outer s H args us vs Q E _ _ _ _ h => ?_⟩⟩
    obtain ⟨_, bs, μ, Hf, S, ws, m, _, _, h⟩ := h
    exact h.elim
  | n + 1, f, F, hF => by
    have ih := fn_ok (ca := ca) T n
    obtain ⟨⟨fa, fd, qual, params, sc, hm, FD, FS, bi, wf⟩, hnp⟩ := T.fns f F hF
    refine ⟨fa, fd, hm, FD.kp, bi, Fn.ps_len hnp, fun base => FnOk.mono (k := n + 1 + 8) (j := n + 8 + 1) (FD.ok FS (fun vs H Q E h => by rw [Fn.ps_len hnp]; exact h.1) fun cdv A outer s H vs Q E hr h => ?_) (by omega)⟩
    obtain ⟨hvl, bs, μ, Hf, S, ws, m, sm, pr, h⟩ := h
    generalize hX : cxOf (L2.CX prog w) prog w K mg base F.N qual sc fa cdv A outer s H E = X
    have hwl : ws.length = F.np := by rw [pr.length]; exact hvl
    unfold evF at h
    rw [hF] at h
    dsimp only at h
    rw [if_pos hwl] at h
    generalize hC : (⟨fun g => if (P.fn g).isSome = true then some (evF P n g) else none, S.length, 1000000000, P.err, P.isa, P.glb, true⟩ : Cxt) = C at h
    have tk : Takes X (fun cls d _ H => E cls d H) := by subst hX; exact takes_of rfl rfl rfl rfl
    have po : PassesOwn (model X.prog X.w) X.A X.env X.xe := by subst hX; exact passes_of rfl
    have G : Gd P n (paF K ca (S.length :: bs) E) X C := by
      subst hX; subst hC
      have hu := hr.un
      have hbz : ∀ b ∈ S.length :: bs, b ≤ S.length := fun b hb => by
        rcases List.mem_cons.mp hb with e | hb
        · exact Nat.le_of_eq e
        · exact sm.bsz b hb
      refine ⟨rfl, ?_, FS.nd, FS.kind, hbz, fun _ => ⟨rfl, rfl, rfl, hr, tk, po⟩, fun z => (Bool.noConfusion z), ih, T.glb, T.blt⟩
      show (A.deeper _).units + 100 < cLine
      omega
    have hb : OkSs (paF K ca (S.length :: bs) E) X C F.body := by
      refine execs_ok F.body ?_ (by subst hC; rfl) G
      subst hX
      exact wf
    refine ⟨_, hb (ws.map some ++ List.replicate (F.N.length - ws.length) none) S, μ, Hf, sm.push, start_en pr, ?_⟩
    have fin : ∀ {S' : Store} {μ' : List V} {H' Hf' : Hp} {w : Wd} {v : V}, Sm K (S.length :: bs) μ' S' H' Hf' → Xt S μ H Hf S' μ' H' Hf' → WR K Hf' μ' noXr w v → Rs (paF K ca bs E) (RW (paF K ca bs E)) [] S μ H Hf (endF (!m) S.length w S') Q → Q v H' :=
      fun s' x r h => endF_rs (A := paF K ca bs E) rfl sm s' x r h
    cases e : execs C F.body (ws.map some ++ List.replicate (F.N.length - ws.length) none) S with
    | nx ρ' S' => rw [e] at h; exact fun σ' μ' H' Hf' s' x en => fin (w := .t .non) s' x (show Rp K _ V.non Dt.non from .non) h
    | rt w S' => rw [e] at h; exact fun v μ' H' Hf' s' x r => fin s' x r h
    | ex q ρ' S' =>
      rw [e] at h
      exact fun cls d σ' μ' H' Hf' s' x en xo => by
        obtain ⟨sb, xb⟩ := sm.back s' x
        exact h cls d μ H' Hf' sb xb xo
    | bk ρ' S' => rw [e] at h; exact h.elim
    | ct ρ' S' => rw [e] at h; exact h.elim
    | no => rw [e] at h; exact h.elim
end Gw

namespace Gw
open PySem PySem.Spec PyProof.Rows L2
/-! ### the head: what is told of the written part -/
abbrev Chk : Type := PySem.W.Frag → Bool
def obsG (chk : Chk) (fn : List He.DefD) (K : PySem.W.Frag) : He.AlD := (chk K && fn.all fun d => d.ok K, fn.map fun d => He.fnW K d.at_)
def SaysG (chk : Chk) (fn : List He.DefD) (K : PySem.W.Frag) : Prop := obsG chk fn K = He.valD fn
def obsGG (n : Nat) (chk : Chk) (fn : List He.DefD) (g : Addr → Option Obj) : He.AlD := obsG chk fn (He.frG g (He.asD g n))
def hookG (n : Nat) (chk : Chk) (fn : List He.DefD) : PySem.W.Hook where
  α := He.AlD
  obs := fun s => obsGG n chk fn s.heap.get?
  val := fun _ => He.valD fn
  says := fun _ h => ∃ K : PySem.W.Frag, K.In h ∧ SaysG chk fn K
  of := fun _ _ e => ⟨_, He.frG_in, e⟩
  keeps := fun _ _ _ ⟨K, hK, c⟩ k => ⟨K, PySem.W.Frag.In.keeps hK k, c⟩
theorem obsGG_eq {n : Nat} {chk : Chk} {fn : List He.DefD} {g : Addr → Option Obj} {s : Shared} (h : ∀ a, g a = s.heap.get? a) : obsGG n chk fn g = (hookG n chk fn).obs s := by
  have e : g = s.heap.get? := funext h
  rw [e] <;> rfl
section
variable {chk : Chk} {fn : List He.DefD} {K : PySem.W.Frag}
theorem SaysG.fact (c : SaysG chk fn K) : chk K = true := (He.ba (show (chk K && fn.all fun d => d.ok K) = true from congrArg (fun z : He.AlD => z.1) c)).1
theorem SaysG.def_ (c : SaysG chk fn K) (i : Nat) {d : He.DefD} (h : fn[i]? = some d) : ∃ fd, FunD K d.name d.qual d.params d.body d.scope (d.dvs K) (d.kws K) (He.fAd K d.at_) fd := by
  have c2 := (He.ba (show (chk K && fn.all fun d => d.ok K) = true from congrArg (fun z : He.AlD => z.1) c)).2
  have e : fn.map (fun d => He.fnW K d.at_) = fn.map He.DefD.val := congrArg (fun z : He.AlD => z.2) c
  have e2 : (fn.map fun d => He.fnW K d.at_)[i]? = (fn.map He.DefD.val)[i]? := by rw [e]
  rw [List.getElem?_map, List.getElem?_map, h] at e2
  exact He.DefD.funD (Option.some.inj e2) (List.all_eq_true.mp c2 d (List.mem_of_getElem? h))
end
/-! ### the text -/
/-- a def of the row's top, what the interpreter has of it -/
structure Df where
  name : Str
  st : Stmt
  F : Fn
def Df.d (f : Df) : He.DefD := ⟨(f.name, none), f.name, f.name, defArgs f.st, defBody f.st, defScope f.st, [], []⟩
/-- plain parameters -/
def plainArgs (a : Arguments) (ps : List Str) : Bool := a.posonlyargs.isEmpty && (a.vararg.isNone && (a.kwonlyargs.isEmpty && (a.kw_defaults.isEmpty && (a.kwarg.isNone && (a.defaults.isEmpty && decide (a.args.map (·.arg) = ps))))))
def scopeB (N P : List Str) (sc : Scope) : Bool := (match sc.kind with | .function => true | _ => false) && (!sc.isCoroutine && (!sc.isGenerator && (decide N.Nodup && (decide (N.take P.length = P) && ((P.all fun x => match sc.names.lookup x with | some .local => true | some .cell => true | _ => false) && sc.names.all fun y => match y.2 with | .free => false | _ => true)))))
theorem scope_of {N P : List Str} {sc : Scope} (h : scopeB N P sc = true) : FnScope N P sc := by
  unfold scopeB at h
  obtain ⟨h1, h⟩ := He.ba h
  obtain ⟨h2, h⟩ := He.ba h
  obtain ⟨h3, h⟩ := He.ba h
  obtain ⟨h4, h⟩ := He.ba h
  obtain ⟨h5, h⟩ := He.ba h
  obtain ⟨h6, h7⟩ := He.ba h
  refine ⟨?_, by simpa using h2, by simpa using h3, of_decide_eq_true h4, of_decide_eq_true h5, fun x hx => ?_, fun y hy e => ?_⟩
  · split at h1
    · assumption
    · cases h1
  · have := List.all_eq_true.mp h6 x hx
    split at this
    · rename_i e; exact .inl e
    · rename_i e; exact .inr e
    · cases this
  · have := List.all_eq_true.mp h7 y hy
    rw [e] at this; cases this
/-- what a def's text must be -/
def Df.wf (f : Df) : Bool := scopeB f.F.N f.F.ps (defScope f.st) && (decide (f.F.np ≤ f.F.N.length) && wfSs f.F.N (defScope f.st) (fun _ => true) f.F.body)
/-- the defs, the constants of the module -/
structure Tb where
  defs : List Df
  cons : List (Str × List Dt)
  err : Str → Option (Str × List Str)
  isa : Str → Str → Option Bool
def Dt.dv : Dt → He.Dv
  | .int i => .int i
  | .str x => .str x
  | .bl b => .bl b
  | _ => .non
def flatD : Dt → Bool
  | .int _ => true
  | .str _ => true
  | .bl _ => true
  | .non => true
  | _ => false
/-- a constant that is a tuple -/
def conB (K : PySem.W.Frag) (x : Str) (ds : List Dt) : Bool := (He.Fa.glo x).ok K && (He.tupB K x (ds.map Dt.dv) && (ds.all flatD && (match K.lookup (He.ga K x) with | some ⟨_, none, _, _⟩ => true | _ => false)))
def Tb.P (t : Tb) : Prg := ⟨fun f => (t.defs.find? fun d => decide (d.name = f)).map (·.F), t.err, t.isa, fun x => (t.cons.find? fun c => decide (c.1 = x)).map fun c => .c c.2⟩
def Tb.chk (t : Tb) (K : PySem.W.Frag) : Bool := (t.defs.all fun d => (He.Fa.glo d.name).ok K) && ((bltNames.all fun x => (He.Fa.free x).ok K) && t.cons.all fun c => conB K c.1 c.2)
theorem dv_rp {K : PySem.W.Frag} {H : Hp} : ∀ {ds : List Dt}, ds.all flatD = true → RpA K H (ds.map fun d => (Dt.dv d).v K) ds
  | [], _ => .nil
  | d :: r, h => by
    rw [List.all_cons] at h
    obtain ⟨h1, h2⟩ := He.ba h
    refine .cons ?_ (dv_rp h2)
    cases d with
    | int i => exact .int i
    | str i => exact .str i
    | bl i => exact .bl i
    | non => exact .non
    | _ => cases h1
theorem con_ok {K : PySem.W.Frag} {x : Str} {ds : List Dt} {h : Heap} {mg : Str → Option Value} (X : K.In h) (G : h.Ns mainGlobals mg) (c : conB K x ds = true) : ∃ v u, mg x = some u ∧ RelV v u ∧ ∀ Hf μ xr, WR K Hf μ xr (.c ds) v := by
  unfold conB at c
  obtain ⟨c1, c⟩ := He.ba c
  obtain ⟨c2, c⟩ := He.ba c
  obtain ⟨c3, c4⟩ := He.ba c
  refine ⟨.ref (He.ga K x), .ref (He.ga K x), He.glo_ok X G c1, rfl, fun Hf μ xr => ⟨_, _, rfl, ?_, He.tupB_ok c2 Hf, ?_⟩⟩
  · have q := He.tupB_ok c2 (fun _ => none)
    rcases q with q | ⟨o, its, n, e1, e2, _⟩
    · rcases q with q | ⟨o, q⟩ <;> cases q
    · refine ⟨o, e1, e2, ?_⟩
      rw [e1] at c4
      obtain ⟨oc, od, dt, sl⟩ := o
      cases od with
      | none => rfl
      | some a => cases c4
  · rw [List.map_map]
    exact dv_rp c3
theorem find_mem {α : Type} {p : α → Bool} {l : List α} {a : α} (h : l.find? p = some a) : a ∈ l ∧ p a = true := ⟨List.mem_of_find?_eq_some h, List.find?_some h⟩
/-- how the parameters of a def bind -/
def BindT (d : Df) : Prop := ∀ (kV doc pm : Value) (an : Option Addr) (cdv ct : Value) (us : List Value), us.length = d.F.ps.length → bindArgs (PySem.W.fnOf d.name d.name (defArgs d.st) (defBody d.st) (defScope d.st) .none kV doc pm an cdv ct) ⟨us, []⟩ = pure (d.F.ps.zip us)
theorem gl0_of {prog : Program} {w : World} {K : PySem.W.Frag} {h : Heap} {mg : Str → Option Value} (t : Tb) (X : K.In h) (G : h.Ns mainGlobals mg) (c : SaysG t.chk (t.defs.map Df.d) K)
    (hb : ∀ d ∈ t.defs, defBody d.st = Sts.s d.F.body) (hw : ∀ d ∈ t.defs, d.wf = true) (hbi : ∀ d ∈ t.defs, BindT d) : Gl0 prog w K mg t.P := by
  have ch := c.fact
  unfold Tb.chk at ch
  obtain ⟨c1, c2⟩ := He.ba ch
  obtain ⟨c2, c3⟩ := He.ba c2
  refine ⟨fun f F hF => ?_, fun x w hx => ?_, fun x hx => He.free_ok X G (List.all_eq_true.mp c2 x hx)⟩
  · have hF' : (t.defs.find? fun d => decide (d.name = f)).map (·.F) = some F := hF
    cases e : t.defs.find? fun d => decide (d.name = f) with
    | none => rw [e] at hF'; cases hF'
    | some d =>
      rw [e] at hF'
      obtain ⟨hm, hn⟩ := find_mem e
      have hn := of_decide_eq_true hn
      injection hF' with hF'
      subst hF'
      subst hn
      obtain ⟨i, hi, ei⟩ := List.getElem_of_mem hm
      obtain ⟨fd, FD⟩ := c.def_ i (d := d.d) (by rw [List.getElem?_map, List.getElem?_eq_getElem hi, ei]; rfl)
      have hwf := hw d hm
      unfold Df.wf at hwf
      obtain ⟨w1, w2⟩ := He.ba hwf
      obtain ⟨w2, w3⟩ := He.ba w2
      have FD' : FunD K d.name d.name (defArgs d.st) (defBody d.st) (defScope d.st) [] [] (He.fAd K (d.name, none)) fd := FD
      refine ⟨⟨He.fAd K (d.name, none), fd, d.name, defArgs d.st, defScope d.st, He.glo_ok X G (List.all_eq_true.mp c1 d hm), by rw [← hb d hm]; exact FD', scope_of w1, fun s us hl => FD'.bindsA (hbi d hm) s us hl, w3⟩, of_decide_eq_true w2⟩
  · have hx' : ((t.cons.find? fun c => decide (c.1 = x)).map fun c => Wd.c c.2) = some w := hx
    cases e : t.cons.find? fun c => decide (c.1 = x) with
    | none => rw [e] at hx'; cases hx'
    | some p =>
      rw [e] at hx'
      obtain ⟨hm, hn⟩ := find_mem e
      have hn := of_decide_eq_true hn
      injection hx' with hx'
      subst hx'
      subst hn
      exact con_ok X G (List.all_eq_true.mp c3 p hm)
/-! ### the end -/
theorem ints_rp {K : PySem.W.Frag} {H : Hp} : ∀ ns : List Int, RpA K H (ns.map V.int) (ns.map Dt.int)
  | [] => .nil
  | n :: r => .cons (.int n) (ints_rp r)
theorem FnOk.cx {P : Program} {w : World} {K : PySem.W.Frag} {mg : Str → Option Value} {base : Heap} {CX CX' : CXT} {k : Nat} {f : Addr} {fd : FuncData} {ps : List Str} {sp : Sp} (F : FnOk P w K mg base CX k f fd ps sp)
    (h : ∀ o H s E e s', CX o H s E e s' → CX' o H s E e s') : FnOk P w K mg base CX' k f fd ps sp :=
  ⟨F.len, fun A outer s H args us vs Q E hr he hb hv hs => codeAny_mono (F.run A outer s H args us vs Q E hr he hb hv hs) fun r s' q => by
    cases r with
    | error e => exact h _ _ _ _ _ _ q
    | ok fl => cases fl <;> exact q⟩
theorem walk_gw {l : PySem.W.OpenLaw} {q : Program} {loose : List Str} {XP : (Str → Option Value) → Heap → Prop} {d : DefRec} {t : Tb} {n : Nat} {F : Fn} {x : Str}
    (hn : l.most = some 63) (hdf : d.params.defaults = []) (hd : d.name = ("law" : Str)) (hr : Room (n + 8) callerA) (hF : t.P.fn "law" = some F) (hps : F.ps = [x])
    (hb : ∀ d ∈ t.defs, defBody d.st = Sts.s d.F.body) (hw : ∀ d ∈ t.defs, d.wf = true) (hbi : ∀ d ∈ t.defs, BindT d)
    (ans : ∀ ns : List Int, ns.length ≤ 63 → ∃ S, evF t.P n "law" true [.t (.lst (ns.map Dt.int))] [] = .ok (.t (.bl true)) S) :
    PySem.W.WalkO q loose XP (hookG 4 t.chk (t.defs.map Df.d)).says l.row.toRowW d [] (fun f vs => PySem.call f vs) := by
  refine L2.walk_ofE (l := l) (n := 63) (k := n + 8) (x := x) (CX := fun o H s E e s' => ∃ w, L2.CX l.prog w o H s E e s') hn (by decide) hdf hr ?_ (fun H s e s' ⟨w, z⟩ => ?_)
  · intro w mg fa h ⟨K, KX, c⟩ G hmg
    have T : Gl0 l.prog w K mg t.P := gl0_of t KX G c hb hw hbi
    obtain ⟨fa', fd, hm, hk, bi, hl, ok⟩ := fn_ok (ca := fun _ => 0) T n "law" F hF
    have e : fa' = fa := by
      rw [hd] at hmg
      rw [hmg] at hm
      injection hm with hm
      injection hm with hm
      exact hm.symm
    subst e
    have hnp : F.np = 1 := by rw [← hl, hps]; rfl
    refine ⟨K, fd, spG t.P K (fun _ => 0) n "law" F.np, KX, fun s u => by have := bi s [u] (by rw [hps]; rfl); rw [hps] at this; exact this, fun H a ns hlen _ hS => ?_, fun base Kb _ => ?_⟩
    · refine ⟨hnp.symm, [], [], H, [], [.t (.lst (ns.map Dt.int))], true, ⟨rfl, (fun k c v h => by simp at h), (fun k k' c c' v h => by simp at h), .refl _, (fun b hb => by cases hb), (fun b hb => by cases hb)⟩, .cons (.lst hS (ints_rp ns)) .nil, ?_⟩
      obtain ⟨S, e⟩ := ans ns hlen
      rw [e]
      intro v μ' H' Hf' s x r
      exact wr_bl r
    · have o2 := FnOk.cx (ok base) (CX' := fun o H s E e s' => ∃ w, L2.CX l.prog w o H s E e s') fun _ _ _ _ _ _ z => ⟨w, z⟩
      rw [hps] at o2
      exact o2
  · obtain ⟨_, _, _, _, _, _, _, _, _, _, _, _, z⟩ := z
    exact z
def Alls {α : Type} (p : α → Prop) : List α → Prop
  | [] => True
  | a :: r => p a ∧ Alls p r
theorem Alls.of {α : Type} {p : α → Prop} : ∀ {l : List α}, Alls p l → ∀ a ∈ l, p a
  | [], _, _, h => by cases h
  | b :: r, ⟨h1, h2⟩, a, h => by
    rcases List.mem_cons.mp h with e | h
    · rw [e]; exact h1
    · exact Alls.of h2 a h
theorem of_map {α β : Type} {f g : α → β} {l : List α} (h : l.map f = l.map g) : ∀ a ∈ l, f a = g a := fun a ha => by
  obtain ⟨i, hi, e⟩ := List.getElem_of_mem ha
  have := congrArg (fun x => x[i]?) h
  simp only [List.getElem?_map, List.getElem?_eq_getElem hi, e] at this
  simpa using this
end Gw

namespace Gw
open PySem L2
/-! ### stepping through the interpreter -/
abbrev cxP (P : Prg) (n b : Nat) : Cxt := ⟨callOf P n, b, 1000000000, P.err, P.isa, P.glb, true⟩
def finO (m : Bool) (S : Store) (o : Out) : Res Wd := match o with
  | .nx _ S' => endF (!m) S.length (.t .non) S'
  | .rt w S' => endF (!m) S.length w S'
  | .ex e _ S' => .ex e (S'.take S.length)
  | _ => .no
section
variable {P : Prg} {n : Nat} {f : Str} {F : Fn} {m : Bool} {ws : List Wd} {S S' : Store} {C : Cxt} {ρ : Env}
theorem evF_call (h : P.fn f = some F) (hl : ws.length = F.np) : evF P (n + 1) f m ws S = finO m S (execs (cxP P n S.length) F.body (ws.map some ++ List.replicate (F.N.length - ws.length) none) S) := by
  show (match P.fn f with | some F => _ | none => _) = _
  rw [h]
  dsimp only
  rw [if_pos hl]
  rfl
def Out.sq (o : Out) (f : Env → Store → Out) : Out := match o with
  | .nx ρ S => f ρ S
  | o => o
theorem execs_cons {a : St} {r : List St} : execs C (a :: r) ρ S = (exec C a ρ S).sq (execs C r) := by
  conv => lhs; unfold execs
  unfold Out.sq
  cases exec C a ρ S <;> rfl
theorem execs_nil : execs C [] ρ S = .nx ρ S := by unfold execs; rfl
theorem sq_nx {f : Env → Store → Out} : (Out.nx ρ S).sq f = f ρ S := rfl
theorem sq_rt {f : Env → Store → Out} {w : Wd} : (Out.rt w S).sq f = .rt w S := rfl
theorem sq_bk {f : Env → Store → Out} : (Out.bk ρ S).sq f = .bk ρ S := rfl
theorem sq_ct {f : Env → Store → Out} : (Out.ct ρ S).sq f = .ct ρ S := rfl
theorem sq_ex {f : Env → Store → Out} {e : Exn} : (Out.ex e ρ S).sq f = .ex e ρ S := rfl
theorem bd_ok' {α β : Type} {a : α} {f : α → Store → Res β} : (Res.ok a S).bd f = f a S := rfl
theorem st_ok {α : Type} {a : α} {f : α → Store → Out} : (Res.ok a S).st ρ f = f a S := rfl
theorem opt_some {α : Type} {a : α} : opt S (some a) = .ok a S := rfl
theorem tst_bl {b : Bool} : tst (.ok (.t (.bl b)) S) = .ok b S := rfl
theorem keep_t {d : Dt} : keep S (.t d) = .ok d S := rfl
theorem fin_rt {d : Dt} (hs : S'.take S.length = S) : finO false S (.rt (.t d) S') = .ok (.t d) S := by
  show Res.ok (Wd.t d) (S'.take S.length) = _
  rw [hs]
theorem fin_nx {d : Dt} (hs : S'.take S.length = S) : finO false S (.nx ρ S') = .ok (.t .non) S := by
  show Res.ok (Wd.t Dt.non) (S'.take S.length) = _
  rw [hs]
theorem callOf_some {g : Str} (h : (P.fn g).isSome = true) : callOf P n g = some (evF P n g) := if_pos h
theorem call_rt {d : Dt} {ρ0 : Env} (h : P.fn f = some F) (hl : ws.length = F.np) (hρ : ws.map some ++ List.replicate (F.N.length - ws.length) none = ρ0) (he : execs (cxP P n S.length) F.body ρ0 S = .rt (.t d) S') (hs : S'.take S.length = S) : evF P (n + 1) f false ws S = .ok (.t d) S := by
  rw [evF_call h hl, hρ, he]
  exact fin_rt hs
/-- .. that is not made a tree -/
theorem call_rt' {w : Wd} {ρ0 : Env} (h : P.fn f = some F) (hl : ws.length = F.np) (hρ : ws.map some ++ List.replicate (F.N.length - ws.length) none = ρ0) (he : execs (cxP P n S.length) F.body ρ0 S = .rt w S') : evF P (n + 1) f true ws S = .ok w S' := by
  rw [evF_call h hl, hρ, he]; rfl
theorem bin_add {m : Bool} {i j : Int} : binD m .add (.t (.int i)) (.t (.int j)) S = .ok (.t (.int (i + j))) S := rfl
theorem bin_sub {m : Bool} {i j : Int} : binD m .sub (.t (.int i)) (.t (.int j)) S = .ok (.t (.int (i - j))) S := rfl
theorem bin_mul {m : Bool} {i j : Int} (h : (-(2 ^ 64) < i ∧ i < 2 ^ 64) ∨ (-(2 ^ 64) < j ∧ j < 2 ^ 64)) : binD m .mul (.t (.int i)) (.t (.int j)) S = .ok (.t (.int (i * j))) S := if_pos h.symm
theorem bin_mod {m : Bool} {i j : Int} (h : 0 < j) : binD m .mod (.t (.int i)) (.t (.int j)) S = .ok (.t (.int (i % j))) S := if_pos h
theorem bin_fdiv {m : Bool} {i j : Int} (h : 0 < j ∧ j.natAbs.log2 < 8000) : binD m .fdiv (.t (.int i)) (.t (.int j)) S = .ok (.t (.int (i / j))) S := if_pos h
theorem bin_pow {m : Bool} {i j : Int} (h : 0 ≤ j ∧ j ≤ 1000 ∧ i.natAbs < 2 ^ 64) : binD m .pow (.t (.int i)) (.t (.int j)) S = .ok (.t (.int (i ^ j.toNat))) S := if_pos h
theorem bin_addT {m : Bool} {i j : List Dt} (h : i.length + j.length ≤ lineN) : binD m .add (.t (.tup i)) (.t (.tup j)) S = .ok (.t (.tup (i ++ j))) S := if_pos h
/-- names by place -/
theorem ev_var {i : Nat} {x : Str} {p : Pos} {w : Wd} (h : ρ[i]? = some (some w)) : ev C (.var i x p) ρ S = .ok w S := by
  unfold ev; rw [h]
theorem ev_lit {c : Lit} {j : Nat} {p : Pos} : ev C (.lit c j p) ρ S = .ok (.t c.d) S := by unfold ev; rfl
theorem ev_bin {o : Bop} {m : Bool} {a b : Ex} {p : Pos} {x y : Wd} {S1 S2 : Store} (ha : ev C a ρ S = .ok x S1) (hb : ev C b ρ S1 = .ok y S2) : ev C (.bin o m a b p) ρ S = binD m o x y S2 := by
  unfold ev; rw [ha, bd_ok', hb, bd_ok']
theorem ev_call1 {g : Str} {q p : Pos} {a : Ex} {x : Wd} {S1 : Store} {h : Bool → List Wd → Store → Res Wd} (hc : C.call g = some h) (ha : ev C a ρ S = .ok x S1) : ev C (.call g m q [a] p) ρ S = h m [x] S1 := by
  unfold ev; rw [hc]; unfold evs; rw [ha]; unfold evs; rfl
/-! ### cells -/
theorem idx_cell {k : Nat} {lk : Bool} {zs : List Wd} {i : Int} (h : S[k]? = some (.lst lk zs)) : idxD (.h k) i S = opt S (atI zs i) := by
  unfold idxD vw; simp only [h]
theorem idx_lst {ds : List Dt} {i : Int} : idxD (.t (.lst ds)) i S = opt S (atI (ds.map .t) i) := rfl
theorem idx_tup {ds : List Dt} {i : Int} : idxD (.t (.tup ds)) i S = opt S (atI (ds.map .t) i) := rfl
theorem idx_c {ds : List Dt} {i : Int} : idxD (.c ds) i S = opt S (atI (ds.map .t) i) := rfl
theorem aset_cell {b k j : Nat} {zs : List Wd} {i : Int} {d : Dt} (h : S[k]? = some (.lst false zs)) (hi : ixN zs.length i = some j) : asetD b (.h k) i (.t d) S = .ok () (S.set k (.lst false (zs.set j (.t d)))) := by
  unfold asetD keepIf
  dsimp only
  rw [bd_ok', h]
  dsimp only
  rw [hi]
theorem atI_map {α β : Type} {f : α → β} {l : List α} {i : Int} : atI (l.map f) i = (atI l i).map f := by
  unfold atI
  rw [List.length_map]
  cases ixN l.length i with
  | none => rfl
  | some j => simp
theorem atI_nat {α : Type} {l : List α} {i : Int} (h0 : 0 ≤ i) (h : i < l.length) : atI l i = l[i.toNat]? := by
  unfold atI ixN
  rw [if_pos h0, if_pos h]; rfl
theorem len_lst {m : Bool} {ds : List Dt} : b1D .len m (.t (.lst ds)) S = .ok (.t (.int ds.length)) S := by
  show Res.ok (Wd.t (.int ((ds.map Wd.t).length : Nat))) S = _
  rw [List.length_map]
theorem len_tup {m : Bool} {ds : List Dt} : b1D .len m (.t (.tup ds)) S = .ok (.t (.int ds.length)) S := by
  show Res.ok (Wd.t (.int ((ds.map Wd.t).length : Nat))) S = _
  rw [List.length_map]
theorem set_self {k : Nat} {c c' : Cl} (h : S[k]? = some c) : (S.set k c')[k]? = some c' := by
  have := (List.getElem?_eq_some_iff.mp h).1
  rw [List.getElem?_set_self this]
theorem set_take {k : Nat} {c' : Cl} : (S.set k c').take S.length = S.set k c' := by
  rw [List.take_of_length_le (by rw [List.length_set]; exact Nat.le_refl _)]
end
end Gw

namespace K03
open PySem PySem.Spec PyProof.Rows L2 Gw
def top (i : Nat) : Stmt := PySem.Challenge.pw_gripwood_k03_turns_and_no_mirrors.main.body.getD i (.Pass ⟨0, 0, 0, 0⟩)

def f_is_turn : Fn := ⟨["turn", "way", "numbers", "axes", "backs", "swaps", "number", "at", "to"], 1,
  [.forS (.nm 1 "way" ⟨4, 8, 4, 11⟩) (.seq (.var 0 "turn" ⟨4, 15, 4, 19⟩)) [.ifS (.inS true (.var 1 "way" ⟨5, 11, 5, 14⟩) (.glb "WAYS" ⟨5, 22, 5, 26⟩) ⟨5, 11, 5, 26⟩) [.ret (.lit (.bl false) 0 ⟨6, 19, 6, 24⟩) ⟨6, 12, 6, 24⟩] [] ⟨5, 8, 6, 24⟩] ⟨4, 4, 6, 24⟩,
  .asg (.nm 2 "numbers" ⟨7, 4, 7, 11⟩) (.lc false (.mth .index false (.glb "WAYS" ⟨7, 15, 7, 19⟩) ⟨7, 15, 7, 25⟩ [(.var 1 "way" ⟨7, 26, 7, 29⟩)] ⟨7, 15, 7, 30⟩) (.nm 1 "way" ⟨7, 35, 7, 38⟩) (.seq (.var 0 "turn" ⟨7, 42, 7, 46⟩)) none { kind := .function, names := [(".0", .local), ("way", .local), ("WAYS", .globalImplicit)], isGenerator := false, isCoroutine := false, more := [] } [("way", 1)] ⟨7, 14, 7, 47⟩) ⟨7, 4, 7, 47⟩,
  .asg (.nm 3 "axes" ⟨8, 4, 8, 8⟩) (.lc false (.bin .fdiv false (.var 6 "number" ⟨8, 12, 8, 18⟩) (.lit (.int (2)) 0 ⟨8, 22, 8, 23⟩) ⟨8, 12, 8, 23⟩) (.nm 6 "number" ⟨8, 28, 8, 34⟩) (.seq (.var 2 "numbers" ⟨8, 38, 8, 45⟩)) none { kind := .function, names := [(".0", .local), ("number", .local)], isGenerator := false, isCoroutine := false, more := [] } [("number", 6)] ⟨8, 11, 8, 46⟩) ⟨8, 4, 8, 46⟩,
  .ifS (.eq true (.b1 .sorted false ⟨9, 7, 9, 13⟩ (.var 3 "axes" ⟨9, 14, 9, 18⟩) ⟨9, 7, 9, 19⟩) (.lst false [(.lit (.int (0)) 0 ⟨9, 24, 9, 25⟩), (.lit (.int (1)) 0 ⟨9, 27, 9, 28⟩), (.lit (.int (2)) 0 ⟨9, 30, 9, 31⟩)] ⟨9, 23, 9, 32⟩) ⟨9, 7, 9, 32⟩) [.ret (.lit (.bl false) 0 ⟨10, 15, 10, 20⟩) ⟨10, 8, 10, 20⟩] [] ⟨9, 4, 10, 20⟩,
  .asg (.nm 4 "backs" ⟨11, 4, 11, 9⟩) (.b1 .len false ⟨11, 12, 11, 15⟩ (.lc false (.var 6 "number" ⟨11, 17, 11, 23⟩) (.nm 6 "number" ⟨11, 28, 11, 34⟩) (.seq (.var 2 "numbers" ⟨11, 38, 11, 45⟩)) (some (.eq false (.bin .mod false (.var 6 "number" ⟨11, 49, 11, 55⟩) (.lit (.int (2)) 0 ⟨11, 58, 11, 59⟩) ⟨11, 49, 11, 59⟩) (.lit (.int (1)) 0 ⟨11, 63, 11, 64⟩) ⟨11, 49, 11, 64⟩)) { kind := .function, names := [(".0", .local), ("number", .local)], isGenerator := false, isCoroutine := false, more := [] } [("number", 6)] ⟨11, 16, 11, 65⟩) ⟨11, 12, 11, 66⟩) ⟨11, 4, 11, 66⟩,
  .asg (.nm 5 "swaps" ⟨12, 4, 12, 9⟩) (.b1 .len false ⟨12, 12, 12, 15⟩ (.lc false (.lit (.int (1)) 0 ⟨12, 17, 12, 18⟩) (.tp [(.nm 7 "at" ⟨12, 23, 12, 25⟩), (.nm 8 "to" ⟨12, 27, 12, 29⟩)] 0 ⟨12, 23, 12, 29⟩) (.seq (.tup [(.tup [(.lit (.int (0)) 0 ⟨12, 35, 12, 36⟩), (.lit (.int (1)) 0 ⟨12, 38, 12, 39⟩)] 0 ⟨12, 34, 12, 40⟩), (.tup [(.lit (.int (0)) 0 ⟨12, 43, 12, 44⟩), (.lit (.int (2)) 0 ⟨12, 46, 12, 47⟩)] 0 ⟨12, 42, 12, 48⟩), (.tup [(.lit (.int (1)) 0 ⟨12, 51, 12, 52⟩), (.lit (.int (2)) 0 ⟨12, 54, 12, 55⟩)] 0 ⟨12, 50, 12, 56⟩)] 0 ⟨12, 33, 12, 57⟩)) (some (.cmp .gt (.idx (.var 3 "axes" ⟨12, 61, 12, 65⟩) (.var 7 "at" ⟨12, 66, 12, 68⟩) ⟨12, 61, 12, 69⟩) (.idx (.var 3 "axes" ⟨12, 72, 12, 76⟩) (.var 8 "to" ⟨12, 77, 12, 79⟩) ⟨12, 72, 12, 80⟩) ⟨12, 61, 12, 80⟩)) { kind := .function, names := [(".0", .local), ("at", .local), ("to", .local), ("axes", .free)], isGenerator := false, isCoroutine := false, more := [] } [("at", 7), ("to", 8)] ⟨12, 16, 12, 81⟩) ⟨12, 12, 12, 82⟩) ⟨12, 4, 12, 82⟩,
  .ret (.eq false (.bin .mod false (.bin .add false (.var 4 "backs" ⟨13, 12, 13, 17⟩) (.var 5 "swaps" ⟨13, 20, 13, 25⟩) ⟨13, 12, 13, 25⟩) (.lit (.int (2)) 0 ⟨13, 29, 13, 30⟩) ⟨13, 11, 13, 30⟩) (.lit (.int (0)) 0 ⟨13, 34, 13, 35⟩) ⟨13, 11, 13, 35⟩) ⟨13, 4, 13, 35⟩]⟩

def f_turns : Fn := ⟨["found", "east", "north", "up"], 0,
  [.asg (.nm 0 "found" ⟨15, 4, 15, 9⟩) (.lst true [] ⟨15, 12, 15, 14⟩) ⟨15, 4, 15, 14⟩,
  .forS (.nm 1 "east" ⟨16, 8, 16, 12⟩) (.seq (.glb "WAYS" ⟨16, 16, 16, 20⟩)) [.forS (.nm 2 "north" ⟨17, 12, 17, 17⟩) (.seq (.glb "WAYS" ⟨17, 21, 17, 25⟩)) [.expr (.mth .extend false (.var 0 "found" ⟨18, 12, 18, 17⟩) ⟨18, 12, 18, 24⟩ [(.lc true (.tup [(.var 1 "east" ⟨18, 27, 18, 31⟩), (.var 2 "north" ⟨18, 33, 18, 38⟩), (.var 3 "up" ⟨18, 40, 18, 42⟩)] 0 ⟨18, 26, 18, 43⟩) (.nm 3 "up" ⟨18, 48, 18, 50⟩) (.seq (.glb "WAYS" ⟨18, 54, 18, 58⟩)) (some (.call "is_turn" false ⟨18, 62, 18, 69⟩ [(.tup [(.var 1 "east" ⟨18, 71, 18, 75⟩), (.var 2 "north" ⟨18, 77, 18, 82⟩), (.var 3 "up" ⟨18, 84, 18, 86⟩)] 0 ⟨18, 70, 18, 87⟩)] ⟨18, 62, 18, 88⟩)) { kind := .function, names := [(".0", .local), ("up", .local), ("is_turn", .globalImplicit), ("east", .free), ("north", .free)], isGenerator := false, isCoroutine := false, more := [] } [("up", 3)] ⟨18, 25, 18, 89⟩)] ⟨18, 12, 18, 90⟩) ⟨18, 12, 18, 90⟩] ⟨17, 8, 18, 90⟩] ⟨16, 4, 18, 90⟩,
  .ret (.b1 .sorted true ⟨19, 11, 19, 17⟩ (.var 0 "found" ⟨19, 18, 19, 23⟩) ⟨19, 11, 19, 24⟩) ⟨19, 4, 19, 24⟩]⟩

def f_law_feed : Fn := ⟨["_law_script"], 1,
  [.ret (.lst true [(.b1 .list false ⟨22, 12, 22, 16⟩ (.slc false (.var 0 "_law_script" ⟨22, 17, 22, 28⟩) none (some (.lit (.int (63)) 0 ⟨22, 30, 22, 32⟩)) ⟨22, 29, 22, 32⟩ ⟨22, 17, 22, 33⟩) ⟨22, 12, 22, 34⟩), (.lit (.int (0)) 0 ⟨22, 36, 22, 37⟩), (.lit (.int (0)) 0 ⟨22, 39, 22, 40⟩), (.lit (.int (1)) 0 ⟨22, 42, 22, 43⟩)] ⟨22, 11, 22, 44⟩) ⟨22, 4, 22, 44⟩]⟩

def f_law_draw : Fn := ⟨["_law_feed_here", "_law_many", "_law_cell", "_law_digit"], 2,
  [.ifS (.cmp .lt (.idx (.var 0 "_law_feed_here" ⟨24, 7, 24, 21⟩) (.lit (.int (2)) 0 ⟨24, 22, 24, 23⟩) ⟨24, 7, 24, 24⟩) (.lit (.int (2)) 0 ⟨24, 27, 24, 28⟩) ⟨24, 7, 24, 28⟩) [.asg (.nm 2 "_law_cell" ⟨25, 8, 25, 17⟩) (.lit (.int (17)) 0 ⟨25, 20, 25, 22⟩) ⟨25, 8, 25, 22⟩,
  .ifS (.cmp .lt (.idx (.var 0 "_law_feed_here" ⟨26, 11, 26, 25⟩) (.lit (.int (1)) 0 ⟨26, 26, 26, 27⟩) ⟨26, 11, 26, 28⟩) (.b1 .len false ⟨26, 31, 26, 34⟩ (.idx (.var 0 "_law_feed_here" ⟨26, 35, 26, 49⟩) (.lit (.int (0)) 0 ⟨26, 50, 26, 51⟩) ⟨26, 35, 26, 52⟩) ⟨26, 31, 26, 53⟩) ⟨26, 11, 26, 53⟩) [.asg (.nm 2 "_law_cell" ⟨27, 12, 27, 21⟩) (.idx (.idx (.var 0 "_law_feed_here" ⟨27, 24, 27, 38⟩) (.lit (.int (0)) 0 ⟨27, 39, 27, 40⟩) ⟨27, 24, 27, 41⟩) (.idx (.var 0 "_law_feed_here" ⟨27, 42, 27, 56⟩) (.lit (.int (1)) 0 ⟨27, 57, 27, 58⟩) ⟨27, 42, 27, 59⟩) ⟨27, 24, 27, 60⟩) ⟨27, 12, 27, 60⟩] [] ⟨26, 8, 27, 60⟩,
  .aset (.var 0 "_law_feed_here" ⟨28, 8, 28, 22⟩) (.lit (.int (1)) 0 ⟨28, 23, 28, 24⟩) ⟨28, 8, 28, 25⟩ (.bin .add false (.idx (.var 0 "_law_feed_here" ⟨28, 28, 28, 42⟩) (.lit (.int (1)) 0 ⟨28, 43, 28, 44⟩) ⟨28, 28, 28, 45⟩) (.lit (.int (1)) 0 ⟨28, 48, 28, 49⟩) ⟨28, 28, 28, 49⟩) ⟨28, 8, 28, 49⟩,
  .aset (.var 0 "_law_feed_here" ⟨29, 8, 29, 22⟩) (.lit (.int (3)) 0 ⟨29, 23, 29, 24⟩) ⟨29, 8, 29, 25⟩ (.bin .mod false (.bin .add false (.bin .add false (.bin .mul false (.idx (.var 0 "_law_feed_here" ⟨29, 29, 29, 43⟩) (.lit (.int (3)) 0 ⟨29, 44, 29, 45⟩) ⟨29, 29, 29, 46⟩) (.lit (.int (104651)) 0 ⟨29, 49, 29, 55⟩) ⟨29, 29, 29, 55⟩) (.bin .mod false (.var 2 "_law_cell" ⟨29, 58, 29, 67⟩) (.lit (.int (1000000007)) 0 ⟨29, 70, 29, 80⟩) ⟨29, 58, 29, 80⟩) ⟨29, 29, 29, 80⟩) (.bin .mul false (.lit (.int (31)) 0 ⟨29, 83, 29, 85⟩) (.idx (.var 0 "_law_feed_here" ⟨29, 88, 29, 102⟩) (.lit (.int (1)) 0 ⟨29, 103, 29, 104⟩) ⟨29, 88, 29, 105⟩) ⟨29, 83, 29, 105⟩) ⟨29, 29, 29, 105⟩) (.lit (.int (2147483629)) 0 ⟨29, 109, 29, 119⟩) ⟨29, 28, 29, 119⟩) ⟨29, 8, 29, 119⟩,
  .ifS (.cmp .ge (.var 2 "_law_cell" ⟨30, 11, 30, 20⟩) (.bin .pow false (.lit (.int (10)) 0 ⟨30, 24, 30, 26⟩) (.lit (.int (18)) 0 ⟨30, 30, 30, 32⟩) ⟨30, 24, 30, 32⟩) ⟨30, 11, 30, 32⟩) [.aset (.var 0 "_law_feed_here" ⟨31, 12, 31, 26⟩) (.lit (.int (2)) 0 ⟨31, 27, 31, 28⟩) ⟨31, 12, 31, 29⟩ (.var 2 "_law_cell" ⟨31, 32, 31, 41⟩) ⟨31, 12, 31, 41⟩] [] ⟨30, 8, 31, 41⟩] [] ⟨24, 4, 31, 41⟩,
  .ifS (.cmp .gt (.idx (.var 0 "_law_feed_here" ⟨32, 7, 32, 21⟩) (.lit (.int (2)) 0 ⟨32, 22, 32, 23⟩) ⟨32, 7, 32, 24⟩) (.lit (.int (1)) 0 ⟨32, 27, 32, 28⟩) ⟨32, 7, 32, 28⟩) [.asg (.nm 3 "_law_digit" ⟨33, 8, 33, 18⟩) (.bin .mod false (.idx (.var 0 "_law_feed_here" ⟨33, 21, 33, 35⟩) (.lit (.int (2)) 0 ⟨33, 36, 33, 37⟩) ⟨33, 21, 33, 38⟩) (.var 1 "_law_many" ⟨33, 41, 33, 50⟩) ⟨33, 21, 33, 50⟩) ⟨33, 8, 33, 50⟩,
  .aset (.var 0 "_law_feed_here" ⟨34, 8, 34, 22⟩) (.lit (.int (2)) 0 ⟨34, 23, 34, 24⟩) ⟨34, 8, 34, 25⟩ (.bin .fdiv false (.idx (.var 0 "_law_feed_here" ⟨34, 28, 34, 42⟩) (.lit (.int (2)) 0 ⟨34, 43, 34, 44⟩) ⟨34, 28, 34, 45⟩) (.var 1 "_law_many" ⟨34, 49, 34, 58⟩) ⟨34, 28, 34, 58⟩) ⟨34, 8, 34, 58⟩,
  .ret (.var 3 "_law_digit" ⟨35, 15, 35, 25⟩) ⟨35, 8, 35, 25⟩] [] ⟨32, 4, 35, 25⟩,
  .ret (.bin .mod false (.bin .fdiv false (.bin .mod false (.bin .mul false (.idx (.var 0 "_law_feed_here" ⟨36, 11, 36, 25⟩) (.lit (.int (3)) 0 ⟨36, 26, 36, 27⟩) ⟨36, 11, 36, 28⟩) (.lit (.int (52391)) 0 ⟨36, 31, 36, 36⟩) ⟨36, 11, 36, 36⟩) (.lit (.int (2147483587)) 0 ⟨36, 39, 36, 49⟩) ⟨36, 11, 36, 49⟩) (.lit (.int (5)) 0 ⟨36, 53, 36, 54⟩) ⟨36, 11, 36, 54⟩) (.var 1 "_law_many" ⟨36, 57, 36, 66⟩) ⟨36, 11, 36, 66⟩) ⟨36, 4, 36, 66⟩]⟩

def f_law_whole : Fn := ⟨["_law_found"], 1,
  [.ret (.bop true [(.isi ⟨38, 11, 38, 21⟩ (.var 0 "_law_found" ⟨38, 22, 38, 32⟩) .int ⟨38, 34, 38, 37⟩ ⟨38, 11, 38, 38⟩), (.not (.isi ⟨38, 48, 38, 58⟩ (.var 0 "_law_found" ⟨38, 59, 38, 69⟩) .bool ⟨38, 71, 38, 75⟩ ⟨38, 48, 38, 76⟩) ⟨38, 44, 38, 76⟩)] ⟨38, 11, 38, 77⟩) ⟨38, 4, 38, 77⟩]⟩

def f_law_same : Fn := ⟨["_law_found", "_law_due", "_law_k"], 2,
  [.ifS (.isN false (.var 1 "_law_due" ⟨40, 7, 40, 15⟩) 0 ⟨40, 19, 40, 23⟩ ⟨40, 7, 40, 23⟩) [.ret (.isN false (.var 0 "_law_found" ⟨41, 15, 41, 25⟩) 0 ⟨41, 29, 41, 33⟩ ⟨41, 15, 41, 33⟩) ⟨41, 8, 41, 33⟩] [] ⟨40, 4, 41, 33⟩,
  .ifS (.isi ⟨42, 7, 42, 17⟩ (.var 1 "_law_due" ⟨42, 18, 42, 26⟩) .bool ⟨42, 28, 42, 32⟩ ⟨42, 7, 42, 33⟩) [.ret (.bop true [(.isi ⟨43, 15, 43, 25⟩ (.var 0 "_law_found" ⟨43, 26, 43, 36⟩) .bool ⟨43, 38, 43, 42⟩ ⟨43, 15, 43, 43⟩), (.eq false (.var 0 "_law_found" ⟨43, 48, 43, 58⟩) (.var 1 "_law_due" ⟨43, 62, 43, 70⟩) ⟨43, 48, 43, 70⟩)] ⟨43, 15, 43, 70⟩) ⟨43, 8, 43, 70⟩] [] ⟨42, 4, 43, 70⟩,
  .ifS (.isi ⟨44, 7, 44, 17⟩ (.var 1 "_law_due" ⟨44, 18, 44, 26⟩) .int ⟨44, 28, 44, 31⟩ ⟨44, 7, 44, 32⟩) [.ret (.bop true [(.call "_law_whole" false ⟨45, 15, 45, 25⟩ [(.var 0 "_law_found" ⟨45, 26, 45, 36⟩)] ⟨45, 15, 45, 37⟩), (.eq false (.var 0 "_law_found" ⟨45, 42, 45, 52⟩) (.var 1 "_law_due" ⟨45, 56, 45, 64⟩) ⟨45, 42, 45, 64⟩)] ⟨45, 15, 45, 64⟩) ⟨45, 8, 45, 64⟩] [] ⟨44, 4, 45, 64⟩,
  .ifS (.isi ⟨46, 7, 46, 17⟩ (.var 1 "_law_due" ⟨46, 18, 46, 26⟩) .str ⟨46, 28, 46, 31⟩ ⟨46, 7, 46, 32⟩) [.ret (.bop true [(.isi ⟨47, 15, 47, 25⟩ (.var 0 "_law_found" ⟨47, 26, 47, 36⟩) .str ⟨47, 38, 47, 41⟩ ⟨47, 15, 47, 42⟩), (.eq false (.var 0 "_law_found" ⟨47, 47, 47, 57⟩) (.var 1 "_law_due" ⟨47, 61, 47, 69⟩) ⟨47, 47, 47, 69⟩)] ⟨47, 15, 47, 69⟩) ⟨47, 8, 47, 69⟩] [] ⟨46, 4, 47, 69⟩,
  .ifS (.bop false [(.eq true (.isi ⟨48, 7, 48, 17⟩ (.var 1 "_law_due" ⟨48, 18, 48, 26⟩) .list ⟨48, 28, 48, 32⟩ ⟨48, 7, 48, 33⟩) (.isi ⟨48, 37, 48, 47⟩ (.var 0 "_law_found" ⟨48, 48, 48, 58⟩) .list ⟨48, 60, 48, 64⟩ ⟨48, 37, 48, 65⟩) ⟨48, 7, 48, 65⟩), (.eq true (.isi ⟨48, 69, 48, 79⟩ (.var 1 "_law_due" ⟨48, 80, 48, 88⟩) .tuple ⟨48, 90, 48, 95⟩ ⟨48, 69, 48, 96⟩) (.isi ⟨48, 100, 48, 110⟩ (.var 0 "_law_found" ⟨48, 111, 48, 121⟩) .tuple ⟨48, 123, 48, 128⟩ ⟨48, 100, 48, 129⟩) ⟨48, 69, 48, 129⟩)] ⟨48, 7, 48, 129⟩) [.ret (.lit (.bl false) 0 ⟨49, 15, 49, 20⟩) ⟨49, 8, 49, 20⟩] [] ⟨48, 4, 49, 20⟩,
  .ifS (.eq true (.b1 .len false ⟨50, 7, 50, 10⟩ (.var 0 "_law_found" ⟨50, 11, 50, 21⟩) ⟨50, 7, 50, 22⟩) (.b1 .len false ⟨50, 26, 50, 29⟩ (.var 1 "_law_due" ⟨50, 30, 50, 38⟩) ⟨50, 26, 50, 39⟩) ⟨50, 7, 50, 39⟩) [.ret (.lit (.bl false) 0 ⟨51, 15, 51, 20⟩) ⟨51, 8, 51, 20⟩] [] ⟨50, 4, 51, 20⟩,
  .ret (.b1 .all false ⟨52, 11, 52, 14⟩ (.lc false (.call "_law_same" false ⟨52, 16, 52, 25⟩ [(.idx (.var 0 "_law_found" ⟨52, 26, 52, 36⟩) (.var 2 "_law_k" ⟨52, 37, 52, 43⟩) ⟨52, 26, 52, 44⟩), (.idx (.var 1 "_law_due" ⟨52, 46, 52, 54⟩) (.var 2 "_law_k" ⟨52, 55, 52, 61⟩) ⟨52, 46, 52, 62⟩)] ⟨52, 16, 52, 63⟩) (.nm 2 "_law_k" ⟨52, 68, 52, 74⟩) (.rng1 ⟨52, 78, 52, 83⟩ (.b1 .len false ⟨52, 84, 52, 87⟩ (.var 1 "_law_due" ⟨52, 88, 52, 96⟩) ⟨52, 84, 52, 97⟩) ⟨52, 78, 52, 98⟩) none { kind := .function, names := [(".0", .local), ("_law_k", .local), ("_law_same", .globalImplicit), ("_law_due", .free), ("_law_found", .free)], isGenerator := false, isCoroutine := false, more := [] } [("_law_k", 2)] ⟨52, 15, 52, 99⟩) ⟨52, 11, 52, 100⟩) ⟨52, 4, 52, 100⟩]⟩

def f_law_ways : Fn := ⟨[], 0,
  [.ret (.lst false [(.lit (.str "east") 0 ⟨54, 12, 54, 18⟩), (.lit (.str "west") 0 ⟨54, 20, 54, 26⟩), (.lit (.str "north") 0 ⟨54, 28, 54, 35⟩), (.lit (.str "south") 0 ⟨54, 37, 54, 44⟩), (.lit (.str "up") 0 ⟨54, 46, 54, 50⟩), (.lit (.str "down") 0 ⟨54, 52, 54, 58⟩)] ⟨54, 11, 54, 59⟩) ⟨54, 4, 54, 59⟩]⟩

def f_law_back : Fn := ⟨["_law_way"], 1,
  [.ret (.idx (.lst false [(.lit (.str "west") 0 ⟨56, 12, 56, 18⟩), (.lit (.str "east") 0 ⟨56, 20, 56, 26⟩), (.lit (.str "south") 0 ⟨56, 28, 56, 35⟩), (.lit (.str "north") 0 ⟨56, 37, 56, 44⟩), (.lit (.str "down") 0 ⟨56, 46, 56, 52⟩), (.lit (.str "up") 0 ⟨56, 54, 56, 58⟩)] ⟨56, 11, 56, 59⟩) (.mth .index false (.call "_law_ways" false ⟨56, 60, 56, 69⟩ [] ⟨56, 60, 56, 71⟩) ⟨56, 60, 56, 77⟩ [(.var 0 "_law_way" ⟨56, 78, 56, 86⟩)] ⟨56, 60, 56, 87⟩) ⟨56, 11, 56, 88⟩) ⟨56, 4, 56, 88⟩]⟩

def f_law_led : Fn := ⟨["_law_way", "_law_turn", "_law_at"], 2,
  [.asg (.nm 2 "_law_at" ⟨58, 4, 58, 11⟩) (.mth .index false (.call "_law_ways" false ⟨58, 14, 58, 23⟩ [] ⟨58, 14, 58, 25⟩) ⟨58, 14, 58, 31⟩ [(.var 0 "_law_way" ⟨58, 32, 58, 40⟩)] ⟨58, 14, 58, 41⟩) ⟨58, 4, 58, 41⟩,
  .ifS (.eq false (.bin .mod false (.var 2 "_law_at" ⟨59, 7, 59, 14⟩) (.lit (.int (2)) 0 ⟨59, 17, 59, 18⟩) ⟨59, 7, 59, 18⟩) (.lit (.int (1)) 0 ⟨59, 22, 59, 23⟩) ⟨59, 7, 59, 23⟩) [.ret (.call "_law_back" false ⟨60, 15, 60, 24⟩ [(.idx (.var 1 "_law_turn" ⟨60, 25, 60, 34⟩) (.bin .fdiv false (.var 2 "_law_at" ⟨60, 35, 60, 42⟩) (.lit (.int (2)) 0 ⟨60, 46, 60, 47⟩) ⟨60, 35, 60, 47⟩) ⟨60, 25, 60, 48⟩)] ⟨60, 15, 60, 49⟩) ⟨60, 8, 60, 49⟩] [] ⟨59, 4, 60, 49⟩,
  .ret (.idx (.var 1 "_law_turn" ⟨61, 11, 61, 20⟩) (.bin .fdiv false (.var 2 "_law_at" ⟨61, 21, 61, 28⟩) (.lit (.int (2)) 0 ⟨61, 32, 61, 33⟩) ⟨61, 21, 61, 33⟩) ⟨61, 11, 61, 34⟩) ⟨61, 4, 61, 34⟩]⟩

def f_law_after : Fn := ⟨["_law_one", "_law_other", "_law_way"], 2,
  [.ret (.b1 .tuple false ⟨63, 11, 63, 16⟩ (.lc false (.call "_law_led" false ⟨63, 18, 63, 26⟩ [(.var 2 "_law_way" ⟨63, 27, 63, 35⟩), (.var 1 "_law_other" ⟨63, 37, 63, 47⟩)] ⟨63, 18, 63, 48⟩) (.nm 2 "_law_way" ⟨63, 53, 63, 61⟩) (.seq (.var 0 "_law_one" ⟨63, 65, 63, 73⟩)) none { kind := .function, names := [(".0", .local), ("_law_way", .local), ("_law_led", .globalImplicit), ("_law_other", .free)], isGenerator := false, isCoroutine := false, more := [] } [("_law_way", 2)] ⟨63, 17, 63, 74⟩) ⟨63, 11, 63, 75⟩) ⟨63, 4, 63, 75⟩]⟩

def f_law_turns : Fn := ⟨["_law_found", "_law_at", "_law_more", "_law_turn"], 0,
  [.asg (.nm 0 "_law_found" ⟨65, 4, 65, 14⟩) (.lst true [(.tup [(.lit (.str "east") 0 ⟨65, 19, 65, 25⟩), (.lit (.str "north") 0 ⟨65, 27, 65, 34⟩), (.lit (.str "up") 0 ⟨65, 36, 65, 40⟩)] 0 ⟨65, 18, 65, 41⟩)] ⟨65, 17, 65, 42⟩) ⟨65, 4, 65, 42⟩,
  .asg (.nm 1 "_law_at" ⟨66, 4, 66, 11⟩) (.lit (.int (0)) 0 ⟨66, 14, 66, 15⟩) ⟨66, 4, 66, 15⟩,
  .whl (.cmp .lt (.var 1 "_law_at" ⟨67, 10, 67, 17⟩) (.b1 .len false ⟨67, 20, 67, 23⟩ (.var 0 "_law_found" ⟨67, 24, 67, 34⟩) ⟨67, 20, 67, 35⟩) ⟨67, 10, 67, 35⟩) [.forS (.nm 2 "_law_more" ⟨68, 12, 68, 21⟩) (.seq (.lst false [(.tup [(.lit (.str "north") 0 ⟨68, 27, 68, 34⟩), (.lit (.str "west") 0 ⟨68, 36, 68, 42⟩), (.lit (.str "up") 0 ⟨68, 44, 68, 48⟩)] 0 ⟨68, 26, 68, 49⟩), (.tup [(.lit (.str "north") 0 ⟨68, 52, 68, 59⟩), (.lit (.str "up") 0 ⟨68, 61, 68, 65⟩), (.lit (.str "east") 0 ⟨68, 67, 68, 73⟩)] 0 ⟨68, 51, 68, 74⟩)] ⟨68, 25, 68, 75⟩)) [.asg (.nm 3 "_law_turn" ⟨69, 12, 69, 21⟩) (.call "_law_after" false ⟨69, 24, 69, 34⟩ [(.idx (.var 0 "_law_found" ⟨69, 35, 69, 45⟩) (.var 1 "_law_at" ⟨69, 46, 69, 53⟩) ⟨69, 35, 69, 54⟩), (.var 2 "_law_more" ⟨69, 56, 69, 65⟩)] ⟨69, 24, 69, 66⟩) ⟨69, 12, 69, 66⟩,
  .ifS (.inS true (.var 3 "_law_turn" ⟨70, 15, 70, 24⟩) (.var 0 "_law_found" ⟨70, 32, 70, 42⟩) ⟨70, 15, 70, 42⟩) [.expr (.mth .append false (.var 0 "_law_found" ⟨71, 16, 71, 26⟩) ⟨71, 16, 71, 33⟩ [(.var 3 "_law_turn" ⟨71, 34, 71, 43⟩)] ⟨71, 16, 71, 44⟩) ⟨71, 16, 71, 44⟩] [] ⟨70, 12, 71, 44⟩] ⟨68, 8, 71, 44⟩,
  .asg (.nm 1 "_law_at" ⟨72, 8, 72, 15⟩) (.bin .add false (.var 1 "_law_at" ⟨72, 18, 72, 25⟩) (.lit (.int (1)) 0 ⟨72, 28, 72, 29⟩) ⟨72, 18, 72, 29⟩) ⟨72, 8, 72, 29⟩] ⟨67, 4, 72, 29⟩,
  .ret (.b1 .sorted false ⟨73, 11, 73, 17⟩ (.var 0 "_law_found" ⟨73, 18, 73, 28⟩) ⟨73, 11, 73, 29⟩) ⟨73, 4, 73, 29⟩]⟩

def f_law : Fn := ⟨["_law_script", "_law_feed_here", "_law_due", "_law_texts", "_law_k", "_law_turn", "_law_found", "_law_told", "_law_j"], 1,
  [.asg (.nm 1 "_law_feed_here" ⟨75, 4, 75, 18⟩) (.call "_law_feed" true ⟨75, 21, 75, 30⟩ [(.var 0 "_law_script" ⟨75, 31, 75, 42⟩)] ⟨75, 21, 75, 43⟩) ⟨75, 4, 75, 43⟩,
  .asg (.nm 2 "_law_due" ⟨76, 4, 76, 12⟩) (.call "_law_turns" false ⟨76, 15, 76, 25⟩ [] ⟨76, 15, 76, 27⟩) ⟨76, 4, 76, 27⟩,
  .asg (.nm 3 "_law_texts" ⟨77, 4, 77, 14⟩) (.bin .add false (.call "_law_ways" false ⟨77, 17, 77, 26⟩ [] ⟨77, 17, 77, 28⟩) (.lst false [(.lit (.str "") 0 ⟨77, 32, 77, 34⟩), (.lit (.str "East") 0 ⟨77, 36, 77, 42⟩), (.lit (.str "long") 0 ⟨77, 44, 77, 50⟩), (.lit (.str "up ") 0 ⟨77, 52, 77, 57⟩)] ⟨77, 31, 77, 58⟩) ⟨77, 17, 77, 58⟩) ⟨77, 4, 77, 58⟩,
  .forS (.nm 4 "_law_k" ⟨78, 8, 78, 14⟩) (.rng1 ⟨78, 18, 78, 23⟩ (.lit (.int (12)) 0 ⟨78, 24, 78, 26⟩) ⟨78, 18, 78, 27⟩) [.asg (.nm 5 "_law_turn" ⟨79, 8, 79, 17⟩) (.b1 .tuple false ⟨79, 20, 79, 25⟩ (.lc false (.idx (.var 3 "_law_texts" ⟨79, 27, 79, 37⟩) (.call "_law_draw" false ⟨79, 38, 79, 47⟩ [(.var 1 "_law_feed_here" ⟨79, 48, 79, 62⟩), (.bin .add false (.lit (.int (6)) 0 ⟨79, 64, 79, 65⟩) (.bin .mul false (.lit (.int (4)) 0 ⟨79, 68, 79, 69⟩) (.bin .mod false (.var 4 "_law_k" ⟨79, 73, 79, 79⟩) (.lit (.int (2)) 0 ⟨79, 82, 79, 83⟩) ⟨79, 73, 79, 83⟩) ⟨79, 68, 79, 84⟩) ⟨79, 64, 79, 84⟩)] ⟨79, 38, 79, 85⟩) ⟨79, 27, 79, 86⟩) (.nm 8 "_law_j" ⟨79, 91, 79, 97⟩) (.rng1 ⟨79, 101, 79, 106⟩ (.lit (.int (3)) 0 ⟨79, 107, 79, 108⟩) ⟨79, 101, 79, 109⟩) none { kind := .function, names := [(".0", .local), ("_law_j", .local), ("_law_draw", .globalImplicit), ("_law_feed_here", .free), ("_law_k", .free), ("_law_texts", .free)], isGenerator := false, isCoroutine := false, more := [] } [("_law_j", 8)] ⟨79, 26, 79, 110⟩) ⟨79, 20, 79, 111⟩) ⟨79, 8, 79, 111⟩,
  .asg (.nm 6 "_law_found" ⟨80, 8, 80, 18⟩) (.call "is_turn" false ⟨80, 21, 80, 28⟩ [(.var 5 "_law_turn" ⟨80, 29, 80, 38⟩)] ⟨80, 21, 80, 39⟩) ⟨80, 8, 80, 39⟩,
  .ifS (.bop false [(.not (.isi ⟨81, 15, 81, 25⟩ (.var 6 "_law_found" ⟨81, 26, 81, 36⟩) .bool ⟨81, 38, 81, 42⟩ ⟨81, 15, 81, 43⟩) ⟨81, 11, 81, 43⟩), (.eq true (.var 6 "_law_found" ⟨81, 47, 81, 57⟩) (.inS false (.var 5 "_law_turn" ⟨81, 62, 81, 71⟩) (.var 2 "_law_due" ⟨81, 75, 81, 83⟩) ⟨81, 62, 81, 83⟩) ⟨81, 47, 81, 84⟩)] ⟨81, 11, 81, 84⟩) [.ret (.lit (.bl false) 0 ⟨82, 19, 82, 24⟩) ⟨82, 12, 82, 24⟩] [] ⟨81, 8, 82, 24⟩] ⟨78, 4, 82, 24⟩,
  .forS (.nm 5 "_law_turn" ⟨83, 8, 83, 17⟩) (.seq (.var 2 "_law_due" ⟨83, 21, 83, 29⟩)) [.ifS (.bop false [(.isB true (.call "is_turn" false ⟨84, 11, 84, 18⟩ [(.var 5 "_law_turn" ⟨84, 19, 84, 28⟩)] ⟨84, 11, 84, 29⟩) (.lit (.bl true) 0 ⟨84, 37, 84, 41⟩) ⟨84, 11, 84, 41⟩), (.isB true (.call "is_turn" false ⟨84, 45, 84, 52⟩ [(.tup [(.idx (.var 5 "_law_turn" ⟨84, 54, 84, 63⟩) (.lit (.int (1)) 0 ⟨84, 64, 84, 65⟩) ⟨84, 54, 84, 66⟩), (.idx (.var 5 "_law_turn" ⟨84, 68, 84, 77⟩) (.lit (.int (0)) 0 ⟨84, 78, 84, 79⟩) ⟨84, 68, 84, 80⟩), (.idx (.var 5 "_law_turn" ⟨84, 82, 84, 91⟩) (.lit (.int (2)) 0 ⟨84, 92, 84, 93⟩) ⟨84, 82, 84, 94⟩)] 0 ⟨84, 53, 84, 95⟩)] ⟨84, 45, 84, 96⟩) (.lit (.bl false) 0 ⟨84, 104, 84, 109⟩) ⟨84, 45, 84, 109⟩)] ⟨84, 11, 84, 109⟩) [.ret (.lit (.bl false) 0 ⟨85, 19, 85, 24⟩) ⟨85, 12, 85, 24⟩] [] ⟨84, 8, 85, 24⟩] ⟨83, 4, 85, 24⟩,
  .asg (.nm 7 "_law_told" ⟨86, 4, 86, 13⟩) (.call "turns" true ⟨86, 16, 86, 21⟩ [] ⟨86, 16, 86, 23⟩) ⟨86, 4, 86, 23⟩,
  .ifS (.bop false [(.not (.call "_law_same" false ⟨87, 11, 87, 20⟩ [(.var 7 "_law_told" ⟨87, 21, 87, 30⟩), (.var 2 "_law_due" ⟨87, 32, 87, 40⟩)] ⟨87, 11, 87, 41⟩) ⟨87, 7, 87, 41⟩), (.eq true (.b1 .len false ⟨87, 45, 87, 48⟩ (.var 7 "_law_told" ⟨87, 49, 87, 58⟩) ⟨87, 45, 87, 59⟩) (.lit (.int (24)) 0 ⟨87, 63, 87, 65⟩) ⟨87, 45, 87, 65⟩)] ⟨87, 7, 87, 65⟩) [.ret (.lit (.bl false) 0 ⟨88, 15, 88, 20⟩) ⟨88, 8, 88, 20⟩] [] ⟨87, 4, 88, 20⟩,
  .expr (.mth .pop false (.var 7 "_law_told" ⟨89, 4, 89, 13⟩) ⟨89, 4, 89, 17⟩ [] ⟨89, 4, 89, 19⟩) ⟨89, 4, 89, 19⟩,
  .ret (.call "_law_same" false ⟨90, 11, 90, 20⟩ [(.call "turns" false ⟨90, 21, 90, 26⟩ [] ⟨90, 21, 90, 28⟩), (.var 2 "_law_due" ⟨90, 30, 90, 38⟩)] ⟨90, 11, 90, 39⟩) ⟨90, 4, 90, 39⟩]⟩

def defs : List Df := [⟨"is_turn", top 2, f_is_turn⟩,
  ⟨"turns", top 3, f_turns⟩,
  ⟨"_law_feed", top 5, f_law_feed⟩,
  ⟨"_law_draw", top 6, f_law_draw⟩,
  ⟨"_law_whole", top 7, f_law_whole⟩,
  ⟨"_law_same", top 8, f_law_same⟩,
  ⟨"_law_ways", top 9, f_law_ways⟩,
  ⟨"_law_back", top 10, f_law_back⟩,
  ⟨"_law_led", top 11, f_law_led⟩,
  ⟨"_law_after", top 12, f_law_after⟩,
  ⟨"_law_turns", top 13, f_law_turns⟩,
  ⟨"law", top 14, f_law⟩]

def tb : Tb := ⟨defs, [("WAYS", [.str "east", .str "west", .str "north", .str "south", .str "up", .str "down"])], fun _ => none, fun _ _ => none⟩

def names : List PySem.Str := (["WAYS", "is_turn", "turns", "_law_feed", "_law_draw", "_law_whole", "_law_same", "_law_ways", "_law_back", "_law_led", "_law_after", "_law_turns"] : List PySem.Str)

theorem bodies : defs.map (fun d => defBody d.st) = defs.map (fun d => Sts.s d.F.body) := by kernel_rfl

theorem wfs : (defs.all fun d => d.wf) = true := by decide +kernel

theorem b_f_is_turn : BindT ⟨"is_turn", top 2, f_is_turn⟩ := fun _ _ _ _ _ _ us hl => match us, hl with | [_], _ => rfl

theorem b_f_turns : BindT ⟨"turns", top 3, f_turns⟩ := fun _ _ _ _ _ _ us hl => match us, hl with | [], _ => rfl

theorem b_f_law_feed : BindT ⟨"_law_feed", top 5, f_law_feed⟩ := fun _ _ _ _ _ _ us hl => match us, hl with | [_], _ => rfl

theorem b_f_law_draw : BindT ⟨"_law_draw", top 6, f_law_draw⟩ := fun _ _ _ _ _ _ us hl => match us, hl with | [_, _], _ => rfl

theorem b_f_law_whole : BindT ⟨"_law_whole", top 7, f_law_whole⟩ := fun _ _ _ _ _ _ us hl => match us, hl with | [_], _ => rfl

theorem b_f_law_same : BindT ⟨"_law_same", top 8, f_law_same⟩ := fun _ _ _ _ _ _ us hl => match us, hl with | [_, _], _ => rfl

theorem b_f_law_ways : BindT ⟨"_law_ways", top 9, f_law_ways⟩ := fun _ _ _ _ _ _ us hl => match us, hl with | [], _ => rfl

theorem b_f_law_back : BindT ⟨"_law_back", top 10, f_law_back⟩ := fun _ _ _ _ _ _ us hl => match us, hl with | [_], _ => rfl

theorem b_f_law_led : BindT ⟨"_law_led", top 11, f_law_led⟩ := fun _ _ _ _ _ _ us hl => match us, hl with | [_, _], _ => rfl

theorem b_f_law_after : BindT ⟨"_law_after", top 12, f_law_after⟩ := fun _ _ _ _ _ _ us hl => match us, hl with | [_, _], _ => rfl

theorem b_f_law_turns : BindT ⟨"_law_turns", top 13, f_law_turns⟩ := fun _ _ _ _ _ _ us hl => match us, hl with | [], _ => rfl

theorem b_f_law : BindT ⟨"law", top 14, f_law⟩ := fun _ _ _ _ _ _ us hl => match us, hl with | [_], _ => rfl

theorem binds : Alls BindT defs := ⟨b_f_is_turn, b_f_turns, b_f_law_feed, b_f_law_draw, b_f_law_whole, b_f_law_same, b_f_law_ways, b_f_law_back, b_f_law_led, b_f_law_after, b_f_law_turns, b_f_law, trivial⟩

abbrev R : PySem.W.OpenRow := PySem.W.OpenLaw.row PySem.Challenge.rw_gripwood_k03_turns_and_no_mirrors
abbrev hk : PySem.W.Hook := hookG 4 tb.chk (tb.defs.map Df.d)
def ob (s : PySem.W.SharedT) : He.AlD := obsGG 4 tb.chk (tb.defs.map Df.d) (HandSHeadRun.getT s)
theorem ob_eq (s : PySem.W.SharedT) : ob s = hk.obs s.abs := obsGG_eq (HandSHeadRun.getT_eq s)
theorem run (w : World) : HandSHeadRun.RunEq R (PySem.W.view R.prog [14]) hk ob 4000 names w := by
  intro os
  kernel_rfl
/-- the law's answer, by the interpreter -/
def Ans : Prop := ∀ ns : List Int, ns.length ≤ 63 → ∃ S, evF tb.P 40 "law" true [.t (.lst (ns.map Dt.int))] [] = .ok (.t (.bl true)) S

end K03

open PySem PySem.W PySem.Calls PyProof.Rows in
theorem K03.fin (ans : K03.Ans) : PySem.Challenge.rw_gripwood_k03_turns_and_no_mirrors.Holds := by
  w_on; o_law
  refine HandSHeadRun.head_any (r := OpenLaw.row PySem.Challenge.rw_gripwood_k03_turns_and_no_mirrors) (q := view (OpenLaw.row PySem.Challenge.rw_gripwood_k03_turns_and_no_mirrors).prog [14]) (H := K03.hk) (ob := K03.ob) (M := 4000) (loose := K03.names) (d := HandSHeadRun.topDef (OpenLaw.row PySem.Challenge.rw_gripwood_k03_turns_and_no_mirrors).prog 14) (kwd := []) K03.ob_eq
    (by kernel_rfl) (fun s => by kernel_rfl) K03.run (by kernel_rfl) (by kernel_rfl) (by kernel_rfl) (by rfl) (by first | assumption | decide +kernel) (by decide +kernel) ⟨rfl, rfl, rfl, rfl, rfl, by decide +kernel⟩ ?hw ?hc
  case hw => w_witness2
  case hc =>
    exact Gw.walk_gw (l := PySem.Challenge.rw_gripwood_k03_turns_and_no_mirrors) (t := K03.tb) (n := 40) (F := K03.f_law) (x := "_law_script") rfl (by kernel_rfl) (by kernel_rfl) ⟨rfl, by decide, by decide⟩ (by rfl) (by rfl) (Gw.of_map K03.bodies) (fun d hd => List.all_eq_true.mp K03.wfs d hd) (Gw.Alls.of K03.binds) ans

namespace K03
open Gw
/-- the feed: the script's numbers, the place, the great number, the seed -/
def FeedAt (S : Store) (k : Nat) (xs : List Int) (a b c : Int) : Prop := S[k]? = some (.lst false [.t (.lst (xs.map .int)), .t (.int a), .t (.int b), .t (.int c)])
def feedC (xs : List Int) (a b c : Int) : Cl := .lst false [.t (.lst (xs.map .int)), .t (.int a), .t (.int b), .t (.int c)]
theorem set_same {S : Store} {k : Nat} {c : Cl} (h : S[k]? = some c) : S.set k c = S := by
  apply List.ext_getElem?
  intro j
  by_cases hj : k = j
  · subst hj
    rw [List.getElem?_set_self (List.getElem?_eq_some_iff.mp h).1, h]
  · rw [List.getElem?_set_ne hj]
theorem at4_0 {α : Type} {a b c d : α} : L2.atI [a, b, c, d] 0 = some a := rfl
theorem at4_1 {α : Type} {a b c d : α} : L2.atI [a, b, c, d] 1 = some b := rfl
theorem at4_2 {α : Type} {a b c d : α} : L2.atI [a, b, c, d] 2 = some c := rfl
theorem at4_3 {α : Type} {a b c d : α} : L2.atI [a, b, c, d] 3 = some d := rfl
section
variable {C : Cxt} {ρ : Env} {S : Store} {k : Nat} {xs : List Int} {a b c : Int} {p q r : PySem.Pos} {x : PySem.Str} {e : Ex}
theorem fd_idx (hk : S[k]? = some (feedC xs a b c)) {i : Int} : idxD (.h k) i S = opt S (L2.atI [.t (.lst (xs.map .int)), .t (.int a), .t (.int b), .t (.int c)] i) := idx_cell hk
theorem fd_set1 (hk : S[k]? = some (feedC xs a b c)) {z : Int} {bs : Nat} : asetD bs (.h k) 1 (.t (.int z)) S = .ok () (S.set k (feedC xs z b c)) := aset_cell (j := 1) hk rfl
theorem fd_set2 (hk : S[k]? = some (feedC xs a b c)) {z : Int} {bs : Nat} : asetD bs (.h k) 2 (.t (.int z)) S = .ok () (S.set k (feedC xs a z c)) := aset_cell (j := 2) hk rfl
theorem fd_set3 (hk : S[k]? = some (feedC xs a b c)) {z : Int} {bs : Nat} : asetD bs (.h k) 3 (.t (.int z)) S = .ok () (S.set k (feedC xs a b z)) := aset_cell (j := 3) hk rfl
end
theorem pow18 {m : Bool} {S : Store} : binD m .pow (.t (.int 10)) (.t (.int 18)) S = .ok (.t (.int 1000000000000000000)) S := by
  rw [bin_pow ⟨by decide, by decide, by decide⟩]; rfl
theorem mulr {m : Bool} {S : Store} {i j : Int} (h : -(2 ^ 64) < j ∧ j < 2 ^ 64) : binD m .mul (.t (.int i)) (.t (.int j)) S = .ok (.t (.int (i * j))) S := bin_mul (.inr h)
theorem mull {m : Bool} {S : Store} {i j : Int} (h : -(2 ^ 64) < i ∧ i < 2 ^ 64) : binD m .mul (.t (.int i)) (.t (.int j)) S = .ok (.t (.int (i * j))) S := bin_mul (.inl h)
/-- the part behind the first if -/
theorem draw2 (n bs : Nat) (S : Store) (k : Nat) (xs : List Int) (a b c many : Int) (w2 : Option Wd) (hk : S[k]? = some (feedC xs a b c)) (ha : 0 ≤ a) (hm : 0 < many) (hg : many.natAbs.log2 < 8000) :
    ∃ r a' b' c', execs (cxP tb.P n bs) (f_law_draw.body.drop 1) [some (.h k), some (.t (.int many)), w2, none] S = .rt (.t (.int r)) (S.set k (feedC xs a' b' c')) ∧ 0 ≤ a' ∧ 0 ≤ r ∧ r < many := by
  have m0 : many ≠ 0 := by omega
  simp only [f_law_draw, List.drop, execs_cons, execs_nil, exec, ev, evs, bd_ok', st_ok, opt_some, tst_bl, Lit.d, isInt, isBl, List.getElem?_cons_zero, List.getElem?_cons_succ, cmpD, toOut, bindA, bindT, List.length_cons, List.length_nil, sq_nx, sq_rt, List.set_cons_zero, List.set_cons_succ, Nat.reduceAdd, Nat.reduceLT, if_true, if_false, Bool.false_eq_true, at4_0, at4_1, at4_2, at4_3, bin_add, bin_sub, fd_idx hk, bin_mod hm]
  by_cases hb : 1 < b
  · simp only [hb, decide_true, execs_cons, execs_nil, exec, ev, evs, bd_ok', st_ok, opt_some, tst_bl, Lit.d, isInt, isBl, List.getElem?_cons_zero, List.getElem?_cons_succ, cmpD, toOut, bindA, bindT, List.length_cons, List.length_nil, sq_nx, sq_rt, List.set_cons_zero, List.set_cons_succ, Nat.reduceAdd, Nat.reduceLT, if_true, if_false, Bool.false_eq_true, at4_0, at4_1, at4_2, at4_3, bin_add, bin_sub, fd_idx hk, bin_mod hm, bin_fdiv ⟨hm, hg⟩, fd_set2 hk]
    exact ⟨_, a, _, c, rfl, ha, Int.emod_nonneg _ m0, Int.emod_lt_of_pos _ hm⟩
  · simp only [hb, decide_false, execs_cons, execs_nil, exec, ev, evs, bd_ok', st_ok, opt_some, tst_bl, Lit.d, isInt, isBl, List.getElem?_cons_zero, List.getElem?_cons_succ, cmpD, toOut, bindA, bindT, List.length_cons, List.length_nil, sq_nx, sq_rt, List.set_cons_zero, List.set_cons_succ, Nat.reduceAdd, Nat.reduceLT, if_true, if_false, Bool.false_eq_true, at4_0, at4_1, at4_2, at4_3, bin_add, bin_sub, fd_idx hk, bin_mod hm, mulr (show -(2 ^ 64) < (52391 : Int) ∧ (52391 : Int) < 2 ^ 64 by decide), bin_mod (show (0 : Int) < 2147483587 by decide), bin_fdiv (show (0 : Int) < 5 ∧ (5 : Int).natAbs.log2 < 8000 by decide)]
    exact ⟨c * 52391 % 2147483587 / 5 % many, a, b, c, by rw [set_same hk], ha, Int.emod_nonneg _ m0, Int.emod_lt_of_pos _ hm⟩
theorem drawA (n bs : Nat) (S : Store) (k : Nat) (xs : List Int) (a b c many : Int) (hk : S[k]? = some (feedC xs a b c)) (ha : 0 ≤ a) :
    ∃ a' b' c' w2, exec (cxP tb.P n bs) (f_law_draw.body.headD default) [some (.h k), some (.t (.int many)), none, none] S = .nx [some (.h k), some (.t (.int many)), w2, none] (S.set k (feedC xs a' b' c')) ∧ 0 ≤ a' := by
  simp only [f_law_draw, List.headD, execs_cons, execs_nil, exec, ev, evs, bd_ok', st_ok, opt_some, tst_bl, Lit.d, isInt, isBl, List.getElem?_cons_zero, List.getElem?_cons_succ, cmpD, toOut, bindA, bindT, List.length_cons, List.length_nil, sq_nx, sq_rt, List.set_cons_zero, List.set_cons_succ, Nat.reduceAdd, Nat.reduceLT, if_true, if_false, Bool.false_eq_true, at4_0, at4_1, at4_2, at4_3, bin_add, bin_sub, fd_idx hk]
  by_cases hb : b < 2
  case neg =>
    simp only [hb, decide_false, execs_cons, execs_nil, exec, ev, evs, bd_ok', st_ok, opt_some, tst_bl, Lit.d, isInt, isBl, List.getElem?_cons_zero, List.getElem?_cons_succ, cmpD, toOut, bindA, bindT, List.length_cons, List.length_nil, sq_nx, sq_rt, List.set_cons_zero, List.set_cons_succ, Nat.reduceAdd, Nat.reduceLT, if_true, if_false, Bool.false_eq_true, at4_0, at4_1, at4_2, at4_3, bin_add, bin_sub]
    exact ⟨a, b, c, none, by rw [set_same hk], ha⟩
  simp only [hb, decide_true, execs_cons, execs_nil, exec, ev, evs, bd_ok', st_ok, opt_some, tst_bl, Lit.d, isInt, isBl, List.getElem?_cons_zero, List.getElem?_cons_succ, cmpD, toOut, bindA, bindT, List.length_cons, List.length_nil, sq_nx, sq_rt, List.set_cons_zero, List.set_cons_succ, Nat.reduceAdd, Nat.reduceLT, if_true, if_false, Bool.false_eq_true, at4_0, at4_1, at4_2, at4_3, bin_add, bin_sub, fd_idx hk, Bool.true_eq_false, len_lst, List.length_map]
  have hk1 := set_self (c' := feedC xs (a + 1) b c) hk
  have fin : ∀ v : Int, ∃ a' b' c' w2, ((Out.nx [some (.h k), some (.t (.int many)), some (.t (.int v)), none] S).sq (execs (cxP tb.P n bs) ((match f_law_draw.body with | .ifS _ t _ _ :: _ => t | _ => []).drop 2))) = .nx [some (.h k), some (.t (.int many)), w2, none] (S.set k (feedC xs a' b' c')) ∧ 0 ≤ a' := fun v => by
    simp only [f_law_draw, List.drop, execs_cons, execs_nil, exec, ev, evs, bd_ok', st_ok, opt_some, tst_bl, Lit.d, isInt, isBl, List.getElem?_cons_zero, List.getElem?_cons_succ, cmpD, toOut, bindA, bindT, List.length_cons, List.length_nil, sq_nx, sq_rt, List.set_cons_zero, List.set_cons_succ, Nat.reduceAdd, Nat.reduceLT, if_true, if_false, Bool.false_eq_true, at4_0, at4_1, at4_2, at4_3, bin_add, bin_sub, fd_idx hk, fd_set1 hk]
    simp only [execs_cons, execs_nil, exec, ev, evs, bd_ok', st_ok, opt_some, tst_bl, Lit.d, isInt, isBl, List.getElem?_cons_zero, List.getElem?_cons_succ, cmpD, toOut, bindA, bindT, List.length_cons, List.length_nil, sq_nx, sq_rt, List.set_cons_zero, List.set_cons_succ, Nat.reduceAdd, Nat.reduceLT, if_true, if_false, Bool.false_eq_true, at4_0, at4_1, at4_2, at4_3, bin_add, bin_sub, fd_idx hk1, mulr (show -(2 ^ 64) < (104651 : Int) ∧ (104651 : Int) < 2 ^ 64 by decide), mull (show -(2 ^ 64) < (31 : Int) ∧ (31 : Int) < 2 ^ 64 by decide), bin_mod (show (0 : Int) < 1000000007 by decide), bin_mod (show (0 : Int) < 2147483629 by decide), fd_set3 hk1, List.set_set]
    have hk2 := set_self (c' := feedC xs (a + 1) b ((c * 104651 + v % 1000000007 + 31 * (a + 1)) % 2147483629)) hk
    simp only [execs_cons, execs_nil, exec, ev, evs, bd_ok', st_ok, opt_some, tst_bl, Lit.d, isInt, isBl, List.getElem?_cons_zero, List.getElem?_cons_succ, cmpD, toOut, bindA, bindT, List.length_cons, List.length_nil, sq_nx, sq_rt, List.set_cons_zero, List.set_cons_succ, Nat.reduceAdd, Nat.reduceLT, if_true, if_false, Bool.false_eq_true, at4_0, at4_1, at4_2, at4_3, bin_add, bin_sub, fd_idx hk2, pow18]
    by_cases hv : 1000000000000000000 ≤ v
    · simp only [hv, decide_true, execs_cons, execs_nil, exec, ev, evs, bd_ok', st_ok, opt_some, tst_bl, Lit.d, isInt, isBl, List.getElem?_cons_zero, List.getElem?_cons_succ, cmpD, toOut, bindA, bindT, List.length_cons, List.length_nil, sq_nx, sq_rt, List.set_cons_zero, List.set_cons_succ, Nat.reduceAdd, Nat.reduceLT, if_true, if_false, Bool.false_eq_true, at4_0, at4_1, at4_2, at4_3, bin_add, bin_sub, fd_set2 hk2, List.set_set]
      exact ⟨a + 1, v, (c * 104651 + v % 1000000007 + 31 * (a + 1)) % 2147483629, _, rfl, by omega⟩
    · simp only [hv, decide_false, execs_cons, execs_nil, exec, ev, evs, bd_ok', st_ok, opt_some, tst_bl, Lit.d, isInt, isBl, List.getElem?_cons_zero, List.getElem?_cons_succ, cmpD, toOut, bindA, bindT, List.length_cons, List.length_nil, sq_nx, sq_rt, List.set_cons_zero, List.set_cons_succ, Nat.reduceAdd, Nat.reduceLT, if_true, if_false, Bool.false_eq_true, at4_0, at4_1, at4_2, at4_3, bin_add, bin_sub]
      exact ⟨a + 1, b, (c * 104651 + v % 1000000007 + 31 * (a + 1)) % 2147483629, _, rfl, by omega⟩
  by_cases hl : a < xs.length
  · have ea : L2.atI ((xs.map Dt.int).map Wd.t) a = some (.t (.int (xs[a.toNat]'(by omega)))) := by
      rw [atI_nat ha (by simpa using hl)]
      simp
    simp only [hl, decide_true, execs_cons, execs_nil, exec, ev, evs, bd_ok', st_ok, opt_some, tst_bl, Lit.d, isInt, isBl, List.getElem?_cons_zero, List.getElem?_cons_succ, cmpD, toOut, bindA, bindT, List.length_cons, List.length_nil, sq_nx, sq_rt, List.set_cons_zero, List.set_cons_succ, Nat.reduceAdd, Nat.reduceLT, if_true, if_false, Bool.false_eq_true, at4_0, at4_1, at4_2, at4_3, bin_add, bin_sub, idx_lst, ea]
    exact fin _
  · simp only [hl, decide_false, if_false, Bool.false_eq_true]
    exact fin 17
theorem draw (n : Nat) (S : Store) (k : Nat) (xs : List Int) (a b c many : Int) (hk : S[k]? = some (feedC xs a b c)) (ha : 0 ≤ a) (hm : 0 < many) (hg : many.natAbs.log2 < 8000) :
    ∃ r a' b' c', evF tb.P (n + 1) "_law_draw" false [.h k, .t (.int many)] S = .ok (.t (.int r)) (S.set k (feedC xs a' b' c')) ∧ 0 ≤ a' ∧ 0 ≤ r ∧ r < many := by
  rw [evF_call (F := f_law_draw) rfl rfl]
  obtain ⟨a1, b1, c1, w2, e1, h1⟩ := drawA n S.length S k xs a b c many hk ha
  obtain ⟨r, a', b', c', e2, h2, h3, h4⟩ := draw2 n S.length (S.set k (feedC xs a1 b1 c1)) k xs a1 b1 c1 many w2 (set_self hk) h1 hm hg
  refine ⟨r, a', b', c', ?_, h2, h3, h4⟩
  show finO false S (execs (cxP tb.P n S.length) (f_law_draw.body.headD default :: f_law_draw.body.drop 1) [some (.h k), some (.t (.int many)), none, none] S) = _
  rw [execs_cons, e1, sq_nx, e2, List.set_set]
  show Res.ok _ ((S.set k _).take S.length) = _
  rw [set_take]
theorem eqD_int {S : Store} {i j : Int} : eqD S (.t (.int i)) (.t (.int j)) = some (i == j) := by
  simp [eqD, rd, pln, pd, PySem.SeqAt.shaped, PySem.PyData.eqv]
  exact ⟨rfl, rfl, rfl, rfl⟩
theorem eqD_bl {S : Store} {i j : Bool} : eqD S (.t (.bl i)) (.t (.bl j)) = some (i == j) := by cases i <;> cases j <;> rfl
theorem eqD_str {S : Store} {i j : PySem.Str} (hi : PySem.PyData.strOk i = true) (hj : PySem.PyData.strOk j = true) : eqD S (.t (.str i)) (.t (.str j)) = some (i == j) := by
  simp [eqD, rd, pln, pd, PySem.SeqAt.shaped, PySem.PyData.eqv, PySem.PyData.canLay0, PySem.PyData.depth, hi, hj]
theorem c_same {n : Nat} : callOf tb.P n "_law_same" = some (evF tb.P n "_law_same") := rfl
theorem c_whole {n : Nat} : callOf tb.P n "_law_whole" = some (evF tb.P n "_law_whole") := rfl
theorem whole {n : Nat} {S : Store} {i : Int} : evF tb.P (n + 1) "_law_whole" false [.t (.int i)] S = .ok (.t (.bl true)) S :=
  call_rt (F := f_law_whole) rfl rfl rfl (S' := S) (by rfl) List.take_length
mutual
def hgt : Dt → Nat
  | .lst ds => hgts ds + 1
  | .tup ds => hgts ds + 1
  | _ => 0
def hgts : List Dt → Nat
  | [] => 0
  | d :: r => max (hgt d) (hgts r)
end
mutual
/-- plain, and of no great lists -/
def smallD : Dt → Bool
  | .lst ds => decide (ds.length ≤ 1000) && smallDs ds
  | .tup ds => decide (ds.length ≤ 1000) && smallDs ds
  | .dic _ _ => false
  | _ => true
def smallDs : List Dt → Bool
  | [] => true
  | d :: r => smallD d && smallDs r
end
theorem hgt_mem : ∀ {ds : List Dt} {d : Dt}, d ∈ ds → hgt d ≤ hgts ds
  | e :: r, d, h => by
    unfold hgts
    rcases List.mem_cons.mp h with h | h
    · subst h; exact Nat.le_max_left _ _
    · exact Nat.le_trans (hgt_mem h) (Nat.le_max_right _ _)
theorem small_mem : ∀ {ds : List Dt} {d : Dt}, smallDs ds = true → d ∈ ds → smallD d = true
  | e :: r, d, s, h => by
    unfold smallDs at s
    obtain ⟨s1, s2⟩ := Bool.and_eq_true_iff.mp s
    rcases List.mem_cons.mp h with h | h
    · subst h; exact s1
    · exact small_mem s2 h
theorem keeps_t {S : Store} : ∀ ds : List Dt, keeps S (ds.map .t) = .ok ds S
  | [] => rfl
  | d :: r => by
    show (keep S (.t d)).bd _ = _
    rw [keep_t, bd_ok', keeps_t r]; rfl
theorem mkL_t {S : Store} {ds : List Dt} : mkL false (ds.map .t) S = .ok (.t (.lst ds)) S := by
  show (keeps S (ds.map .t)).bd _ = _
  rw [keeps_t]; rfl
theorem rng0 {n : Nat} (h : n ≤ 16777216) : rngL 0 (n : Int) = some ((List.range n).map fun i => Wd.t (.int (i : Nat))) := by
  unfold rngL lineN
  rw [if_pos (by omega)]
  simp
theorem comp_map {f : Wd → Store → Res (Option Wd)} {S : Store} {g : Nat → Dt} : ∀ (l : List Nat), (∀ i ∈ l, f (.t (.int (i : Nat))) S = .ok (some (.t (g i))) S) → compGo f (l.map fun i => Wd.t (.int (i : Nat))) S = .ok ((l.map g).map .t) S
  | [], _ => rfl
  | i :: r, h => by
    show compGo f (_ :: _) S = _
    unfold compGo
    rw [h i List.mem_cons_self]
    dsimp only
    have := comp_map r fun j hj => h j (List.mem_cons_of_mem _ hj)
    rw [this]
    rfl
theorem items_lst {S : Store} {ds : List Dt} : itemsF S (.t (.lst ds)) = some ds := by
  show mapO (rdF S) (ds.map Wd.t) = some ds
  induction ds with
  | nil => rfl
  | cons d r ih =>
    rw [List.map_cons]
    unfold mapO
    rw [ih]; rfl
theorem bls_rep (n : Nat) : blsD ((List.range n).map fun _ => Dt.bl true) = some (List.replicate n true) := by
  have : ∀ l : List Nat, blsD (l.map fun _ => Dt.bl true) = some (List.replicate l.length true) := fun l => by
    induction l with
    | nil => rfl
    | cons i r ih =>
      rw [List.map_cons]
      unfold blsD
      rw [ih]; rfl
  have q := this (List.range n)
  rw [List.length_range] at q
  exact q
theorem all_true {S : Store} {m : Bool} (n : Nat) : b1D .all m (.t (.lst ((List.range n).map fun _ => Dt.bl true))) S = .ok (.t (.bl true)) S := by
  unfold b1D
  dsimp only
  simp only [items_lst, Option.bind, bls_rep]
  simp
theorem isN_t {S : Store} {d : Dt} : isNon S (.t d) = some (isNonD d) := rfl
theorem isi_t {S : Store} {d : Dt} {ty : Ty} : isiD S (.t d) ty = isiB ty d := rfl
theorem evI_rng' {C : Cxt} {ρ : Env} {S S1 : Store} {q p : PySem.Pos} {a : Ex} {n : Int} {L : List Wd} (ha : ev C a ρ S = .ok (.t (.int n)) S1) (h : rngL 0 n = some L) : evI C (.rng1 q a p) ρ S = .ok (L, none) S1 := by
  unfold evI
  rw [ha, bd_ok']
  show ((opt S1 (rngL 0 n)).bd _) = _
  rw [h]; rfl
theorem evI_rng {C : Cxt} {ρ : Env} {S S1 : Store} {q p : PySem.Pos} {a : Ex} {n : Nat} (ha : ev C a ρ S = .ok (.t (.int (n : Nat))) S1) (h : n ≤ 16777216) : evI C (.rng1 q a p) ρ S = .ok ((List.range n).map (fun i => Wd.t (.int (i : Nat))), none) S1 := evI_rng' ha (rng0 h)
/-- a comprehension over a range: values without change of the store -/
theorem lc_rng {C : Cxt} {ρ : Env} {S S1 : Store} {q p p2 : PySem.Pos} {a elt : Ex} {t : Tg} {sc : PySem.Scope} {own : List (PySem.Str × Nat)} {n : Nat} {g : Nat → Dt} (hc : C.calm = true) (ha : ev C a ρ S = .ok (.t (.int (n : Nat))) S1) (h : n ≤ 16777216)
    (he : ∀ i, i < n → ∃ ρ', bindT S1 t (.t (.int (i : Nat))) (wipeE ρ (own.map (·.2))) = some ρ' ∧ ev C elt ρ' S1 = .ok (.t (g i)) S1) : ev C (.lc false elt t (.rng1 q a p) none sc own p2) ρ S = .ok (.t (.lst ((List.range n).map g))) S1 := by
  unfold ev
  rw [if_neg (by rw [hc]; decide), evI_rng ha h, bd_ok']
  dsimp only
  rw [if_pos (by rw [List.length_map, List.length_range]; exact h)]
  have e : lockO S1 none = (S1, none) := rfl
  rw [e]
  dsimp only
  rw [comp_map (g := g)]
  · dsimp only [unlockC]
    rw [mkL_t]
  · intro i hi
    obtain ⟨ρ', h1, h2⟩ := he i (List.mem_range.mp hi)
    rw [h1]
    dsimp only
    unfold evC
    rw [bd_ok', if_pos rfl, h2]
    rfl
theorem same_int (n : Nat) (S : Store) (i : Int) : evF tb.P (n + 2) "_law_same" false [.t (.int i), .t (.int i)] S = .ok (.t (.bl true)) S := by
  refine call_rt (F := f_law_same) rfl rfl (ρ0 := [some (.t (.int i)), some (.t (.int i)), none]) rfl (S' := S) ?_ List.take_length
  simp only [f_law_same, execs_cons, execs_nil, exec, ev, evs, bd_ok', st_ok, opt_some, tst_bl, Lit.d, isInt, isBl, List.getElem?_cons_zero, List.getElem?_cons_succ, cmpD, toOut, bindA, bindT, List.length_cons, List.length_nil, sq_nx, sq_rt, List.set_cons_zero, List.set_cons_succ, Nat.reduceAdd, Nat.reduceLT, if_true, if_false, Bool.false_eq_true, bin_add, bin_sub, isN_t, isi_t, isiB, isNonD, evB, beq_self_eq_true, Bool.xor_true, Bool.not_true, Bool.not_false, Bool.false_xor, Bool.true_xor, c_whole, whole, eqD_int]
theorem same_str (n : Nat) (S : Store) (i : PySem.Str) (hi : PySem.PyData.strOk i = true) : evF tb.P (n + 2) "_law_same" false [.t (.str i), .t (.str i)] S = .ok (.t (.bl true)) S := by
  refine call_rt (F := f_law_same) rfl rfl (ρ0 := [some (.t (.str i)), some (.t (.str i)), none]) rfl (S' := S) ?_ List.take_length
  simp only [f_law_same, execs_cons, execs_nil, exec, ev, evs, bd_ok', st_ok, opt_some, tst_bl, Lit.d, isInt, isBl, List.getElem?_cons_zero, List.getElem?_cons_succ, cmpD, toOut, bindA, bindT, List.length_cons, List.length_nil, sq_nx, sq_rt, List.set_cons_zero, List.set_cons_succ, Nat.reduceAdd, Nat.reduceLT, if_true, if_false, Bool.false_eq_true, bin_add, bin_sub, isN_t, isi_t, isiB, isNonD, evB, beq_self_eq_true, Bool.xor_true, Bool.not_true, Bool.not_false, Bool.false_xor, Bool.true_xor, eqD_str hi hi]
theorem execs_append {C : Cxt} {ρ : Env} {S : Store} : ∀ {a b : List St}, execs C (a ++ b) ρ S = (execs C a ρ S).sq (execs C b) := fun {a b} => by
  induction a generalizing ρ S with
  | nil => rw [List.nil_append, execs_nil, sq_nx]
  | cons x r ih =>
    rw [List.cons_append, execs_cons, execs_cons]
    cases exec C x ρ S with
    | nx ρ' S' => rw [sq_nx, sq_nx]; exact ih
    | _ => rfl
theorem same_lst (n : Nat) (S : Store) (ds : List Dt) (hl : ds.length ≤ 1000) (h : ∀ d ∈ ds, evF tb.P (n + 2) "_law_same" false [.t d, .t d] S = .ok (.t (.bl true)) S) : evF tb.P (n + 3) "_law_same" false [.t (.lst ds), .t (.lst ds)] S = .ok (.t (.bl true)) S := by
  refine call_rt (F := f_law_same) rfl rfl (ρ0 := [some (.t (.lst ds)), some (.t (.lst ds)), none]) rfl (S' := S) ?_ List.take_length
  have key : ∀ C : Cxt, C.calm = true → C.call "_law_same" = some (evF tb.P (n + 2) "_law_same") → execs C (f_law_same.body.drop 6) [some (.t (.lst ds)), some (.t (.lst ds)), none] S = .rt (.t (.bl true)) S := fun C hc hcall => by
    simp only [f_law_same, List.drop]
    rw [execs_cons]
    unfold exec
    unfold ev
    rw [if_neg (by rw [hc]; decide), lc_rng (n := ds.length) (g := fun _ => Dt.bl true) (S1 := S) hc]
    · rw [bd_ok', all_true]; rfl
    · simp only [execs_cons, execs_nil, exec, ev, evs, bd_ok', st_ok, opt_some, tst_bl, Lit.d, isInt, isBl, List.getElem?_cons_zero, List.getElem?_cons_succ, cmpD, toOut, bindA, bindT, List.length_cons, List.length_nil, sq_nx, sq_rt, List.set_cons_zero, List.set_cons_succ, Nat.reduceAdd, Nat.reduceLT, if_true, if_false, Bool.false_eq_true, bin_add, bin_sub, isN_t, isi_t, isiB, isNonD, evB, beq_self_eq_true, Bool.xor_true, Bool.not_true, Bool.not_false, Bool.false_xor, Bool.true_xor, hc, len_lst, Bool.true_eq_false]
    · omega
    · intro i hi
      refine ⟨_, rfl, ?_⟩
      have e : L2.atI (ds.map Wd.t) (i : Int) = some (.t ds[i]) := by
        rw [atI_nat (by omega) (by simpa using hi)]
        simp [hi]
      simp only [execs_cons, execs_nil, exec, ev, evs, bd_ok', st_ok, opt_some, tst_bl, Lit.d, isInt, isBl, List.getElem?_cons_zero, List.getElem?_cons_succ, cmpD, toOut, bindA, bindT, List.length_cons, List.length_nil, sq_nx, sq_rt, List.set_cons_zero, List.set_cons_succ, Nat.reduceAdd, Nat.reduceLT, if_true, if_false, Bool.false_eq_true, bin_add, bin_sub, isN_t, isi_t, isiB, isNonD, evB, beq_self_eq_true, Bool.xor_true, Bool.not_true, Bool.not_false, Bool.false_xor, Bool.true_xor, hcall, wipeE, List.map_cons, List.map_nil, idx_lst, e, h _ (List.getElem_mem hi)]
  have pre : ∀ C : Cxt, C.calm = true → execs C (f_law_same.body.take 6) [some (.t (.lst ds)), some (.t (.lst ds)), none] S = .nx [some (.t (.lst ds)), some (.t (.lst ds)), none] S := fun C hc => by
    simp only [f_law_same, List.take, execs_cons, execs_nil, exec, ev, evs, bd_ok', st_ok, opt_some, tst_bl, Lit.d, isInt, isBl, List.getElem?_cons_zero, List.getElem?_cons_succ, cmpD, toOut, bindA, bindT, List.length_cons, List.length_nil, sq_nx, sq_rt, List.set_cons_zero, List.set_cons_succ, Nat.reduceAdd, Nat.reduceLT, if_true, if_false, Bool.false_eq_true, bin_add, bin_sub, isN_t, isi_t, isiB, isNonD, evB, beq_self_eq_true, Bool.xor_true, Bool.not_true, Bool.not_false, Bool.false_xor, Bool.true_xor, eqD_bl, eqD_int, len_lst, hc, Bool.true_eq_false]
  rw [← List.take_append_drop 6 f_law_same.body, execs_append, pre _ rfl, sq_nx]
  exact key _ rfl rfl
theorem same_tup (n : Nat) (S : Store) (ds : List Dt) (hl : ds.length ≤ 1000) (h : ∀ d ∈ ds, evF tb.P (n + 2) "_law_same" false [.t d, .t d] S = .ok (.t (.bl true)) S) : evF tb.P (n + 3) "_law_same" false [.t (.tup ds), .t (.tup ds)] S = .ok (.t (.bl true)) S := by
  refine call_rt (F := f_law_same) rfl rfl (ρ0 := [some (.t (.tup ds)), some (.t (.tup ds)), none]) rfl (S' := S) ?_ List.take_length
  have key : ∀ C : Cxt, C.calm = true → C.call "_law_same" = some (evF tb.P (n + 2) "_law_same") → execs C (f_law_same.body.drop 6) [some (.t (.tup ds)), some (.t (.tup ds)), none] S = .rt (.t (.bl true)) S := fun C hc hcall => by
    simp only [f_law_same, List.drop]
    rw [execs_cons]
    unfold exec
    unfold ev
    rw [if_neg (by rw [hc]; decide), lc_rng (n := ds.length) (g := fun _ => Dt.bl true) (S1 := S) hc]
    · rw [bd_ok', all_true]; rfl
    · simp only [execs_cons, execs_nil, exec, ev, evs, bd_ok', st_ok, opt_some, tst_bl, Lit.d, isInt, isBl, List.getElem?_cons_zero, List.getElem?_cons_succ, cmpD, toOut, bindA, bindT, List.length_cons, List.length_nil, sq_nx, sq_rt, List.set_cons_zero, List.set_cons_succ, Nat.reduceAdd, Nat.reduceLT, if_true, if_false, Bool.false_eq_true, bin_add, bin_sub, isN_t, isi_t, isiB, isNonD, evB, beq_self_eq_true, Bool.xor_true, Bool.not_true, Bool.not_false, Bool.false_xor, Bool.true_xor, hc, len_tup, Bool.true_eq_false]
    · omega
    · intro i hi
      refine ⟨_, rfl, ?_⟩
      have e : L2.atI (ds.map Wd.t) (i : Int) = some (.t ds[i]) := by
        rw [atI_nat (by omega) (by simpa using hi)]
        simp [hi]
      simp only [execs_cons, execs_nil, exec, ev, evs, bd_ok', st_ok, opt_some, tst_bl, Lit.d, isInt, isBl, List.getElem?_cons_zero, List.getElem?_cons_succ, cmpD, toOut, bindA, bindT, List.length_cons, List.length_nil, sq_nx, sq_rt, List.set_cons_zero, List.set_cons_succ, Nat.reduceAdd, Nat.reduceLT, if_true, if_false, Bool.false_eq_true, bin_add, bin_sub, isN_t, isi_t, isiB, isNonD, evB, beq_self_eq_true, Bool.xor_true, Bool.not_true, Bool.not_false, Bool.false_xor, Bool.true_xor, hcall, wipeE, List.map_cons, List.map_nil, idx_tup, e, h _ (List.getElem_mem hi)]
  have pre : ∀ C : Cxt, C.calm = true → execs C (f_law_same.body.take 6) [some (.t (.tup ds)), some (.t (.tup ds)), none] S = .nx [some (.t (.tup ds)), some (.t (.tup ds)), none] S := fun C hc => by
    simp only [f_law_same, List.take, execs_cons, execs_nil, exec, ev, evs, bd_ok', st_ok, opt_some, tst_bl, Lit.d, isInt, isBl, List.getElem?_cons_zero, List.getElem?_cons_succ, cmpD, toOut, bindA, bindT, List.length_cons, List.length_nil, sq_nx, sq_rt, List.set_cons_zero, List.set_cons_succ, Nat.reduceAdd, Nat.reduceLT, if_true, if_false, Bool.false_eq_true, bin_add, bin_sub, isN_t, isi_t, isiB, isNonD, evB, beq_self_eq_true, Bool.xor_true, Bool.not_true, Bool.not_false, Bool.false_xor, Bool.true_xor, eqD_bl, eqD_int, len_tup, hc, Bool.true_eq_false]
  rw [← List.take_append_drop 6 f_law_same.body, execs_append, pre _ rfl, sq_nx]
  exact key _ rfl rfl
mutual
/-- plain, of no great lists, of valid texts -/
def niceD : Dt → Bool
  | .lst ds => decide (ds.length ≤ 1000) && niceDs ds
  | .tup ds => decide (ds.length ≤ 1000) && niceDs ds
  | .dic _ _ => false
  | .str x => PySem.PyData.strOk x
  | _ => true
def niceDs : List Dt → Bool
  | [] => true
  | d :: r => niceD d && niceDs r
end
/- THE LAW'S OWN ==: of a thing with itself -/
mutual
theorem same_refl : ∀ (d : Dt) (n : Nat) (S : Store), hgt d ≤ n → niceD d = true → evF tb.P (n + 2) "_law_same" false [.t d, .t d] S = .ok (.t (.bl true)) S
  | .non, n, S, _, _ => call_rt (F := f_law_same) rfl rfl (ρ0 := [some (.t .non), some (.t .non), none]) rfl (S' := S) (by rfl) List.take_length
  | .bl true, n, S, _, _ => call_rt (F := f_law_same) rfl rfl (ρ0 := [some (.t (.bl true)), some (.t (.bl true)), none]) rfl (S' := S) (by rfl) List.take_length
  | .bl false, n, S, _, _ => call_rt (F := f_law_same) rfl rfl (ρ0 := [some (.t (.bl false)), some (.t (.bl false)), none]) rfl (S' := S) (by rfl) List.take_length
  | .int i, n, S, _, _ => same_int n S i
  | .str x, n, S, _, h => same_str n S x (by unfold niceD at h; exact h)
  | .lst ds, n, S, hn, h => by
    unfold hgt at hn
    unfold niceD at h
    obtain ⟨h1, h2⟩ := Bool.and_eq_true_iff.mp h
    obtain ⟨n, rfl⟩ : ∃ n', n = n' + 1 := ⟨n - 1, by omega⟩
    exact same_lst n S ds (of_decide_eq_true h1) (same_all ds n S (by omega) h2)
  | .tup ds, n, S, hn, h => by
    unfold hgt at hn
    unfold niceD at h
    obtain ⟨h1, h2⟩ := Bool.and_eq_true_iff.mp h
    obtain ⟨n, rfl⟩ : ∃ n', n = n' + 1 := ⟨n - 1, by omega⟩
    exact same_tup n S ds (of_decide_eq_true h1) (same_all ds n S (by omega) h2)
  | .dic _ _, n, S, _, h => by unfold niceD at h; cases h
theorem same_all : ∀ (ds : List Dt) (n : Nat) (S : Store), hgts ds ≤ n → niceDs ds = true → ∀ d ∈ ds, evF tb.P (n + 2) "_law_same" false [.t d, .t d] S = .ok (.t (.bl true)) S
  | [], n, S, _, _, d, hd => by cases hd
  | e :: r, n, S, hn, h, d, hd => by
    unfold hgts at hn
    unfold niceDs at h
    obtain ⟨h1, h2⟩ := Bool.and_eq_true_iff.mp h
    have a := same_refl e n S (by omega) h1
    have b := same_all r n S (by omega) h2
    rcases List.mem_cons.mp hd with z | z
    · rw [z]; exact a
    · exact b d z
end
theorem forS_run {C : Cxt} {ρ : Env} {S : Store} {t : Tg} {it : It} {b : List St} {p : PySem.Pos} {ws : List Wd} (hc : C.calm = true) (hi : evI C it ρ S = .ok (ws, none) S) :
    exec C (.forS t it b p) ρ S = (forGo (fun w ρ S => match bindT S t w ρ with | some ρ' => execs C b ρ' S | none => .no) ws ρ S).unl none := by
  unfold exec
  rw [if_neg (by rw [hc]; decide), hi, st_ok]
  rfl
theorem forGo_inv {f : Wd → Env → Store → Out} {I : Env → Prop} {S : Store} : ∀ (ws : List Wd), (∀ w ∈ ws, ∀ ρ, I ρ → ∃ ρ', f w ρ S = .nx ρ' S ∧ I ρ') → ∀ ρ, I ρ → ∃ ρ', forGo f ws ρ S = .nx ρ' S ∧ I ρ'
  | [], _, ρ, h => ⟨ρ, rfl, h⟩
  | w :: r, hf, ρ, h => by
    obtain ⟨ρ1, e1, h1⟩ := hf w List.mem_cons_self ρ h
    obtain ⟨ρ2, e2, h2⟩ := forGo_inv r (fun v hv => hf v (List.mem_cons_of_mem _ hv)) ρ1 h1
    refine ⟨ρ2, ?_, h2⟩
    unfold forGo
    rw [e1]
    exact e2
theorem map_cutG {α β : Type} {f : α → β} {l : List α} {lo hi : Option Int} : cutG (l.map f) lo hi = (cutG l lo hi).map f := by
  unfold cutG
  rw [List.length_map, List.map_take, List.map_drop]
theorem slc_lst {ds : List Dt} {lo hi : Option Int} {S : Store} : slcD false (.t (.lst ds)) lo hi S = .ok (.t (.lst (cutG ds lo hi))) S := by
  show mkL false (cutG (ds.map Wd.t) lo hi) S = _
  rw [map_cutG, mkL_t]
theorem list_lst {ds : List Dt} {S : Store} : b1D .list false (.t (.lst ds)) S = .ok (.t (.lst ds)) S := by
  show mkL false (ds.map Wd.t) S = _
  rw [mkL_t]
theorem feed (n : Nat) (ns : List Int) : evF tb.P (n + 1) "_law_feed" true [.t (.lst (ns.map .int))] [] = .ok (.h 0) [feedC (cutG ns none (some 63)) 0 0 1] := by
  refine call_rt' (F := f_law_feed) rfl rfl (ρ0 := [some (.t (.lst (ns.map .int)))]) rfl ?_
  have hc : (cxP tb.P n 0).calm = true := rfl
  simp only [f_law_feed, execs_cons, execs_nil, exec, ev, evs, evO, bd_ok', st_ok, opt_some, Lit.d, isInt, List.getElem?_cons_zero, slc_lst, list_lst, Bool.true_eq_false, if_false, List.length_cons, List.length_nil, map_cutG]
  rfl
theorem comp_feed {f : Wd → Store → Res (Option Wd)} {I : Store → Prop} : ∀ (l : List Nat), (∀ i ∈ l, ∀ S, I S → ∃ (r : Int) (S' : Store), f (.t (.int (i : Nat))) S = .ok (some (.t (.int r))) S' ∧ I S') → ∀ S, I S → ∃ (is : List Int) (S' : Store), compGo f (l.map fun i => Wd.t (.int (i : Nat))) S = .ok ((is.map Dt.int).map .t) S' ∧ I S' ∧ is.length = l.length
  | [], _, S, h => ⟨[], S, rfl, h, rfl⟩
  | i :: r, hf, S, h => by
    obtain ⟨v, S1, e1, h1⟩ := hf i List.mem_cons_self S h
    obtain ⟨is, S2, e2, h2, h3⟩ := comp_feed r (fun j hj => hf j (List.mem_cons_of_mem _ hj)) S1 h1
    refine ⟨v :: is, S2, ?_, h2, by simp [h3]⟩
    show compGo f (_ :: _) S = _
    unfold compGo
    rw [e1]
    dsimp only
    rw [e2]; rfl
def IsFeed (xs : List Int) (S : Store) : Prop := ∃ a b c, S = [feedC xs a b c] ∧ 0 ≤ a
theorem lc_feed {C : Cxt} {ρ : Env} {S : Store} {xs : List Int} {q p p2 : PySem.Pos} {a elt : Ex} {t : Tg} {sc : PySem.Scope} {own : List (PySem.Str × Nat)} {n : Nat} (hc : C.calm = true) (ha : ev C a ρ S = .ok (.t (.int (n : Nat))) S) (h : n ≤ 16777216) (hS : IsFeed xs S)
    (he : ∀ (i : Nat) S, IsFeed xs S → ∃ ρ', bindT S t (.t (.int (i : Nat))) (wipeE ρ (own.map (·.2))) = some ρ' ∧ ∃ (r : Int) (S' : Store), ev C elt ρ' S = .ok (.t (.int r)) S' ∧ IsFeed xs S') : ∃ (is : List Int) (S' : Store), ev C (.lc false elt t (.rng1 q a p) none sc own p2) ρ S = .ok (.t (.lst (is.map .int))) S' ∧ IsFeed xs S' ∧ is.length = n := by
  unfold ev
  rw [if_neg (by rw [hc]; decide), evI_rng ha h, bd_ok']
  dsimp only
  rw [if_pos (by rw [List.length_map, List.length_range]; exact h)]
  have e : lockO S none = (S, none) := rfl
  rw [e]
  dsimp only
  refine (fun key => ?_) (comp_feed (f := turnE C elt t none (own.map (·.2)) ρ) (I := IsFeed xs) (List.range n) ?_ S hS)
  · obtain ⟨is, S', e1, e2, e3⟩ := key
    refine ⟨is, S', ?_, e2, by rw [e3, List.length_range]⟩
    show (match compGo (turnE C elt t none (own.map (·.2)) ρ) ((List.range n).map fun i => Wd.t (.int (i : Nat))) S with
      | .ok ws S2 => mkL false ws (unlockC S2 none)
      | _ => .no) = _
    rw [e1]
    dsimp only [unlockC]
    rw [mkL_t]
  · intro i _ S hS
    obtain ⟨ρ', h1, r, S', h2, h3⟩ := he i S hS
    refine ⟨r, S', ?_, h3⟩
    unfold turnE
    rw [h1]
    dsimp only
    unfold evC
    rw [bd_ok', if_pos rfl, h2]
    rfl
theorem ev_draw {n bs : Nat} {ρ : Env} {e k : Ex} {q p p1 p2 : PySem.Pos} {x : PySem.Str} {M K : Int} {S : Store} {xs : List Int} (h1 : ρ[1]? = some (some (.h 0))) (he : ∀ S, ev (cxP tb.P (n + 1) bs) e ρ S = .ok (.t (.int M)) S) (hk : ∀ S, ev (cxP tb.P (n + 1) bs) k ρ S = .ok (.t (.int K)) S) (hm : 0 < M) (hg : M.natAbs.log2 < 8000) (hS : IsFeed xs S) :
    ∃ (r : Int) (S' : Store), ev (cxP tb.P (n + 1) bs) (.bin .sub false (.call "_law_draw" false q [.var 1 x p1, e] p) k p2) ρ S = .ok (.t (.int r)) S' ∧ IsFeed xs S' := by
  obtain ⟨a, b, c, rfl, ha⟩ := hS
  obtain ⟨r, a', b', c', e1, h2, h3, h4⟩ := draw n [feedC xs a b c] 0 xs a b c M rfl ha hm hg
  refine ⟨r - K, [feedC xs a' b' c'], ?_, a', b', c', rfl, h2⟩
  have hd : ev (cxP tb.P (n + 1) bs) (.call "_law_draw" false q [.var 1 x p1, e] p) ρ [feedC xs a b c] = .ok (.t (.int r)) [feedC xs a' b' c'] := by
    have hcall : (cxP tb.P (n + 1) bs).call "_law_draw" = some (evF tb.P (n + 1) "_law_draw") := rfl
    unfold ev
    rw [hcall]
    dsimp only
    unfold evs
    rw [ev_var h1, bd_ok']
    unfold evs
    rw [he, bd_ok']
    unfold evs
    exact e1
  exact (ev_bin hd (hk _)).trans bin_sub
theorem exec_asg {C : Cxt} {ρ ρ' : Env} {S S' : Store} {t : Tg} {e : Ex} {p : PySem.Pos} {w : Wd} (he : ev C e ρ S = .ok w S') (hb : bindA C S' t w ρ = some ρ') : exec C (.asg t e p) ρ S = .nx ρ' S' := by
  unfold exec
  rw [he, st_ok, hb]; rfl
theorem ev_tuple {C : Cxt} {ρ : Env} {S S' : Store} {q p : PySem.Pos} {e : Ex} {ds : List Dt} (hc : C.calm = true) (he : ev C e ρ S = .ok (.t (.lst ds)) S') : ev C (.b1 .tuple false q e p) ρ S = .ok (.t (.tup ds)) S' := by
  unfold ev
  rw [if_neg (by rw [hc]; decide), he, bd_ok']
  show (keeps S' (ds.map Wd.t)).bd _ = _
  rw [keeps_t]; rfl
end K03

namespace K03
open Gw
def T10 : List PySem.Str := ["east", "west", "north", "south", "up", "down", "", "East", "long", "up "]
def dueL : List Dt := [.tup [.str "down", .str "east", .str "south"],
  .tup [.str "down", .str "north", .str "east"],
  .tup [.str "down", .str "south", .str "west"],
  .tup [.str "down", .str "west", .str "north"],
  .tup [.str "east", .str "down", .str "north"],
  .tup [.str "east", .str "north", .str "up"],
  .tup [.str "east", .str "south", .str "down"],
  .tup [.str "east", .str "up", .str "south"],
  .tup [.str "north", .str "down", .str "west"],
  .tup [.str "north", .str "east", .str "down"],
  .tup [.str "north", .str "up", .str "east"],
  .tup [.str "north", .str "west", .str "up"],
  .tup [.str "south", .str "down", .str "east"],
  .tup [.str "south", .str "east", .str "up"],
  .tup [.str "south", .str "up", .str "west"],
  .tup [.str "south", .str "west", .str "down"],
  .tup [.str "up", .str "east", .str "north"],
  .tup [.str "up", .str "north", .str "west"],
  .tup [.str "up", .str "south", .str "east"],
  .tup [.str "up", .str "west", .str "south"],
  .tup [.str "west", .str "down", .str "south"],
  .tup [.str "west", .str "north", .str "down"],
  .tup [.str "west", .str "south", .str "up"],
  .tup [.str "west", .str "up", .str "north"]]
theorem due (c : Cl) : evF tb.P 39 "_law_turns" false [] [c] = .ok (.t (.lst dueL)) [c] := by kernel_rfl
def rtB : Out → Bool
  | .rt (.t (.bl true)) _ => true
  | _ => false
theorem rt_of {o : Out} (h : rtB o = true) : ∃ S, o = .rt (.t (.bl true)) S := by
  cases o with
  | rt w S =>
    cases w with
    | t d =>
      cases d with
      | bl b => cases b with
        | true => exact ⟨S, rfl⟩
        | false => cases h
      | _ => cases h
    | _ => cases h
  | _ => cases h
theorem tail (c : Cl) (s k turn found told j : Option Wd) : ∃ S, execs (cxP tb.P 39 0) (f_law.body.drop 4) [s, some (.h 0), some (.t (.lst dueL)), some (.t (.lst (T10.map .str))), k, turn, found, told, j] [c] = .rt (.t (.bl true)) S := rt_of (by kernel_rfl)
def isT (t : Dt) : Bool := dueL.any (fun d => match d, t with | .tup [.str a, .str b, .str e], .tup [.str x, .str y, .str z] => decide (a = x) && (decide (b = y) && decide (e = z)) | _, _ => false)
def trip (i j l : Nat) : Dt := .tup [.str (T10.getD i ""), .str (T10.getD j ""), .str (T10.getD l "")]
def all3 : List Dt := (List.range 10).flatMap fun i => (List.range 10).flatMap fun j => (List.range 10).map fun l => trip i j l
theorem turnT (c : Cl) : (all3.map fun t => evF tb.P 39 "is_turn" false [.t t] [c]) = all3.map fun t => .ok (.t (.bl (isT t))) [c] := by kernel_rfl
theorem inT (c : Cl) : (all3.map fun t => inSD [c] (.t t) (.t (.lst dueL))) = all3.map fun t => some (isT t) := by kernel_rfl
end K03

namespace K03
open Gw
/-- a comprehension's turns, with a property of the store and of what comes -/
theorem comp_inv {f : Wd → Store → Res (Option Wd)} {I : Store → Prop} {Pv : Dt → Prop} : ∀ (l : List Nat), (∀ i ∈ l, ∀ S, I S → ∃ (r : Dt) (S' : Store), f (.t (.int (i : Nat))) S = .ok (some (.t r)) S' ∧ I S' ∧ Pv r) → ∀ S, I S → ∃ (ds : List Dt) (S' : Store), compGo f (l.map fun i => Wd.t (.int (i : Nat))) S = .ok (ds.map .t) S' ∧ I S' ∧ ds.length = l.length ∧ ∀ d ∈ ds, Pv d
  | [], _, S, h => ⟨[], S, rfl, h, rfl, fun d hd => by cases hd⟩
  | i :: r, hf, S, h => by
    obtain ⟨v, S1, e1, h1, p1⟩ := hf i List.mem_cons_self S h
    obtain ⟨ds, S2, e2, h2, h3, h4⟩ := comp_inv r (fun j hj => hf j (List.mem_cons_of_mem _ hj)) S1 h1
    refine ⟨v :: ds, S2, ?_, h2, by simp [h3], fun d hd => ?_⟩
    · show compGo f (_ :: _) S = _
      unfold compGo
      rw [e1]
      dsimp only
      rw [e2]; rfl
    · rcases List.mem_cons.mp hd with hd | hd
      · rw [hd]; exact p1
      · exact h4 d hd
theorem lc_inv {C : Cxt} {ρ : Env} {S : Store} {I : Store → Prop} {Pv : Dt → Prop} {q p p2 : PySem.Pos} {a elt : Ex} {t : Tg} {sc : PySem.Scope} {own : List (PySem.Str × Nat)} {n : Nat} (hc : C.calm = true) (ha : ev C a ρ S = .ok (.t (.int (n : Nat))) S) (h : n ≤ 16777216) (hS : I S)
    (he : ∀ (i : Nat) S, I S → ∃ ρ', bindT S t (.t (.int (i : Nat))) (wipeE ρ (own.map (·.2))) = some ρ' ∧ ∃ (r : Dt) (S' : Store), ev C elt ρ' S = .ok (.t r) S' ∧ I S' ∧ Pv r) : ∃ (ds : List Dt) (S' : Store), ev C (.lc false elt t (.rng1 q a p) none sc own p2) ρ S = .ok (.t (.lst ds)) S' ∧ I S' ∧ ds.length = n ∧ ∀ d ∈ ds, Pv d := by
  unfold ev
  rw [if_neg (by rw [hc]; decide), evI_rng ha h, bd_ok']
  dsimp only
  rw [if_pos (by rw [List.length_map, List.length_range]; exact h)]
  have e : lockO S none = (S, none) := rfl
  rw [e]
  dsimp only
  refine (fun key => ?_) (comp_inv (f := turnE C elt t none (own.map (·.2)) ρ) (I := I) (Pv := Pv) (List.range n) ?_ S hS)
  · obtain ⟨is, S', e1, e2, e3, e4⟩ := key
    refine ⟨is, S', ?_, e2, by rw [e3, List.length_range], e4⟩
    show (match compGo (turnE C elt t none (own.map (·.2)) ρ) ((List.range n).map fun i => Wd.t (.int (i : Nat))) S with
      | .ok ws S2 => mkL false ws (unlockC S2 none)
      | _ => .no) = _
    rw [e1]
    dsimp only [unlockC]
    rw [mkL_t]
  · intro i _ S hS
    obtain ⟨ρ', h1, r, S', h2, h3, h4⟩ := he i S hS
    refine ⟨r, S', ?_, h3, h4⟩
    unfold turnE
    rw [h1]
    dsimp only
    unfold evC
    rw [bd_ok', if_pos rfl, h2]
    rfl
/-- a loop: a property of the slots and the store -/
theorem forGo_invS {f : Wd → Env → Store → Out} {I : Env → Store → Prop} : ∀ (ws : List Wd), (∀ w ∈ ws, ∀ ρ S, I ρ S → ∃ ρ' S', f w ρ S = .nx ρ' S' ∧ I ρ' S') → ∀ ρ S, I ρ S → ∃ ρ' S', forGo f ws ρ S = .nx ρ' S' ∧ I ρ' S'
  | [], _, ρ, S, h => ⟨ρ, S, rfl, h⟩
  | w :: r, hf, ρ, S, h => by
    obtain ⟨ρ1, S1, e1, h1⟩ := hf w List.mem_cons_self ρ S h
    obtain ⟨ρ2, S2, e2, h2⟩ := forGo_invS r (fun v hv => hf v (List.mem_cons_of_mem _ hv)) ρ1 S1 h1
    refine ⟨ρ2, S2, ?_, h2⟩
    unfold forGo
    rw [e1]
    exact e2
/-- a draw's value -/
theorem draw_call {n bs : Nat} {ρ : Env} {e : Ex} {q p p1 : PySem.Pos} {x : PySem.Str} {M : Int} {S : Store} {xs : List Int} (h1 : ρ[1]? = some (some (.h 0))) (he : ∀ S, ev (cxP tb.P (n + 1) bs) e ρ S = .ok (.t (.int M)) S) (hm : 0 < M) (hg : M.natAbs.log2 < 8000) (hS : IsFeed xs S) :
    ∃ (r : Int) (S' : Store), ev (cxP tb.P (n + 1) bs) (.call "_law_draw" false q [.var 1 x p1, e] p) ρ S = .ok (.t (.int r)) S' ∧ IsFeed xs S' ∧ 0 ≤ r ∧ r < M := by
  obtain ⟨a, b, c, rfl, ha⟩ := hS
  obtain ⟨r, a', b', c', e1, h2, h3, h4⟩ := draw n [feedC xs a b c] 0 xs a b c M rfl ha hm hg
  refine ⟨r, [feedC xs a' b' c'], ?_, ⟨a', b', c', rfl, h2⟩, h3, h4⟩
  have hcall : (cxP tb.P (n + 1) bs).call "_law_draw" = some (evF tb.P (n + 1) "_law_draw") := rfl
  unfold ev
  rw [hcall]
  dsimp only
  unfold evs
  rw [ev_var h1, bd_ok']
  unfold evs
  rw [he, bd_ok']
  unfold evs
  exact e1
end K03

namespace K03
open Gw
def loop1 : St := f_law.body.getD 3 (.pass ⟨0, 0, 0, 0⟩)
def L1 : List St := match loop1 with | .forS _ _ b _ => b | _ => []
def slots (s k turn found told j : Option Wd) : Env := [s, some (.h 0), some (.t (.lst dueL)), some (.t (.lst (T10.map .str))), k, turn, found, told, j]
theorem turn_of (c : Cl) {t : Dt} (h : t ∈ all3) : evF tb.P 39 "is_turn" false [.t t] [c] = .ok (.t (.bl (isT t))) [c] := of_map (turnT c) t h
theorem in_of (c : Cl) {t : Dt} (h : t ∈ all3) : inSD [c] (.t t) (.t (.lst dueL)) = some (isT t) := of_map (inT c) t h
theorem step1 (c : Cl) (s k found told j : Option Wd) {t : Dt} (h : t ∈ all3) : exec (cxP tb.P 39 0) (L1.getD 1 (.pass ⟨0, 0, 0, 0⟩)) (slots s k (some (.t t)) found told j) [c] = .nx (slots s k (some (.t t)) (some (.t (.bl (isT t)))) told j) [c] := by
  obtain ⟨y, q0, q, x, p1, p2, p, sh⟩ : ∃ y q0 q x p1 p2 p, L1.getD 1 (.pass ⟨0, 0, 0, 0⟩) = .asg (.nm 6 y q0) (.call "is_turn" false q [.var 5 x p1] p2) p := ⟨_, _, _, _, _, _, _, rfl⟩
  rw [sh]
  refine exec_asg ?_ rfl
  rw [ev_call1 (h := evF tb.P 39 "is_turn") rfl (ev_var (w := .t t) rfl)]
  exact turn_of c h
theorem step2 (c : Cl) (s k told j : Option Wd) {t : Dt} (h : t ∈ all3) : exec (cxP tb.P 39 0) (L1.getD 2 (.pass ⟨0, 0, 0, 0⟩)) (slots s k (some (.t t)) (some (.t (.bl (isT t)))) told j) [c] = .nx (slots s k (some (.t t)) (some (.t (.bl (isT t)))) told j) [c] := by
  generalize hb : isT t = b
  have e2 := in_of c h
  rw [hb] at e2
  simp only [L1, loop1, f_law, List.getD, List.getElem?_cons_succ, List.getElem?_cons_zero, Option.getD, slots, exec, ev, evB, bd_ok', st_ok, opt_some, tst_bl, isi_t, isiB, e2, eqD_bl, isBl, Bool.false_xor, Bool.not_true, Bool.xor_false, Bool.false_eq_true, if_false, if_true, beq_self_eq_true, Bool.true_xor, Bool.bne_false, execs_nil]
theorem all3_mem {i j l : Nat} (hi : i < 10) (hj : j < 10) (hl : l < 10) : trip i j l ∈ all3 := by
  unfold all3
  exact List.mem_flatMap.mpr ⟨i, List.mem_range.mpr hi, List.mem_flatMap.mpr ⟨j, List.mem_range.mpr hj, List.mem_map.mpr ⟨l, List.mem_range.mpr hl, rfl⟩⟩⟩
theorem t10_at : ∀ n, n < 10 → ((T10.map Dt.str).map Wd.t)[n]? = some (.t (.str (T10.getD n "")))
  | 0, _ => rfl
  | 1, _ => rfl
  | 2, _ => rfl
  | 3, _ => rfl
  | 4, _ => rfl
  | 5, _ => rfl
  | 6, _ => rfl
  | 7, _ => rfl
  | 8, _ => rfl
  | 9, _ => rfl
  | n + 10, h => by omega
theorem step0 (xs : List Int) (s turn found told j : Option Wd) (k : Int) (S : Store) (hk : 0 ≤ k) (hS : IsFeed xs S) : ∃ t S', t ∈ all3 ∧ exec (cxP tb.P 39 0) (L1.getD 0 (.pass ⟨0, 0, 0, 0⟩)) (slots s (some (.t (.int k))) turn found told j) S = .nx (slots s (some (.t (.int k))) (some (.t t)) found told j) S' ∧ IsFeed xs S' := by
  obtain ⟨y, q0, q1, z, p1, q, x, p2, e, p3, p4, y8, p5, p6, p7, p8, sc, own, p9, p10, p11, sh, ho, he⟩ : ∃ y q0 q1 z p1 q x p2 e p3 p4 y8 p5 p6 p7 p8 sc own p9 p10 p11, L1.getD 0 (.pass ⟨0, 0, 0, 0⟩) = .asg (.nm 5 y q0) (.b1 .tuple false q1 (.lc false (.idx (.var 3 z p1) (.call "_law_draw" false q [.var 1 x p2, e] p3) p4) (.nm 8 y8 p5) (.rng1 p6 (.lit (.int 3) 0 p7) p8) none sc own p9) p10) p11 ∧ own.map (·.2) = [8] ∧
      (∀ (k : Int) ρ S, ρ[4]? = some (some (.t (.int k))) → ev (cxP tb.P 39 0) e ρ S = .ok (.t (.int (6 + 4 * (k % 2)))) S) :=
    ⟨_, _, _, _, _, _, _, _, _, _, _, _, _, _, _, _, _, _, _, _, _, rfl, rfl, fun k ρ S h => by simp only [ev, h, bd_ok', Lit.d, bin_mod (show (0 : Int) < 2 by decide), mull (show -(2 ^ 64) < (4 : Int) ∧ (4 : Int) < 2 ^ 64 by decide), bin_add]⟩
  have hm : 0 < 6 + 4 * (k % 2) := by omega
  have hM : 6 + 4 * (k % 2) ≤ 10 := by omega
  have hg : (6 + 4 * (k % 2)).natAbs.log2 < 8000 := by
    have : k % 2 = 0 ∨ k % 2 = 1 := by omega
    rcases this with h | h <;> rw [h] <;> decide
  obtain ⟨ds, S', e1, e2, e3, e4⟩ := lc_inv (C := cxP tb.P 39 0) (ρ := slots s (some (.t (.int k))) turn found told j) (S := S) (I := IsFeed xs) (Pv := fun d => ∃ i, i < 10 ∧ d = .str (T10.getD i "")) (q := p6) (p := p8) (p2 := p9) (a := .lit (.int 3) 0 p7) (elt := .idx (.var 3 z p1) (.call "_law_draw" false q [.var 1 x p2, e] p3) p4) (t := .nm 8 y8 p5) (sc := sc) (own := own) (n := 3) rfl ev_lit (by decide) hS fun i S hS => by
    refine ⟨(wipeE (slots s (some (.t (.int k))) turn found told j) (own.map (·.2))).set 8 (some (.t (.int (i : Nat)))), by rw [ho]; rfl, ?_⟩
    rw [ho]
    obtain ⟨r, S2, d1, d2, d3, d4⟩ := draw_call (n := 38) (bs := 0) (ρ := (wipeE (slots s (some (.t (.int k))) turn found told j) [8]).set 8 (some (.t (.int (i : Nat))))) (e := e) (q := q) (p := p3) (p1 := p2) (x := x) (S := S) (xs := xs) rfl (fun S => he k _ S rfl) hm hg hS
    refine ⟨.str (T10.getD r.toNat ""), S2, ?_, d2, r.toNat, by omega, rfl⟩
    unfold ev
    rw [ev_var (w := .t (.lst (T10.map .str))) rfl, bd_ok', d1, bd_ok']
    show (opt S2 (isInt (.t (.int r)))).bd _ = _
    show idxD (.t (.lst (T10.map .str))) r S2 = _
    rw [idx_lst, atI_nat d3 (by simp [T10]; omega)]
    have hr : r.toNat < 10 := by omega
    rw [t10_at _ hr]; rfl
  match ds, e3 with
  | [a, b, c], _ =>
    obtain ⟨i, hi, rfl⟩ := e4 a (by simp)
    obtain ⟨i2, hi2, rfl⟩ := e4 b (by simp)
    obtain ⟨i3, hi3, rfl⟩ := e4 c (by simp)
    exact ⟨trip i i2 i3, S', all3_mem hi hi2 hi3, by rw [sh]; exact exec_asg (ev_tuple rfl e1) rfl, e2⟩
end K03

namespace K03
open Gw
theorem body1 (xs : List Int) (s turn found told j : Option Wd) (k : Int) (S : Store) (hk : 0 ≤ k) (hS : IsFeed xs S) : ∃ turn' found' S', execs (cxP tb.P 39 0) L1 (slots s (some (.t (.int k))) turn found told j) S = .nx (slots s (some (.t (.int k))) turn' found' told j) S' ∧ IsFeed xs S' := by
  obtain ⟨t, S', ht, e0, h0⟩ := step0 xs s turn found told j k S hk hS
  obtain ⟨a, b, c, rfl, h0'⟩ := h0
  have eb : L1 = [L1.getD 0 (.pass ⟨0, 0, 0, 0⟩), L1.getD 1 (.pass ⟨0, 0, 0, 0⟩), L1.getD 2 (.pass ⟨0, 0, 0, 0⟩)] := rfl
  refine ⟨some (.t t), some (.t (.bl (isT t))), [feedC xs a b c], ?_, a, b, c, rfl, h0'⟩
  rw [eb, execs_cons, e0, sq_nx, execs_cons, step1 _ _ _ _ _ _ ht, sq_nx, execs_cons, step2 _ _ _ _ _ ht, sq_nx, execs_nil]
theorem outer (xs : List Int) (s : Option Wd) (S : Store) (hS : IsFeed xs S) : ∃ k turn found S', exec (cxP tb.P 39 0) loop1 (slots s none none none none none) S = .nx (slots s k turn found none none) S' ∧ IsFeed xs S' := by
  obtain ⟨y, q0, q, p0, p1, p, sh⟩ : ∃ y q0 q p0 p1 p, loop1 = .forS (.nm 4 y q0) (.rng1 q (.lit (.int 12) 0 p0) p1) L1 p := ⟨_, _, _, _, _, _, rfl⟩
  have hi : evI (cxP tb.P 39 0) (.rng1 q (.lit (.int 12) 0 p0) p1) (slots s none none none none none) S = .ok ((List.range 12).map (fun i => Wd.t (.int (i : Nat))), none) S := evI_rng (n := 12) ev_lit (by decide)
  rw [sh, forS_run rfl hi]
  refine (fun key => ?_) (forGo_invS (f := fun w ρ S => match bindT S (.nm 4 y q0) w ρ with | some ρ' => execs (cxP tb.P 39 0) L1 ρ' S | none => .no) (I := fun ρ S => (∃ k turn found, ρ = slots s k turn found none none) ∧ IsFeed xs S)
    ((List.range 12).map (fun i => Wd.t (.int (i : Nat)))) ?_ (slots s none none none none none) S ⟨⟨none, none, none, rfl⟩, hS⟩)
  · obtain ⟨ρ', S', e, ⟨k, turn, found, rfl⟩, h⟩ := key
    exact ⟨k, turn, found, S', congrArg (fun o => Out.unl o none) e, h⟩
  · intro w hw ρ S h
    obtain ⟨⟨k, turn, found, rfl⟩, hS⟩ := h
    obtain ⟨i, _, rfl⟩ := List.mem_map.mp hw
    obtain ⟨turn', found', S', e, h'⟩ := body1 xs s turn found none none (i : Nat) S (by omega) hS
    exact ⟨_, S', e, ⟨_, _, _, rfl⟩, h'⟩
theorem ans : Ans := fun ns _ => by
  rw [evF_call (F := f_law) rfl rfl]
  obtain ⟨c0, hc0⟩ : ∃ c0, c0 = feedC (cutG ns none (some 63)) 0 0 1 := ⟨_, rfl⟩
  have hS0 : IsFeed (cutG ns none (some 63)) [c0] := ⟨0, 0, 1, by rw [hc0], Int.le_refl _⟩
  show ∃ S, finO true [] (execs (cxP tb.P 39 0) f_law.body [some (.t (.lst (ns.map .int))), none, none, none, none, none, none, none, none] []) = _
  have st0 : exec (cxP tb.P 39 0) (f_law.body.getD 0 (.pass ⟨0, 0, 0, 0⟩)) [some (.t (.lst (ns.map .int))), none, none, none, none, none, none, none, none] [] = .nx [some (.t (.lst (ns.map .int))), some (.h 0), none, none, none, none, none, none, none] [c0] := by
    obtain ⟨y, q0, q, x, p1, p2, p, sh⟩ : ∃ y q0 q x p1 p2 p, f_law.body.getD 0 (.pass ⟨0, 0, 0, 0⟩) = .asg (.nm 1 y q0) (.call "_law_feed" true q [.var 0 x p1] p2) p := ⟨_, _, _, _, _, _, _, rfl⟩
    have hv : ev (cxP tb.P 39 0) (.call "_law_feed" true q [.var 0 x p1] p2) [some (.t (.lst (ns.map .int))), none, none, none, none, none, none, none, none] [] = .ok (.h 0) [c0] := by
      rw [ev_call1 (h := evF tb.P 39 "_law_feed") rfl (ev_var (w := .t (.lst (ns.map .int))) rfl), feed 38 ns, hc0]
    rw [sh]; exact exec_asg hv rfl
  have st1 : ∀ s c, exec (cxP tb.P 39 0) (f_law.body.getD 1 (.pass ⟨0, 0, 0, 0⟩)) [s, some (.h 0), none, none, none, none, none, none, none] [c] = .nx [s, some (.h 0), some (.t (.lst dueL)), none, none, none, none, none, none] [c] := fun s c => by kernel_rfl
  have st2 : ∀ s c, exec (cxP tb.P 39 0) (f_law.body.getD 2 (.pass ⟨0, 0, 0, 0⟩)) [s, some (.h 0), some (.t (.lst dueL)), none, none, none, none, none, none] [c] = .nx (slots s none none none none none) [c] := fun s c => by kernel_rfl
  obtain ⟨k, turn, found, S', e3, h3⟩ := outer _ (some (.t (.lst (ns.map .int)))) [c0] hS0
  obtain ⟨a, b, c, rfl, _⟩ := h3
  obtain ⟨S, e4⟩ := tail (feedC (cutG ns none (some 63)) a b c) (some (.t (.lst (ns.map .int)))) k turn found none none
  have eb : f_law.body = f_law.body.getD 0 (.pass ⟨0, 0, 0, 0⟩) :: f_law.body.getD 1 (.pass ⟨0, 0, 0, 0⟩) :: f_law.body.getD 2 (.pass ⟨0, 0, 0, 0⟩) :: loop1 :: f_law.body.drop 4 := rfl
  refine ⟨S, ?_⟩
  rw [eb, execs_cons, st0, sq_nx, execs_cons, st1, sq_nx, execs_cons, st2, sq_nx, execs_cons, e3, sq_nx]
  have e4' : execs (cxP tb.P 39 0) (f_law.body.drop 4) (slots (some (.t (.lst (ns.map .int)))) k turn found none none) [feedC (cutG ns none (some 63)) a b c] = .rt (.t (.bl true)) S := e4
  rw [e4']
  rfl
end K03

theorem PySem.Challenge.cw_gripwood_k03_turns_and_no_mirrors_holds : PySem.Challenge.rw_gripwood_k03_turns_and_no_mirrors.Holds := by
  exact K03.fin K03.ans
