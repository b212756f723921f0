import PyProof.Rows.All
import Wide.All
import OpenK.AllK
import Wide.FinOn
import HandS.ForMost
import HandS.Flow
import HandS.Defaults
import HandS.Deep
import HandS.More
import HandS.Style
import HandS.TupAny
import HandS.HeadWalk
import HandS.Codes
import HandS.Rev
import KE.GoesEnum
import KE.GoesZip
import KE.GoesMore
import HandS.Strs
import PyProof.ReprRoads
import HandS.New0
import HandS.HeadHook1
import HandS.HeadHook2
import HandS.Ends
import HandS.Head2
import HandS.HeadEnd
import PySem.Challenge.RW_fencerow_k60_bare_and_fenced
set_option Elab.async false
set_option linter.all false
set_option maxRecDepth 100000
set_option maxHeartbeats 4000000
/-! Fe0: trees, a small language over slots, its evaluator. Plain Lean: no heap. -/
namespace Fe
open PySem L2

/-! ### trees -/
inductive T where
  | non | bl (b : Bool) | int (i : Int) | str (s : Str)
  | tup (l : List T) | lst (l : List T) | scr (l : List Int) | obj (k : Nat) (l : List T)

mutual
def T.toD : T → PyData
  | .non => .none
  | .bl b => .bool b
  | .int i => .int i
  | .str s => .str s
  | .tup l => .tuple (toDs l)
  | .lst l => .list (toDs l)
  | .scr _ => .none
  | .obj _ _ => .none
def toDs : List T → List PyData
  | [] => []
  | t :: r => t.toD :: toDs r
end
mutual
/-- plain data, at most so deep -/
def T.dep : T → Nat → Bool
  | .non, _ => true
  | .bl _, _ => true
  | .int _, _ => true
  | .str _, _ => true
  | .tup l, n + 1 => deps l n
  | .lst l, n + 1 => deps l n
  | _, _ => false
def deps : List T → Nat → Bool
  | [], _ => true
  | t :: r, n => t.dep n && deps r n
end
/-- so deep plain data may be compared -/
abbrev DM : Nat := 60
abbrev LIM : Nat := 16777216

def T.eqv (a b : T) : Bool := PyData.eqv a.toD b.toD
def T.tru : T → Option Bool
  | .non => some false
  | .bl b => some b
  | .int i => some (i != 0)
  | .str s => some ((s.length : Int) != 0)
  | .tup l => some (!l.isEmpty)
  | .lst l => some (!l.isEmpty)
  | _ => none
def T.flat : T → Bool
  | .int _ => true
  | .str _ => true
  | _ => false
def T.isInt? : T → Option Int
  | .int i => some i
  | _ => none
def ints? : List T → Option (List Int)
  | [] => some []
  | .int i :: r => (ints? r).map (i :: ·)
  | _ :: _ => none
def bls? : List T → Option (List Bool)
  | [] => some []
  | .bl i :: r => (bls? r).map (i :: ·)
  | _ :: _ => none
def strs? : List T → Option (List Str)
  | [] => some []
  | .str i :: r => (strs? r).map (i :: ·)
  | _ :: _ => none

/-! ### operators -/
inductive BOp where
  | add | sub | mul | fdiv | mod | band | bor | bxor | shl | shr | pow
inductive COp where
  | eq | ne | lt | le | gt | ge | isin | notin | is | isnot

def inMul (i j : Int) : Bool := (decide (-(2 ^ 64) < i) && decide (i < 2 ^ 64)) || (decide (-(2 ^ 64) < j) && decide (j < 2 ^ 64))
def powOk (i j : Int) : Bool := decide (0 ≤ j) && decide (j ≤ 1000000) && decide (i.natAbs < 2 ^ 64)
def BOp.ap : BOp → T → T → Option T
  | .add, .int i, .int j => some (.int (i + j))
  | .add, .str a, .str b => if a.length + b.length ≤ LIM then some (.str (a ++ b)) else none
  | .add, .lst a, .lst b => if a.length + b.length ≤ LIM then some (.lst (a ++ b)) else none
  | .add, .tup a, .tup b => if a.length + b.length ≤ LIM ∧ a ≠ [] then some (.tup (a ++ b)) else none
  | .sub, .int i, .int j => some (.int (i - j))
  | .mul, .int i, .int j => if inMul i j then some (.int (i * j)) else none
  | .fdiv, .int i, .int j => if 0 < j ∧ j < 1073741824 then some (.int (i / j)) else none
  | .mod, .int i, .int j => if 0 < j then some (.int (i % j)) else none
  | .band, .int i, .int j => some (.int (Builtin.bitAnd i j))
  | .bor, .int i, .int j => some (.int (Builtin.bitOr i j))
  | .bxor, .int i, .int j => some (.int (Builtin.bitXor i j))
  | .shl, .int i, .int j => if powOk i j then some (.int (i * 2 ^ j.toNat)) else none
  | .shr, .int i, .int j => if 0 ≤ j then some (.int (i / 2 ^ j.toNat)) else none
  | .pow, .int i, .int j => if powOk i j then some (.int (i ^ j.toNat)) else none
  | _, _, _ => none
def eqOk (a b : T) : Bool := a.dep DM && b.dep DM
/-- x in y -/
def inT (x y : T) : Option Bool := match y with
  | .lst l => if x.dep DM && deps l DM then some (l.any fun z => z.eqv x) else none
  | .tup l => if x.flat && l.all T.flat then some (l.any fun z => z.eqv x) else none
  | .str s => (match x with
    | .str z => if z.length = 1 then some (decide (z.cps.toList.headD 0 ∈ s.cps.toList)) else none
    | _ => none)
  | _ => none
def COp.ap : COp → T → T → Option T
  | .eq, a, b => if eqOk a b then some (.bl (a.eqv b)) else none
  | .ne, a, b => if eqOk a b then some (.bl (!a.eqv b)) else none
  | .lt, .int i, .int j => some (.bl (decide (i < j)))
  | .le, .int i, .int j => some (.bl (decide (i ≤ j)))
  | .gt, .int i, .int j => some (.bl (decide (j < i)))
  | .ge, .int i, .int j => some (.bl (decide (j ≤ i)))
  | .isin, a, b => (inT a b).map .bl
  | .notin, a, b => (inT a b).map fun k => .bl (!k)
  | .is, .non, .non => some (.bl true)
  | .is, _, .non => some (.bl false)
  | .isnot, .non, .non => some (.bl false)
  | .isnot, _, .non => some (.bl true)
  | _, _, _ => none

/-! ### built-ins -/
inductive Bi where
  | len | list | tuple | int | str | min2 | max2 | max1 | sum | all | any | lenset
  | isI (cs : List Str)
inductive Bm where
  | index | count | join | find | split | isdigit
def idxOf (x : T) : List T → Option Nat
  | [] => none
  | y :: r => if y.eqv x then some 0 else (idxOf x r).map (· + 1)
/-- which classes are known: built-in ones by name, own ones by number -/
def bltCls : T → Option String
  | .non => some "NoneType"
  | .bl _ => some "bool"
  | .int _ => some "int"
  | .str _ => some "str"
  | .tup _ => some "tuple"
  | .lst _ => some "list"
  | _ => none
def firstMetS : List Str → List Str → List Str
  | acc, [] => acc
  | acc, x :: r => if x ∈ acc then firstMetS acc r else firstMetS (acc ++ [x]) r
def Bi.ap : Bi → List T → Option T
  | .len, [.str s] => some (.int s.length)
  | .len, [.lst l] => some (.int l.length)
  | .len, [.tup l] => some (.int l.length)
  | .len, [.scr l] => some (.int l.length)
  | .list, [.lst l] => some (.lst l)
  | .list, [.tup l] => some (.lst l)
  | .tuple, [.lst l] => some (.tup l)
  | .tuple, [.tup l] => some (.tup l)
  | .int, [.int i] => some (.int i)
  | .int, [.bl b] => some (.int (if b then 1 else 0))
  | .int, [.str s] => if s.length ≤ 640 then (PySem.intText? s).map .int else none
  | .str, [.int i] => if i.natAbs.log2 < 1920 then some (.str (toString i)) else none
  | .str, [.str s] => some (.str s)
  | .min2, [.int i, .int j] => some (.int (if j < i then j else i))
  | .max2, [.int i, .int j] => some (.int (if j > i then j else i))
  | .max1, [.lst l] => (match ints? l with
    | some (i :: r) => some (.int (r.foldl max i))
    | _ => none)
  | .sum, [.lst l] => (ints? l).map fun is => .int is.sum
  | .all, [.lst l] => (bls? l).map fun is => .bl (is.all id)
  | .any, [.lst l] => (bls? l).map fun is => .bl (is.any id)
  | .lenset, [.lst l] => (match strs? l with
    | some ss => if ss.length ≤ 4000 then some (.int (firstMetS [] ss).length) else none
    | none => none)
  | _, _ => none
def Bm.ap : Bm → T → List T → Option T
  | .index, .lst l, [x] => if x.dep DM && deps l DM then (idxOf x l).map fun n => .int n else none
  | .count, .lst l, [x] => if x.dep DM && deps l DM then some (.int (l.countP fun z => z.eqv x)) else none
  | .join, .str a, [.lst l] => (match strs? l with
    | some ss => if (ss.map (·.length)).sum + ss.length * a.length ≤ LIM then some (.str (Txt.join a ss)) else none
    | none => none)
  | .find, .str a, [.str b] => some (.int (Txt.find a b))
  | .isdigit, .str a, [] => some (.bl (Txt.isdigit a))
  | .split, .str a, [.str b] => if b.length ≠ 0 ∧ a.length + 2 ≤ LIM then some (.lst ((Txt.split a b).map .str)) else none
  | _, _, _ => none
def ixT : T → T → Option T
  | .lst l, .int i => atI l i
  | .tup l, .int i => atI l i
  | .scr l, .int i => (atI l i).map .int
  | .str s, .int i => (atI s.cps.toList i).map fun c => .str ⟨#[c]⟩
  | _, _ => none
def part? : Option T → Option (Option Int)
  | none => some none
  | some (.int i) => some (some i)
  | _ => none
def cutL {α : Type} (xs : List α) (lo hi : Option Int) : List α := (xs.drop (HT.sIx xs.length 0 lo)).take (HT.sIx xs.length xs.length hi - HT.sIx xs.length 0 lo)
def slT (t : T) (lo hi : Option Int) : Option T := match t with
  | .lst l => some (.lst (cutL l lo hi))
  | .tup l => some (.tup (cutL l lo hi))
  | _ => none

/-! ### the language -/
inductive Tg where
  | n (i : Nat)
  | tt (is : List Nat)
mutual
inductive E where
  | v (i : Nat)
  | p (i : Nat)
  | k (t : T)
  | g (j : Nat)
  | tup (l : Es) | lst (l : Es)
  | bin (o : BOp) (a b : E)
  | neg (a : E) | nt (a : E)
  | cmp (o : COp) (a b : E)
  | cmp2 (o o' : COp) (a b c : E)
  | and (a b : E) | andN (a b : E) | or (a b : E) | orN (a b : E)
  | ife (c a b : E)
  | ix (a b : E)
  | sl (a : E) (lo hi : Op)
  | rev (a : E)
  | fld (a : E) (f : Str)
  | call (f : Nat) (l : Es)
  | meth (a : E) (m : Str) (l : Es)
  | mk (c : Nat) (l : Es)
  | bi (b : Bi) (l : Es)
  | bm (b : Bm) (a : E) (l : Es)
  | isi (a : E) (c : Nat)
  | lc (own : List (Str × Nat)) (tg : Tg) (it : It) (c : Op) (e : E)
  | dsel (kvs : List (Str × Str)) (e : E)
  | repq (a b : E)
inductive Op where
  | no | so (e : E)
inductive Es where
  | nil | cons (e : E) (l : Es)
inductive It where
  | it (e : E) | rng (e : E) | rng2 (a b : E) | enu (e : E) | zip (a b : E) | rvd (e : E)
end
/-- a slot: empty, a frozen tree, a borrowed one, an owned list, an instance that is being made -/
inductive Sl where
  | no | fz (t : T) | bw (t : T) | ow (t : T) | nw (q : Nat) (fs : List T)
abbrev En := List Sl

/-- what the text's own defs and classes are -/
structure Pg where
  fn : Nat → List T → Option T
  mth : Nat → Str → Option Nat
  ini : Nat → List T → Option (List T)
  fl : Nat → List Str
  gl : Nat → Option T

def Tg.bind : Tg → T → En → Option En
  | Tg.n i, t, env => some (env.set i (.fz t))
  | Tg.tt is, T.tup us, env => if is.length = us.length then some ((is.zip us).foldl (fun e p => e.set p.1 (.fz p.2)) env) else none
  | _, _, _ => none
def wipeE (env : En) : List Nat → En
  | [] => env
  | v :: vs => (wipeE env vs).set v .no
def enumT (n : Nat) : List T → List T
  | [] => []
  | t :: r => .tup [.int n, t] :: enumT (n + 1) r
def zipT : List T → List T → List T
  | a :: r, b :: q => .tup [a, b] :: zipT r q
  | _, _ => []
def rngT (lo : Int) (n : Nat) : List T := (List.range n).map fun i => .int (lo + (i : Nat))
def seqT : T → Option (List T)
  | .lst l => some l
  | .tup l => some l
  | .str s => some (s.cps.toList.map fun c => .str ⟨#[c]⟩)
  | _ => none
/-- a comprehension's loop -/
def lcL (f : T → Option (Option T)) : List T → Option (List T)
  | [] => some []
  | t :: r => match f t with
    | none => none
    | some o => match lcL f r with
      | none => none
      | some l => match o with
        | none => some l
        | some y => some (y :: l)

def slV : Option Sl → Option T
  | some (.fz t) => some t
  | _ => none
def slP : Option Sl → Option T
  | some (.fz t) => some t
  | some (.bw t) => some t
  | some (.ow t) => some t
  | _ => none
def negT : T → Option T
  | .int i => some (.int (-i))
  | _ => none
def revT : T → Option T
  | .lst l => some (.lst l.reverse)
  | _ => none
def cmpK (r : T) (z : Option T) (f : T → Option T) : Option T := match r with
  | .bl true => z.bind f
  | .bl false => some (.bl false)
  | _ => none
def fldT (fl : Nat → List Str) (f : Str) : T → Option T
  | .obj k l => ((fl k).idxOf? f).bind fun j => l[j]?
  | _ => none
def methT (P : Pg) (m : Str) (ts : List T) : T → Option T
  | .obj k fs => (P.mth k m).bind fun f => P.fn f (.obj k fs :: ts)
  | _ => none
def isiT (c : Nat) : T → Option T
  | .obj k _ => if k = c then some (.bl true) else none
  | _ => none
def dselT (kvs : List (Str × Str)) : T → Option T
  | .str s => (kvs.lookup s).map .str
  | _ => none
def T.isSeq : T → Bool
  | .tup _ => true
  | .lst _ => true
  | _ => false
/-- its repr may be asked -/
def T.shw (x : T) : Bool := x.isSeq && (x.dep DM && (x.toD.showable && decide (x.toD.shown.length ≤ LIM)))
def repqT (x y : T) : Option T := if x.shw && y.shw then some (.bl (decide (x.toD.shown = y.toD.shown))) else none
def partT : T → Option (Option Int)
  | .int i => some (some i)
  | _ => none
def rng1T : T → Option (List T)
  | .int n => if n ≤ LIM ∧ -(2 ^ 62) ≤ n then some (rngT 0 n.toNat) else none
  | _ => none
def rng2T : T → T → Option (List T)
  | .int i, .int j => if -(2 ^ 62) ≤ i ∧ i < 2 ^ 62 ∧ -(2 ^ 62) ≤ j ∧ j < 2 ^ 62 ∧ j - i ≤ LIM then some (rngT i (j - i).toNat) else none
  | _, _ => none
def enuT : T → Option (List T)
  | .lst l => some (enumT 0 l)
  | .tup l => some (enumT 0 l)
  | _ => none
def zip2T (x y : T) : Option (List T) := (seqT x).bind fun l => (seqT y).map fun r => zipT l r
def rvdT : T → Option (List T)
  | .lst l => some l.reverse
  | .tup l => some l.reverse
  | _ => none

mutual
def E.ev (P : Pg) : E → En → Option T
  | .v i, env => slV env[i]?
  | .p i, env => slP env[i]?
  | .k t, _ => some t
  | .g j, _ => P.gl j
  | .tup l, env => (l.ev P env).map .tup
  | .lst l, env => (l.ev P env).map .lst
  | .bin o a b, env => (a.ev P env).bind fun x => (b.ev P env).bind fun y => o.ap x y
  | .neg a, env => (a.ev P env).bind negT
  | .nt a, env => (a.ev P env).bind fun x => x.tru.map fun k => .bl (!k)
  | .cmp o a b, env => (a.ev P env).bind fun x => (b.ev P env).bind fun y => o.ap x y
  | .cmp2 o o' a b c, env => (a.ev P env).bind fun x => (b.ev P env).bind fun y => (o.ap x y).bind fun r => cmpK r (c.ev P env) (o'.ap y)
  | .and a b, env => (a.ev P env).bind fun x => x.tru.bind fun k => bif k then b.ev P env else some x
  | .andN a b, env => (a.ev P env).bind fun x => x.tru.bind fun k => bif k then b.ev P env else some x
  | .or a b, env => (a.ev P env).bind fun x => x.tru.bind fun k => bif k then some x else b.ev P env
  | .orN a b, env => (a.ev P env).bind fun x => x.tru.bind fun k => bif k then some x else b.ev P env
  | .ife c a b, env => (c.ev P env).bind fun x => x.tru.bind fun k => bif k then a.ev P env else b.ev P env
  | .ix a b, env => (a.ev P env).bind fun x => (b.ev P env).bind fun y => ixT x y
  | .sl a lo hi, env => (a.ev P env).bind fun x => (lo.ev P env).bind fun l => (hi.ev P env).bind fun h => slT x l h
  | .rev a, env => (a.ev P env).bind revT
  | .fld a f, env => (a.ev P env).bind (fldT P.fl f)
  | .call f l, env => (l.ev P env).bind (P.fn f)
  | .meth a m l, env => (a.ev P env).bind fun x => (l.ev P env).bind fun ts => methT P m ts x
  | .mk c l, env => (l.ev P env).bind fun ts => (P.ini c ts).map (.obj c)
  | .bi b l, env => (l.ev P env).bind b.ap
  | .bm b a l, env => (a.ev P env).bind fun x => (l.ev P env).bind fun ts => b.ap x ts
  | .isi a c, env => (a.ev P env).bind (isiT c)
  | .lc own tg it c e, env => (it.ev P env).bind fun ts => (lcL (fun t => (tg.bind t (wipeE env (own.map (·.2)))).bind fun env' =>
      (c.tst P env').bind fun k => bif k then (e.ev P env').map some else some none) ts).map .lst
  | .dsel kvs e, env => (e.ev P env).bind (dselT kvs)
  | .repq a b, env => (a.ev P env).bind fun x => (b.ev P env).bind fun y => repqT x y
def Op.ev (P : Pg) : Op → En → Option (Option Int)
  | .no, _ => some none
  | .so e, env => (e.ev P env).bind partT
def Op.tst (P : Pg) : Op → En → Option Bool
  | .no, _ => some true
  | .so e, env => (e.ev P env).bind T.tru
def Es.ev (P : Pg) : Es → En → Option (List T)
  | .nil, _ => some []
  | .cons e l, env => (e.ev P env).bind fun t => (l.ev P env).map fun ts => t :: ts
def It.ev (P : Pg) : It → En → Option (List T)
  | .it e, env => (e.ev P env).bind seqT
  | .rng e, env => (e.ev P env).bind rng1T
  | .rng2 a b, env => (a.ev P env).bind fun x => (b.ev P env).bind fun y => rng2T x y
  | .enu e, env => (e.ev P env).bind enuT
  | .zip a b, env => (a.ev P env).bind fun x => (b.ev P env).bind fun y => zip2T x y
  | .rvd e, env => (e.ev P env).bind rvdT
end
end Fe

set_option Elab.async false
set_option linter.all false
set_option maxRecDepth 100000
set_option maxHeartbeats 4000000
/-! Fe1: trees in the heap. -/
namespace Fe
open PySem PySem.Spec PyProof.Rows L2

structure Cl where
  K : PySem.W.Frag
  cl : Nat → Addr
  fl : Nat → List Str
abbrev Zn := Addr → Prop
def KTup (K : PySem.W.Frag) (a : Addr) (xs : List V) : Prop :=
  ∃ (o : Obj) (its : Array Value) (n : Nat), K.lookup a = some o ∧ o.cls = .type "tuple" ∧ o.data = .seq its n ∧ its.size ≤ sizeLine ∧ Vals xs its.toList
def TupAt (c : Cl) (H : Hp) (Z : Zn) (a : Addr) (xs : List V) : Prop := (¬ Z a ∧ Rd H a (.tup xs)) ∨ KTup c.K a xs
def ScrAt (c : Cl) (H : Hp) (Z : Zn) (a : Addr) (xs : List V) : Prop := (¬ Z a ∧ Rd H a (.lst xs)) ∨
  ∃ (o : Obj) (its : Array Value) (n : Nat), c.K.lookup a = some o ∧ o.cls = .type "list" ∧ o.dict = none ∧ o.data = .seq its n ∧ its.size ≤ sizeLine ∧ Vals xs its.toList
theorem ScrAt.sq {c : Cl} {H : Hp} {Z : Zn} {a : Addr} {xs : List V} (h : ScrAt c H Z a xs) : SqL c.K H a xs := by
  rcases h with ⟨_, h⟩ | h
  · exact .inl h
  · exact .inr h
theorem TupAt.seq {c : Cl} {H : Hp} {Z : Zn} {a : Addr} {xs : List V} (h : TupAt c H Z a xs) : SqT c.K H a xs := by
  rcases h with ⟨_, h⟩ | h
  · exact .inl h
  · exact .inr h

mutual
def Rep (c : Cl) (H : Hp) (Z : Zn) : T → V → Prop
  | .non, v => v = .non
  | .bl b, v => v = .bl b
  | .int i, v => v = .int i
  | .str s, v => v = .str s ∧ PyData.strOk s = true ∧ s.length ≤ LIM
  | .tup ts, v => ∃ a vs, v = .ref a ∧ TupAt c H Z a vs ∧ RepL c H Z ts vs ∧ ts.length ≤ LIM
  | .lst ts, v => ∃ a vs, v = .ref a ∧ ¬ Z a ∧ H a = some (.lst vs) ∧ RepL c H Z ts vs ∧ ts.length ≤ LIM
  | .scr ns, v => ∃ a, v = .ref a ∧ ScrAt c H Z a (ns.map V.int) ∧ ns.length ≤ LIM
  | .obj k ts, v => ∃ a dx vs, v = .ref a ∧ ¬ Z a ∧ H a = some (.ins (c.cl k) dx ((c.fl k).zip vs)) ∧ RepL c H Z ts vs ∧ ts.length = (c.fl k).length
def RepL (c : Cl) (H : Hp) (Z : Zn) : List T → List V → Prop
  | [], vs => vs = []
  | t :: ts, vs => ∃ v r, vs = v :: r ∧ Rep c H Z t v ∧ RepL c H Z ts r
end
variable {c : Cl} {H H' H1 H2 : Hp} {Z Z' : Zn} {t : T} {ts us : List T} {v : V} {vs ws : List V}

theorem RepL.nil_iff : RepL c H Z [] vs ↔ vs = [] := by unfold RepL; exact Iff.rfl
theorem RepL.cons_iff : RepL c H Z (t :: ts) vs ↔ ∃ v r, vs = v :: r ∧ Rep c H Z t v ∧ RepL c H Z ts r := by
  conv => lhs; unfold RepL
theorem RepL.nil : RepL c H Z [] [] := RepL.nil_iff.mpr rfl
theorem RepL.cons (h : Rep c H Z t v) (r : RepL c H Z ts vs) : RepL c H Z (t :: ts) (v :: vs) := RepL.cons_iff.mpr ⟨_, _, rfl, h, r⟩
theorem RepL.inv (h : RepL c H Z (t :: ts) (v :: vs)) : Rep c H Z t v ∧ RepL c H Z ts vs := by
  obtain ⟨a, b, e, h1, h2⟩ := RepL.cons_iff.mp h
  cases e
  exact ⟨h1, h2⟩
theorem RepL.length : ∀ {ts : List T} {vs : List V}, RepL c H Z ts vs → vs.length = ts.length
  | [], vs, h => by rw [RepL.nil_iff.mp h]; rfl
  | t :: ts, vs, h => by
    obtain ⟨v, r, rfl, _, h2⟩ := RepL.cons_iff.mp h
    simp [RepL.length h2]
theorem RepL.get : ∀ {ts : List T} {vs : List V} {i : Nat} {t : T}, RepL c H Z ts vs → ts[i]? = some t → ∃ v, vs[i]? = some v ∧ Rep c H Z t v
  | [], _, _, _, _, e => by simp at e
  | t :: ts, vs, 0, u, h, e => by
    obtain ⟨v, r, rfl, h1, _⟩ := RepL.cons_iff.mp h
    simp at e; subst e
    exact ⟨v, rfl, h1⟩
  | t :: ts, vs, i + 1, u, h, e => by
    obtain ⟨v, r, rfl, _, h2⟩ := RepL.cons_iff.mp h
    obtain ⟨w, e1, e2⟩ := RepL.get (i := i) h2 (by simpa using e)
    exact ⟨w, by simpa using e1, e2⟩
theorem RepL.getR {i : Nat} {v : V} (h : RepL c H Z ts vs) (e : vs[i]? = some v) : ∃ t, ts[i]? = some t ∧ Rep c H Z t v := by
  have hi : i < ts.length := by
    have := (List.getElem?_eq_some_iff.mp e).1
    rw [h.length] at this; exact this
  obtain ⟨w, e1, e2⟩ := h.get (List.getElem?_eq_getElem hi)
  rw [e] at e1; cases e1
  exact ⟨_, List.getElem?_eq_getElem hi, e2⟩
theorem RepL.append : ∀ {ts us : List T} {vs ws : List V}, RepL c H Z ts vs → RepL c H Z us ws → RepL c H Z (ts ++ us) (vs ++ ws)
  | [], us, vs, ws, h, h' => by rw [RepL.nil_iff.mp h]; exact h'
  | t :: ts, us, vs, ws, h, h' => by
    obtain ⟨v, r, rfl, h1, h2⟩ := RepL.cons_iff.mp h
    exact RepL.cons h1 (RepL.append h2 h')
theorem RepL.drop : ∀ {ts : List T} {vs : List V} (n : Nat), RepL c H Z ts vs → RepL c H Z (ts.drop n) (vs.drop n)
  | _, _, 0, h => h
  | [], vs, n + 1, h => by rw [RepL.nil_iff.mp h]; exact RepL.nil
  | t :: ts, vs, n + 1, h => by
    obtain ⟨v, r, rfl, h1, h2⟩ := RepL.cons_iff.mp h
    exact RepL.drop n h2
theorem RepL.take : ∀ {ts : List T} {vs : List V} (n : Nat), RepL c H Z ts vs → RepL c H Z (ts.take n) (vs.take n)
  | _, _, 0, h => RepL.nil
  | [], vs, n + 1, h => by rw [RepL.nil_iff.mp h]; exact RepL.nil
  | t :: ts, vs, n + 1, h => by
    obtain ⟨v, r, rfl, h1, h2⟩ := RepL.cons_iff.mp h
    exact RepL.cons h1 (RepL.take n h2)
theorem RepL.reverse : ∀ {ts : List T} {vs : List V}, RepL c H Z ts vs → RepL c H Z ts.reverse vs.reverse
  | [], vs, h => by rw [RepL.nil_iff.mp h]; exact RepL.nil
  | t :: ts, vs, h => by
    obtain ⟨v, r, rfl, h1, h2⟩ := RepL.cons_iff.mp h
    rw [List.reverse_cons, List.reverse_cons]
    exact RepL.append (RepL.reverse h2) (RepL.cons h1 RepL.nil)
theorem RepL.set : ∀ {ts : List T} {vs : List V} (n : Nat), RepL c H Z ts vs → Rep c H Z t v → RepL c H Z (ts.set n t) (vs.set n v)
  | [], vs, n, h, _ => by rw [RepL.nil_iff.mp h]; exact RepL.nil
  | _ :: ts, vs, 0, h, hv => by
    obtain ⟨w, r, rfl, h1, h2⟩ := RepL.cons_iff.mp h
    exact RepL.cons hv h2
  | _ :: ts, vs, n + 1, h, hv => by
    obtain ⟨w, r, rfl, h1, h2⟩ := RepL.cons_iff.mp h
    exact RepL.cons h1 (RepL.set n h2 hv)

/-- what is kept -/
structure Kp (H H' : Hp) (Z Z' : Zn) : Prop where
  at_ : ∀ a o, H a = some o → ¬ Z a → H' a = some o
  z : ∀ a, Z' a → Z a ∨ H a = none
theorem Kp.rd {u : HO} {a : Addr} (k : Kp H H' Z Z') (h : Rd H a u) (nz : ¬ Z a) : Rd H' a u ∧ ¬ Z' a := by
  rcases h with h | ⟨o, h⟩
  · exact ⟨.inl (k.at_ _ _ h nz), fun z => (k.z _ z).elim nz fun e => by rw [e] at h; cases h⟩
  · exact ⟨.inr ⟨o, k.at_ _ _ h nz⟩, fun z => (k.z _ z).elim nz fun e => by rw [e] at h; cases h⟩
theorem Kp.one {u : HO} {a : Addr} (k : Kp H H' Z Z') (h : H a = some u) (nz : ¬ Z a) : H' a = some u ∧ ¬ Z' a :=
  ⟨k.at_ _ _ h nz, fun z => (k.z _ z).elim nz fun e => by rw [e] at h; cases h⟩
theorem Kp.tup {a : Addr} (k : Kp H H' Z Z') (h : TupAt c H Z a vs) : TupAt c H' Z' a vs := by
  rcases h with ⟨nz, h⟩ | h
  · obtain ⟨x, y⟩ := k.rd h nz
    exact .inl ⟨y, x⟩
  · exact .inr h
mutual
theorem Rep.kp (k : Kp H H' Z Z') : ∀ (t : T) (v : V), Rep c H Z t v → Rep c H' Z' t v
  | .non, v, h => by unfold Rep at *; exact h
  | .bl _, v, h => by unfold Rep at *; exact h
  | .int _, v, h => by unfold Rep at *; exact h
  | .str _, v, h => by unfold Rep at *; exact h
  | .tup ts, v, h => by
    unfold Rep at *
    obtain ⟨a, vs, e, h1, h2, h3⟩ := h
    exact ⟨a, vs, e, k.tup h1, RepL.kp k ts vs h2, h3⟩
  | .lst ts, v, h => by
    unfold Rep at *
    obtain ⟨a, vs, e, nz, h1, h2, h3⟩ := h
    obtain ⟨x, y⟩ := k.one h1 nz
    exact ⟨a, vs, e, y, x, RepL.kp k ts vs h2, h3⟩
  | .scr ns, v, h => by
    unfold Rep at *
    obtain ⟨a, e, h1, h3⟩ := h
    refine ⟨a, e, ?_, h3⟩
    rcases h1 with ⟨nz, h1⟩ | h1
    · obtain ⟨x, y⟩ := k.rd h1 nz
      exact .inl ⟨y, x⟩
    · exact .inr h1
  | .obj q ts, v, h => by
    unfold Rep at *
    obtain ⟨a, dx, vs, e, nz, h1, h2, h3⟩ := h
    obtain ⟨x, y⟩ := k.one h1 nz
    exact ⟨a, dx, vs, e, y, x, RepL.kp k ts vs h2, h3⟩
theorem RepL.kp (k : Kp H H' Z Z') : ∀ (ts : List T) (vs : List V), RepL c H Z ts vs → RepL c H' Z' ts vs
  | [], vs, h => by rw [RepL.nil_iff.mp h]; exact RepL.nil
  | t :: ts, vs, h => by
    obtain ⟨v, r, rfl, h1, h2⟩ := RepL.cons_iff.mp h
    exact RepL.cons (Rep.kp k t v h1) (RepL.kp k ts r h2)
end
theorem Kp.same (s : Same H H') : Kp H H' Z Z := ⟨fun a o e _ => s a o e, fun _ z => .inl z⟩
theorem Kp.sub (h : ∀ a, Z' a → Z a) : Kp H H Z Z' := ⟨fun a o e _ => e, fun a z => .inl (h a z)⟩

/-! ### inversions -/
theorem Rep.int_iff {i : Int} : Rep c H Z (.int i) v ↔ v = .int i := by unfold Rep; exact Iff.rfl
theorem Rep.bl_iff {i : Bool} : Rep c H Z (.bl i) v ↔ v = .bl i := by unfold Rep; exact Iff.rfl
theorem Rep.non_iff : Rep c H Z .non v ↔ v = .non := by unfold Rep; exact Iff.rfl
theorem Rep.str_iff {s : Str} : Rep c H Z (.str s) v ↔ v = .str s ∧ PyData.strOk s = true ∧ s.length ≤ LIM := by unfold Rep; exact Iff.rfl
theorem Rep.tup_iff : Rep c H Z (.tup ts) v ↔ ∃ a vs, v = .ref a ∧ TupAt c H Z a vs ∧ RepL c H Z ts vs ∧ ts.length ≤ LIM := by
  conv => lhs; unfold Rep
theorem Rep.lst_iff : Rep c H Z (.lst ts) v ↔ ∃ a vs, v = .ref a ∧ ¬ Z a ∧ H a = some (.lst vs) ∧ RepL c H Z ts vs ∧ ts.length ≤ LIM := by
  conv => lhs; unfold Rep
theorem Rep.scr_iff {ns : List Int} : Rep c H Z (.scr ns) v ↔ ∃ a, v = .ref a ∧ ScrAt c H Z a (ns.map V.int) ∧ ns.length ≤ LIM := by
  conv => lhs; unfold Rep
theorem Rep.obj_iff {k : Nat} : Rep c H Z (.obj k ts) v ↔ ∃ a dx vs, v = .ref a ∧ ¬ Z a ∧ H a = some (.ins (c.cl k) dx ((c.fl k).zip vs)) ∧ RepL c H Z ts vs ∧ ts.length = (c.fl k).length := by
  conv => lhs; unfold Rep

/-! ### looked at: the root may be owned -/
def Rep1 (c : Cl) (H : Hp) (Z : Zn) (t : T) (v : V) : Prop :=
  Rep c H Z t v ∨ ∃ ts a vs, t = .lst ts ∧ v = .ref a ∧ H a = some (.lst vs) ∧ RepL c H Z ts vs ∧ ts.length ≤ LIM
theorem Rep1.same (s : Same H H') (h : Rep1 c H Z t v) : Rep1 c H' Z t v := by
  rcases h with h | ⟨ts, a, vs, e1, e2, h1, h2, h3⟩
  · exact .inl (Rep.kp (.same s) _ _ h)
  · exact .inr ⟨ts, a, vs, e1, e2, s _ _ h1, RepL.kp (.same s) _ _ h2, h3⟩
theorem Rep1.lst (h : Rep1 c H Z (.lst ts) v) : ∃ a vs, v = .ref a ∧ H a = some (.lst vs) ∧ RepL c H Z ts vs ∧ ts.length ≤ LIM := by
  rcases h with h | ⟨ts', a, vs, e1, e2, h1, h2, h3⟩
  · obtain ⟨a, vs, e, _, h1, h2, h3⟩ := Rep.lst_iff.mp h
    exact ⟨a, vs, e, h1, h2, h3⟩
  · cases e1
    exact ⟨a, vs, e2, h1, h2, h3⟩
theorem Rep1.non (h : Rep1 c H Z t v) (nl : ∀ ts, t ≠ .lst ts) : Rep c H Z t v := by
  rcases h with h | ⟨ts', a, vs, e1, _⟩
  · exact h
  · exact absurd e1 (nl _)
/-- by the flag: looked at, or kept -/
def RepB (b : Bool) (c : Cl) (H : Hp) (Z : Zn) (t : T) (v : V) : Prop := if b then Rep1 c H Z t v else Rep c H Z t v
theorem RepB.one {b : Bool} (h : RepB b c H Z t v) : Rep1 c H Z t v := by
  cases b with
  | true => exact h
  | false => exact .inl h
theorem RepB.same {b : Bool} (s : Same H H') (h : RepB b c H Z t v) : RepB b c H' Z t v := by
  cases b with
  | true => exact Rep1.same s h
  | false => exact Rep.kp (.same s) _ _ h
theorem RepB.f (h : RepB false c H Z t v) : Rep c H Z t v := h

/-! ### a new list -/
def RepN (c : Cl) (H0 H : Hp) (Z : Zn) (t : T) (v : V) : Prop := ∀ ts, t = .lst ts →
  ∃ a vs, v = .ref a ∧ H0 a = none ∧ H a = some (.lst vs) ∧ RepL c H (fun x => Z x ∨ x = a) ts vs ∧ ts.length ≤ LIM
theorem RepN.rep (h : RepN c H1 H Z (.lst ts) v) (d : ∀ a, Z a → H1 a ≠ none) : Rep c H Z (.lst ts) v := by
  obtain ⟨a, vs, e, h0, h1, h2, h3⟩ := h ts rfl
  exact Rep.lst_iff.mpr ⟨a, vs, e, fun z => d a z h0, h1, RepL.kp (.sub fun _ z => .inl z) _ _ h2, h3⟩

/-! ### the slots, read -/
def SlRd (c : Cl) (H : Hp) (Z : Zn) : Sl → Option (Option V) → Prop
  | .no, _ => True
  | .fz t, o => ∃ v, o = some (some v) ∧ Rep c H Z t v
  | .bw t, o => ∃ v, o = some (some v) ∧ Rep1 c H Z t v
  | .ow t, o => ∃ v, o = some (some v) ∧ Rep1 c H Z t v
  | .nw _ _, _ => True
structure ER (c : Cl) (H : Hp) (Z : Zn) (σ : L2.St) (env : En) : Prop where
  dom : ∀ a, Z a → H a ≠ none
  len : env.length ≤ σ.length
  sl : ∀ (i : Nat) (s : Sl), env[i]? = some s → SlRd c H Z s (σ[i]?)
variable {σ : L2.St} {env : En}
theorem SlRd.same {s : Sl} {o : Option (Option V)} (w : Same H H') (h : SlRd c H Z s o) : SlRd c H' Z s o := by
  cases s with
  | no => trivial
  | fz t => obtain ⟨v, e, r⟩ := h; exact ⟨v, e, Rep.kp (.same w) _ _ r⟩
  | bw t => obtain ⟨v, e, r⟩ := h; exact ⟨v, e, Rep1.same w r⟩
  | ow t => obtain ⟨v, e, r⟩ := h; exact ⟨v, e, Rep1.same w r⟩
  | nw q fs => trivial
theorem same_some {a : Addr} (w : Same H H') (h : H a ≠ none) : H' a ≠ none := by
  cases e : H a with
  | none => exact absurd e h
  | some o => rw [w a o e]; exact fun z => nomatch z
theorem ER.same (w : Same H H') (h : ER c H Z σ env) : ER c H' Z σ env :=
  ⟨fun a z => same_some w (h.dom a z), h.len, fun i s e => (h.sl i s e).same w⟩
theorem same_upd {p : Addr} {o : HO} (h : H p = none) : Same H (upd H p o) := fun b x e => by
  rw [upd_ne (ne_of_none e h)]
  exact e
theorem Same.of_none (w : Same H H') {p : Addr} (h : H' p = none) : H p = none := w.free h

/-! ### what an expression's reading is -/
def E.isP : E → Bool
  | .p _ => true
  | _ => false
/-- makes a new list (where it makes a list) -/
def E.isF : E → Bool
  | .lst _ => true
  | .bin .add _ _ => true
  | .sl _ _ _ => true
  | .rev _ => true
  | .lc _ _ _ _ _ => true
  | .bi .list _ => true
  | .bm .split _ _ => true
  | _ => false
/-- what is known of the answer -/
def Res (e : E) (c : Cl) (H0 H : Hp) (Z : Zn) (t : T) (v : V) : Prop := RepB e.isP c H Z t v ∧ (e.isF = true → RepN c H0 H Z t v)
def tE (c : Cl) (P : Pg) (e : E) : TE := fun σ H Q => ∃ Z env t, ER c H Z σ env ∧ e.ev P env = some t ∧ ∀ v H', Same H H' → Res e c H H' Z t v → Q v H'
theorem PE.imp {X : Cx} {e : Expr} {t t' : TE} (h : PE X e t) (w : ∀ σ H Q, t' σ H Q → t σ H Q) : PE X e t' :=
  ⟨fun pins s σ H Q I q => h.run pins s σ H Q I (w σ H Q q)⟩
theorem PE.ex {X : Cx} {e : Expr} {α : Type} {t : α → TE} (h : ∀ a, PE X e (t a)) : PE X e (fun σ H Q => ∃ a, t a σ H Q) :=
  ⟨fun pins s σ H Q I ⟨a, q⟩ => (h a).run pins s σ H Q I q⟩
theorem PE.or {X : Cx} {e : Expr} {t t' : TE} (h : PE X e t) (h' : PE X e t') : PE X e (fun σ H Q => t σ H Q ∨ t' σ H Q) :=
  ⟨fun pins s σ H Q I q => q.elim (h.run pins s σ H Q I) (h'.run pins s σ H Q I)⟩
/-- where nothing can be asked -/
theorem PE.if_ {X : Cx} {e : Expr} {t : TE} {p : Prop} (h : p → PE X e t) : PE X e (fun σ H Q => p ∧ t σ H Q) :=
  ⟨fun pins s σ H Q I ⟨a, q⟩ => (h a).run pins s σ H Q I q⟩
variable {P : Pg} {x y z : T} {a b d : E}
theorem one (er : ER c H Z σ env) (ea : a.ev P env = some x) {R : V → Hp → Prop} (k : ∀ v H', Same H H' → RepB a.isP c H' Z x v → R v H') : tE c P a σ H R :=
  ⟨Z, env, x, er, ea, fun v H' s r => k v H' s r.1⟩
theorem two (er : ER c H Z σ env) (ea : a.ev P env = some x) (eb : b.ev P env = some y) {R : V → V → Hp → Prop}
    (k : ∀ v w H', Same H H' → RepB a.isP c H' Z x v → RepB b.isP c H' Z y w → R v w H') : tE c P a σ H (fun v H1 => tE c P b σ H1 fun w H2 => R v w H2) :=
  one er ea fun v H1 s1 r1 => one (er.same s1) eb fun w H2 s2 r2 => k v w H2 (s1.trans s2) (r1.same s2) r2
end Fe

set_option Elab.async false
set_option linter.all false
set_option maxRecDepth 100000
set_option maxHeartbeats 4000000
/-! Fe2: calls, with what is under way of repr known (guards). -/
namespace Fe
open PySem PySem.Spec PyProof.Rows L2

/-- room for so many calls; no repr under way -/
structure Rm (k : Nat) (A : Around) : Prop where
  r : Room k A
  g : A.guards = some []
theorem Rm.mono {j k : Nat} {A : Around} (r : Rm k A) (h : j ≤ k) : Rm j A := ⟨r.r.mono h, r.g⟩
theorem Rm.deep {k : Nat} {A : Around} (r : Rm (k + 1) A) (env : Env) : Rm k (A.deeper env) := ⟨r.r.deeper env, r.g⟩
theorem Rm.mk_ {k : Nat} {A : Around} (r : Rm (k + 1) A) (C : Addr) (us : List Value) (kw : List (Str × Value)) : Rm k (A.under (.builtin "type.__call__" ⟨.ref C :: us, kw⟩)) :=
  ⟨r.r.make C us kw, by
    have e : (A.under (.builtin "type.__call__" ⟨.ref C :: us, kw⟩)).guards = A.guards := by
      first
        | rfl
        | (simp [Around.under, Code.isGuard, guardIds])
    rw [e]; exact r.g⟩

/-- what a def promises, where no repr is under way -/
structure FnG (P : Program) (w : World) (K : PySem.W.Frag) (mg : Str → Option Value) (base : Heap) (CX : CXT) (k : Nat) (f : Addr) (fd : FuncData) (ps : List Str) (sp : Sp) : Prop where
  len : ∀ vs H Q E, sp vs H Q E → vs.length = ps.length
  run : ∀ (A : Around) (outer : List Env) (s : Shared) (H : Hp) (args : Args) (us : List Value) (vs : List V) (Q : VK) (E : XK), Rm k A →
    Env0 P w K mg base A outer s H → BindsTo s fd args (ps.zip us) → Vals vs us → sp vs H Q E → codeAny (model P w) A (.call (.ref f) args) (CR CX outer P w H s Q E) s
variable {P : Program} {w : World} {K : PySem.W.Frag} {mg : Str → Option Value} {base : Heap} {CX : CXT} {k : Nat} {f C : Addr} {fd : FuncData} {ps : List Str} {sp sp' : Sp}
theorem FnG.of (F : FnOk P w K mg base CX k f fd ps sp) : FnG P w K mg base CX k f fd ps sp :=
  ⟨F.len, fun A outer s H args us vs Q E r => F.run A outer s H args us vs Q E r.r⟩
theorem FnG.imp (F : FnG P w K mg base CX k f fd ps sp) (h : ∀ vs H Q E, sp' vs H Q E → sp vs H Q E) : FnG P w K mg base CX k f fd ps sp' :=
  ⟨fun vs H Q E q => F.len vs H Q E (h _ _ _ _ q), fun A outer s H args us vs Q E r e b v q => F.run A outer s H args us vs Q E r e b v (h _ _ _ _ q)⟩
theorem FnG.up {j : Nat} (F : FnG P w K mg base CX j f fd ps sp) (h : j ≤ k) : FnG P w K mg base CX k f fd ps sp :=
  ⟨F.len, fun A outer s H args us vs Q E r => F.run A outer s H args us vs Q E (r.mono h)⟩

section
variable {X : Cx} {dvs : List V} {ds : List Value} {E : XK} {x m : Str} {p pos apos : Pos} {e o : Expr} {es : List Expr} {ta : TE} {t : TA}
theorem callee {pins : List (Addr × Obj)} {σ : L2.St} {H : Hp} {s : Shared} {Q : VK} {us : List Value} {vs : List V} (F : FnG X.prog X.w X.K X.mg X.base CX k f fd ps sp) (hr : Rm k X.A)
    (hb : Binds X.K fd ps []) (hx : Passes CX X E) (I : Inv X pins σ H s) (r : Vals vs us) (q : sp vs H Q E) : wpAny (model X.prog X.w) X.A (call (.ref f) us) (EP X pins σ Q) X.xe s := by
  have n : us.length = ps.length := r.length ▸ F.len _ _ _ _ q
  have b := hb s us I.kIn (by rw [List.append_nil]; exact n)
  rw [List.append_nil] at b
  refine wpAny_call (codeAny_mono (F.run X.A X.stack s H _ us vs Q E hr I.env0 b r q) ?_)
  intro res s' done
  match res, done with
  | .error e, done => exact hx pins σ H s e s' I done
  | .ok (.ret u), done => exact I.after done
  | .ok .next, done => exact done.elim
  | .ok .brk, done => exact done.elim
  | .ok .cont, done => exact done.elim
/-- f(e, ..) of a def of the text -/
theorem e_call (F : FnG X.prog X.w X.K X.mg X.base CX k f fd ps sp) (hr : Rm k X.A) (hg : Gl X x) (hm : X.mg x = some (.ref f)) (hk : PySem.W.keepIn X.K (.ref f) = true) (hb : Binds X.K fd ps []) (hx : Passes CX X E)
    (ha : PA X (e :: es) t) (hdb : (x == ("__debug__" : Str)) = false) (he : starEach (e :: es) X.env = (false, eval e X.env) :: starEach es X.env) (hpl : (backTo pos (starEach es X.env)).any (·.1) = false) :
    PE X (.Call (.Name x p) (e :: es) [] pos) (fun σ H Q => t σ H fun vs H1 => sp vs H1 Q E) :=
  ⟨fun pins s σ H Q I h => wpAny_Call_Name_kw (ld_glob I hg hm (PySem.W.callWith_K (h₀ := X.base) I.ok.mod.kin hk (thn (ha.run pos pins s σ H _ I h) fun us s1 ⟨vs, H1, I1, r, q⟩ => ⟨I1.kIn, callee F hr hb hx I1 r q⟩) he hpl) hdb)⟩
theorem e_call0 (F : FnG X.prog X.w X.K X.mg X.base CX k f fd ps sp) (hr : Rm k X.A) (hg : Gl X x) (hm : X.mg x = some (.ref f)) (hk : PySem.W.keepIn X.K (.ref f) = true) (hb : Binds X.K fd ps []) (hx : Passes CX X E)
    (hdb : (x == ("__debug__" : Str)) = false) : PE X (.Call (.Name x p) [] [] pos) (fun σ H Q => sp [] H Q E) :=
  ⟨fun pins s σ H Q I h => wpAny_Call_Name_kw (ld_glob I hg hm (PySem.W.callWith_K0 I.kIn hk (callee (us := []) F hr hb hx I .nil h)) hdb)⟩
/-- o.m(e, ..) of an instance of C -/
def rMeth (C : Addr) (m : Str) (sp : Sp) (E : XK) (ta : TE) (t : TA) : TE := fun σ H Q => ta σ H fun x H1 => ∃ a dx fs, x = .ref a ∧ H1 a = some (.ins C dx fs) ∧ fs.lookup m = none ∧ t σ H1 fun vs H2 => sp (x :: vs) H2 Q E
theorem e_meth {pl : Sem Bool} (he : PE X o ta) (c : Cls X.K C) (hm : Meth X.K C m f) (F : FnG X.prog X.w X.K X.mg X.base CX k f fd ps sp) (hr : Rm k X.A) (hb : Binds X.K fd ps []) (hx : Passes CX X E) (ha : PA X (e :: es) t)
    (hst : starEach (e :: es) X.env = (false, eval e X.env) :: starEach es X.env) (hpl : (backTo pos (starEach es X.env)).any (·.1) = false)
    (ht : eval (.Call (.Attribute o m apos) (e :: es) [] pos) X.env = (do
      let ov ← eval o X.env
      standAt apos.atName
      let (f, first) ← holding [ov] (getMethod ov m pl)
      callWith pos f first (backTo pos (starEach (e :: es) X.env)) (backToKw pos (keywordEach [] X.env)))) :
    PE X (.Call (.Attribute o m apos) (e :: es) [] pos) (rMeth C m sp E ta t) := by
  constructor
  intro pins s σ H Q I h
  refine PySem.W.methodCall_KW (pl := pl) (thn (he.run pins s σ H _ I h) ?_) ht
  rintro u s1 ⟨x, H1, I1, rx, a, dx, fs, rfl, ea, l, q⟩
  cases (show u = Value.ref a from rx)
  refine getmeth_ok I1 ea c hm l (PySem.W.callWith_K (first := [.ref a]) (h₀ := X.base) I.ok.mod.kin hm.kp (thn (ha.run pos pins s1 σ H1 _ I1 q) ?_) hst hpl)
  rintro us s2 ⟨vs, H2, I2, r, q2⟩
  exact ⟨I2.kIn, callee (us := .ref a :: us) (vs := .ref a :: vs) F hr hb hx I2 (.cons rfl r) q2⟩
theorem e_meth0 {pl : Sem Bool} (he : PE X o ta) (c : Cls X.K C) (hm : Meth X.K C m f) (F : FnG X.prog X.w X.K X.mg X.base CX k f fd ps sp) (hr : Rm k X.A) (hb : Binds X.K fd ps []) (hx : Passes CX X E)
    (ht : eval (.Call (.Attribute o m apos) [] [] pos) X.env = (do
      let ov ← eval o X.env
      standAt apos.atName
      let (f, first) ← holding [ov] (getMethod ov m pl)
      callWith pos f first (backTo pos (starEach [] X.env)) (backToKw pos (keywordEach [] X.env)))) :
    PE X (.Call (.Attribute o m apos) [] [] pos) (rMeth C m sp E ta tNil) := by
  constructor
  intro pins s σ H Q I h
  refine PySem.W.methodCall_KW (pl := pl) (thn (he.run pins s σ H _ I h) ?_) ht
  rintro u s1 ⟨x, H1, I1, rx, a, dx, fs, rfl, ea, l, q⟩
  cases (show u = Value.ref a from rx)
  exact getmeth_ok I1 ea c hm l (PySem.W.callWith_K0 (first := [.ref a]) I1.kIn hm.kp (callee (us := [.ref a]) (vs := [.ref a]) F hr hb hx I1 (.cons rfl .nil) q))
/-- C(e, ..) -/
def rMake (C : Addr) (sp : Sp) (E : XK) (t : TA) : TE := fun σ H Q => t σ H fun vs H1 => ∀ x dx, H1 x = none → H1 dx = none → dx ≠ x →
  sp (.ref x :: vs) (upd (upd H1 dx (.own x)) x (.ins C dx [])) (fun v H2 => v = .non ∧ Q (.ref x) H2) E
theorem makes {pins : List (Addr × Obj)} {σ : L2.St} {H : Hp} {s : Shared} {Q : VK} {us : List Value} {vs : List V} (M : Mk X.K C f) (F : FnG X.prog X.w X.K X.mg X.base CX k f fd ps sp) (hr : Rm (k + 1) X.A) (hb : Binds X.K fd ps [])
    (hx : Passes CX X E) (I : Inv X pins σ H s) (r : Vals vs us)
    (h : ∀ x dx, H x = none → H dx = none → dx ≠ x → sp (.ref x :: vs) (upd (upd H dx (.own x)) x (.ins C dx [])) (fun v H2 => v = .non ∧ Q (.ref x) H2) E) :
    wpAny (model X.prog X.w) X.A (call (.ref C) us) (EP X pins σ Q) X.xe s := by
  have q := h (s.heap.objs.size + 1) s.heap.objs.size (I.hok.fresh (Nat.le_succ _)) (I.hok.fresh (Nat.le_refl _)) (Nat.ne_of_lt (Nat.lt_succ_self _))
  have J := Inv.made (C := C) I
  have rr : Vals (V.ref (s.heap.objs.size + 1) :: vs) (Value.ref (s.heap.objs.size + 1) :: us) := .cons rfl r
  have n : (Value.ref (s.heap.objs.size + 1) :: us).length = ps.length := rr.length ▸ F.len _ _ _ _ q
  have b := hb _ (Value.ref (s.heap.objs.size + 1) :: us) J.kIn (by rw [List.append_nil]; exact n)
  rw [List.append_nil] at b
  refine wpAny_call (make_map (f := f) I.kIn M.makes M.init (beq_iff_eq.mp M.fn) (codeAny_mono (F.run _ X.stack _ _ _ _ _ _ E (hr.mk_ C us []) (J.env0.make C us []) b rr q) ?_))
  intro res s' done
  match res, done with
  | .error e, done => exact hx pins σ _ _ e s' J done
  | .ok (.ret u), done =>
    obtain ⟨v, H', J', rv, ev, q3⟩ := J.after done
    subst ev
    exact ⟨rv, ⟨V.ref (s.heap.objs.size + 1), H', J', rfl, q3⟩⟩
  | .ok .next, done => exact done.elim
  | .ok .brk, done => exact done.elim
  | .ok .cont, done => exact done.elim
theorem e_make (M : Mk X.K C f) (F : FnG X.prog X.w X.K X.mg X.base CX k f fd ps sp) (hr : Rm (k + 1) X.A) (hg : Gl X x) (hm : X.mg x = some (.ref C)) (hb : Binds X.K fd ps []) (hx : Passes CX X E)
    (ha : PA X (e :: es) t) (hdb : (x == ("__debug__" : Str)) = false) (he : starEach (e :: es) X.env = (false, eval e X.env) :: starEach es X.env) (hpl : (backTo pos (starEach es X.env)).any (·.1) = false) :
    PE X (.Call (.Name x p) (e :: es) [] pos) (rMake C sp E t) :=
  ⟨fun pins s σ H Q I h => wpAny_Call_Name_kw (ld_glob I hg hm (PySem.W.callWith_K (h₀ := X.base) I.ok.mod.kin M.kp (thn (ha.run pos pins s σ H _ I h) fun us s1 ⟨vs, H1, I1, r, q⟩ => ⟨I1.kIn, makes M F hr hb hx I1 r q⟩) he hpl) hdb)⟩
theorem e_make0 (M : Mk X.K C f) (F : FnG X.prog X.w X.K X.mg X.base CX k f fd ps sp) (hr : Rm (k + 1) X.A) (hg : Gl X x) (hm : X.mg x = some (.ref C)) (hb : Binds X.K fd ps []) (hx : Passes CX X E)
    (hdb : (x == ("__debug__" : Str)) = false) : PE X (.Call (.Name x p) [] [] pos) (rMake C sp E tNil) :=
  ⟨fun pins s σ H Q I h => wpAny_Call_Name_kw (ld_glob I hg hm (PySem.W.callWith_K0 I.kIn M.kp (makes (us := []) M F hr hb hx I .nil h)) hdb)⟩
end

/-- a def by its body -/
theorem fnG_of {name qual : Str} {params : Arguments} {body : List Stmt} {scope : Scope} {dV kV doc pm cdv ct oc : Value} {an od : Option Addr} {osl : Array (Option Value)} {N : List Str}
    (lk : K.lookup f = some ⟨oc, od, .func (PySem.W.fnOf name qual params body scope dV kV doc pm an cdv ct), osl⟩) (hcd : PySem.W.codeIn K cdv qual = true) (S : FnScope N ps scope)
    (len : ∀ vs H Q E, sp vs H Q E → vs.length = ps.length)
    (hbody : ∀ (A : Around) (outer : List Env) (s : Shared) (H : Hp) (vs : List V) (Q : VK) (E : XK), Rm k (A.deeper (envOfC qual scope s.heap.objs.size f cdv)) → sp vs H Q E →
      ∃ t, PSs (cxOf CX P w K mg base N qual scope f cdv A outer s H E) body t ∧ t { nx := fun _ H' => Q .non H', rt := Q } (start N vs) H) :
    FnG P w K mg base CX (k + 1) f (PySem.W.fnOf name qual params body scope dV kV doc pm an cdv ct) ps sp where
  len := len
  run := by
    intro A outer s H args us vs Q E hr e0 hb r q
    have KX : K.In s.heap := e0.mod.kin.keeps fun b o e => (e0.bs b o e).1
    have lim : s.heap.NoLimit := e0.mod.nolimit.keeps fun b o e => (e0.bs b o e).1
    refine codeAny_call_function hr.r.depth (KX _ _ lk) rfl S.co S.gen rfl (PySem.W.codeRec_of KX hcd) (hb _ _ _ _ (wpAny_newFunctionEnv_cells S.kind ?_ ?_))
    · rintro ⟨n, v⟩ hy
      rcases S.par n (List.of_mem_zip hy).1 with z | z
      · exact .inl z
      · exact .inr ⟨z, PySem.W.cellsFrom_some _ _ _ (.inl z)⟩
    · rintro env rfl s1 x
      refine ⟨lim.keeps x.toInCall.keep, codeAny_func ?_⟩
      obtain ⟨t, ht, hq⟩ := hbody A outer s H vs Q E (hr.deep _) q
      have I : Inv (cxOf CX P w K mg base N qual scope f cdv A outer s H E) [] (start N vs) H s1 := inv_start S hr.r.hd e0 (len _ _ _ _ q) r x
      refine wpAny_mono (ht.run [] s1 (start N vs) H _ I hq) ?_ fun e s' z => z
      intro fl s' done
      match fl, done with
      | .ret u, ⟨v, σ', H', J, rv, z⟩ => exact ⟨v, H', J.os, J.bare, J.base, J.hok, rv, z⟩
      | .next, ⟨σ', H', J, z⟩ => exact ⟨V.non, H', J.os, J.bare, J.base, J.hok, rfl, z⟩
      | .brk, ⟨_, _, _, z⟩ => exact z.elim
      | .cont, ⟨_, _, _, z⟩ => exact z.elim
end Fe

set_option Elab.async false
set_option linter.all false
set_option maxRecDepth 100000
set_option maxHeartbeats 4000000
/-! Fe3: operators, built-ins, methods by trees. -/
namespace Fe
open PySem PySem.Spec PyProof.Rows L2

section
variable {X : Cx} {c : Cl} {H H' H1 H2 : Hp} {Z : Zn} {t : T} {ts us : List T} {v : V} {vs ws : List V} {Q : VK}

/-- what is to be shown of an answer: kept; and new, where n says so -/
def KQ (n : Bool) (c : Cl) (H : Hp) (Z : Zn) (t : T) (Q : VK) : Prop := ∀ v H', Same H H' → Rep c H' Z t v → (n = true → RepN c H H' Z t v) → Q v H'
theorem KQ.int {n : Bool} {i : Int} (k : KQ n c H Z (.int i) Q) : Q (.int i) H := k _ _ (Same.refl H) (Rep.int_iff.mpr rfl) fun _ _ e => nomatch e
theorem KQ.bl {n : Bool} {i : Bool} (k : KQ n c H Z (.bl i) Q) : Q (.bl i) H := k _ _ (Same.refl H) (Rep.bl_iff.mpr rfl) fun _ _ e => nomatch e
theorem KQ.non {n : Bool} (k : KQ n c H Z .non Q) : Q .non H := k _ _ (Same.refl H) (Rep.non_iff.mpr rfl) fun _ _ e => nomatch e
theorem KQ.str {n : Bool} {i : Str} (k : KQ n c H Z (.str i) Q) (ok : PyData.strOk i = true) (hl : i.length ≤ LIM) : Q (.str i) H := k _ _ (Same.refl H) (Rep.str_iff.mpr ⟨rfl, ok, hl⟩) fun _ _ e => nomatch e
theorem KQ.lst {n : Bool} (k : KQ n c H Z (.lst ts) Q) (d : ∀ a, Z a → H a ≠ none) (r : RepL c H Z ts vs) (hl : ts.length ≤ LIM) : ∀ p, H p = none → Q (.ref p) (upd H p (.lst vs)) := by
  intro p hp
  have s := same_upd (o := .lst vs) hp
  have r' : RepL c (upd H p (.lst vs)) (fun x => Z x ∨ x = p) ts vs := RepL.kp (H := H) (Z := Z) ⟨fun a o e _ => s a o e, fun a z => z.elim .inl fun e => .inr (e ▸ hp)⟩ _ _ r
  have nw : RepN c H (upd H p (.lst vs)) Z (.lst ts) (.ref p) := by
    intro ts' e
    cases e
    exact ⟨p, vs, rfl, hp, upd_same, r', hl⟩
  exact k _ _ s (nw.rep d) fun _ => nw
theorem KQ.tup {n : Bool} (k : KQ n c H Z (.tup ts) Q) (d : ∀ a, Z a → H a ≠ none) (r : RepL c H Z ts vs) (hl : ts.length ≤ LIM) : ∀ p, H p = none → Q (.ref p) (upd H p (.tup vs)) := by
  intro p hp
  have s := same_upd (o := .tup vs) hp
  refine k _ _ s (Rep.tup_iff.mpr ⟨p, vs, rfl, .inl ⟨fun z => d p z hp, .inl upd_same⟩, RepL.kp (.same s) _ _ r, hl⟩) fun _ _ e => nomatch e

/-! ### plain data -/
mutual
theorem dp_of : ∀ (t : T) (n : Nat) (v : V), t.dep n = true → Rep1 c H Z t v → Dp c.K H v t.toD
  | .non, _, v, _, h => by
    cases (Rep.non_iff.mp (h.non fun _ e => nomatch e)); unfold T.toD; exact .non
  | .bl b, _, v, _, h => by
    cases (Rep.bl_iff.mp (h.non fun _ e => nomatch e)); unfold T.toD; exact .bl b
  | .int i, _, v, _, h => by
    cases (Rep.int_iff.mp (h.non fun _ e => nomatch e)); unfold T.toD; exact .int i
  | .str s, _, v, _, h => by
    obtain ⟨e, _, _⟩ := (Rep.str_iff.mp (h.non fun _ e => nomatch e)); cases e; unfold T.toD; exact .str s
  | .tup l, n + 1, v, d, h => by
    obtain ⟨a, vs, e, ha, r, _⟩ := Rep.tup_iff.mp (h.non fun _ e => nomatch e)
    cases e
    have d' : deps l n = true := by unfold T.dep at d; exact d
    unfold T.toD
    exact .tup ha.seq (dps_of l n vs d' r)
  | .lst l, n + 1, v, d, h => by
    obtain ⟨a, vs, e, ha, r, _⟩ := h.lst
    cases e
    have d' : deps l n = true := by unfold T.dep at d; exact d
    unfold T.toD
    exact .lst (SqL.of ha) (dps_of l n vs d' r)
  | .tup l, 0, v, d, h => by unfold T.dep at d; cases d
  | .lst l, 0, v, d, h => by unfold T.dep at d; cases d
  | .scr l, n, v, d, h => by unfold T.dep at d; cases d
  | .obj k l, n, v, d, h => by unfold T.dep at d; cases d
theorem dps_of : ∀ (ts : List T) (n : Nat) (vs : List V), deps ts n = true → RepL c H Z ts vs → DpAll c.K H vs (toDs ts)
  | [], _, vs, _, h => by rw [RepL.nil_iff.mp h]; unfold toDs; exact .nil
  | t :: ts, n, vs, d, h => by
    obtain ⟨v, r, rfl, h1, h2⟩ := RepL.cons_iff.mp h
    have d' : (t.dep n && deps ts n) = true := by conv at d => lhs; unfold deps
                                                  exact d
    obtain ⟨d1, d2⟩ := Bool.and_eq_true_iff.mp d'
    unfold toDs
    exact .cons (dp_of t n v d1 (.inl h1)) (dps_of ts n r d2 h2)
end
mutual
theorem lay_of : ∀ (t : T) (v : V), Rep1 c H Z t v → t.toD.canLay0 = true
  | .non, v, h => by unfold T.toD PyData.canLay0; rfl
  | .bl b, v, h => by unfold T.toD PyData.canLay0; rfl
  | .int i, v, h => by unfold T.toD PyData.canLay0; rfl
  | .str s, v, h => by
    obtain ⟨_, e, _⟩ := (Rep.str_iff.mp (h.non fun _ e => nomatch e))
    unfold T.toD PyData.canLay0; exact e
  | .tup l, v, h => by
    obtain ⟨a, vs, e, ha, r, _⟩ := Rep.tup_iff.mp (h.non fun _ e => nomatch e)
    unfold T.toD PyData.canLay0
    exact lays_of l vs r
  | .lst l, v, h => by
    obtain ⟨a, vs, e, ha, r, _⟩ := h.lst
    unfold T.toD PyData.canLay0
    exact lays_of l vs r
  | .scr l, v, h => by unfold T.toD PyData.canLay0; rfl
  | .obj k l, v, h => by unfold T.toD PyData.canLay0; rfl
theorem lays_of : ∀ (ts : List T) (vs : List V), RepL c H Z ts vs → PyData.canLayAll0 (toDs ts) = true
  | [], vs, h => by unfold toDs PyData.canLayAll0; rfl
  | t :: ts, vs, h => by
    obtain ⟨v, r, rfl, h1, h2⟩ := RepL.cons_iff.mp h
    unfold toDs PyData.canLayAll0
    rw [lay_of t v (.inl h1), lays_of ts r h2]; rfl
end
mutual
theorem depth_of : ∀ (t : T) (n : Nat), t.dep n = true → t.toD.depth ≤ n
  | .non, n, d => by unfold T.toD PyData.depth; exact Nat.zero_le _
  | .bl b, n, d => by unfold T.toD PyData.depth; exact Nat.zero_le _
  | .int i, n, d => by unfold T.toD PyData.depth; exact Nat.zero_le _
  | .str s, n, d => by unfold T.toD PyData.depth; exact Nat.zero_le _
  | .tup l, n + 1, d => by
    have d' : deps l n = true := by unfold T.dep at d; exact d
    unfold T.toD PyData.depth
    exact Nat.succ_le_succ (depths_of l n d')
  | .lst l, n + 1, d => by
    have d' : deps l n = true := by unfold T.dep at d; exact d
    unfold T.toD PyData.depth
    exact Nat.succ_le_succ (depths_of l n d')
  | .tup l, 0, d => by unfold T.dep at d; cases d
  | .lst l, 0, d => by unfold T.dep at d; cases d
  | .scr l, n, d => by unfold T.dep at d; cases d
  | .obj k l, n, d => by unfold T.dep at d; cases d
theorem depths_of : ∀ (ts : List T) (n : Nat), deps ts n = true → PyData.depthAll (toDs ts) ≤ n
  | [], n, d => by unfold toDs PyData.depthAll; exact Nat.zero_le _
  | t :: ts, n, d => by
    have d' : (t.dep n && deps ts n) = true := by conv at d => lhs; unfold deps
                                                  exact d
    obtain ⟨d1, d2⟩ := Bool.and_eq_true_iff.mp d'
    unfold toDs PyData.depthAll
    exact Nat.max_le.mpr ⟨depth_of t n d1, depths_of ts n d2⟩
end
theorem shaped_of (h : Rep1 c H Z t v) (d : t.dep DM = true) : SeqAt.shaped t.toD = true := by
  have h2 : t.toD.depth ≤ 64 := Nat.le_trans (depth_of t DM d) (by decide)
  unfold SeqAt.shaped
  rw [lay_of t v h, decide_eq_true h2]; rfl
theorem shapeds_of (h : RepL c H Z ts vs) (d : deps ts DM = true) : SeqAt.shaped (.list (toDs ts)) = true := by
  have h2 : (PyData.list (toDs ts)).depth ≤ 64 := by
    unfold PyData.depth
    exact Nat.le_trans (Nat.succ_le_succ (depths_of ts DM d)) (by decide)
  unfold SeqAt.shaped
  rw [decide_eq_true h2]
  unfold PyData.canLay0
  rw [lays_of ts vs h]; rfl
theorem toDs_map : ∀ ts : List T, toDs ts = ts.map T.toD
  | [] => by unfold toDs; rfl
  | t :: ts => by unfold toDs; rw [toDs_map ts]; rfl
theorem flat_of (h : Rep1 c H Z t v) (f : t.flat = true) : flatV v = true := by
  cases t with
  | int i => cases (Rep.int_iff.mp (h.non fun _ e => nomatch e)); rfl
  | str i => obtain ⟨e, _⟩ := (Rep.str_iff.mp (h.non fun _ e => nomatch e)); cases e; rfl
  | _ => cases f
end
end Fe

set_option Elab.async false
set_option linter.all false
set_option maxRecDepth 100000
set_option maxHeartbeats 4000000
/-! Fe4: operators by trees. -/
namespace Fe
open PySem PySem.Spec PyProof.Rows L2

section
variable {X : Cx} {c : Cl} {H H' H1 H2 : Hp} {Z : Zn} {t x y : T} {ts us : List T} {v w : V} {vs ws : List V} {Q : VK}
abbrev Dom (Z : Zn) (H : Hp) : Prop := ∀ a, Z a → H a ≠ none
theorem Rep1.int_ {i : Int} (h : Rep1 c H Z (.int i) v) : v = .int i := Rep.int_iff.mp (h.non fun _ e => nomatch e)
theorem Rep1.bl_ {i : Bool} (h : Rep1 c H Z (.bl i) v) : v = .bl i := Rep.bl_iff.mp (h.non fun _ e => nomatch e)
theorem Rep1.non_ (h : Rep1 c H Z .non v) : v = .non := Rep.non_iff.mp (h.non fun _ e => nomatch e)
theorem Rep1.str_ {i : Str} (h : Rep1 c H Z (.str i) v) : v = .str i ∧ PyData.strOk i = true ∧ i.length ≤ LIM := Rep.str_iff.mp (h.non fun _ e => nomatch e)
theorem Rep1.tup_ (h : Rep1 c H Z (.tup ts) v) : ∃ a vs, v = .ref a ∧ TupAt c H Z a vs ∧ RepL c H Z ts vs ∧ ts.length ≤ LIM := Rep.tup_iff.mp (h.non fun _ e => nomatch e)
theorem strOk_app {a b : Str} (h1 : PyData.strOk a = true) (h2 : PyData.strOk b = true) : PyData.strOk (a ++ b) = true := by
  unfold PyData.strOk at *
  show (a.cps ++ b.cps).all _ = true
  rw [Array.all_append, h1, h2]; rfl
theorem len_app (a b : Str) : (a ++ b).length = a.length + b.length := by
  show (a.cps ++ b.cps).size = _
  rw [Array.size_append]; rfl
theorem lim_line : LIM = sizeLine := by rw [sizeLine_eq]

/-! ### a op b -/
def rT (c : Cl) (o : BOp) : R2 := fun v w H Q => ∃ Z x y t, Dom Z H ∧ Rep1 c H Z x v ∧ Rep1 c H Z y w ∧ o.ap x y = some t ∧ KQ true c H Z t Q
def bopOk : BOp → Operator → Bool
  | .add, .Add => true
  | .sub, .Sub => true
  | .mul, .Mult => true
  | .fdiv, .FloorDiv => true
  | .mod, .Mod => true
  | .band, .BitAnd => true
  | .bor, .BitOr => true
  | .bxor, .BitXor => true
  | .shl, .LShift => true
  | .shr, .RShift => true
  | .pow, .Pow => true
  | _, _ => false
theorem inMul_ok {i j : Int} (h : inMul i j = true) : CMul i j := by
  unfold inMul at h
  simp only [Bool.or_eq_true, Bool.and_eq_true, decide_eq_true_eq] at h
  exact h
theorem powOk_ok {i j : Int} (h : powOk i j = true) : CPow i j := by
  unfold powOk at h
  simp only [Bool.and_eq_true, decide_eq_true_eq] at h
  exact ⟨h.1.1, h.1.2, h.2⟩
theorem opT (hK : X.K = c.K) {o : BOp} {op : Operator} (ok : bopOk o op = true) : OpR X (binaryOp op) (rT c o) := by
  intro pins s σ H v w vv ww Q I rv rw_ h
  obtain ⟨Z, x, y, t, d, h1, h2, ha, k⟩ := h
  cases o <;> cases op <;> first
    | (exact absurd (show false = true from ok) Bool.false_ne_true)
    | skip
  · -- add
    cases x <;> first | (unfold BOp.ap at ha; cases ha; done) | skip
    · rename_i i
      cases y <;> first | (unfold BOp.ap at ha; cases ha; done) | skip
      rename_i j
      unfold BOp.ap at ha; cases ha
      exact op_add pins s σ H v w vv ww Q I rv rw_ ⟨i, j, h1.int_, h2.int_, k.int⟩
    · rename_i a
      cases y <;> first | (unfold BOp.ap at ha; cases ha; done) | skip
      rename_i b
      unfold BOp.ap at ha; dsimp only at ha
      split at ha <;> cases ha
      rename_i hl
      obtain ⟨e1, o1, _⟩ := h1.str_
      obtain ⟨e2, o2, _⟩ := h2.str_
      exact op_add_str pins s σ H v w vv ww Q I rv rw_ ⟨a, b, e1, e2, by rw [← lim_line]; exact hl, k.str (strOk_app o1 o2) (by rw [len_app]; exact hl)⟩
    · rename_i a
      cases y <;> first | (unfold BOp.ap at ha; cases ha; done) | skip
      rename_i b
      unfold BOp.ap at ha; dsimp only at ha
      split at ha <;> cases ha
      rename_i hl
      obtain ⟨p, vs, e1, t1, r1, _⟩ := h1.tup_
      obtain ⟨q, ws, e2, t2, r2, _⟩ := h2.tup_
      have l1 := r1.length
      have l2 := r2.length
      refine op_catT pins s σ H v w vv ww Q I rv rw_ ⟨p, q, vs, ws, e1, e2, by rw [hK]; exact t1.seq, by rw [hK]; exact t2.seq, ?_, by rw [← lim_line, l1, l2]; exact hl.1, fun e => ?_, fun _ => k.tup d (r1.append r2) (by rw [List.length_append]; exact hl.1)⟩
      · intro e; rw [e] at l1; exact hl.2 (List.eq_nil_of_length_eq_zero l1.symm)
      · have eb : b = [] := List.eq_nil_of_length_eq_zero (by rw [← l2, e]; rfl)
        subst eb
        rw [List.append_nil] at k
        exact k _ _ (Same.refl H) (e1 ▸ (h1.non fun _ z => nomatch z)) fun _ _ z => nomatch z
    · rename_i a
      cases y <;> first | (unfold BOp.ap at ha; cases ha; done) | skip
      rename_i b
      unfold BOp.ap at ha; dsimp only at ha
      split at ha <;> cases ha
      rename_i hl
      obtain ⟨p, vs, e1, t1, r1, _⟩ := h1.lst
      obtain ⟨q, ws, e2, t2, r2, _⟩ := h2.lst
      have l1 := r1.length
      have l2 := r2.length
      exact op_cat pins s σ H v w vv ww Q I rv rw_ ⟨p, q, vs, ws, e1, e2, t1, t2, by rw [← lim_line, l1, l2]; exact hl, k.lst d (r1.append r2) (by rw [List.length_append]; exact hl)⟩
  all_goals
    (cases x <;> first | (unfold BOp.ap at ha; cases ha; done) | skip
     rename_i i
     cases y <;> first | (unfold BOp.ap at ha; cases ha; done) | skip
     rename_i j
     unfold BOp.ap at ha; dsimp only at ha)
  · cases ha
    exact op_sub pins s σ H v w vv ww Q I rv rw_ ⟨i, j, h1.int_, h2.int_, k.int⟩
  · split at ha <;> cases ha
    rename_i hc
    exact op_mul pins s σ H v w vv ww Q I rv rw_ ⟨i, j, h1.int_, h2.int_, inMul_ok hc, k.int⟩
  · split at ha <;> cases ha
    rename_i hc
    exact op_fdiv pins s σ H v w vv ww Q I rv rw_ ⟨i, j, h1.int_, h2.int_, hc, k.int⟩
  · split at ha <;> cases ha
    rename_i hc
    exact op_mod pins s σ H v w vv ww Q I rv rw_ ⟨i, j, h1.int_, h2.int_, hc, k.int⟩
  · cases ha
    exact op_and pins s σ H v w vv ww Q I rv rw_ ⟨i, j, h1.int_, h2.int_, k.int⟩
  · cases ha
    exact op_or pins s σ H v w vv ww Q I rv rw_ ⟨i, j, h1.int_, h2.int_, k.int⟩
  · cases ha
    exact op_xor pins s σ H v w vv ww Q I rv rw_ ⟨i, j, h1.int_, h2.int_, k.int⟩
  · split at ha <;> cases ha
    rename_i hc
    exact op_shl pins s σ H v w vv ww Q I rv rw_ ⟨i, j, h1.int_, h2.int_, powOk_ok hc, k.int⟩
  · split at ha <;> cases ha
    rename_i hc
    exact op_shr pins s σ H v w vv ww Q I rv rw_ ⟨i, j, h1.int_, h2.int_, hc, k.int⟩
  · split at ha <;> cases ha
    rename_i hc
    exact op_pow pins s σ H v w vv ww Q I rv rw_ ⟨i, j, h1.int_, h2.int_, powOk_ok hc, k.int⟩

/-! ### comparisons -/
def rC (c : Cl) (o : COp) : R2 := fun v w H Q => ∃ Z x y t, Dom Z H ∧ Rep1 c H Z x v ∧ Rep1 c H Z y w ∧ o.ap x y = some t ∧ KQ true c H Z t Q
def copOk : COp → CmpOp → Bool
  | .eq, .Eq => true
  | .ne, .NotEq => true
  | .lt, .Lt => true
  | .le, .LtE => true
  | .gt, .Gt => true
  | .ge, .GtE => true
  | .isin, .In => true
  | .notin, .NotIn => true
  | .is, .Is => true
  | .isnot, .IsNot => true
  | _, _ => false
theorem any_toD (x : PyData) : ∀ l : List T, (toDs l).any (fun z => PyData.eqv z x) = l.any fun z => PyData.eqv z.toD x
  | [] => by unfold toDs; rfl
  | t :: l => by unfold toDs; rw [List.any_cons, List.any_cons, any_toD x l]
theorem eqv_flat {x y : T} (fx : x.flat = true) (fy : y.flat = true) (h1 : Rep1 c H Z x v) (h2 : Rep1 c H Z y w) : eqV v w = x.eqv y := by
  unfold T.eqv
  cases x <;> first | (cases fx; done) | skip
  · cases h1.int_
    cases y <;> first | (cases fy; done) | skip
    · cases h2.int_; simp [eqV, T.toD, PyData.eqv]
    · cases h2.str_.1; simp [eqV, T.toD, PyData.eqv]
  · cases h1.str_.1
    cases y <;> first | (cases fy; done) | skip
    · cases h2.int_; simp [eqV, T.toD, PyData.eqv]
    · cases h2.str_.1; simp [eqV, T.toD, PyData.eqv]
theorem inV_flat {x : T} (fx : x.flat = true) (h1 : Rep1 c H Z x v) : ∀ {l : List T} {vs : List V}, l.all T.flat = true → RepL c H Z l vs → inV v vs = l.any fun z => z.eqv x
  | [], vs, _, r => by rw [RepL.nil_iff.mp r]; rfl
  | y :: l, vs, f, r => by
    obtain ⟨w, q, rfl, r1, r2⟩ := RepL.cons_iff.mp r
    rw [List.all_cons, Bool.and_eq_true] at f
    unfold inV
    rw [List.any_cons, List.any_cons, eqv_flat f.1 fx (.inl r1) h1]
    congr 1
    exact inV_flat fx h1 f.2 r2
theorem flatVs : ∀ {l : List T} {vs : List V}, l.all T.flat = true → RepL c H Z l vs → vs.all flatV = true
  | [], vs, _, r => by rw [RepL.nil_iff.mp r]; rfl
  | y :: l, vs, f, r => by
    obtain ⟨w, q, rfl, r1, r2⟩ := RepL.cons_iff.mp r
    rw [List.all_cons, Bool.and_eq_true] at f
    rw [List.all_cons, flat_of (.inl r1) f.1, flatVs f.2 r2]; rfl
theorem one_sign {z : Str} (h : z.length = 1) : z = ⟨#[z.cps.toList.headD 0]⟩ := by
  obtain ⟨⟨l⟩⟩ := z
  match l, h with
  | [a], _ => rfl
theorem copT (hK : X.K = c.K) {k : Nat} (hr : Rm k X.A) {o : COp} {op : CmpOp} (ok : copOk o op = true) : OpR X (compareOp op) (rC c o) := by
  have hu := hr.r.un
  intro pins s σ H v w vv ww Q I rv rw_ h
  obtain ⟨Z, x, y, t, d, h1, h2, ha, k⟩ := h
  cases o <;> cases op <;> first
    | (exact absurd (show false = true from ok) Bool.false_ne_true)
    | skip
  · unfold COp.ap at ha; dsimp only at ha
    split at ha <;> cases ha
    rename_i hd
    unfold eqOk at hd
    rw [Bool.and_eq_true] at hd
    refine op_eqD (by omega) pins s σ H v w vv ww Q I rv rw_ ⟨x.toD, y.toD, by rw [hK]; exact dp_of x DM v hd.1 h1, by rw [hK]; exact dp_of y DM w hd.2 h2, shaped_of h1 hd.1, shaped_of h2 hd.2, k.bl⟩
  · unfold COp.ap at ha; dsimp only at ha
    split at ha <;> cases ha
    rename_i hd
    unfold eqOk at hd
    rw [Bool.and_eq_true] at hd
    refine op_neD (by omega) pins s σ H v w vv ww Q I rv rw_ ⟨x.toD, y.toD, by rw [hK]; exact dp_of x DM v hd.1 h1, by rw [hK]; exact dp_of y DM w hd.2 h2, shaped_of h1 hd.1, shaped_of h2 hd.2, k.bl⟩
  · cases x <;> cases y <;> first | (unfold COp.ap at ha; cases ha; done) | skip
    unfold COp.ap at ha; cases ha
    exact op_lt pins s σ H v w vv ww Q I rv rw_ ⟨_, _, h1.int_, h2.int_, k.bl⟩
  · cases x <;> cases y <;> first | (unfold COp.ap at ha; cases ha; done) | skip
    unfold COp.ap at ha; cases ha
    exact op_le pins s σ H v w vv ww Q I rv rw_ ⟨_, _, h1.int_, h2.int_, k.bl⟩
  · cases x <;> cases y <;> first | (unfold COp.ap at ha; cases ha; done) | skip
    unfold COp.ap at ha; cases ha
    exact op_gt pins s σ H v w vv ww Q I rv rw_ ⟨_, _, h1.int_, h2.int_, k.bl⟩
  · cases x <;> cases y <;> first | (unfold COp.ap at ha; cases ha; done) | skip
    unfold COp.ap at ha; cases ha
    exact op_ge pins s σ H v w vv ww Q I rv rw_ ⟨_, _, h1.int_, h2.int_, k.bl⟩
  · -- in
    unfold COp.ap inT at ha; dsimp only at ha
    cases y <;> first | (cases ha; done) | skip
    · rename_i z
      cases x <;> first | (cases ha; done) | skip
      rename_i u
      dsimp only at ha
      split at ha <;> cases ha
      rename_i hl
      exact op_in_sign pins s σ H v w vv ww Q I rv rw_ ⟨_, _, by rw [h1.str_.1, ← one_sign hl], h2.str_.1, k.bl⟩
    · rename_i l
      dsimp only at ha
      split at ha <;> cases ha
      rename_i hf
      rw [Bool.and_eq_true] at hf
      obtain ⟨a, vs, e, ta, r, _⟩ := h2.tup_
      refine op_in_seq pins s σ H v w vv ww Q I rv rw_ ⟨a, vs, e, .inr (by rw [hK]; exact ta.seq), flat_of h1 hf.1, flatVs hf.2 r, ?_⟩
      rw [if_neg Bool.false_ne_true, inV_flat hf.1 h1 hf.2 r]
      exact k.bl
    · rename_i l
      dsimp only at ha
      split at ha <;> cases ha
      rename_i hd
      rw [Bool.and_eq_true] at hd
      obtain ⟨a, vs, e, ta, r, _⟩ := h2.lst
      refine op_inD (by omega) pins s σ H v w vv ww Q I rv rw_ ⟨x.toD, toDs l, by rw [hK]; exact dp_of x DM v hd.1 h1, by rw [hK, e]; exact .lst (SqL.of ta) (dps_of l DM vs hd.2 r), shaped_of h1 hd.1, shapeds_of r hd.2, ?_⟩
      rw [any_toD]
      exact k.bl
  · -- not in
    unfold COp.ap inT at ha; dsimp only at ha
    cases y <;> first | (cases ha; done) | skip
    · rename_i z
      cases x <;> first | (cases ha; done) | skip
      rename_i u
      dsimp only at ha
      split at ha <;> cases ha
      rename_i hl
      exact op_notIn_sign pins s σ H v w vv ww Q I rv rw_ ⟨_, _, by rw [h1.str_.1, ← one_sign hl], h2.str_.1, k.bl⟩
    · rename_i l
      dsimp only at ha
      split at ha <;> cases ha
      rename_i hf
      rw [Bool.and_eq_true] at hf
      obtain ⟨a, vs, e, ta, r, _⟩ := h2.tup_
      refine op_notIn_seq pins s σ H v w vv ww Q I rv rw_ ⟨a, vs, e, .inr (by rw [hK]; exact ta.seq), flat_of h1 hf.1, flatVs hf.2 r, ?_⟩
      rw [if_pos rfl, inV_flat hf.1 h1 hf.2 r]
      exact k.bl
    · rename_i l
      dsimp only at ha
      split at ha <;> cases ha
      rename_i hd
      rw [Bool.and_eq_true] at hd
      obtain ⟨a, vs, e, ta, r, _⟩ := h2.lst
      refine op_notInD (by omega) pins s σ H v w vv ww Q I rv rw_ ⟨x.toD, toDs l, by rw [hK]; exact dp_of x DM v hd.1 h1, by rw [hK, e]; exact .lst (SqL.of ta) (dps_of l DM vs hd.2 r), shaped_of h1 hd.1, shapeds_of r hd.2, ?_⟩
      rw [any_toD]
      exact k.bl
  · -- is
    cases y <;> first | (unfold COp.ap at ha; cases x <;> cases ha; done) | skip
    refine op_isN pins s σ H v w vv ww Q I rv rw_ ⟨h2.non_, ?_⟩
    cases x <;> (unfold COp.ap at ha; cases ha)
    · rw [h1.non_]; exact k.bl
    · rw [h1.bl_]; exact k.bl
    · rw [h1.int_]; exact k.bl
    · rw [h1.str_.1]; exact k.bl
    · obtain ⟨a, vs, e, _⟩ := h1.tup_
      rw [e]; exact k.bl
    · obtain ⟨a, vs, e, _⟩ := h1.lst
      rw [e]; exact k.bl
    · obtain ⟨a, e, _⟩ := Rep.scr_iff.mp (h1.non fun _ e => nomatch e)
      rw [e]; exact k.bl
    · obtain ⟨a, dx, vs, e, _⟩ := Rep.obj_iff.mp (h1.non fun _ e => nomatch e)
      rw [e]; exact k.bl
  · cases y <;> first | (unfold COp.ap at ha; cases x <;> cases ha; done) | skip
    refine op_notN pins s σ H v w vv ww Q I rv rw_ ⟨h2.non_, ?_⟩
    cases x <;> (unfold COp.ap at ha; cases ha)
    · rw [h1.non_]; exact k.bl
    · rw [h1.bl_]; exact k.bl
    · rw [h1.int_]; exact k.bl
    · rw [h1.str_.1]; exact k.bl
    · obtain ⟨a, vs, e, _⟩ := h1.tup_
      rw [e]; exact k.bl
    · obtain ⟨a, vs, e, _⟩ := h1.lst
      rw [e]; exact k.bl
    · obtain ⟨a, e, _⟩ := Rep.scr_iff.mp (h1.non fun _ e => nomatch e)
      rw [e]; exact k.bl
    · obtain ⟨a, dx, vs, e, _⟩ := Rep.obj_iff.mp (h1.non fun _ e => nomatch e)
      rw [e]; exact k.bl
end
end Fe

set_option Elab.async false
set_option linter.all false
set_option maxRecDepth 100000
set_option maxHeartbeats 4000000
/-! Fe5: subscripts, slices, built-in functions and methods by trees. -/
namespace Fe
open PySem PySem.Spec PyProof.Rows L2

section
variable {X : Cx} {c : Cl} {H H' H1 H2 : Hp} {Z : Zn} {t x y : T} {ts us : List T} {v w : V} {vs ws : List V} {Q : VK}

theorem KQ.keep {n : Bool} (k : KQ n c H Z t Q) (r : Rep c H Z t v) (hn : n = false) : Q v H := k _ _ (Same.refl H) r fun e => by rw [hn] at e; cases e
theorem RepL.atI {i : Int} (r : RepL c H Z ts vs) (h : L2.atI ts i = some t) : ∃ v, L2.atI vs i = some v ∧ Rep c H Z t v := by
  unfold L2.atI at *
  rw [r.length]
  cases e : ixN ts.length i with
  | none => rw [e] at h; cases h
  | some j => rw [e] at h; exact r.get h

/-! ### a[i] -/
def rX (c : Cl) : R2 := fun v w H Q => ∃ Z x y t, Dom Z H ∧ Rep1 c H Z x v ∧ Rep1 c H Z y w ∧ ixT x y = some t ∧ KQ false c H Z t Q
theorem strOk_sign {s : Str} {n : Nat} (h : PyData.strOk s = true) (m : n ∈ s.cps.toList) : PyData.strOk ⟨#[n]⟩ = true := by
  unfold PyData.strOk at *
  rw [Array.all_eq_true'] at h
  have q := h n (Array.mem_def.mpr m)
  simpa using q
theorem atI_mem {α : Type} {l : List α} {i : Int} {a : α} (h : L2.atI l i = some a) : a ∈ l := by
  unfold L2.atI at h
  cases e : ixN l.length i with
  | none => rw [e] at h; cases h
  | some j => rw [e] at h; exact List.mem_of_getElem? h
theorem ixR (hK : X.K = c.K) : IxR X (rX c) := by
  intro value slice pins s σ H v w vv ww Q I rv rw_ h hs
  obtain ⟨Z, x, y, t, d, h1, h2, ha, k⟩ := h
  unfold ixT at ha
  cases y <;> first | (cases x <;> cases ha; done) | skip
  rename_i i
  cases x <;> first | (cases ha; done) | skip
  · rename_i z
    dsimp only at ha
    obtain ⟨e, ok, hl⟩ := h1.str_
    cases hc : L2.atI z.cps.toList i with
    | none => rw [hc] at ha; cases ha
    | some n =>
      rw [hc] at ha; cases ha
      exact ix_str value slice pins s σ H v w vv ww Q I rv rw_ ⟨z, i, n, e, h2.int_, by rw [← lim_line]; exact hl, hc, k.str (strOk_sign ok (atI_mem hc)) (show 1 ≤ LIM by decide)⟩ hs
  · rename_i l
    dsimp only at ha
    obtain ⟨a, vs, e, ta, r, _⟩ := h1.tup_
    obtain ⟨u, hu, ru⟩ := r.atI ha
    exact ix_tup value slice pins s σ H v w vv ww Q I rv rw_ ⟨a, vs, i, u, e, h2.int_, by rw [hK]; exact ta.seq, hu, k.keep ru rfl⟩ hs
  · rename_i l
    dsimp only at ha
    obtain ⟨a, vs, e, ta, r, _⟩ := h1.lst
    obtain ⟨u, hu, ru⟩ := r.atI ha
    exact ix_list value slice pins s σ H v w vv ww Q I rv rw_ ⟨a, vs, i, u, e, h2.int_, SqL.of ta, hu, k.keep ru rfl⟩ hs
  · rename_i l
    dsimp only at ha
    obtain ⟨a, e, ta, hl⟩ := Rep.scr_iff.mp (h1.non fun _ e => nomatch e)
    cases hc : L2.atI l i with
    | none => rw [hc] at ha; cases ha
    | some n =>
      rw [hc] at ha; cases ha
      refine ix_list value slice pins s σ H v w vv ww Q I rv rw_ ⟨a, l.map V.int, i, .int n, e, h2.int_, by rw [hK]; exact ta.sq, ?_, k.int⟩ hs
      unfold L2.atI at *
      rw [List.length_map]
      cases e2 : ixN l.length i with
      | none => rw [e2] at hc; cases hc
      | some j =>
        rw [e2] at hc
        show (l.map V.int)[j]? = _
        rw [List.getElem?_map, show l[j]? = some n from hc]; rfl

/-! ### a[lo:hi] -/
theorem cutL_len {α : Type} (xs : List α) (lo hi : Option Int) : (cutL xs lo hi).length ≤ xs.length := by
  unfold cutL
  rw [List.length_take, List.length_drop]; omega
theorem RepL.cut (r : RepL c H Z ts vs) (lo hi : Option Int) : RepL c H Z (cutL ts lo hi) (cutV vs lo hi) := by
  unfold cutL cutV
  rw [r.length]
  exact (r.drop _).take _
def rSl (c : Cl) : V → Option Int → Option Int → Hp → VK → Prop := fun v lo hi H Q => ∃ Z x t, Dom Z H ∧ Rep1 c H Z x v ∧ slT x lo hi = some t ∧ KQ true c H Z t Q
theorem slR (hK : X.K = c.K) : SlR X (rSl c) := by
  intro pins s σ H v vv vl vu lo hi sl Q I rv hs pl pu h
  obtain ⟨Z, x, t, d, h1, ha, k⟩ := h
  unfold slT at ha
  cases x <;> first | (cases ha; done) | skip
  · rename_i l
    cases ha
    obtain ⟨a, vs, e, ta, r, hl⟩ := h1.tup_
    have hw := (r.cut lo hi)
    refine sl_tupA pins s σ H v vv vl vu lo hi sl Q I rv hs pl pu ?_
    refine ⟨a, vs, e, by rw [hK]; exact ta.seq, fun hw => ?_, fun _ => k.tup d (r.cut lo hi) (Nat.le_trans (cutL_len _ _ _) hl)⟩
    have he : cutL l lo hi = l := by
      unfold cutL
      rw [← r.length, hw.1, hw.2, List.drop_zero, Nat.sub_zero, r.length, List.take_length]
    rw [he] at k
    exact k _ _ (Same.refl H) (e ▸ (h1.non fun _ z => nomatch z)) fun _ _ z => nomatch z
  · rename_i l
    cases ha
    obtain ⟨a, vs, e, ta, r, hl⟩ := h1.lst
    exact sl_list pins s σ H v vv vl vu lo hi sl Q I rv hs pl pu ⟨a, vs, e, SqL.of ta, k.lst d (r.cut lo hi) (Nat.le_trans (cutL_len _ _ _) hl)⟩

/-! ### built-in functions -/
def RepA1 (c : Cl) (H : Hp) (Z : Zn) : List T → List V → Prop
  | [], vs => vs = []
  | t :: ts, vs => ∃ v r, vs = v :: r ∧ Rep1 c H Z t v ∧ RepA1 c H Z ts r
def rB (c : Cl) (n : Bool) (b : Bi) : List V → Hp → VK → Prop := fun vs H Q => ∃ Z ts t, Dom Z H ∧ RepA1 c H Z ts vs ∧ b.ap ts = some t ∧ KQ n c H Z t Q
theorem RepA1.one (h : RepA1 c H Z [t] vs) : ∃ v, vs = [v] ∧ Rep1 c H Z t v := by
  obtain ⟨v, r, rfl, h1, h2⟩ := h
  cases h2
  exact ⟨v, rfl, h1⟩
theorem RepA1.two (h : RepA1 c H Z [x, y] vs) : ∃ v w, vs = [v, w] ∧ Rep1 c H Z x v ∧ Rep1 c H Z y w := by
  obtain ⟨v, r, rfl, h1, h2⟩ := h
  obtain ⟨w, rfl, h3⟩ := RepA1.one h2
  exact ⟨v, w, rfl, h1, h3⟩
theorem ints_rep : ∀ {l : List T} {is : List Int} {vs : List V}, ints? l = some is → RepL c H Z l vs → vs = is.map V.int
  | [], is, vs, e, r => by
    rw [RepL.nil_iff.mp r]; unfold ints? at e; cases e; rfl
  | t :: l, is, vs, e, r => by
    obtain ⟨v, q, rfl, h1, h2⟩ := RepL.cons_iff.mp r
    cases t <;> first | (unfold ints? at e; cases e; done) | skip
    rename_i i
    unfold ints? at e
    cases e2 : ints? l with
    | none => rw [e2] at e; cases e
    | some js =>
      rw [e2] at e; cases e
      rw [Rep.int_iff.mp h1, ints_rep e2 h2]; rfl
theorem bls_rep : ∀ {l : List T} {is : List Bool} {vs : List V}, bls? l = some is → RepL c H Z l vs → vs = is.map V.bl
  | [], is, vs, e, r => by
    rw [RepL.nil_iff.mp r]; unfold bls? at e; cases e; rfl
  | t :: l, is, vs, e, r => by
    obtain ⟨v, q, rfl, h1, h2⟩ := RepL.cons_iff.mp r
    cases t <;> first | (unfold bls? at e; cases e; done) | skip
    rename_i i
    unfold bls? at e
    cases e2 : bls? l with
    | none => rw [e2] at e; cases e
    | some js =>
      rw [e2] at e; cases e
      rw [Rep.bl_iff.mp h1, bls_rep e2 h2]; rfl
theorem strs_rep : ∀ {l : List T} {is : List Str} {vs : List V}, strs? l = some is → RepL c H Z l vs → vs = is.map V.str ∧ ∀ s ∈ is, PyData.strOk s = true ∧ s.length ≤ LIM
  | [], is, vs, e, r => by
    rw [RepL.nil_iff.mp r]; unfold strs? at e; cases e; exact ⟨rfl, fun _ h => nomatch h⟩
  | t :: l, is, vs, e, r => by
    obtain ⟨v, q, rfl, h1, h2⟩ := RepL.cons_iff.mp r
    cases t <;> first | (unfold strs? at e; cases e; done) | skip
    rename_i i
    unfold strs? at e
    cases e2 : strs? l with
    | none => rw [e2] at e; cases e
    | some js =>
      rw [e2] at e; cases e
      obtain ⟨a1, a2, a3⟩ := Rep.str_iff.mp h1
      obtain ⟨b1, b2⟩ := strs_rep e2 h2
      exact ⟨by rw [a1, b1]; rfl, fun s m => by
        rcases List.mem_cons.mp m with e | m
        · subst e; exact ⟨a2, a3⟩
        · exact b2 s m⟩
theorem foldl_max_is {i m : Int} : ∀ {r : List Int}, m ∈ i :: r → (∀ y, y ∈ i :: r → y ≤ m) → r.foldl max i = m
  | [], h1, h2 => by simpa using (List.mem_singleton.mp h1).symm
  | j :: r, h1, h2 => by
    rw [List.foldl_cons]
    refine foldl_max_is (i := max i j) ?_ fun y hy => ?_
    · have hi := h2 i (by simp)
      have hj := h2 j (by simp)
      rcases List.mem_cons.mp h1 with e | h1
      · subst e; rw [Int.max_eq_left hj]; simp
      · rcases List.mem_cons.mp h1 with e | h1
        · subst e; rw [Int.max_eq_right hi]; simp
        · exact List.mem_cons_of_mem _ h1
    · rcases List.mem_cons.mp hy with e | hy
      · subst e
        have hi := h2 i (by simp)
        have hj := h2 j (by simp)
        exact Int.max_le.mpr ⟨hi, hj⟩
      · exact h2 y (by simp [hy])

/-- the name, and what it stands for (a built-in function, or a class) -/
def Bi.nm : Bi → Str
  | .len => "len"
  | .list => "list"
  | .tuple => "tuple"
  | .int => "int"
  | .str => "str"
  | .min2 => "min"
  | .max2 => "max"
  | .max1 => "max"
  | .sum => "sum"
  | .all => "all"
  | .any => "any"
  | .lenset => "len"
  | .isI _ => "isinstance"
def Bi.val : Bi → Value
  | .len => .builtin "len"
  | .list => .type "list"
  | .tuple => .type "tuple"
  | .int => .type "int"
  | .str => .type "str"
  | .min2 => .builtin "min"
  | .max2 => .builtin "max"
  | .max1 => .builtin "max"
  | .sum => .builtin "sum"
  | .all => .builtin "all"
  | .any => .builtin "any"
  | .lenset => .builtin "len"
  | .isI _ => .builtin "isinstance"
/-- served by values -/
def Bi.pl : Bi → Bool
  | .lenset => false
  | .isI _ => false
  | .str => false
  | _ => true
theorem Bi.boot (b : Bi) : bootBuiltins b.nm = some b.val := by
  cases b with
  | isI cs => show bootBuiltins ("isinstance" : Str) = some (.builtin "isinstance"); decide +kernel
  | _ => decide +kernel
theorem Bi.nn (b : Bi) : b.nm ≠ "__name__" := by
  cases b with
  | isI cs => show ("isinstance" : Str) ≠ "__name__"; decide +kernel
  | _ => decide +kernel
theorem Bi.nd (b : Bi) : (b.nm == ("__debug__" : Str)) = false := by
  cases b with
  | isI cs => show (("isinstance" : Str) == ("__debug__" : Str)) = false; decide +kernel
  | _ => decide +kernel
theorem biT (hK : X.K = c.K) (hc : X.calm = true) {b : Bi} (pl : b.pl = true) : CallR X b.val (rB c (b.nm == "list") b) := by
  intro pins s σ H vs us Q I r h
  obtain ⟨Z, ts, t, d, ha, e, k⟩ := h
  have ll := lim_line
  cases b <;> first | (exact absurd (show false = true from pl) Bool.false_ne_true) | skip
  · -- len
    match ts, e with
    | [.str z], e =>
      cases e
      obtain ⟨v, rfl, h1⟩ := ha.one
      obtain ⟨rfl, ok, hl⟩ := h1.str_
      exact call_len pins s σ H _ us Q I r ⟨_, z.length, rfl, ⟨by rw [← ll]; exact hl, rfl⟩, k.int⟩
    | [.lst l], e =>
      cases e
      obtain ⟨v, rfl, h1⟩ := ha.one
      obtain ⟨a, xs, rfl, ta, q, hl⟩ := h1.lst
      exact call_len pins s σ H _ us Q I r ⟨_, l.length, rfl, .inl ⟨xs, SqL.of ta, q.length.symm⟩, k.int⟩
    | [.tup l], e =>
      cases e
      obtain ⟨v, rfl, h1⟩ := ha.one
      obtain ⟨a, xs, rfl, ta, q, hl⟩ := h1.tup_
      exact call_len pins s σ H _ us Q I r ⟨_, l.length, rfl, .inr ⟨xs, by rw [hK]; exact ta.seq, q.length.symm⟩, k.int⟩
    | [.scr l], e =>
      cases e
      obtain ⟨v, rfl, h1⟩ := ha.one
      obtain ⟨a, rfl, ta, hl⟩ := Rep.scr_iff.mp (h1.non fun _ e => nomatch e)
      exact call_len pins s σ H _ us Q I r ⟨_, l.length, rfl, .inl ⟨_, by rw [hK]; exact ta.sq, by rw [List.length_map]⟩, k.int⟩
  · -- list
    match ts, e with
    | [.lst l], e =>
      cases e
      obtain ⟨v, rfl, h1⟩ := ha.one
      obtain ⟨a, xs, rfl, ta, q, hl⟩ := h1.lst
      exact call_list_of pins s σ H _ us Q I r ⟨a, xs, rfl, .inl (SqL.of ta), k.lst d q hl⟩
    | [.tup l], e =>
      cases e
      obtain ⟨v, rfl, h1⟩ := ha.one
      obtain ⟨a, xs, rfl, ta, q, hl⟩ := h1.tup_
      exact call_list_of pins s σ H _ us Q I r ⟨a, xs, rfl, .inr (by rw [hK]; exact ta.seq), k.lst d q hl⟩
  · -- tuple
    match ts, e with
    | [.lst l], e =>
      cases e
      obtain ⟨v, rfl, h1⟩ := ha.one
      obtain ⟨a, xs, rfl, ta, q, hl⟩ := h1.lst
      exact call_tuple_of pins s σ H _ us Q I r ⟨a, xs, rfl, .inl ⟨SqL.of ta, k.tup d q hl⟩⟩
    | [.tup l], e =>
      cases e
      obtain ⟨v, rfl, h1⟩ := ha.one
      have h1' := h1.non fun _ z => nomatch z
      obtain ⟨a, xs, rfl, ta, q, hl⟩ := h1.tup_
      exact call_tuple_of pins s σ H _ us Q I r ⟨a, xs, rfl, .inr ⟨by rw [hK]; exact ta.seq, k _ _ (Same.refl H) h1' fun _ _ z => nomatch z⟩⟩
  · -- int
    match ts, e with
    | [.int i], e =>
      cases e
      obtain ⟨v, rfl, h1⟩ := ha.one
      cases h1.int_
      exact call_int1 pins s σ H _ us Q I r (.inl ⟨i, rfl, k.int⟩)
    | [.bl i], e =>
      cases e
      obtain ⟨v, rfl, h1⟩ := ha.one
      cases h1.bl_
      exact call_int1 pins s σ H _ us Q I r (.inr ⟨i, rfl, k.int⟩)
    | [.str z], e =>
      obtain ⟨v, rfl, h1⟩ := ha.one
      obtain ⟨rfl, ok, hl⟩ := h1.str_
      unfold Bi.ap at e; dsimp only at e
      split at e
      · rename_i hz
        cases e2 : PySem.intText? z with
        | none => rw [e2] at e; cases e
        | some n =>
          rw [e2] at e; cases e
          exact call_int_str pins s σ H _ us Q I r ⟨z, n, rfl, e2, hz, k.int⟩
      · cases e
  · -- min2
    match ts, e with
    | [.int i, .int j], e =>
      cases e
      obtain ⟨v, w, rfl, h1, h2⟩ := ha.two
      cases h1.int_; cases h2.int_
      exact call_min2 hc pins s σ H _ us Q I r ⟨i, j, rfl, k.int⟩
  · match ts, e with
    | [.int i, .int j], e =>
      cases e
      obtain ⟨v, w, rfl, h1, h2⟩ := ha.two
      cases h1.int_; cases h2.int_
      exact call_max2 hc pins s σ H _ us Q I r ⟨i, j, rfl, k.int⟩
  · -- max1
    match ts, e with
    | [.lst l], e =>
      obtain ⟨v, rfl, h1⟩ := ha.one
      obtain ⟨a, xs, rfl, ta, q, hl⟩ := h1.lst
      unfold Bi.ap at e; dsimp only at e
      cases e2 : ints? l with
      | none => rw [e2] at e; cases e
      | some is =>
        rw [e2] at e
        cases is with
        | nil => cases e
        | cons i r' =>
          cases e
          have ex := ints_rep e2 q
          subst ex
          exact cr_max hc pins s σ H _ us Q I r ⟨a, i :: r', rfl, SqL.of ta, Nat.succ_pos _, fun m h1 h2 => by
            rw [foldl_max_is h1 h2] at k
            exact k.int⟩
  · match ts, e with
    | [.lst l], e =>
      obtain ⟨v, rfl, h1⟩ := ha.one
      obtain ⟨a, xs, rfl, ta, q, hl⟩ := h1.lst
      unfold Bi.ap at e; dsimp only at e
      cases e2 : ints? l with
      | none => rw [e2] at e; cases e
      | some is =>
        rw [e2] at e; cases e
        have ex := ints_rep e2 q
        subst ex
        exact cr_sum hc pins s σ H _ us Q I r ⟨a, is, rfl, SqL.of ta, k.int⟩
  · match ts, e with
    | [.lst l], e =>
      obtain ⟨v, rfl, h1⟩ := ha.one
      obtain ⟨a, xs, rfl, ta, q, hl⟩ := h1.lst
      unfold Bi.ap at e; dsimp only at e
      cases e2 : bls? l with
      | none => rw [e2] at e; cases e
      | some is =>
        rw [e2] at e; cases e
        have ex := bls_rep e2 q
        subst ex
        exact cr_all hc pins s σ H _ us Q I r ⟨a, is, rfl, SqL.of ta, k.bl⟩
  · match ts, e with
    | [.lst l], e =>
      obtain ⟨v, rfl, h1⟩ := ha.one
      obtain ⟨a, xs, rfl, ta, q, hl⟩ := h1.lst
      unfold Bi.ap at e; dsimp only at e
      cases e2 : bls? l with
      | none => rw [e2] at e; cases e
      | some is =>
        rw [e2] at e; cases e
        have ex := bls_rep e2 q
        subst ex
        exact cr_any hc pins s σ H _ us Q I r ⟨a, is, rfl, SqL.of ta, k.bl⟩
end
end Fe

set_option Elab.async false
set_option linter.all false
set_option autoImplicit false
set_option maxRecDepth 100000
set_option maxHeartbeats 4000000
/-! Fe6: methods by trees. -/
namespace Fe
open PySem PySem.Spec PyProof.Rows L2 TL

/-! ### signs of texts -/
theorem strOk_iff {s : Str} : PyData.strOk s = true ↔ ∀ n ∈ s.cps.toList, n < 0x110000 := by
  unfold PyData.strOk
  rw [Array.all_eq_true']
  constructor
  · intro h n m
    have := h n (Array.mem_def.mpr m)
    simpa using this
  · intro h n m
    have := h n (Array.mem_def.mp m)
    simpa using this
theorem tl_eq (s : Str) : tl s = s.cps.toList := rfl
theorem spl_mem (S : List Nat) : ∀ (l : List Nat) (k : Nat) (acc : List Nat), ∀ p ∈ spl S k acc l, (∀ n ∈ p, n ∈ acc ∨ n ∈ l) ∧ p.length ≤ acc.length + l.length
  | [], k, acc, p, h => by
    rw [spl_nil] at h
    rw [List.mem_singleton.mp h]
    exact ⟨fun n m => .inl m, by simp⟩
  | x :: l, 0, acc, p, h => by
    cases e : pre S (x :: l) with
    | true =>
      rw [spl_hit e] at h
      rcases List.mem_cons.mp h with e | h
      · rw [e]; exact ⟨fun n m => .inl m, by simp⟩
      · obtain ⟨a, b⟩ := spl_mem S l _ _ p h
        exact ⟨fun n m => (a n m).elim (fun z => nomatch z) fun z => .inr (List.mem_cons_of_mem _ z), by simp at b ⊢; omega⟩
    | false =>
      rw [spl_miss e] at h
      obtain ⟨a, b⟩ := spl_mem S l _ _ p h
      exact ⟨fun n m => by
        rcases a n m with z | z
        · rcases List.mem_append.mp z with z | z
          · exact .inl z
          · exact .inr (by rw [List.mem_singleton.mp z]; exact List.mem_cons_self)
        · exact .inr (List.mem_cons_of_mem _ z), by simp at b ⊢; omega⟩
  | x :: l, k + 1, acc, p, h => by
    have h' : p ∈ spl S k acc l := by
      rw [spl_pass] at h ⊢
      exact h
    obtain ⟨a, b⟩ := spl_mem S l _ _ p h'
    exact ⟨fun n m => (a n m).elim .inl fun z => .inr (List.mem_cons_of_mem _ z), by simp at b ⊢; omega⟩
theorem spl_count (S : List Nat) : ∀ (l : List Nat) (k : Nat) (acc : List Nat), (spl S k acc l).length ≤ l.length + 1
  | [], k, acc => by rw [spl_nil]; simp
  | x :: l, 0, acc => by
    cases e : pre S (x :: l) with
    | true => rw [spl_hit e]; have := spl_count S l (S.length - 1) []; simp; omega
    | false => rw [spl_miss e]; have := spl_count S l 0 (acc ++ [x]); simp; omega
  | x :: l, k + 1, acc => by
    have h' : spl S (k + 1) acc (x :: l) = spl S k acc l := by
      rw [spl_pass S (k + 1), spl_pass S k]
      rfl
    rw [h']
    have := spl_count S l k acc
    simp; omega
theorem split_ok {x y : Str} (hy : y.length ≠ 0) (ok : PyData.strOk x = true) : (Txt.split x y).length ≤ x.length + 1 ∧ ∀ p ∈ Txt.split x y, PyData.strOk p = true ∧ p.length ≤ x.length := by
  have hy' : tl y ≠ [] := fun e => hy ((len0_tl y).mpr e)
  by_cases hk : Builtin.Str.strKind x < Builtin.Str.strKind y
  · have e : Txt.split x y = [x] := by
      unfold Txt.split
      rw [if_pos]
      rw [decide_eq_true hk, Bool.or_true]
    rw [e]
    exact ⟨by simp, fun p m => by rw [List.mem_singleton.mp m]; exact ⟨ok, Nat.le_refl _⟩⟩
  · have e := split_spl x y hy' hk
    have el := congrArg List.length e
    rw [List.length_map] at el
    refine ⟨by rw [el]; exact spl_count _ _ _ _, fun p m => ?_⟩
    have mp : tl p ∈ spl (tl y) 0 [] (tl x) := by rw [← e]; exact List.mem_map.mpr ⟨p, m, rfl⟩
    obtain ⟨a, b⟩ := spl_mem _ _ _ _ _ mp
    refine ⟨strOk_iff.mpr fun n hn => ?_, by rw [len_tl, len_tl x]; simpa using b⟩
    rcases a n hn with z | z
    · cases z
    · exact strOk_iff.mp ok n z
theorem joinL_mem (S : List Nat) : ∀ (l : List (List Nat)), (∀ n ∈ joinL S l, n ∈ S ∨ ∃ p ∈ l, n ∈ p) ∧ (joinL S l).length ≤ (l.map List.length).sum + l.length * S.length
  | [] => by
    refine ⟨fun n m => ?_, ?_⟩
    · exact absurd (show n ∈ ([] : List Nat) from m) List.not_mem_nil
    · exact Nat.zero_le _
  | [a] => by
    refine ⟨fun n m => ?_, ?_⟩
    · exact .inr ⟨a, List.mem_cons_self, (show n ∈ a from m)⟩
    · show a.length ≤ _
      simp
  | a :: b :: l => by
    obtain ⟨h1, h2⟩ := joinL_mem S (b :: l)
    have e : joinL S (a :: b :: l) = a ++ S ++ joinL S (b :: l) := by
      first
        | rfl
        | (simp [joinL])
    rw [e]
    refine ⟨fun n m => ?_, ?_⟩
    · rcases List.mem_append.mp m with m | m
      · rcases List.mem_append.mp m with m | m
        · exact .inr ⟨a, List.mem_cons_self, m⟩
        · exact .inl m
      · rcases h1 n m with z | ⟨p, z1, z2⟩
        · exact .inl z
        · exact .inr ⟨p, List.mem_cons_of_mem _ z1, z2⟩
    · simp only [List.length_append, List.map_cons, List.sum_cons, List.length_cons] at h2 ⊢
      have : (l.length + 1 + 1) * S.length = (l.length + 1) * S.length + S.length := by rw [Nat.add_mul, Nat.one_mul]
      omega
theorem join_ok {a : Str} {ss : List Str} (ok : PyData.strOk a = true) (h : ∀ s ∈ ss, PyData.strOk s = true) : PyData.strOk (Txt.join a ss) = true ∧ (Txt.join a ss).length ≤ (ss.map (·.length)).sum + ss.length * a.length := by
  have e := tl_join a ss
  rw [← join_eq] at e
  obtain ⟨h1, h2⟩ := joinL_mem (tl a) (ss.map tl)
  rw [← e] at h1 h2
  refine ⟨strOk_iff.mpr fun n m => ?_, ?_⟩
  · rcases h1 n m with z | ⟨p, z1, z2⟩
    · exact strOk_iff.mp ok n z
    · obtain ⟨s, m1, rfl⟩ := List.mem_map.mp z1
      exact strOk_iff.mp (h s m1) n z2
  · rw [len_tl]
    have e3 : ((ss.map tl).map List.length) = ss.map (·.length) := by
      rw [List.map_map]; rfl
    rw [e3, List.length_map, ← len_tl a] at h2
    exact h2

section
variable {X : Cx} {c : Cl} {H H' H1 H2 : Hp} {Z : Zn} {t x y : T} {ts us : List T} {v w : V} {vs ws : List V} {Q : VK}

/-! ### the table of methods -/
def Bm.nm : Bm → Str
  | .index => "index"
  | .count => "count"
  | .join => "join"
  | .find => "find"
  | .split => "split"
  | .isdigit => "isdigit"
def Bm.ty : Bm → String
  | .index => "list"
  | .count => "list"
  | _ => "str"
def Bm.id : Bm → String
  | .index => "list.index"
  | .count => "list.count"
  | .join => "str.join"
  | .find => "str.find"
  | .split => "str.split"
  | .isdigit => "str.isdigit"
theorem Bm.facts (b : Bm) : PlainAttrs b.ty ∧ Slot b.ty b.nm b.id ∧ typeOf (.builtin b.id) = pure (.type "method_descriptor") := by
  cases b with
  | index => exact ⟨PySem.F.plainAttrs_list, PySem.F.slot_list_index, PySem.F.type_list_index⟩
  | count => exact ⟨PySem.F.plainAttrs_list, PySem.F.slot_list_count, PySem.F.type_list_count⟩
  | join => exact ⟨PySem.F.plainAttrs_str, PySem.F.slot_str_join, PySem.F.type_str_join⟩
  | find => exact ⟨PySem.F.plainAttrs_str, PySem.F.slot_str_find, PySem.F.type_str_find⟩
  | split => exact ⟨PySem.F.plainAttrs_str, PySem.F.slot_str_split, PySem.F.type_str_split⟩
  | isdigit => exact ⟨PySem.F.plainAttrs_str, PySem.F.slot_str_isdigit, PySem.F.type_str_isdigit⟩

/-! ### list.count of any plain data -/
theorem countD (hu : X.A.units + 65 < cLine) : MtR X "list.count" (fun v vs H Q => ∃ (a : Addr) (w : V) (d : PyData) (ds : List PyData), v = .ref a ∧ vs = [w] ∧ Dp X.K H (.ref a) (.list ds) ∧ Dp X.K H w d ∧
    SeqAt.shaped (.list ds) = true ∧ SeqAt.shaped d = true ∧ Q (.int (ds.countP fun z => PyData.eqv z d : Nat)) H) := by
  intro pins s σ H v vs vv us Q I rv rvs h
  obtain ⟨a, w, d, ds, rfl, rfl, hl, hw, sl, sd, q⟩ := h
  cases rv
  obtain ⟨u, rfl, ru⟩ := rvs.one
  obtain ⟨bs, rd⟩ := Dp.reads I d w u hw ru
  have lay : PyData.canLayAll0 ds = true := SeqAt.canLay_of_shaped sl
  cases hl with
  | lst hs ha =>
    obtain ⟨its, ri, ⟨⟨cls, dd, data, sls⟩, n, ho, hc, _, hd⟩, _⟩ := I.list hs
    simp only at hc hd
    subst hc hd
    obtain ⟨as, rall⟩ := Dp.readsAll I ds _ its ha ri
    have hm : its.map (SeqAt.readOf s.heap) = ds := SeqAt.readsAll_map ds its as lay rall
    refine call_meets PySem.F.slot_list_count ⟨_, ho, rfl⟩ PySem.F.entry_list_count (PySem.F.args_list_count_2 _ _)
      (SeqAt.list_countAt a its.toArray n dd sls u (fun z => PyData.eqv (SeqAt.readOf s.heap z) d)) ⟨ho, SeqAt.items_eqAt (vs := its.toArray) (show ReadsAll s.heap its.toArray.toList ds as from rall) rd lay (SeqAt.canLay_of_shaped sd) (room_in_shaped sd hu), ?_⟩
    have e : its.toArray.toList.countP (fun z => PyData.eqv (SeqAt.readOf s.heap z) d) = ds.countP fun z => PyData.eqv z d := by
      rw [← hm, List.countP_map]; rfl
    rw [e]
    exact ⟨.int _, H, I.tok _, ⟨_, rfl⟩, q⟩

/-! ### methods by trees -/
def rM (c : Cl) (b : Bm) : V → List V → Hp → VK → Prop := fun v vs H Q => ∃ Z x ts t, Dom Z H ∧ Rep1 c H Z x v ∧ RepA1 c H Z ts vs ∧ b.ap x ts = some t ∧ KQ true c H Z t Q
theorem idx_toD (x : T) : ∀ {l : List T} {n : Nat}, idxOf x l = some n → ∃ z, (toDs l)[n]? = some z ∧ PyData.eqv z x.toD = true ∧ ∀ (m : Nat) z', m < n → (toDs l)[m]? = some z' → PyData.eqv z' x.toD = false
  | [], n, h => by unfold idxOf at h; cases h
  | y :: l, n, h => by
    unfold idxOf at h
    unfold toDs
    split at h
    · rename_i e
      cases h
      exact ⟨y.toD, rfl, e, fun m _ hm => absurd hm (Nat.not_lt_zero _)⟩
    · rename_i e
      cases e2 : idxOf x l with
      | none => rw [e2] at h; cases h
      | some k =>
        rw [e2] at h; cases h
        obtain ⟨z, h1, h2, h3⟩ := idx_toD x e2
        refine ⟨z, by simpa using h1, h2, fun m z' hm hz => ?_⟩
        match m with
        | 0 =>
          have : y.toD = z' := by simpa using hz
          rw [← this]
          exact Bool.eq_false_iff.mpr e
        | m + 1 => exact h3 m z' (Nat.lt_of_succ_lt_succ hm) (by simpa using hz)
theorem repL_strs : ∀ {ss : List Str}, (∀ s ∈ ss, PyData.strOk s = true ∧ s.length ≤ LIM) → RepL c H Z (ss.map .str) (ss.map V.str)
  | [], _ => RepL.nil
  | s :: ss, h => RepL.cons (Rep.str_iff.mpr ⟨rfl, h s List.mem_cons_self⟩) (repL_strs fun z m => h z (List.mem_cons_of_mem _ m))
theorem bmT (hK : X.K = c.K) {k : Nat} (hr : Rm k X.A) {b : Bm} : MtR X b.id (rM c b) := by
  have hu := hr.r.un
  have ll := lim_line
  intro pins s σ H v vs vv us Q I rv rvs h
  obtain ⟨Z, x, ts, t, d, h1, ha, e, k⟩ := h
  cases b
  · -- index
    match x, ts, e with
    | .lst l, [y], e =>
      obtain ⟨w, rfl, h2⟩ := ha.one
      unfold Bm.ap at e; dsimp only at e
      split at e
      · rename_i hd
        rw [Bool.and_eq_true] at hd
        cases e2 : idxOf y l with
        | none => rw [e2] at e; cases e
        | some n =>
          rw [e2] at e; cases e
          obtain ⟨a, xs, rfl, ta, r, _⟩ := h1.lst
          obtain ⟨z, z1, z2, z3⟩ := idx_toD y e2
          exact mt_indexD (by omega) pins s σ H _ _ vv us Q I rv rvs ⟨a, w, y.toD, toDs l, n, z, rfl, rfl, by rw [hK]; exact .lst (SqL.of ta) (dps_of l DM xs hd.2 r), by rw [hK]; exact dp_of y DM w hd.1 h2, shapeds_of r hd.2, shaped_of h2 hd.1, z1, z2, z3, k.int⟩
      · cases e
  · match x, ts, e with
    | .lst l, [y], e =>
      obtain ⟨w, rfl, h2⟩ := ha.one
      unfold Bm.ap at e; dsimp only at e
      split at e
      · rename_i hd
        rw [Bool.and_eq_true] at hd
        cases e
        obtain ⟨a, xs, rfl, ta, r, _⟩ := h1.lst
        refine countD (by omega) pins s σ H _ _ vv us Q I rv rvs ⟨a, w, y.toD, toDs l, rfl, rfl, by rw [hK]; exact .lst (SqL.of ta) (dps_of l DM xs hd.2 r), by rw [hK]; exact dp_of y DM w hd.1 h2, shapeds_of r hd.2, shaped_of h2 hd.1, ?_⟩
        have e3 : (toDs l).countP (fun z => PyData.eqv z y.toD) = l.countP fun z => z.eqv y := by
          rw [toDs_map, List.countP_map]; rfl
        rw [e3]
        exact k.int
      · cases e
  · match x, ts, e with
    | .str z, [.lst l], e =>
      obtain ⟨w, rfl, h2⟩ := ha.one
      obtain ⟨rfl, ok, hl⟩ := h1.str_
      obtain ⟨a, xs, rfl, ta, r, _⟩ := h2.lst
      unfold Bm.ap at e; dsimp only at e
      cases e2 : strs? l with
      | none => rw [e2] at e; cases e
      | some ss =>
        rw [e2] at e; dsimp only at e
        split at e
        · rename_i hz
          cases e
          obtain ⟨ex, es⟩ := strs_rep e2 r
          subst ex
          obtain ⟨j1, j2⟩ := join_ok ok fun s m => (es s m).1
          exact mt_join pins s σ H _ _ vv us Q I rv rvs ⟨z, a, ss, rfl, rfl, .inl (SqL.of ta), hz, k.str j1 (Nat.le_trans j2 hz)⟩
        · cases e
  · match x, ts, e with
    | .str z, [.str y], e =>
      cases e
      obtain ⟨w, rfl, h2⟩ := ha.one
      obtain ⟨rfl, ok, hl⟩ := h1.str_
      obtain ⟨rfl, ok2, hl2⟩ := h2.str_
      exact mt_find pins s σ H _ _ vv us Q I rv rvs ⟨z, y, rfl, rfl, k.int⟩
  · match x, ts, e with
    | .str z, [.str y], e =>
      obtain ⟨w, rfl, h2⟩ := ha.one
      obtain ⟨rfl, ok, hl⟩ := h1.str_
      obtain ⟨rfl, ok2, hl2⟩ := h2.str_
      unfold Bm.ap at e; dsimp only at e
      split at e
      · rename_i hz
        cases e
        obtain ⟨q1, q2⟩ := split_ok hz.1 ok
        exact mt_split pins s σ H _ _ vv us Q I rv rvs ⟨z, y, rfl, rfl, by simpa using hz.1, by rw [← ll]; exact hz.2, k.lst d (repL_strs fun s m => ⟨(q2 s m).1, Nat.le_trans (q2 s m).2 hl⟩) (by rw [List.length_map]; omega)⟩
      · cases e
  · match x, ts, e with
    | .str z, [], e =>
      cases e
      cases ha
      obtain ⟨rfl, ok, hl⟩ := h1.str_
      exact mt_isdigit pins s σ H _ _ vv us Q I rv rvs ⟨z, rfl, rfl, trivial, k.bl⟩
end
end Fe

set_option Elab.async false
set_option linter.all false
set_option autoImplicit false
set_option maxRecDepth 100000
set_option maxHeartbeats 4000000
/-! Fe7: an expression is looked at: does this tree of mine say it? If so, its reading. -/
namespace Fe
open PySem PySem.Spec PyProof.Rows L2

/-! ### what is known of the text and of a place in it -/
/-- a def's (or a block's) names by slot, its scope, and which names' cells are its own -/
structure Cf where
  N : List Str
  sc : Scope
  fn : Str → Bool
/-- global defs: name, which parameters are looked at alone, how many; classes made; constants -/
structure Tb where
  fns : Nat → Option (Str × List Bool × Nat)
  cls : Nat → Option Str
  glb : Nat → Option Str
  isc : Nat → Bool
def RepA (c : Cl) (H : Hp) (Z : Zn) : List Bool → List T → List V → Prop
  | _, [], vs => vs = []
  | bs, t :: ts, vs => ∃ v r, vs = v :: r ∧ RepB (bs.headD false) c H Z t v ∧ RepA c H Z bs.tail ts r
/-- a def of the text promises what phi says; nothing that stood is changed -/
def spT (c : Cl) (bw : List Bool) (n : Nat) (φ : List T → Option T) : Sp := fun vs H Q _ => ∃ Z ts t, Dom Z H ∧ RepA c H Z bw ts vs ∧ vs.length = n ∧ φ ts = some t ∧ ∀ v H', Same H H' → Rep c H' Z t v → Q v H'
/-- making an instance -/
def rMk (c : Cl) (P : Pg) (q : Nat) : List V → Hp → VK → Prop := fun vs H Q => ∃ Z ts fs, Dom Z H ∧ RepL c H Z ts vs ∧ P.ini q ts = some fs ∧ ∀ v H', Same H H' → Rep c H' Z (.obj q fs) v → Q v H'
/-- names of built-ins that the text does not take -/
def FREE : List Str := ["len", "list", "tuple", "int", "str", "min", "max", "sum", "all", "any", "isinstance", "range", "enumerate", "zip", "reversed", "repr", "set", "sorted", "dict", "divmod", "bool"]
structure Fct (c : Cl) (P : Pg) (B : Tb) (k : Nat) (prog : Program) (w : World) (K : PySem.W.Frag) (mg : Str → Option Value) (base : Heap) : Prop where
  eqK : K = c.K
  free : ∀ x ∈ FREE, mg x = none
  fns : ∀ i x bw n, B.fns i = some (x, bw, n) → ∃ ad fd ps, mg x = some (.ref ad) ∧ PySem.W.keepIn K (.ref ad) = true ∧ L2.Binds K fd ps [] ∧ FnG prog w K mg base CX0 k ad fd ps (spT c bw n (P.fn i))
  mth : ∀ q m i, P.mth q m = some i → ∃ n ad fd ps, Cls K (c.cl q) ∧ Meth K (c.cl q) m ad ∧ m ∉ c.fl q ∧ L2.Binds K fd ps [] ∧ FnG prog w K mg base CX0 k ad fd ps (spT c [] n (P.fn i)) ∧ ∀ ts t, P.fn i ts = some t → ts.length = n
  fld : ∀ q x, x ∈ c.fl q → Cls K (c.cl q) ∧ NoAttr K (c.cl q) x
  nd : ∀ q, (c.fl q).Nodup
  few : ∀ q, (c.fl q).length < 1000
  made : ∀ q x, B.cls q = some x → mg x = some (.ref (c.cl q)) ∧ PySem.W.keepIn K (.ref (c.cl q)) = true ∧
    ∀ X : Cx, X.prog = prog → X.w = w → X.K = K → X.mg = mg → X.base = base → Rm k X.A → CallR X (.ref (c.cl q)) (rMk c P q)
  gl : ∀ j x, B.glb j = some x → ∃ u v, mg x = some u ∧ RelV v u ∧ ∀ t, P.gl j = some t → ∀ H Z, Rep c H Z t v
  fl : P.fl = c.fl
  isc : ∀ q, B.isc q = true → C8.InsC K (c.cl q)
structure OkX (c : Cl) (P : Pg) (B : Tb) (k : Nat) (f : Cf) (X : Cx) : Prop where
  N : X.N = f.N
  nd : X.N.Nodup
  sc : X.env.scope = f.sc
  fn : ∀ x, X.fn x = f.fn x
  calm : X.calm = true
  rm : Rm k X.A
  fct : Fct c P B k X.prog X.w X.K X.mg X.base

/-! ### looks -/
def visB (sc : Scope) (x : Str) : Bool := match sc.names.lookup x with
  | some .local => true
  | some .cell => true
  | some .free => true
  | _ => false
theorem visB_ok {sc : Scope} {x : Str} (h : visB sc x = true) : Vis sc x := by
  unfold visB at h
  unfold Vis
  split at h
  · exact .inl (by assumption)
  · exact .inr (.inl (by assumption))
  · exact .inr (.inr (by assumption))
  · cases h
def nmB (f : Cf) (i : Nat) (x : Str) : Bool := decide (f.N[i]? = some x) && visB f.sc x && (!(x == ("__debug__" : Str)) && !(x == ("__classdict__" : Str)))
def glB (f : Cf) (x : Str) : Bool := decide (f.sc.names.lookup x = some .globalImplicit) && !(x == ("__debug__" : Str))
/-- a target's name -/
def tgB (f : Cf) (i : Nat) (x : Str) : Bool := decide (f.N[i]? = some x) && ((decide (f.sc.names.lookup x = some .local)) || (decide (f.sc.names.lookup x = some .cell) && f.fn x))
def noStar : Expr → Bool
  | .Starred _ _ => false
  | _ => true
def noSlice : Expr → Bool
  | .Slice _ _ _ _ => false
  | _ => true
/-- no call without arguments: so no super() -/
def noSup : Expr → Bool
  | .Call _ [] [] _ => false
  | _ => true
def noSet : Expr → Bool
  | .Set _ _ _ => false
  | _ => true
theorem starEach_cons {e : Expr} {es : List Expr} {env : Env} (h : noStar e = true) : starEach (e :: es) env = (false, eval e env) :: starEach es env := by
  cases e <;> first
    | (exact absurd (show false = true from h) Bool.false_ne_true)
    | rfl
theorem star_any {pos : Pos} {env : Env} : ∀ {es : List Expr}, es.all noStar = true → (backTo pos (starEach es env)).any (·.1) = false
  | [], _ => rfl
  | e :: es, h => by
    rw [List.all_cons, Bool.and_eq_true] at h
    rw [starEach_cons h.1]
    show (false || (backTo pos (starEach es env)).any (·.1)) = false
    rw [star_any h.2]; rfl
theorem star_all {pos : Pos} {env : Env} : ∀ {es : List Expr}, es.all noStar = true → (backTo pos (starEach es env)).all (fun x => !x.1) = true
  | [], _ => rfl
  | e :: es, h => by
    rw [List.all_cons, Bool.and_eq_true] at h
    rw [starEach_cons h.1]
    show (true && (backTo pos (starEach es env)).all (fun x => !x.1)) = true
    rw [star_all h.2]; rfl
theorem plainIx {e : Expr} (h : noSlice e = true) : PlainIx e := by
  intro o i
  cases e <;> first
    | (exact absurd (show false = true from h) Bool.false_ne_true)
    | rfl
theorem base_of {o : Expr} {a : Str} {env : Env} {w : Sem Value} (h : noSup o = true) : attributeBase o a env w = w := by
  unfold attributeBase
  split
  · exact absurd (show false = true from h) Bool.false_ne_true
  · rfl
theorem folded_of {e : Expr} {env : Env} {x : Value} (h : noSet e = true) : foldedSetIterable e env x = pure x := by
  cases e <;> first
    | (exact absurd (show false = true from h) Bool.false_ne_true)
    | rfl
theorem marks_of {op : CmpOp} {e : Expr} (h : noSet e = true) : behindInMarks op e = false := by
  cases e <;> first
    | (exact absurd (show false = true from h) Bool.false_ne_true)
    | rfl
theorem mcall {o : Expr} {m : Str} {apos pos : Pos} {es : List Expr} {env : Env} (hs : noSup o = true) (hn : es.all noStar = true) (hz : decide (es.length < 29) = true) (hl : (apos.endLine == pos.line) = true) :
    eval (.Call (.Attribute o m apos) es [] pos) env = (do
      let ov ← eval o env
      standAt apos.atName
      let (f, first) ← holding [ov] (getMethod ov m (plainOf o env))
      callWith pos f first (backTo pos (starEach es env)) (backToKw pos (keywordEach [] env))) := by
  have hf : methodCallForm (es.length + ([] : List Keyword).length) (backTo pos (starEach es env)) (backToKw pos (keywordEach [] env)) = true := by
    unfold methodCallForm
    rw [star_all hn]
    have : es.length < 29 := of_decide_eq_true hz
    show (true && (true && decide (es.length + 0 + 0 < 30))) = true
    rw [decide_eq_true (by omega)]; rfl
  have e1 : eval (.Call (.Attribute o m apos) es [] pos) env = (do
      let ov ← attributeBase o m env (eval o env)
      standAt apos.atName
      methodCall o m apos pos env ov (es.length + ([] : List Keyword).length) (backTo pos (starEach es env)) (backToKw pos (keywordEach [] env))) := by
    rfl
  rw [e1, base_of hs]
  simp only [mcall_line hf hl]

section
variable {X : Cx} {c : Cl} {P : Pg} {B : Tb} {k : Nat} {f : Cf} {Z : Zn} {H H' : Hp} {σ : L2.St} {env : En} {t : T}
theorem OkX.hK (ok : OkX c P B k f X) : X.K = c.K := ok.fct.eqK
theorem OkX.gl (ok : OkX c P B k f X) {x : Str} (h : glB f x = true) : Gl X x ∧ (x == ("__debug__" : Str)) = false := by
  unfold glB at h
  rw [Bool.and_eq_true] at h
  exact ⟨by unfold Gl Env.kindOf; rw [ok.sc]; exact of_decide_eq_true h.1, by simpa using h.2⟩
theorem OkX.nm (ok : OkX c P B k f X) {i : Nat} {x : Str} {pos : Pos} (h : nmB f i x = true) : PE X (.Name x pos) (tVar i) := by
  unfold nmB at h
  simp only [Bool.and_eq_true, decide_eq_true_eq] at h
  obtain ⟨⟨h1, h2⟩, h3, h4⟩ := h
  exact pe_var (by rw [ok.N]; exact h1) (by rw [ok.sc]; exact visB_ok h2) (by simpa using h3) (by simpa using h4)
theorem Res.of {e : E} {v : V} (r : Rep c H' Z t v) (hp : e.isP = false := by rfl) (hf : e.isF = false := by rfl) : Res e c H H' Z t v :=
  ⟨by rw [hp]; exact r, fun z => by rw [hf] at z; cases z⟩
/-- a finished answer -/
theorem fin {e : E} {n : Bool} {Q : VK} (hp : e.isP = false) (hn : e.isF = true → n = true) (s : Same H H') (k : ∀ v H'', Same H H'' → Res e c H H'' Z t v → Q v H'') : KQ n c H' Z t Q := by
  intro v H'' s2 r rn
  refine k v H'' (s.trans s2) ⟨by rw [hp]; exact r, fun hf ts et => ?_⟩
  obtain ⟨a, vs, e1, e2, e3, e4, e5⟩ := rn (hn hf) ts et
  exact ⟨a, vs, e1, s.free e2, e3, e4, e5⟩
/-- a test's reading -/
def tTt (c : Cl) (P : Pg) (e : E) : TT := fun σ H Q => ∃ Z env t k, ER c H Z σ env ∧ e.ev P env = some t ∧ t.tru = some k ∧ ∀ H', Same H H' → Q k H'
theorem PT.imp {e : Expr} {t t' : TT} (h : PT X e t) (w : ∀ σ H Q, t' σ H Q → t σ H Q) : PT X e t' := ⟨fun pins s σ H Q I q => h.run pins s σ H Q I (w σ H Q q)⟩
theorem PW.imp {e : Expr} {t t' : TT} (h : PW X e t) (w : ∀ σ H Q, t' σ H Q → t σ H Q) : PW X e t' := ⟨fun wh pins s σ H Q I q => h.run wh pins s σ H Q I (w σ H Q q)⟩
def isBo : Expr → Bool
  | .BoolOp _ _ _ => true
  | _ => false
structure Snd (c : Cl) (P : Pg) (X : Cx) (e : Expr) (a : E) : Prop where
  pe : PE X e (tE c P a)
  pt : PT X e (tTt c P a)
  pw : isBo e = true → PW X e (tTt c P a)
/-- a test that is its value's truth -/
def plainT : Expr → Bool
  | .UnaryOp .Not _ _ => false
  | .BoolOp _ _ _ => false
  | .IfExp _ _ _ _ => false
  | .Compare _ _ _ _ => false
  | _ => true
theorem plainT_ok {e : Expr} (h : plainT e = true) : ∀ whole, isTrue e X.env whole = (do let v ← whole; standAt e.pos; holding [v] (truthy v)) := by
  intro whole
  cases e with
  | UnaryOp op x pos =>
    cases op <;> first
      | (exact absurd (show false = true from h) Bool.false_ne_true)
      | rfl
  | _ => first
    | (exact absurd (show false = true from h) Bool.false_ne_true)
    | rfl
theorem tru_rep {v : V} {k : Bool} {K : PySem.W.Frag} (hK : K = c.K) (r : Rep1 c H Z t v) (h : t.tru = some k) : TruV K v H k := by
  have ll := lim_line
  subst hK
  unfold T.tru at h
  cases t with
  | non => cases h; rw [r.non_]; rfl
  | bl b => cases h; rw [r.bl_]; rfl
  | int i => cases h; rw [r.int_]; rfl
  | str s =>
    cases h
    obtain ⟨e, _, hl⟩ := r.str_
    rw [e]
    exact ⟨by rw [← ll]; exact hl, rfl⟩
  | tup l =>
    cases h
    obtain ⟨a, vs, e, ta, q, _⟩ := r.tup_
    rw [e]
    refine .inr (.inl ⟨vs, ta.seq, ?_⟩)
    have := q.length
    cases l <;> cases vs <;> first | rfl | (simp at this)
  | lst l =>
    cases h
    obtain ⟨a, vs, e, ta, q, _⟩ := r.lst
    rw [e]
    refine .inl ⟨vs, SqL.of ta, ?_⟩
    have := q.length
    cases l <;> cases vs <;> first | rfl | (simp at this)
  | scr l => cases h
  | obj q l => cases h
/-- where a test is its value's truth -/
theorem Snd.plain {e : Expr} {a : E} (hK : X.K = c.K) (h : PE X e (tE c P a)) (hp : plainT e = true) : Snd c P X e a := by
  have hb : isBo e = false := by
    cases e <;> first | rfl | (exact absurd (show false = true from hp) Bool.false_ne_true)
  refine ⟨h, PT.imp (pt_truth h (plainT_ok hp)) ?_, fun z => absurd (hb ▸ z) Bool.false_ne_true⟩
  rintro σ H Q ⟨Z, env, t, k, er, ee, et, q⟩
  exact ⟨Z, env, t, er, ee, fun v H' s r => ⟨k, tru_rep hK r.1.one et, q H' s⟩⟩

/-! ### the forms, one by one -/
theorem slV_ok {o : Option Sl} {t : T} (h : slV o = some t) : o = some (.fz t) := by
  unfold slV at h
  split at h
  · cases h; rfl
  · cases h
theorem bnd {α β : Type} {o : Option α} {g : α → Option β} {b : β} (h : o.bind g = some b) : ∃ a, o = some a ∧ g a = some b := Option.bind_eq_some_iff.mp h
theorem mpd {α β : Type} {o : Option α} {g : α → β} {b : β} (h : o.map g = some b) : ∃ a, o = some a ∧ g a = b := Option.map_eq_some_iff.mp h
theorem s_v (ok : OkX c P B k f X) {i : Nat} {x : Str} {pos : Pos} (h : nmB f i x = true) : Snd c P X (.Name x pos) (.v i) := by
  refine .plain ok.hK (PE.imp (ok.nm h) ?_) rfl
  rintro σ H Q ⟨Z, env, t, er, ee, q⟩
  unfold E.ev at ee
  obtain ⟨v, h1, h2⟩ := er.sl i _ (slV_ok ee)
  exact ⟨v, h1, q v H (Same.refl H) ⟨h2, fun z => nomatch z⟩⟩
theorem s_p (ok : OkX c P B k f X) {i : Nat} {x : Str} {pos : Pos} (h : nmB f i x = true) : Snd c P X (.Name x pos) (.p i) := by
  refine .plain ok.hK (PE.imp (ok.nm h) ?_) rfl
  rintro σ H Q ⟨Z, env, t, er, ee, q⟩
  unfold E.ev slP at ee
  split at ee
  · rename_i t' e
    cases ee
    obtain ⟨v, h1, h2⟩ := er.sl i _ e
    exact ⟨v, h1, q v H (Same.refl H) ⟨.inl h2, fun z => nomatch z⟩⟩
  · rename_i t' e
    cases ee
    obtain ⟨v, h1, h2⟩ := er.sl i _ e
    exact ⟨v, h1, q v H (Same.refl H) ⟨h2, fun z => nomatch z⟩⟩
  · rename_i t' e
    cases ee
    obtain ⟨v, h1, h2⟩ := er.sl i _ e
    exact ⟨v, h1, q v H (Same.refl H) ⟨h2, fun z => nomatch z⟩⟩
  · cases ee
def kB : T → Const → Bool
  | .int i, .int j => decide (i = j)
  | .bl i, .bool j => i == j
  | .non, .none => true
  | .str i, .str j => decide (i = j) && (PyData.strOk i && decide (i.length ≤ LIM))
  | _, _ => false
theorem s_k (ok : OkX c P B k f X) {t : T} {z : Const} {j : Nat} {pos : Pos} (h : kB t z = true) : Snd c P X (.Constant z j pos) (.k t) := by
  refine .plain ok.hK ?_ rfl
  cases t <;> cases z <;> first | (exact absurd (show false = true from h) Bool.false_ne_true) | skip
  · refine PE.imp pe_non ?_
    rintro σ H Q ⟨Z, env, t, er, ee, q⟩
    unfold E.ev at ee; cases ee
    exact q _ _ (Same.refl H) (Res.of (Rep.non_iff.mpr rfl))
  · cases eq_of_beq h
    refine PE.imp pe_bl ?_
    rintro σ H Q ⟨Z, env, t, er, ee, q⟩
    unfold E.ev at ee; cases ee
    exact q _ _ (Same.refl H) (Res.of (Rep.bl_iff.mpr rfl))
  · cases of_decide_eq_true h
    refine PE.imp pe_int ?_
    rintro σ H Q ⟨Z, env, t, er, ee, q⟩
    unfold E.ev at ee; cases ee
    exact q _ _ (Same.refl H) (Res.of (Rep.int_iff.mpr rfl))
  · unfold kB at h
    simp only [Bool.and_eq_true, decide_eq_true_eq] at h
    obtain ⟨rfl, h2, h3⟩ := h
    refine PE.imp pe_str ?_
    rintro σ H Q ⟨Z, env, t, er, ee, q⟩
    unfold E.ev at ee; cases ee
    exact q _ _ (Same.refl H) (Res.of (Rep.str_iff.mpr ⟨rfl, h2, h3⟩))
theorem s_g (ok : OkX c P B k f X) {j : Nat} {x : Str} {pos : Pos} (hg : glB f x = true) (h : B.glb j = some x) : Snd c P X (.Name x pos) (.g j) := by
  obtain ⟨u, v, hm, r, q⟩ := ok.fct.gl j x h
  obtain ⟨g1, g2⟩ := ok.gl hg
  refine .plain ok.hK (PE.imp (pe_glob g1 hm r g2) ?_) rfl
  rintro σ H Q ⟨Z, env, t, er, ee, z⟩
  unfold E.ev at ee
  exact z _ _ (Same.refl H) (Res.of (q t ee H Z))
/-! lists of arguments -/
def tA (c : Cl) (P : Pg) (l : Es) (bs : List Bool) : TA := fun σ H Q => ∃ Z env ts, ER c H Z σ env ∧ l.ev P env = some ts ∧ ∀ vs H', Same H H' → RepA c H' Z bs ts vs → vs.length = ts.length → Q vs H'
def Es.flags : Es → List Bool
  | .nil => []
  | .cons e l => e.isP :: l.flags
theorem a_nil : PA X [] (tA c P .nil []) := by
  refine ⟨fun pos pins s σ H Q I h => pa_nil.run pos pins s σ H Q I ?_⟩
  obtain ⟨Z, env, ts, er, ee, q⟩ := h
  unfold Es.ev at ee; cases ee
  exact q [] H (Same.refl H) rfl rfl
theorem RepA.same (s : Same H H') : ∀ {bs : List Bool} {ts : List T} {vs : List V}, RepA c H Z bs ts vs → RepA c H' Z bs ts vs
  | _, [], _, h => h
  | bs, t :: ts, vs, ⟨v, r, e, h1, h2⟩ => ⟨v, r, e, h1.same s, RepA.same s h2⟩
theorem RepA.repL : ∀ {n : Nat} {ts : List T} {vs : List V}, RepA c H Z (List.replicate n false) ts vs → RepL c H Z ts vs
  | _, [], vs, h => by cases h; exact RepL.nil
  | 0, t :: ts, vs, ⟨v, r, e, h1, h2⟩ => by
    subst e
    exact RepL.cons h1 (RepA.repL (n := 0) h2)
  | n + 1, t :: ts, vs, ⟨v, r, e, h1, h2⟩ => by
    subst e
    exact RepL.cons h1 (RepA.repL (n := n) h2)
theorem RepA.one_ : ∀ {bs : List Bool} {ts : List T} {vs : List V}, RepA c H Z bs ts vs → RepA1 c H Z ts vs
  | _, [], vs, h => h
  | bs, t :: ts, vs, ⟨v, r, e, h1, h2⟩ => ⟨v, r, e, h1.one, RepA.one_ h2⟩
theorem a_cons {e : Expr} {es : List Expr} {a : E} {l : Es} (hn : noStar e = true) (h1 : Snd c P X e a) (h2 : PA X es (tA c P l l.flags)) : PA X (e :: es) (tA c P (.cons a l) (Es.cons a l).flags) := by
  refine ⟨fun pos pins s σ H Q I h => (pa_cons h1.pe h2 (starEach_cons hn)).run pos pins s σ H Q I ?_⟩
  obtain ⟨Z, env, ts, er, ee, q⟩ := h
  unfold Es.ev at ee
  obtain ⟨x, e1, ee⟩ := bnd ee
  obtain ⟨xs, e2, ee⟩ := mpd ee
  cases ee
  refine ⟨Z, env, x, er, e1, fun v H1 s1 r1 => ⟨Z, env, xs, er.same s1, e2, fun vs H2 s2 r2 n2 => ?_⟩⟩
  exact q (v :: vs) H2 (s1.trans s2) ⟨v, vs, rfl, r1.1.same s2, r2⟩ (by simp [n2])
def noP : Es → Bool
  | .nil => true
  | .cons e l => !e.isP && noP l
theorem noP_flags : ∀ {l : Es}, noP l = true → l.flags = List.replicate l.flags.length false
  | .nil, _ => rfl
  | .cons e l, h => by
    unfold noP at h
    rw [Bool.and_eq_true] at h
    have h1 : e.isP = false := by simpa using h.1
    unfold Es.flags
    rw [h1, List.length_cons, List.replicate_succ, ← noP_flags h.2]
theorem RepA.np {l : Es} {ts : List T} {vs : List V} (h : noP l = true) (r : RepA c H Z l.flags ts vs) : RepL c H Z ts vs := by
  rw [noP_flags h] at r
  exact RepA.repL r
end
end Fe

set_option Elab.async false
set_option linter.all false
set_option autoImplicit false
set_option maxRecDepth 100000
set_option maxHeartbeats 4000000
/-! Fe8: the forms of expressions. -/
namespace Fe
open PySem PySem.Spec PyProof.Rows L2
section
variable {X : Cx} {c : Cl} {P : Pg} {B : Tb} {k : Nat} {f : Cf} {Z : Zn} {H H' : Hp} {σ : L2.St} {env : En} {t : T} {e e1 e2 e3 : Expr} {a b d : E} {pos : Pos} {es : List Expr} {l : Es}

theorem ev_len : ∀ {l : Es} {ts : List T}, l.ev P env = some ts → ts.length = l.flags.length
  | .nil, ts, h => by unfold Es.ev at h; cases h; rfl
  | .cons a l, ts, h => by
    unfold Es.ev at h
    obtain ⟨x, _, h⟩ := bnd h
    obtain ⟨xs, h2, h⟩ := mpd h
    cases h
    unfold Es.flags
    rw [List.length_cons, List.length_cons, ev_len h2]
theorem lim_small {n : Nat} (h : decide (n ≤ 1000) = true) : n ≤ LIM := Nat.le_trans (of_decide_eq_true h) (by decide)
theorem line_small {n : Nat} (h : decide (n ≤ 1000) = true) : n ≤ sizeLine := by rw [← lim_line]; exact lim_small h
theorem s_tup (ok : OkX c P B k f X) {j : Nat} (hn : noP l = true) (hz : decide (l.flags.length ≤ 1000) = true) (h : PA X es (tA c P l l.flags)) : Snd c P X (.Tuple es j pos) (.tup l) := by
  refine .plain ok.hK (PE.imp (pe_tup h) ?_) rfl
  rintro σ H Q ⟨Z, env, t, er, ee, q⟩
  unfold E.ev at ee
  obtain ⟨ts, e1, e2⟩ := mpd ee
  cases e2
  refine ⟨Z, env, ts, er, e1, fun vs H1 s1 r n => ?_⟩
  have hl := ev_len e1
  exact ⟨by rw [n, hl]; exact line_small hz, KQ.tup (fin (e := .tup l) (n := false) rfl (fun z => nomatch z) s1 q) (er.same s1).dom (r.np hn) (by rw [hl]; exact lim_small hz)⟩
theorem s_lst (ok : OkX c P B k f X) (hn : noP l = true) (hz : decide (l.flags.length ≤ 1000) = true) (h : PA X es (tA c P l l.flags)) : Snd c P X (.List es pos) (.lst l) := by
  refine .plain ok.hK (PE.imp (pe_lst h) ?_) rfl
  rintro σ H Q ⟨Z, env, t, er, ee, q⟩
  unfold E.ev at ee
  obtain ⟨ts, e1, e2⟩ := mpd ee
  cases e2
  refine ⟨Z, env, ts, er, e1, fun vs H1 s1 r n => ?_⟩
  have hl := ev_len e1
  exact ⟨by rw [n, hl]; exact line_small hz, KQ.lst (fin (e := .lst l) (n := true) rfl (fun _ => rfl) s1 q) (er.same s1).dom (r.np hn) (by rw [hl]; exact lim_small hz)⟩
theorem s_bin (ok : OkX c P B k f X) {o : BOp} {op : Operator} (h : bopOk o op = true) (h1 : Snd c P X e1 a) (h2 : Snd c P X e2 b) : Snd c P X (.BinOp e1 op e2 pos) (.bin o a b) := by
  refine .plain ok.hK (PE.imp (pe_op (opT ok.hK h) h1.pe h2.pe) ?_) rfl
  rintro σ H Q ⟨Z, env, t, er, ee, q⟩
  unfold E.ev at ee
  obtain ⟨x, ea, ee⟩ := bnd ee
  obtain ⟨y, eb, ee⟩ := bnd ee
  exact two er ea eb fun v w H1 s r1 r2 => ⟨Z, x, y, t, (er.same s).dom, r1.one, r2.one, ee, fin rfl (fun _ => rfl) s q⟩
theorem s_neg (ok : OkX c P B k f X) (h1 : Snd c P X e1 a) : Snd c P X (.UnaryOp .USub e1 pos) (.neg a) := by
  refine .plain ok.hK (PE.imp (pe_un un_neg h1.pe) ?_) rfl
  rintro σ H Q ⟨Z, env, t, er, ee, q⟩
  unfold E.ev at ee
  obtain ⟨x, ea, ee⟩ := bnd ee
  unfold negT at ee
  split at ee <;> cases ee
  rename_i i
  exact one er ea fun v H1 s r => ⟨i, r.one.int_, q _ _ s (Res.of (Rep.int_iff.mpr rfl))⟩
theorem s_nt (ok : OkX c P B k f X) (h1 : Snd c P X e1 a) : Snd c P X (.UnaryOp .Not e1 pos) (.nt a) := by
  refine ⟨PE.imp (pe_notT h1.pe) ?_, PT.imp (pt_not h1.pt) ?_, fun z => absurd (show false = true from z) Bool.false_ne_true⟩
  · rintro σ H Q ⟨Z, env, t, er, ee, q⟩
    unfold E.ev at ee
    obtain ⟨x, ea, ee⟩ := bnd ee
    obtain ⟨b, e1, e2⟩ := mpd ee
    cases e2
    exact one er ea fun v H1 s r => ⟨b, tru_rep ok.hK r.one e1, q _ _ s (Res.of (Rep.bl_iff.mpr rfl))⟩
  · rintro σ H Q ⟨Z, env, t, k', er, ee, et, q⟩
    unfold E.ev at ee
    obtain ⟨x, ea, ee⟩ := bnd ee
    obtain ⟨b, e1, e2⟩ := mpd ee
    cases e2
    cases et
    exact ⟨Z, env, x, b, er, ea, e1, fun H1 s => q H1 s⟩
theorem cop_bl {o : COp} {x y t : T} (h : o.ap x y = some t) : ∃ b, t = .bl b := by
  unfold COp.ap at h
  split at h
  all_goals first
    | (cases h; done)
    | (cases h; exact ⟨_, rfl⟩)
    | (split at h <;> first | (cases h; exact ⟨_, rfl⟩) | (cases h))
    | (obtain ⟨_, _, h⟩ := mpd h; exact ⟨_, h.symm⟩)
theorem s_cmp (ok : OkX c P B k f X) {o : COp} {op : CmpOp} (h : copOk o op = true) (hs : noSet e2 = true) (h1 : Snd c P X e1 a) (h2 : Snd c P X e2 b) : Snd c P X (.Compare e1 [op] [e2] pos) (.cmp o a b) := by
  refine ⟨PE.imp (pe_cmpR (copT ok.hK ok.rm h) h1.pe h2.pe (marks_of hs)) ?_, PT.imp (pt_cmpR (copT ok.hK ok.rm h) h1.pe h2.pe (marks_of hs)) ?_, fun z => absurd (show false = true from z) Bool.false_ne_true⟩
  · rintro σ H Q ⟨Z, env, t, er, ee, q⟩
    unfold E.ev at ee
    obtain ⟨x, ea, ee⟩ := bnd ee
    obtain ⟨y, eb, ee⟩ := bnd ee
    exact two er ea eb fun v w H1 s r1 r2 => ⟨Z, x, y, t, (er.same s).dom, r1.one, r2.one, ee, fin rfl (fun _ => rfl) s q⟩
  · rintro σ H Q ⟨Z, env, t, k', er, ee, et, q⟩
    unfold E.ev at ee
    obtain ⟨x, ea, ee⟩ := bnd ee
    obtain ⟨y, eb, ee⟩ := bnd ee
    obtain ⟨b, rfl⟩ := cop_bl ee
    cases et
    exact two er ea eb fun v w H1 s r1 r2 => ⟨Z, x, y, _, (er.same s).dom, r1.one, r2.one, ee, fun v H2 s2 r _ => ⟨k', Rep.bl_iff.mp r, q H2 (s.trans s2)⟩⟩
theorem cmpK_bl {r : T} {z : Option T} {g : T → Option T} {t : T} (h : cmpK r z g = some t) : (r = .bl true ∧ ∃ y, z = some y ∧ g y = some t) ∨ (r = .bl false ∧ t = .bl false) := by
  unfold cmpK at h
  split at h
  · exact .inl ⟨rfl, bnd h⟩
  · cases h; exact .inr ⟨rfl, rfl⟩
  · cases h
theorem lastM {op op' : CmpOp} {e2 e3 : Expr} (h : noSet e3 = true) : lastMarks [op, op'] [e2, e3] = false := by
  show behindInMarks op' e3 = false
  exact marks_of h
theorem s_cmp2 (ok : OkX c P B k f X) {o o' : COp} {op op' : CmpOp} (h : copOk o op = true) (h' : copOk o' op' = true) (hs : noSet e3 = true) (h1 : Snd c P X e1 a) (h2 : Snd c P X e2 b) (h3 : Snd c P X e3 d) :
    Snd c P X (.Compare e1 [op, op'] [e2, e3] pos) (.cmp2 o o' a b d) := by
  refine ⟨PE.imp (pe_chain (copT ok.hK ok.rm h) (copT ok.hK ok.rm h') h1.pe h2.pe h3.pe (lastM hs)) ?_, PT.imp (pt_chain (copT ok.hK ok.rm h) (copT ok.hK ok.rm h') h1.pe h2.pe h3.pe (lastM hs)) ?_,
    fun z => absurd (show false = true from z) Bool.false_ne_true⟩
  · rintro σ H Q ⟨Z, env, t, er, ee, q⟩
    unfold E.ev at ee
    obtain ⟨x, ea, ee⟩ := bnd ee
    obtain ⟨y, eb, ee⟩ := bnd ee
    obtain ⟨r, e1, ee⟩ := bnd ee
    refine two er ea eb fun v w H1 s r1 r2 => ⟨Z, x, y, r, (er.same s).dom, r1.one, r2.one, e1, fun u H2 s2 ru _ => ?_⟩
    rcases cmpK_bl ee with ⟨rfl, z, ez, eg⟩ | ⟨rfl, rfl⟩
    · refine ⟨true, Rep.bl_iff.mp ru, ?_⟩
      rw [if_pos rfl]
      exact one (er.same (s.trans s2)) ez fun u3 H3 s3 r3 => ⟨Z, y, z, t, (er.same ((s.trans s2).trans s3)).dom, (r2.same (s2.trans s3)).one, r3.one, eg, fin rfl (fun _ => rfl) ((s.trans s2).trans s3) q⟩
    · refine ⟨false, Rep.bl_iff.mp ru, ?_⟩
      rw [if_neg Bool.false_ne_true]
      exact q _ _ (s.trans s2) (Res.of (Rep.bl_iff.mpr rfl))
  · rintro σ H Q ⟨Z, env, t, k', er, ee, et, q⟩
    unfold E.ev at ee
    obtain ⟨x, ea, ee⟩ := bnd ee
    obtain ⟨y, eb, ee⟩ := bnd ee
    obtain ⟨r, e1, ee⟩ := bnd ee
    refine two er ea eb fun v w H1 s r1 r2 => ⟨Z, x, y, r, (er.same s).dom, r1.one, r2.one, e1, fun u H2 s2 ru _ => ?_⟩
    rcases cmpK_bl ee with ⟨rfl, z, ez, eg⟩ | ⟨rfl, rfl⟩
    · refine ⟨true, Rep.bl_iff.mp ru, ?_⟩
      rw [if_pos rfl]
      obtain ⟨bb, rfl⟩ := cop_bl eg
      cases et
      exact one (er.same (s.trans s2)) ez fun u3 H3 s3 r3 => ⟨Z, y, z, _, (er.same ((s.trans s2).trans s3)).dom, (r2.same (s2.trans s3)).one, r3.one, eg, fun v4 H4 s4 r4 _ => ⟨k', Rep.bl_iff.mp r4, q H4 (((s.trans s2).trans s3).trans s4)⟩⟩
    · refine ⟨false, Rep.bl_iff.mp ru, ?_⟩
      rw [if_neg Bool.false_ne_true]
      cases et
      exact ⟨false, rfl, q _ (s.trans s2)⟩

/-! ### and, or -/
theorem cond_ok {α : Type} {k : Bool} {x y : α} : (bif k then x else y) = if k = true then x else y := by cases k <;> rfl
theorem resOf {x : E} (hp : a.isP = false) (hp' : x.isP = false) (hf' : x.isF = false) {t : T} {v : V} {H0 : Hp} (r : RepB a.isP c H' Z t v) : Res x c H0 H' Z t v := by
  rw [hp] at r
  exact Res.of r hp' hf'
/-- the value of a and b, by truth -/
theorem and_pe {x : E} (ok : OkX c P B k f X) (hp : a.isP = false) (hq : b.isP = false) (xp : x.isP = false) (xf : x.isF = false) (hx : ∀ env, x.ev P env = (a.ev P env).bind fun u => u.tru.bind fun k => bif k then b.ev P env else some u) :
    ∀ σ H Q, tE c P x σ H Q → tAndT X.K (tE c P a) (tE c P b) σ H Q := by
  rintro σ H Q ⟨Z, env, t, er, ee, q⟩
  rw [hx] at ee
  obtain ⟨u, ea, ee⟩ := bnd ee
  obtain ⟨kk, et, ee⟩ := bnd ee
  refine one er ea fun v H1 s r => ⟨kk, tru_rep ok.hK r.one et, ?_⟩
  cases kk with
  | true =>
    rw [if_pos rfl]
    exact ⟨Z, env, t, er.same s, ee, fun w H2 s2 r2 => q w H2 (s.trans s2) (resOf hq xp xf r2.1)⟩
  | false =>
    rw [if_neg Bool.false_ne_true]
    cases ee
    exact q v H1 s (resOf hp xp xf r)
theorem or_pe {x : E} (ok : OkX c P B k f X) (hp : a.isP = false) (hq : b.isP = false) (xp : x.isP = false) (xf : x.isF = false) (hx : ∀ env, x.ev P env = (a.ev P env).bind fun u => u.tru.bind fun k => bif k then some u else b.ev P env) :
    ∀ σ H Q, tE c P x σ H Q → tOrT X.K (tE c P a) (tE c P b) σ H Q := by
  rintro σ H Q ⟨Z, env, t, er, ee, q⟩
  rw [hx] at ee
  obtain ⟨u, ea, ee⟩ := bnd ee
  obtain ⟨kk, et, ee⟩ := bnd ee
  refine one er ea fun v H1 s r => ⟨kk, tru_rep ok.hK r.one et, ?_⟩
  cases kk with
  | false =>
    rw [if_neg Bool.false_ne_true]
    exact ⟨Z, env, t, er.same s, ee, fun w H2 s2 r2 => q w H2 (s.trans s2) (resOf hq xp xf r2.1)⟩
  | true =>
    rw [if_pos rfl]
    cases ee
    exact q v H1 s (resOf hp xp xf r)
theorem and_pt {x : E} (hx : ∀ env, x.ev P env = (a.ev P env).bind fun u => u.tru.bind fun k => bif k then b.ev P env else some u) :
    ∀ σ H Q, tTt c P x σ H Q → tAnd (tTt c P a) (tTt c P b) σ H Q := by
  rintro σ H Q ⟨Z, env, t, k', er, ee, et, q⟩
  rw [hx] at ee
  obtain ⟨u, ea, ee⟩ := bnd ee
  obtain ⟨kk, eu, ee⟩ := bnd ee
  refine ⟨Z, env, u, kk, er, ea, eu, fun H1 s => ?_⟩
  cases kk with
  | true =>
    rw [if_pos rfl]
    exact ⟨Z, env, t, k', er.same s, ee, et, fun H2 s2 => q H2 (s.trans s2)⟩
  | false =>
    rw [if_neg Bool.false_ne_true]
    cases ee
    rw [eu] at et; cases et
    exact q H1 s
theorem or_pt {x : E} (hx : ∀ env, x.ev P env = (a.ev P env).bind fun u => u.tru.bind fun k => bif k then some u else b.ev P env) :
    ∀ σ H Q, tTt c P x σ H Q → tOr (tTt c P a) (tTt c P b) σ H Q := by
  rintro σ H Q ⟨Z, env, t, k', er, ee, et, q⟩
  rw [hx] at ee
  obtain ⟨u, ea, ee⟩ := bnd ee
  obtain ⟨kk, eu, ee⟩ := bnd ee
  refine ⟨Z, env, u, kk, er, ea, eu, fun H1 s => ?_⟩
  cases kk with
  | false =>
    rw [if_neg Bool.false_ne_true]
    exact ⟨Z, env, t, k', er.same s, ee, et, fun H2 s2 => q H2 (s.trans s2)⟩
  | true =>
    rw [if_pos rfl]
    cases ee
    rw [eu] at et; cases et
    exact q H1 s
theorem s_and (ok : OkX c P B k f X) (hp : a.isP = false) (hq : b.isP = false) (h1 : Snd c P X e1 a) (h2 : Snd c P X e2 b) : Snd c P X (.BoolOp .And [e1, e2] pos) (.and a b) := by
  have hx : ∀ env, (E.and a b).ev P env = _ := fun env => by unfold E.ev; exact rfl
  have w : PW X (.BoolOp .And [e1, e2] pos) (tTt c P (.and a b)) := PW.imp (pw_and h1.pt (pw_and1 h2.pt)) (and_pt hx)
  exact ⟨PE.imp (pe_andT h1.pe (pe_one h2.pe)) (and_pe ok hp hq rfl rfl hx), w.pt, fun _ => w⟩
theorem s_andN (ok : OkX c P B k f X) (hp : a.isP = false) (hq : b.isP = false) (h1 : Snd c P X e1 a) (h2 : Snd c P X (.BoolOp .And (e2 :: es) pos) b) : Snd c P X (.BoolOp .And (e1 :: e2 :: es) pos) (.andN a b) := by
  have hx : ∀ env, (E.andN a b).ev P env = _ := fun env => by unfold E.ev; exact rfl
  have w : PW X (.BoolOp .And (e1 :: e2 :: es) pos) (tTt c P (.andN a b)) := PW.imp (pw_and h1.pt (h2.pw rfl)) (and_pt hx)
  exact ⟨PE.imp (pe_andT h1.pe h2.pe) (and_pe ok hp hq rfl rfl hx), w.pt, fun _ => w⟩
theorem s_or (ok : OkX c P B k f X) (hp : a.isP = false) (hq : b.isP = false) (h1 : Snd c P X e1 a) (h2 : Snd c P X e2 b) : Snd c P X (.BoolOp .Or [e1, e2] pos) (.or a b) := by
  have hx : ∀ env, (E.or a b).ev P env = _ := fun env => by unfold E.ev; exact rfl
  have w : PW X (.BoolOp .Or [e1, e2] pos) (tTt c P (.or a b)) := PW.imp (pw_or h1.pt (pw_or1 h2.pt)) (or_pt hx)
  exact ⟨PE.imp (pe_orT h1.pe (pe_one h2.pe)) (or_pe ok hp hq rfl rfl hx), w.pt, fun _ => w⟩
theorem s_orN (ok : OkX c P B k f X) (hp : a.isP = false) (hq : b.isP = false) (h1 : Snd c P X e1 a) (h2 : Snd c P X (.BoolOp .Or (e2 :: es) pos) b) : Snd c P X (.BoolOp .Or (e1 :: e2 :: es) pos) (.orN a b) := by
  have hx : ∀ env, (E.orN a b).ev P env = _ := fun env => by unfold E.ev; exact rfl
  have w : PW X (.BoolOp .Or (e1 :: e2 :: es) pos) (tTt c P (.orN a b)) := PW.imp (pw_or h1.pt (h2.pw rfl)) (or_pt hx)
  exact ⟨PE.imp (pe_orT h1.pe h2.pe) (or_pe ok hp hq rfl rfl hx), w.pt, fun _ => w⟩
theorem pt_ife (hc : PT X e1 (tTt c P d)) (ha : PT X e2 (tTt c P a)) (hb : PT X e3 (tTt c P b)) : PT X (.IfExp e1 e2 e3 pos) (fun σ H Q => tTt c P d σ H fun k H1 => if k = true then tTt c P a σ H1 Q else tTt c P b σ H1 Q) := by
  refine ⟨fun pins s σ H Q I h => ?_⟩
  rw [arm_isTrue_IfExp]
  refine wpAny_bind (thn (hc.run pins s σ H _ I h) fun k s1 ⟨H1, I1, q1⟩ => ?_)
  cases k with
  | true => exact ha.run pins s1 σ H1 Q I1 q1
  | false => exact hb.run pins s1 σ H1 Q I1 q1
theorem s_ife (ok : OkX c P B k f X) (hp : a.isP = false) (hq : b.isP = false) (h1 : Snd c P X e1 d) (h2 : Snd c P X e2 a) (h3 : Snd c P X e3 b) : Snd c P X (.IfExp e1 e2 e3 pos) (.ife d a b) := by
  refine ⟨PE.imp (pe_ifExp h1.pt h2.pe h3.pe) ?_, PT.imp (pt_ife h1.pt h2.pt h3.pt) ?_, fun z => absurd (show false = true from z) Bool.false_ne_true⟩
  · rintro σ H Q ⟨Z, env, t, er, ee, q⟩
    unfold E.ev at ee
    obtain ⟨u, ea, ee⟩ := bnd ee
    obtain ⟨kk, et, ee⟩ := bnd ee
    refine ⟨Z, env, u, kk, er, ea, et, fun H1 s => ?_⟩
    cases kk with
    | true =>
      rw [if_pos rfl]
      exact ⟨Z, env, t, er.same s, ee, fun w H2 s2 r2 => q w H2 (s.trans s2) (resOf hp rfl rfl r2.1)⟩
    | false =>
      rw [if_neg Bool.false_ne_true]
      exact ⟨Z, env, t, er.same s, ee, fun w H2 s2 r2 => q w H2 (s.trans s2) (resOf hq rfl rfl r2.1)⟩
  · rintro σ H Q ⟨Z, env, t, k', er, ee, et', q⟩
    unfold E.ev at ee
    obtain ⟨u, ea, ee⟩ := bnd ee
    obtain ⟨kk, et, ee⟩ := bnd ee
    refine ⟨Z, env, u, kk, er, ea, et, fun H1 s => ?_⟩
    cases kk with
    | true =>
      rw [if_pos rfl]
      exact ⟨Z, env, t, k', er.same s, ee, et', fun H2 s2 => q H2 (s.trans s2)⟩
    | false =>
      rw [if_neg Bool.false_ne_true]
      exact ⟨Z, env, t, k', er.same s, ee, et', fun H2 s2 => q H2 (s.trans s2)⟩

/-! ### subscripts, fields -/
theorem s_ix (ok : OkX c P B k f X) (hs : noSlice e2 = true) (h1 : Snd c P X e1 a) (h2 : Snd c P X e2 b) : Snd c P X (.Subscript e1 e2 pos) (.ix a b) := by
  refine .plain ok.hK (PE.imp (pe_ix (ixR ok.hK) h1.pe h2.pe (plainIx hs)) ?_) rfl
  rintro σ H Q ⟨Z, env, t, er, ee, q⟩
  unfold E.ev at ee
  obtain ⟨x, ea, ee⟩ := bnd ee
  obtain ⟨y, eb, ee⟩ := bnd ee
  exact two er ea eb fun v w H1 s r1 r2 => ⟨Z, x, y, t, (er.same s).dom, r1.one, r2.one, ee, fin (e := .ix a b) (n := false) rfl (fun z => nomatch z) s q⟩
def tO (P : Pg) (c : Cl) (o : Op) : TO := fun σ H Q => ∃ Z env r, ER c H Z σ env ∧ o.ev P env = some r ∧ ∀ H', Same H H' → Q r H'
theorem PO.imp {e : Option Expr} {t t' : TO} (h : PO X e t) (w : ∀ σ H Q, t' σ H Q → t σ H Q) : PO X e t' := ⟨fun pins s σ H Q I q => h.run pins s σ H Q I (w σ H Q q)⟩
theorem o_no : PO X none (tO P c .no) := by
  refine PO.imp po_none ?_
  rintro σ H Q ⟨Z, env, r, er, ee, q⟩
  unfold Op.ev at ee; cases ee
  exact q H (Same.refl H)
theorem o_so (h : Snd c P X e a) : PO X (some e) (tO P c (.so a)) := by
  refine PO.imp (po_some h.pe) ?_
  rintro σ H Q ⟨Z, env, r, er, ee, q⟩
  unfold Op.ev at ee
  obtain ⟨x, ea, ee⟩ := bnd ee
  unfold partT at ee
  split at ee <;> cases ee
  rename_i i
  exact one er ea fun v H1 s r => ⟨i, r.one.int_, q H1 s⟩
theorem s_sl (ok : OkX c P B k f X) {lo hi : Option Expr} {ol oh : Op} {p2 : Pos} (h1 : Snd c P X e1 a) (hl : PO X lo (tO P c ol)) (hh : PO X hi (tO P c oh)) : Snd c P X (.Subscript e1 (.Slice lo hi none p2) pos) (.sl a ol oh) := by
  refine .plain ok.hK (PE.imp (pe_slice (slR ok.hK) h1.pe hl hh) ?_) rfl
  rintro σ H Q ⟨Z, env, t, er, ee, q⟩
  unfold E.ev at ee
  obtain ⟨x, ea, ee⟩ := bnd ee
  obtain ⟨rl, el, ee⟩ := bnd ee
  obtain ⟨rh, eh, ee⟩ := bnd ee
  exact one er ea fun v H1 s r => ⟨Z, env, rl, er.same s, el, fun H2 s2 => ⟨Z, env, rh, er.same (s.trans s2), eh, fun H3 s3 =>
    ⟨Z, x, t, (er.same ((s.trans s2).trans s3)).dom, (r.same (s2.trans s3)).one, ee, fin rfl (fun _ => rfl) ((s.trans s2).trans s3) q⟩⟩⟩
theorem s_rev (ok : OkX c P B k f X) {j : Nat} {p1 p2 p3 : Pos} (h1 : Snd c P X e1 a) : Snd c P X (.Subscript e1 (.Slice none none (some (.UnaryOp .USub (.Constant (.int 1) j p1) p2)) p3) pos) (.rev a) := by
  refine .plain ok.hK (PE.imp (pe_revL h1.pe) ?_) rfl
  rintro σ H Q ⟨Z, env, t, er, ee, q⟩
  unfold E.ev at ee
  obtain ⟨x, ea, ee⟩ := bnd ee
  unfold revT at ee
  split at ee <;> cases ee
  rename_i l
  refine one er ea fun v H1 s r => ?_
  obtain ⟨p, vs, e, ta, rr, hl⟩ := r.one.lst
  exact ⟨p, vs, e, SqL.of ta, KQ.lst (fin (e := .rev a) (n := true) rfl (fun _ => rfl) s q) (er.same s).dom rr.reverse (by rw [List.length_reverse]; exact hl)⟩
theorem zip_lookup {x : Str} : ∀ {ns : List Str} {vs : List V} {j : Nat} {v : V}, ns.idxOf? x = some j → vs[j]? = some v → (ns.zip vs).lookup x = some v
  | [], _, _, _, h, _ => by simp at h
  | n :: ns, [], j, v, h, h2 => by simp at h2
  | n :: ns, w :: vs, j, v, h, h2 => by
    rw [List.idxOf?_cons] at h
    show List.lookup x ((n, w) :: ns.zip vs) = some v
    rw [List.lookup_cons]
    cases e : n == x with
    | true =>
      rw [e] at h
      cases h
      have e' : (x == n) = true := by rw [beq_iff_eq] at e ⊢; exact e.symm
      rw [e']
      simpa using h2
    | false =>
      rw [e] at h
      have e' : (x == n) = false := by
        rw [beq_eq_false_iff_ne] at e ⊢
        exact fun z => e z.symm
      rw [e']
      cases e3 : ns.idxOf? x with
      | none => rw [e3] at h; simp at h
      | some i =>
        rw [e3] at h
        have hj : i + 1 = j := by simpa using h
        subst hj
        exact zip_lookup e3 (by simpa using h2)
theorem zip_none {x : Str} : ∀ {ns : List Str} {vs : List V}, x ∉ ns → (ns.zip vs).lookup x = none
  | [], _, _ => rfl
  | n :: ns, [], _ => rfl
  | n :: ns, w :: vs, h => by
    show List.lookup x ((n, w) :: ns.zip vs) = none
    rw [List.lookup_cons]
    have e : (x == n) = false := by
      rw [beq_eq_false_iff_ne]
      exact fun z => h (by rw [z]; exact List.mem_cons_self)
    rw [e]
    exact zip_none fun z => h (List.mem_cons_of_mem _ z)
theorem idx_mem {x : Str} {ns : List Str} {j : Nat} (h : ns.idxOf? x = some j) : x ∈ ns := by
  have := List.isSome_idxOf? (l := ns) (a := x)
  rw [h] at this
  simpa using this
theorem s_fld (ok : OkX c P B k f X) {x : Str} (hs : noSup e1 = true) (h1 : Snd c P X e1 a) : Snd c P X (.Attribute e1 x pos) (.fld a x) := by
  refine .plain ok.hK (PE.imp (pe_fld h1.pe (base_of hs)) ?_) rfl
  rintro σ H Q ⟨Z, env, t, er, ee, q⟩
  unfold E.ev at ee
  obtain ⟨u, ea, ee⟩ := bnd ee
  unfold fldT at ee
  split at ee
  · rename_i o l
    obtain ⟨j, ej, el⟩ := bnd ee
    rw [ok.fct.fl] at ej
    refine one er ea fun v H1 s r => ?_
    obtain ⟨ad, dx, vs, ev, nz, ha, rr, hl⟩ := Rep.obj_iff.mp (r.one.non fun _ z => nomatch z)
    obtain ⟨w, hw, rw_⟩ := rr.get el
    obtain ⟨cl, na⟩ := ok.fct.fld o x (idx_mem ej)
    exact ⟨ad, _, dx, _, w, ev, ha, cl, na, zip_lookup ej hw, q w H1 s (Res.of rw_)⟩
  · cases ee

/-! ### calls -/
theorem RepL.rA : ∀ {ts : List T} {vs : List V}, RepL c H Z ts vs → RepA c H Z [] ts vs
  | [], vs, h => RepL.nil_iff.mp h
  | t :: ts, vs, h => by
    obtain ⟨v, r, e, h1, h2⟩ := RepL.cons_iff.mp h
    exact ⟨v, r, e, h1, RepL.rA h2⟩
/-- each flag no more than the other -/
def leB : List Bool → List Bool → Bool
  | [], _ => true
  | b :: bs, cs => (!b || cs.headD false) && leB bs cs.tail
theorem RepA.le : ∀ {bs cs : List Bool} {ts : List T} {vs : List V}, leB bs cs = true → bs.length = ts.length → RepA c H Z bs ts vs → RepA c H Z cs ts vs
  | _, _, [], vs, _, _, h => h
  | [], _, t :: ts, vs, _, hl, _ => by cases hl
  | b :: bs, cs, t :: ts, vs, hle, hl, ⟨v, r, e, h1, h2⟩ => by
    unfold leB at hle
    rw [Bool.and_eq_true] at hle
    refine ⟨v, r, e, ?_, RepA.le hle.2 (by simpa using hl) h2⟩
    cases hc : cs.headD false with
    | true => exact RepB.one h1
    | false =>
      have hb : b = false := by
        have := hle.1
        rw [hc] at this
        cases b with
        | true => cases this
        | false => rfl
      subst hb
      exact h1
/-- the call's reading -/
theorem call_rd (ok : OkX c P B k f X) {i n : Nat} {x : Str} {bw : List Bool} (hb : B.fns i = some (x, bw, n)) (hf : leB l.flags bw = true) (hn : decide (l.flags.length = n) = true) :
    ∀ σ H Q, tE c P (.call i l) σ H Q → tA c P l l.flags σ H fun vs H1 => spT c bw n (P.fn i) vs H1 Q E0 := by
  rintro σ H Q ⟨Z, env, t, er, ee, q⟩
  unfold E.ev at ee
  obtain ⟨ts, e1, e2⟩ := bnd ee
  refine ⟨Z, env, ts, er, e1, fun vs H1 s r nl => ⟨Z, ts, t, (er.same s).dom, RepA.le hf (ev_len e1).symm r, ?_, e2, fun v H2 s2 r2 => q v H2 (s.trans s2) (Res.of r2)⟩⟩
  rw [nl, ev_len e1]
  exact of_decide_eq_true hn
theorem s_call (ok : OkX c P B k f X) {i n : Nat} {x : Str} {bw : List Bool} {p : Pos} (hg : glB f x = true) (hb : B.fns i = some (x, bw, n)) (hf : leB l.flags bw = true) (hn : decide (l.flags.length = n) = true) (hs : (e :: es).all noStar = true)
    (h : PA X (e :: es) (tA c P l l.flags)) : Snd c P X (.Call (.Name x p) (e :: es) [] pos) (.call i l) := by
  obtain ⟨ad, fd, ps, hm, kp, bd, F⟩ := ok.fct.fns i x bw n hb
  obtain ⟨g1, g2⟩ := ok.gl hg
  rw [List.all_cons, Bool.and_eq_true] at hs
  exact .plain ok.hK (PE.imp (e_call F ok.rm g1 hm kp bd pass0 h g2 (starEach_cons hs.1) (star_any hs.2)) (call_rd ok hb hf hn)) rfl
end
end Fe

set_option Elab.async false
set_option linter.all false
set_option autoImplicit false
set_option maxRecDepth 100000
set_option maxHeartbeats 4000000
/-! Fe9: calls; what is walked. -/
namespace Fe
open PySem PySem.Spec PyProof.Rows L2
section
variable {X : Cx} {c : Cl} {P : Pg} {B : Tb} {k : Nat} {f : Cf} {Z : Zn} {H H' : Hp} {σ : L2.St} {env : En} {t : T} {e e1 e2 e3 : Expr} {a b d : E} {pos p apos : Pos} {es : List Expr} {l : Es} {x m : Str}

theorem s_call0 (ok : OkX c P B k f X) {i : Nat} {bw : List Bool} (hg : glB f x = true) (hb : B.fns i = some (x, bw, 0)) : Snd c P X (.Call (.Name x p) [] [] pos) (.call i .nil) := by
  obtain ⟨ad, fd, ps, hm, kp, bd, F⟩ := ok.fct.fns i x bw 0 hb
  obtain ⟨g1, g2⟩ := ok.gl hg
  refine .plain ok.hK (PE.imp (e_call0 F ok.rm g1 hm kp bd pass0 g2) ?_) rfl
  rintro σ H Q ⟨Z, env, t, er, ee, q⟩
  unfold E.ev at ee
  obtain ⟨ts, e1, e2⟩ := bnd ee
  unfold Es.ev at e1; cases e1
  exact ⟨Z, [], t, er.dom, rfl, rfl, e2, fun v H2 s2 r2 => q v H2 s2 (Res.of r2)⟩
theorem meth_rd (ok : OkX c P B k f X) {q i n : Nat} {fs : List T} (hP : P.mth q m = some i) (hn : noP l = true) (nf : m ∉ c.fl q) (hl : ∀ ts t, P.fn i ts = some t → ts.length = n) {σ : L2.St} {H : Hp} {Q : VK} {Z : Zn} {env : En} {t : T} {ts : List T}
    (er : ER c H Z σ env) (ea : a.ev P env = some (.obj q fs)) (el : l.ev P env = some ts) (eq : P.fn i (.obj q fs :: ts) = some t) (k : ∀ v H', Same H H' → Res (.meth a m l) c H H' Z t v → Q v H') :
    rMeth (c.cl q) m (spT c [] n (P.fn i)) E0 (tE c P a) (tA c P l l.flags) σ H Q := by
  refine one er ea fun v H1 s r => ?_
  have ro := r.one.non fun _ z => nomatch z
  obtain ⟨ad, dx, vs, ev, nz, ha, rr, hll⟩ := Rep.obj_iff.mp ro
  refine ⟨ad, dx, _, ev, ha, zip_none nf, Z, env, ts, er.same s, el, fun ws H2 s2 r2 n2 => ?_⟩
  have r3 := r2.np hn
  refine ⟨Z, .obj q fs :: ts, t, (er.same (s.trans s2)).dom, RepL.rA (RepL.cons (Rep.kp (.same s2) _ _ ro) r3), ?_, eq, fun u H3 s3 r4 => k u H3 ((s.trans s2).trans s3) (Res.of r4)⟩
  have := hl _ _ eq
  rw [List.length_cons] at this ⊢
  rw [n2]; exact this
theorem s_meth (ok : OkX c P B k f X) (hs : noSup e1 = true) (hz : decide ((e :: es).length < 29) = true) (hline : (apos.endLine == pos.line) = true) (hn : noP l = true) (hst : (e :: es).all noStar = true)
    (h1 : Snd c P X e1 a) (h : PA X (e :: es) (tA c P l l.flags)) : Snd c P X (.Call (.Attribute e1 m apos) (e :: es) [] pos) (.meth a m l) := by
  have hst' := hst
  rw [List.all_cons, Bool.and_eq_true] at hst'
  refine .plain ok.hK ⟨fun pins s σ H Q I hq => ?_⟩ rfl
  obtain ⟨Z, env, t, er, ee, q⟩ := hq
  unfold E.ev at ee
  obtain ⟨u, ea, ee⟩ := bnd ee
  obtain ⟨ts, el, ee⟩ := bnd ee
  cases u with
  | obj o fs =>
    unfold methT at ee
    obtain ⟨i, ei, eq⟩ := bnd ee
    obtain ⟨n, ad, fd, ps, cl, mt, nf, bd, F, hl⟩ := ok.fct.mth o m i ei
    exact (e_meth h1.pe cl mt F ok.rm bd pass0 h (starEach_cons hst'.1) (star_any hst'.2) (mcall hs hst hz hline)).run pins s σ H Q I (meth_rd ok ei hn nf hl er ea el eq q)
  | _ => cases ee
theorem s_meth0 (ok : OkX c P B k f X) (hs : noSup e1 = true) (hline : (apos.endLine == pos.line) = true) (h1 : Snd c P X e1 a) : Snd c P X (.Call (.Attribute e1 m apos) [] [] pos) (.meth a m .nil) := by
  refine .plain ok.hK ⟨fun pins s σ H Q I hq => ?_⟩ rfl
  obtain ⟨Z, env, t, er, ee, q⟩ := hq
  unfold E.ev at ee
  obtain ⟨u, ea, ee⟩ := bnd ee
  obtain ⟨ts, el, ee⟩ := bnd ee
  cases u with
  | obj o fs =>
    unfold methT at ee
    obtain ⟨i, ei, eq⟩ := bnd ee
    obtain ⟨n, ad, fd, ps, cl, mt, nf, bd, F, hl⟩ := ok.fct.mth o m i ei
    refine (e_meth0 h1.pe cl mt F ok.rm bd pass0 (mcall hs rfl rfl hline)).run pins s σ H Q I ?_
    have z := meth_rd (l := .nil) ok ei rfl nf hl er ea el eq q
    obtain ⟨Z', env', t', er', ee', z⟩ := z
    refine ⟨Z', env', t', er', ee', fun v H1 s1 r1 => ?_⟩
    obtain ⟨ad', dx', fs', e1', h1', l1', z⟩ := z v H1 s1 r1
    refine ⟨ad', dx', fs', e1', h1', l1', ?_⟩
    obtain ⟨Z2, env2, ts2, er2, ee2, z⟩ := z
    unfold Es.ev at ee2; cases ee2
    exact z [] H1 (Same.refl H1) rfl rfl
  | _ => cases ee
/-- C(e, ..) of a class by values -/
theorem e_cls {C : Addr} {r : List V → Hp → VK → Prop} {tt : TA} (hc : CallR X (.ref C) r) (hg : Gl X x) (hm : X.mg x = some (.ref C)) (kp : PySem.W.keepIn X.K (.ref C) = true) (ha : PA X (e :: es) tt) (hdb : (x == ("__debug__" : Str)) = false)
    (he : starEach (e :: es) X.env = (false, eval e X.env) :: starEach es X.env) (hpl : (backTo pos (starEach es X.env)).any (·.1) = false) : PE X (.Call (.Name x p) (e :: es) [] pos) (fun σ H Q => tt σ H fun vs H1 => r vs H1 Q) :=
  ⟨fun pins s σ H Q I h => wpAny_Call_Name_kw (ld_glob I hg hm (PySem.W.callWith_K (h₀ := X.base) I.ok.mod.kin kp (thn (ha.run pos pins s σ H _ I h) fun us s1 ⟨vs, H1, I1, r1, q⟩ => ⟨I1.kIn, hc pins s1 σ H1 vs us Q I1 r1 q⟩) he hpl) hdb)⟩
theorem e_cls0 {C : Addr} {r : List V → Hp → VK → Prop} (hc : CallR X (.ref C) r) (hg : Gl X x) (hm : X.mg x = some (.ref C)) (kp : PySem.W.keepIn X.K (.ref C) = true) (hdb : (x == ("__debug__" : Str)) = false) :
    PE X (.Call (.Name x p) [] [] pos) (fun σ H Q => r [] H Q) :=
  ⟨fun pins s σ H Q I h => wpAny_Call_Name_kw (ld_glob I hg hm (PySem.W.callWith_K0 I.kIn kp (hc pins s σ H [] [] Q I .nil h)) hdb)⟩
theorem s_mk (ok : OkX c P B k f X) {q : Nat} (hg : glB f x = true) (hb : B.cls q = some x) (hn : noP l = true) (hst : (e :: es).all noStar = true) (h : PA X (e :: es) (tA c P l l.flags)) : Snd c P X (.Call (.Name x p) (e :: es) [] pos) (.mk q l) := by
  rw [List.all_cons, Bool.and_eq_true] at hst
  obtain ⟨hm, kp, hr⟩ := ok.fct.made q x hb
  obtain ⟨g1, g2⟩ := ok.gl hg
  refine .plain ok.hK (PE.imp (e_cls (hr X rfl rfl rfl rfl rfl ok.rm) g1 hm kp h g2 (starEach_cons hst.1) (star_any hst.2)) ?_) rfl
  rintro σ H Q ⟨Z, env, t, er, ee, q⟩
  unfold E.ev at ee
  obtain ⟨ts, e1, e2⟩ := bnd ee
  obtain ⟨fs, e3, e4⟩ := mpd e2
  cases e4
  exact ⟨Z, env, ts, er, e1, fun vs H1 s r n => ⟨Z, ts, fs, (er.same s).dom, r.np hn, e3, fun v H2 s2 r2 => q v H2 (s.trans s2) (Res.of r2)⟩⟩
theorem s_mk0 (ok : OkX c P B k f X) {q : Nat} (hg : glB f x = true) (hb : B.cls q = some x) : Snd c P X (.Call (.Name x p) [] [] pos) (.mk q .nil) := by
  obtain ⟨hm, kp, hr⟩ := ok.fct.made q x hb
  obtain ⟨g1, g2⟩ := ok.gl hg
  refine .plain ok.hK (PE.imp (e_cls0 (hr X rfl rfl rfl rfl rfl ok.rm) g1 hm kp g2) ?_) rfl
  rintro σ H Q ⟨Z, env, t, er, ee, q⟩
  unfold E.ev at ee
  obtain ⟨ts, e1, e2⟩ := bnd ee
  obtain ⟨fs, e3, e4⟩ := mpd e2
  cases e4
  unfold Es.ev at e1; cases e1
  exact ⟨Z, [], fs, er.dom, RepL.nil, e3, fun v H2 s2 r2 => q v H2 s2 (Res.of r2)⟩
theorem Bi.fr (b : Bi) : b.nm ∈ FREE := by
  cases b with
  | isI cs => show ("isinstance" : Str) ∈ FREE; decide +kernel
  | _ => decide +kernel
theorem Bi.kind (b : Bi) : (∃ id, b.val = .builtin id) ∨ ∃ T, b.val = .type T := by
  cases b <;> first | exact .inl ⟨_, rfl⟩ | exact .inr ⟨_, rfl⟩
theorem bi_isF {b : Bi} {l : Es} (h : (E.bi b l).isF = true) : (b.nm == "list") = true := by
  cases b <;> first | (cases h; done) | decide +kernel
theorem s_bi (ok : OkX c P B k f X) {b : Bi} (pl : b.pl = true) (hg : glB f b.nm = true) (hst : (e :: es).all noStar = true) (h : PA X (e :: es) (tA c P l l.flags)) : Snd c P X (.Call (.Name b.nm p) (e :: es) [] pos) (.bi b l) := by
  rw [List.all_cons, Bool.and_eq_true] at hst
  obtain ⟨g1, g2⟩ := ok.gl hg
  have hm := ok.fct.free b.nm b.fr
  have hb := biT ok.hK ok.calm pl
  have rd : ∀ σ H Q, tE c P (.bi b l) σ H Q → tCB (rB c (b.nm == "list") b) (tA c P l l.flags) σ H Q := by
    rintro σ H Q ⟨Z, env, t, er, ee, q⟩
    unfold E.ev at ee
    obtain ⟨ts, e1, e2⟩ := bnd ee
    exact ⟨Z, env, ts, er, e1, fun vs H1 s r n => ⟨Z, ts, t, (er.same s).dom, r.one_, e2, fin (e := .bi b l) rfl bi_isF s q⟩⟩
  rcases b.kind with ⟨id, hv⟩ | ⟨T, hv⟩
  · rw [hv] at hb
    exact .plain ok.hK (PE.imp (pe_callB hb g1 hm (by rw [b.boot, hv]) h b.nn b.nd (starEach_cons hst.1) (star_any hst.2)) rd) rfl
  · rw [hv] at hb
    exact .plain ok.hK (PE.imp (pe_callTy hb g1 hm (by rw [b.boot, hv]) h b.nn b.nd (starEach_cons hst.1) (star_any hst.2)) rd) rfl
theorem bm_ty {b : Bm} {x t : T} {ts : List T} {v : V} {K : PySem.W.Frag} (h : b.ap x ts = some t) (r : Rep1 c H Z x v) : tyV K b.ty v H := by
  unfold Bm.ap at h
  split at h
  · obtain ⟨a, vs, rfl, ta, _⟩ := r.lst
    exact .inl ⟨rfl, vs, SqL.of ta⟩
  · obtain ⟨a, vs, rfl, ta, _⟩ := r.lst
    exact .inl ⟨rfl, vs, SqL.of ta⟩
  · rw [r.str_.1]; rfl
  · rw [r.str_.1]; rfl
  · rw [r.str_.1]; rfl
  · rw [r.str_.1]; rfl
  · cases h
theorem bm_ty' {b : Bm} {x t : T} {ts : List T} {v : V} (h : b.ap x ts = some t) (hK : X.K = c.K) (r : Rep1 c H Z x v) : tyV X.K b.ty v H := bm_ty h r
theorem s_bm (ok : OkX c P B k f X) {b : Bm} (hs : noSup e1 = true) (hz : decide ((e :: es).length < 29) = true) (hline : (apos.endLine == pos.line) = true) (hst : (e :: es).all noStar = true) (h1 : Snd c P X e1 a)
    (h : PA X (e :: es) (tA c P l l.flags)) : Snd c P X (.Call (.Attribute e1 b.nm apos) (e :: es) [] pos) (.bm b a l) := by
  obtain ⟨f1, f2, f3⟩ := b.facts
  have hst' := hst
  rw [List.all_cons, Bool.and_eq_true] at hst'
  have few : ((backTo pos (starEach (e :: es) X.env)).all (fun x => !x.1) && (backToKw pos (keywordEach [] X.env)).all (fun x => x.1.isSome)
      && decide ((e :: es).length + ([] : List Keyword).length + (if ([] : List Keyword).isEmpty then 0 else 1) < 30)) = true := by
    rw [star_all hst]
    have : (e :: es).length < 29 := of_decide_eq_true hz
    show (true && true && decide ((e :: es).length + 0 + 0 < 30)) = true
    rw [decide_eq_true (by omega)]; rfl
  refine .plain ok.hK (PE.imp (pe_bm f1 f2 f3 (bmT ok.hK ok.rm) h1.pe h (base_of hs) few hline (starEach_cons hst'.1) (star_any hst'.2)) ?_) rfl
  rintro σ H Q ⟨Z, env, t, er, ee, q⟩
  unfold E.ev at ee
  obtain ⟨x, ea, ee⟩ := bnd ee
  obtain ⟨ts, el, ee⟩ := bnd ee
  exact one er ea fun v H1 s r => ⟨bm_ty ee r.one, Z, env, ts, er.same s, el, fun vs H2 s2 r2 n => ⟨Z, x, ts, t, (er.same (s.trans s2)).dom, (r.same s2).one, r2.one_, ee, fin (e := .bm b a l) (n := true) rfl (fun _ => rfl) (s.trans s2) q⟩⟩
theorem s_bm0 (ok : OkX c P B k f X) {b : Bm} (hs : noSup e1 = true) (hline : (apos.endLine == pos.line) = true) (h1 : Snd c P X e1 a) : Snd c P X (.Call (.Attribute e1 b.nm apos) [] [] pos) (.bm b a .nil) := by
  obtain ⟨f1, f2, f3⟩ := b.facts
  refine .plain ok.hK (PE.imp (pe_bm0 f1 f2 f3 (bmT ok.hK ok.rm) h1.pe (base_of hs) hline) ?_) rfl
  rintro σ H Q ⟨Z, env, t, er, ee, q⟩
  unfold E.ev at ee
  obtain ⟨x, ea, ee⟩ := bnd ee
  obtain ⟨ts, el, ee⟩ := bnd ee
  unfold Es.ev at el; cases el
  exact one er ea fun v H1 s r => ⟨bm_ty ee r.one, Z, x, [], t, (er.same s).dom, r.one, rfl, ee, fin (e := .bm b a .nil) (n := true) rfl (fun _ => rfl) s q⟩

/-! ### a written dict of texts, asked at once -/
def allK : List (Option Expr) → List Expr → List (Str × Str) → Bool
  | [], [], [] => true
  | some (.Constant (.str s) _ _) :: ks, .Constant (.str z) _ _ :: vs, (a, b) :: r => decide (s = a) && (decide (z = b) && ((PyData.strOk b && decide (b.length ≤ LIM)) && allK ks vs r))
  | _, _, _ => false
def trs : List (Str × Str) → List (TE × TE)
  | [] => []
  | (a, b) :: r => (tC (.str a), tC (.str b)) :: trs r
theorem pps_all : ∀ {ks : List (Option Expr)} {vs : List Expr} {r : List (Str × Str)}, allK ks vs r = true → PPs X pos ks vs (trs r) ∧ ks.all (·.isSome) = true ∧ ks.length = vs.length ∧ ks.length = r.length ∧ ∀ q ∈ r, PyData.strOk q.2 = true ∧ q.2.length ≤ LIM
  | [], [], [], _ => ⟨pps_nil, rfl, rfl, rfl, fun _ h => nomatch h⟩
  | some (.Constant (.str s) _ _) :: ks, .Constant (.str z) _ _ :: vs, (a, b) :: r, h => by
    unfold allK at h
    simp only [Bool.and_eq_true, decide_eq_true_eq] at h
    obtain ⟨rfl, rfl, ⟨h1, h2⟩, h3⟩ := h
    obtain ⟨p1, p2, p3, p4, p5⟩ := pps_all h3
    exact ⟨pps_cons pe_str pe_str p1, p2, by simp [p3], by simp [p4], fun q m => by
      rcases List.mem_cons.mp m with e | m
      · rw [e]; exact ⟨h1, h2⟩
      · exact p5 q m⟩
theorem trs_rd : ∀ {r : List (Str × Str)} {σ : L2.St} {H : Hp} {Q : List (V × V) → Hp → Prop}, Q (r.map fun q => (V.str q.1, V.str q.2)) H → tPairs (trs r) σ H Q
  | [], _, _, _, h => h
  | (a, b) :: r, σ, H, Q, h => by
    show tPairs ((tC (.str a), tC (.str b)) :: trs r) σ H Q
    exact trs_rd (r := r) h
theorem putK_new {kvs : List (Key × V)} {k : Key} {v : V} (h : k ∉ kvs.map (·.1)) : putK kvs k v = kvs ++ [(k, v)] := by
  unfold putK
  rw [if_neg]
  intro q
  obtain ⟨x, m, e⟩ := List.any_eq_true.mp q
  exact h (List.mem_map.mpr ⟨x, m, of_decide_eq_true e⟩)
theorem mergeK_nd : ∀ {more kvs : List (Key × V)}, ((kvs ++ more).map (·.1)).Nodup → mergeK kvs more = kvs ++ more
  | [], kvs, _ => by rw [List.append_nil]; rfl
  | (k, v) :: more, kvs, h => by
    show mergeK (putK kvs k v) more = _
    have hk : k ∉ kvs.map (·.1) := by
      rw [List.map_append, List.nodup_append] at h
      intro m
      exact h.2.2 k m k (by simp) rfl
    rw [putK_new hk, mergeK_nd (by simpa using h)]
    simp
theorem valV_look {s z : Str} : ∀ {r : List (Str × Str)}, r.lookup s = some z → valV (r.map fun q => ((Sum.inr q.1 : Key), V.str q.2)) (Sum.inr s) = some (.str z)
  | [], h => by cases h
  | (a, b) :: r, h => by
    rw [List.lookup_cons] at h
    unfold valV
    rw [List.map_cons, List.find?_cons]
    cases e : s == a with
    | true =>
      rw [e] at h; cases h
      have : decide ((Sum.inr a : Key) = Sum.inr s) = true := decide_eq_true (by rw [beq_iff_eq.mp e])
      dsimp only
      rw [this]; rfl
    | false =>
      rw [e] at h
      have : decide ((Sum.inr a : Key) = Sum.inr s) = false := decide_eq_false fun q => by
        rw [beq_eq_false_iff_ne] at e
        exact e (Sum.inr.inj q).symm
      dsimp only
      rw [this]
      exact valV_look h
theorem look_mem {s z : Str} : ∀ {r : List (Str × Str)}, r.lookup s = some z → ∃ q ∈ r, q.2 = z
  | [], h => by cases h
  | (a, b) :: r, h => by
    rw [List.lookup_cons] at h
    cases e : s == a with
    | true => rw [e] at h; cases h; exact ⟨_, List.mem_cons_self, rfl⟩
    | false =>
      rw [e] at h
      obtain ⟨q, m, e⟩ := look_mem h
      exact ⟨q, List.mem_cons_of_mem _ m, e⟩
theorem s_dsel (ok : OkX c P B k f X) {ks : List (Option Expr)} {vs : List Expr} {kvs : List (Str × Str)} {p2 : Pos} (ha : allK ks vs kvs = true) (h0 : kvs.isEmpty = false) (h15 : decide (kvs.length ≤ 15) = true)
    (nd : decide (kvs.map (·.1)).Nodup = true) (hs : noSlice e1 = true) (h1 : Snd c P X e1 a) : Snd c P X (.Subscript (.Dict ks vs p2) e1 pos) (.dsel kvs a) := by
  obtain ⟨p1, q1, q3, q4, q5⟩ := pps_all (X := X) (pos := p2) ha
  have hk0 : ks ≠ [] := fun e => by
    rw [e] at q4
    cases kvs with
    | nil => cases h0
    | cons _ _ => cases q4
  have hu : X.A.units + 1 < cLine := by have := ok.rm.r.un; omega
  refine .plain ok.hK (PE.imp (pe_dget hu (pe_disp p1 q1 q3 hk0 (by rw [q4]; exact of_decide_eq_true h15)) h1.pe (fun _ _ => by cases e1 <;> first | rfl | (exact absurd (show false = true from hs) Bool.false_ne_true))) ?_) rfl
  rintro σ H Q ⟨Z, env, t, er, ee, q⟩
  unfold E.ev at ee
  obtain ⟨x, ea, ee⟩ := bnd ee
  unfold dselT at ee
  split at ee
  · rename_i s
    obtain ⟨z, ez, e4⟩ := mpd ee
    cases e4
    intro p hp
    refine trs_rd ⟨upd_same, kvs.map fun q => ((Sum.inr q.1 : Key), V.str q.2), by rw [List.map_map]; rfl, by rw [List.length_map]; exact of_decide_eq_true h15, ?_⟩
    have em : mergeK [] (kvs.map fun q => ((Sum.inr q.1 : Key), V.str q.2)) = kvs.map fun q => ((Sum.inr q.1 : Key), V.str q.2) := by
      rw [mergeK_nd]
      · rfl
      · rw [List.nil_append, List.map_map]
        have hnd : (kvs.map (·.1)).Nodup := of_decide_eq_true nd
        have : (kvs.map ((fun x : Key × V => x.1) ∘ fun q => ((Sum.inr q.1 : Key), V.str q.2))) = (kvs.map (·.1)).map (fun s => (Sum.inr s : Key)) := by rw [List.map_map]; rfl
        rw [this]
        exact List.Pairwise.map _ (fun a b h e => h (Sum.inr.inj e)) hnd
    rw [em, upd_upd]
    have s1 : Same H (upd H p (.dK (kvs.map fun q => ((Sum.inr q.1 : Key), V.str q.2)))) := same_upd hp
    refine one (er.same s1) ea fun v H1 s2 r => ?_
    obtain ⟨rfl, _⟩ := r.one.str_
    refine ⟨p, .str z, rfl, ?_, ?_⟩
    · have := DGet.k (k := Sum.inr s) (s2 _ _ (upd_same (H := H) (a := p) (o := .dK (kvs.map fun q => ((Sum.inr q.1 : Key), V.str q.2)))))
      rw [valV_look ez] at this
      exact this
    · obtain ⟨q6, q7⟩ : PyData.strOk z = true ∧ z.length ≤ LIM := by
        have := look_mem ez
        obtain ⟨w, m, e⟩ := this
        rw [← e]; exact q5 w m
      exact q _ _ (s1.trans s2) (Res.of (Rep.str_iff.mpr ⟨rfl, q6, q7⟩))
  · cases ee
end
end Fe

set_option Elab.async false
set_option linter.all false
set_option autoImplicit false
set_option maxRecDepth 100000
set_option maxHeartbeats 4000000
/-! Fe10: what is walked; targets; comprehensions. -/
namespace Fe
open PySem PySem.Spec PyProof.Rows L2
abbrev FT := List (Bool × V × T)
section
variable {X : Cx} {c : Cl} {P : Pg} {B : Tb} {k : Nat} {f : Cf} {Z Z' : Zn} {H H' H1 : Hp} {σ : L2.St} {env : En} {t : T} {e e1 e2 e3 tg : Expr} {a b d : E} {pos p apos : Pos} {es : List Expr} {l : Es} {x m : Str}

def FOk (c : Cl) (H : Hp) (Z : Zn) (F : FT) : Prop := ∀ p ∈ F, RepB p.1 c H Z p.2.2 p.2.1
structure ItOk (c : Cl) (J : L2.It) (F : FT) (ts : List T) : Prop where
  go : ∀ (i : Nat) (H : Hp) (Z : Zn) (t : T), Dom Z H → FOk c H Z F → ts[i]? = some t → J.go i H ∧ ∀ x H', J.yld i H x H' → Same H H' ∧ Rep c H' Z t x
  stop : ∀ (H : Hp) (Z : Zn), FOk c H Z F → J.stop ts.length H
  len : ts.length ≤ LIM
/-- something in it is looked at alone -/
def It.pk : It → Bool
  | .it e => e.isP
  | .rng _ => false
  | .rng2 _ _ => false
  | .enu e => e.isP
  | .zip a b => a.isP || b.isP
  | .rvd e => e.isP
def tI (c : Cl) (P : Pg) (it : It) : TI := fun σ H R => ∃ Z env ts, ER c H Z σ env ∧ it.ev P env = some ts ∧
  ∀ J H' F, Same H H' → FOk c H' Z F → (it.pk = false → ∀ p ∈ F, p.1 = false) → ItOk c J F ts → R J H'
theorem FOk.one {b : Bool} {v : V} (h : RepB b c H Z t v) : FOk c H Z [(b, v, t)] := fun p m => by
  rw [List.mem_singleton.mp m]; exact h
theorem FOk.nil : FOk c H Z [] := fun p m => nomatch m
theorem itl_ok {K : PySem.W.Frag} {a : Addr} {b : Bool} {l : List T} (hl : l.length ≤ LIM) : ItOk c (Itl K a) [(b, .ref a, .lst l)] l where
  go := fun i H Z t d h ht => by
    obtain ⟨a', vs, e, ha, r, _⟩ := (h _ List.mem_cons_self).one.lst
    cases e
    obtain ⟨v, hv, rv⟩ := r.get ht
    refine ⟨⟨vs, v, SqL.of ha, hv⟩, ?_⟩
    rintro x H' ⟨rfl, hx⟩
    have := hx vs (SqL.of ha)
    rw [hv] at this; cases this
    exact ⟨Same.refl _, rv⟩
  stop := fun H Z h => by
    obtain ⟨a', vs, e, ha, r, _⟩ := (h _ List.mem_cons_self).one.lst
    cases e
    exact ⟨vs, SqL.of ha, Nat.le_of_eq r.length⟩
  len := hl
theorem itt_ok {a : Addr} {b : Bool} {l : List T} (hl : l.length ≤ LIM) : ItOk c (Itt c.K a) [(b, .ref a, .tup l)] l where
  go := fun i H Z t d h ht => by
    obtain ⟨a', vs, e, ha, r, _⟩ := (h _ List.mem_cons_self).one.tup_
    cases e
    obtain ⟨v, hv, rv⟩ := r.get ht
    refine ⟨⟨vs, v, ha.seq, hv⟩, ?_⟩
    rintro x H' ⟨rfl, hx⟩
    have := hx vs ha.seq
    rw [hv] at this; cases this
    exact ⟨Same.refl _, rv⟩
  stop := fun H Z h => by
    obtain ⟨a', vs, e, ha, r, _⟩ := (h _ List.mem_cons_self).one.tup_
    cases e
    exact ⟨vs, ha.seq, Nat.le_of_eq r.length⟩
  len := hl
theorem its_ok {s : Str} (ok : PyData.strOk s = true) (hl : s.length ≤ LIM) : ItOk c (Its s) [] (s.cps.toList.map fun n => .str ⟨#[n]⟩) where
  go := fun i H Z t d h ht => by
    rw [List.getElem?_map] at ht
    obtain ⟨n, hn, e⟩ := mpd ht
    subst e
    have hi : i < s.cps.size := by
      have := (List.getElem?_eq_some_iff.mp hn).1
      simpa using this
    refine ⟨hi, ?_⟩
    rintro x H' ⟨rfl, m, hm, rfl⟩
    have e : n = m := by
      have h2 : s.cps.toList[i]? = some m := by rw [Array.getElem?_toList]; exact hm
      rw [hn] at h2; exact Option.some.inj h2
    subst e
    exact ⟨Same.refl _, Rep.str_iff.mpr ⟨rfl, strOk_sign ok (List.mem_of_getElem? hn), by show 1 ≤ LIM; decide⟩⟩
  stop := fun H Z h => by
    show s.cps.size ≤ _
    simp
  len := by
    rw [List.length_map]
    show s.cps.toList.length ≤ LIM
    rw [Array.length_toList]; exact hl
theorem rngT_get {lo : Int} {n i : Nat} {t : T} (h : (rngT lo n)[i]? = some t) : i < n ∧ t = .int (lo + (i : Nat)) := by
  unfold rngT at h
  rw [List.getElem?_map] at h
  obtain ⟨j, hj, e⟩ := mpd h
  obtain ⟨h1, h2⟩ := List.getElem?_eq_some_iff.mp hj
  rw [List.getElem_range] at h2
  rw [List.length_range] at h1
  subst h2
  exact ⟨h1, e.symm⟩
theorem rngT_len {lo : Int} {n : Nat} : (rngT lo n).length = n := by unfold rngT; rw [List.length_map, List.length_range]
theorem itr_ok {lo : Int} {n : Nat} (hn : n ≤ LIM) : ItOk c (Itr lo n) [] (rngT lo n) where
  go := fun i H Z t d h ht => by
    obtain ⟨h1, rfl⟩ := rngT_get ht
    refine ⟨h1, ?_⟩
    rintro x H' ⟨rfl, rfl⟩
    exact ⟨Same.refl _, Rep.int_iff.mpr rfl⟩
  stop := fun H Z h => by
    show n ≤ _
    rw [rngT_len]; exact Nat.le_refl _
  len := by rw [rngT_len]; exact hn
theorem i_it (ok : OkX c P B k f X) (h1 : Snd c P X e a) : PI X tg e (tI c P (.it a)) := by
  refine ⟨fun pins s σ H R I h => ?_⟩
  obtain ⟨Z, env, ts, er, ee, q⟩ := h
  unfold It.ev at ee
  obtain ⟨u, ea, ee⟩ := bnd ee
  cases u with
  | lst l =>
    cases ee
    refine (pi_list (tg := tg) h1.pe).run pins s σ H R I (one er ea fun v H1 s r => ?_)
    obtain ⟨p, vs, rfl, ta, rr, hl⟩ := r.one.lst
    exact ⟨p, rfl, ⟨vs, SqL.of ta⟩, q _ _ _ s (FOk.one r) (fun z p m => by rw [List.mem_singleton.mp m]; exact z) (itl_ok hl)⟩
  | tup l =>
    cases ee
    refine (pi_tup (tg := tg) h1.pe).run pins s σ H R I (one er ea fun v H1 s r => ?_)
    obtain ⟨p, vs, rfl, ta, rr, hl⟩ := r.one.tup_
    refine ⟨p, rfl, ⟨vs, by rw [ok.hK]; exact ta.seq⟩, ?_⟩
    rw [ok.hK]
    exact q _ _ _ s (FOk.one r) (fun z p m => by rw [List.mem_singleton.mp m]; exact z) (itt_ok hl)
  | str z =>
    cases ee
    refine (pi_str (tg := tg) h1.pe).run pins s σ H R I (one er ea fun v H1 s r => ?_)
    obtain ⟨rfl, ok', hl⟩ := r.one.str_
    exact ⟨z, rfl, q _ _ [] s FOk.nil (fun _ _ m => nomatch m) (its_ok ok' hl)⟩
  | _ => cases ee
theorem range_nn : (("range" : Str) == ("__debug__" : Str)) = false := by decide +kernel
theorem i_rng (ok : OkX c P B k f X) (hg : glB f "range" = true) (hn : noStar e = true) (h1 : Snd c P X e a) : PI X tg (.Call (.Name "range" p) [e] [] pos) (tI c P (.rng a)) := by
  have fr := ok.fct.free "range" (by decide +kernel)
  refine ⟨fun pins s σ H R I h => (pi_range1 (ok.gl hg).1 fr (a_cons (l := .nil) hn h1 a_nil) (starEach_cons hn)).run pins s σ H R I ?_⟩
  obtain ⟨Z, env, ts, er, ee, q⟩ := h
  unfold It.ev at ee
  obtain ⟨u, ea, ee⟩ := bnd ee
  unfold rng1T at ee
  split at ee
  · rename_i n
    split at ee <;> cases ee
    rename_i hc
    refine ⟨Z, env, [.int n], er, by unfold Es.ev; rw [ea]; unfold Es.ev; rfl, fun vs H1 s r nl => ?_⟩
    obtain ⟨v, r', rfl, r1, r2⟩ := r
    cases r2
    have hL : LIM < 2 ^ 62 := by decide
    exact ⟨n, by rw [r1.one.int_], hc.2, by omega, q _ _ [] s FOk.nil (fun _ _ m => nomatch m) (itr_ok (by omega))⟩
  · cases ee
theorem i_rng2 (ok : OkX c P B k f X) (hg : glB f "range" = true) (hn : noStar e1 = true) (hn2 : noStar e2 = true) (h1 : Snd c P X e1 a) (h2 : Snd c P X e2 b) : PI X tg (.Call (.Name "range" p) [e1, e2] [] pos) (tI c P (.rng2 a b)) := by
  have fr := ok.fct.free "range" (by decide +kernel)
  refine ⟨fun pins s σ H R I h => (pi_range2 (ok.gl hg).1 fr (a_cons (l := .cons b .nil) hn h1 (a_cons (l := .nil) hn2 h2 a_nil)) (by rw [starEach_cons hn, starEach_cons hn2]; rfl) (by rw [starEach_cons hn2]; rfl)).run pins s σ H R I ?_⟩
  obtain ⟨Z, env, ts, er, ee, q⟩ := h
  unfold It.ev at ee
  obtain ⟨u, ea, ee⟩ := bnd ee
  obtain ⟨w, eb, ee⟩ := bnd ee
  cases u with
  | int i =>
   cases w with
   | int j =>
    simp only [rng2T] at ee
    split at ee
    case isFalse => cases ee
    rename_i hc
    cases ee
    refine ⟨Z, env, [.int i, .int j], er, by unfold Es.ev; rw [ea]; unfold Es.ev; rw [eb]; unfold Es.ev; rfl, fun vs H1 s r nl => ?_⟩
    obtain ⟨v, r', rfl, r1, r2⟩ := r
    obtain ⟨v2, r', rfl, r3, r4⟩ := r2
    cases r4
    exact ⟨i, j, by rw [r1.one.int_, r3.one.int_], ⟨hc.1, hc.2.1, hc.2.2.1, hc.2.2.2.1⟩, q _ _ [] s FOk.nil (fun _ _ m => nomatch m) (itr_ok (by have := hc.2.2.2.2; omega))⟩
   | _ => cases ee
  | _ => cases w <;> cases ee

/-! ### targets -/
abbrev Up := List (Nat × V × T)
def setsS (u : Up) (σ : L2.St) : L2.St := u.foldl (fun s q => s.set q.1 (some q.2.1)) σ
def setsE (u : Up) (env : En) : En := u.foldl (fun s q => s.set q.1 (.fz q.2.2)) env
def Tg.slots : Tg → List Nat
  | Tg.n i => [i]
  | Tg.tt is => is
def tG (c : Cl) (g : Tg) : TG := fun v σ H Q => ∃ Z env t env', Rep c H Z t v ∧ g.bind t env = some env' ∧
  ∀ u : Up, (∀ q ∈ u, Rep c H Z q.2.2 q.2.1 ∧ q.1 ∈ g.slots) → env' = setsE u env → Q (setsS u σ) H
theorem PG.imp {g g' : TG} (h : PG X tg g) (w : ∀ v σ H Q, g' v σ H Q → g v σ H Q) : PG X tg g' := ⟨fun pins s σ H v u Q I r q => h.run pins s σ H v u Q I r (w v σ H Q q)⟩
theorem tgB_ok (ok : OkX c P B k f X) {i : Nat} (h : tgB f i x = true) : X.N[i]? = some x ∧ L2.Loc X.env.scope x ∧ (X.fn x = true ∨ X.env.scope.names.lookup x = some .local) := by
  unfold tgB at h
  simp only [Bool.and_eq_true, Bool.or_eq_true, decide_eq_true_eq] at h
  refine ⟨by rw [ok.N]; exact h.1, ?_, ?_⟩
  · unfold L2.Loc
    rw [ok.sc]
    rcases h.2 with h | h
    · exact .inl h
    · exact .inr h.1
  · rw [ok.sc, ok.fn]
    rcases h.2 with h | h
    · exact .inr h
    · exact .inl h.2
theorem g_n (ok : OkX c P B k f X) {i : Nat} (h : tgB f i x = true) : PG X (.Name x pos) (tG c (Tg.n i)) := by
  obtain ⟨h1, h2, h3⟩ := tgB_ok ok h
  refine PG.imp (pg_name ok.nd h1 h2 h3) ?_
  rintro v σ H Q ⟨Z, env, t, env', r, hb, q⟩
  unfold Tg.bind at hb; cases hb
  exact q [(i, v, t)] (fun w m => by rw [List.mem_singleton.mp m]; exact ⟨r, List.mem_cons_self⟩) rfl
def gAll : List Nat → TGs
  | [] => gNil
  | i :: is => gCons (gName i) (gAll is)
def namesB (f : Cf) : List Nat → List Expr → Bool
  | [], [] => true
  | i :: is, .Name x _ :: es => tgB f i x && namesB f is es
  | _, _ => false
theorem namesB_ok (ok : OkX c P B k f X) : ∀ {is : List Nat} {es : List Expr}, namesB f is es = true → PGs X es (gAll is) ∧ (assignEach es X.env).length = is.length ∧ (assignEach es X.env).findIdx? (·.1) = none
  | [], [], _ => ⟨pgs_nil, rfl, rfl⟩
  | i :: is, .Name x p :: es, h => by
    unfold namesB at h
    rw [Bool.and_eq_true] at h
    obtain ⟨h1, h2, h3⟩ := tgB_ok ok h.1
    obtain ⟨q1, q2, q3⟩ := namesB_ok ok h.2
    refine ⟨pgs_cons (pg_name ok.nd h1 h2 h3) q1 rfl, ?_, ?_⟩
    · show (assignEach es X.env).length + 1 = is.length + 1
      rw [q2]
    · show List.findIdx? (·.1) ((false, assign (.Name x p) X.env) :: assignEach es X.env) = none
      rw [List.findIdx?_cons, q3]; rfl
theorem gAll_rd : ∀ {is : List Nat} {ts : List T} {vs : List V} {σ : L2.St} {H : Hp} {Z : Zn} {Q : L2.St → Hp → Prop}, RepL c H Z ts vs → is.length = ts.length → Q (setsS (is.zip (vs.zip ts)) σ) H → gAll is vs σ H Q
  | [], ts, vs, σ, H, Z, Q, r, hl, q => by
    have e : ts = [] := List.eq_nil_of_length_eq_zero hl.symm
    subst e
    rw [RepL.nil_iff.mp r] at q ⊢
    exact ⟨rfl, q⟩
  | i :: is, [], vs, σ, H, Z, Q, r, hl, q => by cases hl
  | i :: is, t :: ts, vs, σ, H, Z, Q, r, hl, q => by
    obtain ⟨v, w, rfl, r1, r2⟩ := RepL.cons_iff.mp r
    exact ⟨v, w, rfl, gAll_rd (is := is) r2 (by simpa using hl) q⟩
theorem setsE_zip : ∀ {is : List Nat} {ts : List T} {vs : List V} {env : En}, vs.length = ts.length → setsE (is.zip (vs.zip ts)) env = (is.zip ts).foldl (fun e p => e.set p.1 (.fz p.2)) env
  | [], _, _, _, _ => rfl
  | i :: is, [], [], _, _ => rfl
  | i :: is, t :: ts, v :: vs, env, h => by
    show setsE (is.zip (vs.zip ts)) (env.set i (.fz t)) = _
    rw [setsE_zip (by simpa using h)]; rfl
theorem zip_rep : ∀ {is : List Nat} {ts : List T} {vs : List V}, RepL c H Z ts vs → ∀ q ∈ is.zip (vs.zip ts), Rep c H Z q.2.2 q.2.1 ∧ q.1 ∈ is
  | [], _, _, _, q, m => by cases m
  | i :: is, [], vs, r, q, m => by rw [RepL.nil_iff.mp r] at m; cases m
  | i :: is, t :: ts, vs, r, q, m => by
    obtain ⟨v, w, rfl, r1, r2⟩ := RepL.cons_iff.mp r
    rcases List.mem_cons.mp m with e | m
    · rw [e]; exact ⟨r1, List.mem_cons_self⟩
    · obtain ⟨h1, h2⟩ := zip_rep (is := is) r2 q m
      exact ⟨h1, List.mem_cons_of_mem _ h2⟩
theorem g_tt (ok : OkX c P B k f X) {is : List Nat} {j : Nat} (h : namesB f is es = true) : PG X (.Tuple es j pos) (tG c (Tg.tt is)) := by
  obtain ⟨h1, h2, h3⟩ := namesB_ok ok h
  refine PG.imp (pg_tup ok.calm h1 h2 h3) ?_
  rintro v σ H Q ⟨Z, env, t, env', r, hb, q⟩
  cases t <;> first | (cases hb; done) | skip
  rename_i l
  have hb' : (if is.length = l.length then some ((is.zip l).foldl (fun e p => e.set p.1 (.fz p.2)) env) else none) = some env' := hb
  split at hb' <;> cases hb'
  rename_i hl
  obtain ⟨ad, vs, rfl, ta, rr, _⟩ := Rep.tup_iff.mp r
  have hv := rr.length
  exact ⟨ad, vs, rfl, by rw [ok.hK]; exact ta.seq, by rw [hv, hl], gAll_rd rr hl (q _ (zip_rep rr) (setsE_zip hv).symm)⟩
/-- a look at a target -/
def Tg.chk (f : Cf) : Tg → Expr → Bool
  | Tg.n i, .Name x _ => tgB f i x
  | Tg.tt is, .Tuple es _ _ => namesB f is es
  | _, _ => false
theorem g_ok (ok : OkX c P B k f X) {g : Tg} (h : g.chk f tg = true) : PG X tg (tG c g) := by
  cases g with
  | n i =>
    cases tg <;> first | (cases h; done) | skip
    exact g_n ok h
  | tt is =>
    cases tg <;> first | (cases h; done) | skip
    exact g_tt ok h
def isTup : Expr → Bool
  | .Tuple _ _ _ => true
  | _ => false
end
end Fe

set_option Elab.async false
set_option linter.all false
set_option autoImplicit false
set_option maxRecDepth 100000
set_option maxHeartbeats 4000000
/-! Fe11: enumerate and zip over lists, tuples and texts. -/
namespace Fe
open PySem PySem.Spec PyProof.Rows L2

/-- what is drawn from: a list, a tuple, a text -/
inductive Kd where
  | kl (a : Addr) | kt (a : Addr) | ks (x : Str) (t : Tok)
def Kd.val : Kd → Value
  | .kl a => .ref a
  | .kt a => .ref a
  | .ks x t => .str x t
def Kd.obj : Kd → Obj
  | .kl a => { cls := .type "list_iterator", data := .fields #[.ref a, .int 0 0] }
  | .kt a => { cls := .type "tuple_iterator", data := .fields #[.ref a, .int 0 0] }
  | .ks x t => { cls := .type (strIterType x), data := .fields #[.str x t, .int 0 0] }
def Kd.st : Kd → Addr → Nat → Heap → Prop
  | .kl a, it, i, h => h.IsListIter it a i
  | .kt a, it, i, h => h.IsTupleIter it a i
  | .ks x t, it, i, h => h.IsStrIter it (strIterType x) x t i
def Kd.fp : Kd → List Addr
  | .kl a => [a]
  | .kt a => [a]
  | .ks _ _ => []
def Kd.so : Kd → Nat
  | .kl _ => 0
  | .kt _ => 1
  | .ks _ _ => 2
def SrcK (K : PySem.W.Frag) (H : Hp) : Kd → V → List V → Prop
  | .kl a, v, vs => v = .ref a ∧ SqL K H a vs
  | .kt a, v, vs => v = .ref a ∧ SqT K H a vs
  | .ks x _, v, vs => v = .str x ∧ vs = x.cps.toList.map fun n => .str ⟨#[n]⟩
section
variable {X : Cx} {pins : List (Addr × Obj)} {σ : L2.St} {H : Hp} {s : Shared} {k : Kd} {v : V} {vs : List V}
theorem Kd.rel {K : PySem.W.Frag} (h : SrcK K H k v vs) {u : Value} (r : RelV v u) : ∃ k', SrcK K H k' v vs ∧ k'.val = u ∧ k'.so = k.so := by
  cases k with
  | kl a => obtain ⟨rfl, h⟩ := h; cases r; exact ⟨.kl a, ⟨rfl, h⟩, rfl, rfl⟩
  | kt a => obtain ⟨rfl, h⟩ := h; cases r; exact ⟨.kt a, ⟨rfl, h⟩, rfl, rfl⟩
  | ks x t => obtain ⟨rfl, h⟩ := h; obtain ⟨t', rfl⟩ := r; exact ⟨.ks x t', ⟨rfl, h⟩, rfl, rfl⟩
theorem Kd.begins (I : Inv X pins σ H s) (h : SrcK X.K H k v vs) : ∃ Hb : Heap → Prop, Begins k.val k.obj Hb ∧ Hb s.heap := by
  cases k with
  | kl a =>
    obtain ⟨its, r, pl, _⟩ := I.list h.2
    exact ⟨_, begins_list a its.toArray, pl.isList⟩
  | kt a =>
    obtain ⟨its, r, pl, _⟩ := I.tuple h.2
    exact ⟨_, begins_tuple a its.toArray, pl⟩
  | ks x t => exact ⟨_, begins_text x t, trivial⟩
theorem Kd.st0 {h : Heap} {it : Addr} (e : h.get? it = some k.obj) : k.st it 0 h := by
  cases k with
  | kl a => exact ⟨_, e, rfl, rfl⟩
  | kt a => exact ⟨_, e, rfl, rfl⟩
  | ks x t => exact ⟨_, e, rfl, rfl⟩
theorem Kd.there {h : Heap} {it : Addr} {i : Nat} (e : k.st it i h) : ∃ o, h.get? it = some o ∧ (∀ w, o.data ≠ .cell w) ∧ o.cls ≠ .type "list" ∧ o.cls ≠ .type "tuple" := by
  cases k with
  | kl a =>
    obtain ⟨o, h1, h2, h3⟩ := e
    exact ⟨o, h1, (fun w z => by rw [h3] at z; cases z), by rw [h2]; decide, by rw [h2]; decide⟩
  | kt a =>
    obtain ⟨o, h1, h2, h3⟩ := e
    exact ⟨o, h1, (fun w z => by rw [h3] at z; cases z), by rw [h2]; decide, by rw [h2]; decide⟩
  | ks x t =>
    obtain ⟨o, h1, h2, h3⟩ := e
    refine ⟨o, h1, (fun w z => by rw [h3] at z; cases z), ?_, ?_⟩
    · rw [h2]; unfold strIterType; split <;> decide
    · rw [h2]; unfold strIterType; split <;> decide
theorem Kd.keep {h h' : Heap} {it : Addr} {i : Nat} (e : k.st it i h) (q : ∀ o, h.get? it = some o → h'.get? it = some o) : k.st it i h' := by
  cases k with
  | kl a => obtain ⟨o, h1, h2⟩ := e; exact ⟨o, q o h1, h2⟩
  | kt a => obtain ⟨o, h1, h2⟩ := e; exact ⟨o, q o h1, h2⟩
  | ks x t => obtain ⟨o, h1, h2⟩ := e; exact ⟨o, q o h1, h2⟩
theorem Kd.inj {ws : List V} (I : Inv X pins σ H s) (h : SrcK X.K H k v ws) (h' : SrcK X.K H k v vs) : ws = vs := by
  cases k with
  | kl a => exact I.list_inj h.2 h'.2
  | kt a => exact I.tuple_inj h.2 h'.2
  | ks x t => rw [h.2, h'.2]
/-- an iterator of it, drawn -/
theorem Kd.draws (I : Inv X pins σ H s) (h : SrcK X.K H k v vs) {it : Addr} {i : Nat} (e : k.st it i s.heap) {A : Around} (hh : A.handled = none) :
    ∃ (P : Nat → Value → Prop) (St : Nat → Heap → Prop), Draws X.prog X.w A it (it :: k.fp) vs.length P St ∧ St i s.heap ∧ (∀ j g, St j g → k.st it j g) ∧
      (∀ j u, P j u → ∃ x, vs[j]? = some x ∧ RelV x u) ∧ ∀ b ∈ k.fp, ∃ o, s.heap.get? b = some o ∧ (o.cls = .type "list" ∨ o.cls = .type "tuple") := by
  obtain ⟨oi, ei, _, nl, nt⟩ := Kd.there e
  cases k with
  | kl a =>
    obtain ⟨its, r, pl, _⟩ := I.list h.2
    have hl := r.length
    obtain ⟨o, ho, hc, hrest⟩ := id pl.isList
    have ne : a ≠ it := fun z => by rw [z, ei] at ho; cases ho; exact nl hc
    refine ⟨fun i v => its.toArray[i]? = some v, fun i h => h.IsListIter it a i ∧ h.IsList a its.toArray, by rw [show vs.length = its.toArray.size by simp [hl]]; exact Draws.list hh it a ne its.toArray, ⟨e, pl.isList⟩, fun j g q => q.1, fun j u q => ?_, fun b hb => ?_⟩
    · have hj : j < vs.length := by
        have := (Array.getElem?_eq_some_iff.mp q).1
        rw [hl]; simpa using this
      obtain ⟨u', hu', ru⟩ := r.get (List.getElem?_eq_getElem hj)
      have : some u = some u' := by rw [← q, ← hu']; simp
      cases this
      exact ⟨_, List.getElem?_eq_getElem hj, ru⟩
    · rw [List.mem_singleton.mp hb]; exact ⟨o, ho, .inl hc⟩
  | kt a =>
    obtain ⟨its, r, pl, _⟩ := I.tuple h.2
    have hl := r.length
    obtain ⟨o, ho, hc, hrest⟩ := id pl
    have ne : a ≠ it := fun z => by rw [z, ei] at ho; cases ho; exact nt hc
    refine ⟨fun i v => its.toArray[i]? = some v, fun i h => h.IsTupleIter it a i ∧ h.IsTuple a its.toArray, by rw [show vs.length = its.toArray.size by simp [hl]]; exact Draws.tuple hh it a ne its.toArray, ⟨e, pl⟩, fun j g q => q.1, fun j u q => ?_, fun b hb => ?_⟩
    · have hj : j < vs.length := by
        have := (Array.getElem?_eq_some_iff.mp q).1
        rw [hl]; simpa using this
      obtain ⟨u', hu', ru⟩ := r.get (List.getElem?_eq_getElem hj)
      have : some u = some u' := by rw [← q, ← hu']; simp
      cases this
      exact ⟨_, List.getElem?_eq_getElem hj, ru⟩
    · rw [List.mem_singleton.mp hb]; exact ⟨o, ho, .inr hc⟩
  | ks x t =>
    obtain ⟨_, rfl⟩ := h
    refine ⟨_, _, by rw [show (x.cps.toList.map fun n => V.str ⟨#[n]⟩).length = x.cps.size by simp]; exact Draws.text hh it x t, e, fun j g q => q, ?_, fun b hb => nomatch hb⟩
    rintro j u ⟨n, w, h1, rfl⟩
    refine ⟨.str ⟨#[n]⟩, ?_, ⟨w, rfl⟩⟩
    rw [List.getElem?_map, Array.getElem?_toList, h1]; rfl

/-! ### enumerate -/
set_option maxHeartbeats 2000000 in
theorem enum_new {v : Value} {o : Obj} {Hb : Heap → Prop} (B : Begins v o Hb) :
    Meets (Builtin.«enumerate.__new__» ⟨[.type "enumerate", v], []⟩) (fun _ R s => Hb s.heap ∧
      R (.ok (.ret (.ref (s.heap.push o).objs.size))) { s with heap := (s.heap.push o).push { cls := .type "enumerate", data := .fields #[.none, .bool false, .ref s.heap.objs.size, rawInt 0, .none, .none] } }) :=
  .of_wp fun prog w A R s h => by
    obtain ⟨hp, g, d, tk, os⟩ := s
    obtain ⟨h1, h⟩ := h
    have su := sub_enumerate
    have go : ∀ {A' : Around} {E : Value → Shared → Prop} {Q : Value → Shared → Prop}, Q (.ref hp.objs.size) ⟨hp.push o, g, d, tk, os⟩ → wpAny (model prog w) A' (pyIter v) Q E ⟨hp, g, d, tk, os⟩ :=
      fun z => B.iter prog w _ _ ⟨hp, g, d, tk, os⟩ _ h1 z
    wp_walk using go
    refine wpAny_stack_any fun st => wpAny_pure ?_
    split
    · rename_i cc _ _ _ _ _
      cases (cc == Value.type "enumerate")
      all_goals
        wp_walk using go
        exact ⟨_, rfl, h⟩
    · wp_walk using go
      exact ⟨_, rfl, h⟩
theorem enum_call {prog : Program} {w : World} {A : Around} {E : Value → Shared → Prop} {s : Shared} {v : Value} {o : Obj} {Hb : Heap → Prop} {Q : Value → Shared → Prop} (B : Begins v o Hb) (h1 : Hb s.heap)
    (h : ∀ h', IsEnum h' (s.heap.objs.size + 1) s.heap.objs.size 0 .none → h'.get? s.heap.objs.size = some o → (∀ b o, s.heap.get? b = some o → h'.get? b = some o) → Q (.ref (s.heap.objs.size + 1)) { s with heap := h' }) :
    wpAny (model prog w) A (call (.type "enumerate") [v]) Q E s := by
  have sz : (s.heap.push o).objs.size = s.heap.objs.size + 1 := Heap.size_push ..
  refine callType_new F.called_enumerate (by decide) (F.typeCall_enumerate_1 _) (F.newCall_enumerate_1 _) (fun z => F.args_object_init_2 z _) F.entry_enumerate_new (enum_new B) ⟨h1, ?_⟩
  show _ ∧ _
  rw [sz]
  have at1 : ((s.heap.push o).push { cls := .type "enumerate", data := .fields #[.none, .bool false, .ref s.heap.objs.size, rawInt 0, .none, .none] }).get? (s.heap.objs.size + 1)
      = some { cls := .type "enumerate", data := .fields #[.none, .bool false, .ref s.heap.objs.size, rawInt 0, .none, .none] } := by
    have z := Heap.get?_push_size (s.heap.push o) (o := { cls := .type "enumerate", data := .fields #[.none, .bool false, .ref s.heap.objs.size, rawInt 0, .none, .none] }) rfl
    rwa [sz] at z
  exact ⟨⟨_, at1, rfl⟩, h _ at1 (Heap.get?_push_of_some _ (Heap.get?_push_size _ B.free)) fun b u e => Heap.get?_push_of_some _ (Heap.get?_push_of_some _ e)⟩
/-- pairs of a number and an item of what stands at v -/
def IteS (K : PySem.W.Frag) (k : Kd) (v : V) : L2.It :=
  ⟨fun i H => ∃ vs, SrcK K H k v vs ∧ i < vs.length, fun i H y H' => ∃ T x, y = .ref T ∧ H T = none ∧ H' = upd H T (.tup [.int (i : Nat), x]) ∧ ∀ vs, SrcK K H k v vs → vs[i]? = some x, fun i H => ∃ vs, SrcK K H k v vs ∧ i = vs.length⟩
theorem turn_enumS {P : Program} {w : World} {K : PySem.W.Frag} {elts : List Expr} {kk : Nat} {tpos : Pos} (e it : Addr) :
    Turn P w K (.Tuple elts kk tpos) (IteS K k v) [e, it] e (fun i h => (∃ old, IsEnum h e it ((i : Nat) : Int) old) ∧ k.st it i h ∧ e ≠ it) where
  mem := List.mem_cons_self
  obj := fun i h ⟨⟨old, he⟩, hi, _⟩ b hb => by
    rcases List.mem_cons.mp hb with z | hb
    · rw [z]; exact ⟨_, he, fun w q => nomatch q⟩
    · rw [List.mem_singleton.mp hb]
      obtain ⟨o, h1, h2, _⟩ := Kd.there hi
      exact ⟨o, h1, h2⟩
  keep := fun i h h' ⟨⟨old, he⟩, hi, ne⟩ q => ⟨⟨old, q e List.mem_cons_self _ he⟩, Kd.keep hi (q it (List.mem_cons_of_mem _ List.mem_cons_self)), ne⟩
  item := by
    rintro X rfl rfl rfl hc i pins s σ H E I hf ⟨⟨old, he⟩, hi, ne⟩ ⟨vs, src, lt⟩
    obtain ⟨P, St, D, st, sto, sr, cl⟩ := Kd.draws I src hi (A := X.A.in1) (I.ok.hd hc)
    have le : e < s.heap.objs.size := Heap.lt_size he
    obtain ⟨oi, hoi, _⟩ := Kd.there hi
    have li : it < s.heap.objs.size := Heap.lt_size hoi
    have nef : e ∉ it :: k.fp := fun m => by
      rcases List.mem_cons.mp m with z | m
      · exact ne z
      · obtain ⟨o, ho, hcl⟩ := cl e m
        rw [show s.heap.get? e = some _ from he] at ho
        cases ho
        rcases hcl with z | z
        · exact absurd (show Value.type "enumerate" = .type "list" from z) (by decide)
        · exact absurd (show Value.type "enumerate" = .type "tuple" from z) (by decide)
    refine wpAny_pyNext_enum_itemD D he st lt ne nef fun x h1 tk px ho st1 hT _ hk => ?_
    obtain ⟨y, hy, ry⟩ := sr i x px
    refine ⟨_, rfl, wpAny_letOwnedTupleGo_enum (s := { s with heap := h1, toks := tk + 1 }) ho fun h2 he2 sb => ?_⟩
    have hT2 : h2.get? s.heap.objs.size = some { cls := .type "tuple", data := .seq #[.int i tk, x] } := (sb.2 _ (Nat.ne_of_gt le)).trans hT
    have new : ObjOk X.prog X.w (upd H s.heap.objs.size (.tup [.int (i : Nat), y])) h2 s.heap.objs.size (.tup [.int (i : Nat), y]) :=
      ⟨by show 2 ≤ sizeLine; decide, [.int i tk, x], .cons ⟨_, rfl⟩ (.cons ry .nil), ⟨_, hT2, rfl, _, rfl⟩⟩
    have J := I.turnedNew (t' := tk + 1) (ch := [e, it]) (fun b ob hb q => (sb.2 b fun z => hb (by simp [z])).trans (hk b ob (fun z => hb (by simp [z])) (fun z => hb (by simp [z])) q)) hf (Nat.le_refl _) new
    refine ⟨.ref s.heap.objs.size, _, J, rfl, ⟨_, y, rfl, I.hok.fresh (Nat.le_refl _), rfl, fun ws hw => by rw [Kd.inj I hw src]; exact hy⟩, ⟨⟨x, ?_⟩, Kd.keep (sto _ _ st1) fun o q => (sb.2 it (Ne.symm ne)).trans q, ne⟩, fun b hb => ?_⟩
    · rw [show ((i + 1 : Nat) : Int) = (i : Int) + 1 by omega]; exact he2
    · have lb : b < s.heap.objs.size := by
        rcases List.mem_cons.mp hb with z | hb
        · rw [z]; exact le
        · rw [List.mem_singleton.mp hb]; exact li
      rw [upd_ne (Nat.ne_of_lt lb)]
      exact (hf b hb).1
  done := by
    rintro X rfl rfl rfl hc i pins s σ H E I hf ⟨⟨old, he⟩, hi, ne⟩ ⟨vs, src, rfl⟩
    obtain ⟨P, St, D, st, sto, sr, cl⟩ := Kd.draws I src hi (A := X.A.in1) (I.ok.hd hc)
    obtain ⟨f0, f1, f2, f3, f4, f5⟩ := hf it (List.mem_cons_of_mem _ List.mem_cons_self)
    exact wpAny_pyNext_enum_endD D he st fun h1 hk => ⟨rfl, I.turned (t' := s.toks) (fun b o hb q => hk b o hb q) f0 f1 f3 f4 f5⟩
  self := fun A i s Q E ⟨⟨_, he⟩, _⟩ h => wpAny_pyIter_enum he h
end
end Fe

set_option Elab.async false
set_option linter.all false
set_option autoImplicit false
set_option maxRecDepth 100000
set_option maxHeartbeats 4000000
/-! Fe12: the loops over enumerate, zip, reversed. -/
namespace Fe
open PySem PySem.Spec PyProof.Rows L2
def IzS (K : PySem.W.Frag) (k1 : Kd) (v1 : V) (k2 : Kd) (v2 : V) : L2.It :=
  ⟨fun i H => ∃ vs ws, SrcK K H k1 v1 vs ∧ SrcK K H k2 v2 ws ∧ i < vs.length ∧ i < ws.length,
   fun i H q H' => ∃ T x y, q = .ref T ∧ H T = none ∧ H' = upd H T (.tup [x, y]) ∧ (∀ vs, SrcK K H k1 v1 vs → vs[i]? = some x) ∧ ∀ ws, SrcK K H k2 v2 ws → ws[i]? = some y,
   fun i H => ∃ vs ws, SrcK K H k1 v1 vs ∧ SrcK K H k2 v2 ws ∧ i ≤ vs.length ∧ i ≤ ws.length ∧ (i = vs.length ∨ i = ws.length)⟩
section
variable {X : Cx} {pins : List (Addr × Obj)} {σ : L2.St} {H : Hp} {s : Shared} {k k1 k2 : Kd} {v v1 v2 : V} {vs : List V}
theorem turn_zipS {P : Program} {w : World} {K : PySem.W.Frag} {elts : List Expr} {kk : Nat} {tpos : Pos} (N : Nat) (l1 : ∀ b ∈ k1.fp, b < N) (l2 : ∀ b ∈ k2.fp, b < N) :
    Turn P w K (.Tuple elts kk tpos) (IzS K k1 v1 k2 v2) [N + 4, N + 2, N + 3, N, N + 1] (N + 4)
      (fun i h => IsZip h (N + 4) (N + 2) (N + 3) .none ∧ IsTupOf2 h (N + 2) (.ref N) (.ref (N + 1)) ∧ (∃ x y, IsTupOf2 h (N + 3) x y) ∧ k1.st N i h ∧ k2.st (N + 1) i h) where
  mem := by simp
  obj := fun i h st c hc => by
    obtain ⟨hz, hTI, ⟨x, y, hTO⟩, h1, h2⟩ := st
    have e' : c = N + 4 ∨ c = N + 2 ∨ c = N + 3 ∨ c = N ∨ c = N + 1 := by simpa using hc
    rcases e' with q | q | q | q | q
    · rw [q]; exact ⟨_, hz, fun v q => nomatch q⟩
    · rw [q]; exact ⟨_, hTI, fun v q => nomatch q⟩
    · rw [q]; exact ⟨_, hTO, fun v q => nomatch q⟩
    · rw [q]; obtain ⟨o, h1, h2, _⟩ := Kd.there h1; exact ⟨o, h1, h2⟩
    · rw [q]; obtain ⟨o, h1, h2, _⟩ := Kd.there h2; exact ⟨o, h1, h2⟩
  keep := fun i h h' st k => by
    obtain ⟨hz, hTI, ⟨x, y, hTO⟩, h1, h2⟩ := st
    exact ⟨k (N + 4) (by simp) _ hz, k (N + 2) (by simp) _ hTI, ⟨x, y, k (N + 3) (by simp) _ hTO⟩, Kd.keep h1 fun o q => k N (by simp) o q, Kd.keep h2 fun o q => k (N + 1) (by simp) o q⟩
  item := by
    rintro X rfl rfl rfl hc i pins s σ H E I hf st hg
    obtain ⟨hz, hTI, ⟨x0, y0, hTO⟩, h1, h2⟩ := st
    obtain ⟨vs, ws, src1, src2, lt1, lt2⟩ := hg
    obtain ⟨P1, St1, D1, st1, sto1, sr1, _⟩ := Kd.draws I src1 h1 (A := X.A.in1) (I.ok.hd hc)
    obtain ⟨P2, St2, D2, st2, sto2, sr2, _⟩ := Kd.draws I src2 h2 (A := X.A.in1) (I.ok.hd hc)
    have hzl : N + 4 < s.heap.objs.size := Heap.lt_size hz
    refine wpAny_pyNext_zipD2_item (zip_sep2 l1 l2) D1 D2 hz hTI hTO st1 st2 lt1 lt2 fun u1 u2 h' tk p1 p2 z' TO' t1 t2 hT hsz hk => ?_
    obtain ⟨y1, hy1, ry1⟩ := sr1 i u1 p1
    obtain ⟨y2, hy2, ry2⟩ := sr2 i u2 p2
    refine ⟨_, rfl, wpAny_letOwnedTupleGo_zip (s := { s with heap := h', toks := tk }) z' fun h'' z'' sb => ?_⟩
    have hT2 : h''.get? s.heap.objs.size = some { cls := .type "tuple", data := .seq #[u1, u2] } := (sb.2 _ (Nat.ne_of_gt hzl)).trans hT
    have new : ObjOk X.prog X.w (upd H s.heap.objs.size (.tup [y1, y2])) h'' s.heap.objs.size (.tup [y1, y2]) :=
      ⟨by show 2 ≤ sizeLine; decide, [u1, u2], .cons ry1 (.cons ry2 .nil), ⟨_, hT2, rfl, _, rfl⟩⟩
    have I1 : Inv X pins σ (upd H s.heap.objs.size (.tup [y1, y2])) { s with heap := h'', toks := tk } :=
      I.turnedNew (t' := tk) (ch := [N + 4, N + 2, N + 3, N, N + 1]) (fun c o hb q => (sb.2 c (fun q' => hb (by simp [q']))).trans (hk c o (fun q' => hb (by simp [q'])) (fun q' => hb (by simp [q'])) (fun q' => hb (by simp [q'])) (fun q' => hb (by simp [q'])) q)) hf (Nat.le_refl _) new
    refine ⟨.ref s.heap.objs.size, _, I1, rfl, ⟨_, y1, y2, rfl, I.hok.fresh (Nat.le_refl _), rfl, fun l hl => by rw [Kd.inj I hl src1]; exact hy1, fun l hl => by rw [Kd.inj I hl src2]; exact hy2⟩, ⟨z'', ?_, ⟨u1, u2, ?_⟩, ?_, ?_⟩, fun c hcm => ?_⟩
    · exact (sb.2 _ (by simp)).trans (hk _ _ (by simp) (by simp) (by simp) (by simp) hTI)
    · exact (sb.2 _ (by simp)).trans TO'
    · exact Kd.keep (sto1 _ _ t1) fun o q => (sb.2 _ (by simp)).trans q
    · exact Kd.keep (sto2 _ _ t2) fun o q => (sb.2 _ (by simp)).trans q
    · have hlt : c < s.heap.objs.size := by
        have e' : c = N + 4 ∨ c = N + 2 ∨ c = N + 3 ∨ c = N ∨ c = N + 1 := by simpa using hcm
        have : (c : Nat) ≤ N + 4 := by
          rcases e' with q | q | q | q | q <;> rw [q] <;> simp [Nat.le_refl]
        exact Nat.lt_of_le_of_lt this hzl
      rw [upd_ne (Nat.ne_of_lt hlt)]
      exact (hf c hcm).1
  done := by
    rintro X rfl rfl rfl hc i pins s σ H E I hf st hg
    obtain ⟨hz, hTI, ⟨x0, y0, hTO⟩, h1, h2⟩ := st
    obtain ⟨vs, ws, src1, src2, le1, le2, hend⟩ := hg
    obtain ⟨P1, St1, D1, st1, sto1, sr1, _⟩ := Kd.draws I src1 h1 (A := X.A.in1) (I.ok.hd hc)
    obtain ⟨P2, St2, D2, st2, sto2, sr2, _⟩ := Kd.draws I src2 h2 (A := X.A.in1) (I.ok.hd hc)
    exact wpAny_pyNext_zipD2_end (zip_sep2 l1 l2) D1 D2 hz hTI hTO st1 st2 le1 le2 hend fun h' tk hk => ⟨rfl, I.turnedL (t' := tk) (ch := [N + 4, N + 2, N + 3, N, N + 1]) (fun c o hb q =>
      hk c o (fun q' => hb (by simp [q'])) (fun q' => hb (by simp [q'])) (fun q' => hb (by simp [q'])) (fun q' => hb (by simp [q'])) q) hf⟩
  self := fun A i s Q E st h => wpAny_pyIter_zip st.1 h
theorem Kd.lt (I : Inv X pins σ H s) (h : SrcK X.K H k v vs) : ∀ b ∈ k.fp, b < s.heap.objs.size := by
  cases k with
  | kl a =>
    obtain ⟨its, r, pl, _⟩ := I.list h.2
    intro b hb
    rw [List.mem_singleton.mp hb]; exact pl.lt
  | kt a =>
    obtain ⟨its, r, pl, _⟩ := I.tuple h.2
    obtain ⟨o, ho, _⟩ := pl
    intro b hb
    rw [List.mem_singleton.mp hb]; exact Heap.lt_size ho
  | ks x t => intro b hb; cases hb
variable {tg e e1 e2 : Expr} {p pos tpos : Pos} {ta : TA}
def iEnS (K : PySem.W.Frag) (te : TA) : TI := fun σ H R => te σ H fun vs H1 => ∃ v xs, vs = [v] ∧ ∃ k, SrcK K H1 k v xs ∧ ∀ k', k'.so = k.so → SrcK K H1 k' v xs → R (IteS K k' v) H1
theorem pi_enS {elts : List Expr} {kk : Nat} (hg : Gl X "enumerate") (hm : X.mg "enumerate" = none) (ha : PA X [e] ta) (hs : starEach [e] X.env = (false, eval e X.env) :: starEach [] X.env) :
    PI X (.Tuple elts kk tpos) (.Call (.Name "enumerate" p) [e] [] pos) (iEnS X.K ta) := by
  refine ⟨fun pins s σ H R I h => ?_⟩
  refine Call_ (ld_blt I hg hm boot_enumerate (PyProof.Rows.callWith_type1 (thn (ha.run pos pins s σ H _ I h) fun us s1 ⟨vs, H1, I1, r1, q1⟩ => ?_) hs rfl))
  obtain ⟨v, xs, rfl, k, src, q⟩ := q1
  cases r1 with
  | cons r rr =>
    cases rr
    obtain ⟨k', src', ev, so⟩ := Kd.rel src r
    obtain ⟨Hb, B, hb⟩ := Kd.begins I1 src'
    rw [← ev]
    refine enum_call B hb fun h' he hit hk => wpAny_pyIter_enum he ?_
    have I2 : Inv X pins σ H1 { s1 with heap := h' } := I1.kept (t' := s1.toks) hk
    refine ⟨s1.heap.objs.size + 1, [s1.heap.objs.size + 1, s1.heap.objs.size], _, _, H1, rfl, I2, turn_enumS (k := k') (v := v) (s1.heap.objs.size + 1) s1.heap.objs.size, ⟨⟨.none, he⟩, Kd.st0 hit, Nat.succ_ne_self _⟩, fun b hb => ?_, q k' so src'⟩
    have e' : b = s1.heap.objs.size + 1 ∨ b = s1.heap.objs.size := by simpa using hb
    have hle : s1.heap.objs.size ≤ b := by
      rcases e' with z | z
      · rw [z]; exact Nat.le_add_right _ _
      · rw [z]; exact Nat.le_refl _
    exact I1.fpOk hle (I1.hok.fresh hle)
def iZpS (K : PySem.W.Frag) (te : TA) : TI := fun σ H R => te σ H fun vs H1 => ∃ v w xs ys, vs = [v, w] ∧ ∃ j1 j2, SrcK K H1 j1 v xs ∧ SrcK K H1 j2 w ys ∧ ∀ k1 k2, k1.so = j1.so → k2.so = j2.so → SrcK K H1 k1 v xs → SrcK K H1 k2 w ys → R (IzS K k1 v k2 w) H1
theorem pi_zpS {elts : List Expr} {kk : Nat} (hg : Gl X "zip") (hm : X.mg "zip" = none) (ha : PA X [e1, e2] ta) (hs : starEach [e1, e2] X.env = (false, eval e1 X.env) :: starEach [e2] X.env)
    (hpl : (backTo pos (starEach [e2] X.env)).any (·.1) = false) : PI X (.Tuple elts kk tpos) (.Call (.Name "zip" p) [e1, e2] [] pos) (iZpS X.K ta) := by
  refine ⟨fun pins s σ H R I h => ?_⟩
  refine Call_ (ld_blt I hg hm PyProof.Rows.boot_zip (PyProof.Rows.callWith_type1 (thn (ha.run pos pins s σ H _ I h) fun us s1 ⟨vs, H1, I1, r1, q1⟩ => ?_) hs hpl))
  obtain ⟨v, w, xs, ys, rfl, k1, k2, src1, src2, q⟩ := q1
  cases r1 with
  | cons r rr =>
    cases rr with
    | cons r' rr =>
      cases rr
      obtain ⟨k1', src1', ev1, so1⟩ := Kd.rel src1 r
      obtain ⟨k2', src2', ev2, so2⟩ := Kd.rel src2 r'
      obtain ⟨Hb1, B1, hb1⟩ := Kd.begins I1 src1'
      obtain ⟨Hb2, B2, hb2⟩ := Kd.begins I1 src2'
      rw [← ev1, ← ev2]
      refine zip_begins2 B1 B2 hb1 hb2 fun h' hz hTI hTO h1 h2 hsz hk => wpAny_pyIter_zip hz ?_
      have I2 : Inv X pins σ H1 { s1 with heap := h' } := I1.kept (t' := s1.toks) hk
      refine ⟨s1.heap.objs.size + 4, [s1.heap.objs.size + 4, s1.heap.objs.size + 2, s1.heap.objs.size + 3, s1.heap.objs.size, s1.heap.objs.size + 1], _, _, H1, rfl, I2,
        turn_zipS (k1 := k1') (k2 := k2') (v1 := v) (v2 := w) s1.heap.objs.size (Kd.lt I1 src1') (Kd.lt I1 src2'), ⟨hz, hTI, ⟨_, _, hTO⟩, Kd.st0 h1, Kd.st0 h2⟩, fun c hcm => ?_, q k1' k2' so1 so2 src1' src2'⟩
      have e' : c = s1.heap.objs.size + 4 ∨ c = s1.heap.objs.size + 2 ∨ c = s1.heap.objs.size + 3 ∨ c = s1.heap.objs.size ∨ c = s1.heap.objs.size + 1 := by simpa using hcm
      have hle : s1.heap.objs.size ≤ c := by
        rcases e' with z | z | z | z | z
        · rw [z]; exact Nat.le_add_right _ _
        · rw [z]; exact Nat.le_add_right _ _
        · rw [z]; exact Nat.le_add_right _ _
        · rw [z]; exact Nat.le_refl _
        · rw [z]; exact Nat.le_add_right _ _
      exact I1.fpOk hle (I1.hok.fresh hle)
end

/-! ### in trees -/
section
variable {X : Cx} {c : Cl} {P : Pg} {B : Tb} {k : Nat} {f : Cf} {Z Z' : Zn} {H H' H1 : Hp} {σ : L2.St} {env : En} {t : T} {e e1 e2 e3 tg : Expr} {a b d : E} {pos p apos : Pos}
def T.so : T → Nat
  | .lst _ => 0
  | .tup _ => 1
  | _ => 2
/-- where a tree can be walked as a source -/
theorem src_of {ts : List T} {v : V} (h : seqT t = some ts) (r : Rep1 c H Z t v) : (∃ k vs, SrcK c.K H k v vs ∧ k.so = t.so ∧ RepL c H Z ts vs) ∧ ts.length ≤ LIM := by
  cases t <;> cases h
  · rename_i s
    obtain ⟨rfl, ok, hl⟩ := r.str_
    refine ⟨⟨.ks s 0, _, ⟨rfl, rfl⟩, rfl, ?_⟩, by rw [List.length_map, Array.length_toList]; exact hl⟩
    have : ∀ l : List Nat, (∀ n ∈ l, n ∈ s.cps.toList) → RepL c H Z (l.map fun n => T.str ⟨#[n]⟩) (l.map fun n => V.str ⟨#[n]⟩) := by
      intro l
      induction l with
      | nil => intro _; exact RepL.nil
      | cons n l ih => exact fun hm => RepL.cons (Rep.str_iff.mpr ⟨rfl, strOk_sign ok (hm n List.mem_cons_self), by show 1 ≤ LIM; decide⟩) (ih fun m hmm => hm m (List.mem_cons_of_mem _ hmm))
    exact this _ fun n h => h
  · obtain ⟨a, vs, rfl, ta, rr, hl⟩ := r.tup_
    exact ⟨⟨.kt a, vs, ⟨rfl, ta.seq⟩, rfl, rr⟩, hl⟩
  · obtain ⟨a, vs, rfl, ta, rr, hl⟩ := r.lst
    exact ⟨⟨.kl a, vs, ⟨rfl, SqL.of ta⟩, rfl, rr⟩, hl⟩
theorem SrcK.same_ {K : PySem.W.Frag} {v : V} {vs vs' : List V} {j j' : Kd} (h : SrcK K H j v vs) (h' : SrcK K H1 j' v vs') (e : j.so = j'.so) : SrcK K H1 j v vs' := by
  cases j <;> cases j' <;> first | (cases e; done) | skip
  · obtain ⟨rfl, h⟩ := h
    obtain ⟨e, h'⟩ := h'
    cases e
    exact ⟨rfl, h'⟩
  · obtain ⟨rfl, h⟩ := h
    obtain ⟨e, h'⟩ := h'
    cases e
    exact ⟨rfl, h'⟩
  · obtain ⟨rfl, h⟩ := h
    obtain ⟨e, h'⟩ := h'
    cases e
    exact ⟨rfl, h'⟩
/-- a source that fits the tree, at any heap where the tree is -/
theorem src_at {K : PySem.W.Frag} {ts : List T} {v : V} {vs : List V} {j : Kd} (hK : K = c.K) (h : SrcK K H1 j v vs) (e : j.so = t.so) (hs : seqT t = some ts) (r : Rep1 c H Z t v) : ∃ ws, SrcK K H j v ws ∧ RepL c H Z ts ws := by
  subst hK
  obtain ⟨⟨k, ws, h1, h2, h3⟩, _⟩ := src_of hs r
  exact ⟨ws, h.same_ h1 (e.trans h2.symm), h3⟩
theorem enumT_get : ∀ {ts : List T} {n i : Nat} {t : T}, (enumT n ts)[i]? = some t → ∃ u, ts[i]? = some u ∧ t = .tup [.int ((n + i : Nat) : Int), u]
  | [], n, i, t, h => by cases h
  | u :: r, n, 0, t, h => by cases h; exact ⟨u, rfl, rfl⟩
  | u :: r, n, i + 1, t, h => by
    obtain ⟨w, h1, h2⟩ := enumT_get (ts := r) (n := n + 1) (i := i) h
    exact ⟨w, h1, by rw [h2]; congr 3; omega⟩
theorem enumT_len : ∀ {ts : List T} {n : Nat}, (enumT n ts).length = ts.length
  | [], n => rfl
  | u :: r, n => by
    show (enumT (n + 1) r).length + 1 = r.length + 1
    rw [enumT_len]
theorem zipT_get : ∀ {ts us : List T} {i : Nat} {t : T}, (zipT ts us)[i]? = some t → ∃ x y, ts[i]? = some x ∧ us[i]? = some y ∧ t = .tup [x, y]
  | [], us, i, t, h => by cases h
  | x :: ts, [], i, t, h => by cases h
  | x :: ts, y :: us, 0, t, h => by cases h; exact ⟨x, y, rfl, rfl, rfl⟩
  | x :: ts, y :: us, i + 1, t, h => by
    obtain ⟨a, b, h1, h2, h3⟩ := zipT_get (ts := ts) (us := us) (i := i) h
    exact ⟨a, b, h1, h2, h3⟩
theorem zipT_len : ∀ {ts us : List T}, (zipT ts us).length = min ts.length us.length
  | [], us => by simp [zipT]
  | x :: ts, [] => by simp [zipT]
  | x :: ts, y :: us => by
    show (zipT ts us).length + 1 = min (ts.length + 1) (us.length + 1)
    rw [zipT_len]; omega
theorem pairRep {x y : T} {v w : V} {p : Addr} (hp : H p = none) (d : Dom Z H) (h1 : Rep c H Z x v) (h2 : Rep c H Z y w) : Same H (upd H p (.tup [v, w])) ∧ Rep c (upd H p (.tup [v, w])) Z (.tup [x, y]) (.ref p) := by
  have s := same_upd (o := .tup [v, w]) hp
  exact ⟨s, Rep.tup_iff.mpr ⟨p, _, rfl, .inl ⟨fun z => d p z hp, .inl upd_same⟩, RepL.cons (Rep.kp (.same s) _ _ h1) (RepL.cons (Rep.kp (.same s) _ _ h2) RepL.nil), by show 2 ≤ LIM; decide⟩⟩
theorem ite_ok {K : PySem.W.Frag} (hK : K = c.K) {v : V} {vs : List V} {j : Kd} {b : Bool} {ts : List T} (src : SrcK K H1 j v vs) (e : j.so = t.so) (hs : seqT t = some ts) (hl : ts.length ≤ LIM) : ItOk c (IteS K j v) [(b, v, t)] (enumT 0 ts) where
  go := fun i H Z u d h ht => by
    obtain ⟨u', hu, rfl⟩ := enumT_get ht
    obtain ⟨ws, s1, r1⟩ := src_at hK src e hs (h _ List.mem_cons_self).one
    obtain ⟨y, hy, ry⟩ := r1.get hu
    have hi : i < ws.length := (List.getElem?_eq_some_iff.mp hy).1
    refine ⟨⟨ws, s1, hi⟩, ?_⟩
    rintro x H' ⟨p, x', rfl, hp, rfl, hx⟩
    have := hx ws s1
    rw [hy] at this; cases this
    have := pairRep (x := .int ((i : Nat) : Int)) hp d (Rep.int_iff.mpr rfl) ry
    rw [Nat.zero_add]
    exact this
  stop := fun H Z h => by
    obtain ⟨ws, s1, r1⟩ := src_at hK src e hs (h _ List.mem_cons_self).one
    exact ⟨ws, s1, by rw [enumT_len, r1.length]⟩
  len := by rw [enumT_len]; exact hl
theorem i_enu (ok : OkX c P B k f X) {es : List Expr} {kk : Nat} (hg : glB f "enumerate" = true) (hn : noStar e = true) (h1 : Snd c P X e a) : PI X (.Tuple es kk p) (.Call (.Name "enumerate" apos) [e] [] pos) (tI c P (.enu a)) := by
  have fr := ok.fct.free "enumerate" (by decide +kernel)
  refine ⟨fun pins s σ H R I h => (pi_enS (ok.gl hg).1 fr (a_cons (l := .nil) hn h1 a_nil) (starEach_cons hn)).run pins s σ H R I ?_⟩
  obtain ⟨Z, env, ts, er, ee, q⟩ := h
  unfold It.ev at ee
  obtain ⟨u, ea, ee⟩ := bnd ee
  refine ⟨Z, env, [u], er, by unfold Es.ev; rw [ea]; unfold Es.ev; rfl, fun vs H1 s r nl => ?_⟩
  obtain ⟨v, r', rfl, r1, r2⟩ := r
  cases r2
  have : ∃ l, seqT u = some l ∧ ts = enumT 0 l := by
    cases u <;> cases ee <;> exact ⟨_, rfl, rfl⟩
  obtain ⟨l, hs, rfl⟩ := this
  have r3 : RepB a.isP c H1 Z u v := r1
  obtain ⟨⟨j, vs, s1, s2, s3⟩, hl⟩ := src_of hs r3.one
  rw [← ok.hK] at s1
  refine ⟨v, vs, rfl, j, s1, fun k' e' s1' => q _ _ _ s (FOk.one r3) (fun z p m => by rw [List.mem_singleton.mp m]; exact z) (ite_ok ok.hK s1' (e'.trans s2) hs hl)⟩
theorem itz_ok {K : PySem.W.Frag} (hK : K = c.K) {v w : V} {vs ws : List V} {j1 j2 : Kd} {b b' : Bool} {t u : T} {ts us : List T} (src1 : SrcK K H1 j1 v vs) (src2 : SrcK K H1 j2 w ws) (e1 : j1.so = t.so) (e2 : j2.so = u.so)
    (hs1 : seqT t = some ts) (hs2 : seqT u = some us) (hl : ts.length ≤ LIM) : ItOk c (IzS K j1 v j2 w) [(b, v, t), (b', w, u)] (zipT ts us) where
  go := fun i H Z q d h ht => by
    obtain ⟨x, y, hx, hy, rfl⟩ := zipT_get ht
    obtain ⟨vs, s1, r1⟩ := src_at hK src1 e1 hs1 (h _ List.mem_cons_self).one
    obtain ⟨ws, s2, r2⟩ := src_at hK src2 e2 hs2 (h _ (List.mem_cons_of_mem _ List.mem_cons_self)).one
    obtain ⟨vx, hvx, rx⟩ := r1.get hx
    obtain ⟨vy, hvy, ry⟩ := r2.get hy
    refine ⟨⟨vs, ws, s1, s2, (List.getElem?_eq_some_iff.mp hvx).1, (List.getElem?_eq_some_iff.mp hvy).1⟩, ?_⟩
    rintro q H' ⟨p, x', y', rfl, hp, rfl, k1, k2⟩
    have q1 := k1 vs s1
    have q2 := k2 ws s2
    rw [hvx] at q1; cases q1
    rw [hvy] at q2; cases q2
    exact pairRep hp d rx ry
  stop := fun H Z h => by
    obtain ⟨vs, s1, r1⟩ := src_at hK src1 e1 hs1 (h _ List.mem_cons_self).one
    obtain ⟨ws, s2, r2⟩ := src_at hK src2 e2 hs2 (h _ (List.mem_cons_of_mem _ List.mem_cons_self)).one
    have l1 := r1.length
    have l2 := r2.length
    exact ⟨vs, ws, s1, s2, by rw [zipT_len]; omega, by rw [zipT_len]; omega, by rw [zipT_len]; omega⟩
  len := by rw [zipT_len]; omega
theorem i_zip (ok : OkX c P B k f X) {es : List Expr} {kk : Nat} (hg : glB f "zip" = true) (hn : noStar e1 = true) (hn2 : noStar e2 = true) (h1 : Snd c P X e1 a) (h2 : Snd c P X e2 b) :
    PI X (.Tuple es kk p) (.Call (.Name "zip" apos) [e1, e2] [] pos) (tI c P (.zip a b)) := by
  have fr := ok.fct.free "zip" (by decide +kernel)
  refine ⟨fun pins s σ H R I h => (pi_zpS (ok.gl hg).1 fr (a_cons (l := .cons b .nil) hn h1 (a_cons (l := .nil) hn2 h2 a_nil)) (starEach_cons hn) (by rw [starEach_cons hn2]; rfl)).run pins s σ H R I ?_⟩
  obtain ⟨Z, env, ts, er, ee, q⟩ := h
  unfold It.ev at ee
  obtain ⟨u, ea, ee⟩ := bnd ee
  obtain ⟨w, eb, ee⟩ := bnd ee
  refine ⟨Z, env, [u, w], er, by unfold Es.ev; rw [ea]; unfold Es.ev; rw [eb]; unfold Es.ev; rfl, fun vs H1 s r nl => ?_⟩
  obtain ⟨v, r', rfl, r1, r2⟩ := r
  obtain ⟨v2, r', rfl, r3, r4⟩ := r2
  cases r4
  unfold zip2T at ee
  obtain ⟨l, hs1, ee⟩ := bnd ee
  obtain ⟨l2, hs2, ee⟩ := mpd ee
  subst ee
  have r1' : RepB a.isP c H1 Z u v := r1
  have r3' : RepB b.isP c H1 Z w v2 := r3
  obtain ⟨⟨j1, vs1, s1, s2, s3⟩, hl1⟩ := src_of hs1 r1'.one
  obtain ⟨⟨j2, vs2, t1, t2, t3⟩, hl2⟩ := src_of hs2 r3'.one
  rw [← ok.hK] at s1 t1
  refine ⟨v, v2, vs1, vs2, rfl, j1, j2, s1, t1, fun k1 k2 e1 e2 x1 x2 => q _ _ [(a.isP, v, u), (b.isP, v2, w)] s ?_ ?_ (itz_ok ok.hK x1 x2 (e1.trans s2) (e2.trans t2) hs1 hs2 hl1)⟩
  · intro q m
    rcases List.mem_cons.mp m with e | m
    · rw [e]; exact r1'
    · rw [List.mem_singleton.mp m]; exact r3'
  · intro z q m
    have z' : (a.isP || b.isP) = false := z
    rw [Bool.or_eq_false_iff] at z'
    rcases List.mem_cons.mp m with e | m
    · rw [e]; exact z'.1
    · rw [List.mem_singleton.mp m]; exact z'.2
theorem itv_ok {K : PySem.W.Frag} {a : Addr} {b : Bool} {l : List T} (hl : l.length ≤ LIM) : ItOk c (Itv K a l.length) [(b, .ref a, .lst l)] l.reverse where
  go := fun i H Z t d h ht => by
    obtain ⟨a', vs, e, ha, r, _⟩ := (h _ List.mem_cons_self).one.lst
    cases e
    have hi : i < l.length := by have := (List.getElem?_eq_some_iff.mp ht).1; rwa [List.length_reverse] at this
    rw [List.getElem?_reverse hi] at ht
    obtain ⟨v, hv, rv⟩ := r.get ht
    refine ⟨⟨hi, vs, v, SqL.of ha, hv⟩, ?_⟩
    rintro x H' ⟨rfl, hx⟩
    have := hx vs (SqL.of ha)
    rw [hv] at this; cases this
    exact ⟨Same.refl _, rv⟩
  stop := fun H Z h => by
    show l.length ≤ _
    rw [List.length_reverse]; exact Nat.le_refl _
  len := by rw [List.length_reverse]; exact hl
theorem itvt_ok {K : PySem.W.Frag} (hK : K = c.K) {a : Addr} {b : Bool} {l : List T} (hl : l.length ≤ LIM) : ItOk c (RT.ItvT K a l.length) [(b, .ref a, .tup l)] l.reverse where
  go := fun i H Z t d h ht => by
    subst hK
    obtain ⟨a', vs, e, ha, r, _⟩ := (h _ List.mem_cons_self).one.tup_
    cases e
    have hi : i < l.length := by have := (List.getElem?_eq_some_iff.mp ht).1; rwa [List.length_reverse] at this
    rw [List.getElem?_reverse hi] at ht
    obtain ⟨v, hv, rv⟩ := r.get ht
    refine ⟨⟨hi, vs, v, ha.seq, hv⟩, ?_⟩
    rintro x H' ⟨rfl, hx⟩
    have := hx vs ha.seq
    rw [hv] at this; cases this
    exact ⟨Same.refl _, rv⟩
  stop := fun H Z h => by
    show l.length ≤ _
    rw [List.length_reverse]; exact Nat.le_refl _
  len := by rw [List.length_reverse]; exact hl
theorem i_rvd (ok : OkX c P B k f X) (hg : glB f "reversed" = true) (hn : noStar e = true) (h1 : Snd c P X e a) : PI X tg (.Call (.Name "reversed" apos) [e] [] pos) (tI c P (.rvd a)) := by
  have fr := ok.fct.free "reversed" (by decide +kernel)
  refine ⟨fun pins s σ H R I h => (RT.pi_revA (ok.gl hg).1 fr h1.pe (starEach_cons hn)).run pins s σ H R I ?_⟩
  obtain ⟨Z, env, ts, er, ee, q⟩ := h
  unfold It.ev at ee
  obtain ⟨u, ea, ee⟩ := bnd ee
  refine one er ea fun v H1 s r => ?_
  cases u <;> cases ee
  · obtain ⟨ad, vs, rfl, ta, rr, hl⟩ := r.one.tup_
    refine ⟨ad, vs, rfl, .inr ⟨by rw [ok.hK]; exact ta.seq, ?_⟩⟩
    rw [rr.length]
    exact q _ _ _ s (FOk.one r) (fun z p m => by rw [List.mem_singleton.mp m]; exact z) (itvt_ok ok.hK hl)
  · obtain ⟨ad, vs, rfl, ta, rr, hl⟩ := r.one.lst
    refine ⟨ad, vs, rfl, .inl ⟨SqL.of ta, ?_⟩⟩
    rw [rr.length]
    exact q _ _ _ s (FOk.one r) (fun z p m => by rw [List.mem_singleton.mp m]; exact z) (itv_ok hl)
end
end Fe

set_option Elab.async false
set_option linter.all false
set_option autoImplicit false
set_option maxRecDepth 100000
set_option maxHeartbeats 4000000
/-! Fe13: comprehensions. -/
namespace Fe
open PySem PySem.Spec PyProof.Rows L2
section
variable {X : Cx} {c : Cl} {P : Pg} {B : Tb} {k : Nat} {f : Cf} {Z Z' : Zn} {H H' H1 H0 : Hp} {σ : L2.St} {env : En} {t : T} {ts us : List T} {v : V} {vs : List V} {e e1 e2 e3 tg : Expr} {a b d : E} {pos p apos : Pos}

theorem Rep1.kp (s : Same H H') (w : Kp H H' Z Z') (h : Rep1 c H Z t v) : Rep1 c H' Z' t v := by
  rcases h with h | ⟨ts, a, vs, e1, e2, h1, h2, h3⟩
  · exact .inl (Rep.kp w _ _ h)
  · exact .inr ⟨ts, a, vs, e1, e2, s _ _ h1, RepL.kp w _ _ h2, h3⟩
theorem SlRd.kp {s : Sl} {o : Option (Option V)} (w : Same H H') (q : Kp H H' Z Z') (h : SlRd c H Z s o) : SlRd c H' Z' s o := by
  cases s with
  | no => trivial
  | fz t => obtain ⟨v, e, r⟩ := h; exact ⟨v, e, Rep.kp q _ _ r⟩
  | bw t => obtain ⟨v, e, r⟩ := h; exact ⟨v, e, Rep1.kp w q r⟩
  | ow t => obtain ⟨v, e, r⟩ := h; exact ⟨v, e, Rep1.kp w q r⟩
  | nw q fs => trivial
theorem ER.kp (w : Same H H') (q : Kp H H' Z Z') (d : ∀ a, Z' a → H' a ≠ none) (h : ER c H Z σ env) : ER c H' Z' σ env := ⟨d, h.len, fun i s e => (h.sl i s e).kp w q⟩
theorem RepB.kp {b : Bool} (w : Same H H') (q : Kp H H' Z Z') (h : RepB b c H Z t v) : RepB b c H' Z' t v := by
  cases b with
  | true => exact Rep1.kp w q h
  | false => exact Rep.kp q _ _ h
theorem FOk.kp {F : FT} (w : Same H H') (q : Kp H H' Z Z') (h : FOk c H Z F) : FOk c H' Z' F := fun p m => (h p m).kp w q
theorem wipeE_len (env : En) : ∀ vs : List Nat, (wipeE env vs).length = env.length
  | [] => rfl
  | v :: vs => by unfold wipeE; rw [List.length_set, wipeE_len env vs]
theorem wipeE_get {i : Nat} : ∀ {vs : List Nat}, (wipeE env vs)[i]? = env[i]? ∨ (wipeE env vs)[i]? = some .no
  | [] => .inl rfl
  | v :: vs => by
    unfold wipeE
    by_cases hi : v = i
    · subst hi
      by_cases hv : v < (wipeE env vs).length
      · rw [List.getElem?_set_self hv]; exact .inr rfl
      · rw [List.getElem?_eq_none (by simpa using hv)]
        rw [wipeE_len] at hv
        rw [List.getElem?_eq_none (by simpa using hv)]; exact .inl rfl
    · rw [List.getElem?_set_ne hi]
      exact wipeE_get
theorem wipe_ne {i : Nat} : ∀ {vs : List Nat}, i ∉ vs → (wipe σ vs)[i]? = σ[i]?
  | [], _ => rfl
  | v :: vs, h => by
    unfold wipe
    rw [List.mem_cons, not_or] at h
    rw [List.getElem?_set_ne (Ne.symm h.1)]
    exact wipe_ne h.2
theorem wipeE_ne {i : Nat} : ∀ {vs : List Nat}, i ∉ vs → (wipeE env vs)[i]? = env[i]?
  | [], _ => rfl
  | v :: vs, h => by
    unfold wipeE
    rw [List.mem_cons, not_or] at h
    rw [List.getElem?_set_ne (Ne.symm h.1)]
    exact wipeE_ne h.2
theorem wipeE_mem {i : Nat} : ∀ {vs : List Nat}, i ∈ vs → i < env.length → (wipeE env vs)[i]? = some .no
  | v :: vs, h, hi => by
    unfold wipeE
    by_cases e : v = i
    · subst e
      rw [List.getElem?_set_self (by rw [wipeE_len]; exact hi)]
    · rw [List.getElem?_set_ne e]
      rcases List.mem_cons.mp h with h | h
      · exact absurd h.symm e
      · exact wipeE_mem h hi
theorem ER.wipe (h : ER c H Z σ env) (vs : List Nat) : ER c H Z (L2.wipe σ vs) (wipeE env vs) := by
  refine ⟨h.dom, by rw [wipeE_len, wipe_length]; exact h.len, fun i s e => ?_⟩
  by_cases hi : i ∈ vs
  · have hl : i < env.length := by
      have := (List.getElem?_eq_some_iff.mp e).1
      rwa [wipeE_len] at this
    rw [wipeE_mem hi hl] at e
    cases e
    trivial
  · rw [wipeE_ne hi] at e
    rw [wipe_ne hi]
    exact h.sl i s e
theorem ER.set1 {i : Nat} (h : ER c H Z σ env) (r : Rep c H Z t v) : ER c H Z (σ.set i (some v)) (env.set i (.fz t)) := by
  refine ⟨h.dom, by rw [List.length_set, List.length_set]; exact h.len, fun j s e => ?_⟩
  by_cases hj : i = j
  · subst hj
    have hl : i < env.length := by
      have := (List.getElem?_eq_some_iff.mp e).1
      rwa [List.length_set] at this
    rw [List.getElem?_set_self hl] at e
    cases e
    exact ⟨v, by rw [List.getElem?_set_self (Nat.lt_of_lt_of_le hl h.len)], r⟩
  · rw [List.getElem?_set_ne hj] at e ⊢
    exact h.sl j s e
theorem ER.sets : ∀ {u : Up} {σ : L2.St} {env : En}, ER c H Z σ env → (∀ q ∈ u, Rep c H Z q.2.2 q.2.1) → ER c H Z (setsS u σ) (setsE u env)
  | [], _, _, h, _ => h
  | q :: u, σ, env, h, r => ER.sets (u := u) (h.set1 (r q List.mem_cons_self)) fun w m => r w (List.mem_cons_of_mem _ m)
theorem wipe_set {i : Nat} {o : Option V} : ∀ {vs : List Nat}, i ∈ vs → wipe (σ.set i o) vs = wipe σ vs
  | v :: vs, h => by
    unfold wipe
    by_cases hm : i ∈ vs
    · rw [wipe_set hm]
    · rcases List.mem_cons.mp h with e | h
      · subst e
        have : ∀ {vs : List Nat}, i ∉ vs → wipe (σ.set i o) vs = (wipe σ vs).set i o := by
          intro vs
          induction vs with
          | nil => intro _; rfl
          | cons v vs ih =>
            intro hn
            rw [List.mem_cons, not_or] at hn
            unfold wipe
            rw [ih hn.2, List.set_comm _ _ hn.1]
        rw [this hm, List.set_set]
      · exact absurd h hm
theorem wipe_sets {vs : List Nat} : ∀ {u : Up} {σ : L2.St}, (∀ q ∈ u, q.1 ∈ vs) → wipe (setsS u σ) vs = wipe σ vs
  | [], _, _ => rfl
  | q :: u, σ, h => by
    show wipe (setsS u (σ.set q.1 (some q.2.1))) vs = _
    rw [wipe_sets (u := u) fun w m => h w (List.mem_cons_of_mem _ m), wipe_set (h q List.mem_cons_self)]
theorem wipe_wipe : ∀ {vs ws : List Nat}, (∀ i ∈ vs, i ∈ ws) → wipe (wipe σ vs) ws = wipe σ ws
  | [], ws, _ => rfl
  | v :: vs, ws, h => by
    show wipe ((wipe σ vs).set v none) ws = _
    rw [wipe_set (h v List.mem_cons_self), wipe_wipe fun i m => h i (List.mem_cons_of_mem _ m)]
def Op.isP : Op → Bool
  | .no => false
  | .so e => e.isP
/-- a comprehension's test -/
def tTO (c : Cl) (P : Pg) : Op → TT
  | .no => tYes
  | .so e => tTt c P e
theorem tTO_rd {o : Op} {kk : Bool} (er : ER c H Z σ env) (h : o.tst P env = some kk) {Q : Bool → Hp → Prop} (q : ∀ H', Same H H' → Q kk H') : tTO c P o σ H Q := by
  cases o with
  | no =>
    unfold Op.tst at h; cases h
    exact q H (Same.refl H)
  | so e =>
    unfold Op.tst at h
    obtain ⟨t, e1, e2⟩ := bnd h
    exact ⟨Z, env, t, kk, er, e1, e2, q⟩
theorem lcL_len {g : T → Option (Option T)} : ∀ {ts us : List T}, lcL g ts = some us → us.length ≤ ts.length
  | [], us, h => by unfold lcL at h; cases h; exact Nat.le_refl _
  | t :: ts, us, h => by
    unfold lcL at h
    split at h
    · cases h
    · split at h
      · cases h
      · rename_i l e
        have := lcL_len e
        split at h <;> cases h <;> simp <;> omega
/-- the reading of a comprehension -/
theorem lc_rd {own : List (Str × Nat)} {g : Tg} {it : It} {o : Op} (hs : ∀ i ∈ g.slots, i ∈ own.map (·.2)) (he : a.isP = false) :
    ∀ σ H Q, tE c P (.lc own g it o a) σ H Q → tLc (tI c P it) (tG c g) (tTO c P o) (tE c P a) (own.map (·.2)) σ H Q := by
  rintro σ H0 Q ⟨Z, env, t, er, ee, q⟩
  have hlim := lim_line
  unfold E.ev at ee
  obtain ⟨ts, ei, ee⟩ := bnd ee
  obtain ⟨res, el, e2⟩ := mpd ee
  subst e2
  revert el
  generalize hg : (fun t => (g.bind t (wipeE env (own.map (·.2)))).bind fun env' => (o.tst P env').bind fun k => bif k then (a.ev P env').map some else some none) = gg
  intro el
  refine ⟨Z, env, ts, er, ei, fun J H1 F s01 fok _ itok => fun D hD => ?_⟩
  have lenres := lcL_len el
  have d1 : Dom Z H1 := (er.same s01).dom
  have hZD : ¬ Z D := fun z => d1 D z hD
  refine ⟨fun i m H => m = ts.length - i ∧ i ≤ ts.length ∧ Same H1 H ∧ ∃ done rest vs, H D = some (.lst vs) ∧ RepL c H (fun x => Z x ∨ x = D) done vs ∧ done.length ≤ i ∧ lcL gg (ts.drop i) = some rest ∧ done ++ rest = res,
    ⟨ts.length, by simp, Nat.zero_le _, same_upd hD, [], res, [], upd_same, RepL.nil, Nat.zero_le _, el, rfl⟩, ?_⟩
  rintro i m H ⟨rfl, hi, s1, done, rest, vs, hDv, rl, dl, lr, eq⟩
  have kp : Kp H1 H Z (fun x => Z x ∨ x = D) := ⟨fun a o e _ => s1 a o e, fun a z => z.elim .inl fun e => .inr (by rw [e]; exact hD)⟩
  have dom : Dom (fun x => Z x ∨ x = D) H := fun x z => z.elim (fun z => same_some s1 (d1 x z)) fun e => by rw [e, hDv]; exact fun z => nomatch z
  have fok' : FOk c H (fun x => Z x ∨ x = D) F := fok.kp s1 kp
  have vlen := rl.length
  by_cases hlt : i < ts.length
  · right
    have hx : ts[i]? = some ts[i] := List.getElem?_eq_getElem hlt
    obtain ⟨jgo, jy⟩ := itok.go i H _ _ dom fok' hx
    refine ⟨jgo, fun H' => ∃ m', m' < ts.length - i ∧ (m' = ts.length - (i + 1) ∧ i + 1 ≤ ts.length ∧ Same H1 H' ∧ ∃ done rest vs, H' D = some (.lst vs) ∧ RepL c H' (fun x => Z x ∨ x = D) done vs ∧ done.length ≤ i + 1 ∧ lcL gg (ts.drop (i + 1)) = some rest ∧ done ++ rest = res), fun H' h => h, ?_⟩
    intro x H2 hyld
    obtain ⟨s2, rx⟩ := jy x H2 hyld
    rw [List.drop_eq_getElem_cons hlt] at lr
    unfold lcL at lr
    split at lr
    · cases lr
    rename_i oo hoo
    split at lr
    · cases lr
    rename_i rest' hrest
    rw [← hg] at hoo
    obtain ⟨env', hb, hoo⟩ := bnd hoo
    obtain ⟨kk, ht, hoo⟩ := bnd hoo
    have er1 : ER c H (fun x => Z x ∨ x = D) σ env := ER.kp s1 kp dom (er.same s01)
    have er2 : ER c H2 (fun x => Z x ∨ x = D) (wipe σ (own.map (·.2))) (wipeE env (own.map (·.2))) := (er1.same s2).wipe _
    refine ⟨_, wipeE env (own.map (·.2)), _, env', rx, hb, fun u hu eu => ⟨?_, ?_⟩⟩
    · rw [wipe_sets fun w m => hs _ (hu w m).2, wipe_wipe fun i m => m]
    · have er3 : ER c H2 (fun x => Z x ∨ x = D) (setsS u (wipe σ (own.map (·.2)))) env' := by
        rw [eu]
        exact er2.sets fun w m => (hu w m).1
      refine tTO_rd er3 ht fun H3 s3 => ?_
      have sm : ts.length - (i + 1) < ts.length - i := by omega
      cases kk with
      | false =>
        cases hoo
        cases lr
        rw [if_neg Bool.false_ne_true]
        have s13 := (s1.trans s2).trans s3
        exact ⟨_, sm, rfl, hlt, s13, done, rest, vs, s3 _ _ (s2 _ _ hDv), RepL.kp (.same (s2.trans s3)) _ _ rl, Nat.le_succ_of_le dl, hrest, eq⟩
      | true =>
        obtain ⟨y, ey, e3⟩ := mpd hoo
        subst e3
        cases lr
        rw [if_pos rfl]
        refine ⟨_, env', y, er3.same s3, ey, fun w H4 s4 r4 => ?_⟩
        have r5 : Rep c H4 (fun x => Z x ∨ x = D) y w := by
          have := r4.1
          rw [he] at this
          exact this
        have s24 := (s2.trans s3).trans s4
        have hDv4 := s24 _ _ hDv
        refine ⟨vs, hDv4, by rw [vlen, ← hlim]; have := itok.len; omega, _, sm, rfl, hlt, ?_, done ++ [y], rest', vs ++ [w], upd_same, ?_, by rw [List.length_append, List.length_singleton]; omega, hrest, by rw [List.append_assoc]; exact eq⟩
        · intro x o hx
          rw [upd_ne (ne_of_none hx hD)]
          exact s24 _ _ (s1 _ _ hx)
        · have kq : Kp H4 (upd H4 D (.lst (vs ++ [w]))) (fun x => Z x ∨ x = D) (fun x => Z x ∨ x = D) := ⟨fun a o e nz => by rw [upd_ne fun z => nz (.inr z)]; exact e, fun a z => .inl z⟩
          exact RepL.kp kq _ _ (RepL.append (RepL.kp (.same s24) _ _ rl) (RepL.cons r5 RepL.nil))
  · left
    have hie : i = ts.length := by omega
    subst hie
    rw [List.drop_length] at lr
    unfold lcL at lr
    cases lr
    rw [List.append_nil] at eq
    subst eq
    refine ⟨itok.stop H _ fok', q _ _ (s01.trans s1) ⟨?_, fun _ us eu => ?_⟩⟩
    · exact Rep.lst_iff.mpr ⟨D, vs, rfl, hZD, hDv, RepL.kp (.sub fun _ z => .inl z) _ _ rl, by have := itok.len; omega⟩
    · cases eu
      exact ⟨D, vs, rfl, Same.free s01 hD, hDv, rl, by have := itok.len; omega⟩

theorem blk_ok {scope : Scope} (ok : OkX c P B k f X) (s : Shared) (H : Hp) (C : Addr) (cl : List (Str × Addr)) (fp : List Addr) :
    OkX c P B k ⟨f.N, relS scope f.sc, fun x => scope.names.lookup x == some .cell⟩ (X.blk s H scope (compEnvC scope cl C X.env) fp) where
  N := ok.N
  nd := ok.nd
  sc := by
    show relS scope X.env.scope = _
    rw [ok.sc]
  fn := fun x => rfl
  calm := ok.calm
  rm := ok.rm
  fct := ok.fct
theorem s_lc (ok : OkX c P B k f X) {own : List (Str × Nat)} {g : Tg} {it : It} {o : Op} {ifs : List Expr} {scope : Scope} (hs : ∀ i ∈ g.slots, i ∈ own.map (·.2)) (he : a.isP = false) (hb : blkC f.N f.sc scope own = true) (hset : noSet e2 = true)
    (hi : PI X tg e2 (tI c P it)) (hg : ∀ X', OkX c P B k ⟨f.N, relS scope f.sc, fun x => scope.names.lookup x == some .cell⟩ X' → PG X' tg (tG c g))
    (ht : ∀ X', OkX c P B k ⟨f.N, relS scope f.sc, fun x => scope.names.lookup x == some .cell⟩ X' → PTs X' ifs (tTO c P o))
    (h : ∀ X', OkX c P B k ⟨f.N, relS scope f.sc, fun x => scope.names.lookup x == some .cell⟩ X' → PE X' e (tE c P a)) :
    Snd c P X (.ListComp e [⟨tg, e2, ifs, 0⟩] scope pos) (.lc own g it o a) := by
  refine .plain ok.hK (PE.imp (pe_lc ok.calm ok.nd hi (by rw [ok.N, ok.sc]; exact blkOk_by hb) (fun s H C cl fp => hg _ (blk_ok ok s H C cl fp)) (fun s H C cl fp => ht _ (blk_ok ok s H C cl fp)) (fun s H C cl fp => h _ (blk_ok ok s H C cl fp)) fun x => folded_of hset) (lc_rd hs he)) rfl
end
end Fe

set_option Elab.async false
set_option linter.all false
set_option autoImplicit false
set_option maxRecDepth 100000
set_option maxHeartbeats 4000000
/-! FeS: set(xs) of any texts; how many there are. -/
namespace Fe
open PySem PySem.Spec PyProof.Rows L2
theorem fm_snoc (x : Str) : ∀ (l acc : List Str), firstMetS acc (l ++ [x]) = if x ∈ firstMetS acc l then firstMetS acc l else firstMetS acc l ++ [x]
  | [], acc => by
    show firstMetS acc [x] = _
    unfold firstMetS
    split
    · rfl
    · rfl
  | y :: l, acc => by
    show firstMetS acc (y :: (l ++ [x])) = _
    unfold firstMetS
    split
    · exact fm_snoc x l acc
    · exact fm_snoc x l (acc ++ [y])
theorem fm_len : ∀ (l acc : List Str), (firstMetS acc l).length ≤ acc.length + l.length
  | [], acc => Nat.le_refl _
  | y :: l, acc => by
    unfold firstMetS
    split
    · have := fm_len l acc
      rw [List.length_cons]; omega
    · have := fm_len l (acc ++ [y])
      rw [List.length_append, List.length_singleton] at this
      rw [List.length_cons]; omega
abbrev mt (xs : List Str) (i : Nat) : List Str := firstMetS [] (xs.take i)
theorem mt_succ {xs : List Str} {i : Nat} {x : Str} (h : xs[i]? = some x) : mt xs (i + 1) = if x ∈ mt xs i then mt xs i else mt xs i ++ [x] := by
  unfold mt
  rw [List.take_add_one, h]
  exact fm_snoc x _ _
section
variable {P : Program} {w : World} {A : Around} {R : Result → Shared → Prop} {I : Addr} {fp wr : List Addr} {G : Array GenState → Array GenState → Prop} {n : Nat} {Pv : Nat → Value → Prop} {St : Nat → Shared → Prop}
abbrev SS_ (P : Program) (w : World) (h : Heap) (D : Addr) (l : List Str) : Prop := h.SetOf (PySem.strKind P w) D (fun y => decide (y ∈ l)) l.length
theorem ss_at {h h' : Heap} {D : Addr} {l : List Str} (R : SS_ P w h D l) (k : ∀ o, h.get? D = some o → h'.get? D = some o) : SS_ P w h' D l := by
  obtain ⟨o, es, ep, t, ho, q⟩ := R
  exact ⟨o, es, ep, t, k o ho, q⟩
/-- the update's loop, from turn i -/
theorem fill_loop (W : WalksS P w A.in1 I fp wr G n Pv St) (D : Addr) (nf : D ∉ fp) (xs : List Str) (hs : xs.length = n) (few : n ≤ 4000) (val : ∀ i v, Pv i v → ∃ x t, xs[i]? = some x ∧ v = .str x t) :
    ∀ (m i : Nat) (s : Shared), n - i = m → i ≤ n → St i s → SS_ P w s.heap D (mt xs i) → (∀ s', Moved (D :: wr) G s s' → SS_ P w s'.heap D (mt xs n) → R (.ok (.ret .none)) s') →
      codeAny (model P w) A (.builtin "set.update.loop" ⟨[.ref D, .ref I], []⟩) R s := by
  have nw : D ∉ wr := fun z => nf (W.sub _ z)
  have sub : ∀ b ∈ wr, b ∈ D :: wr := fun b z => List.mem_cons_of_mem _ z
  intro m
  induction m with
  | zero =>
    intro i s hm hi st hS k
    obtain rfl : i = n := by omega
    refine codeAny_builtin F.entry_set_update_loop ?_
    rw [Around.under_plainId F.plain_set_update_loop _]
    refine wpAny_bind (m := pyNext (.ref I)) (W.done s _ _ st fun s1 mv => ?_)
    exact wpAny_pure (k s1 (mv.mono sub) (ss_at hS fun o e => mv.heap D _ nw e))
  | succ m ih =>
    intro i s hm hi st hS k
    have lt : i < n := by omega
    refine codeAny_builtin F.entry_set_update_loop ?_
    rw [Around.under_plainId F.plain_set_update_loop _]
    refine wpAny_bind (m := pyNext (.ref I)) (W.item i s _ _ lt st fun v s1 pv st1 mv => ?_)
    obtain ⟨x, t, hx, rfl⟩ := val i v pv
    have hS1 : SS_ P w s1.heap D (mt xs i) := ss_at hS fun o e => mv.heap D _ nw e
    refine wpAny_bind (m := holding [Value.str x t] (setAdd D (.str x t))) (wpAny_holding ?_)
    unfold setAdd
    refine wpAny_holding (wpAny_bind ((PySem.strKind P w).pyHash (k := x) (strKind_is _ _ _ _) ?_))
    have room : (mt xs i).length + 1 < scanBound := by
      have h1 := fm_len (xs.take i) []
      have h2 : (xs.take i).length ≤ n := by rw [List.length_take]; omega
      have h3 : (mt xs i).length = (firstMetS [] (xs.take i)).length := rfl
      rw [List.length_nil] at h1
      unfold scanBound; omega
    refine wpAny_setAddHashed_of (knd := PySem.strKind P w) (s := { s1 with toks := s1.toks + 1 }) (strKind_is _ _ _ _) rfl hS1 room fun h2 sb hS2 => ?_
    have hS3 : SS_ P w h2 D (mt xs (i + 1)) := by
      rw [mt_succ hx]
      refine SetOf_congr hS2 (fun y => ?_) ?_
      · by_cases hm : x ∈ mt xs i
        · rw [if_pos hm]
          by_cases hy : y = x
          · subst hy; simp [hm]
          · simp [hy]
        · rw [if_neg hm]
          by_cases hy : y = x
          · subst hy; simp
          · simp [hy]
      · by_cases hm : x ∈ mt xs i
        · rw [if_pos hm]; simp [hm]
        · rw [if_neg hm]; simp [hm]
    refine wpAny_pure ⟨plainId_quiet F.plain_set_update_loop _, ih (i + 1) _ (by omega) lt (W.frame _ s1 _ _ st1 (Nat.le_succ _) fun b hb o e => ?_) hS3 fun s3 mv3 hS4 => k s3 (Moved.trans W.gtrans ((mv.mono sub).then_heap (Nat.le_succ _) fun b o hb e => ?_) mv3) hS4⟩
    · rw [sb.2 b fun z => nf (by rw [← z]; exact hb)]; exact e
    · rw [sb.2 b fun z => hb (by rw [z]; exact List.mem_cons_self)]; exact e
end
section
variable {P : Program} {w : World} {A : Around} {E : Value → Shared → Prop} {s : Shared}
def setO (led : Bool) : Obj := { cls := .type "set", dict := none, data := .set #[] 0 (.fresh 0 0 led) }
set_option maxHeartbeats 3200000 in
/-- set(xs), xs a list of texts -/
theorem set_strs {l : Addr} {its : Array Value} {xs : List Str} {Q : Value → Shared → Prop} (hh : A.handled = none) (hl : s.heap.IsList l its) (hi : StrsAre its.toList xs) (few : xs.length ≤ 4000)
    (k : ∀ (h' : Heap) (tk : Nat), SS_ P w h' s.heap.objs.size (firstMetS [] xs) → (∀ b o, b < s.heap.objs.size → s.heap.get? b = some o → h'.get? b = some o) → Q (.ref s.heap.objs.size) { s with heap := h', toks := tk }) :
    wpAny (model P w) A (call (.type "set") [.ref l]) Q E s := by
  have hsz : xs.length = its.size := by rw [← StrsAre.len_eq hi, Array.length_toList]
  have ct := PySem.F.called_set
  obtain ⟨c0, t0, hmro⟩ := ct.mro
  have q1 := ct.made
  have q2 := ct.sub
  have q3 := ct.notType
  have q4 := ct.canCreate
  have q5 := PySem.F.typeCall_set_1 (.ref l)
  refine wpAny_call (codeAny_of_tree (wpAny_pure (a := Fin.again (.builtin "type.__call__" ⟨[.type "set", .ref l], []⟩)) ⟨Code.quiet_builtin _ (by decide +kernel), codeAny_builtin PySem.F.entry_type_call ?_⟩))
  rw [Around.under_plain (weight_type_call_type "set" [.ref l] []) rfl]
  repeat (any_goals (first | assumption | wp_step))
  refine codeAny_mono (code_set_new_1 (.ref l) (E := E) (Q₁ := fun o s1 => ∃ led, o = .ref s.heap.objs.size ∧ s1 = { s with heap := s.heap.push (setO led) }) fun led => ⟨led, rfl, rfl⟩) fun r s1 hr => ?_
  match r, hr with
  | .error e, hr => exact hr
  | .ok .next, hr => exact hr.elim
  | .ok .brk, hr => exact hr.elim
  | .ok .cont, hr => exact hr.elim
  | .ok (.ret o), hr =>
    obtain ⟨led, rfl, rfl⟩ := hr
    have oS : (s.heap.push (setO led)).get? s.heap.objs.size = some (setO led) := Heap.get?_push_size _ rfl
    have tS : Shared.TypeIs { s with heap := s.heap.push (setO led) } (.ref s.heap.objs.size) "set" := ⟨_, oS, rfl⟩
    have q6 := ct.init.lookup
    have q7 := ct.init.bind (.ref s.heap.objs.size)
    repeat (any_goals (first | assumption | wp_step))
    refine codeAny_mono (codeAny_call_builtin (R := wants (fun r s2 => r = .none ∧ ∃ h' tk, s2 = { s with heap := h', toks := tk } ∧ SS_ P w h' s.heap.objs.size (firstMetS [] xs) ∧ ∀ b o, b < s.heap.objs.size → s.heap.get? b = some o → h'.get? b = some o) E)
      ct.init.plain PySem.F.entry_set_init (check_set_init_1 tS ?_)) fun r2 s2 hr2 => ?_
    · obtain ⟨⟨oc, od, dt, os⟩, e1, e2, nl, e3⟩ := hl
      dsimp only at e2 e3
      subst e2 e3
      have oL : (s.heap.push (setO led)).get? l = some { cls := .type "list", dict := od, data := .seq its nl, slots := os } := Heap.get?_push_of_some _ e1
      have q8 := PySem.F.sub_list_set
      have q9 := PySem.F.sub_list_frozenset
      have q10 : (Value.type "list" == Value.type "dict") = false := by decide
      have iL : (s.heap.push (setO led)).IsList l its := ⟨_, oL, rfl, nl, rfl⟩
      unfold Builtin.«set.__init__» noKeywords Builtin.Frozenset.updateFrom
      generalize hPI : pyIter = PI
      wp_walk
      subst hPI
      have ls : l < s.heap.objs.size := Heap.lt_size e1
      have sz : (s.heap.push (setO led)).objs.size = s.heap.objs.size + 1 := Heap.size_push ..
      refine wpAny_pyIter_list iL (wpAny_bind (wpAny_runValue ?_))
      have ne : l ≠ (s.heap.push (setO led)).objs.size := by
        rw [sz]
        exact Nat.ne_of_lt (Nat.lt_succ_of_lt ls)
      have nf : s.heap.objs.size ∉ [(s.heap.push (setO led)).objs.size, l] := fun z => by
        rcases List.mem_cons.mp z with z | z
        · rw [sz] at z; exact Nat.ne_of_lt (Nat.lt_succ_self _) z
        · exact Nat.ne_of_gt ls (List.mem_singleton.mp z)
      refine fill_loop ((Walks.list (by simp [hh]) _ l ne its).toS) s.heap.objs.size nf xs hsz (by rw [← hsz]; exact few) (fun i v hv => ?_) (its.size - 0) 0 _ rfl (Nat.zero_le _) ⟨⟨_, Heap.get?_push_size _ rfl, rfl, rfl⟩, iL.push _⟩ ?_ fun s3 mv hS => ?_
      · have hv' : its[i]? = some v := hv
        have hlt : i < its.size := (Array.getElem?_eq_some_iff.mp hv').1
        obtain ⟨t, ht⟩ := SS.strs_at hi i v (by rw [Array.getElem?_toList]; exact hv')
        have hx : xs[i]? = some xs[i] := List.getElem?_eq_getElem (by omega)
        refine ⟨_, t, hx, ?_⟩
        rw [ht, List.getD_eq_getElem?_getD, hx]; rfl
      · have o2 : ((s.heap.push (setO led)).push { cls := .type "list_iterator", data := .fields #[.ref l, .int 0 0] }).get? s.heap.objs.size = some (setO led) := Heap.get?_push_of_some _ oS
        exact SetOf_congr ((setObjOf_fresh (knd := PySem.strKind P w) led).setOf o2 (by unfold scanBound; omega)) (fun y => by simp [mt, firstMetS]) rfl
      · obtain ⟨h', g', d', tk', os'⟩ := s3
        obtain rfl : g' = s.gens := mv.gens
        obtain rfl : d' = s.drawn := mv.drawn
        obtain rfl : os' = s.os := mv.os
        have hS' : SS_ P w h' s.heap.objs.size (firstMetS [] xs) := by
          have e : mt xs its.size = firstMetS [] xs := by
            unfold mt
            rw [← hsz, List.take_length]
          rw [← e]; exact hS
        refine wpAny_pure (wpAny_pure ⟨rfl, h', tk', rfl, hS', fun b o hb e => mv.heap b o (fun z => ?_) (Heap.get?_push_of_some _ (Heap.get?_push_of_some _ e))⟩)
        rcases List.mem_cons.mp z with z | z
        · exact Nat.ne_of_lt hb z
        · have z' := List.mem_singleton.mp z
          rw [sz] at z'
          exact Nat.ne_of_lt (Nat.lt_succ_of_lt hb) z'
    · match r2, hr2 with
      | .error e, hr2 => exact hr2
      | .ok .next, hr2 => exact hr2.elim
      | .ok .brk, hr2 => exact hr2.elim
      | .ok .cont, hr2 => exact hr2.elim
      | .ok (.ret r), hr2 =>
        obtain ⟨rfl, h', tk, rfl, hS, hk⟩ := hr2
        repeat (any_goals (first | assumption | wp_step))
        exact k h' tk hS hk
end
end Fe

set_option Elab.async false
set_option linter.all false
set_option autoImplicit false
set_option maxRecDepth 100000
set_option maxHeartbeats 4000000
/-! FeR: isinstance of own classes; repr against repr; len(set(xs)). -/
namespace Fe
open PySem PySem.Spec PyProof.Rows L2
mutual
theorem noDict : ∀ t : T, t.toD.hasDict = false
  | .non => rfl
  | .bl _ => rfl
  | .int _ => rfl
  | .str _ => rfl
  | .tup l => by unfold T.toD PyData.hasDict; exact noDicts l
  | .lst l => by unfold T.toD PyData.hasDict; exact noDicts l
  | .scr _ => rfl
  | .obj _ _ => rfl
theorem noDicts : ∀ l : List T, PyData.hasDictAll (toDs l) = false
  | [] => rfl
  | t :: r => by unfold toDs PyData.hasDictAll; rw [noDict t, noDicts r]; rfl
end
section
variable {X : Cx} {c : Cl} {P : Pg} {B : Tb} {k : Nat} {f : Cf} {Z : Zn} {H H' : Hp} {σ : L2.St} {env : En} {t : T} {e e1 e2 e3 : Expr} {a b d : E} {pos p p2 q q2 apos : Pos} {x m : Str}
theorem s_isi (ok : OkX c P B k f X) {n : Nat} (h0 : glB f "isinstance" = true) (hi : B.isc n = true) (hg : glB f x = true) (hc : B.cls n = some x) (hn : noStar e = true) (h1 : Snd c P X e a) :
    Snd c P X (.Call (.Name "isinstance" p) [e, .Name x p2] [] pos) (.isi a n) := by
  obtain ⟨hm, _, _⟩ := ok.fct.made n x hc
  obtain ⟨g1, g2⟩ := ok.gl hg
  have I := ok.fct.isc n hi
  have pa : PA X [e, .Name x p2] (tCons (tE c P a) (tCons (tC (.ref (c.cl n))) tNil)) := pa_cons h1.pe (pa_cons (pe_glob g1 hm rfl g2) pa_nil) (starEach_cons hn)
  refine .plain ok.hK (PE.imp (pe_callB (C8.call_isC I) (ok.gl h0).1 (ok.fct.free "isinstance" (by decide +kernel)) boot_isinstance pa (by decide +kernel) (by decide +kernel) (starEach_cons hn) rfl) ?_) rfl
  rintro σ H Q ⟨Z, env, t, er, ee, z⟩
  unfold E.ev at ee
  obtain ⟨u, ea, ee⟩ := bnd ee
  unfold isiT at ee
  split at ee
  · split at ee <;> cases ee
    rename_i l hk
    subst hk
    refine one er ea fun v H1 s r => ?_
    obtain ⟨ad, dx, vs, ev, nz, ha, rr, hl⟩ := Rep.obj_iff.mp (r.one.non fun _ z => nomatch z)
    exact ⟨ad, dx, _, by rw [ev], ha, z _ _ s (Res.of (Rep.bl_iff.mpr rfl))⟩
  · cases ee
/-- repr of plain data -/
theorem cr_repr (hK : X.K = c.K) (hr : Rm k X.A) : CallR X (.builtin "repr") (fun vs H Q => ∃ Z y v, vs = [v] ∧ Rep1 c H Z y v ∧ y.shw = true ∧ Q (.str y.toD.shown) H) := by
  intro pins s σ H vs us Q I r h
  obtain ⟨Z, y, v, rfl, ry, hs, q⟩ := h
  obtain ⟨u, rfl, ru⟩ := r.one
  unfold T.shw at hs
  simp only [Bool.and_eq_true, decide_eq_true_eq] at hs
  obtain ⟨h1, h2, h3, h4⟩ := hs
  have dp := dp_of y DM v h2 ry
  rw [← hK] at dp
  obtain ⟨as, rd⟩ := Dp.reads I _ _ _ dp ru
  have hu : ∃ ad, u = .ref ad := by
    cases y <;> first | (cases h1; done) | skip
    · obtain ⟨ad, vs, e, _⟩ := ry.tup_
      subst e
      exact ⟨ad, ru⟩
    · obtain ⟨ad, vs, e, _⟩ := ry.lst
      subst e
      exact ⟨ad, ru⟩
  obtain ⟨ad, rfl⟩ := hu
  have hd := depth_of y DM h2
  have hun := hr.r.un
  have hDM : DM = 60 := rfl
  refine repr_of_reads' rd h3 (fun z => by rw [noDict] at z; cases z) hr.g (by omega) (fun _ _ e => e) (fun h' t tk hk => ⟨.str y.toD.shown, H, I.kept hk, ⟨t, rfl⟩, q⟩) (by rw [← lim_line]; exact h4)
theorem s_repq (ok : OkX c P B k f X) (h0 : glB f "repr" = true) (hn : noStar e1 = true) (hn2 : noStar e2 = true) (h1 : Snd c P X e1 a) (h2 : Snd c P X e2 b) :
    Snd c P X (.Compare (.Call (.Name "repr" p) [e1] [] q) [.Eq] [.Call (.Name "repr" p2) [e2] [] q2] pos) (.repq a b) := by
  have fr := ok.fct.free "repr" (by decide +kernel)
  have g := (ok.gl h0).1
  have c1 := pe_callB (p := p) (pos := q) (cr_repr ok.hK ok.rm) g fr boot_repr (pa_cons h1.pe pa_nil (starEach_cons hn)) (by decide +kernel) (by decide +kernel) (starEach_cons hn) rfl
  have c2 := pe_callB (p := p2) (pos := q2) (cr_repr ok.hK ok.rm) g fr boot_repr (pa_cons h2.pe pa_nil (starEach_cons hn2)) (by decide +kernel) (by decide +kernel) (starEach_cons hn2) rfl
  have rd : ∀ {t : T} {env : En}, (E.repq a b).ev P env = some t → ∃ u v, a.ev P env = some u ∧ b.ev P env = some v ∧ u.shw = true ∧ v.shw = true ∧ t = .bl (decide (u.toD.shown = v.toD.shown)) := by
    intro t env ee
    unfold E.ev at ee
    obtain ⟨u, ea, ee⟩ := bnd ee
    obtain ⟨v, eb, ee⟩ := bnd ee
    unfold repqT at ee
    split at ee <;> cases ee
    have hs : (u.shw && v.shw) = true := by assumption
    rw [Bool.and_eq_true] at hs
    exact ⟨u, v, ea, eb, hs.1, hs.2, rfl⟩
  have ds : ∀ x y : Str, decide (V.str x = V.str y) = decide (x = y) := fun x y => by simp
  refine ⟨PE.imp (pe_cmpR op_eq c1 c2 (marks_of rfl)) ?_, PT.imp (pt_cmpR op_eq c1 c2 (marks_of rfl)) ?_, fun z => absurd (show false = true from z) Bool.false_ne_true⟩
  · rintro σ H Q ⟨Z, env, t, er, ee, z⟩
    obtain ⟨u, v, ea, eb, s1, s2, rfl⟩ := rd ee
    refine one er ea fun w H1 w1 r1 => ⟨Z, u, w, rfl, r1.one, s1, one (er.same w1) eb fun w' H2 w2 r2 => ⟨Z, v, w', rfl, r2.one, s2, rfl, ?_⟩⟩
    rw [ds]
    exact z _ _ (w1.trans w2) (Res.of (Rep.bl_iff.mpr rfl))
  · rintro σ H Q ⟨Z, env, t, k', er, ee, et, z⟩
    obtain ⟨u, v, ea, eb, s1, s2, rfl⟩ := rd ee
    cases et
    refine one er ea fun w H1 w1 r1 => ⟨Z, u, w, rfl, r1.one, s1, one (er.same w1) eb fun w' H2 w2 r2 => ⟨Z, v, w', rfl, r2.one, s2, rfl, _, rfl, ?_⟩⟩
    rw [ds]
    exact z _ (w1.trans w2)
theorem s_lenset (ok : OkX c P B k f X) {l : Es} (h0 : glB f "len" = true) (h2 : glB f "set" = true) (hn : noStar e = true) (h1 : PA X [e] (tA c P l l.flags)) :
    Snd c P X (.Call (.Name "len" p) [.Call (.Name "set" p2) [e] [] q] [] pos) (.bi .lenset l) := by
  refine .plain ok.hK ⟨fun pins s σ H Q I h => ?_⟩ rfl
  obtain ⟨Z, env, t, er, ee, z⟩ := h
  unfold E.ev at ee
  obtain ⟨ts, ez, ee⟩ := bnd ee
  have ee' : ∃ l ss, ts = [.lst l] ∧ strs? l = some ss ∧ ss.length ≤ 4000 ∧ t = .int (firstMetS [] ss).length := by
    clear ez er z
    match ts, ee with
    | [.lst l], ee =>
      have e6 : (match strs? l with
        | some ss => if ss.length ≤ 4000 then some (T.int (firstMetS [] ss).length) else none
        | none => none) = some t := ee
      split at e6
      · split at e6 <;> cases e6
        exact ⟨l, _, rfl, by assumption, by assumption, rfl⟩
      · cases e6
  obtain ⟨l', ss, rfl, hss, few, rfl⟩ := ee'
  refine Call_ (ld_blt I (ok.gl h0).1 (ok.fct.free "len" (by decide +kernel)) boot_len ?_)
  refine PyProof.Rows.callWith_builtin1 (PyProof.Rows.args_cons ?_ rfl) rfl rfl
  refine Call_ (ld_blt I (ok.gl h2).1 (ok.fct.free "set" (by decide +kernel)) boot_set ?_)
  refine PyProof.Rows.callWith_type1 (thn (h1.run q pins s σ H (fun vs H1 => Same H H1 ∧ RepA1 c H1 Z [.lst l'] vs) I ⟨Z, env, _, er, ez, fun vs H1 w r _ => ⟨w, r.one_⟩⟩) fun us s1 ⟨vs, H1, I1, rvs, w, r⟩ => ?_) (starEach_cons hn) rfl
  obtain ⟨v, rfl, rv1⟩ := RepA1.one r
  obtain ⟨u, rfl, ru⟩ := rvs.one
  obtain ⟨ad, vs, rfl, ha, rl, _⟩ := rv1.lst
  obtain ⟨ev, _⟩ := strs_rep hss rl
  subst ev
  have eu : u = Value.ref ad := ru
  subst eu
  obtain ⟨its, rv, pl, hz⟩ := I1.list (SqL.of ha)
  refine set_strs (I1.ok.hd ok.calm) pl.isList (by simpa using L2.strsAre_of rv) few fun h' tk hS hk => ?_
  refine PyProof.Rows.args_nil ?_
  obtain ⟨o, es, ep, tb, ho, hex, hd, _, _, hb, hf, hn'⟩ := hS
  have I2 : Inv X pins σ H1 { s1 with heap := h', toks := tk } := I1.kept fun b o e => hk b o (Heap.lt_size e) e
  have hlen := fm_len ss []
  rw [List.length_nil] at hlen
  refine call_len_set ho hex hd hf (by rw [hn']; omega) ⟨.int (firstMetS [] ss).length, H1, I2.tok _, ⟨_, by rw [hn']⟩, z _ _ w (Res.of (Rep.int_iff.mpr rfl))⟩
end
end Fe

set_option Elab.async false
set_option linter.all false
set_option autoImplicit false
set_option maxRecDepth 100000
set_option maxHeartbeats 4000000
/-! Fe14: the look at an expression, whole; what it says is so. -/
namespace Fe
open PySem PySem.Spec PyProof.Rows L2
abbrev blkF (f : Cf) (scope : Scope) : Cf := ⟨f.N, relS scope f.sc, fun x => scope.names.lookup x == some .cell⟩
def inB (l : List Nat) (own : List (Str × Nat)) : Bool := l.all fun i => decide (i ∈ own.map (·.2))
def fnB (B : Tb) (f : Cf) (i : Nat) (x : Str) (fl : List Bool) : Bool := match B.fns i with
  | some (y, bw, n) => decide (y = x) && (glB f x && (leB fl bw && decide (fl.length = n)))
  | none => false
def lsB : Bi → Bool
  | .lenset => true
  | _ => false
mutual
def E.chk (B : Tb) : Cf → E → Expr → Bool
  | f, .v i, e => match e with
    | .Name x _ => nmB f i x
    | _ => false
  | f, .p i, e => match e with
    | .Name x _ => nmB f i x
    | _ => false
  | f, .k t, e => match e with
    | .Constant z _ _ => kB t z
    | _ => false
  | f, .g j, e => match e with
    | .Name x _ => glB f x && decide (B.glb j = some x)
    | _ => false
  | f, .tup l, e => match e with
    | .Tuple es _ _ => noP l && (decide (l.flags.length ≤ 1000) && Es.chk B f l es)
    | _ => false
  | f, .lst l, e => match e with
    | .List es _ => noP l && (decide (l.flags.length ≤ 1000) && Es.chk B f l es)
    | _ => false
  | f, .bin o a b, e => match e with
    | .BinOp e1 op e2 _ => bopOk o op && (E.chk B f a e1 && E.chk B f b e2)
    | _ => false
  | f, .neg a, e => match e with
    | .UnaryOp .USub e _ => E.chk B f a e
    | _ => false
  | f, .nt a, e => match e with
    | .UnaryOp .Not e _ => E.chk B f a e
    | _ => false
  | f, .cmp o a b, e => match e with
    | .Compare e1 [op] [e2] _ => copOk o op && (noSet e2 && (E.chk B f a e1 && E.chk B f b e2))
    | _ => false
  | f, .cmp2 o o' a b d, e => match e with
    | .Compare e1 [op, op'] [e2, e3] _ => copOk o op && (copOk o' op' && (noSet e3 && (E.chk B f a e1 && (E.chk B f b e2 && E.chk B f d e3))))
    | _ => false
  | f, .and a b, e => match e with
    | .BoolOp .And [e1, e2] _ => !a.isP && (!b.isP && (E.chk B f a e1 && E.chk B f b e2))
    | _ => false
  | f, .andN a b, e => match e with
    | .BoolOp .And (e1 :: e2 :: es) pos => !a.isP && (!b.isP && (E.chk B f a e1 && E.chk B f b (.BoolOp .And (e2 :: es) pos)))
    | _ => false
  | f, .or a b, e => match e with
    | .BoolOp .Or [e1, e2] _ => !a.isP && (!b.isP && (E.chk B f a e1 && E.chk B f b e2))
    | _ => false
  | f, .orN a b, e => match e with
    | .BoolOp .Or (e1 :: e2 :: es) pos => !a.isP && (!b.isP && (E.chk B f a e1 && E.chk B f b (.BoolOp .Or (e2 :: es) pos)))
    | _ => false
  | f, .ife d a b, e => match e with
    | .IfExp e1 e2 e3 _ => !a.isP && (!b.isP && (E.chk B f d e1 && (E.chk B f a e2 && E.chk B f b e3)))
    | _ => false
  | f, .ix a b, e => match e with
    | .Subscript e1 e2 _ => noSlice e2 && (E.chk B f a e1 && E.chk B f b e2)
    | _ => false
  | f, .sl a lo hi, e => match e with
    | .Subscript e1 (.Slice l h none _) _ => E.chk B f a e1 && (Op.chk B f lo l && Op.chk B f hi h)
    | _ => false
  | f, .rev a, e => match e with
    | .Subscript e1 (.Slice none none (some (.UnaryOp .USub (.Constant (.int 1) _ _) _)) _) _ => E.chk B f a e1
    | _ => false
  | f, .fld a x, e => match e with
    | .Attribute e1 y _ => decide (x = y) && (noSup e1 && E.chk B f a e1)
    | _ => false
  | f, .call i l, e => match e with
    | .Call (.Name x _) es [] _ => fnB B f i x l.flags && (es.all noStar && Es.chk B f l es)
    | _ => false
  | f, .meth a m l, e => match e with
    | .Call (.Attribute e1 y apos) es [] pos => decide (m = y) && (noSup e1 && (decide (es.length < 29) && ((apos.endLine == pos.line) && (noP l && (es.all noStar && (E.chk B f a e1 && Es.chk B f l es))))))
    | _ => false
  | f, .mk q l, e => match e with
    | .Call (.Name x _) es [] _ => glB f x && (decide (B.cls q = some x) && (noP l && (es.all noStar && Es.chk B f l es)))
    | _ => false
  | f, .bi b l, e => match e with
    | .Call (.Name x _) (e :: es) [] _ => if lsB b then decide (x = "len") && (glB f "len" && (glB f "set" && (es.isEmpty && (match e with
        | .Call (.Name y _) [e1] [] _ => decide (y = "set") && (noStar e1 && Es.chk B f l [e1])
        | _ => false)))) else decide (x = b.nm) && (b.pl && (glB f b.nm && ((e :: es).all noStar && Es.chk B f l (e :: es))))
    | _ => false
  | f, .bm b a l, e => match e with
    | .Call (.Attribute e1 y apos) es [] pos => decide (y = b.nm) && (noSup e1 && (decide (es.length < 29) && ((apos.endLine == pos.line) && (es.all noStar && (E.chk B f a e1 && Es.chk B f l es)))))
    | _ => false
  | f, .lc own g it o a, e => match e with
    | .ListComp e [⟨tg, e2, ifs, 0⟩] scope _ => inB g.slots own && (!a.isP && (blkC f.N f.sc scope own && (noSet e2 && (It.chk B f it tg e2 && (g.chk (blkF f scope) tg && (Op.chkI B (blkF f scope) o ifs && E.chk B (blkF f scope) a e))))))
    | _ => false
  | f, .dsel kvs a, e => match e with
    | .Subscript (.Dict ks vs _) e1 _ => allK ks vs kvs && (!kvs.isEmpty && (decide (kvs.length ≤ 15) && (decide (kvs.map (·.1)).Nodup && (noSlice e1 && E.chk B f a e1))))
    | _ => false
  | f, .isi a n, e => match e with
    | .Call (.Name g _) [e1, .Name x _] [] _ => decide (g = "isinstance") && (glB f "isinstance" && (B.isc n && (glB f x && (decide (B.cls n = some x) && (noStar e1 && E.chk B f a e1)))))
    | _ => false
  | f, .repq a b, e => match e with
    | .Compare (.Call (.Name g _) [e1] [] _) [.Eq] [.Call (.Name g' _) [e2] [] _] _ => decide (g = "repr") && (decide (g' = "repr") && (glB f "repr" && (noStar e1 && (noStar e2 && (E.chk B f a e1 && E.chk B f b e2)))))
    | _ => false
def Op.chk (B : Tb) : Cf → Op → Option Expr → Bool
  | f, .no, e => match e with
    | none => true
    | _ => false
  | f, .so a, e => match e with
    | some e => E.chk B f a e
    | _ => false
def Op.chkI (B : Tb) : Cf → Op → List Expr → Bool
  | f, .no, e => match e with
    | [] => true
    | _ => false
  | f, .so a, e => match e with
    | [e] => E.chk B f a e
    | _ => false
def Es.chk (B : Tb) : Cf → Es → List Expr → Bool
  | f, .nil, e => match e with
    | [] => true
    | _ => false
  | f, .cons a l, e => match e with
    | e :: es => noStar e && (E.chk B f a e && Es.chk B f l es)
    | _ => false
def It.chk (B : Tb) : Cf → It → Expr → Expr → Bool
  | f, .it a, _, e => E.chk B f a e
  | f, .rng a, _, e => match e with
    | .Call (.Name x _) [e] [] _ => decide (x = "range") && (glB f "range" && (noStar e && E.chk B f a e))
    | _ => false
  | f, .rng2 a b, _, e => match e with
    | .Call (.Name x _) [e1, e2] [] _ => decide (x = "range") && (glB f "range" && (noStar e1 && (noStar e2 && (E.chk B f a e1 && E.chk B f b e2))))
    | _ => false
  | f, .enu a, tg, e => match e with
    | .Call (.Name x _) [e] [] _ => isTup tg && (decide (x = "enumerate") && (glB f "enumerate" && (noStar e && E.chk B f a e)))
    | _ => false
  | f, .zip a b, tg, e => match e with
    | .Call (.Name x _) [e1, e2] [] _ => isTup tg && (decide (x = "zip") && (glB f "zip" && (noStar e1 && (noStar e2 && (E.chk B f a e1 && E.chk B f b e2)))))
    | _ => false
  | f, .rvd a, _, e => match e with
    | .Call (.Name x _) [e] [] _ => decide (x = "reversed") && (glB f "reversed" && (noStar e && E.chk B f a e))
    | _ => false
end
section
variable {c : Cl} {P : Pg} {B : Tb} {k : Nat}
theorem bnot {b : Bool} (h : (!b) = true) : b = false := by simpa using h
theorem fnB_ok {f : Cf} {i : Nat} {x : Str} {fl : List Bool} (h : fnB B f i x fl = true) : ∃ bw n, B.fns i = some (x, bw, n) ∧ glB f x = true ∧ leB fl bw = true ∧ decide (fl.length = n) = true := by
  unfold fnB at h
  split at h
  · rename_i y bw n e
    simp only [Bool.and_eq_true, decide_eq_true_eq] at h
    obtain ⟨rfl, h1, h2, h3⟩ := h
    exact ⟨bw, n, e, h1, h2, decide_eq_true h3⟩
  · cases h
theorem inB_ok {l : List Nat} {own : List (Str × Nat)} (h : inB l own = true) : ∀ i ∈ l, i ∈ own.map (·.2) := fun i hi => of_decide_eq_true (List.all_eq_true.mp h i hi)
theorem isTup_ok {e : Expr} (h : isTup e = true) : ∃ es j p, e = .Tuple es j p := by
  cases e <;> first | (cases h; done) | exact ⟨_, _, _, rfl⟩
theorem flags_nil {l : Es} (h : l.flags.length = 0) : l = .nil := by
  cases l with
  | nil => rfl
  | cons a l => cases h
mutual
theorem E.snd : ∀ (a : E) (f : Cf) (X : Cx) (e : Expr), OkX c P B k f X → E.chk B f a e = true → Snd c P X e a
  | .v i, f, X, e, ok, h => by
    unfold E.chk at h
    split at h <;> first | (exact absurd h Bool.false_ne_true) | skip
    exact s_v ok h
  | .p i, f, X, e, ok, h => by
    unfold E.chk at h
    split at h <;> first | (exact absurd h Bool.false_ne_true) | skip
    exact s_p ok h
  | .k t, f, X, e, ok, h => by
    unfold E.chk at h
    split at h <;> first | (exact absurd h Bool.false_ne_true) | skip
    exact s_k ok h
  | .g j, f, X, e, ok, h => by
    unfold E.chk at h
    split at h <;> first | (exact absurd h Bool.false_ne_true) | skip
    simp only [Bool.and_eq_true, Bool.not_eq_true'] at h
    exact s_g ok h.1 (of_decide_eq_true h.2)
  | .tup l, f, X, e, ok, h => by
    unfold E.chk at h
    split at h <;> first | (exact absurd h Bool.false_ne_true) | skip
    simp only [Bool.and_eq_true, Bool.not_eq_true'] at h
    exact s_tup ok h.1 h.2.1 (Es.snd l f X _ ok h.2.2)
  | .lst l, f, X, e, ok, h => by
    unfold E.chk at h
    split at h <;> first | (exact absurd h Bool.false_ne_true) | skip
    simp only [Bool.and_eq_true, Bool.not_eq_true'] at h
    exact s_lst ok h.1 h.2.1 (Es.snd l f X _ ok h.2.2)
  | .bin o a b, f, X, e, ok, h => by
    unfold E.chk at h
    split at h <;> first | (exact absurd h Bool.false_ne_true) | skip
    simp only [Bool.and_eq_true, Bool.not_eq_true'] at h
    exact s_bin ok h.1 (E.snd a f X _ ok h.2.1) (E.snd b f X _ ok h.2.2)
  | .neg a, f, X, e, ok, h => by
    unfold E.chk at h
    split at h <;> first | (exact absurd h Bool.false_ne_true) | skip
    exact s_neg ok (E.snd a f X _ ok h)
  | .nt a, f, X, e, ok, h => by
    unfold E.chk at h
    split at h <;> first | (exact absurd h Bool.false_ne_true) | skip
    exact s_nt ok (E.snd a f X _ ok h)
  | .cmp o a b, f, X, e, ok, h => by
    unfold E.chk at h
    split at h <;> first | (exact absurd h Bool.false_ne_true) | skip
    simp only [Bool.and_eq_true, Bool.not_eq_true'] at h
    exact s_cmp ok h.1 h.2.1 (E.snd a f X _ ok h.2.2.1) (E.snd b f X _ ok h.2.2.2)
  | .cmp2 o o' a b d, f, X, e, ok, h => by
    unfold E.chk at h
    split at h <;> first | (exact absurd h Bool.false_ne_true) | skip
    simp only [Bool.and_eq_true, Bool.not_eq_true'] at h
    exact s_cmp2 ok h.1 h.2.1 h.2.2.1 (E.snd a f X _ ok h.2.2.2.1) (E.snd b f X _ ok h.2.2.2.2.1) (E.snd d f X _ ok h.2.2.2.2.2)
  | .and a b, f, X, e, ok, h => by
    unfold E.chk at h
    split at h <;> first | (exact absurd h Bool.false_ne_true) | skip
    simp only [Bool.and_eq_true, Bool.not_eq_true'] at h
    exact s_and ok h.1 h.2.1 (E.snd a f X _ ok h.2.2.1) (E.snd b f X _ ok h.2.2.2)
  | .andN a b, f, X, e, ok, h => by
    unfold E.chk at h
    split at h <;> first | (exact absurd h Bool.false_ne_true) | skip
    simp only [Bool.and_eq_true, Bool.not_eq_true'] at h
    exact s_andN ok h.1 h.2.1 (E.snd a f X _ ok h.2.2.1) (E.snd b f X _ ok h.2.2.2)
  | .or a b, f, X, e, ok, h => by
    unfold E.chk at h
    split at h <;> first | (exact absurd h Bool.false_ne_true) | skip
    simp only [Bool.and_eq_true, Bool.not_eq_true'] at h
    exact s_or ok h.1 h.2.1 (E.snd a f X _ ok h.2.2.1) (E.snd b f X _ ok h.2.2.2)
  | .orN a b, f, X, e, ok, h => by
    unfold E.chk at h
    split at h <;> first | (exact absurd h Bool.false_ne_true) | skip
    simp only [Bool.and_eq_true, Bool.not_eq_true'] at h
    exact s_orN ok h.1 h.2.1 (E.snd a f X _ ok h.2.2.1) (E.snd b f X _ ok h.2.2.2)
  | .ife d a b, f, X, e, ok, h => by
    unfold E.chk at h
    split at h <;> first | (exact absurd h Bool.false_ne_true) | skip
    simp only [Bool.and_eq_true, Bool.not_eq_true'] at h
    exact s_ife ok h.1 h.2.1 (E.snd d f X _ ok h.2.2.1) (E.snd a f X _ ok h.2.2.2.1) (E.snd b f X _ ok h.2.2.2.2)
  | .ix a b, f, X, e, ok, h => by
    unfold E.chk at h
    split at h <;> first | (exact absurd h Bool.false_ne_true) | skip
    simp only [Bool.and_eq_true, Bool.not_eq_true'] at h
    exact s_ix ok h.1 (E.snd a f X _ ok h.2.1) (E.snd b f X _ ok h.2.2)
  | .sl a lo hi, f, X, e, ok, h => by
    unfold E.chk at h
    split at h <;> first | (exact absurd h Bool.false_ne_true) | skip
    simp only [Bool.and_eq_true, Bool.not_eq_true'] at h
    exact s_sl ok (E.snd a f X _ ok h.1) (Op.snd lo f X _ ok h.2.1) (Op.snd hi f X _ ok h.2.2)
  | .rev a, f, X, e, ok, h => by
    unfold E.chk at h
    split at h <;> first | (exact absurd h Bool.false_ne_true) | skip
    exact s_rev ok (E.snd a f X _ ok h)
  | .fld a x, f, X, e, ok, h => by
    unfold E.chk at h
    split at h <;> first | (exact absurd h Bool.false_ne_true) | skip
    simp only [Bool.and_eq_true, Bool.not_eq_true'] at h
    obtain ⟨h1, h2, h3⟩ := h
    cases of_decide_eq_true h1
    exact s_fld ok h2 (E.snd a f X _ ok h3)
  | .call i l, f, X, e, ok, h => by
    unfold E.chk at h
    split at h <;> first | (exact absurd h Bool.false_ne_true) | skip
    simp only [Bool.and_eq_true, Bool.not_eq_true'] at h
    obtain ⟨h1, h2, h3⟩ := h
    obtain ⟨bw, n, q1, q2, q3, q4⟩ := fnB_ok h1
    have z := Es.snd l f X _ ok h3
    cases l with
    | nil =>
      unfold Es.chk at h3
      split at h3 <;> first | (exact absurd h3 Bool.false_ne_true) | skip
      have e1 : n = 0 := (of_decide_eq_true q4).symm
      subst e1
      exact s_call0 ok q2 q1
    | cons a l =>
      unfold Es.chk at h3
      split at h3 <;> first | (exact absurd h3 Bool.false_ne_true) | skip
      exact s_call ok q2 q1 q3 q4 h2 z
  | .meth a m l, f, X, e, ok, h => by
    unfold E.chk at h
    split at h <;> first | (exact absurd h Bool.false_ne_true) | skip
    simp only [Bool.and_eq_true, Bool.not_eq_true'] at h
    obtain ⟨h1, h2, h3, h4, h5, h6, h7, h8⟩ := h
    cases of_decide_eq_true h1
    have z := Es.snd l f X _ ok h8
    have y := E.snd a f X _ ok h7
    cases l with
    | nil =>
      unfold Es.chk at h8
      split at h8 <;> first | (exact absurd h8 Bool.false_ne_true) | skip
      exact s_meth0 ok h2 h4 y
    | cons a l =>
      unfold Es.chk at h8
      split at h8 <;> first | (exact absurd h8 Bool.false_ne_true) | skip
      exact s_meth ok h2 h3 h4 h5 h6 y z
  | .mk q l, f, X, e, ok, h => by
    unfold E.chk at h
    split at h <;> first | (exact absurd h Bool.false_ne_true) | skip
    simp only [Bool.and_eq_true, Bool.not_eq_true'] at h
    obtain ⟨h1, h2, h3, h4, h5⟩ := h
    have z := Es.snd l f X _ ok h5
    cases l with
    | nil =>
      unfold Es.chk at h5
      split at h5 <;> first | (exact absurd h5 Bool.false_ne_true) | skip
      exact s_mk0 ok h1 (of_decide_eq_true h2)
    | cons a l =>
      unfold Es.chk at h5
      split at h5 <;> first | (exact absurd h5 Bool.false_ne_true) | skip
      exact s_mk ok h1 (of_decide_eq_true h2) h3 h4 z
  | .bi b l, f, X, e, ok, h => by
    unfold E.chk at h
    split at h <;> first | (exact absurd h Bool.false_ne_true) | skip
    split at h
    · rename_i hb
      simp only [Bool.and_eq_true, decide_eq_true_eq] at h
      obtain ⟨h1, h3, h4, h5, h6⟩ := h
      split at h6 <;> first | (exact absurd h6 Bool.false_ne_true) | skip
      simp only [Bool.and_eq_true, decide_eq_true_eq] at h6
      obtain ⟨h7, h8, h9⟩ := h6
      have hes := List.isEmpty_iff.mp h5
      subst h1 h7 hes
      cases b <;> first | (exact absurd (show false = true from hb) Bool.false_ne_true) | skip
      exact s_lenset ok h3 h4 h8 (Es.snd l f X _ ok h9)
    · simp only [Bool.and_eq_true, Bool.not_eq_true'] at h
      obtain ⟨h1, h2, h3, h4, h5⟩ := h
      have h1 := of_decide_eq_true h1
      subst h1
      exact s_bi ok h2 h3 h4 (Es.snd l f X _ ok h5)
  | .bm b a l, f, X, e, ok, h => by
    unfold E.chk at h
    split at h <;> first | (exact absurd h Bool.false_ne_true) | skip
    simp only [Bool.and_eq_true, Bool.not_eq_true'] at h
    obtain ⟨h1, h2, h3, h4, h5, h6, h7⟩ := h
    have h1 := of_decide_eq_true h1
    subst h1
    have z := Es.snd l f X _ ok h7
    have y := E.snd a f X _ ok h6
    cases l with
    | nil =>
      unfold Es.chk at h7
      split at h7 <;> first | (exact absurd h7 Bool.false_ne_true) | skip
      exact s_bm0 ok h2 h4 y
    | cons a l =>
      unfold Es.chk at h7
      split at h7 <;> first | (exact absurd h7 Bool.false_ne_true) | skip
      exact s_bm ok h2 h3 h4 h5 y z
  | .isi a n, f, X, e, ok, h => by
    unfold E.chk at h
    split at h <;> first | (exact absurd h Bool.false_ne_true) | skip
    simp only [Bool.and_eq_true, decide_eq_true_eq] at h
    obtain ⟨h1, h2, h3, h4, h5, h6, h7⟩ := h
    subst h1
    exact s_isi ok h2 h3 h4 h5 h6 (E.snd a f X _ ok h7)
  | .lc own g it o a, f, X, e, ok, h => by
    unfold E.chk at h
    split at h <;> first | (exact absurd h Bool.false_ne_true) | skip
    simp only [Bool.and_eq_true, Bool.not_eq_true'] at h
    obtain ⟨h1, h2, h3, h4, h5, h6, h7, h8⟩ := h
    exact s_lc ok (inB_ok h1) h2 h3 h4 (It.snd it f X _ _ ok h5) (fun X' ok' => g_ok ok' h6) (fun X' ok' => Op.sndI o _ X' _ ok' h7) (fun X' ok' => (E.snd a _ X' _ ok' h8).pe)
  | .dsel kvs a, f, X, e, ok, h => by
    unfold E.chk at h
    split at h <;> first | (exact absurd h Bool.false_ne_true) | skip
    simp only [Bool.and_eq_true, Bool.not_eq_true'] at h
    obtain ⟨h1, h2, h3, h4, h5, h6⟩ := h
    exact s_dsel ok h1 h2 h3 h4 h5 (E.snd a f X _ ok h6)
  | .repq a b, f, X, e, ok, h => by
    unfold E.chk at h
    split at h <;> first | (exact absurd h Bool.false_ne_true) | skip
    simp only [Bool.and_eq_true, decide_eq_true_eq] at h
    obtain ⟨h1, h2, h3, h4, h5, h6, h7⟩ := h
    subst h1 h2
    exact s_repq ok h3 h4 h5 (E.snd a f X _ ok h6) (E.snd b f X _ ok h7)
theorem Op.snd : ∀ (o : Op) (f : Cf) (X : Cx) (e : Option Expr), OkX c P B k f X → Op.chk B f o e = true → PO X e (tO P c o)
  | .no, f, X, e, ok, h => by
    unfold Op.chk at h
    split at h <;> first | (exact absurd h Bool.false_ne_true) | skip
    exact o_no
  | .so a, f, X, e, ok, h => by
    unfold Op.chk at h
    split at h <;> first | (exact absurd h Bool.false_ne_true) | skip
    exact o_so (E.snd a f X _ ok h)
theorem Op.sndI : ∀ (o : Op) (f : Cf) (X : Cx) (es : List Expr), OkX c P B k f X → Op.chkI B f o es = true → PTs X es (tTO c P o)
  | .no, f, X, e, ok, h => by
    unfold Op.chkI at h
    split at h <;> first | (exact absurd h Bool.false_ne_true) | skip
    exact pts_nil
  | .so a, f, X, e, ok, h => by
    unfold Op.chkI at h
    split at h <;> first | (exact absurd h Bool.false_ne_true) | skip
    exact pts_one (E.snd a f X _ ok h).pt
theorem Es.snd : ∀ (l : Es) (f : Cf) (X : Cx) (es : List Expr), OkX c P B k f X → Es.chk B f l es = true → PA X es (tA c P l l.flags)
  | .nil, f, X, es, ok, h => by
    unfold Es.chk at h
    split at h <;> first | (exact absurd h Bool.false_ne_true) | skip
    exact a_nil
  | .cons a l, f, X, es, ok, h => by
    unfold Es.chk at h
    split at h <;> first | (exact absurd h Bool.false_ne_true) | skip
    simp only [Bool.and_eq_true] at h
    exact a_cons h.1 (E.snd a f X _ ok h.2.1) (Es.snd l f X _ ok h.2.2)
theorem It.snd : ∀ (it : It) (f : Cf) (X : Cx) (tg e : Expr), OkX c P B k f X → It.chk B f it tg e = true → PI X tg e (tI c P it)
  | .it a, f, X, tg, e, ok, h => by
    unfold It.chk at h
    exact i_it ok (E.snd a f X _ ok h)
  | .rng a, f, X, tg, e, ok, h => by
    unfold It.chk at h
    split at h <;> first | (exact absurd h Bool.false_ne_true) | skip
    simp only [Bool.and_eq_true] at h
    obtain ⟨h1, h2, h3, h4⟩ := h
    cases of_decide_eq_true h1
    exact i_rng ok h2 h3 (E.snd a f X _ ok h4)
  | .rng2 a b, f, X, tg, e, ok, h => by
    unfold It.chk at h
    split at h <;> first | (exact absurd h Bool.false_ne_true) | skip
    simp only [Bool.and_eq_true] at h
    obtain ⟨h1, h2, h3, h4, h5, h6⟩ := h
    cases of_decide_eq_true h1
    exact i_rng2 ok h2 h3 h4 (E.snd a f X _ ok h5) (E.snd b f X _ ok h6)
  | .enu a, f, X, tg, e, ok, h => by
    unfold It.chk at h
    split at h <;> first | (exact absurd h Bool.false_ne_true) | skip
    simp only [Bool.and_eq_true] at h
    obtain ⟨h0, h1, h2, h3, h4⟩ := h
    cases of_decide_eq_true h1
    obtain ⟨es, j, p, rfl⟩ := isTup_ok h0
    exact i_enu ok h2 h3 (E.snd a f X _ ok h4)
  | .zip a b, f, X, tg, e, ok, h => by
    unfold It.chk at h
    split at h <;> first | (exact absurd h Bool.false_ne_true) | skip
    simp only [Bool.and_eq_true] at h
    obtain ⟨h0, h1, h2, h3, h4, h5, h6⟩ := h
    cases of_decide_eq_true h1
    obtain ⟨es, j, p, rfl⟩ := isTup_ok h0
    exact i_zip ok h2 h3 h4 (E.snd a f X _ ok h5) (E.snd b f X _ ok h6)
  | .rvd a, f, X, tg, e, ok, h => by
    unfold It.chk at h
    split at h <;> first | (exact absurd h Bool.false_ne_true) | skip
    simp only [Bool.and_eq_true] at h
    obtain ⟨h1, h2, h3, h4⟩ := h
    cases of_decide_eq_true h1
    exact i_rvd ok h2 h3 (E.snd a f X _ ok h4)
end
end
end Fe

set_option Elab.async false
set_option linter.all false
set_option autoImplicit false
set_option maxRecDepth 100000
set_option maxHeartbeats 4000000
/-! Fe15: statements: the language, what they come to; the state in the heap. -/
namespace Fe
open PySem PySem.Spec PyProof.Rows L2
inductive Lm where
  | append | extend | insert | clear | pop | popAt | reverse
/-- what a list becomes -/
def Lm.ap : Lm → List T → List T → Option (List T)
  | .append, l, [x] => if l.length < LIM then some (l ++ [x]) else none
  | .extend, l, [.lst r] => if l.length + r.length ≤ LIM then some (l ++ r) else none
  | .insert, l, [.int i, x] => if l.length < LIM ∧ 0 ≤ i ∧ i < 2 ^ 62 then some (l.take i.toNat ++ [x] ++ l.drop i.toNat) else none
  | .clear, _, [] => some []
  | .pop, l, [] => if l.isEmpty then none else some l.dropLast
  | .popAt, l, [.int i] => if 0 ≤ i ∧ i < l.length then some (l.eraseIdx i.toNat) else none
  | .reverse, l, [] => some l.reverse
  | _, _, _ => none
/-- what it answers -/
def Lm.an : Lm → List T → List T → T
  | .pop, l, _ => l[l.length - 1]?.getD .non
  | .popAt, l, [.int i] => l[i.toNat]?.getD .non
  | _, _, _ => .non
mutual
inductive S where
  | set (i : Nat) (o : Bool) (e : E)
  | setT (is : List Nat) (e : E)
  | par (i j : Nat) (a b : E)
  | aug (i : Nat) (o : BOp) (e : E)
  | ret (e : E) | retN
  | iff (c : E) (a b : Ss)
  | forr (tg : Tg) (it : It) (b : Ss)
  | whl (n : Nat) (c : E) (b : Ss)
  | brk | cnt | nop
  | lm (m : Lm) (i : Nat) (l : Es)
  | lms (j : Nat) (m : Lm) (i : Nat) (l : Es)
  | lmt (is : List Nat) (m : Lm) (i : Nat) (l : Es)
  | seti (i : Nat) (a b : E)
  | fset (i : Nat) (x : Str) (e : E)
  | ex (e : E)
  | frz (i : Nat)
  | nev
inductive Ss where
  | nil | cons (s : S) (r : Ss)
end
inductive Out where
  | nx (env : En) | rt (t : T) | bk (env : En) | ct (env : En)
def forL (body : En → Option Out) (g : Tg) : List T → En → Option Out
  | [], env => some (.nx env)
  | t :: r, env => (g.bind t env).bind fun env' => match body env' with
    | some (.nx e) => forL body g r e
    | some (.ct e) => forL body g r e
    | some (.bk e) => some (.nx e)
    | some (.rt t) => some (.rt t)
    | none => none
def whlL (c : En → Option Bool) (body : En → Option Out) : Nat → En → Option Out
  | 0, _ => none
  | n + 1, env => match c env with
    | some true => (match body env with
      | some (.nx e) => whlL c body n e
      | some (.ct e) => whlL c body n e
      | some (.bk e) => some (.nx e)
      | some (.rt t) => some (.rt t)
      | none => none)
    | some false => some (.nx env)
    | none => none
def slO : Option Sl → Option (List T)
  | some (.ow (.lst l)) => some l
  | _ => none
/-- an owned list's item set -/
def setiT (l : List T) (i : T) (t : T) : Option (List T) := match i with
  | .int k => (ixN l.length k).map fun j => l.set j t
  | _ => none
def augT (o : BOp) (x y : T) : Option T := match x, y with
  | .int i, .int j => (match o with | .add => some (.int (i + j)) | .sub => some (.int (i - j)) | _ => none)
  | .str a, .str b => (match o with | .add => if a.length + b.length ≤ LIM then some (.str (a ++ b)) else none | _ => none)
  | _, _ => none
def fsetT (fl : Nat → List Str) (x : Str) (t : T) : Option Sl → Option Sl
  | some (.nw q fs) => if (fl q)[fs.length]? = some x then some (.nw q (fs ++ [t])) else none
  | _ => none
def frzE (env : En) (i : Nat) : Option En := match env[i]? with
  | some (.ow t) => some (env.set i (.fz t))
  | _ => none
def ownS (o : Bool) (t : T) : Option Sl := if o then (match t with | .lst l => some (.ow (.lst l)) | _ => none) else some (.fz t)
mutual
def S.ev (P : Pg) : S → En → Option Out
  | .set i o e, env => (e.ev P env).bind fun t => (ownS o t).map fun s => .nx (env.set i s)
  | .setT is e, env => (e.ev P env).bind fun t => (Tg.bind (.tt is) t env).map .nx
  | .par i j a b, env => (a.ev P env).bind fun x => (b.ev P env).map fun y => .nx ((env.set i (.fz x)).set j (.fz y))
  | .aug i o e, env => (slV env[i]?).bind fun x => (e.ev P env).bind fun y => (augT o x y).map fun z => .nx (env.set i (.fz z))
  | .ret e, env => (e.ev P env).map .rt
  | .retN, _ => some (.rt .non)
  | .iff c a b, env => (c.ev P env).bind fun t => t.tru.bind fun k => bif k then a.ev P env else b.ev P env
  | .forr tg it b, env => (it.ev P env).bind fun ts => forL (b.ev P) tg ts env
  | .whl n c b, env => whlL (fun env => (c.ev P env).bind T.tru) (b.ev P) n env
  | .brk, env => some (.bk env)
  | .cnt, env => some (.ct env)
  | .nop, env => some (.nx env)
  | .lm m i l, env => (slO env[i]?).bind fun xs => (l.ev P env).bind fun ts => (m.ap xs ts).map fun ys => .nx (env.set i (.ow (.lst ys)))
  | .lms j m i l, env => (slO env[i]?).bind fun xs => (l.ev P env).bind fun ts => (m.ap xs ts).map fun ys => .nx ((env.set i (.ow (.lst ys))).set j (.fz (m.an xs ts)))
  | .lmt is m i l, env => (slO env[i]?).bind fun xs => (l.ev P env).bind fun ts => (m.ap xs ts).bind fun ys => (Tg.bind (.tt is) (m.an xs ts) (env.set i (.ow (.lst ys)))).map .nx
  | .seti i a b, env => (b.ev P env).bind fun y => (slO env[i]?).bind fun xs => (a.ev P env).bind fun x => (setiT xs x y).map fun ys => .nx (env.set i (.ow (.lst ys)))
  | .fset i x e, env => (e.ev P env).bind fun t => (fsetT P.fl x t env[i]?).map fun s => .nx (env.set i s)
  | .ex e, env => (e.ev P env).map fun _ => .nx env
  | .frz i, env => (frzE env i).map .nx
  | .nev, _ => none
def Ss.ev (P : Pg) : Ss → En → Option Out
  | .nil, env => some (.nx env)
  | .cons s r, env => match s.ev P env with
    | some (.nx e) => r.ev P e
    | o => o
end
end Fe

set_option Elab.async false
set_option linter.all false
set_option autoImplicit false
set_option maxRecDepth 100000
set_option maxHeartbeats 4000000
/-! Fe16: the state of a def's run in the heap. -/
namespace Fe
open PySem PySem.Spec PyProof.Rows L2
/-- a slot's own list -/
abbrev Am := Nat → Option Addr
def Bn (Z : Zn) (A : Am) : Zn := fun a => Z a ∨ ∃ i, A i = some a
def RepW (c : Cl) (H0 H : Hp) (Z : Zn) (t : T) (v : V) : Prop :=
  Rep c H Z t v ∨ ∃ ts a vs, t = .lst ts ∧ v = .ref a ∧ H0 a ≠ none ∧ H a = some (.lst vs) ∧ RepL c H Z ts vs ∧ ts.length ≤ LIM
def SlOk (c : Cl) (H0 : Hp) (sx : Option Addr) (H : Hp) (Z : Zn) (ai : Option Addr) : Sl → Option (Option V) → Prop
  | .no, _ => True
  | .fz t, o => ∃ v, o = some (some v) ∧ Rep c H Z t v
  | .bw t, o => ∃ v, o = some (some v) ∧ RepW c H0 H Z t v
  | .ow t, o => ∃ ts a vs, t = .lst ts ∧ o = some (some (.ref a)) ∧ ai = some a ∧ H a = some (.lst vs) ∧ RepL c H Z ts vs ∧ ts.length ≤ LIM
  | .nw q fs, o => ∃ a dx vs, o = some (some (.ref a)) ∧ (ai = some a ∧ sx = some a) ∧ H a = some (.ins (c.cl q) dx ((c.fl q).zip vs)) ∧ RepL c H Z fs vs ∧ fs.length ≤ (c.fl q).length
structure StO (c : Cl) (H0 : Hp) (sx : Option Addr) (Z : Zn) (A : Am) (σ : L2.St) (H : Hp) (env : En) : Prop where
  same : Same H0 H
  dom : ∀ a, Z a → H0 a ≠ none
  len : env.length ≤ σ.length
  inj : ∀ i j a, A i = some a → A j = some a → i = j
  fr : ∀ i a, A i = some a → H0 a = none ∧ H a ≠ none
  sl : ∀ (i : Nat) (s : Sl), env[i]? = some s → SlOk c H0 sx H (Bn Z A) (A i) s (σ[i]?)
section
variable {c : Cl} {P : Pg} {H0 H H' H1 H2 : Hp} {Z Z' : Zn} {A A' : Am} {σ : L2.St} {env env' : En} {t : T} {ts : List T} {v : V} {vs : List V} {a : Addr} {i j : Nat} {sx : Option Addr}
theorem Kp.refl : Kp H H Z Z := ⟨fun _ _ e _ => e, fun _ z => .inl z⟩
theorem Kp.trans {Z1 Z2 Z3 : Zn} (h : Kp H H1 Z1 Z2) (h' : Kp H1 H2 Z2 Z3) : Kp H H2 Z1 Z3 := by
  have nz : ∀ a o, H a = some o → ¬ Z1 a → ¬ Z2 a := fun a o e n z => (h.z a z).elim n fun q => by rw [e] at q; cases q
  refine ⟨fun a o e n => h'.at_ a o (h.at_ a o e n) (nz a o e n), fun a z => ?_⟩
  rcases h'.z a z with z | q
  · exact h.z a z
  · by_cases n : Z1 a
    · exact .inl n
    · right
      cases e : H a with
      | none => rfl
      | some o => rw [h.at_ a o e n] at q; cases q
theorem StO.dm (s : StO c H0 sx Z A σ H env) : Dom (Bn Z A) H := fun a z => by
  rcases z with z | ⟨i, z⟩
  · exact same_some s.same (s.dom a z)
  · exact (s.fr i a z).2
theorem RepW.one (h : RepW c H0 H Z t v) : Rep1 c H Z t v := by
  rcases h with h | ⟨ts, a, vs, e1, e2, _, h1, h2, h3⟩
  · exact .inl h
  · exact .inr ⟨ts, a, vs, e1, e2, h1, h2, h3⟩
theorem RepW.kp (w : Same H0 H') (s0 : Same H0 H) (q : Kp H H' Z Z') (h : RepW c H0 H Z t v) : RepW c H0 H' Z' t v := by
  rcases h with h | ⟨ts, a, vs, e1, e2, n, h1, h2, h3⟩
  · exact .inl (Rep.kp q _ _ h)
  · refine .inr ⟨ts, a, vs, e1, e2, n, ?_, RepL.kp q _ _ h2, h3⟩
    cases e : H0 a with
    | none => exact absurd e n
    | some o => rw [s0 a o e] at h1; rw [w a o e]; exact h1
theorem StO.er (s : StO c H0 sx Z A σ H env) : ER c H (Bn Z A) σ env := by
  refine ⟨s.dm, s.len, fun i q e => ?_⟩
  have h := s.sl i q e
  cases q with
  | no => trivial
  | fz t => exact h
  | bw t => obtain ⟨v, e1, r⟩ := h; exact ⟨v, e1, r.one⟩
  | ow t =>
    obtain ⟨ts, a, vs, e1, e2, e3, h1, h2, h3⟩ := h
    exact ⟨_, e2, .inr ⟨ts, a, vs, e1, rfl, h1, h2, h3⟩⟩
  | nw q fs => trivial
/-- the heap has grown, or lists that are banned have been changed, but no own one -/
theorem StO.up (s : StO c H0 sx Z A σ H env) (w : Same H H') : StO c H0 sx Z A σ H' env := by
  refine ⟨s.same.trans w, s.dom, s.len, s.inj, fun i a e => ⟨(s.fr i a e).1, same_some w (s.fr i a e).2⟩, fun i q e => ?_⟩
  have h := s.sl i q e
  cases q with
  | no => trivial
  | fz t => obtain ⟨v, e1, r⟩ := h; exact ⟨v, e1, Rep.kp (.same w) _ _ r⟩
  | bw t => obtain ⟨v, e1, r⟩ := h; exact ⟨v, e1, r.kp (s.same.trans w) s.same (.same w)⟩
  | ow t =>
    obtain ⟨ts, a, vs, e1, e2, e3, h1, h2, h3⟩ := h
    exact ⟨ts, a, vs, e1, e2, e3, w _ _ h1, RepL.kp (.same w) _ _ h2, h3⟩
  | nw q fs =>
    obtain ⟨a, dx, vs, e2, e3, h1, h2, h3⟩ := h
    exact ⟨a, dx, vs, e2, e3, w _ _ h1, RepL.kp (.same w) _ _ h2, h3⟩
def Am.off (A : Am) (i : Nat) : Am := fun j => if j = i then none else A j
def Am.on (A : Am) (i : Nat) (a : Addr) : Am := fun j => if j = i then some a else A j
theorem Am.off_some {j : Nat} (h : Am.off A i j = some a) : A j = some a ∧ j ≠ i := by
  unfold Am.off at h
  split at h
  · cases h
  · exact ⟨h, by assumption⟩
theorem Am.on_some {b : Addr} {j : Nat} (h : Am.on A i a j = some b) : (j = i ∧ b = a) ∨ (j ≠ i ∧ A j = some b) := by
  unfold Am.on at h
  split at h
  · cases h; exact .inl ⟨by assumption, rfl⟩
  · exact .inr ⟨by assumption, h⟩
theorem bn_off : ∀ x, Bn Z (Am.off A i) x → Bn Z A x := fun x z => z.imp id fun ⟨j, e⟩ => ⟨j, (Am.off_some e).1⟩
theorem SlOk.sub {s : Sl} {o : Option (Option V)} {ai : Option Addr} (h : SlOk c H0 sx H Z ai s o) (w : ∀ a, Z' a → Z a) : SlOk c H0 sx H Z' ai s o := by
  cases s with
  | no => trivial
  | fz t => obtain ⟨v, e1, r⟩ := h; exact ⟨v, e1, Rep.kp (.sub w) _ _ r⟩
  | bw t =>
    obtain ⟨v, e1, r⟩ := h
    refine ⟨v, e1, ?_⟩
    rcases r with h | ⟨ts, a, vs, e1, e2, n, h1, h2, h3⟩
    · exact .inl (Rep.kp (.sub w) _ _ h)
    · exact .inr ⟨ts, a, vs, e1, e2, n, h1, RepL.kp (.sub w) _ _ h2, h3⟩
  | ow t =>
    obtain ⟨ts, a, vs, e1, e2, e3, h1, h2, h3⟩ := h
    exact ⟨ts, a, vs, e1, e2, e3, h1, RepL.kp (.sub w) _ _ h2, h3⟩
  | nw q fs =>
    obtain ⟨a, dx, vs, e2, e3, h1, h2, h3⟩ := h
    exact ⟨a, dx, vs, e2, e3, h1, RepL.kp (.sub w) _ _ h2, h3⟩
/-- a slot given a kept value -/
theorem StO.setF (s : StO c H0 sx Z A σ H env) (r : Rep c H (Bn Z A) t v) : StO c H0 sx Z (Am.off A i) (σ.set i (some v)) H (env.set i (.fz t)) := by
  refine ⟨s.same, s.dom, by rw [List.length_set, List.length_set]; exact s.len, fun i' j' a e e' => s.inj _ _ _ (Am.off_some e).1 (Am.off_some e').1, fun j a e => s.fr j a (Am.off_some e).1, fun j q e => ?_⟩
  by_cases hj : i = j
  · subst hj
    have hl : i < env.length := by
      have := (List.getElem?_eq_some_iff.mp e).1
      rwa [List.length_set] at this
    rw [List.getElem?_set_self hl] at e
    cases e
    exact ⟨v, by rw [List.getElem?_set_self (Nat.lt_of_lt_of_le hl s.len)], Rep.kp (.sub bn_off) _ _ r⟩
  · rw [List.getElem?_set_ne hj] at e ⊢
    have h := (s.sl j q e).sub (Z' := Bn Z (Am.off A i)) bn_off
    have : Am.off A i j = A j := by unfold Am.off; rw [if_neg (Ne.symm hj)]
    rw [this]; exact h
theorem kp_off : Kp H H (Bn Z A) (Bn Z (Am.off A i)) := .sub bn_off
/-- a slot given a new list -/
theorem StO.setN (s : StO c H0 sx Z A σ H env) (w : Same H H') {ts : List T} (r : RepN c H H' (Bn Z A) (.lst ts) v) :
    ∃ A', StO c H0 sx Z A' (σ.set i (some v)) H' (env.set i (.ow (.lst ts))) ∧ Kp H H' (Bn Z A) (Bn Z A') := by
  obtain ⟨a, vs, rfl, h0, h1, h2, h3⟩ := r ts rfl
  have h00 : H0 a = none := s.same.free h0
  have na : ∀ j b, A j = some b → b ≠ a := fun j b e z => (s.fr j b e).2 (z ▸ h0)
  have sub : ∀ x, Bn Z (Am.on A i a) x → Bn Z A x ∨ x = a := fun x z => by
    rcases z with z | ⟨j, e⟩
    · exact .inl (.inl z)
    · rcases Am.on_some e with ⟨_, e⟩ | ⟨_, e⟩
      · exact .inr e
      · exact .inl (.inr ⟨j, e⟩)
  have kp : Kp H H' (Bn Z A) (Bn Z (Am.on A i a)) := ⟨fun x o e _ => w x o e, fun x z => (sub x z).imp id fun e => by rw [e]; exact h0⟩
  refine ⟨Am.on A i a, ⟨s.same.trans w, s.dom, by rw [List.length_set, List.length_set]; exact s.len, fun j k b e e' => ?_, fun j b e => ?_, fun j q e => ?_⟩, kp⟩
  · rcases Am.on_some e with ⟨e1, e2⟩ | ⟨e1, e2⟩ <;> rcases Am.on_some e' with ⟨e3, e4⟩ | ⟨e3, e4⟩
    · rw [e1, e3]
    · exact absurd e2 (na _ _ e4)
    · exact absurd e4 (na _ _ e2)
    · exact s.inj _ _ _ e2 e4
  · rcases Am.on_some e with ⟨e1, rfl⟩ | ⟨e1, e2⟩
    · exact ⟨h00, by rw [h1]; exact fun z => nomatch z⟩
    · exact ⟨(s.fr j b e2).1, same_some w (s.fr j b e2).2⟩
  · by_cases hj : i = j
    · subst hj
      have hl : i < env.length := by
        have := (List.getElem?_eq_some_iff.mp e).1
        rwa [List.length_set] at this
      rw [List.getElem?_set_self hl] at e
      cases e
      refine ⟨ts, a, vs, rfl, by rw [List.getElem?_set_self (Nat.lt_of_lt_of_le hl s.len)], by unfold Am.on; rw [if_pos rfl], h1, RepL.kp (.sub fun x z => sub x z) _ _ h2, h3⟩
    · rw [List.getElem?_set_ne hj] at e ⊢
      have h := s.sl j q e
      have ea : Am.on A i a j = A j := by unfold Am.on; rw [if_neg (Ne.symm hj)]
      rw [ea]
      cases q with
      | no => trivial
      | fz t => obtain ⟨v, e1, r⟩ := h; exact ⟨v, e1, Rep.kp kp _ _ r⟩
      | bw t => obtain ⟨v, e1, r⟩ := h; exact ⟨v, e1, r.kp (s.same.trans w) s.same kp⟩
      | ow t =>
        obtain ⟨ts', a', vs', e1, e2, e3, h1, h2, h3⟩ := h
        exact ⟨ts', a', vs', e1, e2, e3, w _ _ h1, RepL.kp kp _ _ h2, h3⟩
      | nw q fs =>
        obtain ⟨a', dx, vs', e2, e3, h1, h2, h3⟩ := h
        exact ⟨a', dx, vs', e2, e3, w _ _ h1, RepL.kp kp _ _ h2, h3⟩
/-- an own list, rewritten -/
theorem StO.put (s : StO c H0 sx Z A σ H env) {l : List T} (hi : env[i]? = some (.ow (.lst l))) : ∃ a vs, σ[i]? = some (some (.ref a)) ∧ H a = some (.lst vs) ∧ RepL c H (Bn Z A) l vs ∧ l.length ≤ LIM ∧
    ∀ ts ws H', Same H H' → RepL c H' (Bn Z A) ts ws → ts.length ≤ LIM → StO c H0 sx Z A σ (upd H' a (.lst ws)) (env.set i (.ow (.lst ts))) ∧ Kp H (upd H' a (.lst ws)) (Bn Z A) (Bn Z A) := by
  obtain ⟨l', a, vs, e1, e2, e3, h1, h2, h3⟩ := s.sl i _ hi
  cases e1
  refine ⟨a, vs, e2, h1, h2, h3, fun ts ws H' w r hl => ?_⟩
  have ba : Bn Z A a := .inr ⟨i, e3⟩
  have kp0 : Kp H' (upd H' a (.lst ws)) (Bn Z A) (Bn Z A) := ⟨fun x o e nz => by rw [upd_ne fun z => nz (by rw [z]; exact ba)]; exact e, fun x z => .inl z⟩
  have kp : Kp H (upd H' a (.lst ws)) (Bn Z A) (Bn Z A) := Kp.trans (.same w) kp0
  have s0 : Same H0 (upd H' a (.lst ws)) := fun x o e => by
    rw [upd_ne fun z => by rw [z, (s.fr i a e3).1] at e; cases e]
    exact w _ _ (s.same _ _ e)
  refine ⟨⟨s0, s.dom, by rw [List.length_set]; exact s.len, s.inj, fun j b e => ⟨(s.fr j b e).1, ?_⟩, fun j q e => ?_⟩, kp⟩
  · by_cases hb : b = a
    · rw [hb, upd_same]; exact fun z => nomatch z
    · rw [upd_ne hb]; exact same_some w (s.fr j b e).2
  · by_cases hj : i = j
    · subst hj
      have hle : i < env.length := by
        have := (List.getElem?_eq_some_iff.mp e).1
        rwa [List.length_set] at this
      rw [List.getElem?_set_self hle] at e
      cases e
      exact ⟨ts, a, ws, rfl, e2, e3, upd_same, RepL.kp kp0 _ _ r, hl⟩
    · rw [List.getElem?_set_ne hj] at e
      have h := s.sl j q e
      cases q with
      | no => trivial
      | fz t => obtain ⟨v, e1, r⟩ := h; exact ⟨v, e1, Rep.kp kp _ _ r⟩
      | bw t => obtain ⟨v, e1, r⟩ := h; exact ⟨v, e1, r.kp s0 s.same kp⟩
      | ow t =>
        obtain ⟨ts', a', vs', q1, q2, q3, q4, q5, q6⟩ := h
        refine ⟨ts', a', vs', q1, q2, q3, ?_, RepL.kp kp _ _ q5, q6⟩
        rw [upd_ne fun z => hj (s.inj _ _ _ e3 (by rw [← z]; exact q3))]
        exact w _ _ q4
      | nw q fs =>
        obtain ⟨a', dx, vs', q2, q3, q4, q5, q6⟩ := h
        refine ⟨a', dx, vs', q2, q3, ?_, RepL.kp kp _ _ q5, q6⟩
        rw [upd_ne fun z => hj (s.inj _ _ _ e3 (by rw [← z]; exact q3.1))]
        exact w _ _ q4
/-- a field of a new instance -/
theorem StO.putN (s : StO c H0 sx Z A σ H env) {q : Nat} {fs : List T} (hi : env[i]? = some (.nw q fs)) : ∃ a dx vs, σ[i]? = some (some (.ref a)) ∧ H a = some (.ins (c.cl q) dx ((c.fl q).zip vs)) ∧ RepL c H (Bn Z A) fs vs ∧
    ∀ gs ws H', Same H H' → RepL c H' (Bn Z A) gs ws → gs.length ≤ (c.fl q).length → StO c H0 sx Z A σ (upd H' a (.ins (c.cl q) dx ((c.fl q).zip ws))) (env.set i (.nw q gs)) ∧ Kp H (upd H' a (.ins (c.cl q) dx ((c.fl q).zip ws))) (Bn Z A) (Bn Z A) := by
  obtain ⟨a, dx, vs, e2, ⟨e3, e4⟩, h1, h2, h3⟩ := s.sl i _ hi
  refine ⟨a, dx, vs, e2, h1, h2, fun gs ws H' w r hl => ?_⟩
  have ba : Bn Z A a := .inr ⟨i, e3⟩
  have kp0 : Kp H' (upd H' a (.ins (c.cl q) dx ((c.fl q).zip ws))) (Bn Z A) (Bn Z A) := ⟨fun x o e nz => by rw [upd_ne fun z => nz (by rw [z]; exact ba)]; exact e, fun x z => .inl z⟩
  have kp : Kp H (upd H' a (.ins (c.cl q) dx ((c.fl q).zip ws))) (Bn Z A) (Bn Z A) := Kp.trans (.same w) kp0
  have s0 : Same H0 (upd H' a (.ins (c.cl q) dx ((c.fl q).zip ws))) := fun x o e => by
    rw [upd_ne fun z => by rw [z, (s.fr i a e3).1] at e; cases e]
    exact w _ _ (s.same _ _ e)
  refine ⟨⟨s0, s.dom, by rw [List.length_set]; exact s.len, s.inj, fun j b e => ⟨(s.fr j b e).1, ?_⟩, fun j u e => ?_⟩, kp⟩
  · by_cases hb : b = a
    · rw [hb, upd_same]; exact fun z => nomatch z
    · rw [upd_ne hb]; exact same_some w (s.fr j b e).2
  · by_cases hj : i = j
    · subst hj
      have hle : i < env.length := by
        have := (List.getElem?_eq_some_iff.mp e).1
        rwa [List.length_set] at this
      rw [List.getElem?_set_self hle] at e
      cases e
      exact ⟨a, dx, ws, e2, ⟨e3, e4⟩, upd_same, RepL.kp kp0 _ _ r, hl⟩
    · rw [List.getElem?_set_ne hj] at e
      have h := s.sl j u e
      cases u with
      | no => trivial
      | fz t => obtain ⟨v, e1, r⟩ := h; exact ⟨v, e1, Rep.kp kp _ _ r⟩
      | bw t => obtain ⟨v, e1, r⟩ := h; exact ⟨v, e1, r.kp s0 s.same kp⟩
      | ow t =>
        obtain ⟨ts', a', vs', q1, q2, q3, q4, q5, q6⟩ := h
        refine ⟨ts', a', vs', q1, q2, q3, ?_, RepL.kp kp _ _ q5, q6⟩
        rw [upd_ne fun z => hj (s.inj _ _ _ e3 (by rw [← z]; exact q3))]
        exact w _ _ q4
      | nw q fs =>
        obtain ⟨a', dx, vs', q2, q3, q4, q5, q6⟩ := h
        refine ⟨a', dx, vs', q2, q3, ?_, RepL.kp kp _ _ q5, q6⟩
        rw [upd_ne fun z => hj (s.inj _ _ _ e3 (by rw [← z]; exact q3.1))]
        exact w _ _ q4
/-- an own list, frozen -/
theorem StO.frz (s : StO c H0 sx Z A σ H env) {t : T} (hi : env[i]? = some (.ow t)) : StO c H0 sx Z (Am.off A i) σ H (env.set i (.fz t)) := by
  obtain ⟨l', a, vs, e1, e2, e3, h1, h2, h3⟩ := s.sl i _ hi
  subst e1
  have nz : ¬ Bn Z (Am.off A i) a := fun z => by
    rcases z with z | ⟨j, e⟩
    · exact s.dom a z (s.fr i a e3).1
    · obtain ⟨e4, e5⟩ := Am.off_some e
      exact e5 (s.inj _ _ _ e4 e3)
  refine ⟨s.same, s.dom, by rw [List.length_set]; exact s.len, fun i' j' a e e' => s.inj _ _ _ (Am.off_some e).1 (Am.off_some e').1, fun j a e => s.fr j a (Am.off_some e).1, fun j q e => ?_⟩
  by_cases hj : i = j
  · subst hj
    have hle : i < env.length := by
      have := (List.getElem?_eq_some_iff.mp e).1
      rwa [List.length_set] at this
    rw [List.getElem?_set_self hle] at e
    cases e
    exact ⟨_, e2, Rep.lst_iff.mpr ⟨a, vs, rfl, nz, h1, RepL.kp (.sub bn_off) _ _ h2, h3⟩⟩
  · rw [List.getElem?_set_ne hj] at e
    have h := (s.sl j q e).sub (Z' := Bn Z (Am.off A i)) bn_off
    have : Am.off A i j = A j := by unfold Am.off; rw [if_neg (Ne.symm hj)]
    rw [this]; exact h
def offs (A : Am) (u : Up) : Am := u.foldl (fun B q => Am.off B q.1) A
theorem kp_offs : ∀ {u : Up} {A : Am}, Kp H H (Bn Z A) (Bn Z (offs A u))
  | [], _ => Kp.refl
  | q :: u, A => Kp.trans (kp_off (i := q.1)) (kp_offs (u := u))
theorem StO.sets : ∀ {u : Up} {A : Am} {σ : L2.St} {env : En}, StO c H0 sx Z A σ H env → (∀ q ∈ u, Rep c H (Bn Z A) q.2.2 q.2.1) → StO c H0 sx Z (offs A u) (setsS u σ) H (setsE u env)
  | [], _, _, _, h, _ => h
  | q :: u, A, σ, env, h, r => StO.sets (u := u) (h.setF (r q List.mem_cons_self)) fun w m => Rep.kp (.sub bn_off) _ _ (r w (List.mem_cons_of_mem _ m))

/-! ### readings -/
def Good (c : Cl) (H0 : Hp) (sx : Option Addr) (Z : Zn) (D : Ends) (A : Am) (H : Hp) : Out → Prop
  | .nx e => ∀ σ' H' A', StO c H0 sx Z A' σ' H' e → Kp H H' (Bn Z A) (Bn Z A') → D.nx σ' H'
  | .bk e => ∀ σ' H' A', StO c H0 sx Z A' σ' H' e → Kp H H' (Bn Z A) (Bn Z A') → D.bk σ' H'
  | .ct e => ∀ σ' H' A', StO c H0 sx Z A' σ' H' e → Kp H H' (Bn Z A) (Bn Z A') → D.ct σ' H'
  | .rt t => ∀ v H', Same H0 H' → Rep c H' Z t v → D.rt v H'
theorem Good.to {D : Ends} {o : Out} (g : Good c H0 sx Z D A H o) (k : Kp H H' (Bn Z A) (Bn Z A')) : Good c H0 sx Z D A' H' o := by
  cases o with
  | nx e => exact fun σ' H2 A2 s q => g σ' H2 A2 s (k.trans q)
  | bk e => exact fun σ' H2 A2 s q => g σ' H2 A2 s (k.trans q)
  | ct e => exact fun σ' H2 A2 s q => g σ' H2 A2 s (k.trans q)
  | rt t => exact g
def tS (c : Cl) (P : Pg) (s : S) : TS := fun D σ H => ∃ H0 sx Z A env o, StO c H0 sx Z A σ H env ∧ s.ev P env = some o ∧ Good c H0 sx Z D A H o
def tSs (c : Cl) (P : Pg) (s : Ss) : TS := fun D σ H => ∃ H0 sx Z A env o, StO c H0 sx Z A σ H env ∧ s.ev P env = some o ∧ Good c H0 sx Z D A H o
theorem PS.imp {X : Cx} {st : Stmt} {t t' : TS} (h : PS X st t) (w : ∀ D σ H, t' D σ H → t D σ H) : PS X st t' := ⟨fun pins s σ H D I q => h.run pins s σ H D I (w D σ H q)⟩
theorem PSs.imp {X : Cx} {st : List Stmt} {t t' : TS} (h : PSs X st t) (w : ∀ D σ H, t' D σ H → t D σ H) : PSs X st t' := ⟨fun pins s σ H D I q => h.run pins s σ H D I (w D σ H q)⟩
theorem seq_rd {s : S} {r : Ss} : ∀ D σ H, tSs c P (.cons s r) D σ H → tSeq (tS c P s) (tSs c P r) D σ H := by
  rintro D σ H ⟨H0, sx, Z, A, env, o, st, ev, g⟩
  unfold Ss.ev at ev
  cases e : s.ev P env with
  | none => rw [e] at ev; cases ev
  | some o1 =>
    rw [e] at ev
    refine ⟨H0, sx, Z, A, env, o1, st, e, ?_⟩
    cases o1 with
    | nx e1 => exact fun σ' H' A' s' k => ⟨H0, sx, Z, A', e1, o, s', ev, g.to k⟩
    | bk e1 => cases ev; exact g
    | ct e1 => cases ev; exact g
    | rt t => cases ev; exact g
theorem frz_rd {i : Nat} {r : Ss} : ∀ D σ H, tSs c P (.cons (.frz i) r) D σ H → tSs c P r D σ H := by
  rintro D σ H ⟨H0, sx, Z, A, env, o, st, ev, g⟩
  unfold Ss.ev at ev
  cases e : (S.frz i).ev P env with
  | none => rw [e] at ev; cases ev
  | some o1 =>
    rw [e] at ev
    unfold S.ev at e
    obtain ⟨e2, ee, e3⟩ := mpd e
    subst e3
    unfold frzE at ee
    split at ee
    · rename_i t ei
      cases ee
      exact ⟨H0, sx, Z, _, _, o, st.frz ei, ev, g.to kp_off⟩
    · cases ee
end
end Fe

set_option Elab.async false
set_option linter.all false
set_option autoImplicit false
set_option maxRecDepth 100000
set_option maxHeartbeats 4000000
/-! Fe17: the rules of statements. -/
namespace Fe
open PySem PySem.Spec PyProof.Rows L2
structure OkS (c : Cl) (P : Pg) (B : Tb) (k : Nat) (f : Cf) (X : Cx) : Prop where
  x : OkX c P B k f X
  kind : X.env.scope.kind = .function
  xe : X.xe = fun _ _ => False
section
variable {X : Cx} {c : Cl} {P : Pg} {B : Tb} {k : Nat} {f : Cf} {Z : Zn} {H H' H0 H1 : Hp} {σ : L2.St} {env : En} {t : T} {e e1 e2 e3 tg : Expr} {a b d : E} {pos p apos py : Pos} {es : List Expr} {l : Es} {x y m : Str} {i j : Nat} {sx : Option Addr}
theorem OkS.po (ok : OkS c P B k f X) : PassesOwn (model X.prog X.w) X.A X.env X.xe := by
  rw [ok.xe]; exact PassesOwn.never
def noSD : Expr → Bool
  | .SetComp _ _ _ _ => false
  | .DictComp _ _ _ _ _ => false
  | _ => true
def noComp : Expr → Bool
  | .ListComp _ _ _ _ => false
  | .SetComp _ _ _ _ => false
  | .DictComp _ _ _ _ _ => false
  | _ => true
def swB (f : Cf) (y : Str) (py : Pos) : Expr → Bool
  | .ListComp _ _ scope pos => decide (f.sc.names.lookup y = some .local) && ((py.line == pos.line) && !(scope.names.any fun (n, k) => n == y && (k == .local || k == .cell)))
  | _ => false
theorem sw_no {l : Nat} {o : Option Expr} {env : Env} (h : noComp e = true) : swapsWith e o l env = pure false := by
  unfold swapsWith
  cases e <;> first | rfl | (exact absurd (show false = true from h) Bool.false_ne_true)
theorem sw_lc {elt : Expr} {gs : List Comprehension} {scope : Scope} {l : Nat} (ok : OkS c P B k f X) (h : swB f y py (.ListComp elt gs scope pos) = true) : swapsWith (.ListComp elt gs scope pos) (some (.Name y py)) l X.env = pure true ∧ X.env.scope.names.lookup y = some .local := by
  unfold swB at h
  simp only [Bool.and_eq_true, decide_eq_true_eq, Bool.not_eq_true'] at h
  have hy : X.env.scope.names.lookup y = some .local := by rw [ok.x.sc]; exact h.1
  exact ⟨sw_true ok.kind hy h.2.1 h.2.2, hy⟩
theorem and4 (a b c : Bool) (h : (a && (b && !c)) = false) : (true && a && b && !c) = false := by cases a <;> cases b <;> cases c <;> first | rfl | (cases h)
theorem sw_lcF {elt : Expr} {gs : List Comprehension} {scope : Scope} {l : Nat} (ok : OkS c P B k f X) (h : swB f y py (.ListComp elt gs scope pos) = false) : swapsWith (.ListComp elt gs scope pos) (some (.Name y py)) l X.env = pure false := by
  unfold swB at h
  have hb : X.env.blockKind = .function := by unfold Env.blockKind; rw [ok.kind]; rfl
  have e : swapsWith (.ListComp elt gs scope pos) (some (.Name y py)) l X.env = (pure (X.env.blockKind == .function && X.env.kindOf y == some .local && py.line == pos.line && !(scope.names.any fun (n, k) => n == y && (k == .local || k == .cell))) : Sem Bool) := rfl
  rw [e, hb]
  have : (X.env.kindOf y == some NameKind.local) = decide (f.sc.names.lookup y = some .local) := by
    unfold Env.kindOf
    rw [ok.x.sc]
    cases h : decide (f.sc.names.lookup y = some .local) with
    | true => rw [of_decide_eq_true h]; rfl
    | false =>
      have := of_decide_eq_false h
      rw [beq_eq_false_iff_ne]; exact this
  rw [this]
  exact congrArg pure (and4 _ _ _ h)

/-! ### a name set -/
theorem set_rd {o : Bool} (hp : a.isP = false) (hF : (!o || a.isF) = true) : ∀ D σ H, tS c P (.set i o a) D σ H → tE c P a σ H (fun x H1 => D.nx (σ.set i (some x)) H1) := by
  rintro D σ H ⟨H0, sx, Z, A, env, out, st, ev, g⟩
  unfold S.ev at ev
  obtain ⟨t, ea, ev⟩ := bnd ev
  obtain ⟨s, es, eo⟩ := mpd ev
  subst eo
  refine ⟨_, env, t, st.er, ea, fun v H' w r => ?_⟩
  unfold ownS at es
  cases o with
  | true =>
    rw [if_pos rfl] at es
    split at es <;> cases es
    obtain ⟨A', s', k⟩ := st.setN w (r.2 (by simpa using hF))
    exact g _ _ _ s' k
  | false =>
    rw [if_neg Bool.false_ne_true] at es
    cases es
    have r1 : Rep c H' (Bn Z A) t v := by
      have := r.1
      rw [hp] at this; exact this
    exact g _ _ _ ((st.up w).setF r1) ((Kp.same w).trans kp_off)
theorem st_set (ok : OkS c P B k f X) {o : Bool} (hp : a.isP = false) (hF : (!o || a.isF) = true) (ht : tgB f i y = true) (hn : noComp e = true) (h : Snd c P X e a) : PS X (.Assign [.Name y py] e pos) (tS c P (.set i o a)) := by
  obtain ⟨h1, h2, h3⟩ := tgB_ok ok.x ht
  exact PS.imp (ps_set ok.x.nd h1 h2 h.pe (sw_no hn) h3) (set_rd hp hF)
theorem st_setLc (ok : OkS c P B k f X) {o : Bool} {own : List (Str × Nat)} {g : Tg} {it : It} {q : Op} (ht : tgB f i y = true) (h : E.chk B f (.lc own g it q a) e = true) : PS X (.Assign [.Name y py] e pos) (tS c P (.set i o (.lc own g it q a))) := by
  obtain ⟨h1, h2, h3⟩ := tgB_ok ok.x ht
  have hF : (!o || (E.lc own g it q a).isF) = true := by cases o <;> rfl
  have z := E.snd (P := P) (c := c) (k := k) _ f X e ok.x h
  unfold E.chk at h
  split at h <;> first | (exact absurd h Bool.false_ne_true) | skip
  simp only [Bool.and_eq_true, Bool.not_eq_true'] at h
  obtain ⟨c1, c2, c3, c4, c5, c6, c7, c8⟩ := h
  rename_i el tg' e2' ifs scope pos'
  cases hs : swB f y py (.ListComp el [⟨tg', e2', ifs, 0⟩] scope pos') with
  | true =>
    obtain ⟨s1, s2⟩ := sw_lc (l := pos.line) ok hs
    refine PS.imp (ps_setLc ok.x.calm ok.x.nd h1 s2 s1 (It.snd it f X _ _ ok.x c5) (by rw [ok.x.N, ok.x.sc]; exact blkOk_by c3) (fun s H C cl fp => g_ok (blk_ok ok.x s H C cl fp) c6)
      (fun s H C cl fp => Op.sndI q _ _ _ (blk_ok ok.x s H C cl fp) c7) (fun s H C cl fp => (E.snd a _ _ _ (blk_ok ok.x s H C cl fp) c8).pe) fun x => folded_of c4) ?_
    exact fun D σ H q => lc_rd (inB_ok c1) c2 _ _ _ (set_rd rfl hF D σ H q)
  | false => exact PS.imp (ps_set ok.x.nd h1 h2 z.pe (sw_lcF ok hs) h3) (set_rd rfl hF)

/-! ### the others -/
theorem st_setT (ok : OkS c P B k f X) {is : List Nat} {q : Nat} {p2 : Pos} (hp : a.isP = false) (ht : namesB f is es = true) (hn : isTup e = false) (h : Snd c P X e a) : PS X (.Assign [.Tuple es q p2] e pos) (tS c P (.setT is a)) := by
  refine PS.imp (ps_asg h.pe (g_tt (c := c) (P := P) (B := B) (k := k) ok.x ht) ?_ ?_ rfl) ?_
  · show swapsWith e (some (.Tuple es q p2)) pos.line X.env = _
    unfold swapsWith
    cases e <;> rfl
  · unfold swappedStores
    cases e <;> first | rfl | (exact Bool.noConfusion (show true = false from hn))
  · rintro D σ H ⟨H0, sx, Z, A, env, out, st, ev, g⟩
    unfold S.ev at ev
    obtain ⟨t, ea, ev⟩ := bnd ev
    obtain ⟨env', eb, eo⟩ := mpd ev
    subst eo
    refine ⟨_, env, t, st.er, ea, fun v H' w r => ⟨_, env, t, env', (by
      have := r.1
      rw [hp] at this; exact this), eb, fun u hu eu => ?_⟩⟩
    subst eu
    exact g _ _ _ ((st.up w).sets fun q m => (hu q m).1) ((Kp.same w).trans kp_offs)
/-- in-place: whole numbers and texts -/
def tiA (o : BOp) : TIp := fun x y H Q => (∃ i j, x = .int i ∧ y = .int j ∧ ((o = .add ∧ Q (.int (i + j)) H) ∨ (o = .sub ∧ Q (.int (i - j)) H))) ∨ (∃ i j, x = .str i ∧ y = .str j ∧ o = .add ∧ i.length + j.length ≤ sizeLine ∧ Q (.str (i ++ j)) H)
theorem ip_A {o : BOp} {op : Operator} (h : bopOk o op = true) : PIp X op (tiA o) := by
  intro pins s σ H x y v u Q I r1 r2 hq
  rcases hq with ⟨i, j, rfl, rfl, ⟨rfl, q⟩ | ⟨rfl, q⟩⟩ | ⟨i, j, rfl, rfl, rfl, hz, q⟩
  · cases op <;> first | (exact absurd (show false = true from h) Bool.false_ne_true) | exact ip_add pins s σ H _ _ v u Q I r1 r2 ⟨i, j, rfl, rfl, q⟩
  · cases op <;> first | (exact absurd (show false = true from h) Bool.false_ne_true) | exact ip_sub pins s σ H _ _ v u Q I r1 r2 ⟨i, j, rfl, rfl, q⟩
  · cases op <;> first | (exact absurd (show false = true from h) Bool.false_ne_true) | exact iop_add_str pins s σ H _ _ v u Q I r1 r2 ⟨i, j, rfl, rfl, hz, q⟩
theorem st_aug (ok : OkS c P B k f X) {o : BOp} {op : Operator} (hb : bopOk o op = true) (ht : tgB f i y = true) (h : Snd c P X e a) : PS X (.AugAssign (.Name y py) op e pos) (tS c P (.aug i o a)) := by
  obtain ⟨h1, h2, h3⟩ := tgB_ok ok.x ht
  refine PS.imp (ps_aug ok.x.nd h1 h2 h.pe (ip_A hb) h3) ?_
  have ll := lim_line
  rintro D σ H ⟨H0, sx, Z, A, env, out, st, ev, g⟩
  unfold S.ev at ev
  obtain ⟨tx, ex, ev⟩ := bnd ev
  obtain ⟨ty, ey, ev⟩ := bnd ev
  obtain ⟨tz, ez, eo⟩ := mpd ev
  subst eo
  obtain ⟨v, hv, rv⟩ := st.sl i _ (slV_ok ex)
  refine ⟨v, hv, _, env, ty, st.er, ey, fun w H' wq r => ?_⟩
  have rv' := Rep.kp (.same wq) _ _ rv
  have fin : ∀ {u : V}, Rep c H' (Bn Z A) tz u → D.nx (σ.set i (some u)) H' := fun r => g _ _ _ ((st.up wq).setF r) ((Kp.same wq).trans kp_off)
  unfold augT at ez
  split at ez
  · rename_i i1 j1
    have r1 := Rep.int_iff.mp rv'
    have r2 := r.1.one.int_
    split at ez
    · cases ez
      exact .inl ⟨_, _, r1, r2, .inl ⟨rfl, fin (Rep.int_iff.mpr rfl)⟩⟩
    · cases ez
      exact .inl ⟨_, _, r1, r2, .inr ⟨rfl, fin (Rep.int_iff.mpr rfl)⟩⟩
    · cases ez
  · rename_i i1 j1
    obtain ⟨r1, o1, l1⟩ := Rep.str_iff.mp rv'
    obtain ⟨r2, o2, l2⟩ := r.1.one.str_
    split at ez
    · split at ez <;> cases ez
      exact .inr ⟨_, _, r1, r2, rfl, by rw [← ll]; assumption, fin (Rep.str_iff.mpr ⟨rfl, strOk_app o1 o2, by rw [len_app]; assumption⟩)⟩
    · cases ez
  · cases ez
theorem st_ret (ok : OkS c P B k f X) (hp : a.isP = false) (h : Snd c P X e a) : PS X (.Return (some e) pos) (tS c P (.ret a)) := by
  refine PS.imp (ps_ret h.pe) ?_
  rintro D σ H ⟨H0, sx, Z, A, env, out, st, ev, g⟩
  unfold S.ev at ev
  obtain ⟨t, ea, eo⟩ := mpd ev
  subst eo
  refine ⟨_, env, t, st.er, ea, fun v H' w r => g v H' (st.same.trans w) ?_⟩
  have r1 : Rep c H' (Bn Z A) t v := by
    have := r.1
    rw [hp] at this; exact this
  exact Rep.kp (.sub fun _ z => .inl z) _ _ r1
theorem st_retN : PS X (.Return none pos) (tS c P .retN) := by
  refine PS.imp ps_retN ?_
  rintro D σ H ⟨H0, sx, Z, A, env, out, st, ev, g⟩
  unfold S.ev at ev
  cases ev
  exact g .non H st.same (Rep.non_iff.mpr rfl)
theorem st_nop {D : Ends} (h : tS c P .nop D σ H) : tNext D σ H := by
  obtain ⟨H0, sx, Z, A, env, out, st, ev, g⟩ := h
  unfold S.ev at ev
  cases ev
  exact g _ _ _ st Kp.refl
theorem st_brk : PS X (.Break pos) (tS c P .brk) := by
  refine PS.imp ps_break ?_
  rintro D σ H ⟨H0, sx, Z, A, env, out, st, ev, g⟩
  unfold S.ev at ev
  cases ev
  exact g _ _ _ st Kp.refl
theorem st_cnt : PS X (.Continue pos) (tS c P .cnt) := by
  refine PS.imp ps_continue ?_
  rintro D σ H ⟨H0, sx, Z, A, env, out, st, ev, g⟩
  unfold S.ev at ev
  cases ev
  exact g _ _ _ st Kp.refl
theorem st_nev {st : Stmt} : PS X st (tS c P .nev) := by
  refine PS.imp ps_never ?_
  rintro D σ H ⟨H0, sx, Z, A, env, out, st, ev, g⟩
  unfold S.ev at ev
  cases ev
theorem st_ex (ok : OkS c P B k f X) (hn : noComp e = true) (h : Snd c P X e a) : PS X (.Expr e pos) (tS c P (.ex a)) := by
  refine PS.imp (ps_expr h.pe (sw_no hn)) ?_
  rintro D σ H ⟨H0, sx, Z, A, env, out, st, ev, g⟩
  unfold S.ev at ev
  obtain ⟨t, ea, eo⟩ := mpd ev
  subst eo
  exact ⟨_, env, t, st.er, ea, fun v H' w r => g _ _ _ (st.up w) (.same w)⟩
theorem st_iff (ok : OkS c P B k f X) {u w : List Stmt} {su sw : Ss} (h : Snd c P X e a) (h1 : PSs X u (tSs c P su)) (h2 : PSs X w (tSs c P sw)) : PS X (.If e u w pos) (tS c P (.iff a su sw)) := by
  refine PS.imp (ps_if h.pt h1 h2) ?_
  rintro D σ H ⟨H0, sx, Z, A, env, out, st, ev, g⟩
  unfold S.ev at ev
  obtain ⟨t, ea, ev⟩ := bnd ev
  obtain ⟨kk, et, ev⟩ := bnd ev
  refine ⟨_, env, t, kk, st.er, ea, et, fun H' w => ?_⟩
  cases kk with
  | true => rw [if_pos rfl]; exact ⟨H0, sx, Z, A, env, out, st.up w, ev, g.to (.same w)⟩
  | false => rw [if_neg Bool.false_ne_true]; exact ⟨H0, sx, Z, A, env, out, st.up w, ev, g.to (.same w)⟩
theorem st_for (ok : OkS c P B k f X) {g : Tg} {it : It} {u : List Stmt} {su : Ss} (hp : it.pk = false) (hi : PI X tg e (tI c P it)) (hg : PG X tg (tG c g)) (hs : noSet e = true) (hb : PSs X u (tSs c P su)) : PS X (.For tg e u [] pos) (tS c P (.forr g it su)) := by
  refine PS.imp (ps_for ok.po ok.x.calm hi hg hb fun x => folded_of hs) ?_
  rintro D σ H ⟨H0, sx, Z, A, env, out, st, ev, g0⟩
  unfold S.ev at ev
  obtain ⟨ts, ei, ev⟩ := bnd ev
  refine ⟨_, env, ts, st.er, ei, fun J H1 F w fok pk itok => ?_⟩
  have pk := pk hp
  have g1 : Good c H0 sx Z D A H1 out := g0.to (.same w)
  refine ⟨fun i m σ H => m = ts.length - i ∧ i ≤ ts.length ∧ ∃ A' env', StO c H0 sx Z A' σ H env' ∧ Kp H1 H (Bn Z A) (Bn Z A') ∧ FOk c H (Bn Z A') F ∧ forL (su.ev P) g (ts.drop i) env' = some out,
    ⟨ts.length, by simp, Nat.zero_le _, A, env, st.up w, Kp.refl, fok, ev⟩, ?_⟩
  rintro i m σ H ⟨rfl, hi, A', env', s', kp, fok', ev'⟩
  by_cases hlt : i < ts.length
  · right
    have hx : ts[i]? = some ts[i] := List.getElem?_eq_getElem hlt
    obtain ⟨jgo, jy⟩ := itok.go i H _ _ s'.dm fok' hx
    have sm : ts.length - (i + 1) < ts.length - i := by omega
    refine ⟨jgo, fun σ' H' => ∃ m', m' < ts.length - i ∧ (m' = ts.length - (i + 1) ∧ i + 1 ≤ ts.length ∧ ∃ A' env', StO c H0 sx Z A' σ' H' env' ∧ Kp H1 H' (Bn Z A) (Bn Z A') ∧ FOk c H' (Bn Z A') F ∧ forL (su.ev P) g (ts.drop (i + 1)) env' = some out), fun _ _ h => h, ?_⟩
    intro x H2 hyld
    obtain ⟨w2, rx⟩ := jy x H2 hyld
    rw [List.drop_eq_getElem_cons hlt] at ev'
    unfold forL at ev'
    obtain ⟨env2, eb, ev'⟩ := bnd ev'
    refine ⟨_, env', _, env2, rx, eb, fun up hu eu => ?_⟩
    have s2 : StO c H0 sx Z (offs A' up) (setsS up σ) H2 env2 := by
      rw [eu]
      exact (s'.up w2).sets fun q m => (hu q m).1
    have k2 : Kp H1 H2 (Bn Z A) (Bn Z (offs A' up)) := (kp.trans (.same w2)).trans kp_offs
    have again : ∀ e3, forL (su.ev P) g (ts.drop (i + 1)) e3 = some out → ∀ σ' H' A3, StO c H0 sx Z A3 σ' H' e3 → Kp H2 H' (Bn Z (offs A' up)) (Bn Z A3) →
        ∃ m', m' < ts.length - i ∧ (m' = ts.length - (i + 1) ∧ i + 1 ≤ ts.length ∧ ∃ A' env', StO c H0 sx Z A' σ' H' env' ∧ Kp H1 H' (Bn Z A) (Bn Z A') ∧ FOk c H' (Bn Z A') F ∧ forL (su.ev P) g (ts.drop (i + 1)) env' = some out) := by
      intro e3 h3 σ' H' A3 s3 k3
      refine ⟨_, sm, rfl, hlt, A3, e3, s3, k2.trans k3, fun q m => ?_, h3⟩
      have h5 := fok q m
      have h6 := pk q m
      rw [h6] at h5 ⊢
      exact Rep.kp (k2.trans k3) _ _ h5
    cases hbd : su.ev P env2 with
    | none => rw [hbd] at ev'; cases ev'
    | some o2 =>
      rw [hbd] at ev'
      refine ⟨H0, sx, Z, _, env2, o2, s2, hbd, ?_⟩
      cases o2 with
      | nx e3 => exact again e3 ev'
      | ct e3 => exact again e3 ev'
      | bk e3 => cases ev'; exact fun σ' H' A3 s3 k3 => g1 σ' H' A3 s3 (k2.trans k3)
      | rt t => cases ev'; exact g1
  · left
    have hie : i = ts.length := by omega
    subst hie
    rw [List.drop_length] at ev'
    unfold forL at ev'
    cases ev'
    exact ⟨itok.stop H _ fok', g1 _ _ _ s' kp⟩
theorem st_whl (ok : OkS c P B k f X) {n : Nat} {u : List Stmt} {su : Ss} (h : Snd c P X e a) (hb : PSs X u (tSs c P su)) : PS X (.While e u [] pos) (tS c P (.whl n a su)) := by
  refine PS.imp (ps_while ok.po h.pt hb) ?_
  rintro D σ H ⟨H0, sx, Z, A, env, out, st, ev, g0⟩
  unfold S.ev at ev
  refine ⟨fun m σ' H' => ∃ A' env', StO c H0 sx Z A' σ' H' env' ∧ Kp H H' (Bn Z A) (Bn Z A') ∧ whlL (fun env => (a.ev P env).bind T.tru) (su.ev P) m env' = some out, ⟨n, A, env, st, Kp.refl, ev⟩, ?_⟩
  rintro m σ H2 ⟨A', env', s', kp, ev'⟩
  cases m with
  | zero => unfold whlL at ev'; cases ev'
  | succ m =>
    unfold whlL at ev'
    cases hc : (a.ev P env').bind T.tru with
    | none => rw [hc] at ev'; cases ev'
    | some kk =>
      rw [hc] at ev'
      obtain ⟨t, ea, et⟩ := bnd hc
      refine ⟨_, env', t, kk, s'.er, ea, et, fun H3 w => ?_⟩
      cases kk with
      | false =>
        rw [if_neg Bool.false_ne_true]
        cases ev'
        exact g0 _ _ _ (s'.up w) (kp.trans (.same w))
      | true =>
        rw [if_pos rfl]
        dsimp only at ev'
        cases hbd : su.ev P env' with
        | none => rw [hbd] at ev'; cases ev'
        | some o2 =>
          rw [hbd] at ev'
          refine ⟨fun σ' H' => ∃ m', m' < m + 1 ∧ ∃ A' env', StO c H0 sx Z A' σ' H' env' ∧ Kp H H' (Bn Z A) (Bn Z A') ∧ whlL (fun env => (a.ev P env).bind T.tru) (su.ev P) m' env' = some out, fun _ _ h => h, H0, sx, Z, A', env', o2, s'.up w, hbd, ?_⟩
          have k2 := kp.trans (.same (Z := Bn Z A') w)
          cases o2 with
          | nx e3 => exact fun σ' H' A3 s3 k3 => ⟨m, Nat.lt_succ_self _, A3, e3, s3, k2.trans k3, ev'⟩
          | ct e3 => exact fun σ' H' A3 s3 k3 => ⟨m, Nat.lt_succ_self _, A3, e3, s3, k2.trans k3, ev'⟩
          | bk e3 => cases ev'; exact fun σ' H' A3 s3 k3 => g0 σ' H' A3 s3 (k2.trans k3)
          | rt t => cases ev'; exact g0
end
end Fe

set_option Elab.async false
set_option linter.all false
set_option autoImplicit false
set_option maxRecDepth 100000
set_option maxHeartbeats 4000000
/-! Fe18: lists changed in place. -/
namespace Fe
open PySem PySem.Spec PyProof.Rows L2
def Lm.nm : Lm → Str
  | .append => "append" | .extend => "extend" | .insert => "insert" | .clear => "clear" | .pop => "pop" | .popAt => "pop" | .reverse => "reverse"
def Lm.id : Lm → String
  | .append => "list.append" | .extend => "list.extend" | .insert => "list.insert" | .clear => "list.clear" | .pop => "list.pop" | .popAt => "list.pop" | .reverse => "list.reverse"
def Lm.peeks : Lm → Bool
  | .extend => true
  | _ => false
theorem Lm.facts (m : Lm) : PlainAttrs "list" ∧ Slot "list" m.nm m.id ∧ typeOf (.builtin m.id) = pure (.type "method_descriptor") := by
  cases m with
  | append => exact ⟨PySem.F.plainAttrs_list, PySem.F.slot_list_append, PySem.F.type_list_append⟩
  | extend => exact ⟨PySem.F.plainAttrs_list, PySem.F.slot_list_extend, PySem.F.type_list_extend⟩
  | insert => exact ⟨PySem.F.plainAttrs_list, PySem.F.slot_list_insert, PySem.F.type_list_insert⟩
  | clear => exact ⟨PySem.F.plainAttrs_list, PySem.F.slot_list_clear, PySem.F.type_list_clear⟩
  | pop => exact ⟨PySem.F.plainAttrs_list, PySem.F.slot_list_pop, PySem.F.type_list_pop⟩
  | popAt => exact ⟨PySem.F.plainAttrs_list, PySem.F.slot_list_pop, PySem.F.type_list_pop⟩
  | reverse => exact ⟨PySem.F.plainAttrs_list, PySem.F.slot_list_reverse, PySem.F.type_list_reverse⟩
def rLm (c : Cl) (m : Lm) : V → List V → Hp → VK → Prop := fun x vs H Q => ∃ Z a ws l ts l', x = .ref a ∧ H a = some (.lst ws) ∧ RepL c H Z l ws ∧ (if m.peeks then RepA1 c H Z ts vs else RepL c H Z ts vs) ∧ m.ap l ts = some l' ∧
  ∀ ws' v, RepL c H Z l' ws' → Rep c H Z (m.an l ts) v → l'.length ≤ LIM → Q v (upd H a (.lst ws'))
section
variable {X : Cx} {c : Cl} {P : Pg} {B : Tb} {k : Nat} {f : Cf} {Z : Zn} {H H' H0 H1 : Hp} {σ : L2.St} {env : En} {t : T} {ts : List T} {vs : List V} {e e1 e2 e3 tg : Expr} {a b d : E} {pos p apos py : Pos} {es : List Expr} {l : Es} {x y : Str} {i j : Nat} {sx : Option Addr} {m : Lm}
theorem RepL.one_ (h : RepL c H Z [t] vs) : ∃ v, vs = [v] ∧ Rep c H Z t v := by
  obtain ⟨v, r, rfl, h1, h2⟩ := RepL.cons_iff.mp h
  rw [RepL.nil_iff.mp h2]
  exact ⟨v, rfl, h1⟩
theorem RepL.two_ {u : T} (h : RepL c H Z [t, u] vs) : ∃ v w, vs = [v, w] ∧ Rep c H Z t v ∧ Rep c H Z u w := by
  obtain ⟨v, r, rfl, h1, h2⟩ := RepL.cons_iff.mp h
  obtain ⟨w, rfl, h3⟩ := RepL.one_ h2
  exact ⟨v, w, rfl, h1, h3⟩
theorem RepL.eraseIdx : ∀ {ts : List T} {vs : List V} (n : Nat), RepL c H Z ts vs → RepL c H Z (ts.eraseIdx n) (vs.eraseIdx n)
  | [], vs, n, h => by rw [RepL.nil_iff.mp h]; exact RepL.nil
  | _ :: ts, vs, 0, h => by
    obtain ⟨w, r, rfl, h1, h2⟩ := RepL.cons_iff.mp h
    exact h2
  | _ :: ts, vs, n + 1, h => by
    obtain ⟨w, r, rfl, h1, h2⟩ := RepL.cons_iff.mp h
    exact RepL.cons h1 (RepL.eraseIdx n h2)
theorem seq_ix {n : Nat} {i : Int} (h0 : 0 ≤ i) (h : i < n) : seqIndex? i n = some i.toNat := by
  have : ixN n i = some i.toNat := by unfold ixN; rw [if_pos h0, if_pos h]
  exact (ixN_seq this).1
theorem ap_append {l ts l' : List T} (h : Lm.append.ap l ts = some l') : ∃ t, ts = [t] ∧ l.length < LIM ∧ l' = l ++ [t] := by
  unfold Lm.ap at h
  split at h <;> first | (cases h; done) | (rename_i he; cases he; done) | skip
  split at h <;> cases h
  exact ⟨_, rfl, by assumption, rfl⟩
theorem ap_extend {l ts l' : List T} (h : Lm.extend.ap l ts = some l') : ∃ r, ts = [.lst r] ∧ l.length + r.length ≤ LIM ∧ l' = l ++ r := by
  unfold Lm.ap at h
  split at h <;> first | (cases h; done) | (rename_i he; cases he; done) | skip
  split at h <;> cases h
  exact ⟨_, rfl, by assumption, rfl⟩
theorem ap_insert {l ts l' : List T} (h : Lm.insert.ap l ts = some l') : ∃ i t, ts = [.int i, t] ∧ (l.length < LIM ∧ 0 ≤ i ∧ i < 2 ^ 62) ∧ l' = l.take i.toNat ++ [t] ++ l.drop i.toNat := by
  unfold Lm.ap at h
  split at h <;> first | (cases h; done) | (rename_i he; cases he; done) | skip
  split at h <;> cases h
  exact ⟨_, _, rfl, by assumption, rfl⟩
theorem ap_clear {l ts l' : List T} (h : Lm.clear.ap l ts = some l') : ts = [] ∧ l' = [] := by
  unfold Lm.ap at h
  split at h <;> first | (cases h; done) | (rename_i he; cases he; done) | skip
  cases h
  exact ⟨rfl, rfl⟩
theorem ap_pop {l ts l' : List T} (h : Lm.pop.ap l ts = some l') : ts = [] ∧ 0 < l.length ∧ l' = l.dropLast := by
  cases ts with
  | cons t ts => cases h
  | nil =>
    have h' : (if l.isEmpty then none else some l.dropLast) = some l' := h
    cases l with
    | nil => cases h'
    | cons a l => cases h'; exact ⟨rfl, Nat.zero_lt_succ _, rfl⟩
theorem ap_popAt {l ts l' : List T} (h : Lm.popAt.ap l ts = some l') : ∃ i, ts = [.int i] ∧ (0 ≤ i ∧ i < l.length) ∧ l' = l.eraseIdx i.toNat := by
  unfold Lm.ap at h
  split at h <;> first | (cases h; done) | (rename_i he; cases he; done) | skip
  split at h <;> cases h
  exact ⟨_, rfl, by assumption, rfl⟩
theorem ap_reverse {l ts l' : List T} (h : Lm.reverse.ap l ts = some l') : ts = [] ∧ l' = l.reverse := by
  unfold Lm.ap at h
  split at h <;> first | (cases h; done) | (rename_i he; cases he; done) | skip
  cases h
  exact ⟨rfl, rfl⟩
theorem mt_Lm : MtR X m.id (rLm c m) := by
  have ll := lim_line
  have hL : LIM < 2 ^ 62 := by decide
  intro pins s σ H x vs v us Q I rx rv h
  obtain ⟨Z, a, ws, l, ts, l', rfl, ha, rl, rt, eq, q⟩ := h
  have hn := rl.length
  cases m with
  | append =>
    rw [if_neg (by decide)] at rt
    obtain ⟨t, rfl, hl, rfl⟩ := ap_append eq
    obtain ⟨w, rfl, rw_⟩ := RepL.one_ rt
    exact mt_append pins s σ H _ _ v us Q I rx rv ⟨a, ws, w, rfl, rfl, ha, by rw [hn, ← ll]; exact hl, q _ _ (RepL.append rl (RepL.cons rw_ RepL.nil)) (Rep.non_iff.mpr rfl) (by rw [List.length_append, List.length_singleton]; omega)⟩
  | extend =>
    rw [if_pos (by rfl)] at rt
    obtain ⟨r, rfl, hl, rfl⟩ := ap_extend eq
    obtain ⟨w, rfl, rw_⟩ := rt.one
    obtain ⟨b, zs, rfl, hb, rz, _⟩ := rw_.lst
    exact mt_extend pins s σ H _ _ v us Q I rx rv ⟨a, b, ws, zs, rfl, rfl, ha, hb, by rw [hn, rz.length, ← ll]; exact hl, q _ _ (RepL.append rl rz) (Rep.non_iff.mpr rfl) (by rw [List.length_append]; exact hl)⟩
  | insert =>
    rw [if_neg (by decide)] at rt
    obtain ⟨n, t, rfl, hl, rfl⟩ := ap_insert eq
    obtain ⟨u, w, rfl, ru, rw_⟩ := RepL.two_ rt
    rw [Rep.int_iff] at ru
    subst ru
    refine mt_insert pins s σ H _ _ v us Q I rx rv ⟨a, ws, n, w, rfl, rfl, ha, by rw [hn, ← ll]; exact hl.1, hl.2.1, by omega, q _ _ (RepL.append (RepL.append (RepL.take _ rl) (RepL.cons rw_ RepL.nil)) (RepL.drop _ rl)) (Rep.non_iff.mpr rfl) ?_⟩
    rw [List.length_append, List.length_append, List.length_singleton, List.length_take, List.length_drop]; omega
  | clear =>
    rw [if_neg (by decide)] at rt
    obtain ⟨rfl, rfl⟩ := ap_clear eq
    rw [RepL.nil_iff.mp rt] at rv
    exact mt_clear pins s σ H _ _ v us Q I rx rv ⟨a, ws, rfl, rfl, ha, q _ _ RepL.nil (Rep.non_iff.mpr rfl) (Nat.zero_le _)⟩
  | pop =>
    rw [if_neg (by decide)] at rt
    obtain ⟨rfl, h0, rfl⟩ := ap_pop eq
    rw [RepL.nil_iff.mp rt] at rv
    have hx : l[l.length - 1]? = some l[l.length - 1] := List.getElem?_eq_getElem (by omega)
    obtain ⟨w, hw, rw_⟩ := rl.get hx
    have hz := rl.take (l.length - 1)
    refine mt_pop pins s σ H _ _ v us Q I rx rv ⟨a, ws, w, rfl, rfl, ha, by rw [hn]; exact hw, q _ _ ?_ ?_ ?_⟩
    · rw [List.dropLast_eq_take, List.dropLast_eq_take, hn]; exact hz
    · show Rep c H Z (l[l.length - 1]?.getD .non) w
      rw [hx]; exact rw_
    · have := (I.lstM ha).1
      rw [List.length_dropLast]; omega
  | popAt =>
    rw [if_neg (by decide)] at rt
    obtain ⟨n, rfl, hc, rfl⟩ := ap_popAt eq
    obtain ⟨u, rfl, ru⟩ := RepL.one_ rt
    rw [Rep.int_iff] at ru
    subst ru
    have hlt : n.toNat < l.length := by omega
    have hx : l[n.toNat]? = some l[n.toNat] := List.getElem?_eq_getElem hlt
    obtain ⟨w, hw, rw_⟩ := rl.get hx
    have hz := (I.lstM ha).1
    refine mt_popAt pins s σ H _ _ v us Q I rx rv ⟨a, ws, n, n.toNat, w, rfl, rfl, ha, by omega, by omega, by rw [hn]; exact seq_ix hc.1 hc.2, hw, q _ _ (RepL.eraseIdx _ rl) ?_ ?_⟩
    · show Rep c H Z (l[n.toNat]?.getD .non) w
      rw [hx]; exact rw_
    · have := List.length_eraseIdx_le l n.toNat
      omega
  | reverse =>
    rw [if_neg (by decide)] at rt
    obtain ⟨rfl, rfl⟩ := ap_reverse eq
    rw [RepL.nil_iff.mp rt] at rv
    have hz := (I.lstM ha).1
    exact mt_reverse pins s σ H _ _ v us Q I rx rv ⟨a, ws, rfl, rfl, ha, q _ _ rl.reverse (Rep.non_iff.mpr rfl) (by rw [List.length_reverse]; omega)⟩
/-- the call x.m(..), as an expression -/
theorem slO_ok {o : Option Sl} {l : List T} (h : slO o = some l) : o = some (.ow (.lst l)) := by
  unfold slO at h
  split at h
  · cases h; rfl
  · cases h
def tLm (c : Cl) (P : Pg) (m : Lm) (i : Nat) (l : Es) : TE := fun σ H Q => ∃ H0 sx Z A env xs ts ys, StO c H0 sx Z A σ H env ∧ slO env[i]? = some xs ∧ l.ev P env = some ts ∧ m.ap xs ts = some ys ∧
  ∀ v H' , StO c H0 sx Z A σ H' (env.set i (.ow (.lst ys))) → Kp H H' (Bn Z A) (Bn Z A) → Rep c H' (Bn Z A) (m.an xs ts) v → Q v H'
theorem lm_rd (hn : (m.peeks || noP l) = true) : ∀ σ H Q, tLm c P m i l σ H Q → tBM c.K "list" (rLm c m) (tVar i) (tA c P l l.flags) σ H Q := by
  rintro σ H Q ⟨H0, sx, Z, A, env, xs, ts, ys, st, es, el, em, q⟩
  obtain ⟨a, ws, h1, h2, h3, h4, put⟩ := st.put (slO_ok es)
  refine ⟨.ref a, h1, .inl ⟨rfl, ws, SqL.of h2⟩, Bn Z A, env, ts, st.er, el, fun vs H' w r n => ?_⟩
  refine ⟨Bn Z A, a, ws, xs, ts, ys, rfl, w _ _ h2, RepL.kp (.same w) _ _ h3, ?_, em, fun ws' v r' rv hl => ?_⟩
  · cases hp : m.peeks with
    | true => rw [if_pos rfl]; exact r.one_
    | false =>
      rw [if_neg Bool.false_ne_true]
      rw [hp] at hn
      exact r.np (by simpa using hn)
  · obtain ⟨st', kp⟩ := put ys ws' H' w r' hl
    refine q v _ st' kp (Rep.kp ⟨fun x o e nz => ?_, fun x z => .inl z⟩ _ _ rv)
    by_cases hx : x = a
    · subst hx
      obtain ⟨l', a', vs', q1, q2, q3, _⟩ := st.sl i _ (slO_ok es)
      rw [h1] at q2
      cases q2
      exact absurd (.inr ⟨i, q3⟩) nz
    · rw [upd_ne hx]; exact e
theorem e_lm (ok : OkS c P B k f X) (hx : nmB f i x = true) (hn : (m.peeks || noP l) = true) (hz : decide ((e :: es).length < 29) = true) (hline : (apos.endLine == pos.line) = true) (hst : (e :: es).all noStar = true)
    (h : PA X (e :: es) (tA c P l l.flags)) : PE X (.Call (.Attribute (.Name x p) m.nm apos) (e :: es) [] pos) (tLm c P m i l) := by
  obtain ⟨f1, f2, f3⟩ := m.facts
  have hst' := hst
  rw [List.all_cons, Bool.and_eq_true] at hst'
  have few : ((backTo pos (starEach (e :: es) X.env)).all (fun x => !x.1) && (backToKw pos (keywordEach [] X.env)).all (fun x => x.1.isSome)
      && decide ((e :: es).length + ([] : List Keyword).length + (if ([] : List Keyword).isEmpty then 0 else 1) < 30)) = true := by
    rw [star_all hst]
    have : (e :: es).length < 29 := of_decide_eq_true hz
    show (true && true && decide ((e :: es).length + 0 + 0 < 30)) = true
    rw [decide_eq_true (by omega)]; rfl
  refine PE.imp (pe_bm f1 f2 f3 (mt_Lm (c := c)) (ok.x.nm hx) h rfl few hline (starEach_cons hst'.1) (star_any hst'.2)) ?_
  rw [ok.x.hK]
  exact lm_rd hn
theorem e_lm0 (ok : OkS c P B k f X) (hx : nmB f i x = true) (hline : (apos.endLine == pos.line) = true) : PE X (.Call (.Attribute (.Name x p) m.nm apos) [] [] pos) (tLm c P m i .nil) := by
  obtain ⟨f1, f2, f3⟩ := m.facts
  refine PE.imp (pe_bm0 f1 f2 f3 (mt_Lm (c := c)) (ok.x.nm hx) rfl hline) ?_
  rw [ok.x.hK]
  intro σ H Q h
  obtain ⟨v, h1, h2, h3⟩ := lm_rd (l := .nil) (by simp [noP]) σ H Q h
  refine ⟨v, h1, h2, ?_⟩
  obtain ⟨Z, env, ts, er, ee, q⟩ := h3
  unfold Es.ev at ee; cases ee
  exact q [] H (Same.refl H) rfl rfl
def Es.isNil : Es → Bool
  | .nil => true
  | _ => false
/-- the look at x.m(..) -/
def lmB (B : Tb) (f : Cf) (m : Lm) (i : Nat) (l : Es) : Expr → Bool
  | .Call (.Attribute (.Name x _) y apos) es [] pos => nmB f i x && (decide (y = m.nm) && ((m.peeks || noP l) && (decide (es.length < 29) && ((apos.endLine == pos.line) && (es.all noStar && Es.chk B f l es)))))
  | _ => false
theorem lmB_ok (ok : OkS c P B k f X) (h : lmB B f m i l e = true) : PE X e (tLm c P m i l) ∧ noComp e = true ∧ isTup e = false := by
  unfold lmB at h
  split at h <;> first | (exact absurd h Bool.false_ne_true) | skip
  simp only [Bool.and_eq_true, decide_eq_true_eq] at h
  obtain ⟨h1, h2, h3, h4, h5, h6, h7⟩ := h
  subst h2
  refine ⟨?_, rfl, rfl⟩
  have z := Es.snd (P := P) (c := c) (k := k) l f X _ ok.x h7
  cases l with
  | nil =>
    unfold Es.chk at h7
    split at h7 <;> first | (exact absurd h7 Bool.false_ne_true) | skip
    exact e_lm0 ok h1 h5
  | cons a l =>
    unfold Es.chk at h7
    split at h7 <;> first | (exact absurd h7 Bool.false_ne_true) | skip
    exact e_lm ok h1 h3 (decide_eq_true h4) h5 h6 z
theorem st_lm (ok : OkS c P B k f X) (h : lmB B f m i l e = true) : PS X (.Expr e pos) (tS c P (.lm m i l)) := by
  obtain ⟨h1, h2, _⟩ := lmB_ok (P := P) (c := c) ok h
  refine PS.imp (ps_expr h1 (sw_no h2)) ?_
  rintro D σ H ⟨H0, sx, Z, A, env, out, st, ev, g⟩
  unfold S.ev at ev
  obtain ⟨xs, ex, ev⟩ := bnd ev
  obtain ⟨ts, et, ev⟩ := bnd ev
  obtain ⟨ys, ey, eo⟩ := mpd ev
  subst eo
  exact ⟨H0, sx, Z, A, env, xs, ts, ys, st, ex, et, ey, fun v H' s' kp _ => g _ _ _ s' kp⟩
theorem st_lms (ok : OkS c P B k f X) (ht : tgB f j y = true) (h : lmB B f m i l e = true) : PS X (.Assign [.Name y py] e pos) (tS c P (.lms j m i l)) := by
  obtain ⟨h1, h2, _⟩ := lmB_ok (P := P) (c := c) ok h
  obtain ⟨t1, t2, t3⟩ := tgB_ok ok.x ht
  refine PS.imp (ps_set ok.x.nd t1 t2 h1 (sw_no h2) t3) ?_
  rintro D σ H ⟨H0, sx, Z, A, env, out, st, ev, g⟩
  unfold S.ev at ev
  obtain ⟨xs, ex, ev⟩ := bnd ev
  obtain ⟨ts, et, ev⟩ := bnd ev
  obtain ⟨ys, ey, eo⟩ := mpd ev
  subst eo
  exact ⟨H0, sx, Z, A, env, xs, ts, ys, st, ex, et, ey, fun v H' s' kp r => g _ _ _ (s'.setF r) (kp.trans kp_off)⟩
theorem st_lmt (ok : OkS c P B k f X) {is : List Nat} {q : Nat} {p2 : Pos} (ht : namesB f is es = true) (h : lmB B f m i l e = true) : PS X (.Assign [.Tuple es q p2] e pos) (tS c P (.lmt is m i l)) := by
  obtain ⟨h1, h2, hn⟩ := lmB_ok (P := P) (c := c) ok h
  refine PS.imp (ps_asg h1 (g_tt (c := c) (P := P) (B := B) (k := k) ok.x ht) ?_ ?_ rfl) ?_
  · show swapsWith e (some (.Tuple es q p2)) pos.line X.env = _
    unfold swapsWith
    cases e <;> rfl
  · unfold swappedStores
    cases e <;> first | rfl | (exact Bool.noConfusion (show true = false from hn))
  rintro D σ H ⟨H0, sx, Z, A, env, out, st, ev, g⟩
  unfold S.ev at ev
  obtain ⟨xs, ex, ev⟩ := bnd ev
  obtain ⟨ts, et, ev⟩ := bnd ev
  obtain ⟨ys, ey, ev⟩ := bnd ev
  obtain ⟨env', eb, eo⟩ := mpd ev
  subst eo
  refine ⟨H0, sx, Z, A, env, xs, ts, ys, st, ex, et, ey, fun v H' s' kp r => ⟨_, _, _, env', r, eb, fun u hu eu => ?_⟩⟩
  subst eu
  exact g _ _ _ (s'.sets fun q m => (hu q m).1) (kp.trans kp_offs)
theorem ix_len {l : List T} {vs : List V} (r : RepL c H Z l vs) (q : Int) : ixN vs.length q = ixN l.length q := by rw [r.length]
theorem st_seti (ok : OkS c P B k f X) {p2 : Pos} (hx : nmB f i x = true) (hp : b.isP = false) (hs : noSlice e1 = true) (h1 : Snd c P X e1 a) (h2 : Snd c P X e2 b) : PS X (.Assign [.Subscript (.Name x p) e1 p2] e2 pos) (tS c P (.seti i a b)) := by
  refine PS.imp (ps_asg h2.pe (pg_sub (ok.x.nm hx) h1.pe set_list ?_) ?_ ?_ rfl) ?_
  · intro v
    cases e1 <;> first | rfl | (exact absurd (show false = true from hs) Bool.false_ne_true)
  · show swapsWith e2 (some (.Subscript (.Name x p) e1 p2)) pos.line X.env = _
    unfold swapsWith
    cases e2 <;> rfl
  · unfold swappedStores
    cases e2 <;> rfl
  rintro D σ H ⟨H0, sx, Z, A, env, out, st, ev, g⟩
  unfold S.ev at ev
  obtain ⟨yv, ey, ev⟩ := bnd ev
  obtain ⟨xs, ex, ev⟩ := bnd ev
  obtain ⟨iv, ei, ev⟩ := bnd ev
  obtain ⟨ys, eys, eo⟩ := mpd ev
  subst eo
  refine ⟨_, env, yv, st.er, ey, fun v H' w r => ?_⟩
  obtain ⟨ad, ws, h1, h2, h3, h4, put⟩ := st.put (slO_ok ex)
  refine ⟨.ref ad, h1, _, env, iv, (st.er).same w, ei, fun u H2 w2 r2 => ?_⟩
  unfold setiT at eys
  split at eys
  · rename_i n
    obtain ⟨jj, ej, e3⟩ := mpd eys
    subst e3
    have s2 := w.trans w2
    have rl2 := RepL.kp (.same s2) _ _ h3
    have rv : Rep c H2 (Bn Z A) yv v := by
      have := r.1
      rw [hp] at this
      exact Rep.kp (.same w2) _ _ this
    refine ⟨ad, ws, n, jj, rfl, r2.1.one.int_, s2 _ _ h2, by rw [ix_len rl2]; exact ej, ?_⟩
    obtain ⟨st', kp⟩ := put (xs.set jj yv) (ws.set jj v) H2 s2 (rl2.set jj rv) (by rw [List.length_set]; exact h4)
    exact g _ _ _ st' kp
  · cases eys
end
end Fe

set_option Elab.async false
set_option linter.all false
set_option autoImplicit false
set_option maxRecDepth 100000
set_option maxHeartbeats 4000000
/-! Fe19: the look at statements; what it says is so. -/
namespace Fe
open PySem PySem.Spec PyProof.Rows L2
section
variable {X : Cx} {c : Cl} {P : Pg} {B : Tb} {k : Nat} {f : Cf} {Z : Zn} {H H' H0 H1 : Hp} {σ : L2.St} {env : En} {t : T} {ts : List T} {vs : List V} {e e1 e2 e3 tg : Expr} {a b d : E} {pos p apos py : Pos} {es : List Expr} {l : Es} {x y : Str} {i j : Nat} {sx : Option Addr} {m : Lm}
theorem putF_zip {u : V} : ∀ {fl : List Str} {vs : List V}, fl.Nodup → fl[vs.length]? = some x → putF x u (fl.zip vs) = fl.zip (vs ++ [u])
  | [], vs, _, h => by simp at h
  | n :: fl, [], _, h => by
    simp at h
    subst h
    cases fl <;> rfl
  | n :: fl, v :: vs, nd, h => by
    have h' : fl[vs.length]? = some x := by simpa using h
    have hm : x ∈ fl := List.mem_of_getElem? h'
    have nx : n ≠ x := fun z => (List.nodup_cons.mp nd).1 (z ▸ hm)
    have ih := putF_zip (u := u) (List.nodup_cons.mp nd).2 h'
    show putF x u ((n, v) :: fl.zip vs) = (n, v) :: fl.zip (vs ++ [u])
    rw [← ih]
    show (if n = x then (n, u) :: fl.zip vs else (n, v) :: putF x u (fl.zip vs)) = _
    rw [if_neg nx]
theorem st_fset (ok : OkS c P B k f X) {p2 : Pos} (hx : nmB f i x = true) (hp : a.isP = false) (h : Snd c P X e a) : PS X (.Assign [.Attribute (.Name x p) y p2] e pos) (tS c P (.fset i y a)) := by
  refine PS.imp (ps_fld (X := X) (ok.x.nm hx) h.pe (by unfold swapsWith; cases e <;> rfl)) ?_
  rintro D σ H ⟨H0, sx, Z, A, env, out, st, ev, g⟩
  unfold S.ev at ev
  obtain ⟨t, ea, ev⟩ := bnd ev
  obtain ⟨s, es, eo⟩ := mpd ev
  subst eo
  refine ⟨_, env, t, st.er, ea, fun v H' w r => ?_⟩
  unfold fsetT at es
  split at es
  · rename_i q fs hi
    split at es <;> cases es
    have hf : (P.fl q)[fs.length]? = some y := by assumption
    rw [ok.x.fct.fl] at hf
    obtain ⟨ad, dx, vs, h1, h2, h3, put⟩ := st.putN hi
    obtain ⟨cl, na⟩ := ok.x.fct.fld q y (List.mem_of_getElem? hf)
    have hl := h3.length
    have r1 : Rep c H' (Bn Z A) t v := by
      have := r.1
      rw [hp] at this; exact this
    refine ⟨.ref ad, h1, ad, _, dx, _, rfl, w _ _ h2, cl, na, ?_, ?_⟩
    · have := ok.x.fct.few q
      rw [List.length_zip]; omega
    · rw [putF_zip (ok.x.fct.nd q) (by rw [hl]; exact hf)]
      have hlt : fs.length < (c.fl q).length := (List.getElem?_eq_some_iff.mp hf).1
      obtain ⟨st', kp⟩ := put (fs ++ [t]) (vs ++ [v]) H' w (RepL.append (RepL.kp (.same w) _ _ h3) (RepL.cons r1 RepL.nil)) (by rw [List.length_append, List.length_singleton]; omega)
      exact g _ _ _ st' kp
  · cases es
end
def isLc : E → Bool
  | .lc _ _ _ _ _ => true
  | _ => false
def isFrz : S → Bool
  | .frz _ => true
  | _ => false
def isDoc : Expr → Bool
  | .Constant (.str _) _ _ => true
  | _ => false
mutual
def S.chk (B : Tb) : Cf → S → Stmt → Bool
  | f, .set i o e, st => match st with
    | .Assign [.Name y py] v _ => tgB f i y && (!e.isP && ((!o || e.isF) && ((noComp v || isLc e) && E.chk B f e v)))
    | _ => false
  | f, .setT is e, st => match st with
    | .Assign [.Tuple es _ _] v _ => namesB f is es && (!e.isP && (!isTup v && E.chk B f e v))
    | _ => false
  | _, .par _ _ _ _, _ => false
  | f, .aug i o e, st => match st with
    | .AugAssign (.Name y _) op v _ => bopOk o op && (tgB f i y && E.chk B f e v)
    | _ => false
  | f, .ret e, st => match st with
    | .Return (some v) _ => !e.isP && E.chk B f e v
    | _ => false
  | _, .retN, st => match st with
    | .Return none _ => true
    | _ => false
  | f, .iff c a b, st => match st with
    | .If e u w _ => E.chk B f c e && (Ss.chk B f a u && Ss.chk B f b w)
    | _ => false
  | f, .forr tg it b, st => match st with
    | .For t e u [] _ => !it.pk && (It.chk B f it t e && (tg.chk f t && (noSet e && Ss.chk B f b u)))
    | _ => false
  | f, .whl _ c b, st => match st with
    | .While e u [] _ => E.chk B f c e && Ss.chk B f b u
    | _ => false
  | _, .brk, st => match st with
    | .Break _ => true
    | _ => false
  | _, .cnt, st => match st with
    | .Continue _ => true
    | _ => false
  | _, .nop, st => match st with
    | .Pass _ => true
    | .Expr v _ => isDoc v
    | _ => false
  | f, .lm m i l, st => match st with
    | .Expr v _ => lmB B f m i l v
    | _ => false
  | f, .lms j m i l, st => match st with
    | .Assign [.Name y _] v _ => tgB f j y && lmB B f m i l v
    | _ => false
  | f, .lmt is m i l, st => match st with
    | .Assign [.Tuple es _ _] v _ => namesB f is es && lmB B f m i l v
    | _ => false
  | f, .seti i a b, st => match st with
    | .Assign [.Subscript (.Name x _) e1 _] e2 _ => nmB f i x && (!b.isP && (noSlice e1 && (E.chk B f a e1 && E.chk B f b e2)))
    | _ => false
  | f, .fset i y e, st => match st with
    | .Assign [.Attribute (.Name x _) y' _] v _ => nmB f i x && (decide (y = y') && (!e.isP && E.chk B f e v))
    | _ => false
  | f, .ex e, st => match st with
    | .Expr v _ => noComp v && E.chk B f e v
    | _ => false
  | _, .frz _, _ => false
  | _, .nev, _ => true
def Ss.chk (B : Tb) : Cf → Ss → List Stmt → Bool
  | f, .nil, sts => match sts with
    | [] => true
    | _ => false
  | f, .cons s r, sts => if isFrz s then Ss.chk B f r sts else match sts with
    | st :: sts => S.chk B f s st && Ss.chk B f r sts
    | [] => false
end
section
variable {c : Cl} {P : Pg} {B : Tb} {k : Nat}
theorem isLc_ok {a : E} (h : isLc a = true) : ∃ own g it q b, a = .lc own g it q b := by
  cases a <;> first | (cases h; done) | exact ⟨_, _, _, _, _, rfl⟩
theorem isDoc_ok {e : Expr} (h : isDoc e = true) : ∃ x j p, e = .Constant (.str x) j p := by
  unfold isDoc at h
  split at h
  · exact ⟨_, _, _, rfl⟩
  · cases h
mutual
theorem S.snd : ∀ (s : S) (f : Cf) (X : Cx) (st : Stmt), OkS c P B k f X → S.chk B f s st = true → PS X st (tS c P s)
  | .set i o a, f, X, st, ok, h => by
    unfold S.chk at h
    split at h <;> first | (exact absurd h Bool.false_ne_true) | skip
    simp only [Bool.and_eq_true, Bool.not_eq_true', Bool.or_eq_true] at h
    obtain ⟨h1, h2, h3, h4, h5⟩ := h
    have h3' : (!o || a.isF) = true := by cases o <;> simp_all
    rcases h4 with h4 | h4
    · exact st_set ok h2 h3' h1 h4 (E.snd a f X _ ok.x h5)
    · obtain ⟨own, g, it, q, b, rfl⟩ := isLc_ok h4
      exact st_setLc ok h1 h5
  | .setT is a, f, X, st, ok, h => by
    unfold S.chk at h
    split at h <;> first | (exact absurd h Bool.false_ne_true) | skip
    simp only [Bool.and_eq_true, Bool.not_eq_true', Bool.or_eq_true] at h
    exact st_setT ok h.2.1 h.1 h.2.2.1 (E.snd a f X _ ok.x h.2.2.2)
  | .par i j a b, f, X, st, ok, h => by
    unfold S.chk at h
    exact absurd h Bool.false_ne_true
  | .aug i o a, f, X, st, ok, h => by
    unfold S.chk at h
    split at h <;> first | (exact absurd h Bool.false_ne_true) | skip
    simp only [Bool.and_eq_true, Bool.not_eq_true', Bool.or_eq_true] at h
    exact st_aug ok h.1 h.2.1 (E.snd a f X _ ok.x h.2.2)
  | .ret a, f, X, st, ok, h => by
    unfold S.chk at h
    split at h <;> first | (exact absurd h Bool.false_ne_true) | skip
    simp only [Bool.and_eq_true, Bool.not_eq_true', Bool.or_eq_true] at h
    exact st_ret ok h.1 (E.snd a f X _ ok.x h.2)
  | .retN, f, X, st, ok, h => by
    unfold S.chk at h
    split at h <;> first | (exact absurd h Bool.false_ne_true) | skip
    exact st_retN
  | .iff a u w, f, X, st, ok, h => by
    unfold S.chk at h
    split at h <;> first | (exact absurd h Bool.false_ne_true) | skip
    simp only [Bool.and_eq_true, Bool.not_eq_true', Bool.or_eq_true] at h
    exact st_iff ok (E.snd a f X _ ok.x h.1) (Ss.snd u f X _ ok h.2.1) (Ss.snd w f X _ ok h.2.2)
  | .forr tg it b, f, X, st, ok, h => by
    unfold S.chk at h
    split at h <;> first | (exact absurd h Bool.false_ne_true) | skip
    simp only [Bool.and_eq_true, Bool.not_eq_true', Bool.or_eq_true] at h
    exact st_for ok h.1 (It.snd it f X _ _ ok.x h.2.1) (g_ok ok.x h.2.2.1) h.2.2.2.1 (Ss.snd b f X _ ok h.2.2.2.2)
  | .whl n a b, f, X, st, ok, h => by
    unfold S.chk at h
    split at h <;> first | (exact absurd h Bool.false_ne_true) | skip
    simp only [Bool.and_eq_true, Bool.not_eq_true', Bool.or_eq_true] at h
    exact st_whl ok (E.snd a f X _ ok.x h.1) (Ss.snd b f X _ ok h.2)
  | .brk, f, X, st, ok, h => by
    unfold S.chk at h
    split at h <;> first | (exact absurd h Bool.false_ne_true) | skip
    exact st_brk
  | .cnt, f, X, st, ok, h => by
    unfold S.chk at h
    split at h <;> first | (exact absurd h Bool.false_ne_true) | skip
    exact st_cnt
  | .nop, f, X, st, ok, h => by
    unfold S.chk at h
    split at h <;> first | (exact absurd h Bool.false_ne_true) | skip
    · exact PS.imp ps_pass fun D σ H q => st_nop q
    · obtain ⟨x, j, p, rfl⟩ := isDoc_ok h
      exact PS.imp ps_doc fun D σ H q => st_nop q
  | .lm m i l, f, X, st, ok, h => by
    unfold S.chk at h
    split at h <;> first | (exact absurd h Bool.false_ne_true) | skip
    exact st_lm ok h
  | .lms j m i l, f, X, st, ok, h => by
    unfold S.chk at h
    split at h <;> first | (exact absurd h Bool.false_ne_true) | skip
    simp only [Bool.and_eq_true, Bool.not_eq_true', Bool.or_eq_true] at h
    exact st_lms ok h.1 h.2
  | .lmt is m i l, f, X, st, ok, h => by
    unfold S.chk at h
    split at h <;> first | (exact absurd h Bool.false_ne_true) | skip
    simp only [Bool.and_eq_true, Bool.not_eq_true', Bool.or_eq_true] at h
    exact st_lmt ok h.1 h.2
  | .seti i a b, f, X, st, ok, h => by
    unfold S.chk at h
    split at h <;> first | (exact absurd h Bool.false_ne_true) | skip
    simp only [Bool.and_eq_true, Bool.not_eq_true', Bool.or_eq_true] at h
    exact st_seti ok h.1 h.2.1 h.2.2.1 (E.snd a f X _ ok.x h.2.2.2.1) (E.snd b f X _ ok.x h.2.2.2.2)
  | .fset i y a, f, X, st, ok, h => by
    unfold S.chk at h
    split at h <;> first | (exact absurd h Bool.false_ne_true) | skip
    simp only [Bool.and_eq_true, Bool.not_eq_true', Bool.or_eq_true] at h
    obtain ⟨h1, h2, h3, h5⟩ := h
    cases of_decide_eq_true h2
    exact st_fset ok h1 h3 (E.snd a f X _ ok.x h5)
  | .ex a, f, X, st, ok, h => by
    unfold S.chk at h
    split at h <;> first | (exact absurd h Bool.false_ne_true) | skip
    simp only [Bool.and_eq_true, Bool.not_eq_true', Bool.or_eq_true] at h
    exact st_ex ok h.1 (E.snd a f X _ ok.x h.2)
  | .frz i, f, X, st, ok, h => by
    unfold S.chk at h
    exact absurd h Bool.false_ne_true
  | .nev, f, X, st, ok, h => st_nev
theorem Ss.snd : ∀ (r : Ss) (f : Cf) (X : Cx) (sts : List Stmt), OkS c P B k f X → Ss.chk B f r sts = true → PSs X sts (tSs c P r)
  | .nil, f, X, sts, ok, h => by
    unfold Ss.chk at h
    split at h <;> first | (exact absurd h Bool.false_ne_true) | skip
    refine PSs.imp pss_nil ?_
    rintro D σ H ⟨H0, sx, Z, A, env, out, st, ev, g⟩
    unfold Ss.ev at ev
    cases ev
    exact g _ _ _ st Kp.refl
  | .cons s r, f, X, sts, ok, h => by
    unfold Ss.chk at h
    split at h
    · rename_i hf
      have z := Ss.snd r f X sts ok h
      cases s <;> first | (exact absurd (show false = true from hf) Bool.false_ne_true) | skip
      exact PSs.imp z frz_rd
    · split at h <;> first | (exact absurd h Bool.false_ne_true) | skip
      rw [Bool.and_eq_true] at h
      exact PSs.imp (pss_cons (S.snd s f X _ ok h.1) (Ss.snd r f X _ ok h.2)) seq_rd
end
end
end Fe

set_option Elab.async false
set_option linter.all false
set_option autoImplicit false
set_option maxRecDepth 100000
set_option maxHeartbeats 4000000
/-! Fe20: defs. -/
namespace Fe
open PySem PySem.Spec PyProof.Rows L2
def env0 : List Bool → Nat → List T → En
  | _, n, [] => List.replicate n .no
  | bw, n, t :: ts => (if bw.headD false then .bw t else .fz t) :: env0 bw.tail (n - 1) ts
def outT : Option Out → Option T
  | some (.nx _) => some .non
  | some (.rt t) => some t
  | _ => none
/-- a def's answer -/
def run (P : Pg) (n : Nat) (m : Nat) (bw : List Bool) (body : Ss) (ts : List T) : Option T := if ts.length = m then outT (body.ev P (env0 bw n ts)) else none
/-- what a new instance becomes -/
def outN (q : Nat) (k : Nat) : Option Sl → Option (List T)
  | some (.nw q' fs) => if q' = q ∧ fs.length = k then some fs else none
  | _ => none
def outI (q : Nat) (k : Nat) : Option Out → Option (List T)
  | some (.nx e) => outN q k e[0]?
  | _ => none
def runI (P : Pg) (q n m : Nat) (body : Ss) (ts : List T) : Option (List T) := if ts.length + 1 = m then outI q (P.fl q).length (body.ev P (.nw q [] :: env0 [] (n - 1) ts)) else none
def spI (c : Cl) (q n : Nat) (φ : List T → Option (List T)) : Sp := fun vs H Q _ => ∃ Z H1 x dx ws ts fs, vs = .ref x :: ws ∧ Same H1 H ∧ H1 x = none ∧ Dom Z H1 ∧ H x = some (.ins (c.cl q) dx []) ∧ RepL c H1 Z ts ws ∧ vs.length = n ∧ φ ts = some fs ∧
  ∀ H', Same H1 H' → Rep c H' Z (.obj q fs) (.ref x) → Q .non H'
section
variable {c : Cl} {P : Pg} {B : Tb} {k : Nat} {H0 H H' H1 : Hp} {Z : Zn} {sx : Option Addr}
theorem env0_len : ∀ {bw : List Bool} {n : Nat} {ts : List T}, ts.length ≤ n → (env0 bw n ts).length = n
  | bw, n, [], _ => by unfold env0; rw [List.length_replicate]
  | bw, 0, t :: ts, h => by simp at h
  | bw, n + 1, t :: ts, h => by
    unfold env0
    rw [List.length_cons, Nat.add_sub_cancel, env0_len (by simpa using h)]
theorem env0_sl (w : Same H0 H) (d : Dom Z H0) : ∀ {bw : List Bool} {n : Nat} {ts : List T} {vs : List V} (rest : List (Option V)), RepA c H Z bw ts vs → (∀ a vs, Z a → H a = some (.lst vs) → H0 a ≠ none) → (∀ ts, ∀ v, RepW c H0 H Z (.lst ts) v → True) →
    (∀ v t, Rep1 c H Z t v → RepW c H0 H Z t v) → ∀ (i : Nat) (s : Sl), (env0 bw n ts)[i]? = some s → SlOk c H0 sx H Z none s ((vs.map some ++ rest)[i]?)
  | bw, n, [], vs, rest, r, _, _, h1, i, s, e => by
    unfold env0 at e
    rw [List.getElem?_replicate] at e
    split at e
    · cases e; trivial
    · cases e
  | bw, n, t :: ts, vs, rest, ⟨v, ws, ev, r1, r2⟩, a1, a2, h1, i, s, e => by
    subst ev
    unfold env0 at e
    cases i with
    | zero =>
      rw [List.getElem?_cons_zero] at e
      cases e
      cases hb : bw.headD false with
      | true =>
        rw [hb] at r1
        rw [if_pos rfl]
        exact ⟨v, rfl, h1 v t r1⟩
      | false =>
        rw [hb] at r1
        rw [if_neg Bool.false_ne_true]
        exact ⟨v, rfl, r1⟩
    | succ i =>
      rw [List.getElem?_cons_succ] at e
      exact env0_sl w d rest r2 a1 a2 h1 i s e
theorem RepA.len : ∀ {bs : List Bool} {ts : List T} {vs : List V}, RepA c H Z bs ts vs → vs.length = ts.length
  | _, [], vs, h => by cases h; rfl
  | bs, t :: ts, vs, ⟨v, r, e, h1, h2⟩ => by rw [e, List.length_cons, List.length_cons, RepA.len h2]
theorem bn_none : Bn Z (fun _ => none) = Z := funext fun a => propext (Iff.intro (fun z => by
  rcases z with z | ⟨i, e⟩
  · exact z
  · cases e) fun z => Or.inl z)
/-- a def's run, from its call -/
theorem run_rd {n m : Nat} {bw : List Bool} {body : Ss} {N : List Str} (hN : N.length = n) (hm : m ≤ n) {vs : List V} {Q : VK} {E : XK} (h : spT c bw m (run P n m bw body) vs H Q E) :
    tSs c P body { nx := fun _ H' => Q .non H', rt := Q } (L2.start N vs) H := by
  obtain ⟨Z, ts, t, d, r, hn, hφ, q⟩ := h
  unfold run at hφ
  split at hφ
  case isFalse => cases hφ
  rename_i hl
  have rl := r.len
  unfold outT at hφ
  have init : StO c H none Z (fun _ => none) (L2.start N vs) H (env0 bw n ts) := by
    refine ⟨Same.refl _, d, ?_, (fun i j a e => nomatch e), (fun i a e => nomatch e), fun i s e => ?_⟩
    · rw [env0_len (by omega)]
      unfold L2.start
      rw [List.length_append, List.length_map, List.length_replicate]; omega
    · rw [bn_none]
      refine env0_sl (H0 := H) (Same.refl _) d _ r (fun a vs z e => (by rw [e]; exact fun z => nomatch z)) (fun _ _ _ => trivial) (fun v t r1 => ?_) i s e
      rcases r1 with h | ⟨ts, a, vs, e1, e2, h1, h2, h3⟩
      · exact .inl h
      · exact .inr ⟨ts, a, vs, e1, e2, (by rw [h1]; exact fun z => nomatch z), h1, h2, h3⟩
  split at hφ
  · rename_i e ee
    cases hφ
    exact ⟨H, none, Z, fun _ => none, _, _, init, ee, fun σ' H' A' s' _ => q _ _ s'.same (Rep.non_iff.mpr rfl)⟩
  · rename_i t' ee
    cases hφ
    exact ⟨H, none, Z, fun _ => none, _, _, init, ee, fun v H' w r => q v H' w r⟩
  · cases hφ
theorem runI_rd {q n m : Nat} {body : Ss} {N : List Str} (hfl : P.fl = c.fl) (hN : N.length = n) (hm : m ≤ n) {vs : List V} {Q : VK} {E : XK} (h : spI c q m (runI P q n m body) vs H Q E) :
    tSs c P body { nx := fun _ H' => Q .non H', rt := Q } (L2.start N vs) H := by
  obtain ⟨Z, H1, x, dx, ws, ts, fs, rfl, w, hx, d, hHx, r, hn, hφ, qq⟩ := h
  unfold runI at hφ
  split at hφ
  case isFalse => cases hφ
  rename_i hl
  have rl := r.length
  unfold outI at hφ
  split at hφ
  case h_2 => cases hφ
  rename_i e ee
  unfold outN at hφ
  split at hφ
  case h_2 => cases hφ
  rename_i q' fs' he
  split at hφ
  case isFalse => cases hφ
  rename_i hc
  cases hφ
  obtain ⟨rfl, hlen⟩ := hc
  have hlw : (V.ref x :: ws).length = m := hn
  rw [List.length_cons] at hlw
  have bz : ∀ a, Bn Z (fun j => if j = 0 then some x else none) a → Z a ∨ a = x := fun a z => by
    rcases z with z | ⟨j, e⟩
    · exact .inl z
    · have e' : (if j = 0 then some x else none) = some a := e
      split at e'
      · cases e'; exact .inr rfl
      · cases e'
  have hx1 : ∀ o, H1 x = some o → False := fun o e => by rw [hx] at e; cases e
  have rz : RepL c H (Bn Z (fun j => if j = 0 then some x else none)) ts ws :=
    RepL.kp ⟨fun a o e _ => w a o e, fun a z => (bz a z).imp id fun e => by rw [e]; exact hx⟩ _ _ r
  have init : StO c H1 (some x) Z (fun j => if j = 0 then some x else none) (L2.start N (.ref x :: ws)) H (.nw q' [] :: env0 [] (n - 1) ts) := by
    refine ⟨w, d, ?_, fun i j a e e' => ?_, fun i a e => ?_, fun i s e => ?_⟩
    · rw [List.length_cons, env0_len (by omega)]
      unfold L2.start
      rw [List.length_append, List.length_map, List.length_replicate, List.length_cons]; omega
    · have e1 : (if i = 0 then some x else none) = some a := e
      have e2 : (if j = 0 then some x else none) = some a := e'
      split at e1
      · split at e2
        · rename_i h1 h2; rw [h1, h2]
        · cases e2
      · cases e1
    · have e1 : (if i = 0 then some x else none) = some a := e
      split at e1
      · cases e1; exact ⟨hx, by rw [hHx]; exact fun z => nomatch z⟩
      · cases e1
    · cases i with
      | zero =>
        rw [List.getElem?_cons_zero] at e
        cases e
        exact ⟨x, dx, [], rfl, ⟨rfl, rfl⟩, by rw [hHx]; simp, RepL.nil, Nat.zero_le _⟩
      | succ i =>
        rw [List.getElem?_cons_succ] at e
        have ra : RepA c H (Bn Z (fun j => if j = 0 then some x else none)) [] ts ws := RepL.rA rz
        have : SlOk c H1 (some x) H (Bn Z (fun j => if j = 0 then some x else none)) none s ((ws.map some ++ List.replicate (N.length - (V.ref x :: ws).length) none)[i]?) := by
          have key : ∀ {n : Nat} {ts : List T} {vs : List V} (rest : List (Option V)), RepL c H (Bn Z (fun j => if j = 0 then some x else none)) ts vs → ∀ (i : Nat) (s : Sl), (env0 [] n ts)[i]? = some s →
              SlOk c H1 (some x) H (Bn Z (fun j => if j = 0 then some x else none)) none s ((vs.map some ++ rest)[i]?) := by
            intro n ts
            induction ts generalizing n with
            | nil =>
              intro vs rest r i s e
              unfold env0 at e
              rw [List.getElem?_replicate] at e
              split at e
              · cases e; trivial
              · cases e
            | cons t ts ih =>
              intro vs rest r i s e
              obtain ⟨v, ws, rfl, r1, r2⟩ := RepL.cons_iff.mp r
              unfold env0 at e
              cases i with
              | zero =>
                rw [List.getElem?_cons_zero] at e
                cases e
                exact ⟨v, rfl, r1⟩
              | succ i =>
                rw [List.getElem?_cons_succ] at e
                exact ih rest r2 i s e
          exact key _ rz i s e
        rw [if_neg (Nat.succ_ne_zero i)]
        exact this
  refine ⟨H1, some x, Z, _, _, _, init, ee, fun σ' H' A' s' _ => ?_⟩
  obtain ⟨a, dx', vs', _, ⟨_, e4⟩, h1, h2, h3⟩ := s'.sl 0 _ he
  cases e4
  refine qq _ s'.same (Rep.obj_iff.mpr ⟨x, dx', vs', rfl, fun z => d x z hx, h1, RepL.kp (.sub fun _ z => .inl z) _ _ h2, ?_⟩)
  rw [hlen, hfl]
end
end Fe

set_option Elab.async false
set_option linter.all false
set_option autoImplicit false
set_option maxRecDepth 100000
set_option maxHeartbeats 4000000
/-! Fe21: a text's defs and classes, all at once. -/
namespace Fe
open PySem PySem.Spec PyProof.Rows L2
section
variable {X : Cx} {c : Cl} {P : Pg} {B : Tb} {k : Nat} {f C : Addr} {fd : FuncData} {ps : List Str}
theorem made0 (hm : PySem.W.makesIn X.K C = true) (hi : PySem.W.findIn X.K (.ref C) "__init__" = some (some (.builtin "object.__init__"))) (top : PySem.W.mroIn X.K C (.type "object") = some true) :
    CallR X (.ref C) (fun vs H Q => vs = [] ∧ ∀ x dx, H x = none → H dx = none → dx ≠ x → Q (.ref x) (upd (upd H dx (.own x)) x (.ins C dx []))) := by
  intro pins s σ H vs us Q I r h
  obtain ⟨rfl, q⟩ := h
  cases r
  have q1 := q (s.heap.objs.size + 1) s.heap.objs.size (I.hok.fresh (Nat.le_succ _)) (I.hok.fresh (Nat.le_refl _)) (Nat.ne_of_lt (Nat.lt_succ_self _))
  have J := Inv.made (C := C) I
  have ho : ((s.heap.push PySem.W.emptyDict).push (PySem.W.instObj C s.heap.objs.size)).get? (s.heap.objs.size + 1) = some (PySem.W.instObj C s.heap.objs.size) := by
    have := Heap.get?_push_size (s.heap.push PySem.W.emptyDict) (o := PySem.W.instObj C s.heap.objs.size) rfl
    rwa [Heap.size_push] at this
  refine wpAny_call (make_map0 I.kIn hm hi (fun self => PySem.W.Looks.of_pure (PySem.W.oi_bind _)) ?_)
  have t1 : PySem.W.Looks (model X.prog X.w) ((s.heap.push PySem.W.emptyDict).push (PySem.W.instObj C s.heap.objs.size)) (typeOf (.ref (s.heap.objs.size + 1))) (.ref C) := NwA.type_at ho rfl
  have t2 : PySem.W.Looks (model X.prog X.w) ((s.heap.push PySem.W.emptyDict).push (PySem.W.instObj C s.heap.objs.size)) (isInstance (.ref (s.heap.objs.size + 1)) (.type "object")) true := t1.andThen (PySem.W.looks_mroIn J.kIn top)
  refine codeAny_call_builtin PySem.W.oi_plain PySem.W.entry_oi (@PySem.W.check_slot (model X.prog X.w) _ _ { s with heap := (s.heap.push PySem.W.emptyDict).push (PySem.W.instObj C s.heap.objs.size) } "object.__init__" "object" "__init__" (.ref (s.heap.objs.size + 1)) [] [] _ PySem.W.oi_kind PySem.W.oi_split t2 (NwA.oi_args_any _ _ _) ?_)
  rw [PySem.W.oi_run]
  exact wpAny_pure ⟨rfl, V.ref (s.heap.objs.size + 1), _, J, rfl, q1⟩
end
/-! ### tables -/
inductive Gc where
  | tup (l : List Str) | int (i : Int) | str (z : Str)
structure ClD where
  nm : Str
  fl : List Str
  ini : Option Nat
  ms : List (Str × Nat)
  ins : Bool
structure FnT where
  d : He.DefD
  N : List Str
  ps : List Str
  bw : List Bool
  body : Ss
structure Tab where
  fns : List FnT
  cls : List ClD
  gls : List (Str × Gc)
def Gc.t : Gc → T
  | .tup l => .tup (l.map .str)
  | .int i => .int i
  | .str z => .str z
def okS (z : Str) : Bool := PyData.strOk z && decide (z.length ≤ LIM)
def Gc.ok (K : PySem.W.Frag) (x : Str) : Gc → Bool
  | .tup l => (He.Fa.glo x).ok K && (He.tupB K x (l.map He.Dv.str) && (l.all okS && decide (l.length ≤ LIM)))
  | .int i => (He.Fa.int x i).ok K
  | .str z => (He.Fa.str x z).ok K && okS z
def Tab.cn (T : Tab) (q : Nat) : Str := match T.cls[q]? with
  | some d => d.nm
  | none => Str.empty
def Tab.fl (T : Tab) (q : Nat) : List Str := match T.cls[q]? with
  | some d => d.fl
  | none => []
def Tab.cl (T : Tab) (K : PySem.W.Frag) : Cl := ⟨K, fun q => He.ga K (T.cn q), T.fl⟩
def Tab.tb (T : Tab) : Tb := ⟨fun i => (T.fns[i]?).bind fun f => (match f.d.at_.2 with
    | none => some (f.d.at_.1, f.bw, f.ps.length)
    | some _ => none), fun q => (T.cls[q]?).map (·.nm), fun j => (T.gls[j]?).map (·.1), fun q => match T.cls[q]? with
    | some d => d.ins
    | none => false⟩
def Tab.fnO (T : Tab) (P : Pg) (i : Nat) (ts : List Fe.T) : Option Fe.T := (T.fns[i]?).bind fun f => run P f.N.length f.ps.length f.bw f.body ts
def Tab.inO (T : Tab) (P : Pg) (q : Nat) (ts : List Fe.T) : Option (List Fe.T) := (T.cls[q]?).bind fun d => match d.ini with
  | none => if ts.isEmpty && d.fl.isEmpty then some [] else none
  | some i => (T.fns[i]?).bind fun f => runI P q f.N.length f.ps.length f.body ts
def Tab.pk (T : Tab) (fn : Nat → List Fe.T → Option Fe.T) (ini : Nat → List Fe.T → Option (List Fe.T)) : Pg := ⟨fn, fun q m => (T.cls[q]?).bind fun d => d.ms.lookup m, ini, T.fl, fun j => (T.gls[j]?).map fun g => g.2.t⟩
/-- what the text's defs answer, so many calls deep -/
def Tab.pg (T : Tab) : Nat → Pg
  | 0 => T.pk (fun _ _ => none) (fun _ _ => none)
  | 1 => T.pk (T.fnO (T.pg 0)) (fun _ _ => none)
  | n + 2 => T.pk (T.fnO (T.pg (n + 1))) (T.inO (T.pg n))
def Tab.adB (T : Tab) (K : PySem.W.Frag) (C : Str) (m : Str) (i : Nat) : Bool := match T.fns[i]? with
  | some f => decide (He.ma K (He.ga K C) m = He.fAd K f.d.at_)
  | none => false
def insB (K : PySem.W.Frag) (C : Addr) : Bool := He.eqO (PySem.W.findIn K (.ref C) "__class__") (some (some (.builtin "object.__class__"))) && (He.eqO (PySem.W.specialIn K (.builtin "object.__class__") "__get__") (some (some (.builtin "getset_descriptor.__get__"))) &&
  (decide (PySem.W.takesIn K (.builtin "object.__class__") = some true) && (decide (PySem.W.mroIn K C (.type "object") = some true) && decide (PySem.W.kitOne K (.ref C) (.ref C) = some true))))
theorem insB_ok {K : PySem.W.Frag} {C : Addr} (c : Cls K C) (h : insB K C = true) : C8.InsC K C := by
  unfold insB at h
  simp only [Bool.and_eq_true, decide_eq_true_eq] at h
  exact ⟨c, He.eqO_ok h.1, He.eqO_ok h.2.1, h.2.2.1, h.2.2.2.1, h.2.2.2.2⟩
def Tab.clB (T : Tab) (K : PySem.W.Frag) (d : ClD) : Bool := (!d.ins || insB K (He.ga K d.nm)) && ((He.Fa.glo d.nm).ok K && ((He.Fa.cls d.nm).ok K && (d.fl.all (fun x => (He.Fa.noat d.nm x).ok K) && (d.ms.all (fun m => (He.Fa.meth d.nm m.1).ok K && T.adB K d.nm m.1 m.2) && (match d.ini with
  | some i => (He.Fa.mkr d.nm).ok K && T.adB K d.nm "__init__" i
  | none => PySem.W.makesIn K (He.ga K d.nm) && (He.eqO (PySem.W.findIn K (.ref (He.ga K d.nm)) "__init__") (some (some (.builtin "object.__init__"))) && (decide (PySem.W.mroIn K (He.ga K d.nm) (.type "object") = some true) && PySem.W.keepIn K (.ref (He.ga K d.nm)))))))))
/-- what the head tells -/
def Tab.hB (T : Tab) (K : PySem.W.Frag) : Bool := FREE.all (fun x => (He.Fa.free x).ok K) && (T.fns.all (fun f => match f.d.at_.2 with
    | none => (He.Fa.glo f.d.at_.1).ok K
    | some _ => true) && (T.cls.all (fun d => T.clB K d) && T.gls.all (fun g => g.2.ok K g.1)))
def scB (N ps : List Str) (sc : Scope) : Bool := (match sc.kind with | .function => true | _ => false) && (!sc.isCoroutine && (!sc.isGenerator && (decide N.Nodup && (decide (N.take ps.length = ps) &&
  (ps.all (fun x => decide (sc.names.lookup x = some .local) || decide (sc.names.lookup x = some .cell)) && sc.names.all (fun y => match y.2 with | .free => false | _ => true))))))
theorem scB_ok {N ps : List Str} {sc : Scope} (h : scB N ps sc = true) : FnScope N ps sc := by
  unfold scB at h
  simp only [Bool.and_eq_true, Bool.not_eq_true', decide_eq_true_eq, List.all_eq_true, Bool.or_eq_true] at h
  obtain ⟨h1, h2, h3, h4, h5, h6, h7⟩ := h
  refine ⟨?_, h2, h3, h4, h5, h6, fun y hy e => ?_⟩
  · split at h1
    · assumption
    · cases h1
  · have := h7 y hy
    rw [e] at this
    cases this
def FnT.cf (f : FnT) : Cf := ⟨f.N, f.d.scope, fun _ => true⟩
/-- what is to be seen in a def without the head -/
def Tab.fnS (T : Tab) (f : FnT) : Bool := f.d.dfl.isEmpty && (f.d.kwd.isEmpty && (scB f.N f.ps f.d.scope && Ss.chk T.tb f.cf f.body f.d.body))
def Tab.clS (T : Tab) (d : ClD) : Bool := decide d.fl.Nodup && (decide (d.fl.length < 1000) && d.ms.all fun m => decide (m.1 ∉ d.fl) && (match T.fns[m.2]? with
  | some f => f.bw.isEmpty
  | none => false))
def Tab.sB (T : Tab) : Bool := T.fns.all T.fnS && T.cls.all T.clS
def BindOk (f : FnT) : Prop := ∀ (kV doc pm : Value) (an : Option Addr) (cdv ct : Value) (us : List Value), us.length = f.ps.length → bindArgs (PySem.W.fnOf f.d.name f.d.qual f.d.params f.d.body f.d.scope .none kV doc pm an cdv ct) ⟨us, []⟩ = pure (f.ps.zip us)
def AllP {α : Type} (p : α → Prop) : List α → Prop
  | [] => True
  | a :: l => p a ∧ AllP p l
theorem AllP.get {α : Type} {p : α → Prop} : ∀ {l : List α} {a : α}, AllP p l → a ∈ l → p a
  | b :: l, a, h, m => by
    rcases List.mem_cons.mp m with e | m
    · rw [e]; exact h.1
    · exact AllP.get h.2 m
def Tab.says (T : Tab) (K : PySem.W.Frag) : Prop := He.SaysD [] (T.fns.map (·.d)) K ∧ T.hB K = true

section
variable {T : Tab} {K : PySem.W.Frag} {h : Heap} {mg : Str → Option Value} {P : Program} {w : World} {base : Heap}
theorem fnD (S : T.says K) (st : T.sB = true) {i : Nat} {f : FnT} (e : T.fns[i]? = some f) : ∃ fd, FunD K f.d.name f.d.qual f.d.params f.d.body f.d.scope [] [] (He.fAd K f.d.at_) fd := by
  obtain ⟨fd, F⟩ := S.1.def_ i (d := f.d) (by rw [List.getElem?_map, e]; rfl)
  unfold Tab.sB at st
  rw [Bool.and_eq_true] at st
  have := List.all_eq_true.mp st.1 f (List.mem_of_getElem? e)
  unfold Tab.fnS at this
  simp only [Bool.and_eq_true] at this
  have e1 : f.d.dvs K = [] := by unfold He.DefD.dvs; rw [List.isEmpty_iff.mp this.1]; rfl
  have e2 : f.d.kws K = [] := by unfold He.DefD.kws; rw [List.isEmpty_iff.mp this.2.1]; rfl
  rw [e1, e2] at F
  exact ⟨fd, F⟩
theorem fn_static (st : T.sB = true) {i : Nat} {f : FnT} (e : T.fns[i]? = some f) : FnScope f.N f.ps f.d.scope ∧ Ss.chk T.tb f.cf f.body f.d.body = true := by
  unfold Tab.sB at st
  rw [Bool.and_eq_true] at st
  have := List.all_eq_true.mp st.1 f (List.mem_of_getElem? e)
  unfold Tab.fnS at this
  simp only [Bool.and_eq_true] at this
  exact ⟨scB_ok this.2.2.1, this.2.2.2⟩
theorem ps_le {N ps : List Str} {sc : Scope} (S : FnScope N ps sc) : ps.length ≤ N.length := by
  have := congrArg List.length S.pre
  rw [List.length_take] at this; omega
/-- the body's place -/
theorem body_ok {c : Cl} {Q : Pg} {n : Nat} {f : FnT} {a : Addr} {cdv : Value} {A : Around} {outer : List Env} {s : Shared} {H : Hp} {E : XK} (fct : Fct c Q T.tb n P w K mg base) (S : FnScope f.N f.ps f.d.scope)
    (hr : Rm n (A.deeper (envOfC f.d.qual f.d.scope s.heap.objs.size a cdv))) : OkS c Q T.tb n f.cf ((cxOf CX0 P w K mg base f.N f.d.qual f.d.scope a cdv A outer s H E).nox) :=
  ⟨⟨rfl, S.nd, rfl, fun _ => rfl, rfl, hr, fct⟩, S.kind, rfl⟩
theorem fnG_at {c : Cl} {Q : Pg} {n i : Nat} {f : FnT} (S : T.says K) (st : T.sB = true) (e : T.fns[i]? = some f) (fct : Fct c Q T.tb n P w K mg base) :
    ∃ fd, FunD K f.d.name f.d.qual f.d.params f.d.body f.d.scope [] [] (He.fAd K f.d.at_) fd ∧ FnG P w K mg base CX0 (n + 1) (He.fAd K f.d.at_) fd f.ps (spT c f.bw f.ps.length (T.fnO Q i)) := by
  obtain ⟨fd, F⟩ := fnD S st e
  obtain ⟨sc, ch⟩ := fn_static st e
  refine ⟨fd, F, ?_⟩
  obtain ⟨oc, od, dV, kV, doc, pm, an, cdv, ct, osl, rfl, lk, hcd, _, _⟩ := F.ex
  refine fnG_of lk hcd sc (fun vs H Q E h => ?_) fun A outer s H vs Q' E hr h => ⟨tSs c Q f.body, PSs.nox (Ss.snd f.body f.cf _ _ (body_ok fct sc hr) ch), ?_⟩
  · obtain ⟨Z, ts, t, _, _, hn, _⟩ := h
    exact hn
  · have h' : spT c f.bw f.ps.length (run Q f.N.length f.ps.length f.bw f.body) vs H Q' E := by
      have e2 : T.fnO Q i = run Q f.N.length f.ps.length f.bw f.body := by
        unfold Tab.fnO
        rw [e]; rfl
      rw [← e2]; exact h
    exact run_rd rfl (ps_le sc) h'
theorem fnI_at {c : Cl} {Q : Pg} {n i q : Nat} {f : FnT} (S : T.says K) (st : T.sB = true) (e : T.fns[i]? = some f) (fct : Fct c Q T.tb n P w K mg base) :
    ∃ fd, FunD K f.d.name f.d.qual f.d.params f.d.body f.d.scope [] [] (He.fAd K f.d.at_) fd ∧ FnG P w K mg base CX0 (n + 1) (He.fAd K f.d.at_) fd f.ps (spI c q f.ps.length (runI Q q f.N.length f.ps.length f.body)) := by
  obtain ⟨fd, F⟩ := fnD S st e
  obtain ⟨sc, ch⟩ := fn_static st e
  refine ⟨fd, F, ?_⟩
  obtain ⟨oc, od, dV, kV, doc, pm, an, cdv, ct, osl, rfl, lk, hcd, _, _⟩ := F.ex
  refine fnG_of lk hcd sc (fun vs H Q E h => ?_) fun A outer s H vs Q' E hr h => ⟨tSs c Q f.body, PSs.nox (Ss.snd f.body f.cf _ _ (body_ok fct sc hr) ch), ?_⟩
  · obtain ⟨Z, H1, x, dx, ws, ts, fs, _, _, _, _, _, _, hn, _⟩ := h
    exact hn
  · exact runI_rd fct.fl rfl (ps_le sc) h
end
end Fe

set_option Elab.async false
set_option linter.all false
set_option autoImplicit false
set_option maxRecDepth 100000
set_option maxHeartbeats 4000000
/-! Fe22: all defs of the text keep their promises, at every depth. -/
namespace Fe
open PySem PySem.Spec PyProof.Rows L2
section
variable {T : Tab} {K : PySem.W.Frag} {h : Heap} {mg : Str → Option Value} {P : Program} {w : World} {base : Heap}
theorem binds_of {f : FnT} (hb : AllP BindOk T.fns) {i : Nat} (e : T.fns[i]? = some f) {fd : FuncData} {a : Addr} (F : FunD K f.d.name f.d.qual f.d.params f.d.body f.d.scope [] [] a fd) : L2.Binds K fd f.ps [] :=
  F.bindsN (hb.get (List.mem_of_getElem? e))
theorem hB_parts (S : T.says K) : (∀ x ∈ FREE, (He.Fa.free x).ok K = true) ∧ (∀ f ∈ T.fns, f.d.at_.2 = none → (He.Fa.glo f.d.at_.1).ok K = true) ∧ (∀ d ∈ T.cls, T.clB K d = true) ∧ ∀ g ∈ T.gls, g.2.ok K g.1 = true := by
  have h := S.2
  unfold Tab.hB at h
  simp only [Bool.and_eq_true] at h
  obtain ⟨h1, h2, h3, h4⟩ := h
  refine ⟨fun x hx => List.all_eq_true.mp h1 x hx, fun f hf e => ?_, fun d hd => List.all_eq_true.mp h3 d hd, fun g hg => List.all_eq_true.mp h4 g hg⟩
  have := List.all_eq_true.mp h2 f hf
  rw [e] at this
  exact this
structure ClOk (T : Tab) (K : PySem.W.Frag) (d : ClD) : Prop where
  ins : d.ins = true → insB K (He.ga K d.nm) = true
  glo : (He.Fa.glo d.nm).ok K = true
  cls : Cls K (He.ga K d.nm)
  noat : ∀ x ∈ d.fl, NoAttr K (He.ga K d.nm) x
  ms : ∀ m ∈ d.ms, Meth K (He.ga K d.nm) m.1 (He.ma K (He.ga K d.nm) m.1) ∧ T.adB K d.nm m.1 m.2 = true
  ini : (match d.ini with
    | some i => Mk K (He.ga K d.nm) (He.ma K (He.ga K d.nm) "__init__") ∧ T.adB K d.nm "__init__" i = true
    | none => PySem.W.makesIn K (He.ga K d.nm) = true ∧ PySem.W.findIn K (.ref (He.ga K d.nm)) "__init__" = some (some (.builtin "object.__init__")) ∧ PySem.W.mroIn K (He.ga K d.nm) (.type "object") = some true ∧ PySem.W.keepIn K (.ref (He.ga K d.nm)) = true)
theorem clB_ok {d : ClD} (h : T.clB K d = true) : ClOk T K d := by
  unfold Tab.clB at h
  simp only [Bool.and_eq_true] at h
  obtain ⟨h0, h1, h2, h3, h4, h5⟩ := h
  refine ⟨fun e => by rw [e] at h0; simpa using h0, h1, He.cls_ok h2, fun x hx => He.noat_ok (List.all_eq_true.mp h3 x hx), fun m hm => ?_, ?_⟩
  · have := List.all_eq_true.mp h4 m hm
    rw [Bool.and_eq_true] at this
    exact ⟨He.meth_ok this.1, this.2⟩
  · cases e : d.ini with
    | some i =>
      rw [e] at h5
      dsimp only at h5 ⊢
      rw [Bool.and_eq_true] at h5
      exact ⟨He.mkr_ok h5.1, h5.2⟩
    | none =>
      rw [e] at h5
      dsimp only at h5 ⊢
      simp only [Bool.and_eq_true] at h5
      exact ⟨h5.1, He.eqO_ok h5.2.1, of_decide_eq_true h5.2.2.1, h5.2.2.2⟩
theorem adB_ok {C m : Str} {i : Nat} (h : T.adB K C m i = true) : ∃ f, T.fns[i]? = some f ∧ He.ma K (He.ga K C) m = He.fAd K f.d.at_ := by
  unfold Tab.adB at h
  split at h
  · exact ⟨_, by assumption, of_decide_eq_true h⟩
  · cases h
theorem cl_eq {q : Nat} {d : ClD} (e : T.cls[q]? = some d) : (T.cl K).cl q = He.ga K d.nm ∧ (T.cl K).fl q = d.fl := by
  constructor
  · show He.ga K (T.cn q) = _
    unfold Tab.cn
    rw [e]
  · show T.fl q = _
    unfold Tab.fl
    rw [e]
theorem fl_some {q : Nat} {x : Str} (h : x ∈ T.fl q) : ∃ d, T.cls[q]? = some d ∧ x ∈ d.fl := by
  unfold Tab.fl at h
  split at h
  · exact ⟨_, by assumption, h⟩
  · cases h
theorem clS_ok (st : T.sB = true) {q : Nat} {d : ClD} (e : T.cls[q]? = some d) : d.fl.Nodup ∧ d.fl.length < 1000 ∧ ∀ m ∈ d.ms, m.1 ∉ d.fl ∧ ∃ f, T.fns[m.2]? = some f ∧ f.bw = [] := by
  unfold Tab.sB at st
  rw [Bool.and_eq_true] at st
  have := List.all_eq_true.mp st.2 d (List.mem_of_getElem? e)
  unfold Tab.clS at this
  simp only [Bool.and_eq_true, decide_eq_true_eq] at this
  refine ⟨this.1, this.2.1, fun m hm => ?_⟩
  have h2 := List.all_eq_true.mp this.2.2 m hm
  rw [Bool.and_eq_true] at h2
  refine ⟨of_decide_eq_true h2.1, ?_⟩
  have h3 := h2.2
  split at h3
  · exact ⟨_, by assumption, List.isEmpty_iff.mp h3⟩
  · cases h3
theorem gc_ok (X : K.In h) (G : h.Ns mainGlobals mg) {c : Cl} (hK : c.K = K) {x : Str} {g : Gc} (e : g.ok K x = true) : ∃ u v, mg x = some u ∧ RelV v u ∧ ∀ H Z, Rep c H Z g.t v := by
  cases g with
  | tup l =>
    unfold Gc.ok at e
    simp only [Bool.and_eq_true, decide_eq_true_eq] at e
    obtain ⟨h1, h2, h3, h4⟩ := e
    refine ⟨_, .ref (He.ga K x), He.glo_ok X G h1, rfl, fun H Z => ?_⟩
    have kt : KTup K (He.ga K x) ((l.map He.Dv.str).map (He.Dv.v K)) := by
      rcases He.tupB_ok h2 (fun _ => none) with z | z
      · rcases z with z | ⟨o, z⟩ <;> cases z
      · exact z
    subst hK
    refine Rep.tup_iff.mpr ⟨_, _, rfl, .inr kt, ?_, by rw [List.length_map]; exact h4⟩
    clear kt h2 h4 h1
    induction l with
    | nil => exact RepL.nil
    | cons z l ih =>
      rw [List.all_cons, Bool.and_eq_true] at h3
      have h5 := h3.1
      unfold okS at h5
      rw [Bool.and_eq_true] at h5
      exact RepL.cons (Rep.str_iff.mpr ⟨rfl, h5.1, of_decide_eq_true h5.2⟩) (ih h3.2)
  | int i =>
    obtain ⟨t, e1⟩ := He.int_ok X G e
    exact ⟨_, .int i, e1, ⟨t, rfl⟩, fun H Z => Rep.int_iff.mpr rfl⟩
  | str z =>
    unfold Gc.ok at e
    rw [Bool.and_eq_true] at e
    obtain ⟨t, e1⟩ := He.str_ok X G e.1
    have h5 := e.2
    unfold okS at h5
    rw [Bool.and_eq_true] at h5
    exact ⟨_, .str z, e1, ⟨t, rfl⟩, fun H Z => Rep.str_iff.mpr ⟨rfl, h5.1, of_decide_eq_true h5.2⟩⟩
theorem run_len {Q : Pg} {n m : Nat} {bw : List Bool} {body : Ss} {ts : List Fe.T} {t : Fe.T} (h : run Q n m bw body ts = some t) : ts.length = m := by
  unfold run at h
  split at h
  · assumption
  · cases h
/-- the facts at one depth, from those of the defs -/
theorem fct_of (S : T.says K) (st : T.sB = true) (hb : AllP BindOk T.fns) (X : K.In h) (G : h.Ns mainGlobals mg) {k : Nat} {fn : Nat → List Fe.T → Option Fe.T} {ini : Nat → List Fe.T → Option (List Fe.T)}
    (hf : ∀ i f, T.fns[i]? = some f → ∃ fd, FunD K f.d.name f.d.qual f.d.params f.d.body f.d.scope [] [] (He.fAd K f.d.at_) fd ∧ FnG P w K mg base CX0 k (He.fAd K f.d.at_) fd f.ps (spT (T.cl K) f.bw f.ps.length (fn i)))
    (hl : ∀ i f ts t, T.fns[i]? = some f → fn i ts = some t → ts.length = f.ps.length)
    (hi : ∀ q d, T.cls[q]? = some d → ∀ X : Cx, X.prog = P → X.w = w → X.K = K → X.mg = mg → X.base = base → Rm k X.A → CallR X (.ref (He.ga K d.nm)) (rMk (T.cl K) (T.pk fn ini) q)) :
    Fct (T.cl K) (T.pk fn ini) T.tb k P w K mg base where
  eqK := rfl
  free := fun x hx => He.free_ok X G ((hB_parts S).1 x hx)
  fns := fun i x bw n e => by
    have e' : (T.fns[i]?).bind (fun f => (match f.d.at_.2 with
      | none => some (f.d.at_.1, f.bw, f.ps.length)
      | some _ => none)) = some (x, bw, n) := e
    obtain ⟨f, e1, e2⟩ := bnd e'
    split at e2 <;> cases e2
    rename_i ea
    obtain ⟨fd, F, FG⟩ := hf i f e1
    have hg := He.glo_ok X G ((hB_parts S).2.1 f (List.mem_of_getElem? e1) ea)
    have had : He.fAd K f.d.at_ = He.ga K f.d.at_.1 := by unfold He.fAd; rw [ea]
    exact ⟨He.fAd K f.d.at_, fd, f.ps, by rw [had]; exact hg, F.kp, binds_of hb e1 F, FG⟩
  mth := fun q m i e => by
    have e' : (T.cls[q]?).bind (fun d => d.ms.lookup m) = some i := e
    obtain ⟨d, e1, e2⟩ := bnd e'
    have hm : (m, i) ∈ d.ms := PySem.mem_of_lookup e2
    have C := clB_ok ((hB_parts S).2.2.1 d (List.mem_of_getElem? e1))
    obtain ⟨M, ad⟩ := C.ms _ hm
    obtain ⟨f, ef, ea⟩ := adB_ok ad
    obtain ⟨n1, n2, n3⟩ := clS_ok st e1
    obtain ⟨nf, f', ef', hbw⟩ := n3 _ hm
    have : f = f' := by rw [ef] at ef'; exact Option.some.inj ef'
    subst this
    obtain ⟨fd, F, FG⟩ := hf i f ef
    obtain ⟨c1, c2⟩ := cl_eq (K := K) e1
    rw [hbw] at FG
    refine ⟨f.ps.length, He.fAd K f.d.at_, fd, f.ps, by rw [c1]; exact C.cls, by rw [c1, ← ea]; exact M, by rw [c2]; exact nf, binds_of hb ef F, FG, fun ts t z => hl i f ts t ef z⟩
  fld := fun q x hx => by
    obtain ⟨d, e1, e2⟩ := fl_some hx
    have C := clB_ok ((hB_parts S).2.2.1 d (List.mem_of_getElem? e1))
    obtain ⟨c1, c2⟩ := cl_eq (K := K) e1
    rw [c1]
    exact ⟨C.cls, C.noat x e2⟩
  nd := fun q => by
    show (T.fl q).Nodup
    unfold Tab.fl
    split
    · rename_i d e1; exact (clS_ok st e1).1
    · exact List.nodup_nil
  few := fun q => by
    show (T.fl q).length < 1000
    unfold Tab.fl
    split
    · rename_i d e1; exact (clS_ok st e1).2.1
    · decide
  made := fun q x e => by
    have e' : (T.cls[q]?).map (·.nm) = some x := e
    obtain ⟨d, e1, e2⟩ := mpd e'
    subst e2
    have C := clB_ok ((hB_parts S).2.2.1 d (List.mem_of_getElem? e1))
    obtain ⟨c1, c2⟩ := cl_eq (K := K) e1
    rw [c1]
    refine ⟨He.glo_ok X G C.glo, ?_, hi q d e1⟩
    have := C.ini
    split at this
    · exact this.1.kp
    · exact this.2.2.2
  gl := fun j x e => by
    have e' : (T.gls[j]?).map (·.1) = some x := e
    obtain ⟨g, e1, e2⟩ := mpd e'
    subst e2
    obtain ⟨u, v, h1, h2, h3⟩ := gc_ok X G (c := T.cl K) rfl ((hB_parts S).2.2.2 g (List.mem_of_getElem? e1))
    refine ⟨u, v, h1, h2, fun t et => ?_⟩
    have et' : (T.gls[j]?).map (fun g => g.2.t) = some t := et
    rw [e1] at et'
    cases et'
    exact h3
  fl := rfl
  isc := fun q e => by
    have e' : (match T.cls[q]? with
      | some d => d.ins
      | none => false) = true := e
    split at e'
    · rename_i d e1
      have C := clB_ok ((hB_parts S).2.2.1 d (List.mem_of_getElem? e1))
      rw [(cl_eq (K := K) e1).1]
      exact insB_ok C.cls (C.ins e')
    · cases e'
theorem fnG_no {c : Cl} {n : Nat} {f : Addr} {fd : FuncData} {ps : List Str} {bw : List Bool} {k : Nat} (hn : n = ps.length) : FnG P w K mg base CX0 k f fd ps (spT c bw n fun _ => none) :=
  ⟨fun vs H Q E h => (by obtain ⟨Z, ts, t, _, _, _, e, _⟩ := h; cases e), fun A outer s H args us vs Q E r e b v h => (by obtain ⟨Z, ts, t, _, _, _, e, _⟩ := h; cases e)⟩
/-- a class made, by its __init__'s run (or object's) -/
theorem made_at (S : T.says K) (st : T.sB = true) (hb : AllP BindOk T.fns) {n : Nat} {Q : Pg} (fct : Fct (T.cl K) Q T.tb n P w K mg base) {q : Nat} {d : ClD} (e : T.cls[q]? = some d) {fn : Nat → List Fe.T → Option Fe.T}
    (X : Cx) (h1 : X.prog = P) (h2 : X.w = w) (h3 : X.K = K) (h4 : X.mg = mg) (h5 : X.base = base) (hr : Rm (n + 2) X.A) : CallR X (.ref (He.ga K d.nm)) (rMk (T.cl K) (T.pk fn (T.inO Q)) q) := by
  subst h1 h2 h3 h4 h5
  have C := clB_ok ((hB_parts S).2.2.1 d (List.mem_of_getElem? e))
  obtain ⟨c1, c2⟩ := cl_eq (K := X.K) e
  intro pins s σ H vs us Q' I r hq
  obtain ⟨Z, ts, fs, dm, rl, ei, k⟩ := hq
  have ei' : T.inO Q q ts = some fs := ei
  unfold Tab.inO at ei'
  rw [e] at ei'
  have ei2 : (match d.ini with
    | none => if ts.isEmpty && d.fl.isEmpty then some [] else none
    | some i => (T.fns[i]?).bind fun f => runI Q q f.N.length f.ps.length f.body ts) = some fs := ei'
  have ci := C.ini
  cases hd : d.ini with
  | none =>
    rw [hd] at ei2 ci
    dsimp only at ei2 ci
    obtain ⟨m1, m2, m3, m4⟩ := ci
    split at ei2 <;> cases ei2
    rename_i hc
    rw [Bool.and_eq_true] at hc
    have hts := List.isEmpty_iff.mp hc.1
    have hfl := List.isEmpty_iff.mp hc.2
    subst hts
    rw [RepL.nil_iff.mp rl] at r
    refine made0 m1 m2 m3 pins s σ H [] us Q' I r ⟨rfl, fun x dx hx hdx ne => ?_⟩
    have sm : Same H (upd (upd H dx (.own x)) x (.ins (He.ga X.K d.nm) dx [])) := (same_upd hdx).trans (same_upd (by rw [upd_ne (Ne.symm ne)]; exact hx))
    refine k _ _ sm (Rep.obj_iff.mpr ⟨x, dx, [], rfl, fun z => dm x z hx, ?_, RepL.nil, by rw [c2, hfl]; rfl⟩)
    rw [upd_same, c1, c2, hfl]; rfl
  | some i =>
    rw [hd] at ei2 ci
    dsimp only at ei2 ci
    obtain ⟨M, ad⟩ := ci
    obtain ⟨f, ef, er⟩ := bnd ei2
    obtain ⟨f', ef', ea⟩ := adB_ok ad
    have : f = f' := by rw [ef] at ef'; exact Option.some.inj ef'
    subst this
    obtain ⟨fd, F, FG⟩ := fnI_at (q := q) S st ef fct
    rw [ea] at M
    refine makes M FG hr (binds_of hb ef F) pass0 I r fun x dx hx hdx ne => ?_
    have sm : Same H (upd (upd H dx (.own x)) x (.ins (He.ga X.K d.nm) dx [])) := (same_upd hdx).trans (same_upd (by rw [upd_ne (Ne.symm ne)]; exact hx))
    have hlen : ts.length + 1 = f.ps.length := by
      unfold runI at er
      split at er
      · assumption
      · cases er
    refine ⟨Z, H, x, dx, vs, ts, fs, rfl, sm, hx, dm, by rw [upd_same, c1], rl, by rw [List.length_cons, rl.length]; exact hlen, er, fun H' w' r' => ⟨rfl, k _ _ w' r'⟩⟩
theorem fct_all (S : T.says K) (st : T.sB = true) (hb : AllP BindOk T.fns) (X : K.In h) (G : h.Ns mainGlobals mg) : ∀ n, Fct (T.cl K) (T.pg n) T.tb n P w K mg base
  | 0 => fct_of S st hb X G (fun i f e => by
      obtain ⟨fd, F⟩ := fnD S st e
      exact ⟨fd, F, fnG_no rfl⟩) (fun i f ts t e z => nomatch z) fun q d e X _ _ _ _ _ _ => by
      rintro pins s σ H vs us Q' I r ⟨Z, ts, fs, _, _, z, _⟩
      cases z
  | 1 => fct_of S st hb X G (fun i f e => fnG_at S st e (fct_all S st hb X G 0)) (fun i f ts t e z => by
      have z' : T.fnO (T.pg 0) i ts = some t := z
      unfold Tab.fnO at z'
      rw [e] at z'
      exact run_len z') fun q d e X _ _ _ _ _ _ => by
      rintro pins s σ H vs us Q' I r ⟨Z, ts, fs, _, _, z, _⟩
      cases z
  | n + 2 => fct_of S st hb X G (fun i f e => fnG_at S st e (fct_all S st hb X G (n + 1))) (fun i f ts t e z => by
      have z' : T.fnO (T.pg (n + 1)) i ts = some t := z
      unfold Tab.fnO at z'
      rw [e] at z'
      exact run_len z') fun q d e Y h1 h2 h3 h4 h5 hr => made_at S st hb (fct_all S st hb X G n) e Y h1 h2 h3 h4 h5 hr
end
end Fe

set_option Elab.async false
set_option linter.all false
set_option autoImplicit false
set_option maxRecDepth 100000
set_option maxHeartbeats 4000000
/-! Fe23: the law's own call. -/
namespace Fe
open PySem PySem.Spec PyProof.Rows L2
def only1 (a : Addr) (o : Obj) (xs : List V) (b : Addr) : Option HO := if b = a then some (.frz o (.lst xs)) else none
theorem rm_caller : Rm 40 callerA := ⟨⟨rfl, by decide, by decide⟩, rfl⟩
section
variable {P : Program} {w : World} {K : PySem.W.Frag} {mg mb : Str → Option Value} {k : Nat} {fa a : Addr} {fd : FuncData} {x : Str} {sp : Sp} {s : Shared} {vs : List Value} {ns : List Int}
/-- what the call of a law must come to -/
def LawPost (s : Shared) (r : Result) (s' : Shared) : Prop := r = .ok (.ret (.bool true)) ∧ OldK s.heap s'.heap ∧ s'.os = s.os ∧ AllBare s'.gens
/-- the abstract heap that tracks nothing, or the script alone as one known object -/
structure Bare1 (P : Program) (w : World) (K : PySem.W.Frag) (s : Shared) (a : Addr) (H : Hp) : Prop where
  only : ∀ b u, H b = some u → b = a ∧ K.lookup a = none ∧ ∃ o xs, u = .frz o (.lst xs)
  hok : HOk P w H s.heap
section
variable {H : Hp} (B1 : Bare1 P w K s a H) (sc : ∃ n, s.heap.get? a = some { cls := .type "list", data := .seq vs.toArray n })
include B1 sc
theorem Bare1.keepsK (KX : K.In s.heap) : K.In (hidT s.heap H) := fun b o e => hidT_get (KX b o e) (by
  cases hb : H b with
  | none => rfl
  | some u =>
    obtain ⟨e1, e2, _⟩ := B1.only b u hb
    rw [← e1, e] at e2; cases e2)
theorem Bare1.keepsN {b : Addr} {m : Str → Option Value} (h : s.heap.Ns b m) : (hidT s.heap H).Ns b m := by
  obtain ⟨o, es, ep, e, d, r⟩ := h
  refine ⟨o, es, ep, hidT_get e ?_, d, r⟩
  cases hb : H b with
  | none => rfl
  | some u =>
    obtain ⟨e1, _⟩ := B1.only b u hb
    obtain ⟨n, hs⟩ := sc
    rw [e1, hs] at e
    have e2 := congrArg Obj.data (Option.some.inj e)
    rw [d] at e2
    exact absurd e2 (fun z => nomatch z)
end
theorem law_from {H : Hp} (B1 : Bare1 P w K s a H) (sc : ∃ n, s.heap.get? a = some { cls := .type "list", data := .seq vs.toArray n }) (KX : K.In s.heap) (hns : s.heap.Ns mainGlobals mg) (hb : s.heap.Ns builtinsNs mb)
    (hbb : ∀ x : Str, x ≠ "__name__" → mb x = bootBuiltins x) (hlim : s.heap.NoLimit) (hg : s.gens = #[]) (hr : Rm k callerA)
    (F : ∀ base : Heap, K.In base → base.Ns mainGlobals mg → FnG P w K mg base CX0 k fa fd [x] sp) (hbind : ∀ (s : Shared) (u : Value), BindsTo s fd ⟨[u], []⟩ [(x, u)])
    (hsp : sp [.ref a] H (fun v _ => v = .bl true) fun _ _ _ => False) : codeAny (model P w) callerA (.call (.ref fa) ⟨[.ref a], []⟩) (LawPost s) s := by
  have kb := B1.keepsK sc KX
  have nb := B1.keepsN sc hns
  obtain ⟨mc, l1, l2⟩ := hlim
  have M : Mod K mg (hidT s.heap H) := { kin := kb, glob := nb, blt := ⟨mb, B1.keepsN sc hb, hbb⟩, nolimit := ⟨mc, B1.keepsN sc l1, l2⟩ }
  have e0 : Env0 P w K mg (hidT s.heap H) callerA [] s H := ⟨rfl, M, fun b o e => of_hidT e, Nat.le_of_eq (hidT_size _ _), trivial, (fun b hb => nomatch hb), B1.hok, .of_eq hg⟩
  have go := (F _ kb nb).run callerA [] s H ⟨[.ref a], []⟩ [.ref a] [.ref a] _ _ hr e0 (hbind s (.ref a)) (.cons rfl .nil) hsp
  refine codeAny_mono go ?_
  intro r s' hq
  match r, hq with
  | .error e, hq => exact (hq : False).elim
  | .ok .next, hq => exact (hq : False).elim
  | .ok .brk, hq => exact (hq : False).elim
  | .ok .cont, hq => exact (hq : False).elim
  | .ok (.ret u), hq =>
    obtain ⟨v, H', os, bare, un, hok', rv, q⟩ := hq
    have q' : v = .bl true := q
    subst q'
    have eu : u = Value.bool true := rv
    subst eu
    refine ⟨rfl, .of_keep fun b o e => ?_, os, bare⟩
    cases hb : H b with
    | none => exact un.keep b o e hb (fun z => nomatch z) (by simp)
    | some y =>
      obtain ⟨_, _, o1, xs, rfl⟩ := B1.only b y hb
      have k1 := (B1.hok b _ hb).1
      rw [e] at k1
      cases k1
      exact (hok' b _ (un.frzs b o _ hb)).1
theorem law_callG (KX : K.In s.heap) (hns : s.heap.Ns mainGlobals mg) (hb : s.heap.Ns builtinsNs mb) (hbb : ∀ x : Str, x ≠ "__name__" → mb x = bootBuiltins x) (hlim : s.heap.NoLimit) (hg : s.gens = #[])
    (ha : s.heap.get? a = some { cls := .type "list", data := .seq vs.toArray }) (hi : IntsAre vs ns) (hl : ns.length ≤ sizeLine) (hr : Rm k callerA)
    (F : ∀ base : Heap, K.In base → base.Ns mainGlobals mg → FnG P w K mg base CX0 k fa fd [x] sp) (hbind : ∀ (s : Shared) (u : Value), BindsTo s fd ⟨[u], []⟩ [(x, u)])
    (hsp : ∀ H : Hp, (∀ b u, H b = some u → b = a) → SqL K H a (ns.map V.int) → sp [.ref a] H (fun v _ => v = .bl true) fun _ _ _ => False) : codeAny (model P w) callerA (.call (.ref fa) ⟨[.ref a], []⟩) (LawPost s) s := by
  have rv : Vals (ns.map V.int) vs := vals_ints hi
  have ln : vs.length = ns.length := hi.length
  by_cases hk : K.lookup a = none
  · have at_ : only1 a { cls := .type "list", data := .seq vs.toArray } (ns.map V.int) a = some (.frz { cls := .type "list", data := .seq vs.toArray } (.lst (ns.map V.int))) := if_pos rfl
    have inv : ∀ b u, only1 a { cls := .type "list", data := .seq vs.toArray } (ns.map V.int) b = some u → b = a ∧ u = .frz { cls := .type "list", data := .seq vs.toArray } (.lst (ns.map V.int)) := fun b u z => by
      unfold only1 at z
      split at z
      · cases z; exact ⟨by assumption, rfl⟩
      · cases z
    refine law_from (H := only1 a { cls := .type "list", data := .seq vs.toArray } (ns.map V.int)) ⟨fun b u z => ?_, fun b u z => ?_⟩ ⟨_, ha⟩ KX hns hb hbb hlim hg hr F hbind (hsp _ (fun b u z => (inv b u z).1) (.inl (.inr ⟨_, at_⟩)))
    · obtain ⟨e1, e2⟩ := inv b u z
      exact ⟨e1, hk, _, _, e2⟩
    · obtain ⟨e1, e2⟩ := inv b u z
      subst e1 e2
      exact ⟨ha, by rw [List.length_map]; exact hl, vs, _, rv, ha⟩
  · cases hc : K.lookup a with
    | none => exact absurd hc hk
    | some o =>
      have eo : o = { cls := .type "list", data := .seq vs.toArray } := by
        have := KX a o hc
        rw [ha] at this
        exact (Option.some.inj this).symm
      subst eo
      refine law_from (H := fun _ => none) ⟨(fun b u z => nomatch z), (fun b u z => nomatch z)⟩ ⟨_, ha⟩ KX hns hb hbb hlim hg hr F hbind (hsp _ (fun b u z => nomatch z) (.inr ⟨_, vs.toArray, _, hc, rfl, rfl, rfl, ?_, by simpa using rv⟩))
      rw [List.size_toArray, ln]; exact hl
end
end Fe

set_option Elab.async false
set_option linter.all false
set_option autoImplicit false
set_option maxRecDepth 100000
set_option maxHeartbeats 4000000
/-! Fe24: from the table of a text and what its law answers, the law. -/
namespace Fe
open PySem PySem.Spec PyProof.Rows L2
def obT (n : Nat) (T : Tab) (g : Addr → Option Obj) : He.AlD × Bool := (He.obsD [] (T.fns.map (·.d)) (He.frG g (He.asD g n)), T.hB (He.frG g (He.asD g n)))
def hkT (n : Nat) (T : Tab) : PySem.W.Hook where
  α := He.AlD × Bool
  obs := fun s => obT n T s.heap.get?
  val := fun _ => (He.valD (T.fns.map (·.d)), true)
  says := fun _ h => ∃ K : PySem.W.Frag, K.In h ∧ T.says K
  of := fun w s e => ⟨He.frG s.heap.get? (He.asD s.heap.get? n), He.frG_in, by
    obtain ⟨h1, h2⟩ := Prod.mk.inj e
    exact ⟨h1, h2⟩⟩
  keeps := fun _ _ _ ⟨K, hK, c⟩ k => ⟨K, PySem.W.Frag.In.keeps hK k, c⟩
theorem obT_eq {n : Nat} {T : Tab} {g : Addr → Option Obj} {s : Shared} (h : ∀ a, g a = s.heap.get? a) : obT n T g = (hkT n T).obs s := by
  have e : g = s.heap.get? := funext h
  rw [e]; rfl
theorem fd_one {K : PySem.W.Frag} {x x' q q' : Str} {p p' : Arguments} {b b' : List Stmt} {sc sc' : Scope} {dv dv' : List V} {kw kw' : List (Str × V)} {a : Addr} {fd fd' : FuncData} (F : FunD K x q p b sc dv kw a fd) (F' : FunD K x' q' p' b' sc' dv' kw' a fd') : fd = fd' := by
  obtain ⟨oc, od, dV, kV, doc, pm, an, cdv, ct, osl, _, lk, _⟩ := F.ex
  obtain ⟨oc', od', dV', kV', doc', pm', an', cdv', ct', osl', _, lk', _⟩ := F'.ex
  rw [lk] at lk'
  have := congrArg (fun o : Option Obj => o.map fun o => o.data) lk'
  simp only [Option.map_some, Option.some.injEq] at this
  exact Data.func.inj this
theorem walkG {l : PySem.W.OpenLaw} {n : Nat} {q : Program} {loose : List Str} {XP : (Str → Option Value) → Heap → Prop} {d : DefRec} {T : Tab} {li m : Nat} {f : FnT} {x : Str}
    (hn : l.most = some n) (hn2 : n ≤ sizeLine) (hn3 : n ≤ LIM) (hdf : d.params.defaults = []) (st : T.sB = true) (hb : AllP BindOk T.fns) (hf : T.fns[li]? = some f) (hat : f.d.at_ = (d.name, none)) (hps : f.ps = [x])
    (law : ∀ ns : List Int, ns.length ≤ n → T.fnO (T.pg 38) li [.scr ns] = some (.bl true)) :
    PySem.W.WalkO q loose XP (hkT m T).says l.row.toRowW d [] (fun f vs => PySem.call f vs) := by
  refine Att.attach_call hn hdf fun w s₀ s₁ mg mb fa o pm cd doc a vs ns G Y ho hd hcd hmg hobj hints hlen hg => ?_
  obtain ⟨K, KX, S⟩ := Y
  obtain ⟨fd, F⟩ := fnD S st hf
  have hfa : He.fAd K f.d.at_ = fa := by
    have h1 := He.glo_ok KX G.T.g ((hB_parts S).2.1 f (List.mem_of_getElem? hf) (by rw [hat]))
    rw [hat] at h1
    have h2 : He.fAd K f.d.at_ = He.ga K d.name := by rw [hat]; rfl
    rw [h2]
    dsimp only at h1
    rw [hmg] at h1
    exact (Value.ref.inj (Option.some.inj h1)).symm
  have hbind : ∀ (s : Shared) (u : Value), BindsTo s fd ⟨[u], []⟩ [(x, u)] := fun s u => by
    have := F.bindsA (ps := f.ps) (hb.get (List.mem_of_getElem? hf)) s [u] (by rw [hps]; rfl)
    rw [hps] at this
    exact this
  refine law_callG (P := l.prog) (sp := spT (T.cl K) f.bw f.ps.length (T.fnO (T.pg 38) li)) (fd := fd) (x := x) (k := 39) KX G.T.g G.T.b G.T.builtins G.T.nolimit hg hobj hints (Nat.le_trans hlen hn2) (rm_caller.mono (by decide)) (fun base _ _ => ?_) hbind fun H only hS => ?_
  · obtain ⟨fd', F', FG⟩ := fnG_at (P := l.prog) (w := w) (mg := mg) (base := base) S st hf (fct_all S st hb KX G.T.g 38)
    have := fd_one F F'
    subst this
    rw [hfa, hps] at FG
    rw [hps]
    exact FG
  · have nz : ¬ (fun _ : Addr => False) a := id
    have rs : Rep (T.cl K) H (fun _ => False) (.scr ns) (.ref a) := Rep.scr_iff.mpr ⟨a, rfl, (by
      rcases hS with h | h
      · exact .inl ⟨nz, h⟩
      · exact .inr h), Nat.le_trans hlen hn3⟩
    refine ⟨fun _ => False, [.scr ns], .bl true, (fun _ z => z.elim), ⟨.ref a, [], rfl, ?_, rfl⟩, by rw [hps]; rfl, law ns hlen, fun v H' _ r => Rep.bl_iff.mp r⟩
    cases f.bw.headD false with
    | true => exact .inl rs
    | false => exact rs
end Fe

set_option Elab.async false
set_option linter.all false
set_option autoImplicit false
set_option maxRecDepth 100000
set_option maxHeartbeats 4000000
/-! FeL: laws of the evaluator. -/
namespace Fe
open PySem
section
variable {P : Pg} {env env' : En} {own : List (Str × Nat)} {tg : Tg} {it : It} {c : Op} {e : E} {ts : List T} {s : S} {r : Ss}
theorem lcL_filter {f : T → Option (Option T)} {p : T → Bool} {g : T → T} : ∀ {ts : List T}, (∀ t ∈ ts, f t = some (if p t then some (g t) else none)) → lcL f ts = some ((ts.filter p).map g)
  | [], _ => rfl
  | t :: ts, h => by
    unfold lcL
    rw [h t List.mem_cons_self, lcL_filter fun t m => h t (List.mem_cons_of_mem _ m)]
    cases hp : p t <;> simp [hp]
theorem ev_lcF {p : T → Bool} {g : T → T} (hi : it.ev P env = some ts) (h : ∀ t ∈ ts, ∃ env', tg.bind t (wipeE env (own.map (·.2))) = some env' ∧ c.tst P env' = some (p t) ∧ (p t = true → e.ev P env' = some (g t))) :
    (E.lc own tg it c e).ev P env = some (.lst ((ts.filter p).map g)) := by
  unfold E.ev
  rw [hi, Option.bind_some, lcL_filter (p := p) (g := g)]
  · rfl
  · intro t m
    obtain ⟨env', h1, h2, h3⟩ := h t m
    rw [h1, Option.bind_some, h2, Option.bind_some]
    cases hp : p t with
    | true => rw [h3 hp]; rfl
    | false => rfl
theorem ev_lcM {g : T → T} (hi : it.ev P env = some ts) (h : ∀ t ∈ ts, ∃ env', tg.bind t (wipeE env (own.map (·.2))) = some env' ∧ c.tst P env' = some true ∧ e.ev P env' = some (g t)) :
    (E.lc own tg it c e).ev P env = some (.lst (ts.map g)) := by
  have := ev_lcF (p := fun _ => true) (g := g) hi fun t m => by
    obtain ⟨env', h1, h2, h3⟩ := h t m
    exact ⟨env', h1, h2, fun _ => h3⟩
  rw [this, List.filter_eq_self.mpr fun _ _ => rfl]
theorem lcL_A {α : Type} {F : T → Option (Option T)} {f g : α → T} {p : α → Bool} : ∀ {xs : List α}, (∀ x ∈ xs, F (f x) = some (if p x then some (g x) else none)) → lcL F (xs.map f) = some ((xs.filter p).map g)
  | [], _ => rfl
  | x :: xs, h => by
    rw [List.map_cons]
    unfold lcL
    rw [h x List.mem_cons_self, lcL_A fun t m => h t (List.mem_cons_of_mem _ m)]
    cases hp : p x <;> simp [hp]
theorem ev_lcA {α : Type} (xs : List α) (f g : α → T) (p : α → Bool) (hi : it.ev P env = some (xs.map f)) (h : ∀ x ∈ xs, ∃ env', tg.bind (f x) (wipeE env (own.map (·.2))) = some env' ∧ c.tst P env' = some (p x) ∧ (p x = true → e.ev P env' = some (g x))) :
    (E.lc own tg it c e).ev P env = some (.lst ((xs.filter p).map g)) := by
  unfold E.ev
  rw [hi, Option.bind_some, lcL_A (p := p) (g := g)]
  · rfl
  · intro t m
    obtain ⟨env', h1, h2, h3⟩ := h t m
    rw [h1, Option.bind_some, h2, Option.bind_some]
    cases hp : p t with
    | true => rw [h3 hp]; rfl
    | false => rfl
theorem ev_lcB {α : Type} (xs : List α) (f g : α → T) (hi : it.ev P env = some (xs.map f)) (h : ∀ x ∈ xs, ∃ env', tg.bind (f x) (wipeE env (own.map (·.2))) = some env' ∧ c.tst P env' = some true ∧ e.ev P env' = some (g x)) :
    (E.lc own tg it c e).ev P env = some (.lst (xs.map g)) := by
  have := ev_lcA xs f g (fun _ => true) hi fun t m => by
    obtain ⟨env', h1, h2, h3⟩ := h t m
    exact ⟨env', h1, h2, fun _ => h3⟩
  rw [this, List.filter_eq_self.mpr fun _ _ => rfl]
theorem ev_step (h : s.ev P env = some (.nx env')) : (Ss.cons s r).ev P env = r.ev P env' := by
  rw [Ss.ev.eq_2, h]
theorem ev_ret {t : T} (h : s.ev P env = some (.rt t)) : (Ss.cons s r).ev P env = some (.rt t) := by
  rw [Ss.ev.eq_2, h]
/-- a loop that goes through, by what holds at each turn -/
theorem forL_ind {body : En → Option Out} {g : Tg} (I : Nat → En → Prop) : ∀ {ts : List T} {env : En} {n : Nat}, I n env →
    (∀ i t env, ts[i]? = some t → I (n + i) env → ∃ env2 env3, g.bind t env = some env2 ∧ (body env2 = some (.nx env3) ∨ body env2 = some (.ct env3)) ∧ I (n + i + 1) env3) →
    ∃ env', forL body g ts env = some (.nx env') ∧ I (n + ts.length) env'
  | [], env, n, h0, _ => ⟨env, rfl, h0⟩
  | t :: ts, env, n, h0, hs => by
    obtain ⟨env2, env3, h1, h2, h3⟩ := hs 0 t env rfl h0
    obtain ⟨env', h4, h5⟩ := forL_ind I (ts := ts) (n := n + 1) h3 fun i t env e hi => by
      have := hs (i + 1) t env e (by rw [show n + (i + 1) = n + 1 + i by omega]; exact hi)
      rw [show n + (i + 1) = n + 1 + i by omega] at this
      exact this
    refine ⟨env', ?_, by rw [List.length_cons, show n + (ts.length + 1) = n + 1 + ts.length by omega]; exact h5⟩
    unfold forL
    rw [h1, Option.bind_some]
    rcases h2 with h2 | h2 <;> rw [h2] <;> exact h4
theorem ev_for {b : Ss} (I : Nat → En → Prop) (hi : it.ev P env = some ts) (h0 : I 0 env) (hs : ∀ i t env, ts[i]? = some t → I i env → ∃ env2 env3, tg.bind t env = some env2 ∧ (b.ev P env2 = some (.nx env3) ∨ b.ev P env2 = some (.ct env3)) ∧ I (i + 1) env3) :
    ∃ env', (S.forr tg it b).ev P env = some (.nx env') ∧ I ts.length env' := by
  obtain ⟨env', h1, h2⟩ := forL_ind (body := b.ev P) (g := tg) I (n := 0) (ts := ts) h0 fun i t env e h => by
    rw [Nat.zero_add] at h ⊢
    exact hs i t env e h
  rw [Nat.zero_add] at h2
  refine ⟨env', ?_, h2⟩
  unfold S.ev
  rw [hi, Option.bind_some]
  exact h1
end
end Fe

set_option Elab.async false
set_option linter.all false
set_option maxRecDepth 100000
set_option maxHeartbeats 0
namespace Tx
open PySem PySem.Spec PyProof.Rows L2 Fe
def top (i : Nat) : Stmt := PySem.Challenge.pw_fencerow_k60_bare_and_fenced.main.body.getD i (.Pass ⟨0, 0, 0, 0⟩)
def dd (a : PySem.Str) (m : Option PySem.Str) (n q : PySem.Str) (s : Stmt) : He.DefD := ⟨(a, m), n, q, defArgs s, defBody s, defScope s, [], []⟩
/- 0 row_of -/
def b0 : Ss := (.cons (.set 1 false (.ix (.v 0) (.k (.int 0)))) (.cons (.iff (.cmp .eq (.v 1) (.k (.str "put"))) (.cons (.ret (.mk 0 (.cons (.ix (.v 0) (.k (.int 1))) (.cons (.ix (.v 0) (.k (.int 2))) .nil)))) .nil) .nil) (.cons (.iff (.cmp .eq (.v 1) (.k (.str "get"))) (.cons (.ret (.mk 1 (.cons (.ix (.v 0) (.k (.int 1))) (.cons (.ix (.v 0) (.k (.int 2))) .nil)))) .nil) .nil) (.cons (.iff (.cmp .eq (.v 1) (.k (.str "swap"))) (.cons (.ret (.mk 2 (.cons (.ix (.v 0) (.k (.int 1))) (.cons (.ix (.v 0) (.k (.int 2))) (.cons (.ix (.v 0) (.k (.int 3))) .nil))))) .nil) .nil) (.cons (.iff (.cmp .eq (.v 1) (.k (.str "add"))) (.cons (.ret (.mk 3 (.cons (.ix (.v 0) (.k (.int 1))) (.cons (.ix (.v 0) (.k (.int 2))) (.cons (.ix (.v 0) (.k (.int 3))) .nil))))) .nil) .nil) (.cons (.iff (.cmp .eq (.v 1) (.k (.str "skip"))) (.cons (.ret (.mk 4 (.cons (.ix (.v 0) (.k (.int 1))) (.cons (.ix (.v 0) (.k (.int 2))) .nil)))) .nil) .nil) (.cons (.ret (.mk 5 .nil)) .nil)))))))
def f0 : FnT := ⟨dd "row_of" none "row_of" "row_of" (top 11), ["plain", "word"], ["plain"], [], b0⟩
theorem o0 : BindOk f0 := fun _ _ _ _ _ _ us hl => match us, hl with | [_], _ => rfl
/- 1 program_of -/
def c1_0 : E := (.lc [("row", 3)] (.n 3) (.it (.v 4)) .no (.call 0 (.cons (.v 3) .nil)))
def c1_1 : E := (.lc [("rows", 4)] (.n 4) (.it (.v 2)) .no c1_0)
def b1 : Ss := (.cons (.setT [1, 2] (.v 0)) (.cons (.ret (.mk 6 (.cons (.v 1) (.cons c1_1 .nil)))) .nil))
def f1 : FnT := ⟨dd "program_of" none "program_of" "program_of" (top 12), ["plain", "cells", "threads", "row", "rows"], ["plain"], [], b1⟩
theorem o1 : BindOk f1 := fun _ _ _ _ _ _ us hl => match us, hl with | [_], _ => rfl
/- 2 bare_rows -/
def c2_0 : E := (.lc [("one", 5)] (.n 5) (.it (.sl (.v 0) (.so (.bin .add (.v 2) (.k (.int 1)))) (.so (.bin .add (.bin .add (.v 2) (.k (.int 1))) (.ix (.v 3) (.k (.int 2))))))) (.so (.cmp .ne (.v 5) (.g 0))) (.v 5))
def l2_1 : Ss := (.cons (.iff (.cmp .eq (.ix (.v 3) (.k (.int 0))) (.k (.str "skip"))) (.cons (.set 4 false c2_0) (.cons (.set 3 false (.tup (.cons (.k (.str "skip")) (.cons (.ix (.v 3) (.k (.int 1))) (.cons (.bi .len (.cons (.v 4) .nil)) .nil))))) .nil)) .nil) (.cons (.iff (.cmp .ne (.v 3) (.g 0)) (.cons (.lm .append 1 (.cons (.v 3) .nil)) .nil) .nil) .nil))
def b2 : Ss := (.cons (.set 1 true (.lst .nil)) (.cons (.forr (.tt [2, 3]) (.enu (.v 0)) l2_1) (.cons (.ret (.bi .tuple (.cons (.p 1) .nil))) .nil)))
def f2 : FnT := ⟨dd "bare_rows" none "bare_rows" "bare_rows" (top 15), ["rows", "found", "at", "row", "over", "one"], ["rows"], [], b2⟩
theorem o2 : BindOk f2 := fun _ _ _ _ _ _ us hl => match us, hl with | [_], _ => rfl
/- 3 bare -/
def c3_0 : E := (.lc [("rows", 3)] (.n 3) (.it (.v 2)) .no (.call 2 (.cons (.v 3) .nil)))
def b3 : Ss := (.cons (.setT [1, 2] (.meth (.v 0) "plain" .nil)) (.cons (.ret (.call 1 (.cons (.tup (.cons (.v 1) (.cons (.bi .tuple (.cons c3_0 .nil)) .nil))) .nil))) .nil))
def f3 : FnT := ⟨dd "bare" none "bare" "bare" (top 16), ["program", "cells", "threads", "rows"], ["program"], [], b3⟩
theorem o3 : BindOk f3 := fun _ _ _ _ _ _ us hl => match us, hl with | [_], _ => rfl
/- 4 fenced_rows -/
def c4_0 : E := (.lc [("spot", 6)] (.n 6) (.it (.v 1)) (.so (.cmp2 .lt .le (.v 3) (.v 6) (.bin .add (.v 3) (.ix (.v 4) (.k (.int 2)))))) (.v 6))
def l4_1 : Ss := (.cons (.iff (.cmp .isin (.v 3) (.v 1)) (.cons (.lm .append 2 (.cons (.g 0) .nil)) .nil) .nil) (.cons (.iff (.cmp .eq (.ix (.v 4) (.k (.int 0))) (.k (.str "skip"))) (.cons (.set 5 false c4_0) (.cons (.set 4 false (.tup (.cons (.k (.str "skip")) (.cons (.ix (.v 4) (.k (.int 1))) (.cons (.bin .add (.ix (.v 4) (.k (.int 2))) (.bi .len (.cons (.v 5) .nil))) .nil))))) .nil)) .nil) (.cons (.lm .append 2 (.cons (.v 4) .nil)) .nil)))
def b4 : Ss := (.cons (.set 2 true (.lst .nil)) (.cons (.forr (.tt [3, 4]) (.enu (.v 0)) l4_1) (.cons (.ret (.bi .tuple (.cons (.p 2) .nil))) .nil)))
def f4 : FnT := ⟨dd "fenced_rows" none "fenced_rows" "fenced_rows" (top 17), ["rows", "spots", "found", "at", "row", "over", "spot"], ["rows", "spots"], [], b4⟩
theorem o4 : BindOk f4 := fun _ _ _ _ _ _ us hl => match us, hl with | [_, _], _ => rfl
/- 5 fenced -/
def c5_0 : E := (.lc [("thread", 7), ("at", 8)] (.tt [7, 8]) (.it (.p 1)) (.so (.cmp .eq (.v 7) (.v 5))) (.v 8))
def l5_1 : Ss := (.cons (.lm .append 4 (.cons (.call 4 (.cons (.v 6) (.cons c5_0 .nil))) .nil)) .nil)
def b5 : Ss := (.cons (.setT [2, 3] (.meth (.call 3 (.cons (.v 0) .nil)) "plain" .nil)) (.cons (.set 4 true (.lst .nil)) (.cons (.forr (.tt [5, 6]) (.enu (.v 3)) l5_1) (.cons (.ret (.call 1 (.cons (.tup (.cons (.v 2) (.cons (.bi .tuple (.cons (.p 4) .nil)) .nil))) .nil))) .nil))))
def f5 : FnT := ⟨dd "fenced" none "fenced" "fenced" (top 18), ["program", "places", "cells", "threads", "found", "number", "rows", "thread", "at"], ["program", "places"], [false, true], b5⟩
theorem o5 : BindOk f5 := fun _ _ _ _ _ _ us hl => match us, hl with | [_, _], _ => rfl
/- 6 _law_cell_at -/
def b6 : Ss := (.cons (.iff (.cmp .lt (.v 1) (.bi .len (.cons (.v 0) .nil))) (.cons (.ret (.ix (.v 0) (.v 1))) .nil) .nil) (.cons (.ret (.k (.int 0))) .nil))
def f6 : FnT := ⟨dd "_law_cell_at" none "_law_cell_at" "_law_cell_at" (top 20), ["_law_script", "_law_k"], ["_law_script", "_law_k"], [], b6⟩
theorem o6 : BindOk f6 := fun _ _ _ _ _ _ us hl => match us, hl with | [_, _], _ => rfl
/- 7 _law_mixed -/
def b7 : Ss := (.cons (.ret (.bin .fdiv (.bin .mod (.bin .mul (.bin .add (.bin .add (.bin .mod (.bin .mul (.v 0) (.k (.int 48271))) (.k (.int 2147483647))) (.bin .mul (.bin .mul (.k (.int 7919)) (.v 1)) (.v 1))) (.bin .mul (.k (.int 104729)) (.v 1))) (.k (.int 69621))) (.k (.int 2147483629))) (.k (.int 7)))) .nil)
def f7 : FnT := ⟨dd "_law_mixed" none "_law_mixed" "_law_mixed" (top 21), ["_law_cell", "_law_k"], ["_law_cell", "_law_k"], [], b7⟩
theorem o7 : BindOk f7 := fun _ _ _ _ _ _ us hl => match us, hl with | [_, _], _ => rfl
/- 8 _law_names -/
def c8_0 : E := (.lc [("_law_j", 5)] (.n 5) (.rng (.k (.int 6))) .no (.ix (.v 1) (.bin .mod (.bin .add (.bin .fdiv (.v 0) (.k (.int 7))) (.bin .mul (.k (.int 5)) (.v 5))) (.k (.int 26)))))
def l8_1 : Ss := (.cons (.set 8 false (.ix (.v 1) (.bin .mod (.bin .add (.bin .fdiv (.v 0) (.k (.int 11))) (.v 7)) (.k (.int 26))))) (.cons (.set 9 false (.bm .join (.k (.str "")) (.cons (.bin .add (.bin .add (.sl (.v 4) .no (.so (.v 3))) (.lst (.cons (.v 8) .nil))) (.sl (.v 4) (.so (.bin .add (.v 3) (.k (.int 1)))) (.so (.v 2)))) .nil))) (.cons (.iff (.cmp .eq (.bin .mod (.v 0) (.k (.int 4))) (.k (.int 3))) (.cons (.set 9 false (.ix (.lst (.cons (.bm .join (.k (.str "")) (.cons (.sl (.v 4) .no (.so (.bin .add (.k (.int 1)) (.bin .mod (.v 7) (.k (.int 5)))))) .nil)) (.cons (.bin .add (.v 8) (.bm .join (.k (.str "")) (.cons (.sl (.v 4) .no (.so (.bin .add (.k (.int 1)) (.bin .mod (.v 7) (.k (.int 5)))))) .nil))) .nil))) (.bin .fdiv (.v 7) (.k (.int 5))))) .nil) .nil) (.cons (.lm .append 6 (.cons (.v 9) .nil)) .nil))))
def c8_2 : E := (.lc [("_law_name", 9)] (.n 9) (.it (.p 6)) (.so (.cmp .isin (.v 9) (.bm .split (.k (.str "cells thread put get swap add skip fence")) (.cons (.k (.str " ")) .nil)))) (.v 9))
def b8 : Ss := (.cons (.set 1 false (.k (.str "abcdefghijklmnopqrstuvwxyz"))) (.cons (.set 2 false (.bin .add (.k (.int 1)) (.bin .mod (.bin .fdiv (.v 0) (.k (.int 4))) (.k (.int 6))))) (.cons (.set 3 false (.ix (.lst (.cons (.bin .mod (.bin .fdiv (.v 0) (.k (.int 24))) (.v 2)) (.cons (.k (.int 0)) (.cons (.bin .sub (.v 2) (.k (.int 1))) (.cons (.k (.int 0)) .nil))))) (.bin .mod (.v 0) (.k (.int 4))))) (.cons (.set 4 false c8_0) (.cons (.set 6 true (.lst .nil)) (.cons (.forr (.n 7) (.rng (.k (.int 9))) l8_1) (.cons (.set 10 false c8_2) (.cons (.iff (.or (.cmp .ne (.v 10) (.lst .nil)) (.cmp .lt (.bi .lenset (.cons (.p 6) .nil)) (.k (.int 9)))) (.cons (.ret (.lst (.cons (.k (.str "a")) (.cons (.k (.str "b")) (.cons (.k (.str "c")) (.cons (.k (.str "ab")) (.cons (.k (.str "ba")) (.cons (.k (.str "z")) (.cons (.k (.str "x")) (.cons (.k (.str "xx")) (.cons (.k (.str "y")) .nil))))))))))) .nil) .nil) (.cons (.frz 6) (.cons (.ret (.v 6)) .nil))))))))))
def f8 : FnT := ⟨dd "_law_names" none "_law_names" "_law_names" (top 22), ["_law_cell", "_law_letters", "_law_size", "_law_at", "_law_row_here", "_law_j", "_law_found", "_law_k", "_law_sign", "_law_name", "_law_odd"], ["_law_cell"], [], b8⟩
theorem o8 : BindOk f8 := fun _ _ _ _ _ _ us hl => match us, hl with | [_], _ => rfl
/- 9 _law_shape -/
def b9 : Ss := (.cons (.set 1 false (.lst (.cons (.k (.str "put 0 1,get p 1/put 1 2,get p 0")) (.cons (.k (.str "put 0 1,fence,get p 1/put 1 2,fence,get p 0")) .nil)))) (.cons (.set 1 false (.bin .add (.v 1) (.lst (.cons (.k (.str "swap p 0 1,get q 1/swap p 1 2,get q 0")) (.cons (.k (.str "put 0 1,put 1 2/get p 1,get q 0")) .nil))))) (.cons (.set 1 false (.bin .add (.v 1) (.lst (.cons (.k (.str "put 0 1,get p 1/put 1 2,fence,get p 0")) (.cons (.k (.str "get p 0,put 1 1/get p 1,put 0 2")) .nil))))) (.cons (.set 1 false (.bin .add (.v 1) (.lst (.cons (.k (.str "put 0 1,put 1 2/put 1 3,put 0 4")) (.cons (.k (.str "put 0 1,get p 0,get q 1/put 1 2,get p 1,get q 0")) .nil))))) (.cons (.set 1 false (.bin .add (.v 1) (.lst (.cons (.k (.str "put 0 1/get p 0,put 1 p/get p 1,get q 0")) (.cons (.k (.str "put 0 1,get p 1/put 1 2,get p 2/put 2 3,get p 0")) .nil))))) (.cons (.set 1 false (.bin .add (.v 1) (.lst (.cons (.k (.str "put 0 1,get p 1,skip p 1,put 2 3/put 1 2,get p 0,get q 2")) (.cons (.k (.str "put 0 1,put 0 2/get p 0,get q 0")) .nil))))) (.cons (.set 1 false (.bin .add (.v 1) (.lst (.cons (.k (.str "swap p 0 1/swap p 0 2/get p 0,get q 0")) (.cons (.k (.str "put 0 1,add p p 7,put 1 p/get q 1,swap p 0 9")) .nil))))) (.cons (.set 1 false (.bin .add (.v 1) (.lst (.cons (.k (.str "put 0 1,put 0 2,get p 0/put 0 3,get p 0")) (.cons (.k (.str "put 0 1,swap p 0 2,put 0 3,get q 0/get p 0")) .nil))))) (.cons (.ret (.ix (.v 1) (.bin .mod (.v 0) (.k (.int 16))))) .nil)))))))))
def f9 : FnT := ⟨dd "_law_shape" none "_law_shape" "_law_shape" (top 23), ["_law_cell", "_law_shapes"], ["_law_cell"], [], b9⟩
theorem o9 : BindOk f9 := fun _ _ _ _ _ _ us hl => match us, hl with | [_], _ => rfl
/- 10 _law_shaped -/
def l10_0 : Ss := (.cons (.set 12 false (.ife (.bm .isdigit (.v 11) .nil) (.bi .int (.cons (.v 11) .nil)) (.k (.int 0)))) (.cons (.set 13 false (.bin .add (.v 12) (.bin .mul (.v 2) (.bi .int (.cons (.cmp .eq (.v 10) (.k (.str "v"))) .nil))))) (.cons (.iff (.cmp .isin (.v 11) (.tup (.cons (.k (.str "p")) (.cons (.k (.str "q")) .nil)))) (.cons (.set 13 false (.ix (.v 1) (.bin .add (.k (.int 3)) (.bm .find (.k (.str "pq")) (.cons (.v 11) .nil))))) .nil) .nil) (.cons (.lm .append 9 (.cons (.ife (.cmp .eq (.v 10) (.k (.str "c"))) (.ix (.v 1) (.v 12)) (.v 13)) .nil)) .nil))))
def l10_1 : Ss := (.cons (.set 7 false (.bm .split (.v 6) (.cons (.k (.str " ")) .nil))) (.cons (.set 8 false (.dsel [("put", "cv"), ("get", "bc"), ("swap", "bcv"), ("add", "bvv"), ("skip", "bn"), ("fence", "")] (.ix (.v 7) (.k (.int 0))))) (.cons (.set 9 true (.lst (.cons (.ix (.v 7) (.k (.int 0))) .nil))) (.cons (.forr (.tt [10, 11]) (.zip (.v 8) (.sl (.v 7) (.so (.k (.int 1))) .no)) l10_0) (.cons (.lm .append 5 (.cons (.bi .tuple (.cons (.p 9) .nil)) .nil)) .nil)))))
def l10_2 : Ss := (.cons (.set 5 true (.lst .nil)) (.cons (.forr (.n 6) (.it (.bm .split (.v 4) (.cons (.k (.str ",")) .nil))) l10_1) (.cons (.frz 5) (.cons (.lm .append 3 (.cons (.v 5) .nil)) .nil))))
def b10 : Ss := (.cons (.set 3 true (.lst .nil)) (.cons (.forr (.n 4) (.it (.bm .split (.call 9 (.cons (.v 0) .nil)) (.cons (.k (.str "/")) .nil))) l10_2) (.cons (.frz 3) (.cons (.ret (.v 3)) .nil))))
def f10 : FnT := ⟨dd "_law_shaped" none "_law_shaped" "_law_shaped" (top 24), ["_law_cell", "_law_names_here", "_law_more", "_law_threads", "_law_rows", "_law_found", "_law_row_here", "_law_words", "_law_form", "_law_parts", "_law_kind", "_law_word", "_law_number", "_law_part"], ["_law_cell", "_law_names_here", "_law_more"], [], b10⟩
theorem o10 : BindOk f10 := fun _ _ _ _ _ _ us hl => match us, hl with | [_, _, _], _ => rfl
/- 11 _law_row -/
def b11 : Ss := (.cons (.set 4 false (.ix (.v 1) (.bin .mod (.bin .fdiv (.v 0) (.k (.int 11))) (.k (.int 3))))) (.cons (.set 5 false (.ix (.v 1) (.bin .add (.k (.int 3)) (.bin .mod (.bin .fdiv (.v 0) (.k (.int 33))) (.k (.int 4)))))) (.cons (.set 6 false (.ix (.v 1) (.bin .add (.k (.int 3)) (.bin .mod (.bin .fdiv (.v 0) (.k (.int 132))) (.k (.int 4)))))) (.cons (.set 7 false (.ix (.lst (.cons (.bin .add (.k (.int 1)) (.v 3)) (.cons (.bin .mod (.bin .fdiv (.v 0) (.k (.int 528))) (.k (.int 100))) (.cons (.v 5) .nil)))) (.bin .mod (.bin .fdiv (.v 0) (.k (.int 53))) (.k (.int 3))))) (.cons (.set 8 false (.bin .mod (.v 0) (.k (.int 11)))) (.cons (.iff (.cmp .lt (.v 8) (.k (.int 4))) (.cons (.ret (.tup (.cons (.k (.str "put")) (.cons (.v 4) (.cons (.v 7) .nil))))) .nil) .nil) (.cons (.iff (.cmp .lt (.v 8) (.k (.int 7))) (.cons (.ret (.tup (.cons (.k (.str "get")) (.cons (.v 5) (.cons (.v 4) .nil))))) .nil) .nil) (.cons (.iff (.cmp .eq (.v 8) (.k (.int 7))) (.cons (.ret (.tup (.cons (.k (.str "swap")) (.cons (.v 5) (.cons (.v 4) (.cons (.ix (.lst (.cons (.bin .add (.k (.int 1)) (.v 3)) (.cons (.v 6) .nil))) (.bin .mod (.bin .fdiv (.v 0) (.k (.int 53))) (.k (.int 2)))) .nil)))))) .nil) .nil) (.cons (.iff (.or (.cmp .eq (.v 8) (.k (.int 8))) (.and (.cmp .eq (.v 2) (.k (.int 0))) (.cmp .eq (.v 8) (.k (.int 9))))) (.cons (.ret (.tup (.cons (.k (.str "add")) (.cons (.v 5) (.cons (.v 6) (.cons (.v 7) .nil)))))) .nil) .nil) (.cons (.iff (.cmp .eq (.v 8) (.k (.int 9))) (.cons (.ret (.tup (.cons (.k (.str "skip")) (.cons (.v 5) (.cons (.bin .mod (.bin .fdiv (.v 0) (.k (.int 528))) (.bin .add (.k (.int 1)) (.bi .min2 (.cons (.v 2) (.cons (.k (.int 9)) .nil))))) .nil))))) .nil) .nil) (.cons (.ret (.tup (.cons (.k (.str "fence")) .nil))) .nil)))))))))))
def f11 : FnT := ⟨dd "_law_row" none "_law_row" "_law_row" (top 25), ["_law_cell", "_law_names_here", "_law_left", "_law_k", "_law_spot", "_law_box", "_law_other", "_law_value", "_law_way"], ["_law_cell", "_law_names_here", "_law_left", "_law_k"], [], b11⟩
theorem o11 : BindOk f11 := fun _ _ _ _ _ _ us hl => match us, hl with | [_, _, _, _], _ => rfl
/- 12 _law_thread -/
def l12_0 : Ss := (.cons (.set 8 false (.call 7 (.cons (.call 6 (.cons (.v 0) (.cons (.bin .add (.bin .add (.k (.int 5)) (.bin .mul (.k (.int 8)) (.v 1))) (.v 7)) .nil))) (.cons (.bin .add (.bin .mul (.k (.int 10)) (.v 1)) (.v 7)) .nil)))) (.cons (.set 9 false (.call 11 (.cons (.v 8) (.cons (.v 2) (.cons (.bin .sub (.bin .sub (.v 4) (.k (.int 1))) (.v 7)) (.cons (.bin .add (.bin .mul (.k (.int 10)) (.v 1)) (.v 7)) .nil)))))) (.cons (.set 10 false (.bm .count (.p 5) (.cons (.tup (.cons (.k (.str "fence")) .nil)) .nil))) (.cons (.iff (.and (.cmp .eq (.v 10) (.v 6)) (.cmp .eq (.v 9) (.tup (.cons (.k (.str "fence")) .nil)))) (.cons (.set 9 false (.tup (.cons (.k (.str "get")) (.cons (.ix (.v 2) (.k (.int 3))) (.cons (.ix (.v 2) (.k (.int 0))) .nil))))) .nil) .nil) (.cons (.iff (.cmp .eq (.bin .sub (.v 7) (.v 10)) (.v 3)) (.cons (.set 9 false (.tup (.cons (.k (.str "fence")) .nil))) .nil) .nil) (.cons (.lm .append 5 (.cons (.v 9) .nil)) .nil))))))
def b12 : Ss := (.cons (.set 5 true (.lst .nil)) (.cons (.set 6 false (.ix (.lst (.cons (.k (.int 2)) (.cons (.k (.int 5)) .nil))) (.bi .int (.cons (.cmp .gt (.v 3) (.k (.int 3))) .nil)))) (.cons (.forr (.n 7) (.rng (.v 4)) l12_0) (.cons (.frz 5) (.cons (.ret (.v 5)) .nil)))))
def f12 : FnT := ⟨dd "_law_thread" none "_law_thread" "_law_thread" (top 26), ["_law_script", "_law_t", "_law_names_here", "_law_most", "_law_many", "_law_found", "_law_few", "_law_k", "_law_cell", "_law_row_here", "_law_fences"], ["_law_script", "_law_t", "_law_names_here", "_law_most", "_law_many"], [], b12⟩
theorem o12 : BindOk f12 := fun _ _ _ _ _ _ us hl => match us, hl with | [_, _, _, _, _], _ => rfl
/- 13 _law_program -/
def c13_0 : E := (.lc [("_law_k", 7)] (.n 7) (.rng (.k (.int 3))) .no (.tup (.cons (.ix (.v 3) (.v 7)) (.cons (.ix (.v 5) (.bin .mod (.bin .add (.v 4) (.v 7)) (.k (.int 4)))) .nil))))
def l13_1 : Ss := (.cons (.set 11 false (.bin .mod (.call 7 (.cons (.bin .mul (.call 6 (.cons (.v 0) (.cons (.k (.int 3)) .nil))) (.bin .add (.k (.int 1)) (.bin .mul (.k (.int 2)) (.v 10)))) (.cons (.v 10) .nil))) (.bin .add (.v 1) (.ix (.lst (.cons (.k (.int 3)) (.cons (.k (.int 6)) .nil))) (.bi .int (.cons (.cmp .gt (.v 1) (.k (.int 3))) .nil)))))) (.cons (.lm .append 8 (.cons (.call 12 (.cons (.v 0) (.cons (.v 10) (.cons (.v 3) (.cons (.v 1) (.cons (.v 11) .nil)))))) .nil)) .nil))
def l13_2 : Ss := (.cons (.set 12 false (.bin .add (.v 12) (.bi .list (.cons (.v 14) .nil)))) .nil)
def l13_3 : Ss := (.cons (.forr (.n 14) (.it (.v 13)) l13_2) .nil)
def c13_4 : E := (.lc [("_law_k", 7)] (.n 7) (.rng (.k (.int 3))) (.so (.cmp .isin (.ix (.v 3) (.v 7)) (.v 12))) (.bin .add (.v 7) (.k (.int 1))))
def c13_5 : E := (.lc [("_law_rows", 13)] (.n 13) (.it (.p 8)) .no (.bi .tuple (.cons (.v 13) .nil)))
def b13 : Ss := (.cons (.set 2 false (.call 7 (.cons (.call 6 (.cons (.v 0) (.cons (.k (.int 0)) .nil))) (.cons (.k (.int 1)) .nil)))) (.cons (.set 3 false (.call 8 (.cons (.bin .fdiv (.v 2) (.k (.int 13))) .nil))) (.cons (.set 4 false (.call 7 (.cons (.call 6 (.cons (.v 0) (.cons (.k (.int 1)) .nil))) (.cons (.k (.int 2)) .nil)))) (.cons (.set 5 false (.lst (.cons (.k (.int 0)) (.cons (.k (.int 0)) (.cons (.bin .mod (.bin .fdiv (.v 4) (.k (.int 7))) (.k (.int 100))) (.cons (.k (.int 5)) .nil)))))) (.cons (.set 6 false (.bi .tuple (.cons c13_0 .nil))) (.cons (.iff (.cmp .eq (.bin .mod (.call 6 (.cons (.v 0) (.cons (.k (.int 2)) .nil))) (.k (.int 3))) (.k (.int 1))) (.cons (.set 8 false (.call 10 (.cons (.bin .fdiv (.call 6 (.cons (.v 0) (.cons (.k (.int 2)) .nil))) (.k (.int 3))) (.cons (.v 3) (.cons (.bin .mul (.bin .mod (.call 6 (.cons (.v 0) (.cons (.k (.int 1)) .nil))) (.k (.int 3))) (.k (.int 30))) .nil))))) .nil) (.cons (.set 9 false (.ix (.lst (.cons (.k (.int 2)) (.cons (.k (.int 2)) (.cons (.k (.int 3)) (.cons (.k (.int 1)) (.cons (.k (.int 2)) .nil)))))) (.bin .mod (.bin .fdiv (.call 6 (.cons (.v 0) (.cons (.k (.int 2)) .nil))) (.k (.int 3))) (.k (.int 5))))) (.cons (.set 1 false (.bi .min2 (.cons (.v 1) (.cons (.ix (.lst (.cons (.k (.int 5)) (.cons (.k (.int 5)) (.cons (.k (.int 5)) (.cons (.k (.int 3)) .nil))))) (.v 9)) .nil)))) (.cons (.set 8 true (.lst .nil)) (.cons (.forr (.n 10) (.rng (.v 9)) l13_1) (.cons (.frz 8) .nil)))))) (.cons (.set 12 false (.lst .nil)) (.cons (.forr (.n 13) (.it (.v 8)) l13_3) (.cons (.set 9 false (.bi .max1 (.cons (.bin .add (.lst (.cons (.bin .add (.k (.int 1)) (.bin .mod (.bin .fdiv (.v 4) (.k (.int 9))) (.k (.int 3)))) .nil)) c13_4) .nil))) (.cons (.ret (.tup (.cons (.sl (.v 6) .no (.so (.v 9))) (.cons (.bi .tuple (.cons c13_5 .nil)) .nil)))) .nil))))))))))
def f13 : FnT := ⟨dd "_law_program" none "_law_program" "_law_program" (top 27), ["_law_script", "_law_most", "_law_cell", "_law_names_here", "_law_first", "_law_some", "_law_cells", "_law_k", "_law_threads", "_law_many", "_law_t", "_law_size", "_law_words", "_law_rows", "_law_row_here"], ["_law_script", "_law_most"], [], b13⟩
theorem o13 : BindOk f13 := fun _ _ _ _ _ _ us hl => match us, hl with | [_, _], _ => rfl
/- 14 _law_bare_rows -/
def c14_0 : E := (.lc [("_law_at", 2)] (.n 2) (.rng (.bi .len (.cons (.v 0) .nil))) (.so (.cmp .ne (.ix (.v 0) (.v 2)) (.tup (.cons (.k (.str "fence")) .nil)))) (.v 2))
def c14_1 : E := (.lc [("_law_k", 6)] (.n 6) (.it (.v 1)) (.so (.cmp .lt (.v 6) (.bin .add (.bin .add (.v 2) (.k (.int 1))) (.ix (.v 4) (.k (.int 2)))))) (.v 6))
def l14_2 : Ss := (.cons (.set 4 false (.ix (.v 0) (.v 2))) (.cons (.iff (.cmp .eq (.ix (.v 4) (.k (.int 0))) (.k (.str "skip"))) (.cons (.set 5 false c14_1) (.cons (.set 4 false (.tup (.cons (.k (.str "skip")) (.cons (.ix (.v 4) (.k (.int 1))) (.cons (.bin .sub (.bin .sub (.bi .len (.cons (.v 5) .nil)) (.bm .index (.v 1) (.cons (.v 2) .nil))) (.k (.int 1))) .nil))))) .nil)) .nil) (.cons (.lm .append 3 (.cons (.v 4) .nil)) .nil)))
def b14 : Ss := (.cons (.set 1 false c14_0) (.cons (.set 3 true (.lst .nil)) (.cons (.forr (.n 2) (.it (.v 1)) l14_2) (.cons (.ret (.bi .tuple (.cons (.p 3) .nil))) .nil))))
def f14 : FnT := ⟨dd "_law_bare_rows" none "_law_bare_rows" "_law_bare_rows" (top 28), ["_law_rows", "_law_left", "_law_at", "_law_found", "_law_row_here", "_law_ahead", "_law_k"], ["_law_rows"], [], b14⟩
theorem o14 : BindOk f14 := fun _ _ _ _ _ _ us hl => match us, hl with | [_], _ => rfl
/- 15 _law_bare -/
def c15_0 : E := (.lc [("_law_rows", 1)] (.n 1) (.it (.ix (.v 0) (.k (.int 1)))) .no (.call 14 (.cons (.v 1) .nil)))
def b15 : Ss := (.cons (.ret (.tup (.cons (.ix (.v 0) (.k (.int 0))) (.cons (.bi .tuple (.cons c15_0 .nil)) .nil)))) .nil)
def f15 : FnT := ⟨dd "_law_bare" none "_law_bare" "_law_bare" (top 29), ["_law_plain", "_law_rows"], ["_law_plain"], [], b15⟩
theorem o15 : BindOk f15 := fun _ _ _ _ _ _ us hl => match us, hl with | [_], _ => rfl
/- 16 _law_fenced_rows -/
def l16_0 : Ss := (.cons (.iff (.cmp .isin (.v 3) (.v 1)) (.cons (.lm .append 2 (.cons (.tup (.cons (.k (.str "fence")) (.cons (.v 3) .nil))) .nil)) .nil) .nil) (.cons (.lm .append 2 (.cons (.tup (.cons (.k (.str "row")) (.cons (.v 3) .nil))) .nil)) .nil))
def c16_1 : E := (.lc [("_law_k", 8)] (.n 8) (.rng (.bi .len (.cons (.p 2) .nil))) (.so (.cmp .eq (.ix (.ix (.p 2) (.v 8)) (.k (.int 1))) (.bin .add (.bin .add (.v 3) (.k (.int 1))) (.ix (.v 6) (.k (.int 2)))))) (.v 8))
def l16_2 : Ss := (.cons (.set 6 false (.ife (.cmp .eq (.v 5) (.k (.str "fence"))) (.tup (.cons (.k (.str "fence")) .nil)) (.ix (.v 0) (.v 3)))) (.cons (.iff (.cmp .eq (.ix (.v 6) (.k (.int 0))) (.k (.str "skip"))) (.cons (.set 7 false (.bin .add c16_1 (.lst (.cons (.bi .len (.cons (.p 2) .nil)) .nil)))) (.cons (.set 6 false (.tup (.cons (.k (.str "skip")) (.cons (.ix (.v 6) (.k (.int 1))) (.cons (.bin .sub (.bin .sub (.ix (.v 7) (.k (.int 0))) (.bm .index (.p 2) (.cons (.tup (.cons (.k (.str "row")) (.cons (.v 3) .nil))) .nil))) (.k (.int 1))) .nil))))) .nil)) .nil) (.cons (.lm .append 4 (.cons (.v 6) .nil)) .nil)))
def b16 : Ss := (.cons (.set 2 true (.lst .nil)) (.cons (.forr (.n 3) (.rng (.bi .len (.cons (.v 0) .nil))) l16_0) (.cons (.set 4 true (.lst .nil)) (.cons (.frz 2) (.cons (.forr (.tt [5, 3]) (.it (.v 2)) l16_2) (.cons (.ret (.bi .tuple (.cons (.p 4) .nil))) .nil))))))
def f16 : FnT := ⟨dd "_law_fenced_rows" none "_law_fenced_rows" "_law_fenced_rows" (top 30), ["_law_rows", "_law_spots", "_law_order", "_law_at", "_law_found", "_law_kind", "_law_row_here", "_law_goals", "_law_k"], ["_law_rows", "_law_spots"], [], b16⟩
theorem o16 : BindOk f16 := fun _ _ _ _ _ _ us hl => match us, hl with | [_, _], _ => rfl
/- 17 _law_fenced -/
def c17_0 : E := (.lc [("_law_thread_here", 5), ("_law_at", 6)] (.tt [5, 6]) (.it (.v 1)) (.so (.cmp .eq (.v 5) (.v 3))) (.v 6))
def l17_1 : Ss := (.cons (.lm .append 2 (.cons (.call 16 (.cons (.v 4) (.cons c17_0 .nil))) .nil)) .nil)
def b17 : Ss := (.cons (.set 2 true (.lst .nil)) (.cons (.forr (.tt [3, 4]) (.enu (.ix (.v 0) (.k (.int 1)))) l17_1) (.cons (.ret (.tup (.cons (.ix (.v 0) (.k (.int 0))) (.cons (.bi .tuple (.cons (.p 2) .nil)) .nil)))) .nil)))
def f17 : FnT := ⟨dd "_law_fenced" none "_law_fenced" "_law_fenced" (top 31), ["_law_plain", "_law_places_here", "_law_found", "_law_t", "_law_rows", "_law_thread_here", "_law_at"], ["_law_plain", "_law_places_here"], [], b17⟩
theorem o17 : BindOk f17 := fun _ _ _ _ _ _ us hl => match us, hl with | [_, _], _ => rfl
/- 18 _law_strewn -/
def l18_0 : Ss := (.cons (.iff (.cmp .lt (.bm .count (.p 5) (.cons (.tup (.cons (.k (.str "fence")) .nil)) .nil)) (.k (.int 5))) (.cons (.lm .insert 5 (.cons (.bin .mod (.call 7 (.cons (.bin .mul (.v 1) (.bin .add (.k (.int 1)) (.bin .mul (.k (.int 2)) (.bin .add (.bin .mul (.k (.int 7)) (.v 3)) (.v 6))))) (.cons (.bin .add (.bin .add (.k (.int 80)) (.bin .mul (.k (.int 7)) (.v 3))) (.v 6)) .nil))) (.bin .add (.bi .len (.cons (.p 5) .nil)) (.k (.int 1)))) (.cons (.tup (.cons (.k (.str "fence")) .nil)) .nil))) .nil) .nil) .nil)
def l18_1 : Ss := (.cons (.set 9 false (.call 7 (.cons (.bin .mul (.v 1) (.bin .add (.k (.int 1)) (.bin .mul (.k (.int 2)) (.bin .add (.bin .mul (.k (.int 11)) (.v 3)) (.v 7))))) (.cons (.bin .add (.bin .add (.k (.int 110)) (.bin .mul (.k (.int 11)) (.v 3))) (.v 7)) .nil)))) (.cons (.iff (.or (.cmp .eq (.ix (.v 8) (.k (.int 0))) (.k (.str "skip"))) (.and (.cmp .eq (.ix (.v 8) (.k (.int 0))) (.k (.str "get"))) (.cmp .eq (.bin .mod (.v 9) (.k (.int 3))) (.k (.int 1))))) (.cons (.seti 5 (.v 7) (.tup (.cons (.k (.str "skip")) (.cons (.ix (.v 8) (.k (.int 1))) (.cons (.bin .mod (.bin .fdiv (.v 9) (.k (.int 3))) (.bi .min2 (.cons (.k (.int 10)) (.cons (.bin .sub (.bi .len (.cons (.p 5) .nil)) (.v 7)) .nil)))) .nil))))) .nil) .nil) .nil))
def l18_2 : Ss := (.cons (.set 5 true (.bi .list (.cons (.v 4) .nil))) (.cons (.forr (.n 6) (.rng (.bin .add (.k (.int 1)) (.bin .mod (.call 7 (.cons (.bin .mul (.v 1) (.bin .add (.k (.int 1)) (.bin .mul (.k (.int 2)) (.v 3)))) (.cons (.bin .add (.k (.int 70)) (.v 3)) .nil))) (.k (.int 4))))) l18_0) (.cons (.forr (.tt [7, 8]) (.enu (.bi .list (.cons (.p 5) .nil))) l18_1) (.cons (.lm .append 2 (.cons (.bi .tuple (.cons (.p 5) .nil)) .nil)) .nil))))
def b18 : Ss := (.cons (.set 2 true (.lst .nil)) (.cons (.forr (.tt [3, 4]) (.enu (.ix (.v 0) (.k (.int 1)))) l18_2) (.cons (.ret (.tup (.cons (.ix (.v 0) (.k (.int 0))) (.cons (.bi .tuple (.cons (.p 2) .nil)) .nil)))) .nil)))
def f18 : FnT := ⟨dd "_law_strewn" none "_law_strewn" "_law_strewn" (top 32), ["_law_plain", "_law_cell", "_law_threads", "_law_t", "_law_rows", "_law_found", "_law_k", "_law_at", "_law_row_here", "_law_more"], ["_law_plain", "_law_cell"], [], b18⟩
theorem o18 : BindOk f18 := fun _ _ _ _ _ _ us hl => match us, hl with | [_, _], _ => rfl
/- 19 _law_all_places -/
def c19_0 : E := (.lc [("_law_at", 4)] (.n 4) (.rng2 (.k (.int 1)) (.bi .len (.cons (.v 3) .nil))) .no (.tup (.cons (.v 2) (.cons (.v 4) .nil))))
def l19_1 : Ss := (.cons (.lm .extend 1 (.cons c19_0 .nil)) .nil)
def b19 : Ss := (.cons (.set 1 true (.lst .nil)) (.cons (.forr (.tt [2, 3]) (.enu (.ix (.v 0) (.k (.int 1)))) l19_1) (.cons (.frz 1) (.cons (.ret (.v 1)) .nil))))
def f19 : FnT := ⟨dd "_law_all_places" none "_law_all_places" "_law_all_places" (top 33), ["_law_plain", "_law_found", "_law_t", "_law_rows", "_law_at"], ["_law_plain"], [], b19⟩
theorem o19 : BindOk f19 := fun _ _ _ _ _ _ us hl => match us, hl with | [_], _ => rfl
/- 20 _law_places -/
def l20_0 : Ss := (.cons (.iff (.cmp .eq (.bin .mod (.call 7 (.cons (.bin .mul (.v 1) (.bin .add (.k (.int 1)) (.bin .mul (.k (.int 2)) (.v 3)))) (.cons (.v 3) .nil))) (.ix (.lst (.cons (.k (.int 2)) (.cons (.k (.int 4)) (.cons (.k (.int 1)) .nil)))) (.bin .mod (.v 1) (.k (.int 3))))) (.k (.int 0))) (.cons (.lm .insert 2 (.cons (.bin .mod (.call 7 (.cons (.bin .mul (.v 1) (.bin .add (.k (.int 3)) (.bin .mul (.k (.int 2)) (.v 3)))) (.cons (.bin .add (.k (.int 50)) (.v 3)) .nil))) (.bin .add (.bi .len (.cons (.p 2) .nil)) (.k (.int 1)))) (.cons (.v 4) .nil))) .nil) .nil) .nil)
def b20 : Ss := (.cons (.set 2 true (.lst .nil)) (.cons (.forr (.tt [3, 4]) (.enu (.call 19 (.cons (.v 0) .nil))) l20_0) (.cons (.frz 2) (.cons (.ret (.v 2)) .nil))))
def f20 : FnT := ⟨dd "_law_places" none "_law_places" "_law_places" (top 34), ["_law_plain", "_law_cell", "_law_found", "_law_k", "_law_place"], ["_law_plain", "_law_cell"], [], b20⟩
theorem o20 : BindOk f20 := fun _ _ _ _ _ _ us hl => match us, hl with | [_, _], _ => rfl
/- 21 _law_is -/
def b21 : Ss := (.cons (.ret (.andN (.isi (.v 0) 6) (.and (.cmp .eq (.meth (.v 0) "plain" .nil) (.v 1)) (.repq (.meth (.v 0) "plain" .nil) (.v 1))))) .nil)
def f21 : FnT := ⟨dd "_law_is" none "_law_is" "_law_is" (top 35), ["_law_found", "_law_due"], ["_law_found", "_law_due"], [], b21⟩
theorem o21 : BindOk f21 := fun _ _ _ _ _ _ us hl => match us, hl with | [_, _], _ => rfl
/- 22 law -/
def b22 : Ss := (.cons (.set 1 false (.call 13 (.cons (.v 0) (.cons (.k (.int 5)) .nil)))) (.cons (.set 2 false (.call 7 (.cons (.bin .add (.call 6 (.cons (.v 0) (.cons (.k (.int 4)) .nil))) (.call 6 (.cons (.v 0) (.cons (.k (.int 30)) .nil)))) (.cons (.k (.int 90)) .nil)))) (.cons (.iff (.cmp .lt (.bin .mod (.v 2) (.k (.int 5))) (.k (.int 3))) (.cons (.set 1 false (.call 18 (.cons (.v 1) (.cons (.bin .fdiv (.v 2) (.k (.int 5))) .nil)))) .nil) .nil) (.cons (.set 3 false (.call 15 (.cons (.v 1) .nil))) (.cons (.set 4 false (.call 1 (.cons (.v 1) .nil))) (.cons (.set 5 false (.call 20 (.cons (.v 3) (.cons (.v 2) .nil)))) (.cons (.set 6 true (.bi .list (.cons (.v 5) .nil))) (.cons (.iff (.or (.nt (.call 21 (.cons (.call 3 (.cons (.v 4) .nil)) (.cons (.v 3) .nil)))) (.nt (.call 21 (.cons (.call 3 (.cons (.call 3 (.cons (.v 4) .nil)) .nil)) (.cons (.v 3) .nil))))) (.cons (.ret (.k (.bl false))) .nil) .nil) (.cons (.set 7 false (.call 17 (.cons (.v 3) (.cons (.v 5) .nil)))) (.cons (.set 8 false (.call 5 (.cons (.v 4) (.cons (.p 6) .nil)))) (.cons (.iff (.or (.nt (.call 21 (.cons (.v 8) (.cons (.v 7) .nil)))) (.cmp .ne (.p 6) (.v 5))) (.cons (.ret (.k (.bl false))) .nil) .nil) (.cons (.lm .clear 6 .nil) (.cons (.iff (.or (.nt (.call 21 (.cons (.v 8) (.cons (.v 7) .nil)))) (.nt (.call 21 (.cons (.call 5 (.cons (.call 3 (.cons (.v 4) .nil)) (.cons (.rev (.v 5)) .nil))) (.cons (.v 7) .nil))))) (.cons (.ret (.k (.bl false))) .nil) .nil) (.cons (.iff (.or (.nt (.call 21 (.cons (.call 5 (.cons (.v 8) (.cons (.v 5) .nil))) (.cons (.v 7) .nil)))) (.nt (.call 21 (.cons (.call 3 (.cons (.v 8) .nil)) (.cons (.v 3) .nil))))) (.cons (.ret (.k (.bl false))) .nil) .nil) (.cons (.frz 6) (.cons (.ret (.and (.call 21 (.cons (.call 5 (.cons (.v 4) (.cons (.v 6) .nil))) (.cons (.v 3) .nil))) (.cmp .eq (.meth (.v 4) "plain" .nil) (.v 1)))) .nil))))))))))))))))
def f22 : FnT := ⟨dd "law" none "law" "law" (top 36), ["_law_script", "_law_plain", "_law_cell", "_law_due", "_law_program_here", "_law_places_here", "_law_handed", "_law_wanted", "_law_found"], ["_law_script"], [], b22⟩
theorem o22 : BindOk f22 := fun _ _ _ _ _ _ us hl => match us, hl with | [_], _ => rfl
/- 23 PutRow.__init__ -/
def b23 : Ss := (.cons (.fset 0 "cell_called" (.v 1)) (.cons (.fset 0 "one" (.v 2)) .nil))
def f23 : FnT := ⟨dd "PutRow" (some "__init__") "__init__" "PutRow.__init__" (inClass (top 3) 0), ["self", "cell_called", "one"], ["self", "cell_called", "one"], [], b23⟩
theorem o23 : BindOk f23 := fun _ _ _ _ _ _ us hl => match us, hl with | [_, _, _], _ => rfl
/- 24 PutRow.plain -/
def b24 : Ss := (.cons (.ret (.tup (.cons (.k (.str "put")) (.cons (.fld (.v 0) "cell_called") (.cons (.fld (.v 0) "one") .nil))))) .nil)
def f24 : FnT := ⟨dd "PutRow" (some "plain") "plain" "PutRow.plain" (inClass (top 3) 1), ["self"], ["self"], [], b24⟩
theorem o24 : BindOk f24 := fun _ _ _ _ _ _ us hl => match us, hl with | [_], _ => rfl
/- 25 GetRow.__init__ -/
def b25 : Ss := (.cons (.fset 0 "box" (.v 1)) (.cons (.fset 0 "cell_called" (.v 2)) .nil))
def f25 : FnT := ⟨dd "GetRow" (some "__init__") "__init__" "GetRow.__init__" (inClass (top 4) 0), ["self", "box", "cell_called"], ["self", "box", "cell_called"], [], b25⟩
theorem o25 : BindOk f25 := fun _ _ _ _ _ _ us hl => match us, hl with | [_, _, _], _ => rfl
/- 26 GetRow.plain -/
def b26 : Ss := (.cons (.ret (.tup (.cons (.k (.str "get")) (.cons (.fld (.v 0) "box") (.cons (.fld (.v 0) "cell_called") .nil))))) .nil)
def f26 : FnT := ⟨dd "GetRow" (some "plain") "plain" "GetRow.plain" (inClass (top 4) 1), ["self"], ["self"], [], b26⟩
theorem o26 : BindOk f26 := fun _ _ _ _ _ _ us hl => match us, hl with | [_], _ => rfl
/- 27 SwapRow.__init__ -/
def b27 : Ss := (.cons (.fset 0 "box" (.v 1)) (.cons (.fset 0 "cell_called" (.v 2)) (.cons (.fset 0 "one" (.v 3)) .nil)))
def f27 : FnT := ⟨dd "SwapRow" (some "__init__") "__init__" "SwapRow.__init__" (inClass (top 5) 0), ["self", "box", "cell_called", "one"], ["self", "box", "cell_called", "one"], [], b27⟩
theorem o27 : BindOk f27 := fun _ _ _ _ _ _ us hl => match us, hl with | [_, _, _, _], _ => rfl
/- 28 SwapRow.plain -/
def b28 : Ss := (.cons (.ret (.tup (.cons (.k (.str "swap")) (.cons (.fld (.v 0) "box") (.cons (.fld (.v 0) "cell_called") (.cons (.fld (.v 0) "one") .nil)))))) .nil)
def f28 : FnT := ⟨dd "SwapRow" (some "plain") "plain" "SwapRow.plain" (inClass (top 5) 1), ["self"], ["self"], [], b28⟩
theorem o28 : BindOk f28 := fun _ _ _ _ _ _ us hl => match us, hl with | [_], _ => rfl
/- 29 AddRow.__init__ -/
def b29 : Ss := (.cons (.fset 0 "box" (.v 1)) (.cons (.fset 0 "one" (.v 2)) (.cons (.fset 0 "other" (.v 3)) .nil)))
def f29 : FnT := ⟨dd "AddRow" (some "__init__") "__init__" "AddRow.__init__" (inClass (top 6) 0), ["self", "box", "one", "other"], ["self", "box", "one", "other"], [], b29⟩
theorem o29 : BindOk f29 := fun _ _ _ _ _ _ us hl => match us, hl with | [_, _, _, _], _ => rfl
/- 30 AddRow.plain -/
def b30 : Ss := (.cons (.ret (.tup (.cons (.k (.str "add")) (.cons (.fld (.v 0) "box") (.cons (.fld (.v 0) "one") (.cons (.fld (.v 0) "other") .nil)))))) .nil)
def f30 : FnT := ⟨dd "AddRow" (some "plain") "plain" "AddRow.plain" (inClass (top 6) 1), ["self"], ["self"], [], b30⟩
theorem o30 : BindOk f30 := fun _ _ _ _ _ _ us hl => match us, hl with | [_], _ => rfl
/- 31 SkipRow.__init__ -/
def b31 : Ss := (.cons (.fset 0 "box" (.v 1)) (.cons (.fset 0 "many" (.v 2)) .nil))
def f31 : FnT := ⟨dd "SkipRow" (some "__init__") "__init__" "SkipRow.__init__" (inClass (top 7) 0), ["self", "box", "many"], ["self", "box", "many"], [], b31⟩
theorem o31 : BindOk f31 := fun _ _ _ _ _ _ us hl => match us, hl with | [_, _, _], _ => rfl
/- 32 SkipRow.plain -/
def b32 : Ss := (.cons (.ret (.tup (.cons (.k (.str "skip")) (.cons (.fld (.v 0) "box") (.cons (.fld (.v 0) "many") .nil))))) .nil)
def f32 : FnT := ⟨dd "SkipRow" (some "plain") "plain" "SkipRow.plain" (inClass (top 7) 1), ["self"], ["self"], [], b32⟩
theorem o32 : BindOk f32 := fun _ _ _ _ _ _ us hl => match us, hl with | [_], _ => rfl
/- 33 FenceRow.plain -/
def b33 : Ss := (.cons (.ret (.tup (.cons (.k (.str "fence")) .nil))) .nil)
def f33 : FnT := ⟨dd "FenceRow" (some "plain") "plain" "FenceRow.plain" (inClass (top 8) 0), ["self"], ["self"], [], b33⟩
theorem o33 : BindOk f33 := fun _ _ _ _ _ _ us hl => match us, hl with | [_], _ => rfl
/- 34 Program.__init__ -/
def c34_0 : E := (.lc [("rows", 3)] (.n 3) (.it (.v 2)) .no (.bi .list (.cons (.v 3) .nil)))
def b34 : Ss := (.cons (.fset 0 "cells_told" (.bi .tuple (.cons (.v 1) .nil))) (.cons (.fset 0 "threads_told" c34_0) .nil))
def f34 : FnT := ⟨dd "Program" (some "__init__") "__init__" "Program.__init__" (inClass (top 9) 0), ["self", "cells_told", "threads_told", "rows"], ["self", "cells_told", "threads_told"], [], b34⟩
theorem o34 : BindOk f34 := fun _ _ _ _ _ _ us hl => match us, hl with | [_, _, _], _ => rfl
/- 35 Program.plain -/
def c35_0 : E := (.lc [("row", 1)] (.n 1) (.it (.v 2)) .no (.meth (.v 1) "plain" .nil))
def c35_1 : E := (.lc [("rows", 2)] (.n 2) (.it (.fld (.v 0) "threads_told")) .no (.bi .tuple (.cons c35_0 .nil)))
def b35 : Ss := (.cons (.ret (.tup (.cons (.fld (.v 0) "cells_told") (.cons (.bi .tuple (.cons c35_1 .nil)) .nil)))) .nil)
def f35 : FnT := ⟨dd "Program" (some "plain") "plain" "Program.plain" (inClass (top 9) 1), ["self", "row", "rows"], ["self"], [], b35⟩
theorem o35 : BindOk f35 := fun _ _ _ _ _ _ us hl => match us, hl with | [_], _ => rfl
/- 36 Program.rows -/
def b36 : Ss := (.cons (.ret (.bi .list (.cons (.ix (.fld (.v 0) "threads_told") (.v 1)) .nil))) .nil)
def f36 : FnT := ⟨dd "Program" (some "rows") "rows" "Program.rows" (inClass (top 9) 3), ["self", "thread"], ["self", "thread"], [], b36⟩
theorem o36 : BindOk f36 := fun _ _ _ _ _ _ us hl => match us, hl with | [_, _], _ => rfl
def tFn : List FnT := [f0, f1, f2, f3, f4, f5, f6, f7, f8, f9, f10, f11, f12, f13, f14, f15, f16, f17, f18, f19, f20, f21, f22, f23, f24, f25, f26, f27, f28, f29, f30, f31, f32, f33, f34, f35, f36]
def tab : Tab := ⟨tFn, [⟨"PutRow", ["cell_called", "one"], some 23, [("plain", 24)], false⟩,
  ⟨"GetRow", ["box", "cell_called"], some 25, [("plain", 26)], false⟩,
  ⟨"SwapRow", ["box", "cell_called", "one"], some 27, [("plain", 28)], false⟩,
  ⟨"AddRow", ["box", "one", "other"], some 29, [("plain", 30)], false⟩,
  ⟨"SkipRow", ["box", "many"], some 31, [("plain", 32)], false⟩,
  ⟨"FenceRow", [], none, [("plain", 33)], false⟩,
  ⟨"Program", ["cells_told", "threads_told"], some 34, [("plain", 35), ("rows", 36)], true⟩], [("FENCE", .tup ["fence"])]⟩
theorem bOk : Fe.AllP BindOk tFn := ⟨o0, o1, o2, o3, o4, o5, o6, o7, o8, o9, o10, o11, o12, o13, o14, o15, o16, o17, o18, o19, o20, o21, o22, o23, o24, o25, o26, o27, o28, o29, o30, o31, o32, o33, o34, o35, o36, trivial⟩
def nm0 : List PySem.Str := ["_wall", "Row", "PutRow", "GetRow", "SwapRow", "AddRow", "SkipRow", "FenceRow", "Program", "row_of", "program_of", "FENCE", "bare_rows", "bare", "fenced_rows", "fenced", "_law_cell_at", "_law_mixed", "_law_names", "_law_shape", "_law_shaped", "_law_row", "_law_thread", "_law_program", "_law_bare_rows", "_law_bare", "_law_fenced_rows", "_law_fenced", "_law_strewn", "_law_all_places"]
def nm1 : List PySem.Str := ["_law_places", "_law_is"]
def names : List PySem.Str := nm0 ++ nm1
def lawI : Nat := 22
abbrev R : PySem.W.OpenRow := PySem.W.OpenLaw.row PySem.Challenge.rw_fencerow_k60_bare_and_fenced
end Tx

set_option Elab.async false
set_option linter.all false
set_option maxRecDepth 100000
set_option maxHeartbeats 0
namespace Tx
open PySem PySem.Spec PyProof.Rows L2 Fe
theorem sOk : tab.sB = true := by kernel_rfl
end Tx

set_option Elab.async false
set_option linter.all false
set_option autoImplicit false
set_option maxRecDepth 100000
set_option maxHeartbeats 4000000
namespace Tx
open PySem Fe
theorem fnS (k i : Nat) (ts : List T) : (tab.pg (k + 1)).fn i ts = tab.fnO (tab.pg k) i ts := by cases k <;> rfl
theorem iniS (k q : Nat) (ts : List T) : (tab.pg (k + 2)).ini q ts = tab.inO (tab.pg k) q ts := rfl
theorem mthS (k q : Nat) (m : Str) : (tab.pg k).mth q m = (tab.cls[q]?).bind fun d => d.ms.lookup m := by
  cases k with
  | zero => rfl
  | succ k => cases k <;> rfl
theorem glS (k j : Nat) : (tab.pg k).gl j = (tab.gls[j]?).map fun g => g.2.t := by
  cases k with
  | zero => rfl
  | succ k => cases k <;> rfl
theorem flS (k : Nat) : (tab.pg k).fl = tab.fl := by
  cases k with
  | zero => rfl
  | succ k => cases k <;> rfl
def cellAt (ns : List Int) (k : Nat) : Int := ns[k]?.getD 0
theorem atI_nat {α : Type} (l : List α) (k : Nat) : L2.atI l (k : Int) = l[k]? := by
  unfold L2.atI L2.ixN
  rw [if_pos (by omega)]
  by_cases h : (k : Int) < l.length
  · rw [if_pos h]; simp
  · rw [if_neg h, List.getElem?_eq_none (by omega)]; rfl
theorem cell_at (k : Nat) (ns : List Int) (j : Nat) : (tab.pg (k + 1)).fn 6 [.scr ns, .int (j : Int)] = some (.int (cellAt ns j)) := by
  rw [fnS]
  show outT (b6.ev (tab.pg k) [.fz (.scr ns), .fz (.int (j : Int))]) = _
  by_cases h : j < ns.length
  · have h' : (j : Int) < (ns.length : Int) := by omega
    simp [b6, Ss.ev, S.ev, E.ev, Es.ev, slV, Bi.ap, COp.ap, T.tru, ixT, outT, h', cellAt, atI_nat, List.getElem?_eq_getElem h]
  · have h' : ¬ (j : Int) < (ns.length : Int) := by omega
    simp [b6, Ss.ev, S.ev, E.ev, Es.ev, slV, Bi.ap, COp.ap, T.tru, ixT, outT, h', cellAt, List.getElem?_eq_none (Nat.le_of_not_lt h)]
def mixed (c k : Int) : Int := (c * 48271 % 2147483647 + 7919 * k * k + 104729 * k) * 69621 % 2147483629 / 7
theorem inMulR {i j : Int} (h : -(2 ^ 64) < j ∧ j < 2 ^ 64) : inMul i j = true := by
  unfold inMul
  simp only [Bool.or_eq_true, Bool.and_eq_true, decide_eq_true_eq]
  first | exact .inr h | exact .inl h
theorem inMulL {i j : Int} (h : -(2 ^ 64) < i ∧ i < 2 ^ 64) : inMul i j = true := by
  unfold inMul
  simp only [Bool.or_eq_true, Bool.and_eq_true, decide_eq_true_eq]
  first | exact .inr h | exact .inl h
theorem mixed_ok (n : Nat) (c k : Int) (hk : 0 ≤ k ∧ k < 100000) : (tab.pg (n + 1)).fn 7 [.int c, .int k] = some (.int (mixed c k)) := by
  rw [fnS]
  show outT (b7.ev (tab.pg n) [.fz (.int c), .fz (.int k)]) = _
  have m1 : inMul c 48271 = true := inMulR (by decide)
  have m2 : inMul 7919 k = true := inMulL (by decide)
  have m3 : inMul (7919 * k) k = true := inMulR (by omega)
  have m4 : inMul 104729 k = true := inMulL (by decide)
  have m5 : ∀ x, inMul x 69621 = true := fun x => inMulR (by decide)
  simp [b7, Ss.ev, S.ev, E.ev, Es.ev, slV, BOp.ap, outT, m1, m2, m3, m4, m5, mixed]
theorem mixed_lo (c k : Int) : 0 ≤ mixed c k ∧ mixed c k < 306783376 := by
  unfold mixed
  omega
end Tx

set_option Elab.async false
set_option linter.all false
set_option autoImplicit false
set_option maxRecDepth 100000
set_option maxHeartbeats 4000000
namespace Tx
open PySem Fe
inductive Vl where
  | i (n : Int) | s (z : Str)
def Vl.t : Vl → T
  | .i n => .int n
  | .s z => .str z
inductive Rw where
  | put (c : Str) (v : Vl) | get (b c : Str) | swap (b c : Str) (v : Vl) | add (b : Str) (v w : Vl) | skip (b : Str) (n : Nat) | fence
/-- a row as a tuple -/
def Rw.t : Rw → T
  | .put c v => .tup [.str "put", .str c, v.t]
  | .get b c => .tup [.str "get", .str b, .str c]
  | .swap b c v => .tup [.str "swap", .str b, .str c, v.t]
  | .add b v w => .tup [.str "add", .str b, v.t, w.t]
  | .skip b n => .tup [.str "skip", .str b, .int n]
  | .fence => .tup [.str "fence"]
/-- a row as an object -/
def Rw.o : Rw → T
  | .put c v => .obj 0 [.str c, v.t]
  | .get b c => .obj 1 [.str b, .str c]
  | .swap b c v => .obj 2 [.str b, .str c, v.t]
  | .add b v w => .obj 3 [.str b, v.t, w.t]
  | .skip b n => .obj 4 [.str b, .int n]
  | .fence => .obj 5 []
structure Pl where
  cells : List (Str × Int)
  ths : List (List Rw)
def celT (l : List (Str × Int)) : List T := l.map fun p => .tup [.str p.1, .int p.2]
def thsT (l : List (List Rw)) : List T := l.map fun r => .tup (r.map Rw.t)
def Pl.t (p : Pl) : T := .tup [.tup (celT p.cells), .tup (thsT p.ths)]
def Pl.o (p : Pl) : T := .obj 6 [.tup (celT p.cells), .lst (p.ths.map fun r => .lst (r.map Rw.o))]
/-! words -/
theorem w_put_put : (Str.ofString "put" == Str.ofString "put") = true := by decide +kernel
theorem w_put_get : (Str.ofString "put" == Str.ofString "get") = false := by decide +kernel
theorem w_put_swap : (Str.ofString "put" == Str.ofString "swap") = false := by decide +kernel
theorem w_put_add : (Str.ofString "put" == Str.ofString "add") = false := by decide +kernel
theorem w_put_skip : (Str.ofString "put" == Str.ofString "skip") = false := by decide +kernel
theorem w_put_fence : (Str.ofString "put" == Str.ofString "fence") = false := by decide +kernel
theorem w_put_row : (Str.ofString "put" == Str.ofString "row") = false := by decide +kernel
theorem w_get_put : (Str.ofString "get" == Str.ofString "put") = false := by decide +kernel
theorem w_get_get : (Str.ofString "get" == Str.ofString "get") = true := by decide +kernel
theorem w_get_swap : (Str.ofString "get" == Str.ofString "swap") = false := by decide +kernel
theorem w_get_add : (Str.ofString "get" == Str.ofString "add") = false := by decide +kernel
theorem w_get_skip : (Str.ofString "get" == Str.ofString "skip") = false := by decide +kernel
theorem w_get_fence : (Str.ofString "get" == Str.ofString "fence") = false := by decide +kernel
theorem w_get_row : (Str.ofString "get" == Str.ofString "row") = false := by decide +kernel
theorem w_swap_put : (Str.ofString "swap" == Str.ofString "put") = false := by decide +kernel
theorem w_swap_get : (Str.ofString "swap" == Str.ofString "get") = false := by decide +kernel
theorem w_swap_swap : (Str.ofString "swap" == Str.ofString "swap") = true := by decide +kernel
theorem w_swap_add : (Str.ofString "swap" == Str.ofString "add") = false := by decide +kernel
theorem w_swap_skip : (Str.ofString "swap" == Str.ofString "skip") = false := by decide +kernel
theorem w_swap_fence : (Str.ofString "swap" == Str.ofString "fence") = false := by decide +kernel
theorem w_swap_row : (Str.ofString "swap" == Str.ofString "row") = false := by decide +kernel
theorem w_add_put : (Str.ofString "add" == Str.ofString "put") = false := by decide +kernel
theorem w_add_get : (Str.ofString "add" == Str.ofString "get") = false := by decide +kernel
theorem w_add_swap : (Str.ofString "add" == Str.ofString "swap") = false := by decide +kernel
theorem w_add_add : (Str.ofString "add" == Str.ofString "add") = true := by decide +kernel
theorem w_add_skip : (Str.ofString "add" == Str.ofString "skip") = false := by decide +kernel
theorem w_add_fence : (Str.ofString "add" == Str.ofString "fence") = false := by decide +kernel
theorem w_add_row : (Str.ofString "add" == Str.ofString "row") = false := by decide +kernel
theorem w_skip_put : (Str.ofString "skip" == Str.ofString "put") = false := by decide +kernel
theorem w_skip_get : (Str.ofString "skip" == Str.ofString "get") = false := by decide +kernel
theorem w_skip_swap : (Str.ofString "skip" == Str.ofString "swap") = false := by decide +kernel
theorem w_skip_add : (Str.ofString "skip" == Str.ofString "add") = false := by decide +kernel
theorem w_skip_skip : (Str.ofString "skip" == Str.ofString "skip") = true := by decide +kernel
theorem w_skip_fence : (Str.ofString "skip" == Str.ofString "fence") = false := by decide +kernel
theorem w_skip_row : (Str.ofString "skip" == Str.ofString "row") = false := by decide +kernel
theorem w_fence_put : (Str.ofString "fence" == Str.ofString "put") = false := by decide +kernel
theorem w_fence_get : (Str.ofString "fence" == Str.ofString "get") = false := by decide +kernel
theorem w_fence_swap : (Str.ofString "fence" == Str.ofString "swap") = false := by decide +kernel
theorem w_fence_add : (Str.ofString "fence" == Str.ofString "add") = false := by decide +kernel
theorem w_fence_skip : (Str.ofString "fence" == Str.ofString "skip") = false := by decide +kernel
theorem w_fence_fence : (Str.ofString "fence" == Str.ofString "fence") = true := by decide +kernel
theorem w_fence_row : (Str.ofString "fence" == Str.ofString "row") = false := by decide +kernel
theorem w_row_put : (Str.ofString "row" == Str.ofString "put") = false := by decide +kernel
theorem w_row_get : (Str.ofString "row" == Str.ofString "get") = false := by decide +kernel
theorem w_row_swap : (Str.ofString "row" == Str.ofString "swap") = false := by decide +kernel
theorem w_row_add : (Str.ofString "row" == Str.ofString "add") = false := by decide +kernel
theorem w_row_skip : (Str.ofString "row" == Str.ofString "skip") = false := by decide +kernel
theorem w_row_fence : (Str.ofString "row" == Str.ofString "fence") = false := by decide +kernel
theorem w_row_row : (Str.ofString "row" == Str.ofString "row") = true := by decide +kernel
section
variable {k : Nat}
theorem eqS (a b : Str) : COp.ap .eq (.str a) (.str b) = some (.bl (a == b)) := by
  simp [COp.ap, eqOk, T.dep, T.eqv, T.toD, PyData.eqv]
theorem atI0 {α : Type} (a : α) (l : List α) : L2.atI (a :: l) 0 = some a := atI_nat (a :: l) 0
theorem atI1 {α : Type} (a b : α) (l : List α) : L2.atI (a :: b :: l) 1 = some b := atI_nat (a :: b :: l) 1
theorem atI2 {α : Type} (a b c : α) (l : List α) : L2.atI (a :: b :: c :: l) 2 = some c := atI_nat (a :: b :: c :: l) 2
theorem atI3 {α : Type} (a b c d : α) (l : List α) : L2.atI (a :: b :: c :: d :: l) 3 = some d := atI_nat (a :: b :: c :: d :: l) 3
theorem fl0 : tab.fl 0 = (["cell_called", "one"] : List Str) := rfl
theorem fl1 : tab.fl 1 = (["box", "cell_called"] : List Str) := rfl
theorem fl2 : tab.fl 2 = (["box", "cell_called", "one"] : List Str) := rfl
theorem fl3 : tab.fl 3 = (["box", "one", "other"] : List Str) := rfl
theorem fl4 : tab.fl 4 = (["box", "many"] : List Str) := rfl
theorem fl5 : tab.fl 5 = [] := rfl
theorem fl6 : tab.fl 6 = (["cells_told", "threads_told"] : List Str) := rfl
theorem ini0 (a b : T) : (tab.pg (k + 2)).ini 0 [a, b] = some [a, b] := by
  rw [iniS]
  show outI 0 ((tab.pg k).fl 0).length (b23.ev (tab.pg k) [.nw 0 [], .fz a, .fz b]) = _
  rw [flS]
  simp [b23, Ss.ev, S.ev, E.ev, slV, fsetT, flS, fl0, fl1, fl2, fl3, fl4, outI, outN]
theorem ini1 (a b : T) : (tab.pg (k + 2)).ini 1 [a, b] = some [a, b] := by
  rw [iniS]
  show outI 1 ((tab.pg k).fl 1).length (b25.ev (tab.pg k) [.nw 1 [], .fz a, .fz b]) = _
  rw [flS]
  simp [b25, Ss.ev, S.ev, E.ev, slV, fsetT, flS, fl0, fl1, fl2, fl3, fl4, outI, outN]
theorem ini2 (a b c : T) : (tab.pg (k + 2)).ini 2 [a, b, c] = some [a, b, c] := by
  rw [iniS]
  show outI 2 ((tab.pg k).fl 2).length (b27.ev (tab.pg k) [.nw 2 [], .fz a, .fz b, .fz c]) = _
  rw [flS]
  simp [b27, Ss.ev, S.ev, E.ev, slV, fsetT, flS, fl0, fl1, fl2, fl3, fl4, outI, outN]
theorem ini3 (a b c : T) : (tab.pg (k + 2)).ini 3 [a, b, c] = some [a, b, c] := by
  rw [iniS]
  show outI 3 ((tab.pg k).fl 3).length (b29.ev (tab.pg k) [.nw 3 [], .fz a, .fz b, .fz c]) = _
  rw [flS]
  simp [b29, Ss.ev, S.ev, E.ev, slV, fsetT, flS, fl0, fl1, fl2, fl3, fl4, outI, outN]
theorem ini4 (a b : T) : (tab.pg (k + 2)).ini 4 [a, b] = some [a, b] := by
  rw [iniS]
  show outI 4 ((tab.pg k).fl 4).length (b31.ev (tab.pg k) [.nw 4 [], .fz a, .fz b]) = _
  rw [flS]
  simp [b31, Ss.ev, S.ev, E.ev, slV, fsetT, flS, fl0, fl1, fl2, fl3, fl4, outI, outN]
theorem ini5 : (tab.pg (k + 2)).ini 5 [] = some [] := by
  rw [iniS]
  rfl
theorem row_of (r : Rw) : (tab.pg (k + 3)).fn 0 [r.t] = some r.o := by
  rw [fnS]
  show outT (b0.ev (tab.pg (k + 2)) [.fz r.t, .no]) = _
  cases r <;> simp [b0, Ss.ev, S.ev.eq_1, S.ev.eq_2, S.ev.eq_3, S.ev.eq_4, S.ev.eq_5, S.ev.eq_6, S.ev.eq_7, S.ev.eq_10, S.ev.eq_11, S.ev.eq_12, S.ev.eq_13, S.ev.eq_14, S.ev.eq_15, S.ev.eq_16, S.ev.eq_17, S.ev.eq_18, S.ev.eq_19, S.ev.eq_20, E.ev.eq_1, E.ev.eq_2, E.ev.eq_3, E.ev.eq_4, E.ev.eq_5, E.ev.eq_6, E.ev.eq_7, E.ev.eq_8, E.ev.eq_9, E.ev.eq_10, E.ev.eq_11, E.ev.eq_12, E.ev.eq_13, E.ev.eq_14, E.ev.eq_15, E.ev.eq_16, E.ev.eq_17, E.ev.eq_18, E.ev.eq_19, E.ev.eq_20, E.ev.eq_21, E.ev.eq_22, E.ev.eq_23, E.ev.eq_24, E.ev.eq_25, E.ev.eq_26, E.ev.eq_28, E.ev.eq_29, Es.ev, It.ev, Op.ev, Op.tst, slV, slP, ownS, ixT, T.tru, outT, w_put_put, w_put_get, w_put_swap, w_put_add, w_put_skip, w_put_fence, w_put_row, w_get_put, w_get_get, w_get_swap, w_get_add, w_get_skip, w_get_fence, w_get_row, w_swap_put, w_swap_get, w_swap_swap, w_swap_add, w_swap_skip, w_swap_fence, w_swap_row, w_add_put, w_add_get, w_add_swap, w_add_add, w_add_skip, w_add_fence, w_add_row, w_skip_put, w_skip_get, w_skip_swap, w_skip_add, w_skip_skip, w_skip_fence, w_skip_row, w_fence_put, w_fence_get, w_fence_swap, w_fence_add, w_fence_skip, w_fence_fence, w_fence_row, w_row_put, w_row_get, w_row_swap, w_row_add, w_row_skip, w_row_fence, w_row_row, Rw.t, atI0, atI1, atI2, atI3, eqS, ini0, ini1, ini2, ini3, ini4, ini5, Rw.o]
end
end Tx

set_option Elab.async false
set_option linter.all false
set_option autoImplicit false
set_option maxRecDepth 100000
set_option maxHeartbeats 4000000
namespace Tx
open PySem Fe
section
variable {k : Nat}
theorem c34 (l : List (List T)) (s : Sl) (cs : T) : c34_0.ev (tab.pg k) [s, .fz cs, .fz (.lst (l.map .lst)), .no] = some (.lst (l.map .lst)) :=
  ev_lcB l .lst .lst rfl fun t _ => ⟨_, rfl, rfl, rfl⟩
theorem ini6 (cs : List T) (l : List (List T)) : (tab.pg (k + 2)).ini 6 [.tup cs, .lst (l.map .lst)] = some [.tup cs, .lst (l.map .lst)] := by
  rw [iniS]
  show outI 6 ((tab.pg k).fl 6).length (b34.ev (tab.pg k) [.nw 6 [], .fz (.tup cs), .fz (.lst (l.map .lst)), .no]) = _
  rw [flS]
  simp [b34, Ss.ev, S.ev.eq_1, S.ev.eq_2, S.ev.eq_3, S.ev.eq_4, S.ev.eq_5, S.ev.eq_6, S.ev.eq_7, S.ev.eq_10, S.ev.eq_11, S.ev.eq_12, S.ev.eq_13, S.ev.eq_14, S.ev.eq_15, S.ev.eq_16, S.ev.eq_17, S.ev.eq_18, S.ev.eq_19, S.ev.eq_20, E.ev.eq_1, E.ev.eq_2, E.ev.eq_3, E.ev.eq_4, E.ev.eq_5, E.ev.eq_6, E.ev.eq_7, E.ev.eq_8, E.ev.eq_9, E.ev.eq_10, E.ev.eq_11, E.ev.eq_12, E.ev.eq_13, E.ev.eq_14, E.ev.eq_15, E.ev.eq_16, E.ev.eq_17, E.ev.eq_18, E.ev.eq_19, E.ev.eq_20, E.ev.eq_21, E.ev.eq_22, E.ev.eq_23, E.ev.eq_24, E.ev.eq_25, E.ev.eq_26, E.ev.eq_28, E.ev.eq_29, Es.ev, It.ev, Op.ev, Op.tst, slV, slP, ownS, ixT, T.tru, outT, c34, Bi.ap, fsetT, flS, fl6, outI, outN]
theorem m24 : (tab.pg k).mth 0 "plain" = some 24 := by rw [mthS]; rfl
theorem m26 : (tab.pg k).mth 1 "plain" = some 26 := by rw [mthS]; rfl
theorem m28 : (tab.pg k).mth 2 "plain" = some 28 := by rw [mthS]; rfl
theorem m30 : (tab.pg k).mth 3 "plain" = some 30 := by rw [mthS]; rfl
theorem m32 : (tab.pg k).mth 4 "plain" = some 32 := by rw [mthS]; rfl
theorem m33 : (tab.pg k).mth 5 "plain" = some 33 := by rw [mthS]; rfl
theorem m35 : (tab.pg k).mth 6 "plain" = some 35 := by rw [mthS]; rfl
theorem row_plain (r : Rw) : methT (tab.pg (k + 1)) "plain" [] r.o = some r.t := by
  cases r <;> simp only [Rw.o, methT, m24, m26, m28, m30, m32, m33, Option.bind_some, fnS]
  · show outT (b24.ev (tab.pg k) [.fz (.obj 0 _)]) = _
    simp only [b24, Ss.ev, S.ev.eq_1, S.ev.eq_2, S.ev.eq_3, S.ev.eq_4, S.ev.eq_5, S.ev.eq_6, S.ev.eq_7, S.ev.eq_10, S.ev.eq_11, S.ev.eq_12, S.ev.eq_13, S.ev.eq_14, S.ev.eq_15, S.ev.eq_16, S.ev.eq_17, S.ev.eq_18, S.ev.eq_19, S.ev.eq_20, E.ev.eq_1, E.ev.eq_2, E.ev.eq_3, E.ev.eq_4, E.ev.eq_5, E.ev.eq_6, E.ev.eq_7, E.ev.eq_8, E.ev.eq_9, E.ev.eq_10, E.ev.eq_11, E.ev.eq_12, E.ev.eq_13, E.ev.eq_14, E.ev.eq_15, E.ev.eq_16, E.ev.eq_17, E.ev.eq_18, E.ev.eq_19, E.ev.eq_20, E.ev.eq_21, E.ev.eq_22, E.ev.eq_23, E.ev.eq_24, E.ev.eq_25, E.ev.eq_26, E.ev.eq_28, E.ev.eq_29, Es.ev, It.ev, Op.ev, Op.tst, slV, slP, ownS, ixT, T.tru, outT, flS]; rfl
  · show outT (b26.ev (tab.pg k) [.fz (.obj 1 _)]) = _
    simp only [b26, Ss.ev, S.ev.eq_1, S.ev.eq_2, S.ev.eq_3, S.ev.eq_4, S.ev.eq_5, S.ev.eq_6, S.ev.eq_7, S.ev.eq_10, S.ev.eq_11, S.ev.eq_12, S.ev.eq_13, S.ev.eq_14, S.ev.eq_15, S.ev.eq_16, S.ev.eq_17, S.ev.eq_18, S.ev.eq_19, S.ev.eq_20, E.ev.eq_1, E.ev.eq_2, E.ev.eq_3, E.ev.eq_4, E.ev.eq_5, E.ev.eq_6, E.ev.eq_7, E.ev.eq_8, E.ev.eq_9, E.ev.eq_10, E.ev.eq_11, E.ev.eq_12, E.ev.eq_13, E.ev.eq_14, E.ev.eq_15, E.ev.eq_16, E.ev.eq_17, E.ev.eq_18, E.ev.eq_19, E.ev.eq_20, E.ev.eq_21, E.ev.eq_22, E.ev.eq_23, E.ev.eq_24, E.ev.eq_25, E.ev.eq_26, E.ev.eq_28, E.ev.eq_29, Es.ev, It.ev, Op.ev, Op.tst, slV, slP, ownS, ixT, T.tru, outT, flS]; rfl
  · show outT (b28.ev (tab.pg k) [.fz (.obj 2 _)]) = _
    simp only [b28, Ss.ev, S.ev.eq_1, S.ev.eq_2, S.ev.eq_3, S.ev.eq_4, S.ev.eq_5, S.ev.eq_6, S.ev.eq_7, S.ev.eq_10, S.ev.eq_11, S.ev.eq_12, S.ev.eq_13, S.ev.eq_14, S.ev.eq_15, S.ev.eq_16, S.ev.eq_17, S.ev.eq_18, S.ev.eq_19, S.ev.eq_20, E.ev.eq_1, E.ev.eq_2, E.ev.eq_3, E.ev.eq_4, E.ev.eq_5, E.ev.eq_6, E.ev.eq_7, E.ev.eq_8, E.ev.eq_9, E.ev.eq_10, E.ev.eq_11, E.ev.eq_12, E.ev.eq_13, E.ev.eq_14, E.ev.eq_15, E.ev.eq_16, E.ev.eq_17, E.ev.eq_18, E.ev.eq_19, E.ev.eq_20, E.ev.eq_21, E.ev.eq_22, E.ev.eq_23, E.ev.eq_24, E.ev.eq_25, E.ev.eq_26, E.ev.eq_28, E.ev.eq_29, Es.ev, It.ev, Op.ev, Op.tst, slV, slP, ownS, ixT, T.tru, outT, flS]; rfl
  · show outT (b30.ev (tab.pg k) [.fz (.obj 3 _)]) = _
    simp only [b30, Ss.ev, S.ev.eq_1, S.ev.eq_2, S.ev.eq_3, S.ev.eq_4, S.ev.eq_5, S.ev.eq_6, S.ev.eq_7, S.ev.eq_10, S.ev.eq_11, S.ev.eq_12, S.ev.eq_13, S.ev.eq_14, S.ev.eq_15, S.ev.eq_16, S.ev.eq_17, S.ev.eq_18, S.ev.eq_19, S.ev.eq_20, E.ev.eq_1, E.ev.eq_2, E.ev.eq_3, E.ev.eq_4, E.ev.eq_5, E.ev.eq_6, E.ev.eq_7, E.ev.eq_8, E.ev.eq_9, E.ev.eq_10, E.ev.eq_11, E.ev.eq_12, E.ev.eq_13, E.ev.eq_14, E.ev.eq_15, E.ev.eq_16, E.ev.eq_17, E.ev.eq_18, E.ev.eq_19, E.ev.eq_20, E.ev.eq_21, E.ev.eq_22, E.ev.eq_23, E.ev.eq_24, E.ev.eq_25, E.ev.eq_26, E.ev.eq_28, E.ev.eq_29, Es.ev, It.ev, Op.ev, Op.tst, slV, slP, ownS, ixT, T.tru, outT, flS]; rfl
  · show outT (b32.ev (tab.pg k) [.fz (.obj 4 _)]) = _
    simp only [b32, Ss.ev, S.ev.eq_1, S.ev.eq_2, S.ev.eq_3, S.ev.eq_4, S.ev.eq_5, S.ev.eq_6, S.ev.eq_7, S.ev.eq_10, S.ev.eq_11, S.ev.eq_12, S.ev.eq_13, S.ev.eq_14, S.ev.eq_15, S.ev.eq_16, S.ev.eq_17, S.ev.eq_18, S.ev.eq_19, S.ev.eq_20, E.ev.eq_1, E.ev.eq_2, E.ev.eq_3, E.ev.eq_4, E.ev.eq_5, E.ev.eq_6, E.ev.eq_7, E.ev.eq_8, E.ev.eq_9, E.ev.eq_10, E.ev.eq_11, E.ev.eq_12, E.ev.eq_13, E.ev.eq_14, E.ev.eq_15, E.ev.eq_16, E.ev.eq_17, E.ev.eq_18, E.ev.eq_19, E.ev.eq_20, E.ev.eq_21, E.ev.eq_22, E.ev.eq_23, E.ev.eq_24, E.ev.eq_25, E.ev.eq_26, E.ev.eq_28, E.ev.eq_29, Es.ev, It.ev, Op.ev, Op.tst, slV, slP, ownS, ixT, T.tru, outT, flS]; rfl
  · rfl
theorem c1b (rs : List Rw) (s0 s1 s2 : Sl) : c1_0.ev (tab.pg (k + 3)) [s0, s1, s2, .no, .fz (.tup (rs.map Rw.t))] = some (.lst (rs.map Rw.o)) := by
  refine ev_lcB rs Rw.t Rw.o rfl fun r _ => ⟨_, rfl, rfl, ?_⟩
  simp only [Ss.ev, S.ev.eq_1, S.ev.eq_2, S.ev.eq_3, S.ev.eq_4, S.ev.eq_5, S.ev.eq_6, S.ev.eq_7, S.ev.eq_10, S.ev.eq_11, S.ev.eq_12, S.ev.eq_13, S.ev.eq_14, S.ev.eq_15, S.ev.eq_16, S.ev.eq_17, S.ev.eq_18, S.ev.eq_19, S.ev.eq_20, E.ev.eq_1, E.ev.eq_2, E.ev.eq_3, E.ev.eq_4, E.ev.eq_5, E.ev.eq_6, E.ev.eq_7, E.ev.eq_8, E.ev.eq_9, E.ev.eq_10, E.ev.eq_11, E.ev.eq_12, E.ev.eq_13, E.ev.eq_14, E.ev.eq_15, E.ev.eq_16, E.ev.eq_17, E.ev.eq_18, E.ev.eq_19, E.ev.eq_20, E.ev.eq_21, E.ev.eq_22, E.ev.eq_23, E.ev.eq_24, E.ev.eq_25, E.ev.eq_26, E.ev.eq_28, E.ev.eq_29, Es.ev, It.ev, Op.ev, Op.tst, slV, slP, ownS, ixT, T.tru, outT, Option.bind_some, Option.map_some]
  exact row_of r
theorem c1a (l : List (List Rw)) (s0 s1 : Sl) : c1_1.ev (tab.pg (k + 3)) [s0, s1, .fz (.tup (thsT l)), .no, .no] = some (.lst ((l.map fun r => r.map Rw.o).map .lst)) := by
  rw [List.map_map]
  refine ev_lcB l (fun r => .tup (r.map Rw.t)) _ rfl fun rs _ => ⟨_, rfl, rfl, ?_⟩
  exact c1b rs _ _ _
theorem program_of (p : Pl) : (tab.pg (k + 4)).fn 1 [p.t] = some p.o := by
  rw [fnS]
  show outT (b1.ev (tab.pg (k + 3)) [.fz p.t, .no, .no, .no, .no]) = _
  have h3 := ini6 (k := k + 1) (celT p.cells) (p.ths.map fun r => r.map Rw.o)
  simp only [b1, Ss.ev, S.ev.eq_1, S.ev.eq_2, S.ev.eq_3, S.ev.eq_4, S.ev.eq_5, S.ev.eq_6, S.ev.eq_7, S.ev.eq_10, S.ev.eq_11, S.ev.eq_12, S.ev.eq_13, S.ev.eq_14, S.ev.eq_15, S.ev.eq_16, S.ev.eq_17, S.ev.eq_18, S.ev.eq_19, S.ev.eq_20, E.ev.eq_1, E.ev.eq_2, E.ev.eq_3, E.ev.eq_4, E.ev.eq_5, E.ev.eq_6, E.ev.eq_7, E.ev.eq_8, E.ev.eq_9, E.ev.eq_10, E.ev.eq_11, E.ev.eq_12, E.ev.eq_13, E.ev.eq_14, E.ev.eq_15, E.ev.eq_16, E.ev.eq_17, E.ev.eq_18, E.ev.eq_19, E.ev.eq_20, E.ev.eq_21, E.ev.eq_22, E.ev.eq_23, E.ev.eq_24, E.ev.eq_25, E.ev.eq_26, E.ev.eq_28, E.ev.eq_29, Es.ev, It.ev, Op.ev, Op.tst, slV, slP, ownS, ixT, T.tru, outT, Pl.t, Tg.bind, List.getElem?_cons_zero, List.getElem?_cons_succ, Option.bind_some, Option.map_some, List.length_cons, List.length_nil, if_true, List.zip_cons_cons, List.zip_nil_left, List.foldl_cons, List.foldl_nil, List.set_cons_succ, List.set_cons_zero, c1a]
  rw [show k + 3 = k + 1 + 2 from rfl, h3]
  simp [Pl.o, List.map_map, Function.comp_def]
theorem c35b (rs : List Rw) (s0 : Sl) : c35_0.ev (tab.pg (k + 1)) [s0, .no, .fz (.lst (rs.map Rw.o))] = some (.lst (rs.map Rw.t)) := by
  refine ev_lcB rs Rw.o Rw.t rfl fun r _ => ⟨_, rfl, rfl, ?_⟩
  simp only [Ss.ev, S.ev.eq_1, S.ev.eq_2, S.ev.eq_3, S.ev.eq_4, S.ev.eq_5, S.ev.eq_6, S.ev.eq_7, S.ev.eq_10, S.ev.eq_11, S.ev.eq_12, S.ev.eq_13, S.ev.eq_14, S.ev.eq_15, S.ev.eq_16, S.ev.eq_17, S.ev.eq_18, S.ev.eq_19, S.ev.eq_20, E.ev.eq_1, E.ev.eq_2, E.ev.eq_3, E.ev.eq_4, E.ev.eq_5, E.ev.eq_6, E.ev.eq_7, E.ev.eq_8, E.ev.eq_9, E.ev.eq_10, E.ev.eq_11, E.ev.eq_12, E.ev.eq_13, E.ev.eq_14, E.ev.eq_15, E.ev.eq_16, E.ev.eq_17, E.ev.eq_18, E.ev.eq_19, E.ev.eq_20, E.ev.eq_21, E.ev.eq_22, E.ev.eq_23, E.ev.eq_24, E.ev.eq_25, E.ev.eq_26, E.ev.eq_28, E.ev.eq_29, Es.ev, It.ev, Op.ev, Op.tst, slV, slP, ownS, ixT, T.tru, outT, Option.bind_some, Option.map_some]
  exact row_plain r
theorem c35a (cs : T) (l : List (List Rw)) : c35_1.ev (tab.pg (k + 1)) [.fz (.obj 6 [cs, .lst (l.map fun r => .lst (r.map Rw.o))]), .no, .no] = some (.lst (thsT l)) := by
  refine ev_lcB l (fun r => .lst (r.map Rw.o)) _ ?_ fun rs _ => ⟨_, rfl, rfl, ?_⟩
  · simp only [Ss.ev, S.ev.eq_1, S.ev.eq_2, S.ev.eq_3, S.ev.eq_4, S.ev.eq_5, S.ev.eq_6, S.ev.eq_7, S.ev.eq_10, S.ev.eq_11, S.ev.eq_12, S.ev.eq_13, S.ev.eq_14, S.ev.eq_15, S.ev.eq_16, S.ev.eq_17, S.ev.eq_18, S.ev.eq_19, S.ev.eq_20, E.ev.eq_1, E.ev.eq_2, E.ev.eq_3, E.ev.eq_4, E.ev.eq_5, E.ev.eq_6, E.ev.eq_7, E.ev.eq_8, E.ev.eq_9, E.ev.eq_10, E.ev.eq_11, E.ev.eq_12, E.ev.eq_13, E.ev.eq_14, E.ev.eq_15, E.ev.eq_16, E.ev.eq_17, E.ev.eq_18, E.ev.eq_19, E.ev.eq_20, E.ev.eq_21, E.ev.eq_22, E.ev.eq_23, E.ev.eq_24, E.ev.eq_25, E.ev.eq_26, E.ev.eq_28, E.ev.eq_29, Es.ev, It.ev, Op.ev, Op.tst, slV, slP, ownS, ixT, T.tru, outT, flS]; rfl
  · simp only [Ss.ev, S.ev.eq_1, S.ev.eq_2, S.ev.eq_3, S.ev.eq_4, S.ev.eq_5, S.ev.eq_6, S.ev.eq_7, S.ev.eq_10, S.ev.eq_11, S.ev.eq_12, S.ev.eq_13, S.ev.eq_14, S.ev.eq_15, S.ev.eq_16, S.ev.eq_17, S.ev.eq_18, S.ev.eq_19, S.ev.eq_20, E.ev.eq_1, E.ev.eq_2, E.ev.eq_3, E.ev.eq_4, E.ev.eq_5, E.ev.eq_6, E.ev.eq_7, E.ev.eq_8, E.ev.eq_9, E.ev.eq_10, E.ev.eq_11, E.ev.eq_12, E.ev.eq_13, E.ev.eq_14, E.ev.eq_15, E.ev.eq_16, E.ev.eq_17, E.ev.eq_18, E.ev.eq_19, E.ev.eq_20, E.ev.eq_21, E.ev.eq_22, E.ev.eq_23, E.ev.eq_24, E.ev.eq_25, E.ev.eq_26, E.ev.eq_28, E.ev.eq_29, Es.ev, It.ev, Op.ev, Op.tst, slV, slP, ownS, ixT, T.tru, outT]
    show Option.bind (Option.bind (c35_0.ev _ [_, .no, .fz (.lst (rs.map Rw.o))]) _) _ = _
    rw [c35b]; rfl
theorem plain_of (p : Pl) : methT (tab.pg (k + 2)) "plain" [] p.o = some p.t := by
  unfold Pl.o
  simp only [methT, m35, Option.bind_some, fnS]
  show outT (b35.ev (tab.pg (k + 1)) [.fz (.obj 6 _), .no, .no]) = _
  simp only [b35, Ss.ev, S.ev.eq_1, S.ev.eq_2, S.ev.eq_3, S.ev.eq_4, S.ev.eq_5, S.ev.eq_6, S.ev.eq_7, S.ev.eq_10, S.ev.eq_11, S.ev.eq_12, S.ev.eq_13, S.ev.eq_14, S.ev.eq_15, S.ev.eq_16, S.ev.eq_17, S.ev.eq_18, S.ev.eq_19, S.ev.eq_20, E.ev.eq_1, E.ev.eq_2, E.ev.eq_3, E.ev.eq_4, E.ev.eq_5, E.ev.eq_6, E.ev.eq_7, E.ev.eq_8, E.ev.eq_9, E.ev.eq_10, E.ev.eq_11, E.ev.eq_12, E.ev.eq_13, E.ev.eq_14, E.ev.eq_15, E.ev.eq_16, E.ev.eq_17, E.ev.eq_18, E.ev.eq_19, E.ev.eq_20, E.ev.eq_21, E.ev.eq_22, E.ev.eq_23, E.ev.eq_24, E.ev.eq_25, E.ev.eq_26, E.ev.eq_28, E.ev.eq_29, Es.ev, It.ev, Op.ev, Op.tst, slV, slP, ownS, ixT, T.tru, outT, flS, c35a]
  rfl
end
end Tx

set_option Elab.async false
set_option linter.all false
set_option autoImplicit false
set_option maxRecDepth 100000
set_option maxHeartbeats 4000000
namespace Tx
open PySem Fe
abbrev fenT : T := .tup [.str "fence"]
def Rw.isF : Rw → Bool
  | .fence => true
  | _ => false
def cnt (l : List Rw) : Nat := (l.filter fun r => !r.isF).length
/-- what becomes of the i-th row where fences are taken out -/
def trB (rows : List Rw) (i : Nat) : Option Rw := match rows[i]? with
  | some (.skip b n) => some (.skip b (cnt ((rows.drop (i + 1)).take n)))
  | some .fence => none
  | o => o
def bareL (rows : List Rw) : List Rw := (List.range rows.length).filterMap (trB rows)
section
variable {k : Nat}
theorem gl0 : (tab.pg k).gl 0 = some fenT := by rw [glS]; rfl
theorem eqv_fen (r : Rw) : r.t.eqv fenT = r.isF := by
  cases r <;> simp [T.eqv, T.toD, toDs, PyData.eqv, PyData.eqvAll, Rw.t, Rw.isF, w_put_put, w_put_get, w_put_swap, w_put_add, w_put_skip, w_put_fence, w_put_row, w_get_put, w_get_get, w_get_swap, w_get_add, w_get_skip, w_get_fence, w_get_row, w_swap_put, w_swap_get, w_swap_swap, w_swap_add, w_swap_skip, w_swap_fence, w_swap_row, w_add_put, w_add_get, w_add_swap, w_add_add, w_add_skip, w_add_fence, w_add_row, w_skip_put, w_skip_get, w_skip_swap, w_skip_add, w_skip_skip, w_skip_fence, w_skip_row, w_fence_put, w_fence_get, w_fence_swap, w_fence_add, w_fence_skip, w_fence_fence, w_fence_row, w_row_put, w_row_get, w_row_swap, w_row_add, w_row_skip, w_row_fence, w_row_row]
theorem vl_dep (v : Vl) (n : Nat) : v.t.dep n = true := by cases v <;> simp [Vl.t, T.dep]
theorem dep_row (r : Rw) (n : Nat) : r.t.dep (n + 1) = true := by
  cases r <;> simp [Rw.t, T.dep, deps, vl_dep]
theorem neF (r : Rw) : COp.ap .ne r.t fenT = some (.bl (!r.isF)) := by
  simp [COp.ap, eqOk, dep_row r 59, T.dep, deps, eqv_fen]
theorem eqF (r : Rw) : COp.ap .eq r.t fenT = some (.bl r.isF) := by
  simp [COp.ap, eqOk, dep_row r 59, T.dep, deps, eqv_fen]
theorem cut_mid {α : Type} (xs : List α) (i n : Nat) (h : i ≤ xs.length) : cutL xs (some (i : Int)) (some ((i : Int) + (n : Int))) = (xs.drop i).take n := by
  unfold cutL
  rw [show ((i : Int) + (n : Int)) = ((i + n : Nat) : Int) by omega]
  have e1 : HT.sIx xs.length 0 (some (i : Int)) = min i xs.length := HT.sIx_nat _ _ _
  have e2 : HT.sIx xs.length xs.length (some ((i + n : Nat) : Int)) = min (i + n) xs.length := HT.sIx_nat _ _ _
  rw [e1, e2, Nat.min_eq_left h]
  by_cases h2 : i + n ≤ xs.length
  · rw [Nat.min_eq_left h2, show i + n - i = n by omega]
  · rw [Nat.min_eq_right (by omega), List.take_of_length_le (l := xs.drop i) (i := n) (by rw [List.length_drop]; omega), List.take_of_length_le (by rw [List.length_drop]; omega)]
theorem range_fm {rows : List Rw} {i : Nat} (f : Nat → Option Rw) : (List.range (i + 1)).filterMap f = (List.range i).filterMap f ++ (f i).toList := by
  rw [List.range_succ, List.filterMap_append]
  congr 1
theorem fm_len' (f : Nat → Option Rw) (i : Nat) : ((List.range i).filterMap f).length ≤ i := by
  have := List.length_filterMap_le f (List.range i)
  rwa [List.length_range] at this
theorem enum_at {l : List T} {i : Nat} {t : T} (h : (enumT 0 l)[i]? = some t) : ∃ u, l[i]? = some u ∧ t = .tup [.int (i : Nat), u] := by
  obtain ⟨u, h1, h2⟩ := enumT_get h
  exact ⟨u, h1, by rw [h2, Nat.zero_add]⟩
theorem lenLt {n m : Nat} (h : n ≤ m) (hm : m ≤ 1000) : n < LIM := by
  have : LIM = 16777216 := rfl
  omega
def I2 (rows : List Rw) (i : Nat) (env : En) : Prop := ∃ e2 e3 e4, env = [.fz (.tup (rows.map Rw.t)), .ow (.lst (((List.range i).filterMap (trB rows)).map Rw.t)), e2, e3, e4, .no]
theorem bare_rows (rows : List Rw) (hl : rows.length ≤ 1000) : (tab.pg (k + 1)).fn 2 [.tup (rows.map Rw.t)] = some (.tup ((bareL rows).map Rw.t)) := by
  rw [fnS]
  show outT (b2.ev (tab.pg k) [.fz (.tup (rows.map Rw.t)), .no, .no, .no, .no, .no]) = _
  unfold b2
  rw [ev_step (env' := [.fz (.tup (rows.map Rw.t)), .ow (.lst []), .no, .no, .no, .no]) rfl]
  have hs : ∀ i t env, (enumT 0 (rows.map Rw.t))[i]? = some t → I2 rows i env → ∃ env2 env3, Tg.bind (.tt [2, 3]) t env = some env2 ∧ (l2_1.ev (tab.pg k) env2 = some (.nx env3) ∨ l2_1.ev (tab.pg k) env2 = some (.ct env3)) ∧ I2 rows (i + 1) env3 := by
    rintro i t env ht ⟨e2, e3, e4, rfl⟩
    obtain ⟨u, hu, rfl⟩ := enum_at ht
    rw [List.getElem?_map] at hu
    obtain ⟨r, hr, rfl⟩ := mpd hu
    have hi : i < rows.length := (List.getElem?_eq_some_iff.mp hr).1
    have hlen := lenLt (Nat.le_trans (fm_len' (trB rows) i) (Nat.le_of_lt hi)) hl
    refine ⟨[.fz (.tup (rows.map Rw.t)), .ow (.lst (((List.range i).filterMap (trB rows)).map Rw.t)), .fz (.int (i : Nat)), .fz r.t, e4, .no], ?_⟩
    have fin : ∀ (r' : Rw) (e4' : Sl), trB rows i = (if r'.isF then none else some r') → ∃ env3, (Ss.cons (.iff (.cmp .ne (.v 3) (.g 0)) (.cons (.lm .append 1 (.cons (.v 3) .nil)) .nil) .nil) .nil).ev (tab.pg k) [.fz (.tup (rows.map Rw.t)), .ow (.lst (((List.range i).filterMap (trB rows)).map Rw.t)), .fz (.int (i : Nat)), .fz r'.t, e4', .no] = some (.nx env3) ∧
        ∃ e2 e3 e4, env3 = [.fz (.tup (rows.map Rw.t)), .ow (.lst (((List.range (i + 1)).filterMap (trB rows)).map Rw.t)), e2, e3, e4, .no] := by
      intro r' e4' htr
      rw [range_fm (rows := rows), htr]
      cases hF : r'.isF with
      | true => exact ⟨_, (by simp [Ss.ev, S.ev.eq_1, S.ev.eq_2, S.ev.eq_3, S.ev.eq_4, S.ev.eq_5, S.ev.eq_6, S.ev.eq_7, S.ev.eq_10, S.ev.eq_11, S.ev.eq_12, S.ev.eq_13, S.ev.eq_14, S.ev.eq_15, S.ev.eq_16, S.ev.eq_17, S.ev.eq_18, S.ev.eq_19, S.ev.eq_20, E.ev.eq_1, E.ev.eq_2, E.ev.eq_3, E.ev.eq_4, E.ev.eq_5, E.ev.eq_6, E.ev.eq_7, E.ev.eq_8, E.ev.eq_9, E.ev.eq_10, E.ev.eq_11, E.ev.eq_12, E.ev.eq_13, E.ev.eq_14, E.ev.eq_15, E.ev.eq_16, E.ev.eq_17, E.ev.eq_18, E.ev.eq_19, E.ev.eq_20, E.ev.eq_21, E.ev.eq_22, E.ev.eq_23, E.ev.eq_24, E.ev.eq_25, E.ev.eq_26, E.ev.eq_28, E.ev.eq_29, Es.ev, It.ev, Op.ev, Op.tst, slV, slP, ownS, ixT, T.tru, outT, gl0, neF, hF]; rfl), .fz (.int (i : Nat)), .fz r'.t, e4', by simp⟩
      | false => exact ⟨_, (by simp [Ss.ev, S.ev.eq_1, S.ev.eq_2, S.ev.eq_3, S.ev.eq_4, S.ev.eq_5, S.ev.eq_6, S.ev.eq_7, S.ev.eq_10, S.ev.eq_11, S.ev.eq_12, S.ev.eq_13, S.ev.eq_14, S.ev.eq_15, S.ev.eq_16, S.ev.eq_17, S.ev.eq_18, S.ev.eq_19, S.ev.eq_20, E.ev.eq_1, E.ev.eq_2, E.ev.eq_3, E.ev.eq_4, E.ev.eq_5, E.ev.eq_6, E.ev.eq_7, E.ev.eq_8, E.ev.eq_9, E.ev.eq_10, E.ev.eq_11, E.ev.eq_12, E.ev.eq_13, E.ev.eq_14, E.ev.eq_15, E.ev.eq_16, E.ev.eq_17, E.ev.eq_18, E.ev.eq_19, E.ev.eq_20, E.ev.eq_21, E.ev.eq_22, E.ev.eq_23, E.ev.eq_24, E.ev.eq_25, E.ev.eq_26, E.ev.eq_28, E.ev.eq_29, Es.ev, It.ev, Op.ev, Op.tst, slV, slP, ownS, ixT, T.tru, outT, gl0, neF, hF, slO, Lm.ap, hlen]; rfl), .fz (.int (i : Nat)), .fz r'.t, e4', by simp⟩
    cases r with
    | skip b n =>
      have hs : c2_0.ev (tab.pg k)
          [.fz (.tup (rows.map Rw.t)), .ow (.lst (((List.range i).filterMap (trB rows)).map Rw.t)), .fz (.int (i : Nat)), .fz (Rw.skip b n).t, e4, .no] = some (.lst ((((rows.drop (i + 1)).take n).filter fun r => !r.isF).map Rw.t)) := by
        refine ev_lcA ((rows.drop (i + 1)).take n) Rw.t Rw.t _ ?_ fun x _ => ⟨_, rfl, ?_, fun _ => rfl⟩
        · simp only [Ss.ev, S.ev.eq_1, S.ev.eq_2, S.ev.eq_3, S.ev.eq_4, S.ev.eq_5, S.ev.eq_6, S.ev.eq_7, S.ev.eq_10, S.ev.eq_11, S.ev.eq_12, S.ev.eq_13, S.ev.eq_14, S.ev.eq_15, S.ev.eq_16, S.ev.eq_17, S.ev.eq_18, S.ev.eq_19, S.ev.eq_20, E.ev.eq_1, E.ev.eq_2, E.ev.eq_3, E.ev.eq_4, E.ev.eq_5, E.ev.eq_6, E.ev.eq_7, E.ev.eq_8, E.ev.eq_9, E.ev.eq_10, E.ev.eq_11, E.ev.eq_12, E.ev.eq_13, E.ev.eq_14, E.ev.eq_15, E.ev.eq_16, E.ev.eq_17, E.ev.eq_18, E.ev.eq_19, E.ev.eq_20, E.ev.eq_21, E.ev.eq_22, E.ev.eq_23, E.ev.eq_24, E.ev.eq_25, E.ev.eq_26, E.ev.eq_28, E.ev.eq_29, Es.ev, It.ev, Op.ev, Op.tst, slV, slP, ownS, ixT, T.tru, outT, Rw.t, Option.bind_some, BOp.ap, List.getElem?_cons_zero, List.getElem?_cons_succ, atI2, partT, slT]
          rw [show ((i : Nat) : Int) + 1 = ((i + 1 : Nat) : Int) by omega, cut_mid _ _ _ (by rw [List.length_map]; exact hi), ← List.map_drop, ← List.map_take]
          rfl
        · simp only [Ss.ev, S.ev.eq_1, S.ev.eq_2, S.ev.eq_3, S.ev.eq_4, S.ev.eq_5, S.ev.eq_6, S.ev.eq_7, S.ev.eq_10, S.ev.eq_11, S.ev.eq_12, S.ev.eq_13, S.ev.eq_14, S.ev.eq_15, S.ev.eq_16, S.ev.eq_17, S.ev.eq_18, S.ev.eq_19, S.ev.eq_20, E.ev.eq_1, E.ev.eq_2, E.ev.eq_3, E.ev.eq_4, E.ev.eq_5, E.ev.eq_6, E.ev.eq_7, E.ev.eq_8, E.ev.eq_9, E.ev.eq_10, E.ev.eq_11, E.ev.eq_12, E.ev.eq_13, E.ev.eq_14, E.ev.eq_15, E.ev.eq_16, E.ev.eq_17, E.ev.eq_18, E.ev.eq_19, E.ev.eq_20, E.ev.eq_21, E.ev.eq_22, E.ev.eq_23, E.ev.eq_24, E.ev.eq_25, E.ev.eq_26, E.ev.eq_28, E.ev.eq_29, Es.ev, It.ev, Op.ev, Op.tst, slV, slP, ownS, ixT, T.tru, outT, gl0]
          show Option.bind (COp.ap .ne x.t fenT) T.tru = _
          rw [neF]; rfl
      obtain ⟨env3, h3, h4⟩ := fin (.skip b (cnt ((rows.drop (i + 1)).take n))) (.fz (.lst ((((rows.drop (i + 1)).take n).filter fun r => !r.isF).map Rw.t))) (by unfold trB; rw [hr]; rfl)
      refine ⟨env3, rfl, .inl ?_, h4⟩
      refine (ev_step ?_).trans h3
      simp [Ss.ev, S.ev.eq_1, S.ev.eq_2, S.ev.eq_3, S.ev.eq_4, S.ev.eq_5, S.ev.eq_6, S.ev.eq_7, S.ev.eq_10, S.ev.eq_11, S.ev.eq_12, S.ev.eq_13, S.ev.eq_14, S.ev.eq_15, S.ev.eq_16, S.ev.eq_17, S.ev.eq_18, S.ev.eq_19, S.ev.eq_20, E.ev.eq_1, E.ev.eq_2, E.ev.eq_3, E.ev.eq_4, E.ev.eq_5, E.ev.eq_6, E.ev.eq_7, E.ev.eq_8, E.ev.eq_9, E.ev.eq_10, E.ev.eq_11, E.ev.eq_12, E.ev.eq_13, E.ev.eq_14, E.ev.eq_15, E.ev.eq_16, E.ev.eq_17, E.ev.eq_18, E.ev.eq_19, E.ev.eq_20, E.ev.eq_21, E.ev.eq_22, E.ev.eq_23, E.ev.eq_24, E.ev.eq_25, E.ev.eq_26, E.ev.eq_28, E.ev.eq_29, Es.ev, It.ev, Op.ev, Op.tst, slV, slP, ownS, ixT, T.tru, outT, Rw.t, atI0, eqS, w_put_put, w_put_get, w_put_swap, w_put_add, w_put_skip, w_put_fence, w_put_row, w_get_put, w_get_get, w_get_swap, w_get_add, w_get_skip, w_get_fence, w_get_row, w_swap_put, w_swap_get, w_swap_swap, w_swap_add, w_swap_skip, w_swap_fence, w_swap_row, w_add_put, w_add_get, w_add_swap, w_add_add, w_add_skip, w_add_fence, w_add_row, w_skip_put, w_skip_get, w_skip_swap, w_skip_add, w_skip_skip, w_skip_fence, w_skip_row, w_fence_put, w_fence_get, w_fence_swap, w_fence_add, w_fence_skip, w_fence_fence, w_fence_row, w_row_put, w_row_get, w_row_swap, w_row_add, w_row_skip, w_row_fence, w_row_row]
      simp only [Rw.t] at hs
      rw [hs]
      simp [Ss.ev, S.ev.eq_1, S.ev.eq_2, S.ev.eq_3, S.ev.eq_4, S.ev.eq_5, S.ev.eq_6, S.ev.eq_7, S.ev.eq_10, S.ev.eq_11, S.ev.eq_12, S.ev.eq_13, S.ev.eq_14, S.ev.eq_15, S.ev.eq_16, S.ev.eq_17, S.ev.eq_18, S.ev.eq_19, S.ev.eq_20, E.ev.eq_1, E.ev.eq_2, E.ev.eq_3, E.ev.eq_4, E.ev.eq_5, E.ev.eq_6, E.ev.eq_7, E.ev.eq_8, E.ev.eq_9, E.ev.eq_10, E.ev.eq_11, E.ev.eq_12, E.ev.eq_13, E.ev.eq_14, E.ev.eq_15, E.ev.eq_16, E.ev.eq_17, E.ev.eq_18, E.ev.eq_19, E.ev.eq_20, E.ev.eq_21, E.ev.eq_22, E.ev.eq_23, E.ev.eq_24, E.ev.eq_25, E.ev.eq_26, E.ev.eq_28, E.ev.eq_29, Es.ev, It.ev, Op.ev, Op.tst, slV, slP, ownS, ixT, T.tru, outT, atI1, Bi.ap, cnt]
    | fence =>
      obtain ⟨env3, h3, h4⟩ := fin .fence e4 (by unfold trB; rw [hr]; rfl)
      refine ⟨env3, rfl, .inl ?_, h4⟩
      refine (ev_step ?_).trans h3
      simp [Ss.ev, S.ev.eq_1, S.ev.eq_2, S.ev.eq_3, S.ev.eq_4, S.ev.eq_5, S.ev.eq_6, S.ev.eq_7, S.ev.eq_10, S.ev.eq_11, S.ev.eq_12, S.ev.eq_13, S.ev.eq_14, S.ev.eq_15, S.ev.eq_16, S.ev.eq_17, S.ev.eq_18, S.ev.eq_19, S.ev.eq_20, E.ev.eq_1, E.ev.eq_2, E.ev.eq_3, E.ev.eq_4, E.ev.eq_5, E.ev.eq_6, E.ev.eq_7, E.ev.eq_8, E.ev.eq_9, E.ev.eq_10, E.ev.eq_11, E.ev.eq_12, E.ev.eq_13, E.ev.eq_14, E.ev.eq_15, E.ev.eq_16, E.ev.eq_17, E.ev.eq_18, E.ev.eq_19, E.ev.eq_20, E.ev.eq_21, E.ev.eq_22, E.ev.eq_23, E.ev.eq_24, E.ev.eq_25, E.ev.eq_26, E.ev.eq_28, E.ev.eq_29, Es.ev, It.ev, Op.ev, Op.tst, slV, slP, ownS, ixT, T.tru, outT, Rw.t, atI0, eqS, w_put_put, w_put_get, w_put_swap, w_put_add, w_put_skip, w_put_fence, w_put_row, w_get_put, w_get_get, w_get_swap, w_get_add, w_get_skip, w_get_fence, w_get_row, w_swap_put, w_swap_get, w_swap_swap, w_swap_add, w_swap_skip, w_swap_fence, w_swap_row, w_add_put, w_add_get, w_add_swap, w_add_add, w_add_skip, w_add_fence, w_add_row, w_skip_put, w_skip_get, w_skip_swap, w_skip_add, w_skip_skip, w_skip_fence, w_skip_row, w_fence_put, w_fence_get, w_fence_swap, w_fence_add, w_fence_skip, w_fence_fence, w_fence_row, w_row_put, w_row_get, w_row_swap, w_row_add, w_row_skip, w_row_fence, w_row_row]
    | put c v =>
      obtain ⟨env3, h3, h4⟩ := fin (.put c v) e4 (by unfold trB; rw [hr]; rfl)
      refine ⟨env3, rfl, .inl ?_, h4⟩
      refine (ev_step ?_).trans h3
      simp [Ss.ev, S.ev.eq_1, S.ev.eq_2, S.ev.eq_3, S.ev.eq_4, S.ev.eq_5, S.ev.eq_6, S.ev.eq_7, S.ev.eq_10, S.ev.eq_11, S.ev.eq_12, S.ev.eq_13, S.ev.eq_14, S.ev.eq_15, S.ev.eq_16, S.ev.eq_17, S.ev.eq_18, S.ev.eq_19, S.ev.eq_20, E.ev.eq_1, E.ev.eq_2, E.ev.eq_3, E.ev.eq_4, E.ev.eq_5, E.ev.eq_6, E.ev.eq_7, E.ev.eq_8, E.ev.eq_9, E.ev.eq_10, E.ev.eq_11, E.ev.eq_12, E.ev.eq_13, E.ev.eq_14, E.ev.eq_15, E.ev.eq_16, E.ev.eq_17, E.ev.eq_18, E.ev.eq_19, E.ev.eq_20, E.ev.eq_21, E.ev.eq_22, E.ev.eq_23, E.ev.eq_24, E.ev.eq_25, E.ev.eq_26, E.ev.eq_28, E.ev.eq_29, Es.ev, It.ev, Op.ev, Op.tst, slV, slP, ownS, ixT, T.tru, outT, Rw.t, atI0, eqS, w_put_put, w_put_get, w_put_swap, w_put_add, w_put_skip, w_put_fence, w_put_row, w_get_put, w_get_get, w_get_swap, w_get_add, w_get_skip, w_get_fence, w_get_row, w_swap_put, w_swap_get, w_swap_swap, w_swap_add, w_swap_skip, w_swap_fence, w_swap_row, w_add_put, w_add_get, w_add_swap, w_add_add, w_add_skip, w_add_fence, w_add_row, w_skip_put, w_skip_get, w_skip_swap, w_skip_add, w_skip_skip, w_skip_fence, w_skip_row, w_fence_put, w_fence_get, w_fence_swap, w_fence_add, w_fence_skip, w_fence_fence, w_fence_row, w_row_put, w_row_get, w_row_swap, w_row_add, w_row_skip, w_row_fence, w_row_row]
    | get c v =>
      obtain ⟨env3, h3, h4⟩ := fin (.get c v) e4 (by unfold trB; rw [hr]; rfl)
      refine ⟨env3, rfl, .inl ?_, h4⟩
      refine (ev_step ?_).trans h3
      simp [Ss.ev, S.ev.eq_1, S.ev.eq_2, S.ev.eq_3, S.ev.eq_4, S.ev.eq_5, S.ev.eq_6, S.ev.eq_7, S.ev.eq_10, S.ev.eq_11, S.ev.eq_12, S.ev.eq_13, S.ev.eq_14, S.ev.eq_15, S.ev.eq_16, S.ev.eq_17, S.ev.eq_18, S.ev.eq_19, S.ev.eq_20, E.ev.eq_1, E.ev.eq_2, E.ev.eq_3, E.ev.eq_4, E.ev.eq_5, E.ev.eq_6, E.ev.eq_7, E.ev.eq_8, E.ev.eq_9, E.ev.eq_10, E.ev.eq_11, E.ev.eq_12, E.ev.eq_13, E.ev.eq_14, E.ev.eq_15, E.ev.eq_16, E.ev.eq_17, E.ev.eq_18, E.ev.eq_19, E.ev.eq_20, E.ev.eq_21, E.ev.eq_22, E.ev.eq_23, E.ev.eq_24, E.ev.eq_25, E.ev.eq_26, E.ev.eq_28, E.ev.eq_29, Es.ev, It.ev, Op.ev, Op.tst, slV, slP, ownS, ixT, T.tru, outT, Rw.t, atI0, eqS, w_put_put, w_put_get, w_put_swap, w_put_add, w_put_skip, w_put_fence, w_put_row, w_get_put, w_get_get, w_get_swap, w_get_add, w_get_skip, w_get_fence, w_get_row, w_swap_put, w_swap_get, w_swap_swap, w_swap_add, w_swap_skip, w_swap_fence, w_swap_row, w_add_put, w_add_get, w_add_swap, w_add_add, w_add_skip, w_add_fence, w_add_row, w_skip_put, w_skip_get, w_skip_swap, w_skip_add, w_skip_skip, w_skip_fence, w_skip_row, w_fence_put, w_fence_get, w_fence_swap, w_fence_add, w_fence_skip, w_fence_fence, w_fence_row, w_row_put, w_row_get, w_row_swap, w_row_add, w_row_skip, w_row_fence, w_row_row]
    | swap c v w =>
      obtain ⟨env3, h3, h4⟩ := fin (.swap c v w) e4 (by unfold trB; rw [hr]; rfl)
      refine ⟨env3, rfl, .inl ?_, h4⟩
      refine (ev_step ?_).trans h3
      simp [Ss.ev, S.ev.eq_1, S.ev.eq_2, S.ev.eq_3, S.ev.eq_4, S.ev.eq_5, S.ev.eq_6, S.ev.eq_7, S.ev.eq_10, S.ev.eq_11, S.ev.eq_12, S.ev.eq_13, S.ev.eq_14, S.ev.eq_15, S.ev.eq_16, S.ev.eq_17, S.ev.eq_18, S.ev.eq_19, S.ev.eq_20, E.ev.eq_1, E.ev.eq_2, E.ev.eq_3, E.ev.eq_4, E.ev.eq_5, E.ev.eq_6, E.ev.eq_7, E.ev.eq_8, E.ev.eq_9, E.ev.eq_10, E.ev.eq_11, E.ev.eq_12, E.ev.eq_13, E.ev.eq_14, E.ev.eq_15, E.ev.eq_16, E.ev.eq_17, E.ev.eq_18, E.ev.eq_19, E.ev.eq_20, E.ev.eq_21, E.ev.eq_22, E.ev.eq_23, E.ev.eq_24, E.ev.eq_25, E.ev.eq_26, E.ev.eq_28, E.ev.eq_29, Es.ev, It.ev, Op.ev, Op.tst, slV, slP, ownS, ixT, T.tru, outT, Rw.t, atI0, eqS, w_put_put, w_put_get, w_put_swap, w_put_add, w_put_skip, w_put_fence, w_put_row, w_get_put, w_get_get, w_get_swap, w_get_add, w_get_skip, w_get_fence, w_get_row, w_swap_put, w_swap_get, w_swap_swap, w_swap_add, w_swap_skip, w_swap_fence, w_swap_row, w_add_put, w_add_get, w_add_swap, w_add_add, w_add_skip, w_add_fence, w_add_row, w_skip_put, w_skip_get, w_skip_swap, w_skip_add, w_skip_skip, w_skip_fence, w_skip_row, w_fence_put, w_fence_get, w_fence_swap, w_fence_add, w_fence_skip, w_fence_fence, w_fence_row, w_row_put, w_row_get, w_row_swap, w_row_add, w_row_skip, w_row_fence, w_row_row]
    | add c v w =>
      obtain ⟨env3, h3, h4⟩ := fin (.add c v w) e4 (by unfold trB; rw [hr]; rfl)
      refine ⟨env3, rfl, .inl ?_, h4⟩
      refine (ev_step ?_).trans h3
      simp [Ss.ev, S.ev.eq_1, S.ev.eq_2, S.ev.eq_3, S.ev.eq_4, S.ev.eq_5, S.ev.eq_6, S.ev.eq_7, S.ev.eq_10, S.ev.eq_11, S.ev.eq_12, S.ev.eq_13, S.ev.eq_14, S.ev.eq_15, S.ev.eq_16, S.ev.eq_17, S.ev.eq_18, S.ev.eq_19, S.ev.eq_20, E.ev.eq_1, E.ev.eq_2, E.ev.eq_3, E.ev.eq_4, E.ev.eq_5, E.ev.eq_6, E.ev.eq_7, E.ev.eq_8, E.ev.eq_9, E.ev.eq_10, E.ev.eq_11, E.ev.eq_12, E.ev.eq_13, E.ev.eq_14, E.ev.eq_15, E.ev.eq_16, E.ev.eq_17, E.ev.eq_18, E.ev.eq_19, E.ev.eq_20, E.ev.eq_21, E.ev.eq_22, E.ev.eq_23, E.ev.eq_24, E.ev.eq_25, E.ev.eq_26, E.ev.eq_28, E.ev.eq_29, Es.ev, It.ev, Op.ev, Op.tst, slV, slP, ownS, ixT, T.tru, outT, Rw.t, atI0, eqS, w_put_put, w_put_get, w_put_swap, w_put_add, w_put_skip, w_put_fence, w_put_row, w_get_put, w_get_get, w_get_swap, w_get_add, w_get_skip, w_get_fence, w_get_row, w_swap_put, w_swap_get, w_swap_swap, w_swap_add, w_swap_skip, w_swap_fence, w_swap_row, w_add_put, w_add_get, w_add_swap, w_add_add, w_add_skip, w_add_fence, w_add_row, w_skip_put, w_skip_get, w_skip_swap, w_skip_add, w_skip_skip, w_skip_fence, w_skip_row, w_fence_put, w_fence_get, w_fence_swap, w_fence_add, w_fence_skip, w_fence_fence, w_fence_row, w_row_put, w_row_get, w_row_swap, w_row_add, w_row_skip, w_row_fence, w_row_row]
  obtain ⟨env', h1, e2, e3, e4, rfl⟩ := ev_for (P := tab.pg k) (env := [.fz (.tup (rows.map Rw.t)), .ow (.lst []), .no, .no, .no, .no]) (tg := .tt [2, 3]) (it := .enu (.v 0)) (ts := enumT 0 (rows.map Rw.t)) (b := l2_1) (I2 rows) rfl ⟨_, _, _, rfl⟩ hs
  refine (congrArg outT (ev_step h1)).trans ?_
  rw [enumT_len, List.length_map]
  simp [Ss.ev, S.ev.eq_1, S.ev.eq_2, S.ev.eq_3, S.ev.eq_4, S.ev.eq_5, S.ev.eq_6, S.ev.eq_7, S.ev.eq_10, S.ev.eq_11, S.ev.eq_12, S.ev.eq_13, S.ev.eq_14, S.ev.eq_15, S.ev.eq_16, S.ev.eq_17, S.ev.eq_18, S.ev.eq_19, S.ev.eq_20, E.ev.eq_1, E.ev.eq_2, E.ev.eq_3, E.ev.eq_4, E.ev.eq_5, E.ev.eq_6, E.ev.eq_7, E.ev.eq_8, E.ev.eq_9, E.ev.eq_10, E.ev.eq_11, E.ev.eq_12, E.ev.eq_13, E.ev.eq_14, E.ev.eq_15, E.ev.eq_16, E.ev.eq_17, E.ev.eq_18, E.ev.eq_19, E.ev.eq_20, E.ev.eq_21, E.ev.eq_22, E.ev.eq_23, E.ev.eq_24, E.ev.eq_25, E.ev.eq_26, E.ev.eq_28, E.ev.eq_29, Es.ev, It.ev, Op.ev, Op.tst, slV, slP, ownS, ixT, T.tru, outT, Bi.ap, bareL]
end
end Tx

set_option Elab.async false
set_option linter.all false
set_option autoImplicit false
set_option maxRecDepth 100000
set_option maxHeartbeats 4000000
namespace Tx
open PySem Fe
def intT (l : List Nat) : List T := l.map fun n => .int (n : Nat)
def ovr (spots : List Nat) (i n : Nat) : List Nat := spots.filter fun s => decide (i < s) && decide (s ≤ i + n)
/-- what becomes of the i-th row where fences are put ahead of some -/
def trF (rows : List Rw) (spots : List Nat) (i : Nat) : List Rw := (if i ∈ spots then [.fence] else []) ++ (match rows[i]? with
  | some (.skip b n) => [.skip b (n + (ovr spots i n).length)]
  | some r => [r]
  | none => [])
def fencedL (rows : List Rw) (spots : List Nat) : List Rw := (List.range rows.length).flatMap (trF rows spots)
section
variable {k : Nat}
theorem deps_int (l : List Nat) (n : Nat) : deps (intT l) n = true := by
  induction l with
  | nil => rfl
  | cons a l ih => simp [intT, deps, T.dep] at ih ⊢; exact ih
theorem isin_nat (i : Nat) (l : List Nat) : COp.ap .isin (.int (i : Nat)) (.lst (intT l)) = some (.bl (decide (i ∈ l))) := by
  have h : ((intT l).any fun z => z.eqv (.int (i : Nat))) = decide (i ∈ l) := by
    induction l with
    | nil => rfl
    | cons a l ih =>
      have e : (T.int (a : Nat)).eqv (.int (i : Nat)) = decide (i = a) := by
        simp only [T.eqv, T.toD, PyData.eqv]
        rw [Bool.eq_iff_iff]
        simp
        omega
      simp only [intT, List.map_cons, List.any_cons, e] at ih ⊢
      rw [ih]
      rw [Bool.eq_iff_iff]
      simp
  simp only [COp.ap, inT, deps_int, T.dep, Bool.and_self, if_true, h, Option.map_some]
theorem range_fl {α : Type} {i : Nat} (f : Nat → List α) : (List.range (i + 1)).flatMap f = (List.range i).flatMap f ++ f i := by
  rw [List.range_succ, List.flatMap_append]
  simp
theorem trF_len (rows : List Rw) (spots : List Nat) (i : Nat) : (trF rows spots i).length ≤ 2 := by
  unfold trF
  rw [List.length_append]
  have h1 : (if i ∈ spots then [Rw.fence] else []).length ≤ 1 := by split <;> simp
  have h2 : (match rows[i]? with
    | some (.skip b n) => [Rw.skip b (n + (ovr spots i n).length)]
    | some r => [r]
    | none => []).length ≤ 1 := by split <;> simp
  omega
theorem fl_len (rows : List Rw) (spots : List Nat) (i : Nat) : ((List.range i).flatMap (trF rows spots)).length ≤ 2 * i := by
  induction i with
  | zero => simp
  | succ i ih =>
    rw [range_fl, List.length_append]
    have := trF_len rows spots i
    omega
def I4 (rows : List Rw) (spots : List Nat) (i : Nat) (env : En) : Prop := ∃ e3 e4 e5, env = [.fz (.tup (rows.map Rw.t)), .fz (.lst (intT spots)), .ow (.lst (((List.range i).flatMap (trF rows spots)).map Rw.t)), e3, e4, e5, .no]
theorem fenced_rows (rows : List Rw) (spots : List Nat) (hl : rows.length ≤ 1000) : (tab.pg (k + 1)).fn 4 [.tup (rows.map Rw.t), .lst (intT spots)] = some (.tup ((fencedL rows spots).map Rw.t)) := by
  rw [fnS]
  show outT (b4.ev (tab.pg k) [.fz (.tup (rows.map Rw.t)), .fz (.lst (intT spots)), .no, .no, .no, .no, .no]) = _
  unfold b4
  rw [ev_step (env' := [.fz (.tup (rows.map Rw.t)), .fz (.lst (intT spots)), .ow (.lst []), .no, .no, .no, .no]) rfl]
  have hs : ∀ i t env, (enumT 0 (rows.map Rw.t))[i]? = some t → I4 rows spots i env → ∃ env2 env3, Tg.bind (.tt [3, 4]) t env = some env2 ∧ (l4_1.ev (tab.pg k) env2 = some (.nx env3) ∨ l4_1.ev (tab.pg k) env2 = some (.ct env3)) ∧ I4 rows spots (i + 1) env3 := by
    rintro i t env ht ⟨e3, e4, e5, rfl⟩
    obtain ⟨u, hu, rfl⟩ := enum_at ht
    rw [List.getElem?_map] at hu
    obtain ⟨r, hr, rfl⟩ := mpd hu
    have hi : i < rows.length := (List.getElem?_eq_some_iff.mp hr).1
    have hL : LIM = 16777216 := rfl
    have hlen := fl_len rows spots i
    generalize hacc : (List.range i).flatMap (trF rows spots) = acc at hlen
    refine ⟨[.fz (.tup (rows.map Rw.t)), .fz (.lst (intT spots)), .ow (.lst (acc.map Rw.t)), .fz (.int (i : Nat)), .fz r.t, e5, .no], ?_⟩
    -- behind the fence
    have h1 : (S.iff (.cmp .isin (.v 3) (.v 1)) (.cons (.lm .append 2 (.cons (.g 0) .nil)) .nil) .nil).ev (tab.pg k) [.fz (.tup (rows.map Rw.t)), .fz (.lst (intT spots)), .ow (.lst (acc.map Rw.t)), .fz (.int (i : Nat)), .fz r.t, e5, .no] =
        some (.nx [.fz (.tup (rows.map Rw.t)), .fz (.lst (intT spots)), .ow (.lst ((acc ++ if i ∈ spots then [Rw.fence] else []).map Rw.t)), .fz (.int (i : Nat)), .fz r.t, e5, .no]) := by
      have hlt : acc.length < LIM := by omega
      by_cases hm : i ∈ spots
      · simp [Ss.ev, S.ev.eq_1, S.ev.eq_2, S.ev.eq_3, S.ev.eq_4, S.ev.eq_5, S.ev.eq_6, S.ev.eq_7, S.ev.eq_10, S.ev.eq_11, S.ev.eq_12, S.ev.eq_13, S.ev.eq_14, S.ev.eq_15, S.ev.eq_16, S.ev.eq_17, S.ev.eq_18, S.ev.eq_19, S.ev.eq_20, E.ev.eq_1, E.ev.eq_2, E.ev.eq_3, E.ev.eq_4, E.ev.eq_5, E.ev.eq_6, E.ev.eq_7, E.ev.eq_8, E.ev.eq_9, E.ev.eq_10, E.ev.eq_11, E.ev.eq_12, E.ev.eq_13, E.ev.eq_14, E.ev.eq_15, E.ev.eq_16, E.ev.eq_17, E.ev.eq_18, E.ev.eq_19, E.ev.eq_20, E.ev.eq_21, E.ev.eq_22, E.ev.eq_23, E.ev.eq_24, E.ev.eq_25, E.ev.eq_26, E.ev.eq_28, E.ev.eq_29, Es.ev, It.ev, Op.ev, Op.tst, slV, slP, ownS, ixT, T.tru, outT, isin_nat, hm, gl0, slO, Lm.ap, hlt, Rw.t]
      · simp [Ss.ev, S.ev.eq_1, S.ev.eq_2, S.ev.eq_3, S.ev.eq_4, S.ev.eq_5, S.ev.eq_6, S.ev.eq_7, S.ev.eq_10, S.ev.eq_11, S.ev.eq_12, S.ev.eq_13, S.ev.eq_14, S.ev.eq_15, S.ev.eq_16, S.ev.eq_17, S.ev.eq_18, S.ev.eq_19, S.ev.eq_20, E.ev.eq_1, E.ev.eq_2, E.ev.eq_3, E.ev.eq_4, E.ev.eq_5, E.ev.eq_6, E.ev.eq_7, E.ev.eq_8, E.ev.eq_9, E.ev.eq_10, E.ev.eq_11, E.ev.eq_12, E.ev.eq_13, E.ev.eq_14, E.ev.eq_15, E.ev.eq_16, E.ev.eq_17, E.ev.eq_18, E.ev.eq_19, E.ev.eq_20, E.ev.eq_21, E.ev.eq_22, E.ev.eq_23, E.ev.eq_24, E.ev.eq_25, E.ev.eq_26, E.ev.eq_28, E.ev.eq_29, Es.ev, It.ev, Op.ev, Op.tst, slV, slP, ownS, ixT, T.tru, outT, isin_nat, hm]
    generalize hacc2 : (acc ++ if i ∈ spots then [Rw.fence] else []) = acc2 at h1
    have hlen2 : acc2.length < LIM := by
      rw [← hacc2, List.length_append]
      have : (if i ∈ spots then [Rw.fence] else []).length ≤ 1 := by split <;> simp
      omega
    have fin : ∀ (r' : Rw) (e5' : Sl), trF rows spots i = (if i ∈ spots then [.fence] else []) ++ [r'] → ∃ env3, (Ss.cons (.lm .append 2 (.cons (.v 4) .nil)) .nil).ev (tab.pg k) [.fz (.tup (rows.map Rw.t)), .fz (.lst (intT spots)), .ow (.lst (acc2.map Rw.t)), .fz (.int (i : Nat)), .fz r'.t, e5', .no] = some (.nx env3) ∧ I4 rows spots (i + 1) env3 := by
      intro r' e5' htr
      refine ⟨_, (by simp [Ss.ev, S.ev.eq_1, S.ev.eq_2, S.ev.eq_3, S.ev.eq_4, S.ev.eq_5, S.ev.eq_6, S.ev.eq_7, S.ev.eq_10, S.ev.eq_11, S.ev.eq_12, S.ev.eq_13, S.ev.eq_14, S.ev.eq_15, S.ev.eq_16, S.ev.eq_17, S.ev.eq_18, S.ev.eq_19, S.ev.eq_20, E.ev.eq_1, E.ev.eq_2, E.ev.eq_3, E.ev.eq_4, E.ev.eq_5, E.ev.eq_6, E.ev.eq_7, E.ev.eq_8, E.ev.eq_9, E.ev.eq_10, E.ev.eq_11, E.ev.eq_12, E.ev.eq_13, E.ev.eq_14, E.ev.eq_15, E.ev.eq_16, E.ev.eq_17, E.ev.eq_18, E.ev.eq_19, E.ev.eq_20, E.ev.eq_21, E.ev.eq_22, E.ev.eq_23, E.ev.eq_24, E.ev.eq_25, E.ev.eq_26, E.ev.eq_28, E.ev.eq_29, Es.ev, It.ev, Op.ev, Op.tst, slV, slP, ownS, ixT, T.tru, outT, slO, Lm.ap, hlen2]; rfl), .fz (.int (i : Nat)), .fz r'.t, e5', ?_⟩
      rw [range_fl, hacc, htr, ← List.append_assoc, hacc2]
      simp
    cases r with
    | skip b n =>
      have hc : c4_0.ev (tab.pg k) [.fz (.tup (rows.map Rw.t)), .fz (.lst (intT spots)), .ow (.lst (acc2.map Rw.t)), .fz (.int (i : Nat)), .fz (Rw.skip b n).t, e5, .no] = some (.lst (intT (ovr spots i n))) := by
        refine ev_lcA spots (fun n => .int (n : Nat)) _ _ rfl fun x _ => ⟨_, rfl, ?_, fun _ => rfl⟩
        simp only [Ss.ev, S.ev.eq_1, S.ev.eq_2, S.ev.eq_3, S.ev.eq_4, S.ev.eq_5, S.ev.eq_6, S.ev.eq_7, S.ev.eq_10, S.ev.eq_11, S.ev.eq_12, S.ev.eq_13, S.ev.eq_14, S.ev.eq_15, S.ev.eq_16, S.ev.eq_17, S.ev.eq_18, S.ev.eq_19, S.ev.eq_20, E.ev.eq_1, E.ev.eq_2, E.ev.eq_3, E.ev.eq_4, E.ev.eq_5, E.ev.eq_6, E.ev.eq_7, E.ev.eq_8, E.ev.eq_9, E.ev.eq_10, E.ev.eq_11, E.ev.eq_12, E.ev.eq_13, E.ev.eq_14, E.ev.eq_15, E.ev.eq_16, E.ev.eq_17, E.ev.eq_18, E.ev.eq_19, E.ev.eq_20, E.ev.eq_21, E.ev.eq_22, E.ev.eq_23, E.ev.eq_24, E.ev.eq_25, E.ev.eq_26, E.ev.eq_28, E.ev.eq_29, Es.ev, It.ev, Op.ev, Op.tst, slV, slP, ownS, ixT, T.tru, outT, Rw.t]
        by_cases h1 : i < x
        · have e : decide ((x : Int) ≤ (i : Int) + (n : Int)) = decide (x ≤ i + n) := by rw [Bool.eq_iff_iff]; simp; omega
          simp [wipeE, COp.ap, atI2, BOp.ap, h1, cmpK, e, T.tru]
        · simp [wipeE, COp.ap, atI2, BOp.ap, h1, cmpK, T.tru]
      obtain ⟨env3, h3, h4⟩ := fin (.skip b (n + (ovr spots i n).length)) (.fz (.lst (intT (ovr spots i n)))) (by unfold trF; rw [hr])
      refine ⟨env3, rfl, .inl ?_, h4⟩
      refine (ev_step h1).trans ((ev_step ?_).trans h3)
      simp [Ss.ev, S.ev.eq_1, S.ev.eq_2, S.ev.eq_3, S.ev.eq_4, S.ev.eq_5, S.ev.eq_6, S.ev.eq_7, S.ev.eq_10, S.ev.eq_11, S.ev.eq_12, S.ev.eq_13, S.ev.eq_14, S.ev.eq_15, S.ev.eq_16, S.ev.eq_17, S.ev.eq_18, S.ev.eq_19, S.ev.eq_20, E.ev.eq_1, E.ev.eq_2, E.ev.eq_3, E.ev.eq_4, E.ev.eq_5, E.ev.eq_6, E.ev.eq_7, E.ev.eq_8, E.ev.eq_9, E.ev.eq_10, E.ev.eq_11, E.ev.eq_12, E.ev.eq_13, E.ev.eq_14, E.ev.eq_15, E.ev.eq_16, E.ev.eq_17, E.ev.eq_18, E.ev.eq_19, E.ev.eq_20, E.ev.eq_21, E.ev.eq_22, E.ev.eq_23, E.ev.eq_24, E.ev.eq_25, E.ev.eq_26, E.ev.eq_28, E.ev.eq_29, Es.ev, It.ev, Op.ev, Op.tst, slV, slP, ownS, ixT, T.tru, outT, Rw.t, atI0, eqS, w_put_put, w_put_get, w_put_swap, w_put_add, w_put_skip, w_put_fence, w_put_row, w_get_put, w_get_get, w_get_swap, w_get_add, w_get_skip, w_get_fence, w_get_row, w_swap_put, w_swap_get, w_swap_swap, w_swap_add, w_swap_skip, w_swap_fence, w_swap_row, w_add_put, w_add_get, w_add_swap, w_add_add, w_add_skip, w_add_fence, w_add_row, w_skip_put, w_skip_get, w_skip_swap, w_skip_add, w_skip_skip, w_skip_fence, w_skip_row, w_fence_put, w_fence_get, w_fence_swap, w_fence_add, w_fence_skip, w_fence_fence, w_fence_row, w_row_put, w_row_get, w_row_swap, w_row_add, w_row_skip, w_row_fence, w_row_row]
      simp only [Rw.t] at hc
      rw [hc]
      simp [Ss.ev, S.ev.eq_1, S.ev.eq_2, S.ev.eq_3, S.ev.eq_4, S.ev.eq_5, S.ev.eq_6, S.ev.eq_7, S.ev.eq_10, S.ev.eq_11, S.ev.eq_12, S.ev.eq_13, S.ev.eq_14, S.ev.eq_15, S.ev.eq_16, S.ev.eq_17, S.ev.eq_18, S.ev.eq_19, S.ev.eq_20, E.ev.eq_1, E.ev.eq_2, E.ev.eq_3, E.ev.eq_4, E.ev.eq_5, E.ev.eq_6, E.ev.eq_7, E.ev.eq_8, E.ev.eq_9, E.ev.eq_10, E.ev.eq_11, E.ev.eq_12, E.ev.eq_13, E.ev.eq_14, E.ev.eq_15, E.ev.eq_16, E.ev.eq_17, E.ev.eq_18, E.ev.eq_19, E.ev.eq_20, E.ev.eq_21, E.ev.eq_22, E.ev.eq_23, E.ev.eq_24, E.ev.eq_25, E.ev.eq_26, E.ev.eq_28, E.ev.eq_29, Es.ev, It.ev, Op.ev, Op.tst, slV, slP, ownS, ixT, T.tru, outT, atI1, atI2, Bi.ap, BOp.ap, intT]
    | fence =>
      obtain ⟨env3, h3, h4⟩ := fin .fence e5 (by unfold trF; rw [hr])
      refine ⟨env3, rfl, .inl ?_, h4⟩
      refine (ev_step h1).trans ((ev_step ?_).trans h3)
      simp [Ss.ev, S.ev.eq_1, S.ev.eq_2, S.ev.eq_3, S.ev.eq_4, S.ev.eq_5, S.ev.eq_6, S.ev.eq_7, S.ev.eq_10, S.ev.eq_11, S.ev.eq_12, S.ev.eq_13, S.ev.eq_14, S.ev.eq_15, S.ev.eq_16, S.ev.eq_17, S.ev.eq_18, S.ev.eq_19, S.ev.eq_20, E.ev.eq_1, E.ev.eq_2, E.ev.eq_3, E.ev.eq_4, E.ev.eq_5, E.ev.eq_6, E.ev.eq_7, E.ev.eq_8, E.ev.eq_9, E.ev.eq_10, E.ev.eq_11, E.ev.eq_12, E.ev.eq_13, E.ev.eq_14, E.ev.eq_15, E.ev.eq_16, E.ev.eq_17, E.ev.eq_18, E.ev.eq_19, E.ev.eq_20, E.ev.eq_21, E.ev.eq_22, E.ev.eq_23, E.ev.eq_24, E.ev.eq_25, E.ev.eq_26, E.ev.eq_28, E.ev.eq_29, Es.ev, It.ev, Op.ev, Op.tst, slV, slP, ownS, ixT, T.tru, outT, Rw.t, atI0, eqS, w_put_put, w_put_get, w_put_swap, w_put_add, w_put_skip, w_put_fence, w_put_row, w_get_put, w_get_get, w_get_swap, w_get_add, w_get_skip, w_get_fence, w_get_row, w_swap_put, w_swap_get, w_swap_swap, w_swap_add, w_swap_skip, w_swap_fence, w_swap_row, w_add_put, w_add_get, w_add_swap, w_add_add, w_add_skip, w_add_fence, w_add_row, w_skip_put, w_skip_get, w_skip_swap, w_skip_add, w_skip_skip, w_skip_fence, w_skip_row, w_fence_put, w_fence_get, w_fence_swap, w_fence_add, w_fence_skip, w_fence_fence, w_fence_row, w_row_put, w_row_get, w_row_swap, w_row_add, w_row_skip, w_row_fence, w_row_row]
    | put c v =>
      obtain ⟨env3, h3, h4⟩ := fin (.put c v) e5 (by unfold trF; rw [hr])
      refine ⟨env3, rfl, .inl ?_, h4⟩
      refine (ev_step h1).trans ((ev_step ?_).trans h3)
      simp [Ss.ev, S.ev.eq_1, S.ev.eq_2, S.ev.eq_3, S.ev.eq_4, S.ev.eq_5, S.ev.eq_6, S.ev.eq_7, S.ev.eq_10, S.ev.eq_11, S.ev.eq_12, S.ev.eq_13, S.ev.eq_14, S.ev.eq_15, S.ev.eq_16, S.ev.eq_17, S.ev.eq_18, S.ev.eq_19, S.ev.eq_20, E.ev.eq_1, E.ev.eq_2, E.ev.eq_3, E.ev.eq_4, E.ev.eq_5, E.ev.eq_6, E.ev.eq_7, E.ev.eq_8, E.ev.eq_9, E.ev.eq_10, E.ev.eq_11, E.ev.eq_12, E.ev.eq_13, E.ev.eq_14, E.ev.eq_15, E.ev.eq_16, E.ev.eq_17, E.ev.eq_18, E.ev.eq_19, E.ev.eq_20, E.ev.eq_21, E.ev.eq_22, E.ev.eq_23, E.ev.eq_24, E.ev.eq_25, E.ev.eq_26, E.ev.eq_28, E.ev.eq_29, Es.ev, It.ev, Op.ev, Op.tst, slV, slP, ownS, ixT, T.tru, outT, Rw.t, atI0, eqS, w_put_put, w_put_get, w_put_swap, w_put_add, w_put_skip, w_put_fence, w_put_row, w_get_put, w_get_get, w_get_swap, w_get_add, w_get_skip, w_get_fence, w_get_row, w_swap_put, w_swap_get, w_swap_swap, w_swap_add, w_swap_skip, w_swap_fence, w_swap_row, w_add_put, w_add_get, w_add_swap, w_add_add, w_add_skip, w_add_fence, w_add_row, w_skip_put, w_skip_get, w_skip_swap, w_skip_add, w_skip_skip, w_skip_fence, w_skip_row, w_fence_put, w_fence_get, w_fence_swap, w_fence_add, w_fence_skip, w_fence_fence, w_fence_row, w_row_put, w_row_get, w_row_swap, w_row_add, w_row_skip, w_row_fence, w_row_row]
    | get c v =>
      obtain ⟨env3, h3, h4⟩ := fin (.get c v) e5 (by unfold trF; rw [hr])
      refine ⟨env3, rfl, .inl ?_, h4⟩
      refine (ev_step h1).trans ((ev_step ?_).trans h3)
      simp [Ss.ev, S.ev.eq_1, S.ev.eq_2, S.ev.eq_3, S.ev.eq_4, S.ev.eq_5, S.ev.eq_6, S.ev.eq_7, S.ev.eq_10, S.ev.eq_11, S.ev.eq_12, S.ev.eq_13, S.ev.eq_14, S.ev.eq_15, S.ev.eq_16, S.ev.eq_17, S.ev.eq_18, S.ev.eq_19, S.ev.eq_20, E.ev.eq_1, E.ev.eq_2, E.ev.eq_3, E.ev.eq_4, E.ev.eq_5, E.ev.eq_6, E.ev.eq_7, E.ev.eq_8, E.ev.eq_9, E.ev.eq_10, E.ev.eq_11, E.ev.eq_12, E.ev.eq_13, E.ev.eq_14, E.ev.eq_15, E.ev.eq_16, E.ev.eq_17, E.ev.eq_18, E.ev.eq_19, E.ev.eq_20, E.ev.eq_21, E.ev.eq_22, E.ev.eq_23, E.ev.eq_24, E.ev.eq_25, E.ev.eq_26, E.ev.eq_28, E.ev.eq_29, Es.ev, It.ev, Op.ev, Op.tst, slV, slP, ownS, ixT, T.tru, outT, Rw.t, atI0, eqS, w_put_put, w_put_get, w_put_swap, w_put_add, w_put_skip, w_put_fence, w_put_row, w_get_put, w_get_get, w_get_swap, w_get_add, w_get_skip, w_get_fence, w_get_row, w_swap_put, w_swap_get, w_swap_swap, w_swap_add, w_swap_skip, w_swap_fence, w_swap_row, w_add_put, w_add_get, w_add_swap, w_add_add, w_add_skip, w_add_fence, w_add_row, w_skip_put, w_skip_get, w_skip_swap, w_skip_add, w_skip_skip, w_skip_fence, w_skip_row, w_fence_put, w_fence_get, w_fence_swap, w_fence_add, w_fence_skip, w_fence_fence, w_fence_row, w_row_put, w_row_get, w_row_swap, w_row_add, w_row_skip, w_row_fence, w_row_row]
    | swap c v w =>
      obtain ⟨env3, h3, h4⟩ := fin (.swap c v w) e5 (by unfold trF; rw [hr])
      refine ⟨env3, rfl, .inl ?_, h4⟩
      refine (ev_step h1).trans ((ev_step ?_).trans h3)
      simp [Ss.ev, S.ev.eq_1, S.ev.eq_2, S.ev.eq_3, S.ev.eq_4, S.ev.eq_5, S.ev.eq_6, S.ev.eq_7, S.ev.eq_10, S.ev.eq_11, S.ev.eq_12, S.ev.eq_13, S.ev.eq_14, S.ev.eq_15, S.ev.eq_16, S.ev.eq_17, S.ev.eq_18, S.ev.eq_19, S.ev.eq_20, E.ev.eq_1, E.ev.eq_2, E.ev.eq_3, E.ev.eq_4, E.ev.eq_5, E.ev.eq_6, E.ev.eq_7, E.ev.eq_8, E.ev.eq_9, E.ev.eq_10, E.ev.eq_11, E.ev.eq_12, E.ev.eq_13, E.ev.eq_14, E.ev.eq_15, E.ev.eq_16, E.ev.eq_17, E.ev.eq_18, E.ev.eq_19, E.ev.eq_20, E.ev.eq_21, E.ev.eq_22, E.ev.eq_23, E.ev.eq_24, E.ev.eq_25, E.ev.eq_26, E.ev.eq_28, E.ev.eq_29, Es.ev, It.ev, Op.ev, Op.tst, slV, slP, ownS, ixT, T.tru, outT, Rw.t, atI0, eqS, w_put_put, w_put_get, w_put_swap, w_put_add, w_put_skip, w_put_fence, w_put_row, w_get_put, w_get_get, w_get_swap, w_get_add, w_get_skip, w_get_fence, w_get_row, w_swap_put, w_swap_get, w_swap_swap, w_swap_add, w_swap_skip, w_swap_fence, w_swap_row, w_add_put, w_add_get, w_add_swap, w_add_add, w_add_skip, w_add_fence, w_add_row, w_skip_put, w_skip_get, w_skip_swap, w_skip_add, w_skip_skip, w_skip_fence, w_skip_row, w_fence_put, w_fence_get, w_fence_swap, w_fence_add, w_fence_skip, w_fence_fence, w_fence_row, w_row_put, w_row_get, w_row_swap, w_row_add, w_row_skip, w_row_fence, w_row_row]
    | add c v w =>
      obtain ⟨env3, h3, h4⟩ := fin (.add c v w) e5 (by unfold trF; rw [hr])
      refine ⟨env3, rfl, .inl ?_, h4⟩
      refine (ev_step h1).trans ((ev_step ?_).trans h3)
      simp [Ss.ev, S.ev.eq_1, S.ev.eq_2, S.ev.eq_3, S.ev.eq_4, S.ev.eq_5, S.ev.eq_6, S.ev.eq_7, S.ev.eq_10, S.ev.eq_11, S.ev.eq_12, S.ev.eq_13, S.ev.eq_14, S.ev.eq_15, S.ev.eq_16, S.ev.eq_17, S.ev.eq_18, S.ev.eq_19, S.ev.eq_20, E.ev.eq_1, E.ev.eq_2, E.ev.eq_3, E.ev.eq_4, E.ev.eq_5, E.ev.eq_6, E.ev.eq_7, E.ev.eq_8, E.ev.eq_9, E.ev.eq_10, E.ev.eq_11, E.ev.eq_12, E.ev.eq_13, E.ev.eq_14, E.ev.eq_15, E.ev.eq_16, E.ev.eq_17, E.ev.eq_18, E.ev.eq_19, E.ev.eq_20, E.ev.eq_21, E.ev.eq_22, E.ev.eq_23, E.ev.eq_24, E.ev.eq_25, E.ev.eq_26, E.ev.eq_28, E.ev.eq_29, Es.ev, It.ev, Op.ev, Op.tst, slV, slP, ownS, ixT, T.tru, outT, Rw.t, atI0, eqS, w_put_put, w_put_get, w_put_swap, w_put_add, w_put_skip, w_put_fence, w_put_row, w_get_put, w_get_get, w_get_swap, w_get_add, w_get_skip, w_get_fence, w_get_row, w_swap_put, w_swap_get, w_swap_swap, w_swap_add, w_swap_skip, w_swap_fence, w_swap_row, w_add_put, w_add_get, w_add_swap, w_add_add, w_add_skip, w_add_fence, w_add_row, w_skip_put, w_skip_get, w_skip_swap, w_skip_add, w_skip_skip, w_skip_fence, w_skip_row, w_fence_put, w_fence_get, w_fence_swap, w_fence_add, w_fence_skip, w_fence_fence, w_fence_row, w_row_put, w_row_get, w_row_swap, w_row_add, w_row_skip, w_row_fence, w_row_row]
  obtain ⟨env', h1, e3, e4, e5, rfl⟩ := ev_for (P := tab.pg k) (env := [.fz (.tup (rows.map Rw.t)), .fz (.lst (intT spots)), .ow (.lst []), .no, .no, .no, .no]) (tg := .tt [3, 4]) (it := .enu (.v 0)) (ts := enumT 0 (rows.map Rw.t)) (b := l4_1) (I4 rows spots) rfl ⟨_, _, _, rfl⟩ hs
  refine (congrArg outT (ev_step h1)).trans ?_
  rw [enumT_len, List.length_map]
  simp [Ss.ev, S.ev.eq_1, S.ev.eq_2, S.ev.eq_3, S.ev.eq_4, S.ev.eq_5, S.ev.eq_6, S.ev.eq_7, S.ev.eq_10, S.ev.eq_11, S.ev.eq_12, S.ev.eq_13, S.ev.eq_14, S.ev.eq_15, S.ev.eq_16, S.ev.eq_17, S.ev.eq_18, S.ev.eq_19, S.ev.eq_20, E.ev.eq_1, E.ev.eq_2, E.ev.eq_3, E.ev.eq_4, E.ev.eq_5, E.ev.eq_6, E.ev.eq_7, E.ev.eq_8, E.ev.eq_9, E.ev.eq_10, E.ev.eq_11, E.ev.eq_12, E.ev.eq_13, E.ev.eq_14, E.ev.eq_15, E.ev.eq_16, E.ev.eq_17, E.ev.eq_18, E.ev.eq_19, E.ev.eq_20, E.ev.eq_21, E.ev.eq_22, E.ev.eq_23, E.ev.eq_24, E.ev.eq_25, E.ev.eq_26, E.ev.eq_28, E.ev.eq_29, Es.ev, It.ev, Op.ev, Op.tst, slV, slP, ownS, ixT, T.tru, outT, Bi.ap, fencedL]
end
end Tx

set_option Elab.async false
set_option linter.all false
set_option autoImplicit false
set_option maxRecDepth 100000
set_option maxHeartbeats 4000000
namespace Tx
open PySem Fe
/-- the i-th row stands and is no fence -/
def nf (rows : List Rw) (i : Nat) : Bool := match rows[i]? with
  | some r => !r.isF
  | none => false
def left (rows : List Rw) : List Nat := (List.range rows.length).filter (nf rows)
theorem range_lt (m : Nat) : ∀ N, (List.range N).filter (fun k => decide (k < m)) = List.range (min m N)
  | 0 => by simp
  | N + 1 => by
    rw [List.range_succ, List.filter_append, range_lt m N]
    by_cases h : N < m
    · simp [h, show min m (N + 1) = N + 1 by omega, show min m N = N by omega, List.range_succ]
    · simp [h, show min m (N + 1) = m by omega, show min m N = m by omega]
theorem cnt_range : ∀ rows : List Rw, cnt rows = ((List.range rows.length).filter (nf rows)).length
  | [] => rfl
  | r :: rows => by
    have ih := cnt_range rows
    rw [List.length_cons, List.range_succ_eq_map, List.filter_cons, List.filter_map, ]
    have e : (nf (r :: rows) ∘ Nat.succ) = nf rows := by
      funext i
      simp [nf]
    rw [e]
    have e0 : nf (r :: rows) 0 = !r.isF := by simp [nf]
    rw [e0]
    unfold cnt at ih ⊢
    rw [List.filter_cons]
    cases r.isF <;> simp [ih]
theorem left_lt (rows : List Rw) (m : Nat) : ((left rows).filter fun k => decide (k < m)).length = cnt (rows.take m) := by
  unfold left
  rw [List.filter_filter, cnt_range, List.length_take]
  have : (List.range rows.length).filter (fun a => decide (a < m) && nf rows a) = ((List.range rows.length).filter (fun k => decide (k < m))).filter (nf rows) := by
    rw [List.filter_filter]
    congr 1
    funext a
    rw [Bool.and_comm]
  rw [this, range_lt]
  congr 1
  refine List.filter_congr fun k hk => ?_
  have : k < m := by have := List.mem_range.mp hk; omega
  simp only [nf, List.getElem?_take, this, if_true]
theorem cnt_app (a b : List Rw) : cnt (a ++ b) = cnt a + cnt b := by simp [cnt]
theorem skip_cnt {rows : List Rw} {i n : Nat} {r : Rw} (h : rows[i]? = some r) (hf : r.isF = false) : cnt (rows.take (i + 1 + n)) = cnt (rows.take i) + 1 + cnt ((rows.drop (i + 1)).take n) := by
  have hi : i < rows.length := (List.getElem?_eq_some_iff.mp h).1
  have e1 : rows.take (i + 1 + n) = rows.take (i + 1) ++ (rows.drop (i + 1)).take n := by rw [List.take_add]
  have e2 : rows.take (i + 1) = rows.take i ++ [r] := by
    rw [List.take_add_one, h]; rfl
  rw [e1, e2, cnt_app, cnt_app]
  simp [cnt, hf]
theorem left_sorted (rows : List Rw) : (left rows).Pairwise (· < ·) := List.Pairwise.filter _ List.pairwise_lt_range
theorem eqv_nat (a i : Nat) : (T.int (a : Nat)).eqv (.int (i : Nat)) = decide (a = i) := by
  simp only [T.eqv, T.toD, PyData.eqv]
  rw [Bool.eq_iff_iff]
  simp
  omega
theorem idx_sorted {i : Nat} : ∀ {L : List Nat}, L.Pairwise (· < ·) → i ∈ L → idxOf (.int (i : Nat)) (intT L) = some ((L.filter fun k => decide (k < i)).length)
  | a :: L, hp, hm => by
    rw [List.pairwise_cons] at hp
    unfold intT
    rw [List.map_cons]
    unfold idxOf
    rw [eqv_nat]
    by_cases e : a = i
    · subst e
      have : (L.filter fun k => decide (k < a)) = [] := List.filter_eq_nil_iff.mpr fun k hk => by
        have := hp.1 k hk
        simp; omega
      simp [this]
    · have hm' : i ∈ L := by
        rcases List.mem_cons.mp hm with h | h
        · exact absurd h.symm e
        · exact h
      have lt : a < i := hp.1 i hm'
      have ih := idx_sorted hp.2 hm'
      unfold intT at ih
      simp [e, ih, lt]
theorem left_mem {rows : List Rw} {i : Nat} : i ∈ left rows ↔ ∃ r, rows[i]? = some r ∧ r.isF = false := by
  unfold left
  rw [List.mem_filter, List.mem_range]
  constructor
  · rintro ⟨h1, h2⟩
    refine ⟨rows[i], List.getElem?_eq_getElem h1, ?_⟩
    simp [nf, List.getElem?_eq_getElem h1] at h2
    exact h2
  · rintro ⟨r, h1, h2⟩
    exact ⟨(List.getElem?_eq_some_iff.mp h1).1, by simp [nf, h1, h2]⟩
/-- the law's row at a place that is left -/
def lawB (rows : List Rw) (i : Nat) : Rw := (trB rows i).getD .fence
theorem trB_left {rows : List Rw} {i : Nat} (h : i ∈ left rows) : trB rows i = some (lawB rows i) := by
  obtain ⟨r, h1, h2⟩ := left_mem.mp h
  unfold lawB trB
  rw [h1]
  cases r <;> first | rfl | (cases h2)
theorem trB_none {rows : List Rw} {i : Nat} (h : nf rows i = false) : trB rows i = none := by
  unfold nf at h
  unfold trB
  cases hr : rows[i]? with
  | none => rfl
  | some r =>
    rw [hr] at h
    cases r <;> first | rfl | (cases h)
theorem bareL_left (rows : List Rw) : bareL rows = (left rows).map (lawB rows) := by
  unfold bareL left
  generalize rows.length = N
  induction N with
  | zero => rfl
  | succ N ih =>
    rw [List.range_succ, List.filterMap_append, List.filter_append, List.map_append, ih]
    congr 1
    cases h : nf rows N with
    | true =>
      have hm : N ∈ left rows := by
        unfold nf at h
        split at h
        · rename_i r hr
          exact left_mem.mpr ⟨r, hr, by simpa using h⟩
        · cases h
      simp [h, trB_left hm]
    | false => simp [h, trB_none h]
end Tx

set_option Elab.async false
set_option linter.all false
set_option autoImplicit false
set_option maxRecDepth 100000
set_option maxHeartbeats 4000000
namespace Tx
open PySem Fe
section
variable {k : Nat}
theorem atI_map {rows : List Rw} {i : Nat} {r : Rw} (h : rows[i]? = some r) : L2.atI (rows.map Rw.t) (i : Int) = some r.t := by
  rw [atI_nat, List.getElem?_map, h]; rfl
theorem rng_nat (N : Nat) (h : N ≤ 1000) : rng1T (.int (N : Nat)) = some ((List.range N).map fun i => .int ((0 : Int) + (i : Nat))) := by
  have hL : LIM = 16777216 := rfl
  show (if ((N : Nat) : Int) ≤ LIM ∧ -(2 ^ 62) ≤ ((N : Nat) : Int) then some (rngT 0 (N : Int).toNat) else none) = _
  rw [if_pos ⟨by omega, by omega⟩]
  simp [rngT]
theorem c14a (rows : List Rw) (hl : rows.length ≤ 1000) (s1 s3 s4 s5 s6 : Sl) : c14_0.ev (tab.pg k) [.fz (.tup (rows.map Rw.t)), s1, .no, s3, s4, s5, s6] = some (.lst (intT (left rows))) := by
  refine ev_lcA (List.range rows.length) (fun i => .int ((0 : Int) + (i : Nat))) (fun i => .int (i : Nat)) (nf rows) ?_ fun i hi => ⟨_, rfl, ?_, fun _ => ?_⟩
  · simp [Ss.ev, S.ev.eq_1, S.ev.eq_2, S.ev.eq_3, S.ev.eq_4, S.ev.eq_5, S.ev.eq_6, S.ev.eq_7, S.ev.eq_10, S.ev.eq_11, S.ev.eq_12, S.ev.eq_13, S.ev.eq_14, S.ev.eq_15, S.ev.eq_16, S.ev.eq_17, S.ev.eq_18, S.ev.eq_19, S.ev.eq_20, E.ev.eq_1, E.ev.eq_2, E.ev.eq_3, E.ev.eq_4, E.ev.eq_5, E.ev.eq_6, E.ev.eq_7, E.ev.eq_8, E.ev.eq_9, E.ev.eq_10, E.ev.eq_11, E.ev.eq_12, E.ev.eq_13, E.ev.eq_14, E.ev.eq_15, E.ev.eq_16, E.ev.eq_17, E.ev.eq_18, E.ev.eq_19, E.ev.eq_20, E.ev.eq_21, E.ev.eq_22, E.ev.eq_23, E.ev.eq_24, E.ev.eq_25, E.ev.eq_26, E.ev.eq_28, E.ev.eq_29, Es.ev, It.ev, Op.ev, Op.tst, slV, slP, ownS, ixT, T.tru, outT, Bi.ap, rng_nat _ hl]
  · have hlt := List.mem_range.mp hi
    have hr : rows[i]? = some rows[i] := List.getElem?_eq_getElem hlt
    simp [Ss.ev, S.ev.eq_1, S.ev.eq_2, S.ev.eq_3, S.ev.eq_4, S.ev.eq_5, S.ev.eq_6, S.ev.eq_7, S.ev.eq_10, S.ev.eq_11, S.ev.eq_12, S.ev.eq_13, S.ev.eq_14, S.ev.eq_15, S.ev.eq_16, S.ev.eq_17, S.ev.eq_18, S.ev.eq_19, S.ev.eq_20, E.ev.eq_1, E.ev.eq_2, E.ev.eq_3, E.ev.eq_4, E.ev.eq_5, E.ev.eq_6, E.ev.eq_7, E.ev.eq_8, E.ev.eq_9, E.ev.eq_10, E.ev.eq_11, E.ev.eq_12, E.ev.eq_13, E.ev.eq_14, E.ev.eq_15, E.ev.eq_16, E.ev.eq_17, E.ev.eq_18, E.ev.eq_19, E.ev.eq_20, E.ev.eq_21, E.ev.eq_22, E.ev.eq_23, E.ev.eq_24, E.ev.eq_25, E.ev.eq_26, E.ev.eq_28, E.ev.eq_29, Es.ev, It.ev, Op.ev, Op.tst, slV, slP, ownS, ixT, T.tru, outT, wipeE, atI_map hr, neF, nf, hr]
  · simp [Ss.ev, S.ev.eq_1, S.ev.eq_2, S.ev.eq_3, S.ev.eq_4, S.ev.eq_5, S.ev.eq_6, S.ev.eq_7, S.ev.eq_10, S.ev.eq_11, S.ev.eq_12, S.ev.eq_13, S.ev.eq_14, S.ev.eq_15, S.ev.eq_16, S.ev.eq_17, S.ev.eq_18, S.ev.eq_19, S.ev.eq_20, E.ev.eq_1, E.ev.eq_2, E.ev.eq_3, E.ev.eq_4, E.ev.eq_5, E.ev.eq_6, E.ev.eq_7, E.ev.eq_8, E.ev.eq_9, E.ev.eq_10, E.ev.eq_11, E.ev.eq_12, E.ev.eq_13, E.ev.eq_14, E.ev.eq_15, E.ev.eq_16, E.ev.eq_17, E.ev.eq_18, E.ev.eq_19, E.ev.eq_20, E.ev.eq_21, E.ev.eq_22, E.ev.eq_23, E.ev.eq_24, E.ev.eq_25, E.ev.eq_26, E.ev.eq_28, E.ev.eq_29, Es.ev, It.ev, Op.ev, Op.tst, slV, slP, ownS, ixT, T.tru, outT, wipeE]
theorem c14b (rows : List Rw) (L : List Nat) (i n : Nat) (b : Str) (s3 s5 : Sl) : c14_1.ev (tab.pg k) [.fz (.tup (rows.map Rw.t)), .fz (.lst (intT L)), .fz (.int (i : Nat)), s3, .fz (Rw.skip b n).t, s5, .no] = some (.lst (intT (L.filter fun k => decide (k < i + 1 + n)))) := by
  refine ev_lcA L (fun i => .int (i : Nat)) (fun i => .int (i : Nat)) _ rfl fun x _ => ⟨_, rfl, ?_, fun _ => rfl⟩
  have e : decide ((x : Int) < (i : Int) + 1 + (n : Int)) = decide (x < i + 1 + n) := by rw [Bool.eq_iff_iff]; simp; omega
  simp [Ss.ev, S.ev.eq_1, S.ev.eq_2, S.ev.eq_3, S.ev.eq_4, S.ev.eq_5, S.ev.eq_6, S.ev.eq_7, S.ev.eq_10, S.ev.eq_11, S.ev.eq_12, S.ev.eq_13, S.ev.eq_14, S.ev.eq_15, S.ev.eq_16, S.ev.eq_17, S.ev.eq_18, S.ev.eq_19, S.ev.eq_20, E.ev.eq_1, E.ev.eq_2, E.ev.eq_3, E.ev.eq_4, E.ev.eq_5, E.ev.eq_6, E.ev.eq_7, E.ev.eq_8, E.ev.eq_9, E.ev.eq_10, E.ev.eq_11, E.ev.eq_12, E.ev.eq_13, E.ev.eq_14, E.ev.eq_15, E.ev.eq_16, E.ev.eq_17, E.ev.eq_18, E.ev.eq_19, E.ev.eq_20, E.ev.eq_21, E.ev.eq_22, E.ev.eq_23, E.ev.eq_24, E.ev.eq_25, E.ev.eq_26, E.ev.eq_28, E.ev.eq_29, Es.ev, It.ev, Op.ev, Op.tst, slV, slP, ownS, ixT, T.tru, outT, Rw.t, wipeE, COp.ap, BOp.ap, atI2, e]
def I14 (rows : List Rw) (j : Nat) (env : En) : Prop := ∃ e2 e4 e5, env = [.fz (.tup (rows.map Rw.t)), .fz (.lst (intT (left rows))), e2, .ow (.lst ((((left rows).take j).map (lawB rows)).map Rw.t)), e4, e5, .no]
theorem left_len (rows : List Rw) : (left rows).length ≤ rows.length := by
  have := List.length_filter_le (nf rows) (List.range rows.length)
  rwa [List.length_range] at this
theorem law_bare_rows (rows : List Rw) (hl : rows.length ≤ 1000) : (tab.pg (k + 1)).fn 14 [.tup (rows.map Rw.t)] = some (.tup ((bareL rows).map Rw.t)) := by
  rw [fnS]
  show outT (b14.ev (tab.pg k) [.fz (.tup (rows.map Rw.t)), .no, .no, .no, .no, .no, .no]) = _
  unfold b14
  rw [ev_step (env' := [.fz (.tup (rows.map Rw.t)), .fz (.lst (intT (left rows))), .no, .no, .no, .no, .no]) (by simp [Ss.ev, S.ev.eq_1, S.ev.eq_2, S.ev.eq_3, S.ev.eq_4, S.ev.eq_5, S.ev.eq_6, S.ev.eq_7, S.ev.eq_10, S.ev.eq_11, S.ev.eq_12, S.ev.eq_13, S.ev.eq_14, S.ev.eq_15, S.ev.eq_16, S.ev.eq_17, S.ev.eq_18, S.ev.eq_19, S.ev.eq_20, E.ev.eq_1, E.ev.eq_2, E.ev.eq_3, E.ev.eq_4, E.ev.eq_5, E.ev.eq_6, E.ev.eq_7, E.ev.eq_8, E.ev.eq_9, E.ev.eq_10, E.ev.eq_11, E.ev.eq_12, E.ev.eq_13, E.ev.eq_14, E.ev.eq_15, E.ev.eq_16, E.ev.eq_17, E.ev.eq_18, E.ev.eq_19, E.ev.eq_20, E.ev.eq_21, E.ev.eq_22, E.ev.eq_23, E.ev.eq_24, E.ev.eq_25, E.ev.eq_26, E.ev.eq_28, E.ev.eq_29, Es.ev, It.ev, Op.ev, Op.tst, slV, slP, ownS, ixT, T.tru, outT, c14a rows hl]),
    ev_step (env' := [.fz (.tup (rows.map Rw.t)), .fz (.lst (intT (left rows))), .no, .ow (.lst []), .no, .no, .no]) rfl]
  have hs : ∀ j t env, (intT (left rows))[j]? = some t → I14 rows j env → ∃ env2 env3, Tg.bind (.n 2) t env = some env2 ∧ (l14_2.ev (tab.pg k) env2 = some (.nx env3) ∨ l14_2.ev (tab.pg k) env2 = some (.ct env3)) ∧ I14 rows (j + 1) env3 := by
    rintro j t env ht ⟨e2, e4, e5, rfl⟩
    unfold intT at ht
    rw [List.getElem?_map] at ht
    obtain ⟨i, hj, rfl⟩ := mpd ht
    have hm : i ∈ left rows := List.mem_of_getElem? hj
    obtain ⟨r, hr, hf⟩ := left_mem.mp hm
    have hjl : j < (left rows).length := (List.getElem?_eq_some_iff.mp hj).1
    have hlen : (((left rows).take j).map (lawB rows)).length < LIM := by
      have h1 := left_len rows
      have hL : LIM = 16777216 := rfl
      rw [List.length_map, List.length_take]; omega
    have ht1 : (left rows).take (j + 1) = (left rows).take j ++ [i] := by rw [List.take_add_one, hj]; rfl
    have hB := trB_left hm
    have ht2 : ((left rows).take (j + 1)).map (lawB rows) = ((left rows).take j).map (lawB rows) ++ [lawB rows i] := by rw [ht1, List.map_append]; rfl
    generalize hacc : ((left rows).take j).map (lawB rows) = acc at hlen ht2
    refine ⟨[.fz (.tup (rows.map Rw.t)), .fz (.lst (intT (left rows))), .fz (.int (i : Nat)), .ow (.lst (acc.map Rw.t)), e4, e5, .no], ?_⟩
    have fin : ∀ (r' : Rw) (e5' : Sl), trB rows i = some r' → ∃ env3, (Ss.cons (.lm .append 3 (.cons (.v 4) .nil)) .nil).ev (tab.pg k) [.fz (.tup (rows.map Rw.t)), .fz (.lst (intT (left rows))), .fz (.int (i : Nat)), .ow (.lst (acc.map Rw.t)), .fz r'.t, e5', .no] = some (.nx env3) ∧ I14 rows (j + 1) env3 := by
      intro r' e5' htr
      have e : lawB rows i = r' := by rw [hB] at htr; exact Option.some.inj htr
      refine ⟨_, (by simp [Ss.ev, S.ev.eq_1, S.ev.eq_2, S.ev.eq_3, S.ev.eq_4, S.ev.eq_5, S.ev.eq_6, S.ev.eq_7, S.ev.eq_10, S.ev.eq_11, S.ev.eq_12, S.ev.eq_13, S.ev.eq_14, S.ev.eq_15, S.ev.eq_16, S.ev.eq_17, S.ev.eq_18, S.ev.eq_19, S.ev.eq_20, E.ev.eq_1, E.ev.eq_2, E.ev.eq_3, E.ev.eq_4, E.ev.eq_5, E.ev.eq_6, E.ev.eq_7, E.ev.eq_8, E.ev.eq_9, E.ev.eq_10, E.ev.eq_11, E.ev.eq_12, E.ev.eq_13, E.ev.eq_14, E.ev.eq_15, E.ev.eq_16, E.ev.eq_17, E.ev.eq_18, E.ev.eq_19, E.ev.eq_20, E.ev.eq_21, E.ev.eq_22, E.ev.eq_23, E.ev.eq_24, E.ev.eq_25, E.ev.eq_26, E.ev.eq_28, E.ev.eq_29, Es.ev, It.ev, Op.ev, Op.tst, slV, slP, ownS, ixT, T.tru, outT, slO, Lm.ap, hlen]; rfl), .fz (.int (i : Nat)), .fz r'.t, e5', ?_⟩
      rw [ht2, e]
      simp
    have h0 : (S.set 4 false (.ix (.v 0) (.v 2))).ev (tab.pg k) [.fz (.tup (rows.map Rw.t)), .fz (.lst (intT (left rows))), .fz (.int (i : Nat)), .ow (.lst (acc.map Rw.t)), e4, e5, .no] =
        some (.nx [.fz (.tup (rows.map Rw.t)), .fz (.lst (intT (left rows))), .fz (.int (i : Nat)), .ow (.lst (acc.map Rw.t)), .fz r.t, e5, .no]) := by
      simp [Ss.ev, S.ev.eq_1, S.ev.eq_2, S.ev.eq_3, S.ev.eq_4, S.ev.eq_5, S.ev.eq_6, S.ev.eq_7, S.ev.eq_10, S.ev.eq_11, S.ev.eq_12, S.ev.eq_13, S.ev.eq_14, S.ev.eq_15, S.ev.eq_16, S.ev.eq_17, S.ev.eq_18, S.ev.eq_19, S.ev.eq_20, E.ev.eq_1, E.ev.eq_2, E.ev.eq_3, E.ev.eq_4, E.ev.eq_5, E.ev.eq_6, E.ev.eq_7, E.ev.eq_8, E.ev.eq_9, E.ev.eq_10, E.ev.eq_11, E.ev.eq_12, E.ev.eq_13, E.ev.eq_14, E.ev.eq_15, E.ev.eq_16, E.ev.eq_17, E.ev.eq_18, E.ev.eq_19, E.ev.eq_20, E.ev.eq_21, E.ev.eq_22, E.ev.eq_23, E.ev.eq_24, E.ev.eq_25, E.ev.eq_26, E.ev.eq_28, E.ev.eq_29, Es.ev, It.ev, Op.ev, Op.tst, slV, slP, ownS, ixT, T.tru, outT, atI_map hr]
    cases r with
    | skip b n =>
      have hv : trB rows i = some (.skip b (cnt ((rows.drop (i + 1)).take n))) := by unfold trB; rw [hr]
      obtain ⟨env3, h3, h4⟩ := fin _ (.fz (.lst (intT ((left rows).filter fun k => decide (k < i + 1 + n))))) hv
      refine ⟨env3, rfl, .inl ?_, h4⟩
      refine (ev_step h0).trans ((ev_step ?_).trans h3)
      have hc := c14b (k := k) rows (left rows) i n b (.ow (.lst (acc.map Rw.t))) e5
      simp [Ss.ev, S.ev.eq_1, S.ev.eq_2, S.ev.eq_3, S.ev.eq_4, S.ev.eq_5, S.ev.eq_6, S.ev.eq_7, S.ev.eq_10, S.ev.eq_11, S.ev.eq_12, S.ev.eq_13, S.ev.eq_14, S.ev.eq_15, S.ev.eq_16, S.ev.eq_17, S.ev.eq_18, S.ev.eq_19, S.ev.eq_20, E.ev.eq_1, E.ev.eq_2, E.ev.eq_3, E.ev.eq_4, E.ev.eq_5, E.ev.eq_6, E.ev.eq_7, E.ev.eq_8, E.ev.eq_9, E.ev.eq_10, E.ev.eq_11, E.ev.eq_12, E.ev.eq_13, E.ev.eq_14, E.ev.eq_15, E.ev.eq_16, E.ev.eq_17, E.ev.eq_18, E.ev.eq_19, E.ev.eq_20, E.ev.eq_21, E.ev.eq_22, E.ev.eq_23, E.ev.eq_24, E.ev.eq_25, E.ev.eq_26, E.ev.eq_28, E.ev.eq_29, Es.ev, It.ev, Op.ev, Op.tst, slV, slP, ownS, ixT, T.tru, outT, Rw.t, atI0, eqS, w_put_put, w_put_get, w_put_swap, w_put_add, w_put_skip, w_put_fence, w_put_row, w_get_put, w_get_get, w_get_swap, w_get_add, w_get_skip, w_get_fence, w_get_row, w_swap_put, w_swap_get, w_swap_swap, w_swap_add, w_swap_skip, w_swap_fence, w_swap_row, w_add_put, w_add_get, w_add_swap, w_add_add, w_add_skip, w_add_fence, w_add_row, w_skip_put, w_skip_get, w_skip_swap, w_skip_add, w_skip_skip, w_skip_fence, w_skip_row, w_fence_put, w_fence_get, w_fence_swap, w_fence_add, w_fence_skip, w_fence_fence, w_fence_row, w_row_put, w_row_get, w_row_swap, w_row_add, w_row_skip, w_row_fence, w_row_row]
      simp only [Rw.t] at hc
      rw [hc]
      have hidx := idx_sorted (left_sorted rows) hm
      have hd : deps (intT (left rows)) DM = true := deps_int _ _
      have k1 := left_lt rows (i + 1 + n)
      have k2 := left_lt rows i
      have k3 := skip_cnt (n := n) hr rfl
      simp [Ss.ev, S.ev.eq_1, S.ev.eq_2, S.ev.eq_3, S.ev.eq_4, S.ev.eq_5, S.ev.eq_6, S.ev.eq_7, S.ev.eq_10, S.ev.eq_11, S.ev.eq_12, S.ev.eq_13, S.ev.eq_14, S.ev.eq_15, S.ev.eq_16, S.ev.eq_17, S.ev.eq_18, S.ev.eq_19, S.ev.eq_20, E.ev.eq_1, E.ev.eq_2, E.ev.eq_3, E.ev.eq_4, E.ev.eq_5, E.ev.eq_6, E.ev.eq_7, E.ev.eq_8, E.ev.eq_9, E.ev.eq_10, E.ev.eq_11, E.ev.eq_12, E.ev.eq_13, E.ev.eq_14, E.ev.eq_15, E.ev.eq_16, E.ev.eq_17, E.ev.eq_18, E.ev.eq_19, E.ev.eq_20, E.ev.eq_21, E.ev.eq_22, E.ev.eq_23, E.ev.eq_24, E.ev.eq_25, E.ev.eq_26, E.ev.eq_28, E.ev.eq_29, Es.ev, It.ev, Op.ev, Op.tst, slV, slP, ownS, ixT, T.tru, outT, atI1, Bi.ap, Bm.ap, hidx, hd, T.dep, BOp.ap]
      simp [intT]
      rw [k1, k2, k3]
      omega
    | fence => cases hf
    | put c v =>
      obtain ⟨env3, h3, h4⟩ := fin (.put c v) e5 (by unfold trB; rw [hr])
      refine ⟨env3, rfl, .inl ?_, h4⟩
      refine (ev_step h0).trans ((ev_step ?_).trans h3)
      simp [Ss.ev, S.ev.eq_1, S.ev.eq_2, S.ev.eq_3, S.ev.eq_4, S.ev.eq_5, S.ev.eq_6, S.ev.eq_7, S.ev.eq_10, S.ev.eq_11, S.ev.eq_12, S.ev.eq_13, S.ev.eq_14, S.ev.eq_15, S.ev.eq_16, S.ev.eq_17, S.ev.eq_18, S.ev.eq_19, S.ev.eq_20, E.ev.eq_1, E.ev.eq_2, E.ev.eq_3, E.ev.eq_4, E.ev.eq_5, E.ev.eq_6, E.ev.eq_7, E.ev.eq_8, E.ev.eq_9, E.ev.eq_10, E.ev.eq_11, E.ev.eq_12, E.ev.eq_13, E.ev.eq_14, E.ev.eq_15, E.ev.eq_16, E.ev.eq_17, E.ev.eq_18, E.ev.eq_19, E.ev.eq_20, E.ev.eq_21, E.ev.eq_22, E.ev.eq_23, E.ev.eq_24, E.ev.eq_25, E.ev.eq_26, E.ev.eq_28, E.ev.eq_29, Es.ev, It.ev, Op.ev, Op.tst, slV, slP, ownS, ixT, T.tru, outT, Rw.t, atI0, eqS, w_put_put, w_put_get, w_put_swap, w_put_add, w_put_skip, w_put_fence, w_put_row, w_get_put, w_get_get, w_get_swap, w_get_add, w_get_skip, w_get_fence, w_get_row, w_swap_put, w_swap_get, w_swap_swap, w_swap_add, w_swap_skip, w_swap_fence, w_swap_row, w_add_put, w_add_get, w_add_swap, w_add_add, w_add_skip, w_add_fence, w_add_row, w_skip_put, w_skip_get, w_skip_swap, w_skip_add, w_skip_skip, w_skip_fence, w_skip_row, w_fence_put, w_fence_get, w_fence_swap, w_fence_add, w_fence_skip, w_fence_fence, w_fence_row, w_row_put, w_row_get, w_row_swap, w_row_add, w_row_skip, w_row_fence, w_row_row]
    | get c v =>
      obtain ⟨env3, h3, h4⟩ := fin (.get c v) e5 (by unfold trB; rw [hr])
      refine ⟨env3, rfl, .inl ?_, h4⟩
      refine (ev_step h0).trans ((ev_step ?_).trans h3)
      simp [Ss.ev, S.ev.eq_1, S.ev.eq_2, S.ev.eq_3, S.ev.eq_4, S.ev.eq_5, S.ev.eq_6, S.ev.eq_7, S.ev.eq_10, S.ev.eq_11, S.ev.eq_12, S.ev.eq_13, S.ev.eq_14, S.ev.eq_15, S.ev.eq_16, S.ev.eq_17, S.ev.eq_18, S.ev.eq_19, S.ev.eq_20, E.ev.eq_1, E.ev.eq_2, E.ev.eq_3, E.ev.eq_4, E.ev.eq_5, E.ev.eq_6, E.ev.eq_7, E.ev.eq_8, E.ev.eq_9, E.ev.eq_10, E.ev.eq_11, E.ev.eq_12, E.ev.eq_13, E.ev.eq_14, E.ev.eq_15, E.ev.eq_16, E.ev.eq_17, E.ev.eq_18, E.ev.eq_19, E.ev.eq_20, E.ev.eq_21, E.ev.eq_22, E.ev.eq_23, E.ev.eq_24, E.ev.eq_25, E.ev.eq_26, E.ev.eq_28, E.ev.eq_29, Es.ev, It.ev, Op.ev, Op.tst, slV, slP, ownS, ixT, T.tru, outT, Rw.t, atI0, eqS, w_put_put, w_put_get, w_put_swap, w_put_add, w_put_skip, w_put_fence, w_put_row, w_get_put, w_get_get, w_get_swap, w_get_add, w_get_skip, w_get_fence, w_get_row, w_swap_put, w_swap_get, w_swap_swap, w_swap_add, w_swap_skip, w_swap_fence, w_swap_row, w_add_put, w_add_get, w_add_swap, w_add_add, w_add_skip, w_add_fence, w_add_row, w_skip_put, w_skip_get, w_skip_swap, w_skip_add, w_skip_skip, w_skip_fence, w_skip_row, w_fence_put, w_fence_get, w_fence_swap, w_fence_add, w_fence_skip, w_fence_fence, w_fence_row, w_row_put, w_row_get, w_row_swap, w_row_add, w_row_skip, w_row_fence, w_row_row]
    | swap c v w =>
      obtain ⟨env3, h3, h4⟩ := fin (.swap c v w) e5 (by unfold trB; rw [hr])
      refine ⟨env3, rfl, .inl ?_, h4⟩
      refine (ev_step h0).trans ((ev_step ?_).trans h3)
      simp [Ss.ev, S.ev.eq_1, S.ev.eq_2, S.ev.eq_3, S.ev.eq_4, S.ev.eq_5, S.ev.eq_6, S.ev.eq_7, S.ev.eq_10, S.ev.eq_11, S.ev.eq_12, S.ev.eq_13, S.ev.eq_14, S.ev.eq_15, S.ev.eq_16, S.ev.eq_17, S.ev.eq_18, S.ev.eq_19, S.ev.eq_20, E.ev.eq_1, E.ev.eq_2, E.ev.eq_3, E.ev.eq_4, E.ev.eq_5, E.ev.eq_6, E.ev.eq_7, E.ev.eq_8, E.ev.eq_9, E.ev.eq_10, E.ev.eq_11, E.ev.eq_12, E.ev.eq_13, E.ev.eq_14, E.ev.eq_15, E.ev.eq_16, E.ev.eq_17, E.ev.eq_18, E.ev.eq_19, E.ev.eq_20, E.ev.eq_21, E.ev.eq_22, E.ev.eq_23, E.ev.eq_24, E.ev.eq_25, E.ev.eq_26, E.ev.eq_28, E.ev.eq_29, Es.ev, It.ev, Op.ev, Op.tst, slV, slP, ownS, ixT, T.tru, outT, Rw.t, atI0, eqS, w_put_put, w_put_get, w_put_swap, w_put_add, w_put_skip, w_put_fence, w_put_row, w_get_put, w_get_get, w_get_swap, w_get_add, w_get_skip, w_get_fence, w_get_row, w_swap_put, w_swap_get, w_swap_swap, w_swap_add, w_swap_skip, w_swap_fence, w_swap_row, w_add_put, w_add_get, w_add_swap, w_add_add, w_add_skip, w_add_fence, w_add_row, w_skip_put, w_skip_get, w_skip_swap, w_skip_add, w_skip_skip, w_skip_fence, w_skip_row, w_fence_put, w_fence_get, w_fence_swap, w_fence_add, w_fence_skip, w_fence_fence, w_fence_row, w_row_put, w_row_get, w_row_swap, w_row_add, w_row_skip, w_row_fence, w_row_row]
    | add c v w =>
      obtain ⟨env3, h3, h4⟩ := fin (.add c v w) e5 (by unfold trB; rw [hr])
      refine ⟨env3, rfl, .inl ?_, h4⟩
      refine (ev_step h0).trans ((ev_step ?_).trans h3)
      simp [Ss.ev, S.ev.eq_1, S.ev.eq_2, S.ev.eq_3, S.ev.eq_4, S.ev.eq_5, S.ev.eq_6, S.ev.eq_7, S.ev.eq_10, S.ev.eq_11, S.ev.eq_12, S.ev.eq_13, S.ev.eq_14, S.ev.eq_15, S.ev.eq_16, S.ev.eq_17, S.ev.eq_18, S.ev.eq_19, S.ev.eq_20, E.ev.eq_1, E.ev.eq_2, E.ev.eq_3, E.ev.eq_4, E.ev.eq_5, E.ev.eq_6, E.ev.eq_7, E.ev.eq_8, E.ev.eq_9, E.ev.eq_10, E.ev.eq_11, E.ev.eq_12, E.ev.eq_13, E.ev.eq_14, E.ev.eq_15, E.ev.eq_16, E.ev.eq_17, E.ev.eq_18, E.ev.eq_19, E.ev.eq_20, E.ev.eq_21, E.ev.eq_22, E.ev.eq_23, E.ev.eq_24, E.ev.eq_25, E.ev.eq_26, E.ev.eq_28, E.ev.eq_29, Es.ev, It.ev, Op.ev, Op.tst, slV, slP, ownS, ixT, T.tru, outT, Rw.t, atI0, eqS, w_put_put, w_put_get, w_put_swap, w_put_add, w_put_skip, w_put_fence, w_put_row, w_get_put, w_get_get, w_get_swap, w_get_add, w_get_skip, w_get_fence, w_get_row, w_swap_put, w_swap_get, w_swap_swap, w_swap_add, w_swap_skip, w_swap_fence, w_swap_row, w_add_put, w_add_get, w_add_swap, w_add_add, w_add_skip, w_add_fence, w_add_row, w_skip_put, w_skip_get, w_skip_swap, w_skip_add, w_skip_skip, w_skip_fence, w_skip_row, w_fence_put, w_fence_get, w_fence_swap, w_fence_add, w_fence_skip, w_fence_fence, w_fence_row, w_row_put, w_row_get, w_row_swap, w_row_add, w_row_skip, w_row_fence, w_row_row]
  obtain ⟨env', h1, e2, e4, e5, rfl⟩ := ev_for (P := tab.pg k) (env := [.fz (.tup (rows.map Rw.t)), .fz (.lst (intT (left rows))), .no, .ow (.lst []), .no, .no, .no]) (tg := .n 2) (it := .it (.v 1)) (ts := intT (left rows)) (b := l14_2) (I14 rows) rfl ⟨_, _, _, rfl⟩ hs
  refine (congrArg outT (ev_step h1)).trans ?_
  have e : (intT (left rows)).length = (left rows).length := by unfold intT; rw [List.length_map]
  rw [e, List.take_length, ← bareL_left]
  simp [Ss.ev, S.ev.eq_1, S.ev.eq_2, S.ev.eq_3, S.ev.eq_4, S.ev.eq_5, S.ev.eq_6, S.ev.eq_7, S.ev.eq_10, S.ev.eq_11, S.ev.eq_12, S.ev.eq_13, S.ev.eq_14, S.ev.eq_15, S.ev.eq_16, S.ev.eq_17, S.ev.eq_18, S.ev.eq_19, S.ev.eq_20, E.ev.eq_1, E.ev.eq_2, E.ev.eq_3, E.ev.eq_4, E.ev.eq_5, E.ev.eq_6, E.ev.eq_7, E.ev.eq_8, E.ev.eq_9, E.ev.eq_10, E.ev.eq_11, E.ev.eq_12, E.ev.eq_13, E.ev.eq_14, E.ev.eq_15, E.ev.eq_16, E.ev.eq_17, E.ev.eq_18, E.ev.eq_19, E.ev.eq_20, E.ev.eq_21, E.ev.eq_22, E.ev.eq_23, E.ev.eq_24, E.ev.eq_25, E.ev.eq_26, E.ev.eq_28, E.ev.eq_29, Es.ev, It.ev, Op.ev, Op.tst, slV, slP, ownS, ixT, T.tru, outT, Bi.ap]
end
end Tx

set_option Elab.async false
set_option linter.all false
set_option autoImplicit false
set_option maxRecDepth 100000
set_option maxHeartbeats 4000000
namespace Tx
open PySem Fe
def ent (spots : List Nat) (i : Nat) : List (Bool × Nat) := (if i ∈ spots then [(true, i)] else []) ++ [(false, i)]
def ord (spots : List Nat) (N : Nat) : List (Bool × Nat) := (List.range N).flatMap (ent spots)
def ordT (e : Bool × Nat) : T := .tup [.str (if e.1 then "fence" else "row"), .int (e.2 : Nat)]
abbrev pos (spots : List Nat) (m : Nat) : Nat := (ord spots m).length
theorem ord_succ (spots : List Nat) (m : Nat) : ord spots (m + 1) = ord spots m ++ ent spots m := range_fl _
theorem pos_succ (spots : List Nat) (m : Nat) : pos spots (m + 1) = pos spots m + ((if m ∈ spots then 1 else 0) + 1) := by
  unfold pos
  rw [ord_succ, List.length_append]
  unfold ent
  split <;> simp
theorem ord_split (spots : List Nat) (m : Nat) : ∀ d, ∃ rest, ord spots (m + d) = ord spots m ++ rest ∧ (0 < d → ∃ e r, rest = e :: r ∧ e.2 = m)
  | 0 => ⟨[], by simp, fun h => absurd h (Nat.lt_irrefl 0)⟩
  | d + 1 => by
    obtain ⟨rest, h1, h2⟩ := ord_split spots m d
    refine ⟨rest ++ ent spots (m + d), by rw [← Nat.add_assoc, ord_succ, h1, List.append_assoc], fun _ => ?_⟩
    cases d with
    | zero =>
      have : rest = [] := by simpa using h1
      subst this
      unfold ent
      by_cases hm : m ∈ spots
      · exact ⟨(true, m), [(false, m)], by simp [hm], rfl⟩
      · exact ⟨(false, m), [], by simp [hm], rfl⟩
    | succ d =>
      obtain ⟨e, r, h3, h4⟩ := h2 (Nat.succ_pos d)
      exact ⟨e, r ++ ent spots (m + (d + 1)), by rw [h3]; rfl, h4⟩
theorem ord_lt {spots : List Nat} : ∀ {m : Nat} {e : Bool × Nat}, e ∈ ord spots m → e.2 < m
  | 0, e, h => by cases h
  | m + 1, e, h => by
    rw [ord_succ, List.mem_append] at h
    rcases h with h | h
    · exact Nat.lt_succ_of_lt (ord_lt h)
    · unfold ent at h
      have : e.2 = m := by
        rcases List.mem_append.mp h with h | h
        · split at h
          · rw [List.mem_singleton.mp h]
          · cases h
        · rw [List.mem_singleton.mp h]
      omega
theorem filt0 {n q : Nat} {p : Nat → Bool} (h1 : ∀ k, k < q → p k = false) (h2 : p q = true) (h3 : q < n) : ∃ r, (List.range n).filter p = q :: r := by
  have e : List.range n = List.range q ++ (q :: (List.range (n - q - 1)).map (fun k => q + 1 + k)) := by
    have : n = q + ((n - q - 1) + 1) := by omega
    rw [this, List.range_add]
    congr 1
    rw [show q + (n - q - 1 + 1) - q - 1 = n - q - 1 by omega, List.range_succ_eq_map]
    simp [List.map_map, Function.comp_def]
    intro a _
    omega
  rw [e, List.filter_append, List.filter_eq_nil_iff.mpr fun k hk => by simp [h1 k (List.mem_range.mp hk)], List.nil_append, List.filter_cons, h2]
  exact ⟨_, rfl⟩
/-- the first place of order that leads to m (else its end) -/
theorem goal0 (spots : List Nat) {N m : Nat} (h : m ≤ N) : ∃ r, ((List.range (pos spots N)).filter fun k => decide (((ord spots N)[k]?.map Prod.snd) = some m)) ++ [pos spots N] = pos spots m :: r := by
  obtain ⟨d, rfl⟩ : ∃ d, N = m + d := ⟨N - m, by omega⟩
  obtain ⟨rest, e1, e2⟩ := ord_split spots m d
  by_cases hd : 0 < d
  · obtain ⟨e, r, e3, e4⟩ := e2 hd
    subst e3
    have hlt : pos spots m < pos spots (m + d) := by
      show (ord spots m).length < (ord spots (m + d)).length
      rw [e1, List.length_append, List.length_cons]; omega
    obtain ⟨r', h'⟩ := filt0 (n := pos spots (m + d)) (q := pos spots m) (p := fun k => decide (((ord spots (m + d))[k]?.map Prod.snd) = some m)) (fun k hk => by
        rw [e1, List.getElem?_append_left hk]
        have hk' : k < (ord spots m).length := hk
        rw [List.getElem?_eq_getElem hk']
        have := ord_lt (List.getElem_mem hk')
        simp; omega) (by
        rw [e1, List.getElem?_append_right (Nat.le_refl _)]
        simp [e4]) hlt
    exact ⟨r' ++ [pos spots (m + d)], by rw [h']; rfl⟩
  · have : d = 0 := by omega
    subst this
    refine ⟨[], ?_⟩
    rw [Nat.add_zero, List.filter_eq_nil_iff.mpr]
    · rfl
    · intro k hk
      have hk' := List.mem_range.mp hk
      rw [List.getElem?_eq_getElem hk']
      have := ord_lt (List.getElem_mem hk')
      simp; omega
theorem ordT_eqv (e e' : Bool × Nat) : (ordT e).eqv (ordT e') = decide (e = e') := by
  obtain ⟨a, i⟩ := e
  obtain ⟨b, j⟩ := e'
  have h : ((i : Int) == (j : Int)) = decide (i = j) := by
    rw [Bool.eq_iff_iff]; simp only [beq_iff_eq, decide_eq_true_eq]; omega
  cases a <;> cases b <;> simp [ordT, T.eqv, T.toD, toDs, PyData.eqv, PyData.eqvAll, w_put_put, w_put_get, w_put_swap, w_put_add, w_put_skip, w_put_fence, w_put_row, w_get_put, w_get_get, w_get_swap, w_get_add, w_get_skip, w_get_fence, w_get_row, w_swap_put, w_swap_get, w_swap_swap, w_swap_add, w_swap_skip, w_swap_fence, w_swap_row, w_add_put, w_add_get, w_add_swap, w_add_add, w_add_skip, w_add_fence, w_add_row, w_skip_put, w_skip_get, w_skip_swap, w_skip_add, w_skip_skip, w_skip_fence, w_skip_row, w_fence_put, w_fence_get, w_fence_swap, w_fence_add, w_fence_skip, w_fence_fence, w_fence_row, w_row_put, w_row_get, w_row_swap, w_row_add, w_row_skip, w_row_fence, w_row_row, h]
theorem idx_app {x : T} : ∀ {a b : List T}, (∀ y ∈ a, y.eqv x = false) → idxOf x (a ++ b) = (idxOf x b).map (· + a.length)
  | [], b, _ => by simp
  | y :: a, b, h => by
    have ih := idx_app (x := x) (a := a) (b := b) fun z hz => h z (List.mem_cons_of_mem _ hz)
    have e : idxOf x (y :: (a ++ b)) = (idxOf x (a ++ b)).map (· + 1) := by
      show (if y.eqv x then some 0 else (idxOf x (a ++ b)).map (· + 1)) = _
      rw [h y List.mem_cons_self]; rfl
    rw [List.cons_append, e, ih]
    cases idxOf x b with
    | none => rfl
    | some v => simp [Nat.add_assoc]
theorem ord_idx (spots : List Nat) {N i : Nat} (h : i < N) : idxOf (ordT (false, i)) ((ord spots N).map ordT) = some (pos spots i + (if i ∈ spots then 1 else 0)) := by
  obtain ⟨d, rfl⟩ : ∃ d, N = i + 1 + d := ⟨N - i - 1, by omega⟩
  obtain ⟨rest, e1, _⟩ := ord_split spots (i + 1) d
  rw [e1, ord_succ, List.append_assoc, List.map_append, idx_app]
  · have : ent spots i = (if i ∈ spots then [(true, i)] else []) ++ [(false, i)] := rfl
    rw [this]
    by_cases hm : i ∈ spots
    · simp [hm, idxOf, ordT_eqv]
      exact Nat.add_comm _ _
    · simp [hm, idxOf, ordT_eqv]
  · intro y hy
    obtain ⟨e, he, rfl⟩ := List.mem_map.mp hy
    rw [ordT_eqv]
    have := ord_lt he
    simp
    intro z
    rw [z] at this
    simp at this
theorem ovr_succ {spots : List Nat} (nd : spots.Nodup) (i n : Nat) : (ovr spots i (n + 1)).length = (ovr spots i n).length + (if i + (n + 1) ∈ spots then 1 else 0) := by
  induction spots with
  | nil => rfl
  | cons a l ih =>
    rw [List.nodup_cons] at nd
    have ih := ih nd.2
    unfold ovr at ih ⊢
    rw [List.filter_cons, List.filter_cons]
    by_cases e : a = i + (n + 1)
    · subst e
      have h0 : i + (n + 1) ∉ l := nd.1
      rw [if_neg h0] at ih
      simp [ih, Nat.not_succ_le_self]
    · have hm : (i + (n + 1) ∈ a :: l) ↔ (i + (n + 1) ∈ l) := by simp; intro z; exact absurd z.symm e
      by_cases h1 : i < a ∧ a ≤ i + n
      · have : i < a ∧ a ≤ i + (n + 1) := ⟨h1.1, by omega⟩
        simp [h1, this, ih, hm]
        split <;> omega
      · have : ¬ (i < a ∧ a ≤ i + (n + 1)) := by omega
        have t1 : (decide (i < a) && decide (a ≤ i + n)) = false := by rw [Bool.and_eq_false_iff]; simp; omega
        have t2 : (decide (i < a) && decide (a ≤ i + (n + 1))) = false := by rw [Bool.and_eq_false_iff]; simp; omega
        rw [t1, t2]
        simp [ih, hm]
theorem pos_add {spots : List Nat} (nd : spots.Nodup) (i : Nat) : ∀ n, pos spots (i + 1 + n) = pos spots (i + 1) + (n + (ovr spots i n).length)
  | 0 => by
    have : ovr spots i 0 = [] := List.filter_eq_nil_iff.mpr fun s _ => by
      rw [Bool.and_eq_true, decide_eq_true_eq, decide_eq_true_eq]; omega
    rw [this]; simp
  | n + 1 => by
    rw [← Nat.add_assoc, pos_succ, pos_add nd i n, ovr_succ nd, show i + 1 + n = i + (n + 1) by omega]
    split <;> omega
/-- the law's row at an entry -/
def lawF (rows : List Rw) (spots : List Nat) (e : Bool × Nat) : Rw := if e.1 then .fence else match rows[e.2]? with
  | some (.skip b n) => .skip b (n + (ovr spots e.2 n).length)
  | some r => r
  | none => .fence
theorem fencedL_ord (rows : List Rw) (spots : List Nat) : fencedL rows spots = (ord spots rows.length).map (lawF rows spots) := by
  unfold fencedL ord
  rw [List.map_flatMap]
  have : ∀ N, N ≤ rows.length → (List.range N).flatMap (trF rows spots) = (List.range N).flatMap fun a => (ent spots a).map (lawF rows spots) := by
    intro N
    induction N with
    | zero => intro _; rfl
    | succ N ih =>
      intro h
      rw [range_fl, range_fl, ih (by omega)]
      congr 1
      have hr : rows[N]? = some rows[N] := List.getElem?_eq_getElem h
      unfold trF ent
      rw [List.map_append, hr]
      congr 1
      · split <;> rfl
      · unfold lawF
        simp only [List.map_cons, List.map_nil, hr, Bool.false_eq_true, if_false]
        cases rows[N] <;> rfl
  exact this _ (Nat.le_refl _)
end Tx

set_option Elab.async false
set_option linter.all false
set_option autoImplicit false
set_option maxRecDepth 100000
set_option maxHeartbeats 4000000
namespace Tx
open PySem Fe
section
variable {k : Nat}
theorem ordT_dep (e : Bool × Nat) (n : Nat) : (ordT e).dep (n + 1) = true := by simp [ordT, T.dep, deps]
theorem ord_deps (l : List (Bool × Nat)) (n : Nat) : deps (l.map ordT) (n + 1) = true := by
  induction l with
  | nil => rfl
  | cons e l ih => simp [deps, ordT_dep, ih]
theorem pos_le (spots : List Nat) : ∀ m, pos spots m ≤ 2 * m
  | 0 => Nat.le_refl _
  | m + 1 => by
    rw [pos_succ]
    have := pos_le spots m
    split <;> omega
def I16 (rows : List Rw) (spots : List Nat) (i : Nat) (env : En) : Prop := ∃ e3, env = [.fz (.tup (rows.map Rw.t)), .fz (.lst (intT spots)), .ow (.lst ((ord spots i).map ordT)), e3, .no, .no, .no, .no, .no]
theorem l16a (rows : List Rw) (spots : List Nat) (hl : rows.length ≤ 1000) (i : Nat) (hi : i < rows.length) (env : En) (h : I16 rows spots i env) : ∃ env2 env3, Tg.bind (.n 3) (.int ((0 : Int) + (i : Nat))) env = some env2 ∧ (l16_0.ev (tab.pg k) env2 = some (.nx env3) ∨ l16_0.ev (tab.pg k) env2 = some (.ct env3)) ∧ I16 rows spots (i + 1) env3 := by
  obtain ⟨e3, rfl⟩ := h
  have hL : LIM = 16777216 := rfl
  have hp := pos_le spots i
  have hlt : (ord spots i).length < LIM := by show pos spots i < LIM; omega
  have hlt2 : (ord spots i).length + 1 < LIM := by show pos spots i + 1 < LIM; omega
  have e0 : T.int ((0 : Int) + (i : Nat)) = .int (i : Nat) := by simp
  rw [e0]
  refine ⟨_, _, rfl, .inl ?_, .fz (.int (i : Nat)), rfl⟩
  rw [ord_succ]
  unfold ent
  by_cases hm : i ∈ spots
  · simp [l16_0, Ss.ev, S.ev.eq_1, S.ev.eq_2, S.ev.eq_3, S.ev.eq_4, S.ev.eq_5, S.ev.eq_6, S.ev.eq_7, S.ev.eq_10, S.ev.eq_11, S.ev.eq_12, S.ev.eq_13, S.ev.eq_14, S.ev.eq_15, S.ev.eq_16, S.ev.eq_17, S.ev.eq_18, S.ev.eq_19, S.ev.eq_20, E.ev.eq_1, E.ev.eq_2, E.ev.eq_3, E.ev.eq_4, E.ev.eq_5, E.ev.eq_6, E.ev.eq_7, E.ev.eq_8, E.ev.eq_9, E.ev.eq_10, E.ev.eq_11, E.ev.eq_12, E.ev.eq_13, E.ev.eq_14, E.ev.eq_15, E.ev.eq_16, E.ev.eq_17, E.ev.eq_18, E.ev.eq_19, E.ev.eq_20, E.ev.eq_21, E.ev.eq_22, E.ev.eq_23, E.ev.eq_24, E.ev.eq_25, E.ev.eq_26, E.ev.eq_28, E.ev.eq_29, Es.ev, It.ev, Op.ev, Op.tst, slV, slP, ownS, ixT, T.tru, outT, isin_nat, hm, slO, Lm.ap, hlt, hlt2, ordT]
  · simp [l16_0, Ss.ev, S.ev.eq_1, S.ev.eq_2, S.ev.eq_3, S.ev.eq_4, S.ev.eq_5, S.ev.eq_6, S.ev.eq_7, S.ev.eq_10, S.ev.eq_11, S.ev.eq_12, S.ev.eq_13, S.ev.eq_14, S.ev.eq_15, S.ev.eq_16, S.ev.eq_17, S.ev.eq_18, S.ev.eq_19, S.ev.eq_20, E.ev.eq_1, E.ev.eq_2, E.ev.eq_3, E.ev.eq_4, E.ev.eq_5, E.ev.eq_6, E.ev.eq_7, E.ev.eq_8, E.ev.eq_9, E.ev.eq_10, E.ev.eq_11, E.ev.eq_12, E.ev.eq_13, E.ev.eq_14, E.ev.eq_15, E.ev.eq_16, E.ev.eq_17, E.ev.eq_18, E.ev.eq_19, E.ev.eq_20, E.ev.eq_21, E.ev.eq_22, E.ev.eq_23, E.ev.eq_24, E.ev.eq_25, E.ev.eq_26, E.ev.eq_28, E.ev.eq_29, Es.ev, It.ev, Op.ev, Op.tst, slV, slP, ownS, ixT, T.tru, outT, isin_nat, hm, slO, Lm.ap, hlt, ordT]
theorem c16 (rows : List Rw) (spots : List Nat) (hl : rows.length ≤ 1000) (i n : Nat) (b : Str) (s0 s1 s4 s5 s7 : Sl) : c16_1.ev (tab.pg k) [s0, s1, .fz (.lst ((ord spots rows.length).map ordT)), .fz (.int (i : Nat)), s4, s5, .fz (Rw.skip b n).t, s7, .no] =
    some (.lst (intT ((List.range (pos spots rows.length)).filter fun k => decide (((ord spots rows.length)[k]?.map Prod.snd) = some (i + 1 + n))))) := by
  have hL : LIM = 16777216 := rfl
  have hp := pos_le spots rows.length
  refine ev_lcA (List.range (pos spots rows.length)) (fun i => .int ((0 : Int) + (i : Nat))) (fun i => .int (i : Nat)) _ ?_ fun x hx => ⟨_, rfl, ?_, fun _ => by simp [Ss.ev, S.ev.eq_1, S.ev.eq_2, S.ev.eq_3, S.ev.eq_4, S.ev.eq_5, S.ev.eq_6, S.ev.eq_7, S.ev.eq_10, S.ev.eq_11, S.ev.eq_12, S.ev.eq_13, S.ev.eq_14, S.ev.eq_15, S.ev.eq_16, S.ev.eq_17, S.ev.eq_18, S.ev.eq_19, S.ev.eq_20, E.ev.eq_1, E.ev.eq_2, E.ev.eq_3, E.ev.eq_4, E.ev.eq_5, E.ev.eq_6, E.ev.eq_7, E.ev.eq_8, E.ev.eq_9, E.ev.eq_10, E.ev.eq_11, E.ev.eq_12, E.ev.eq_13, E.ev.eq_14, E.ev.eq_15, E.ev.eq_16, E.ev.eq_17, E.ev.eq_18, E.ev.eq_19, E.ev.eq_20, E.ev.eq_21, E.ev.eq_22, E.ev.eq_23, E.ev.eq_24, E.ev.eq_25, E.ev.eq_26, E.ev.eq_28, E.ev.eq_29, Es.ev, It.ev, Op.ev, Op.tst, slV, slP, ownS, ixT, T.tru, outT, wipeE]⟩
  · have : rng1T (.int ((pos spots rows.length : Nat) : Int)) = some ((List.range (pos spots rows.length)).map fun i => .int ((0 : Int) + (i : Nat))) := by
      show (if ((pos spots rows.length : Nat) : Int) ≤ LIM ∧ -(2 ^ 62) ≤ ((pos spots rows.length : Nat) : Int) then some (rngT 0 ((pos spots rows.length : Nat) : Int).toNat) else none) = _
      rw [if_pos ⟨by omega, by omega⟩]
      simp [rngT]
    simp [Ss.ev, S.ev.eq_1, S.ev.eq_2, S.ev.eq_3, S.ev.eq_4, S.ev.eq_5, S.ev.eq_6, S.ev.eq_7, S.ev.eq_10, S.ev.eq_11, S.ev.eq_12, S.ev.eq_13, S.ev.eq_14, S.ev.eq_15, S.ev.eq_16, S.ev.eq_17, S.ev.eq_18, S.ev.eq_19, S.ev.eq_20, E.ev.eq_1, E.ev.eq_2, E.ev.eq_3, E.ev.eq_4, E.ev.eq_5, E.ev.eq_6, E.ev.eq_7, E.ev.eq_8, E.ev.eq_9, E.ev.eq_10, E.ev.eq_11, E.ev.eq_12, E.ev.eq_13, E.ev.eq_14, E.ev.eq_15, E.ev.eq_16, E.ev.eq_17, E.ev.eq_18, E.ev.eq_19, E.ev.eq_20, E.ev.eq_21, E.ev.eq_22, E.ev.eq_23, E.ev.eq_24, E.ev.eq_25, E.ev.eq_26, E.ev.eq_28, E.ev.eq_29, Es.ev, It.ev, Op.ev, Op.tst, slV, slP, ownS, ixT, T.tru, outT, Bi.ap]
    simpa using this
  · have hlt := List.mem_range.mp hx
    have hr : (ord spots rows.length)[x]? = some (ord spots rows.length)[x] := List.getElem?_eq_getElem hlt
    have ha : L2.atI ((ord spots rows.length).map ordT) (x : Int) = some (ordT (ord spots rows.length)[x]) := by rw [atI_nat, List.getElem?_map, hr]; rfl
    generalize (ord spots rows.length)[x] = e at hr ha
    have e1 : COp.ap .eq (.int (e.2 : Nat)) (.int ((i : Int) + 1 + (n : Int))) = some (.bl (decide (e.2 = i + 1 + n))) := by
      have : ((e.2 : Int) == (i : Int) + 1 + (n : Int)) = decide (e.2 = i + 1 + n) := by
        rw [Bool.eq_iff_iff]; simp only [beq_iff_eq, decide_eq_true_eq]; omega
      simp [COp.ap, eqOk, T.dep, T.eqv, T.toD, PyData.eqv, this]
    have e2 : decide (((ord spots rows.length)[x]?.map Prod.snd) = some (i + 1 + n)) = decide (e.2 = i + 1 + n) := by rw [hr]; simp
    rw [e2]
    simp [Ss.ev, S.ev.eq_1, S.ev.eq_2, S.ev.eq_3, S.ev.eq_4, S.ev.eq_5, S.ev.eq_6, S.ev.eq_7, S.ev.eq_10, S.ev.eq_11, S.ev.eq_12, S.ev.eq_13, S.ev.eq_14, S.ev.eq_15, S.ev.eq_16, S.ev.eq_17, S.ev.eq_18, S.ev.eq_19, S.ev.eq_20, E.ev.eq_1, E.ev.eq_2, E.ev.eq_3, E.ev.eq_4, E.ev.eq_5, E.ev.eq_6, E.ev.eq_7, E.ev.eq_8, E.ev.eq_9, E.ev.eq_10, E.ev.eq_11, E.ev.eq_12, E.ev.eq_13, E.ev.eq_14, E.ev.eq_15, E.ev.eq_16, E.ev.eq_17, E.ev.eq_18, E.ev.eq_19, E.ev.eq_20, E.ev.eq_21, E.ev.eq_22, E.ev.eq_23, E.ev.eq_24, E.ev.eq_25, E.ev.eq_26, E.ev.eq_28, E.ev.eq_29, Es.ev, It.ev, Op.ev, Op.tst, slV, slP, ownS, ixT, T.tru, outT, wipeE, ha, Rw.t, atI1, atI2, BOp.ap]
    simp only [ordT, atI1, Option.bind_some, e1, T.tru]
def J16 (rows : List Rw) (spots : List Nat) (j : Nat) (env : En) : Prop := ∃ e3 e5 e6 e7, env = [.fz (.tup (rows.map Rw.t)), .fz (.lst (intT spots)), .fz (.lst ((ord spots rows.length).map ordT)), e3, .ow (.lst ((((ord spots rows.length).take j).map (lawF rows spots)).map Rw.t)), e5, e6, e7, .no]
/-- all skips lead no farther than to the end -/
def Win (rows : List Rw) : Prop := ∀ i b n, rows[i]? = some (.skip b n) → i + 1 + n ≤ rows.length
theorem law_fenced_rows (rows : List Rw) (spots : List Nat) (hl : rows.length ≤ 1000) (nd : spots.Nodup) (win : Win rows) : (tab.pg (k + 1)).fn 16 [.tup (rows.map Rw.t), .lst (intT spots)] = some (.tup ((fencedL rows spots).map Rw.t)) := by
  rw [fnS]
  show outT (b16.ev (tab.pg k) [.fz (.tup (rows.map Rw.t)), .fz (.lst (intT spots)), .no, .no, .no, .no, .no, .no, .no]) = _
  unfold b16
  rw [ev_step (env' := [.fz (.tup (rows.map Rw.t)), .fz (.lst (intT spots)), .ow (.lst []), .no, .no, .no, .no, .no, .no]) rfl]
  have hit : (It.rng (.bi .len (.cons (.v 0) .nil))).ev (tab.pg k) [.fz (.tup (rows.map Rw.t)), .fz (.lst (intT spots)), .ow (.lst []), .no, .no, .no, .no, .no, .no] = some ((List.range rows.length).map fun i => .int ((0 : Int) + (i : Nat))) := by
    simp [Ss.ev, S.ev.eq_1, S.ev.eq_2, S.ev.eq_3, S.ev.eq_4, S.ev.eq_5, S.ev.eq_6, S.ev.eq_7, S.ev.eq_10, S.ev.eq_11, S.ev.eq_12, S.ev.eq_13, S.ev.eq_14, S.ev.eq_15, S.ev.eq_16, S.ev.eq_17, S.ev.eq_18, S.ev.eq_19, S.ev.eq_20, E.ev.eq_1, E.ev.eq_2, E.ev.eq_3, E.ev.eq_4, E.ev.eq_5, E.ev.eq_6, E.ev.eq_7, E.ev.eq_8, E.ev.eq_9, E.ev.eq_10, E.ev.eq_11, E.ev.eq_12, E.ev.eq_13, E.ev.eq_14, E.ev.eq_15, E.ev.eq_16, E.ev.eq_17, E.ev.eq_18, E.ev.eq_19, E.ev.eq_20, E.ev.eq_21, E.ev.eq_22, E.ev.eq_23, E.ev.eq_24, E.ev.eq_25, E.ev.eq_26, E.ev.eq_28, E.ev.eq_29, Es.ev, It.ev, Op.ev, Op.tst, slV, slP, ownS, ixT, T.tru, outT, Bi.ap, rng_nat _ hl]
  obtain ⟨env', h1, e3, rfl⟩ := ev_for (tg := .n 3) (b := l16_0) (I16 rows spots) hit ⟨_, rfl⟩ fun i t env ht h => by
    rw [List.getElem?_map] at ht
    obtain ⟨i', hi', rfl⟩ := mpd ht
    have hlt : i < rows.length := by
      have := (List.getElem?_eq_some_iff.mp hi').1
      rwa [List.length_range] at this
    have : i' = i := by
      rw [List.getElem?_range hlt] at hi'
      exact (Option.some.inj hi').symm
    subst this
    exact l16a rows spots hl _ hlt env h
  refine (congrArg outT (ev_step h1)).trans ?_
  rw [List.length_map, List.length_range]
  rw [ev_step (env' := [.fz (.tup (rows.map Rw.t)), .fz (.lst (intT spots)), .ow (.lst ((ord spots rows.length).map ordT)), e3, .ow (.lst []), .no, .no, .no, .no]) rfl,
    ev_step (env' := [.fz (.tup (rows.map Rw.t)), .fz (.lst (intT spots)), .fz (.lst ((ord spots rows.length).map ordT)), e3, .ow (.lst []), .no, .no, .no, .no]) rfl]
  have hs : ∀ j t env, ((ord spots rows.length).map ordT)[j]? = some t → J16 rows spots j env → ∃ env2 env3, Tg.bind (.tt [5, 3]) t env = some env2 ∧ (l16_2.ev (tab.pg k) env2 = some (.nx env3) ∨ l16_2.ev (tab.pg k) env2 = some (.ct env3)) ∧ J16 rows spots (j + 1) env3 := by
    rintro j t env ht ⟨e3, e5, e6, e7, rfl⟩
    rw [List.getElem?_map] at ht
    obtain ⟨e, hj, rfl⟩ := mpd ht
    have hjl : j < (ord spots rows.length).length := (List.getElem?_eq_some_iff.mp hj).1
    have hL : LIM = 16777216 := rfl
    have hp := pos_le spots rows.length
    have hlen : (((ord spots rows.length).take j).map (lawF rows spots)).length < LIM := by
      rw [List.length_map, List.length_take]
      have : (ord spots rows.length).length ≤ 2 * rows.length := hp
      omega
    have ht1 : (ord spots rows.length).take (j + 1) = (ord spots rows.length).take j ++ [e] := by rw [List.take_add_one, hj]; rfl
    have ht2 : ((ord spots rows.length).take (j + 1)).map (lawF rows spots) = ((ord spots rows.length).take j).map (lawF rows spots) ++ [lawF rows spots e] := by rw [ht1, List.map_append]; rfl
    generalize hacc : ((ord spots rows.length).take j).map (lawF rows spots) = acc at hlen ht2
    have he2 : e.2 < rows.length := ord_lt (List.mem_of_getElem? hj)
    have hr : rows[e.2]? = some rows[e.2] := List.getElem?_eq_getElem he2
    refine ⟨[.fz (.tup (rows.map Rw.t)), .fz (.lst (intT spots)), .fz (.lst ((ord spots rows.length).map ordT)), .fz (.int (e.2 : Nat)), .ow (.lst (acc.map Rw.t)), .fz (.str (if e.1 then "fence" else "row")), e6, e7, .no], ?_⟩
    have fin : ∀ (r' : Rw) (e7' : Sl), lawF rows spots e = r' → ∃ env3, (Ss.cons (.lm .append 4 (.cons (.v 6) .nil)) .nil).ev (tab.pg k) [.fz (.tup (rows.map Rw.t)), .fz (.lst (intT spots)), .fz (.lst ((ord spots rows.length).map ordT)), .fz (.int (e.2 : Nat)), .ow (.lst (acc.map Rw.t)), .fz (.str (if e.1 then "fence" else "row")), .fz r'.t, e7', .no] = some (.nx env3) ∧ J16 rows spots (j + 1) env3 := by
      intro r' e7' htr
      refine ⟨_, (by simp [Ss.ev, S.ev.eq_1, S.ev.eq_2, S.ev.eq_3, S.ev.eq_4, S.ev.eq_5, S.ev.eq_6, S.ev.eq_7, S.ev.eq_10, S.ev.eq_11, S.ev.eq_12, S.ev.eq_13, S.ev.eq_14, S.ev.eq_15, S.ev.eq_16, S.ev.eq_17, S.ev.eq_18, S.ev.eq_19, S.ev.eq_20, E.ev.eq_1, E.ev.eq_2, E.ev.eq_3, E.ev.eq_4, E.ev.eq_5, E.ev.eq_6, E.ev.eq_7, E.ev.eq_8, E.ev.eq_9, E.ev.eq_10, E.ev.eq_11, E.ev.eq_12, E.ev.eq_13, E.ev.eq_14, E.ev.eq_15, E.ev.eq_16, E.ev.eq_17, E.ev.eq_18, E.ev.eq_19, E.ev.eq_20, E.ev.eq_21, E.ev.eq_22, E.ev.eq_23, E.ev.eq_24, E.ev.eq_25, E.ev.eq_26, E.ev.eq_28, E.ev.eq_29, Es.ev, It.ev, Op.ev, Op.tst, slV, slP, ownS, ixT, T.tru, outT, slO, Lm.ap, hlen]; rfl), .fz (.int (e.2 : Nat)), .fz (.str (if e.1 then "fence" else "row")), .fz r'.t, e7', ?_⟩
      rw [ht2, htr]
      simp
    have h0 : ∀ r : Rw, (if e.1 then Rw.fence else rows[e.2]) = r → (S.set 6 false (.ife (.cmp .eq (.v 5) (.k (.str "fence"))) (.tup (.cons (.k (.str "fence")) .nil)) (.ix (.v 0) (.v 3)))).ev (tab.pg k) [.fz (.tup (rows.map Rw.t)), .fz (.lst (intT spots)), .fz (.lst ((ord spots rows.length).map ordT)), .fz (.int (e.2 : Nat)), .ow (.lst (acc.map Rw.t)), .fz (.str (if e.1 then "fence" else "row")), e6, e7, .no] =
        some (.nx [.fz (.tup (rows.map Rw.t)), .fz (.lst (intT spots)), .fz (.lst ((ord spots rows.length).map ordT)), .fz (.int (e.2 : Nat)), .ow (.lst (acc.map Rw.t)), .fz (.str (if e.1 then "fence" else "row")), .fz r.t, e7, .no]) := by
      intro r hrr
      subst hrr
      cases e.1 with
      | true => simp [Ss.ev, S.ev.eq_1, S.ev.eq_2, S.ev.eq_3, S.ev.eq_4, S.ev.eq_5, S.ev.eq_6, S.ev.eq_7, S.ev.eq_10, S.ev.eq_11, S.ev.eq_12, S.ev.eq_13, S.ev.eq_14, S.ev.eq_15, S.ev.eq_16, S.ev.eq_17, S.ev.eq_18, S.ev.eq_19, S.ev.eq_20, E.ev.eq_1, E.ev.eq_2, E.ev.eq_3, E.ev.eq_4, E.ev.eq_5, E.ev.eq_6, E.ev.eq_7, E.ev.eq_8, E.ev.eq_9, E.ev.eq_10, E.ev.eq_11, E.ev.eq_12, E.ev.eq_13, E.ev.eq_14, E.ev.eq_15, E.ev.eq_16, E.ev.eq_17, E.ev.eq_18, E.ev.eq_19, E.ev.eq_20, E.ev.eq_21, E.ev.eq_22, E.ev.eq_23, E.ev.eq_24, E.ev.eq_25, E.ev.eq_26, E.ev.eq_28, E.ev.eq_29, Es.ev, It.ev, Op.ev, Op.tst, slV, slP, ownS, ixT, T.tru, outT, eqS, w_put_put, w_put_get, w_put_swap, w_put_add, w_put_skip, w_put_fence, w_put_row, w_get_put, w_get_get, w_get_swap, w_get_add, w_get_skip, w_get_fence, w_get_row, w_swap_put, w_swap_get, w_swap_swap, w_swap_add, w_swap_skip, w_swap_fence, w_swap_row, w_add_put, w_add_get, w_add_swap, w_add_add, w_add_skip, w_add_fence, w_add_row, w_skip_put, w_skip_get, w_skip_swap, w_skip_add, w_skip_skip, w_skip_fence, w_skip_row, w_fence_put, w_fence_get, w_fence_swap, w_fence_add, w_fence_skip, w_fence_fence, w_fence_row, w_row_put, w_row_get, w_row_swap, w_row_add, w_row_skip, w_row_fence, w_row_row, Rw.t]
      | false => simp [Ss.ev, S.ev.eq_1, S.ev.eq_2, S.ev.eq_3, S.ev.eq_4, S.ev.eq_5, S.ev.eq_6, S.ev.eq_7, S.ev.eq_10, S.ev.eq_11, S.ev.eq_12, S.ev.eq_13, S.ev.eq_14, S.ev.eq_15, S.ev.eq_16, S.ev.eq_17, S.ev.eq_18, S.ev.eq_19, S.ev.eq_20, E.ev.eq_1, E.ev.eq_2, E.ev.eq_3, E.ev.eq_4, E.ev.eq_5, E.ev.eq_6, E.ev.eq_7, E.ev.eq_8, E.ev.eq_9, E.ev.eq_10, E.ev.eq_11, E.ev.eq_12, E.ev.eq_13, E.ev.eq_14, E.ev.eq_15, E.ev.eq_16, E.ev.eq_17, E.ev.eq_18, E.ev.eq_19, E.ev.eq_20, E.ev.eq_21, E.ev.eq_22, E.ev.eq_23, E.ev.eq_24, E.ev.eq_25, E.ev.eq_26, E.ev.eq_28, E.ev.eq_29, Es.ev, It.ev, Op.ev, Op.tst, slV, slP, ownS, ixT, T.tru, outT, eqS, w_put_put, w_put_get, w_put_swap, w_put_add, w_put_skip, w_put_fence, w_put_row, w_get_put, w_get_get, w_get_swap, w_get_add, w_get_skip, w_get_fence, w_get_row, w_swap_put, w_swap_get, w_swap_swap, w_swap_add, w_swap_skip, w_swap_fence, w_swap_row, w_add_put, w_add_get, w_add_swap, w_add_add, w_add_skip, w_add_fence, w_add_row, w_skip_put, w_skip_get, w_skip_swap, w_skip_add, w_skip_skip, w_skip_fence, w_skip_row, w_fence_put, w_fence_get, w_fence_swap, w_fence_add, w_fence_skip, w_fence_fence, w_fence_row, w_row_put, w_row_get, w_row_swap, w_row_add, w_row_skip, w_row_fence, w_row_row, atI_map hr]
    generalize hrr : (if e.1 then Rw.fence else rows[e.2]) = r at h0
    have h0 := h0 r rfl
    have plainF : (∀ b n, r ≠ .skip b n) → lawF rows spots e = r := by
      intro hns
      rw [← hrr] at hns ⊢
      unfold lawF
      cases h1 : e.1 with
      | true => rfl
      | false =>
        rw [h1] at hns
        rw [hr]
        simp only [Bool.false_eq_true, if_false] at hns ⊢
        cases h2 : rows[e.2] <;> first | rfl | (exact absurd h2 (hns _ _))
    cases r with
    | skip b n =>
      have h1f : e.1 = false := by
        cases h1 : e.1 with
        | true => rw [h1] at hrr; cases hrr
        | false => rfl
      rw [h1f] at hrr
      have hsk : rows[e.2]? = some (.skip b n) := by rw [hr]; exact congrArg some hrr
      have hw := win _ _ _ hsk
      have hlf : lawF rows spots e = .skip b (n + (ovr spots e.2 n).length) := by
        unfold lawF
        rw [h1f, hsk]; rfl
      obtain ⟨r0, hg⟩ := goal0 spots hw
      obtain ⟨env3, h3, h4⟩ := fin _ (.fz (.lst (intT (((List.range (pos spots rows.length)).filter fun k => decide (((ord spots rows.length)[k]?.map Prod.snd) = some (e.2 + 1 + n))) ++ [pos spots rows.length])))) hlf
      refine ⟨env3, rfl, .inl ?_, h4⟩
      refine (ev_step h0).trans ((ev_step ?_).trans h3)
      have hc := c16 (k := k) rows spots hl e.2 n b (.fz (.tup (rows.map Rw.t))) (.fz (.lst (intT spots))) (.ow (.lst (acc.map Rw.t))) (.fz (.str (if e.1 then "fence" else "row"))) e7
      have hFl : ((List.range (pos spots rows.length)).filter fun k => decide (((ord spots rows.length)[k]?.map Prod.snd) = some (e.2 + 1 + n))).length ≤ 2 * rows.length := by
        refine Nat.le_trans (List.length_filter_le _ _) ?_
        rw [List.length_range]; exact hp
      generalize (List.range (pos spots rows.length)).filter (fun k => decide (((ord spots rows.length)[k]?.map Prod.snd) = some (e.2 + 1 + n))) = F at hc hg hFl ⊢
      have hb : BOp.ap .add (.lst (intT F)) (.lst [.int (((ord spots rows.length).map ordT).length : Nat)]) = some (.lst (intT (F ++ [pos spots rows.length]))) := by
        have : F.length + 1 ≤ LIM := by omega
        simp [BOp.ap, this, intT]
      have hi0 : L2.atI (intT (F ++ [pos spots rows.length])) 0 = some (.int ((pos spots (e.2 + 1 + n) : Nat) : Int)) := by rw [hg]; exact atI0 _ _
      have hidx := ord_idx spots (N := rows.length) he2
      have hdep : deps ((ord spots rows.length).map ordT) DM = true := ord_deps _ 59
      have hxd : (T.tup [.str "row", .int (e.2 : Nat)]).dep DM = true := ordT_dep (false, e.2) 59
      have hix : Bm.ap .index (.lst ((ord spots rows.length).map ordT)) [.tup [.str "row", .int (e.2 : Nat)]] = some (.int ((pos spots e.2 + (if e.2 ∈ spots then 1 else 0) : Nat) : Int)) := by
        have he : (T.tup [.str "row", .int (e.2 : Nat)]) = ordT (false, e.2) := rfl
        rw [he] at hxd ⊢
        simp only [Bm.ap, hxd, hdep, Bool.and_self, if_true, hidx, Option.map_some]
        rfl
      have hv : ((pos spots (e.2 + 1 + n) : Nat) : Int) - ((pos spots e.2 + (if e.2 ∈ spots then 1 else 0) : Nat) : Int) - 1 = ((n + (ovr spots e.2 n).length : Nat) : Int) := by
        have p1 := pos_add nd e.2 n
        have p2 := pos_succ spots e.2
        generalize (if e.2 ∈ spots then 1 else 0) = z at p2 ⊢
        omega
      have sb : ∀ a b : Int, BOp.ap .sub (.int a) (.int b) = some (.int (a - b)) := fun _ _ => rfl
      have ln : Bi.ap .len [.lst ((ord spots rows.length).map ordT)] = some (.int (((ord spots rows.length).map ordT).length : Nat)) := rfl
      simp only [Ss.ev, S.ev.eq_1, S.ev.eq_2, S.ev.eq_3, S.ev.eq_4, S.ev.eq_5, S.ev.eq_6, S.ev.eq_7, S.ev.eq_10, S.ev.eq_11, S.ev.eq_12, S.ev.eq_13, S.ev.eq_14, S.ev.eq_15, S.ev.eq_16, S.ev.eq_17, S.ev.eq_18, S.ev.eq_19, S.ev.eq_20, E.ev.eq_1, E.ev.eq_2, E.ev.eq_3, E.ev.eq_4, E.ev.eq_5, E.ev.eq_6, E.ev.eq_7, E.ev.eq_8, E.ev.eq_9, E.ev.eq_10, E.ev.eq_11, E.ev.eq_12, E.ev.eq_13, E.ev.eq_14, E.ev.eq_15, E.ev.eq_16, E.ev.eq_17, E.ev.eq_18, E.ev.eq_19, E.ev.eq_20, E.ev.eq_21, E.ev.eq_22, E.ev.eq_23, E.ev.eq_24, E.ev.eq_25, E.ev.eq_26, E.ev.eq_28, E.ev.eq_29, Es.ev, It.ev, Op.ev, Op.tst, slV, slP, ownS, ixT, T.tru, outT, Rw.t, atI0, eqS, w_put_put, w_put_get, w_put_swap, w_put_add, w_put_skip, w_put_fence, w_put_row, w_get_put, w_get_get, w_get_swap, w_get_add, w_get_skip, w_get_fence, w_get_row, w_swap_put, w_swap_get, w_swap_swap, w_swap_add, w_swap_skip, w_swap_fence, w_swap_row, w_add_put, w_add_get, w_add_swap, w_add_add, w_add_skip, w_add_fence, w_add_row, w_skip_put, w_skip_get, w_skip_swap, w_skip_add, w_skip_skip, w_skip_fence, w_skip_row, w_fence_put, w_fence_get, w_fence_swap, w_fence_add, w_fence_skip, w_fence_fence, w_fence_row, w_row_put, w_row_get, w_row_swap, w_row_add, w_row_skip, w_row_fence, w_row_row, List.getElem?_cons_zero, List.getElem?_cons_succ, Option.bind_some, Option.map_some, List.set_cons_zero, List.set_cons_succ, cond_true, ln, atI1]
      simp only [Rw.t] at hc
      rw [hc]
      simp only [Ss.ev, S.ev.eq_1, S.ev.eq_2, S.ev.eq_3, S.ev.eq_4, S.ev.eq_5, S.ev.eq_6, S.ev.eq_7, S.ev.eq_10, S.ev.eq_11, S.ev.eq_12, S.ev.eq_13, S.ev.eq_14, S.ev.eq_15, S.ev.eq_16, S.ev.eq_17, S.ev.eq_18, S.ev.eq_19, S.ev.eq_20, E.ev.eq_1, E.ev.eq_2, E.ev.eq_3, E.ev.eq_4, E.ev.eq_5, E.ev.eq_6, E.ev.eq_7, E.ev.eq_8, E.ev.eq_9, E.ev.eq_10, E.ev.eq_11, E.ev.eq_12, E.ev.eq_13, E.ev.eq_14, E.ev.eq_15, E.ev.eq_16, E.ev.eq_17, E.ev.eq_18, E.ev.eq_19, E.ev.eq_20, E.ev.eq_21, E.ev.eq_22, E.ev.eq_23, E.ev.eq_24, E.ev.eq_25, E.ev.eq_26, E.ev.eq_28, E.ev.eq_29, Es.ev, It.ev, Op.ev, Op.tst, slV, slP, ownS, ixT, T.tru, outT, Option.bind_some, Option.map_some, List.getElem?_cons_zero, List.getElem?_cons_succ, hb, List.set_cons_zero, List.set_cons_succ, atI1, hi0, hix, sb, hv, Bool.false_eq_true, if_false]
    | fence =>
      obtain ⟨env3, h3, h4⟩ := fin _ e7 (plainF fun _ _ z => nomatch z)
      refine ⟨env3, rfl, .inl ?_, h4⟩
      refine (ev_step h0).trans ((ev_step ?_).trans h3)
      simp [Ss.ev, S.ev.eq_1, S.ev.eq_2, S.ev.eq_3, S.ev.eq_4, S.ev.eq_5, S.ev.eq_6, S.ev.eq_7, S.ev.eq_10, S.ev.eq_11, S.ev.eq_12, S.ev.eq_13, S.ev.eq_14, S.ev.eq_15, S.ev.eq_16, S.ev.eq_17, S.ev.eq_18, S.ev.eq_19, S.ev.eq_20, E.ev.eq_1, E.ev.eq_2, E.ev.eq_3, E.ev.eq_4, E.ev.eq_5, E.ev.eq_6, E.ev.eq_7, E.ev.eq_8, E.ev.eq_9, E.ev.eq_10, E.ev.eq_11, E.ev.eq_12, E.ev.eq_13, E.ev.eq_14, E.ev.eq_15, E.ev.eq_16, E.ev.eq_17, E.ev.eq_18, E.ev.eq_19, E.ev.eq_20, E.ev.eq_21, E.ev.eq_22, E.ev.eq_23, E.ev.eq_24, E.ev.eq_25, E.ev.eq_26, E.ev.eq_28, E.ev.eq_29, Es.ev, It.ev, Op.ev, Op.tst, slV, slP, ownS, ixT, T.tru, outT, Rw.t, atI0, eqS, w_put_put, w_put_get, w_put_swap, w_put_add, w_put_skip, w_put_fence, w_put_row, w_get_put, w_get_get, w_get_swap, w_get_add, w_get_skip, w_get_fence, w_get_row, w_swap_put, w_swap_get, w_swap_swap, w_swap_add, w_swap_skip, w_swap_fence, w_swap_row, w_add_put, w_add_get, w_add_swap, w_add_add, w_add_skip, w_add_fence, w_add_row, w_skip_put, w_skip_get, w_skip_swap, w_skip_add, w_skip_skip, w_skip_fence, w_skip_row, w_fence_put, w_fence_get, w_fence_swap, w_fence_add, w_fence_skip, w_fence_fence, w_fence_row, w_row_put, w_row_get, w_row_swap, w_row_add, w_row_skip, w_row_fence, w_row_row]
    | put c v =>
      obtain ⟨env3, h3, h4⟩ := fin _ e7 (plainF fun _ _ z => nomatch z)
      refine ⟨env3, rfl, .inl ?_, h4⟩
      refine (ev_step h0).trans ((ev_step ?_).trans h3)
      simp [Ss.ev, S.ev.eq_1, S.ev.eq_2, S.ev.eq_3, S.ev.eq_4, S.ev.eq_5, S.ev.eq_6, S.ev.eq_7, S.ev.eq_10, S.ev.eq_11, S.ev.eq_12, S.ev.eq_13, S.ev.eq_14, S.ev.eq_15, S.ev.eq_16, S.ev.eq_17, S.ev.eq_18, S.ev.eq_19, S.ev.eq_20, E.ev.eq_1, E.ev.eq_2, E.ev.eq_3, E.ev.eq_4, E.ev.eq_5, E.ev.eq_6, E.ev.eq_7, E.ev.eq_8, E.ev.eq_9, E.ev.eq_10, E.ev.eq_11, E.ev.eq_12, E.ev.eq_13, E.ev.eq_14, E.ev.eq_15, E.ev.eq_16, E.ev.eq_17, E.ev.eq_18, E.ev.eq_19, E.ev.eq_20, E.ev.eq_21, E.ev.eq_22, E.ev.eq_23, E.ev.eq_24, E.ev.eq_25, E.ev.eq_26, E.ev.eq_28, E.ev.eq_29, Es.ev, It.ev, Op.ev, Op.tst, slV, slP, ownS, ixT, T.tru, outT, Rw.t, atI0, eqS, w_put_put, w_put_get, w_put_swap, w_put_add, w_put_skip, w_put_fence, w_put_row, w_get_put, w_get_get, w_get_swap, w_get_add, w_get_skip, w_get_fence, w_get_row, w_swap_put, w_swap_get, w_swap_swap, w_swap_add, w_swap_skip, w_swap_fence, w_swap_row, w_add_put, w_add_get, w_add_swap, w_add_add, w_add_skip, w_add_fence, w_add_row, w_skip_put, w_skip_get, w_skip_swap, w_skip_add, w_skip_skip, w_skip_fence, w_skip_row, w_fence_put, w_fence_get, w_fence_swap, w_fence_add, w_fence_skip, w_fence_fence, w_fence_row, w_row_put, w_row_get, w_row_swap, w_row_add, w_row_skip, w_row_fence, w_row_row]
    | get c v =>
      obtain ⟨env3, h3, h4⟩ := fin _ e7 (plainF fun _ _ z => nomatch z)
      refine ⟨env3, rfl, .inl ?_, h4⟩
      refine (ev_step h0).trans ((ev_step ?_).trans h3)
      simp [Ss.ev, S.ev.eq_1, S.ev.eq_2, S.ev.eq_3, S.ev.eq_4, S.ev.eq_5, S.ev.eq_6, S.ev.eq_7, S.ev.eq_10, S.ev.eq_11, S.ev.eq_12, S.ev.eq_13, S.ev.eq_14, S.ev.eq_15, S.ev.eq_16, S.ev.eq_17, S.ev.eq_18, S.ev.eq_19, S.ev.eq_20, E.ev.eq_1, E.ev.eq_2, E.ev.eq_3, E.ev.eq_4, E.ev.eq_5, E.ev.eq_6, E.ev.eq_7, E.ev.eq_8, E.ev.eq_9, E.ev.eq_10, E.ev.eq_11, E.ev.eq_12, E.ev.eq_13, E.ev.eq_14, E.ev.eq_15, E.ev.eq_16, E.ev.eq_17, E.ev.eq_18, E.ev.eq_19, E.ev.eq_20, E.ev.eq_21, E.ev.eq_22, E.ev.eq_23, E.ev.eq_24, E.ev.eq_25, E.ev.eq_26, E.ev.eq_28, E.ev.eq_29, Es.ev, It.ev, Op.ev, Op.tst, slV, slP, ownS, ixT, T.tru, outT, Rw.t, atI0, eqS, w_put_put, w_put_get, w_put_swap, w_put_add, w_put_skip, w_put_fence, w_put_row, w_get_put, w_get_get, w_get_swap, w_get_add, w_get_skip, w_get_fence, w_get_row, w_swap_put, w_swap_get, w_swap_swap, w_swap_add, w_swap_skip, w_swap_fence, w_swap_row, w_add_put, w_add_get, w_add_swap, w_add_add, w_add_skip, w_add_fence, w_add_row, w_skip_put, w_skip_get, w_skip_swap, w_skip_add, w_skip_skip, w_skip_fence, w_skip_row, w_fence_put, w_fence_get, w_fence_swap, w_fence_add, w_fence_skip, w_fence_fence, w_fence_row, w_row_put, w_row_get, w_row_swap, w_row_add, w_row_skip, w_row_fence, w_row_row]
    | swap c v w =>
      obtain ⟨env3, h3, h4⟩ := fin _ e7 (plainF fun _ _ z => nomatch z)
      refine ⟨env3, rfl, .inl ?_, h4⟩
      refine (ev_step h0).trans ((ev_step ?_).trans h3)
      simp [Ss.ev, S.ev.eq_1, S.ev.eq_2, S.ev.eq_3, S.ev.eq_4, S.ev.eq_5, S.ev.eq_6, S.ev.eq_7, S.ev.eq_10, S.ev.eq_11, S.ev.eq_12, S.ev.eq_13, S.ev.eq_14, S.ev.eq_15, S.ev.eq_16, S.ev.eq_17, S.ev.eq_18, S.ev.eq_19, S.ev.eq_20, E.ev.eq_1, E.ev.eq_2, E.ev.eq_3, E.ev.eq_4, E.ev.eq_5, E.ev.eq_6, E.ev.eq_7, E.ev.eq_8, E.ev.eq_9, E.ev.eq_10, E.ev.eq_11, E.ev.eq_12, E.ev.eq_13, E.ev.eq_14, E.ev.eq_15, E.ev.eq_16, E.ev.eq_17, E.ev.eq_18, E.ev.eq_19, E.ev.eq_20, E.ev.eq_21, E.ev.eq_22, E.ev.eq_23, E.ev.eq_24, E.ev.eq_25, E.ev.eq_26, E.ev.eq_28, E.ev.eq_29, Es.ev, It.ev, Op.ev, Op.tst, slV, slP, ownS, ixT, T.tru, outT, Rw.t, atI0, eqS, w_put_put, w_put_get, w_put_swap, w_put_add, w_put_skip, w_put_fence, w_put_row, w_get_put, w_get_get, w_get_swap, w_get_add, w_get_skip, w_get_fence, w_get_row, w_swap_put, w_swap_get, w_swap_swap, w_swap_add, w_swap_skip, w_swap_fence, w_swap_row, w_add_put, w_add_get, w_add_swap, w_add_add, w_add_skip, w_add_fence, w_add_row, w_skip_put, w_skip_get, w_skip_swap, w_skip_add, w_skip_skip, w_skip_fence, w_skip_row, w_fence_put, w_fence_get, w_fence_swap, w_fence_add, w_fence_skip, w_fence_fence, w_fence_row, w_row_put, w_row_get, w_row_swap, w_row_add, w_row_skip, w_row_fence, w_row_row]
    | add c v w =>
      obtain ⟨env3, h3, h4⟩ := fin _ e7 (plainF fun _ _ z => nomatch z)
      refine ⟨env3, rfl, .inl ?_, h4⟩
      refine (ev_step h0).trans ((ev_step ?_).trans h3)
      simp [Ss.ev, S.ev.eq_1, S.ev.eq_2, S.ev.eq_3, S.ev.eq_4, S.ev.eq_5, S.ev.eq_6, S.ev.eq_7, S.ev.eq_10, S.ev.eq_11, S.ev.eq_12, S.ev.eq_13, S.ev.eq_14, S.ev.eq_15, S.ev.eq_16, S.ev.eq_17, S.ev.eq_18, S.ev.eq_19, S.ev.eq_20, E.ev.eq_1, E.ev.eq_2, E.ev.eq_3, E.ev.eq_4, E.ev.eq_5, E.ev.eq_6, E.ev.eq_7, E.ev.eq_8, E.ev.eq_9, E.ev.eq_10, E.ev.eq_11, E.ev.eq_12, E.ev.eq_13, E.ev.eq_14, E.ev.eq_15, E.ev.eq_16, E.ev.eq_17, E.ev.eq_18, E.ev.eq_19, E.ev.eq_20, E.ev.eq_21, E.ev.eq_22, E.ev.eq_23, E.ev.eq_24, E.ev.eq_25, E.ev.eq_26, E.ev.eq_28, E.ev.eq_29, Es.ev, It.ev, Op.ev, Op.tst, slV, slP, ownS, ixT, T.tru, outT, Rw.t, atI0, eqS, w_put_put, w_put_get, w_put_swap, w_put_add, w_put_skip, w_put_fence, w_put_row, w_get_put, w_get_get, w_get_swap, w_get_add, w_get_skip, w_get_fence, w_get_row, w_swap_put, w_swap_get, w_swap_swap, w_swap_add, w_swap_skip, w_swap_fence, w_swap_row, w_add_put, w_add_get, w_add_swap, w_add_add, w_add_skip, w_add_fence, w_add_row, w_skip_put, w_skip_get, w_skip_swap, w_skip_add, w_skip_skip, w_skip_fence, w_skip_row, w_fence_put, w_fence_get, w_fence_swap, w_fence_add, w_fence_skip, w_fence_fence, w_fence_row, w_row_put, w_row_get, w_row_swap, w_row_add, w_row_skip, w_row_fence, w_row_row]
  obtain ⟨env', h2, e3', e5, e6, e7, rfl⟩ := ev_for (P := tab.pg k) (env := [.fz (.tup (rows.map Rw.t)), .fz (.lst (intT spots)), .fz (.lst ((ord spots rows.length).map ordT)), e3, .ow (.lst []), .no, .no, .no, .no]) (tg := .tt [5, 3]) (it := .it (.v 2)) (b := l16_2) (J16 rows spots) rfl ⟨_, _, _, _, rfl⟩ hs
  refine (congrArg outT (ev_step h2)).trans ?_
  rw [List.length_map, List.take_length, ← fencedL_ord]
  simp [Ss.ev, S.ev.eq_1, S.ev.eq_2, S.ev.eq_3, S.ev.eq_4, S.ev.eq_5, S.ev.eq_6, S.ev.eq_7, S.ev.eq_10, S.ev.eq_11, S.ev.eq_12, S.ev.eq_13, S.ev.eq_14, S.ev.eq_15, S.ev.eq_16, S.ev.eq_17, S.ev.eq_18, S.ev.eq_19, S.ev.eq_20, E.ev.eq_1, E.ev.eq_2, E.ev.eq_3, E.ev.eq_4, E.ev.eq_5, E.ev.eq_6, E.ev.eq_7, E.ev.eq_8, E.ev.eq_9, E.ev.eq_10, E.ev.eq_11, E.ev.eq_12, E.ev.eq_13, E.ev.eq_14, E.ev.eq_15, E.ev.eq_16, E.ev.eq_17, E.ev.eq_18, E.ev.eq_19, E.ev.eq_20, E.ev.eq_21, E.ev.eq_22, E.ev.eq_23, E.ev.eq_24, E.ev.eq_25, E.ev.eq_26, E.ev.eq_28, E.ev.eq_29, Es.ev, It.ev, Op.ev, Op.tst, slV, slP, ownS, ixT, T.tru, outT, Bi.ap]
end
end Tx

set_option Elab.async false
set_option linter.all false
set_option autoImplicit false
set_option maxRecDepth 100000
set_option maxHeartbeats 4000000
namespace Tx
open PySem Fe
def bareP (p : Pl) : Pl := ⟨p.cells, p.ths.map bareL⟩
def plcT (l : List (Nat × Nat)) : List T := l.map fun q => .tup [.int (q.1 : Nat), .int (q.2 : Nat)]
def spotsOf (l : List (Nat × Nat)) (t : Nat) : List Nat := (l.filter fun q => decide (q.1 = t)).map (·.2)
def fencedP (p : Pl) (l : List (Nat × Nat)) : Pl := ⟨p.cells, p.ths.mapIdx fun t r => fencedL r (spotsOf l t)⟩
def Sm (p : Pl) : Prop := p.ths.length ≤ 1000 ∧ ∀ r ∈ p.ths, r.length ≤ 1000
section
variable {k : Nat}
theorem bareL_len (r : List Rw) : (bareL r).length ≤ r.length := fm_len' _ _
theorem Sm.bare {p : Pl} (h : Sm p) : Sm (bareP p) := by
  refine ⟨by simpa [bareP] using h.1, fun r hr => ?_⟩
  obtain ⟨q, hq, rfl⟩ := List.mem_map.mp hr
  exact Nat.le_trans (bareL_len q) (h.2 q hq)
theorem c3 (l : List (List Rw)) (h : ∀ r ∈ l, r.length ≤ 1000) (s0 s1 : Sl) : c3_0.ev (tab.pg (k + 1)) [s0, s1, .fz (.tup (thsT l)), .no] = some (.lst (thsT (l.map bareL))) := by
  unfold thsT
  rw [List.map_map]
  refine ev_lcB l (fun r => .tup (r.map Rw.t)) _ rfl fun r hr => ⟨_, rfl, rfl, ?_⟩
  simp only [Ss.ev, S.ev.eq_1, S.ev.eq_2, S.ev.eq_3, S.ev.eq_4, S.ev.eq_5, S.ev.eq_6, S.ev.eq_7, S.ev.eq_10, S.ev.eq_11, S.ev.eq_12, S.ev.eq_13, S.ev.eq_14, S.ev.eq_15, S.ev.eq_16, S.ev.eq_17, S.ev.eq_18, S.ev.eq_19, S.ev.eq_20, E.ev.eq_1, E.ev.eq_2, E.ev.eq_3, E.ev.eq_4, E.ev.eq_5, E.ev.eq_6, E.ev.eq_7, E.ev.eq_8, E.ev.eq_9, E.ev.eq_10, E.ev.eq_11, E.ev.eq_12, E.ev.eq_13, E.ev.eq_14, E.ev.eq_15, E.ev.eq_16, E.ev.eq_17, E.ev.eq_18, E.ev.eq_19, E.ev.eq_20, E.ev.eq_21, E.ev.eq_22, E.ev.eq_23, E.ev.eq_24, E.ev.eq_25, E.ev.eq_26, E.ev.eq_28, E.ev.eq_29, Es.ev, It.ev, Op.ev, Op.tst, slV, slP, ownS, ixT, T.tru, outT, Option.bind_some, Option.map_some]
  exact bare_rows r (h r hr)
theorem bare (p : Pl) (h : Sm p) : (tab.pg (k + 5)).fn 3 [p.o] = some (bareP p).o := by
  rw [fnS]
  show outT (b3.ev (tab.pg (k + 4)) [.fz p.o, .no, .no, .no]) = _
  have h1 := plain_of (k := k + 2) p
  have h2 := program_of (k := k) (bareP p)
  simp only [b3, Ss.ev, S.ev.eq_1, S.ev.eq_2, S.ev.eq_3, S.ev.eq_4, S.ev.eq_5, S.ev.eq_6, S.ev.eq_7, S.ev.eq_10, S.ev.eq_11, S.ev.eq_12, S.ev.eq_13, S.ev.eq_14, S.ev.eq_15, S.ev.eq_16, S.ev.eq_17, S.ev.eq_18, S.ev.eq_19, S.ev.eq_20, E.ev.eq_1, E.ev.eq_2, E.ev.eq_3, E.ev.eq_4, E.ev.eq_5, E.ev.eq_6, E.ev.eq_7, E.ev.eq_8, E.ev.eq_9, E.ev.eq_10, E.ev.eq_11, E.ev.eq_12, E.ev.eq_13, E.ev.eq_14, E.ev.eq_15, E.ev.eq_16, E.ev.eq_17, E.ev.eq_18, E.ev.eq_19, E.ev.eq_20, E.ev.eq_21, E.ev.eq_22, E.ev.eq_23, E.ev.eq_24, E.ev.eq_25, E.ev.eq_26, E.ev.eq_28, E.ev.eq_29, Es.ev, It.ev, Op.ev, Op.tst, slV, slP, ownS, ixT, T.tru, outT, List.getElem?_cons_zero, Option.bind_some, h1]
  simp only [Pl.t, Tg.bind, Ss.ev, S.ev.eq_1, S.ev.eq_2, S.ev.eq_3, S.ev.eq_4, S.ev.eq_5, S.ev.eq_6, S.ev.eq_7, S.ev.eq_10, S.ev.eq_11, S.ev.eq_12, S.ev.eq_13, S.ev.eq_14, S.ev.eq_15, S.ev.eq_16, S.ev.eq_17, S.ev.eq_18, S.ev.eq_19, S.ev.eq_20, E.ev.eq_1, E.ev.eq_2, E.ev.eq_3, E.ev.eq_4, E.ev.eq_5, E.ev.eq_6, E.ev.eq_7, E.ev.eq_8, E.ev.eq_9, E.ev.eq_10, E.ev.eq_11, E.ev.eq_12, E.ev.eq_13, E.ev.eq_14, E.ev.eq_15, E.ev.eq_16, E.ev.eq_17, E.ev.eq_18, E.ev.eq_19, E.ev.eq_20, E.ev.eq_21, E.ev.eq_22, E.ev.eq_23, E.ev.eq_24, E.ev.eq_25, E.ev.eq_26, E.ev.eq_28, E.ev.eq_29, Es.ev, It.ev, Op.ev, Op.tst, slV, slP, ownS, ixT, T.tru, outT, List.getElem?_cons_zero, List.getElem?_cons_succ, Option.bind_some, Option.map_some, List.length_cons, List.length_nil, if_true, List.zip_cons_cons, List.zip_nil_left, List.foldl_cons, List.foldl_nil, List.set_cons_succ, List.set_cons_zero, c3 p.ths h.2, Bi.ap]
  simp only [Pl.t, bareP] at h2
  rw [h2]
  rfl
theorem c15 (cs : T) (l : List (List Rw)) (h : ∀ r ∈ l, r.length ≤ 1000) : c15_0.ev (tab.pg (k + 1)) [.fz (.tup [cs, .tup (thsT l)]), .no] = some (.lst (thsT (l.map bareL))) := by
  unfold thsT
  rw [List.map_map]
  refine ev_lcB l (fun r => .tup (r.map Rw.t)) _ ?_ fun r hr => ⟨_, rfl, rfl, ?_⟩
  · simp [Ss.ev, S.ev.eq_1, S.ev.eq_2, S.ev.eq_3, S.ev.eq_4, S.ev.eq_5, S.ev.eq_6, S.ev.eq_7, S.ev.eq_10, S.ev.eq_11, S.ev.eq_12, S.ev.eq_13, S.ev.eq_14, S.ev.eq_15, S.ev.eq_16, S.ev.eq_17, S.ev.eq_18, S.ev.eq_19, S.ev.eq_20, E.ev.eq_1, E.ev.eq_2, E.ev.eq_3, E.ev.eq_4, E.ev.eq_5, E.ev.eq_6, E.ev.eq_7, E.ev.eq_8, E.ev.eq_9, E.ev.eq_10, E.ev.eq_11, E.ev.eq_12, E.ev.eq_13, E.ev.eq_14, E.ev.eq_15, E.ev.eq_16, E.ev.eq_17, E.ev.eq_18, E.ev.eq_19, E.ev.eq_20, E.ev.eq_21, E.ev.eq_22, E.ev.eq_23, E.ev.eq_24, E.ev.eq_25, E.ev.eq_26, E.ev.eq_28, E.ev.eq_29, Es.ev, It.ev, Op.ev, Op.tst, slV, slP, ownS, ixT, T.tru, outT, atI1]; rfl
  · simp only [Ss.ev, S.ev.eq_1, S.ev.eq_2, S.ev.eq_3, S.ev.eq_4, S.ev.eq_5, S.ev.eq_6, S.ev.eq_7, S.ev.eq_10, S.ev.eq_11, S.ev.eq_12, S.ev.eq_13, S.ev.eq_14, S.ev.eq_15, S.ev.eq_16, S.ev.eq_17, S.ev.eq_18, S.ev.eq_19, S.ev.eq_20, E.ev.eq_1, E.ev.eq_2, E.ev.eq_3, E.ev.eq_4, E.ev.eq_5, E.ev.eq_6, E.ev.eq_7, E.ev.eq_8, E.ev.eq_9, E.ev.eq_10, E.ev.eq_11, E.ev.eq_12, E.ev.eq_13, E.ev.eq_14, E.ev.eq_15, E.ev.eq_16, E.ev.eq_17, E.ev.eq_18, E.ev.eq_19, E.ev.eq_20, E.ev.eq_21, E.ev.eq_22, E.ev.eq_23, E.ev.eq_24, E.ev.eq_25, E.ev.eq_26, E.ev.eq_28, E.ev.eq_29, Es.ev, It.ev, Op.ev, Op.tst, slV, slP, ownS, ixT, T.tru, outT, Option.bind_some, Option.map_some]
    exact law_bare_rows r (h r hr)
theorem law_bare (p : Pl) (h : Sm p) : (tab.pg (k + 2)).fn 15 [p.t] = some (bareP p).t := by
  rw [fnS]
  show outT (b15.ev (tab.pg (k + 1)) [.fz p.t, .no]) = _
  simp only [Pl.t, b15, Ss.ev, S.ev.eq_1, S.ev.eq_2, S.ev.eq_3, S.ev.eq_4, S.ev.eq_5, S.ev.eq_6, S.ev.eq_7, S.ev.eq_10, S.ev.eq_11, S.ev.eq_12, S.ev.eq_13, S.ev.eq_14, S.ev.eq_15, S.ev.eq_16, S.ev.eq_17, S.ev.eq_18, S.ev.eq_19, S.ev.eq_20, E.ev.eq_1, E.ev.eq_2, E.ev.eq_3, E.ev.eq_4, E.ev.eq_5, E.ev.eq_6, E.ev.eq_7, E.ev.eq_8, E.ev.eq_9, E.ev.eq_10, E.ev.eq_11, E.ev.eq_12, E.ev.eq_13, E.ev.eq_14, E.ev.eq_15, E.ev.eq_16, E.ev.eq_17, E.ev.eq_18, E.ev.eq_19, E.ev.eq_20, E.ev.eq_21, E.ev.eq_22, E.ev.eq_23, E.ev.eq_24, E.ev.eq_25, E.ev.eq_26, E.ev.eq_28, E.ev.eq_29, Es.ev, It.ev, Op.ev, Op.tst, slV, slP, ownS, ixT, T.tru, outT, List.getElem?_cons_zero, Option.bind_some, c15 _ _ h.2, Bi.ap, Option.map_some, atI0]
  rfl
theorem c5 (pl : List (Nat × Nat)) (t : Nat) (s0 s2 s3 s4 s6 : Sl) : c5_0.ev (tab.pg k) [s0, .bw (.lst (plcT pl)), s2, s3, s4, .fz (.int (t : Nat)), s6, .no, .no] = some (.lst (intT (spotsOf pl t))) := by
  unfold intT spotsOf
  rw [List.map_map]
  refine ev_lcA pl (fun q => .tup [.int (q.1 : Nat), .int (q.2 : Nat)]) _ _ rfl fun q _ => ⟨_, rfl, ?_, fun _ => rfl⟩
  have : ((q.1 : Int) == (t : Int)) = decide (q.1 = t) := by rw [Bool.eq_iff_iff]; simp only [beq_iff_eq, decide_eq_true_eq]; omega
  simp [Ss.ev, S.ev.eq_1, S.ev.eq_2, S.ev.eq_3, S.ev.eq_4, S.ev.eq_5, S.ev.eq_6, S.ev.eq_7, S.ev.eq_10, S.ev.eq_11, S.ev.eq_12, S.ev.eq_13, S.ev.eq_14, S.ev.eq_15, S.ev.eq_16, S.ev.eq_17, S.ev.eq_18, S.ev.eq_19, S.ev.eq_20, E.ev.eq_1, E.ev.eq_2, E.ev.eq_3, E.ev.eq_4, E.ev.eq_5, E.ev.eq_6, E.ev.eq_7, E.ev.eq_8, E.ev.eq_9, E.ev.eq_10, E.ev.eq_11, E.ev.eq_12, E.ev.eq_13, E.ev.eq_14, E.ev.eq_15, E.ev.eq_16, E.ev.eq_17, E.ev.eq_18, E.ev.eq_19, E.ev.eq_20, E.ev.eq_21, E.ev.eq_22, E.ev.eq_23, E.ev.eq_24, E.ev.eq_25, E.ev.eq_26, E.ev.eq_28, E.ev.eq_29, Es.ev, It.ev, Op.ev, Op.tst, slV, slP, ownS, ixT, T.tru, outT, wipeE, COp.ap, eqOk, T.dep, T.eqv, T.toD, PyData.eqv, this]
def I5 (p : Pl) (pl : List (Nat × Nat)) (s0 s2 s3 : Sl) (i : Nat) (env : En) : Prop := ∃ e5 e6, env = [s0, .bw (.lst (plcT pl)), s2, s3, .ow (.lst (thsT ((p.ths.mapIdx fun t r => fencedL r (spotsOf pl t)).take i))), e5, e6, .no, .no]
theorem take_idx {α β : Type} {f : Nat → α → β} {l : List α} {i : Nat} {a : α} (h : l[i]? = some a) : (l.mapIdx f).take (i + 1) = (l.mapIdx f).take i ++ [f i a] := by
  rw [List.take_add_one, List.getElem?_mapIdx, h]; rfl
theorem fenced (p : Pl) (pl : List (Nat × Nat)) (h : Sm p) : (tab.pg (k + 6)).fn 5 [p.o, .lst (plcT pl)] = some (fencedP (bareP p) pl).o := by
  rw [fnS]
  show outT (b5.ev (tab.pg (k + 5)) [.fz p.o, .bw (.lst (plcT pl)), .no, .no, .no, .no, .no, .no, .no]) = _
  have h1 := plain_of (k := k + 3) (bareP p)
  have h2 := program_of (k := k + 1) (fencedP (bareP p) pl)
  have h3 := bare (k := k) p h
  unfold b5
  rw [ev_step (env' := [.fz p.o, .bw (.lst (plcT pl)), .fz (.tup (celT p.cells)), .fz (.tup (thsT (bareP p).ths)), .no, .no, .no, .no, .no]) (by
    simp only [Ss.ev, S.ev.eq_1, S.ev.eq_2, S.ev.eq_3, S.ev.eq_4, S.ev.eq_5, S.ev.eq_6, S.ev.eq_7, S.ev.eq_10, S.ev.eq_11, S.ev.eq_12, S.ev.eq_13, S.ev.eq_14, S.ev.eq_15, S.ev.eq_16, S.ev.eq_17, S.ev.eq_18, S.ev.eq_19, S.ev.eq_20, E.ev.eq_1, E.ev.eq_2, E.ev.eq_3, E.ev.eq_4, E.ev.eq_5, E.ev.eq_6, E.ev.eq_7, E.ev.eq_8, E.ev.eq_9, E.ev.eq_10, E.ev.eq_11, E.ev.eq_12, E.ev.eq_13, E.ev.eq_14, E.ev.eq_15, E.ev.eq_16, E.ev.eq_17, E.ev.eq_18, E.ev.eq_19, E.ev.eq_20, E.ev.eq_21, E.ev.eq_22, E.ev.eq_23, E.ev.eq_24, E.ev.eq_25, E.ev.eq_26, E.ev.eq_28, E.ev.eq_29, Es.ev, It.ev, Op.ev, Op.tst, slV, slP, ownS, ixT, T.tru, outT, List.getElem?_cons_zero, Option.bind_some, Option.map_some, h3, h1]
    rfl)]
  rw [ev_step (env' := [.fz p.o, .bw (.lst (plcT pl)), .fz (.tup (celT p.cells)), .fz (.tup (thsT (bareP p).ths)), .ow (.lst []), .no, .no, .no, .no]) rfl]
  obtain ⟨env', h4, e5, e6, rfl⟩ := ev_for (P := tab.pg (k + 5)) (env := [.fz p.o, .bw (.lst (plcT pl)), .fz (.tup (celT p.cells)), .fz (.tup (thsT (bareP p).ths)), .ow (.lst []), .no, .no, .no, .no]) (tg := .tt [5, 6]) (it := .enu (.v 3)) (ts := enumT 0 (thsT (bareP p).ths)) (b := l5_1)
    (I5 (bareP p) pl (.fz p.o) (.fz (.tup (celT p.cells))) (.fz (.tup (thsT (bareP p).ths)))) rfl ⟨_, _, rfl⟩ (by
    rintro i t env ht ⟨e5, e6, rfl⟩
    obtain ⟨u, hu, rfl⟩ := enum_at ht
    unfold thsT at hu
    rw [List.getElem?_map] at hu
    obtain ⟨r, hr, rfl⟩ := mpd hu
    have hi : i < (bareP p).ths.length := (List.getElem?_eq_some_iff.mp hr).1
    have hrl := h.bare.2 r (List.mem_of_getElem? hr)
    have hfr := fenced_rows (k := k + 4) r (spotsOf pl i) hrl
    have hL : LIM = 16777216 := rfl
    have hlen : (thsT (((bareP p).ths.mapIdx fun t r => fencedL r (spotsOf pl t)).take i)).length < LIM := by
      have := h.bare.1
      unfold thsT
      rw [List.length_map, List.length_take]; omega
    generalize hacc : thsT (((bareP p).ths.mapIdx fun t r => fencedL r (spotsOf pl t)).take i) = acc at hlen
    refine ⟨_, [.fz p.o, .bw (.lst (plcT pl)), .fz (.tup (celT p.cells)), .fz (.tup (thsT (bareP p).ths)), .ow (.lst (acc ++ [.tup ((fencedL r (spotsOf pl i)).map Rw.t)])), .fz (.int (i : Nat)), .fz (.tup (r.map Rw.t)), .no, .no], rfl, .inl ?_, .fz (.int (i : Nat)), .fz (.tup (r.map Rw.t)), ?_⟩
    · simp [l5_1, Ss.ev, S.ev.eq_1, S.ev.eq_2, S.ev.eq_3, S.ev.eq_4, S.ev.eq_5, S.ev.eq_6, S.ev.eq_7, S.ev.eq_10, S.ev.eq_11, S.ev.eq_12, S.ev.eq_13, S.ev.eq_14, S.ev.eq_15, S.ev.eq_16, S.ev.eq_17, S.ev.eq_18, S.ev.eq_19, S.ev.eq_20, E.ev.eq_1, E.ev.eq_2, E.ev.eq_3, E.ev.eq_4, E.ev.eq_5, E.ev.eq_6, E.ev.eq_7, E.ev.eq_8, E.ev.eq_9, E.ev.eq_10, E.ev.eq_11, E.ev.eq_12, E.ev.eq_13, E.ev.eq_14, E.ev.eq_15, E.ev.eq_16, E.ev.eq_17, E.ev.eq_18, E.ev.eq_19, E.ev.eq_20, E.ev.eq_21, E.ev.eq_22, E.ev.eq_23, E.ev.eq_24, E.ev.eq_25, E.ev.eq_26, E.ev.eq_28, E.ev.eq_29, Es.ev, It.ev, Op.ev, Op.tst, slV, slP, ownS, ixT, T.tru, outT, c5, hfr, slO, Lm.ap, hlen]
    · rw [take_idx hr]
      unfold thsT at hacc ⊢
      rw [List.map_append, hacc]; rfl)
  refine (congrArg outT (ev_step h4)).trans ?_
  have hln : (enumT 0 (thsT (bareP p).ths)).length = ((bareP p).ths.mapIdx fun t r => fencedL r (spotsOf pl t)).length := by
    rw [enumT_len]; simp [thsT]
  rw [hln, List.take_length]
  simp only [Ss.ev, S.ev.eq_1, S.ev.eq_2, S.ev.eq_3, S.ev.eq_4, S.ev.eq_5, S.ev.eq_6, S.ev.eq_7, S.ev.eq_10, S.ev.eq_11, S.ev.eq_12, S.ev.eq_13, S.ev.eq_14, S.ev.eq_15, S.ev.eq_16, S.ev.eq_17, S.ev.eq_18, S.ev.eq_19, S.ev.eq_20, E.ev.eq_1, E.ev.eq_2, E.ev.eq_3, E.ev.eq_4, E.ev.eq_5, E.ev.eq_6, E.ev.eq_7, E.ev.eq_8, E.ev.eq_9, E.ev.eq_10, E.ev.eq_11, E.ev.eq_12, E.ev.eq_13, E.ev.eq_14, E.ev.eq_15, E.ev.eq_16, E.ev.eq_17, E.ev.eq_18, E.ev.eq_19, E.ev.eq_20, E.ev.eq_21, E.ev.eq_22, E.ev.eq_23, E.ev.eq_24, E.ev.eq_25, E.ev.eq_26, E.ev.eq_28, E.ev.eq_29, Es.ev, It.ev, Op.ev, Op.tst, slV, slP, ownS, ixT, T.tru, outT, List.getElem?_cons_zero, List.getElem?_cons_succ, Option.bind_some, Option.map_some, Bi.ap]
  simp only [Pl.t, fencedP, bareP] at h2 ⊢
  rw [h2]
  rfl
theorem c17 (pl : List (Nat × Nat)) (t : Nat) (s0 s2 s4 : Sl) : c17_0.ev (tab.pg k) [s0, .fz (.lst (plcT pl)), s2, .fz (.int (t : Nat)), s4, .no, .no] = some (.lst (intT (spotsOf pl t))) := by
  unfold intT spotsOf
  rw [List.map_map]
  refine ev_lcA pl (fun q => .tup [.int (q.1 : Nat), .int (q.2 : Nat)]) _ _ rfl fun q _ => ⟨_, rfl, ?_, fun _ => rfl⟩
  have : ((q.1 : Int) == (t : Int)) = decide (q.1 = t) := by rw [Bool.eq_iff_iff]; simp only [beq_iff_eq, decide_eq_true_eq]; omega
  simp [Ss.ev, S.ev.eq_1, S.ev.eq_2, S.ev.eq_3, S.ev.eq_4, S.ev.eq_5, S.ev.eq_6, S.ev.eq_7, S.ev.eq_10, S.ev.eq_11, S.ev.eq_12, S.ev.eq_13, S.ev.eq_14, S.ev.eq_15, S.ev.eq_16, S.ev.eq_17, S.ev.eq_18, S.ev.eq_19, S.ev.eq_20, E.ev.eq_1, E.ev.eq_2, E.ev.eq_3, E.ev.eq_4, E.ev.eq_5, E.ev.eq_6, E.ev.eq_7, E.ev.eq_8, E.ev.eq_9, E.ev.eq_10, E.ev.eq_11, E.ev.eq_12, E.ev.eq_13, E.ev.eq_14, E.ev.eq_15, E.ev.eq_16, E.ev.eq_17, E.ev.eq_18, E.ev.eq_19, E.ev.eq_20, E.ev.eq_21, E.ev.eq_22, E.ev.eq_23, E.ev.eq_24, E.ev.eq_25, E.ev.eq_26, E.ev.eq_28, E.ev.eq_29, Es.ev, It.ev, Op.ev, Op.tst, slV, slP, ownS, ixT, T.tru, outT, wipeE, COp.ap, eqOk, T.dep, T.eqv, T.toD, PyData.eqv, this]
def I17 (p : Pl) (pl : List (Nat × Nat)) (i : Nat) (env : En) : Prop := ∃ e3 e4, env = [.fz p.t, .fz (.lst (plcT pl)), .ow (.lst (thsT ((p.ths.mapIdx fun t r => fencedL r (spotsOf pl t)).take i))), e3, e4, .no, .no]
theorem law_fenced (p : Pl) (pl : List (Nat × Nat)) (h : Sm p) (nd : ∀ t, (spotsOf pl t).Nodup) (win : ∀ r ∈ p.ths, Win r) : (tab.pg (k + 2)).fn 17 [p.t, .lst (plcT pl)] = some (fencedP p pl).t := by
  rw [fnS]
  show outT (b17.ev (tab.pg (k + 1)) [.fz p.t, .fz (.lst (plcT pl)), .no, .no, .no, .no, .no]) = _
  unfold b17
  rw [ev_step (env' := [.fz p.t, .fz (.lst (plcT pl)), .ow (.lst []), .no, .no, .no, .no]) rfl]
  obtain ⟨env', h4, e3, e4, rfl⟩ := ev_for (P := tab.pg (k + 1)) (env := [.fz p.t, .fz (.lst (plcT pl)), .ow (.lst []), .no, .no, .no, .no]) (tg := .tt [3, 4]) (it := .enu (.ix (.v 0) (.k (.int 1)))) (ts := enumT 0 (thsT p.ths)) (b := l17_1)
    (I17 p pl) (by simp [Ss.ev, S.ev.eq_1, S.ev.eq_2, S.ev.eq_3, S.ev.eq_4, S.ev.eq_5, S.ev.eq_6, S.ev.eq_7, S.ev.eq_10, S.ev.eq_11, S.ev.eq_12, S.ev.eq_13, S.ev.eq_14, S.ev.eq_15, S.ev.eq_16, S.ev.eq_17, S.ev.eq_18, S.ev.eq_19, S.ev.eq_20, E.ev.eq_1, E.ev.eq_2, E.ev.eq_3, E.ev.eq_4, E.ev.eq_5, E.ev.eq_6, E.ev.eq_7, E.ev.eq_8, E.ev.eq_9, E.ev.eq_10, E.ev.eq_11, E.ev.eq_12, E.ev.eq_13, E.ev.eq_14, E.ev.eq_15, E.ev.eq_16, E.ev.eq_17, E.ev.eq_18, E.ev.eq_19, E.ev.eq_20, E.ev.eq_21, E.ev.eq_22, E.ev.eq_23, E.ev.eq_24, E.ev.eq_25, E.ev.eq_26, E.ev.eq_28, E.ev.eq_29, Es.ev, It.ev, Op.ev, Op.tst, slV, slP, ownS, ixT, T.tru, outT, Pl.t, atI1, enuT]) ⟨_, _, rfl⟩ (by
    rintro i t env ht ⟨e3, e4, rfl⟩
    obtain ⟨u, hu, rfl⟩ := enum_at ht
    unfold thsT at hu
    rw [List.getElem?_map] at hu
    obtain ⟨r, hr, rfl⟩ := mpd hu
    have hi : i < p.ths.length := (List.getElem?_eq_some_iff.mp hr).1
    have hrl := h.2 r (List.mem_of_getElem? hr)
    have hfr := law_fenced_rows (k := k) r (spotsOf pl i) hrl (nd i) (win r (List.mem_of_getElem? hr))
    have hL : LIM = 16777216 := rfl
    have hlen : (thsT ((p.ths.mapIdx fun t r => fencedL r (spotsOf pl t)).take i)).length < LIM := by
      have := h.1
      unfold thsT
      rw [List.length_map, List.length_take]; omega
    generalize hacc : thsT ((p.ths.mapIdx fun t r => fencedL r (spotsOf pl t)).take i) = acc at hlen
    refine ⟨_, [.fz p.t, .fz (.lst (plcT pl)), .ow (.lst (acc ++ [.tup ((fencedL r (spotsOf pl i)).map Rw.t)])), .fz (.int (i : Nat)), .fz (.tup (r.map Rw.t)), .no, .no], rfl, .inl ?_, .fz (.int (i : Nat)), .fz (.tup (r.map Rw.t)), ?_⟩
    · simp [l17_1, Ss.ev, S.ev.eq_1, S.ev.eq_2, S.ev.eq_3, S.ev.eq_4, S.ev.eq_5, S.ev.eq_6, S.ev.eq_7, S.ev.eq_10, S.ev.eq_11, S.ev.eq_12, S.ev.eq_13, S.ev.eq_14, S.ev.eq_15, S.ev.eq_16, S.ev.eq_17, S.ev.eq_18, S.ev.eq_19, S.ev.eq_20, E.ev.eq_1, E.ev.eq_2, E.ev.eq_3, E.ev.eq_4, E.ev.eq_5, E.ev.eq_6, E.ev.eq_7, E.ev.eq_8, E.ev.eq_9, E.ev.eq_10, E.ev.eq_11, E.ev.eq_12, E.ev.eq_13, E.ev.eq_14, E.ev.eq_15, E.ev.eq_16, E.ev.eq_17, E.ev.eq_18, E.ev.eq_19, E.ev.eq_20, E.ev.eq_21, E.ev.eq_22, E.ev.eq_23, E.ev.eq_24, E.ev.eq_25, E.ev.eq_26, E.ev.eq_28, E.ev.eq_29, Es.ev, It.ev, Op.ev, Op.tst, slV, slP, ownS, ixT, T.tru, outT, c17, hfr, slO, Lm.ap, hlen]
    · rw [take_idx hr]
      unfold thsT at hacc ⊢
      rw [List.map_append, hacc]; rfl)
  refine (congrArg outT (ev_step h4)).trans ?_
  have hln : (enumT 0 (thsT p.ths)).length = (p.ths.mapIdx fun t r => fencedL r (spotsOf pl t)).length := by
    rw [enumT_len]; simp [thsT]
  rw [hln, List.take_length]
  simp [Ss.ev, S.ev.eq_1, S.ev.eq_2, S.ev.eq_3, S.ev.eq_4, S.ev.eq_5, S.ev.eq_6, S.ev.eq_7, S.ev.eq_10, S.ev.eq_11, S.ev.eq_12, S.ev.eq_13, S.ev.eq_14, S.ev.eq_15, S.ev.eq_16, S.ev.eq_17, S.ev.eq_18, S.ev.eq_19, S.ev.eq_20, E.ev.eq_1, E.ev.eq_2, E.ev.eq_3, E.ev.eq_4, E.ev.eq_5, E.ev.eq_6, E.ev.eq_7, E.ev.eq_8, E.ev.eq_9, E.ev.eq_10, E.ev.eq_11, E.ev.eq_12, E.ev.eq_13, E.ev.eq_14, E.ev.eq_15, E.ev.eq_16, E.ev.eq_17, E.ev.eq_18, E.ev.eq_19, E.ev.eq_20, E.ev.eq_21, E.ev.eq_22, E.ev.eq_23, E.ev.eq_24, E.ev.eq_25, E.ev.eq_26, E.ev.eq_28, E.ev.eq_29, Es.ev, It.ev, Op.ev, Op.tst, slV, slP, ownS, ixT, T.tru, outT, Pl.t, fencedP, atI0, Bi.ap]
end
end Tx

set_option Elab.async false
set_option linter.all false
set_option autoImplicit false
set_option maxRecDepth 100000
set_option maxHeartbeats 4000000
namespace Tx
open PySem Fe
def NoF (rows : List Rw) : Prop := ∀ r ∈ rows, r.isF = false
theorem cnt_nof {l : List Rw} (h : NoF l) : cnt l = l.length := by
  unfold cnt
  rw [List.filter_eq_self.mpr fun r hr => by simp [h r hr]]
theorem cnt_le (l : List Rw) : cnt l ≤ l.length := List.length_filter_le _ _
theorem cnt_take (l : List Rw) (m : Nat) : cnt (l.take m) ≤ cnt l := by
  have := cnt_app (l.take m) (l.drop m)
  rw [List.take_append_drop] at this
  omega
theorem sorted_at {j i : Nat} : ∀ {L : List Nat}, L.Pairwise (· < ·) → L[j]? = some i → (L.filter fun k => decide (k < i)).length = j := by
  induction j with
  | zero =>
    intro L hp h
    cases L with
    | nil => cases h
    | cons a L =>
      cases h
      rw [List.pairwise_cons] at hp
      rw [List.filter_eq_nil_iff.mpr]
      · rfl
      · intro k hk
        rcases List.mem_cons.mp hk with e | hk
        · simp [e]
        · have := hp.1 k hk
          simp; omega
  | succ j ih =>
    intro L hp h
    cases L with
    | nil => cases h
    | cons a L =>
      rw [List.pairwise_cons] at hp
      have h' : L[j]? = some i := h
      have lt := hp.1 i (List.mem_of_getElem? h')
      rw [List.filter_cons, if_pos (by simpa using lt), List.length_cons, ih hp.2 h']
theorem bareL_nof (rows : List Rw) : NoF (bareL rows) := by
  intro r hr
  rw [bareL_left] at hr
  obtain ⟨i, hi, rfl⟩ := List.mem_map.mp hr
  obtain ⟨x, h1, h2⟩ := left_mem.mp hi
  unfold lawB trB
  rw [h1]
  cases x <;> first | rfl | (cases h2)
theorem left_cnt (rows : List Rw) : (left rows).length = cnt rows := (cnt_range rows).symm
theorem bareL_win (rows : List Rw) : Win (bareL rows) := by
  intro j b m h
  rw [bareL_left] at h ⊢
  rw [List.length_map, left_cnt]
  rw [List.getElem?_map] at h
  obtain ⟨i, hi, h2⟩ := mpd h
  have hm := List.mem_of_getElem? hi
  obtain ⟨x, hx, hf⟩ := left_mem.mp hm
  have hj := sorted_at (left_sorted rows) hi
  rw [left_lt] at hj
  unfold lawB trB at h2
  rw [hx] at h2
  cases x with
  | skip b' n =>
    have e : Rw.skip b' (cnt ((rows.drop (i + 1)).take n)) = Rw.skip b m := h2
    have e2 : cnt ((rows.drop (i + 1)).take n) = m := by injection e
    have k3 := skip_cnt (n := n) hx rfl
    have := cnt_take rows (i + 1 + n)
    omega
  | _ => cases h2
theorem fm_get {α : Type} {β : Type} (F : α → Option β) : ∀ l : List α, (List.range l.length).filterMap (fun q => l[q]?.bind F) = l.filterMap F
  | [] => rfl
  | a :: l => by
    rw [List.length_cons, List.range_succ_eq_map, List.filterMap_cons, List.filterMap_map, List.filterMap_cons]
    have e : ((fun q => (a :: l)[q]?.bind F) ∘ Nat.succ) = fun q => l[q]?.bind F := by funext q; rfl
    rw [e, fm_get F l]
    rfl
theorem bareL_id {rows : List Rw} (nof : NoF rows) (win : Win rows) : bareL rows = rows := by
  have : ∀ q, trB rows q = rows[q]?.bind some := by
    intro q
    unfold trB
    cases h : rows[q]? with
    | none => rfl
    | some r =>
      have hq : q < rows.length := (List.getElem?_eq_some_iff.mp h).1
      cases r with
      | skip b n =>
        have hw := win q b n h
        have : cnt ((rows.drop (q + 1)).take n) = n := by
          rw [cnt_nof fun r hr => nof r (List.mem_of_mem_drop (List.mem_of_mem_take hr)), List.length_take, List.length_drop]
          omega
        show some (Rw.skip b (cnt ((rows.drop (q + 1)).take n))) = some (Rw.skip b n)
        rw [this]
      | fence => exact absurd (nof _ (List.mem_of_getElem? h)) (by simp [Rw.isF])
      | _ => rfl
  unfold bareL
  rw [show trB rows = fun q => rows[q]?.bind some from funext this, fm_get]
  simp
theorem fencedL_nil (rows : List Rw) : fencedL rows [] = rows := by
  unfold fencedL
  have : ∀ N, N ≤ rows.length → (List.range N).flatMap (trF rows []) = rows.take N := by
    intro N
    induction N with
    | zero => intro _; rfl
    | succ N ih =>
      intro h
      have hr : rows[N]? = some rows[N] := List.getElem?_eq_getElem h
      rw [range_fl, ih (by omega), List.take_add_one, hr]
      congr 1
      unfold trF
      rw [hr]
      cases rows[N] <;> rfl
  rw [this _ (Nat.le_refl _), List.take_length]
theorem fencedL_rev (rows : List Rw) (spots : List Nat) : fencedL rows spots.reverse = fencedL rows spots := by
  unfold fencedL
  congr 1
  funext i
  unfold trF
  have e : ∀ n, (ovr spots.reverse i n).length = (ovr spots i n).length := fun n => by
    unfold ovr
    rw [List.filter_reverse, List.length_reverse]
  simp only [List.mem_reverse, e]
theorem ord_at {spots : List Nat} {q i : Nat} : ∀ {N : Nat}, (ord spots N)[q]? = some (false, i) → q + 1 = pos spots (i + 1) ∧ i < N
  | 0, h => by cases h
  | N + 1, h => by
    rw [ord_succ] at h
    by_cases hq : q < (ord spots N).length
    · rw [List.getElem?_append_left hq] at h
      obtain ⟨h1, h2⟩ := ord_at h
      exact ⟨h1, by omega⟩
    · rw [List.getElem?_append_right (by omega)] at h
      have hp : pos spots (N + 1) = pos spots N + ((if N ∈ spots then 1 else 0) + 1) := pos_succ _ _
      have hpos : pos spots N = (ord spots N).length := rfl
      generalize hd : q - (ord spots N).length = d at h
      unfold ent at h
      by_cases hm : N ∈ spots
      · rw [if_pos hm] at h hp
        match d, h with
        | 0, h => cases h
        | 1, h =>
          cases h
          exact ⟨by omega, by omega⟩
        | d + 2, h => cases h
      · rw [if_neg hm] at h hp
        match d, h with
        | 0, h =>
          cases h
          exact ⟨by omega, by omega⟩
        | d + 1, h => cases h
theorem cnt_ord {rows : List Rw} (nof : NoF rows) (spots : List Nat) : ∀ m, m ≤ rows.length → cnt ((ord spots m).map (lawF rows spots)) = m
  | 0, _ => rfl
  | m + 1, h => by
    rw [ord_succ, List.map_append, cnt_app, cnt_ord nof spots m (by omega)]
    congr 1
    have hr : rows[m]? = some rows[m] := List.getElem?_eq_getElem h
    have hf := nof rows[m] (List.getElem_mem h)
    have e : (lawF rows spots (false, m)).isF = false := by
      unfold lawF
      simp only [Bool.false_eq_true, if_false, hr]
      cases h2 : rows[m] <;> first | rfl | (rw [h2] at hf; cases hf)
    have e1 : (lawF rows spots (true, m)).isF = true := rfl
    unfold ent cnt
    split <;> simp [e, e1]
theorem bare_fenced {rows : List Rw} {spots : List Nat} (nof : NoF rows) (win : Win rows) (nd : spots.Nodup) : bareL (fencedL rows spots) = rows := by
  rw [fencedL_ord]
  generalize hR : (ord spots rows.length).map (lawF rows spots) = R
  have hRl : R.length = pos spots rows.length := by rw [← hR, List.length_map]
  have ctake : ∀ m, m ≤ rows.length → cnt (R.take (pos spots m)) = m := by
    intro m hm
    obtain ⟨d, hd⟩ : ∃ d, rows.length = m + d := ⟨rows.length - m, by omega⟩
    obtain ⟨rest, e1, _⟩ := ord_split spots m d
    rw [← hR, hd, e1, List.map_append, List.take_append_of_le_length (by rw [List.length_map]; exact Nat.le_refl _), List.take_of_length_le (by rw [List.length_map]; exact Nat.le_refl _)]
    exact cnt_ord nof spots m hm
  have key : ∀ q, trB R q = (ord spots rows.length)[q]?.bind fun e => if e.1 then none else rows[e.2]? := by
    intro q
    unfold trB
    rw [← hR, List.getElem?_map]
    cases hq : (ord spots rows.length)[q]? with
    | none => rfl
    | some e =>
      obtain ⟨b, i⟩ := e
      rw [Option.map_some, Option.bind_some]
      cases b with
      | true => rfl
      | false =>
        obtain ⟨h1, h2⟩ := ord_at hq
        have hr : rows[i]? = some rows[i] := List.getElem?_eq_getElem h2
        have hf := nof rows[i] (List.getElem_mem h2)
        have hRq : R[q]? = some (lawF rows spots (false, i)) := by rw [← hR, List.getElem?_map, hq]; rfl
        rw [hR]
        unfold lawF at hRq ⊢
        simp only [Bool.false_eq_true, if_false] at hRq ⊢
        cases hx : rows[i] with
        | skip b n =>
          rw [hx] at hr
          rw [hr] at hRq ⊢
          have hw := win i b n hr
          have k3 := skip_cnt (n := n + (ovr spots i n).length) hRq rfl
          have k4 := ctake (i + 1 + n) hw
          rw [pos_add nd] at k4
          have k5 := ctake (i + 1) (by omega)
          have k6 : R.take (q + 1) = R.take q ++ [Rw.skip b (n + (ovr spots i n).length)] := by rw [List.take_add_one, hRq]; rfl
          rw [← h1] at k4 k5
          rw [k4] at k3
          rw [k6, cnt_app] at k5
          have k7 : cnt [Rw.skip b (n + (ovr spots i n).length)] = 1 := rfl
          have : cnt ((R.drop (q + 1)).take (n + (ovr spots i n).length)) = n := by omega
          show some (Rw.skip b (cnt ((R.drop (q + 1)).take (n + (ovr spots i n).length)))) = some (Rw.skip b n)
          rw [this]
        | fence => rw [hx] at hf; cases hf
        | _ =>
          rw [hx] at hr
          rw [hr]
  unfold bareL
  rw [hRl, show trB R = fun q => (ord spots rows.length)[q]?.bind fun e => if e.1 then none else rows[e.2]? from funext key]
  show (List.range (ord spots rows.length).length).filterMap _ = _
  rw [fm_get]
  unfold ord
  rw [List.filterMap_flatMap]
  have : ∀ N, N ≤ rows.length → ((List.range N).flatMap fun a => List.filterMap (fun e : Bool × Nat => if e.1 then none else rows[e.2]?) (ent spots a)) = rows.take N := by
    intro N
    induction N with
    | zero => intro _; rfl
    | succ N ih =>
      intro h
      rw [range_fl, ih (by omega), List.take_add_one]
      congr 1
      unfold ent
      have hr : rows[N]? = some rows[N] := List.getElem?_eq_getElem h
      rw [hr]
      split <;> simp [hr]
  rw [this _ (Nat.le_refl _), List.take_length]
end Tx

set_option Elab.async false
set_option linter.all false
set_option autoImplicit false
set_option maxRecDepth 100000
set_option maxHeartbeats 4000000
namespace Tx
open PySem Fe
theorem map_of {α : Type} {f : α → α} {l : List α} (h : ∀ a ∈ l, f a = a) : l.map f = l := by
  induction l with
  | nil => rfl
  | cons a l ih => rw [List.map_cons, h a (List.mem_cons_self ..), ih fun b hb => h b (List.mem_cons_of_mem _ hb)]
def Bd (p : Pl) : Prop := ∀ r ∈ p.ths, NoF r ∧ Win r
theorem bareP_bd (p : Pl) : Bd (bareP p) := by
  intro r hr
  obtain ⟨q, _, rfl⟩ := List.mem_map.mp hr
  exact ⟨bareL_nof q, bareL_win q⟩
theorem bareP_id {p : Pl} (h : Bd p) : bareP p = p := by
  unfold bareP
  rw [map_of fun r hr => bareL_id (h r hr).1 (h r hr).2]
theorem mapIdx_of {α : Type} {f : Nat → α → α} {l : List α} (h : ∀ i, ∀ a ∈ l, f i a = a) : l.mapIdx f = l := by
  apply List.ext_getElem?
  intro i
  rw [List.getElem?_mapIdx]
  cases e : l[i]? with
  | none => rfl
  | some a => exact congrArg some (h i a (List.mem_of_getElem? e))
theorem bareP_fenced {p : Pl} {pl : List (Nat × Nat)} (h : Bd p) (nd : ∀ t, (spotsOf pl t).Nodup) : bareP (fencedP p pl) = p := by
  unfold bareP fencedP
  have : (p.ths.mapIdx fun t r => fencedL r (spotsOf pl t)).map bareL = p.ths := by
    apply List.ext_getElem?
    intro i
    rw [List.getElem?_map, List.getElem?_mapIdx]
    cases e : p.ths[i]? with
    | none => rfl
    | some r =>
      have hm := h r (List.mem_of_getElem? e)
      exact congrArg some (bare_fenced hm.1 hm.2 (nd i))
  show (⟨p.cells, _⟩ : Pl) = p
  rw [this]
theorem fencedP_nil (p : Pl) : fencedP p [] = p := by
  have : (p.ths.mapIdx fun t r => fencedL r (spotsOf [] t)) = p.ths := mapIdx_of fun i r _ => fencedL_nil r
  unfold fencedP
  rw [this]
theorem spotsOf_rev (pl : List (Nat × Nat)) (t : Nat) : spotsOf pl.reverse t = (spotsOf pl t).reverse := by
  unfold spotsOf
  rw [List.filter_reverse, List.map_reverse]
theorem fencedP_rev (p : Pl) (pl : List (Nat × Nat)) : fencedP p pl.reverse = fencedP p pl := by
  unfold fencedP
  simp only [spotsOf_rev, fencedL_rev]
theorem spotsOf_nd {pl : List (Nat × Nat)} (h : pl.Nodup) (t : Nat) : (spotsOf pl t).Nodup := by
  unfold spotsOf
  have h2 : (pl.filter fun q => decide (q.1 = t)).Nodup := h.sublist List.filter_sublist
  refine (List.pairwise_map.mpr ?_)
  refine List.Pairwise.imp_of_mem ?_ h2
  intro a b ha hb hab e
  have h1 := (List.mem_filter.mp ha).2
  have h3 := (List.mem_filter.mp hb).2
  simp only [decide_eq_true_eq] at h1 h3
  exact hab (Prod.ext (h1.trans h3.symm) e)
theorem fencedL_len (rows : List Rw) (spots : List Nat) : (fencedL rows spots).length ≤ 2 * rows.length := by
  rw [fencedL_ord, List.length_map]
  exact pos_le spots rows.length
def Sz (n : Nat) (p : Pl) : Prop := p.ths.length ≤ n ∧ ∀ r ∈ p.ths, r.length ≤ n
theorem Sz.sm {n : Nat} {p : Pl} (h : Sz n p) (hn : n ≤ 1000) : Sm p := ⟨Nat.le_trans h.1 hn, fun r hr => Nat.le_trans (h.2 r hr) hn⟩
theorem Sz.bare {n : Nat} {p : Pl} (h : Sz n p) : Sz n (bareP p) := by
  refine ⟨by simpa [bareP] using h.1, fun r hr => ?_⟩
  obtain ⟨q, hq, rfl⟩ := List.mem_map.mp hr
  exact Nat.le_trans (bareL_len q) (h.2 q hq)
theorem Sz.fenced {n : Nat} {p : Pl} (pl : List (Nat × Nat)) (h : Sz n p) : Sz (2 * n) (fencedP p pl) := by
  refine ⟨by have := h.1; simp [fencedP]; omega, fun r hr => ?_⟩
  obtain ⟨i, hi, rfl⟩ := List.mem_mapIdx.mp hr
  have := fencedL_len p.ths[i] (spotsOf pl i)
  have := h.2 _ (List.getElem_mem hi)
  omega
end Tx

set_option Elab.async false
set_option linter.all false
set_option autoImplicit false
set_option maxRecDepth 100000
set_option maxHeartbeats 4000000
namespace Tx
open PySem Fe
/-- short enough to be shown -/
def Gd (t : T) (w : Nat) : Prop := t.toD.leavesShort 13 = true ∧ t.toD.showable = true ∧ t.toD.weight ≤ w
theorem Gd.le {t : T} {w w' : Nat} (h : Gd t w) (hw : w ≤ w') : Gd t w' := ⟨h.1, h.2.1, Nat.le_trans h.2.2 hw⟩
theorem gd_tup {l : List T} {w n : Nat} (h : ∀ t ∈ l, Gd t w) (hn : l.length ≤ n) : Gd (.tup l) (n * (w + 1)) := by
  suffices k : PyData.leavesShortAll 13 (toDs l) = true ∧ PyData.showableAll (toDs l) = true ∧ PyData.weightAll (toDs l) ≤ l.length * (w + 1) by
    refine ⟨by simpa [T.toD, PyData.leavesShort] using k.1, by simpa [T.toD, PyData.showable] using k.2.1, ?_⟩
    have := Nat.mul_le_mul_right (w + 1) hn
    simp only [T.toD, PyData.weight]
    exact Nat.le_trans k.2.2 this
  clear hn
  induction l with
  | nil => exact ⟨rfl, rfl, Nat.zero_le _⟩
  | cons a l ih =>
    obtain ⟨i1, i2, i3⟩ := ih fun t ht => h t (List.mem_cons_of_mem _ ht)
    obtain ⟨h1, h2, h3⟩ := h a (List.mem_cons_self ..)
    refine ⟨by simp [toDs, PyData.leavesShortAll, h1, i1], by simp [toDs, PyData.showableAll, h2, i2], ?_⟩
    simp only [toDs, PyData.weightAll, List.length_cons, Nat.succ_mul]
    omega
def IntOk (i : Int) : Prop := i.natAbs < 10 ^ 12
def NmOk (z : Str) : Prop := PyData.strOk z = true ∧ z.cps.size ≤ 7
theorem gd_int {i : Int} (h : IntOk i) : Gd (.int i) 40 := by
  have h1 := int_text_length_le10 (k := 12) (by decide) h
  have h2 : i.natAbs < 2 ^ 40 := Nat.lt_trans h (by decide)
  have h3 : i.natAbs ≠ 0 → i.natAbs.log2 < 40 := fun hz => (Nat.log2_lt hz).mpr h2
  refine ⟨?_, ?_, ?_⟩
  · simp only [T.toD, PyData.leavesShort, PyData.shown]
    exact decide_eq_true (Nat.le_trans (Nat.le_of_eq (ofString_length _)) h1)
  · simp only [T.toD, PyData.showable, decide_eq_true_eq]
    by_cases hz : i.natAbs = 0
    · rw [hz]; decide
    · have := h3 hz; omega
  · simp only [T.toD, PyData.weight]
    split
    · omega
    · next hn =>
      have : i.natAbs ≠ 0 := fun hz => hn (by have : i = 0 := by omega
                                              simp [this])
      have := h3 this
      omega
theorem gd_str {z : Str} (h : NmOk z) : Gd (.str z) 40 := by
  refine ⟨?_, rfl, ?_⟩
  · have h0 : z.cps.all (· < 0x110000) = true := h.1
    simp only [T.toD, PyData.leavesShort, List.all_eq_true, decide_eq_true_eq]
    intro c hc
    have h2 := (Array.all_eq_true_iff_forall_mem.mp h0) c (Array.mem_toList_iff.mp hc)
    have e : (16 : Nat) ^ 8 = 4294967296 := by decide
    simp at h2
    omega
  · have := h.2
    simp only [T.toD, PyData.weight]
    omega
def VlOk : Vl → Prop
  | .i n => IntOk n
  | .s z => NmOk z
def RwOk : Rw → Prop
  | .put c v => NmOk c ∧ VlOk v
  | .get b c => NmOk b ∧ NmOk c
  | .swap b c v => NmOk b ∧ NmOk c ∧ VlOk v
  | .add b v w => NmOk b ∧ VlOk v ∧ VlOk w
  | .skip b n => NmOk b ∧ IntOk (n : Nat)
  | .fence => True
theorem gd_vl {v : Vl} (h : VlOk v) : Gd v.t 40 := by
  cases v with
  | i n => exact gd_int h
  | s z => exact gd_str h
theorem gd_rw {r : Rw} (h : RwOk r) : Gd r.t 164 := by
  have k : ∀ s : String, (decide ((Str.ofString s).cps.size ≤ 7) && PyData.strOk (Str.ofString s)) = true → Gd (.str (Str.ofString s)) 40 := fun s hs => by
    rw [Bool.and_eq_true, decide_eq_true_eq] at hs
    exact gd_str ⟨hs.2, hs.1⟩
  cases r with
  | put c v =>
    refine gd_tup (w := 40) (n := 4) (fun t ht => ?_) (by simp)
    simp only [List.mem_cons, List.not_mem_nil, or_false] at ht
    rcases ht with rfl | rfl | rfl
    · exact k "put" (by decide +kernel)
    · exact gd_str h.1
    · exact gd_vl h.2
  | get b c =>
    refine gd_tup (w := 40) (n := 4) (fun t ht => ?_) (by simp)
    simp only [List.mem_cons, List.not_mem_nil, or_false] at ht
    rcases ht with rfl | rfl | rfl
    · exact k "get" (by decide +kernel)
    · exact gd_str h.1
    · exact gd_str h.2
  | swap b c v =>
    refine gd_tup (w := 40) (n := 4) (fun t ht => ?_) (by simp)
    simp only [List.mem_cons, List.not_mem_nil, or_false] at ht
    rcases ht with rfl | rfl | rfl | rfl
    · exact k "swap" (by decide +kernel)
    · exact gd_str h.1
    · exact gd_str h.2.1
    · exact gd_vl h.2.2
  | add b v w =>
    refine gd_tup (w := 40) (n := 4) (fun t ht => ?_) (by simp)
    simp only [List.mem_cons, List.not_mem_nil, or_false] at ht
    rcases ht with rfl | rfl | rfl | rfl
    · exact k "add" (by decide +kernel)
    · exact gd_str h.1
    · exact gd_vl h.2.1
    · exact gd_vl h.2.2
  | skip b n =>
    refine gd_tup (w := 40) (n := 4) (fun t ht => ?_) (by simp)
    simp only [List.mem_cons, List.not_mem_nil, or_false] at ht
    rcases ht with rfl | rfl | rfl
    · exact k "skip" (by decide +kernel)
    · exact gd_str h.1
    · exact gd_int h.2
  | fence =>
    refine gd_tup (w := 40) (n := 4) (fun t ht => ?_) (by simp)
    simp only [List.mem_cons, List.not_mem_nil, or_false] at ht
    rcases ht with rfl
    exact k "fence" (by decide +kernel)
structure PlOk (n : Nat) (p : Pl) : Prop where
  cl : p.cells.length ≤ 10
  co : ∀ q ∈ p.cells, NmOk q.1 ∧ IntOk q.2
  tl : p.ths.length ≤ 10
  rl : ∀ r ∈ p.ths, r.length ≤ n
  ro : ∀ r ∈ p.ths, ∀ w ∈ r, RwOk w
theorem gd_pl {p : Pl} (h : PlOk 200 p) : Gd p.t 660024 := by
  refine gd_tup (w := 330011) (n := 2) (fun t ht => ?_) (by simp)
  simp only [List.mem_cons, List.not_mem_nil, or_false] at ht
  rcases ht with rfl | rfl
  · refine (gd_tup (w := 82) (n := 10) (fun t ht => ?_) (by simpa [celT] using h.cl)).le (by decide)
    obtain ⟨q, hq, rfl⟩ := List.mem_map.mp ht
    refine gd_tup (w := 40) (n := 2) (fun t ht => ?_) (by simp)
    simp only [List.mem_cons, List.not_mem_nil, or_false] at ht
    rcases ht with rfl | rfl
    · exact gd_str (h.co q hq).1
    · exact gd_int (h.co q hq).2
  · refine (gd_tup (w := 33000) (n := 10) (fun t ht => ?_) (by simpa [thsT] using h.tl)).le (by decide)
    obtain ⟨r, hr, rfl⟩ := List.mem_map.mp ht
    refine gd_tup (w := 164) (n := 200) (fun t ht => ?_) (by simpa using h.rl r hr)
    obtain ⟨w, hw, rfl⟩ := List.mem_map.mp ht
    exact gd_rw (h.ro r hr w hw)
theorem deps_all {l : List T} {n : Nat} (h : ∀ t ∈ l, t.dep n = true) : deps l n = true := by
  induction l with
  | nil => simp [deps]
  | cons a l ih =>
    rw [deps, h a (List.mem_cons_self ..), ih fun t ht => h t (List.mem_cons_of_mem _ ht)]; rfl
theorem pl_dep (p : Pl) (n : Nat) : p.t.dep (n + 4) = true := by
  simp only [Pl.t, T.dep, deps, Bool.and_eq_true, Bool.and_true]
  refine ⟨deps_all fun t ht => ?_, deps_all fun t ht => ?_⟩
  · obtain ⟨q, hq, rfl⟩ := List.mem_map.mp ht
    simp [T.dep, deps]
  · obtain ⟨r, hr, rfl⟩ := List.mem_map.mp ht
    refine deps_all fun t ht => ?_
    obtain ⟨w, hw, rfl⟩ := List.mem_map.mp ht
    exact dep_row w n
theorem pl_shw {p : Pl} (h : PlOk 200 p) : p.t.shw = true := by
  have g := gd_pl h
  have h1 := PyData.shown_le 13 (by decide) p.t.toD g.1
  have h2 := g.2.2
  have hL : LIM = 16777216 := rfl
  unfold T.shw
  rw [Bool.and_eq_true, Bool.and_eq_true, Bool.and_eq_true]
  refine ⟨rfl, pl_dep p 56, g.2.1, ?_⟩
  rw [decide_eq_true_eq]
  omega
mutual
theorem eqv_rf : ∀ (t : T) (n : Nat), t.dep n = true → PyData.eqv t.toD t.toD = true
  | .non, _, _ => by simp [T.toD, PyData.eqv]
  | .bl _, _, _ => by simp [T.toD, PyData.eqv]
  | .int _, _, _ => by simp [T.toD, PyData.eqv]
  | .str _, _, _ => by simp [T.toD, PyData.eqv]
  | .tup l, n + 1, h => by
    simp only [T.dep] at h
    simpa [T.toD, PyData.eqv] using eqvs_rf l n h
  | .lst l, n + 1, h => by
    simp only [T.dep] at h
    simpa [T.toD, PyData.eqv] using eqvs_rf l n h
  | .tup _, 0, h => by simp [T.dep] at h
  | .lst _, 0, h => by simp [T.dep] at h
  | .scr _, 0, h => by simp [T.dep] at h
  | .scr _, _ + 1, h => by simp [T.dep] at h
  | .obj _ _, 0, h => by simp [T.dep] at h
  | .obj _ _, _ + 1, h => by simp [T.dep] at h
theorem eqvs_rf : ∀ (l : List T) (n : Nat), deps l n = true → PyData.eqvAll (toDs l) (toDs l) = true
  | [], _, _ => by simp [toDs, PyData.eqvAll]
  | t :: r, n, h => by
    simp only [deps, Bool.and_eq_true] at h
    simp [toDs, PyData.eqvAll, eqv_rf t n h.1, eqvs_rf r n h.2]
end
section
variable {k : Nat}
theorem law_is {p : Pl} (h : PlOk 200 p) : (tab.pg (k + 4)).fn 21 [p.o, p.t] = some (.bl true) := by
  rw [fnS]
  show outT (b21.ev (tab.pg (k + 3)) [.fz p.o, .fz p.t]) = _
  have h1 := plain_of (k := k + 1) p
  have h2 := pl_shw h
  have h3 : eqOk p.t p.t = true := by unfold eqOk; rw [pl_dep p 56]; rfl
  have h4 : p.t.eqv p.t = true := eqv_rf p.t 60 (pl_dep p 56)
  simp only [b21, Ss.ev, S.ev.eq_1, S.ev.eq_2, S.ev.eq_3, S.ev.eq_4, S.ev.eq_5, S.ev.eq_6, S.ev.eq_7, S.ev.eq_10, S.ev.eq_11, S.ev.eq_12, S.ev.eq_13, S.ev.eq_14, S.ev.eq_15, S.ev.eq_16, S.ev.eq_17, S.ev.eq_18, S.ev.eq_19, S.ev.eq_20, E.ev.eq_1, E.ev.eq_2, E.ev.eq_3, E.ev.eq_4, E.ev.eq_5, E.ev.eq_6, E.ev.eq_7, E.ev.eq_8, E.ev.eq_9, E.ev.eq_10, E.ev.eq_11, E.ev.eq_12, E.ev.eq_13, E.ev.eq_14, E.ev.eq_15, E.ev.eq_16, E.ev.eq_17, E.ev.eq_18, E.ev.eq_19, E.ev.eq_20, E.ev.eq_21, E.ev.eq_22, E.ev.eq_23, E.ev.eq_24, E.ev.eq_25, E.ev.eq_26, E.ev.eq_28, E.ev.eq_29, Es.ev, It.ev, Op.ev, Op.tst, slV, slP, ownS, ixT, T.tru, outT, List.getElem?_cons_zero, List.getElem?_cons_succ, Option.bind_some, h1, COp.ap, h3, h4, if_true, repqT, h2, Bool.and_self, decide_true]
  simp [Pl.o, Ss.ev, S.ev.eq_1, S.ev.eq_2, S.ev.eq_3, S.ev.eq_4, S.ev.eq_5, S.ev.eq_6, S.ev.eq_7, S.ev.eq_10, S.ev.eq_11, S.ev.eq_12, S.ev.eq_13, S.ev.eq_14, S.ev.eq_15, S.ev.eq_16, S.ev.eq_17, S.ev.eq_18, S.ev.eq_19, S.ev.eq_20, E.ev.eq_1, E.ev.eq_2, E.ev.eq_3, E.ev.eq_4, E.ev.eq_5, E.ev.eq_6, E.ev.eq_7, E.ev.eq_8, E.ev.eq_9, E.ev.eq_10, E.ev.eq_11, E.ev.eq_12, E.ev.eq_13, E.ev.eq_14, E.ev.eq_15, E.ev.eq_16, E.ev.eq_17, E.ev.eq_18, E.ev.eq_19, E.ev.eq_20, E.ev.eq_21, E.ev.eq_22, E.ev.eq_23, E.ev.eq_24, E.ev.eq_25, E.ev.eq_26, E.ev.eq_28, E.ev.eq_29, Es.ev, It.ev, Op.ev, Op.tst, slV, slP, ownS, ixT, T.tru, outT, isiT]
end
end Tx

set_option Elab.async false
set_option linter.all false
set_option autoImplicit false
set_option maxRecDepth 100000
set_option maxHeartbeats 4000000
namespace Tx
open PySem Fe
theorem int_nat {n : Nat} (h : n < 10 ^ 12) : IntOk (n : Nat) := by
  show (n : Int).natAbs < 10 ^ 12
  rw [Int.natAbs_natCast]; exact h
theorem bareL_ok {rows : List Rw} (h : ∀ w ∈ rows, RwOk w) (hl : rows.length ≤ 1000) : ∀ w ∈ bareL rows, RwOk w := by
  intro w hw
  obtain ⟨i, hi, e⟩ := List.mem_filterMap.mp hw
  unfold trB at e
  cases hr : rows[i]? with
  | none => rw [hr] at e; cases e
  | some r =>
    have hm := h r (List.mem_of_getElem? hr)
    rw [hr] at e
    cases r with
    | skip b n =>
      cases e
      refine ⟨hm.1, int_nat ?_⟩
      have h1 := cnt_le ((rows.drop (i + 1)).take n)
      rw [List.length_take, List.length_drop] at h1
      omega
    | fence => cases e
    | _ => cases e; exact hm
theorem PlOk.bare {n : Nat} {p : Pl} (h : PlOk n p) (hn : n ≤ 1000) : PlOk n (bareP p) := by
  refine ⟨h.cl, h.co, by simpa [bareP] using h.tl, fun r hr => ?_, fun r hr => ?_⟩
  · obtain ⟨q, hq, rfl⟩ := List.mem_map.mp hr
    exact Nat.le_trans (bareL_len q) (h.rl q hq)
  · obtain ⟨q, hq, rfl⟩ := List.mem_map.mp hr
    exact bareL_ok (h.ro q hq) (Nat.le_trans (h.rl q hq) hn)
theorem ovr_le (spots : List Nat) (i n : Nat) : (ovr spots i n).length ≤ spots.length := List.length_filter_le _ _
theorem fencedL_ok {rows : List Rw} {spots : List Nat} (h : ∀ w ∈ rows, RwOk w) (win : Win rows) (hl : rows.length ≤ 1000) (hs : spots.length ≤ 10000) : ∀ w ∈ fencedL rows spots, RwOk w := by
  intro w hw
  obtain ⟨i, hi, e⟩ := List.mem_flatMap.mp hw
  unfold trF at e
  rcases List.mem_append.mp e with e | e
  · split at e
    · rw [List.mem_singleton] at e; subst e; trivial
    · cases e
  · cases hr : rows[i]? with
    | none => rw [hr] at e; cases e
    | some r =>
      have hm := h r (List.mem_of_getElem? hr)
      rw [hr] at e
      cases r with
      | skip b n =>
        have e' := List.mem_singleton.mp e
        subst e'
        have h1 := ovr_le spots i n
        have h2 := win i b n hr
        refine ⟨hm.1, int_nat ?_⟩
        omega
      | _ =>
        have e' := List.mem_singleton.mp e
        subst e'
        exact hm
theorem spotsOf_len (pl : List (Nat × Nat)) (t : Nat) : (spotsOf pl t).length ≤ pl.length := by
  unfold spotsOf
  rw [List.length_map]
  exact List.length_filter_le _ _
theorem PlOk.fenced {n : Nat} {p : Pl} {pl : List (Nat × Nat)} (h : PlOk n p) (hn : n ≤ 1000) (hb : Bd p) (hp : pl.length ≤ 10000) : PlOk (2 * n) (fencedP p pl) := by
  refine ⟨h.cl, h.co, by simpa [fencedP] using h.tl, fun r hr => ?_, fun r hr => ?_⟩
  · obtain ⟨i, hi, rfl⟩ := List.mem_mapIdx.mp hr
    have := fencedL_len p.ths[i] (spotsOf pl i)
    have := h.rl _ (List.getElem_mem hi)
    omega
  · obtain ⟨i, hi, rfl⟩ := List.mem_mapIdx.mp hr
    have hm := List.getElem_mem hi
    have := spotsOf_len pl i
    exact fencedL_ok (h.ro _ hm) (hb _ hm).2 (Nat.le_trans (h.rl _ hm) hn) (by omega)
theorem PlOk.le {n m : Nat} {p : Pl} (h : PlOk n p) (hm : n ≤ m) : PlOk m p := ⟨h.cl, h.co, h.tl, fun r hr => Nat.le_trans (h.rl r hr) hm, h.ro⟩
theorem PlOk.sm {n : Nat} {p : Pl} (h : PlOk n p) (hn : n ≤ 1000) : Sm p := ⟨Nat.le_trans h.tl (by decide), fun r hr => Nat.le_trans (h.rl r hr) hn⟩
end Tx

set_option Elab.async false
set_option linter.all false
set_option autoImplicit false
set_option maxRecDepth 100000
set_option maxHeartbeats 4000000
namespace Tx
open PySem Fe
section
variable {k : Nat}
theorem plc_dep (pl : List (Nat × Nat)) (n : Nat) : (T.lst (plcT pl)).dep (n + 2) = true := by
  simp only [T.dep]
  refine deps_all fun t ht => ?_
  obtain ⟨q, _, rfl⟩ := List.mem_map.mp ht
  simp [T.dep, deps]
theorem plc_rev (pl : List (Nat × Nat)) : (plcT pl).reverse = plcT pl.reverse := by simp [plcT, List.map_reverse]
theorem law_end (ns : List Int) (p : Pl) (hp : PlOk 100 p)
    (h13 : (tab.pg (k + 12)).fn 13 [.scr ns, .int 5] = some p.t)
    (hS : ∀ c : Int, 0 ≤ c → ∃ q, PlOk 100 q ∧ (tab.pg (k + 12)).fn 18 [p.t, .int c] = some q.t)
    (hP : ∀ r, PlOk 100 r → ∀ c : Int, 0 ≤ c → ∃ pl, pl.Nodup ∧ pl.length ≤ 10000 ∧ (tab.pg (k + 12)).fn 20 [r.t, .int c] = some (.lst (plcT pl))) :
    outT (b22.ev (tab.pg (k + 12)) [.fz (.scr ns), .no, .no, .no, .no, .no, .no, .no, .no]) = some (.bl true) := by
  unfold b22
  rw [ev_step (env' := [.fz (.scr ns), .fz p.t, .no, .no, .no, .no, .no, .no, .no]) (by
    simp only [Ss.ev, S.ev.eq_1, S.ev.eq_2, S.ev.eq_3, S.ev.eq_4, S.ev.eq_5, S.ev.eq_6, S.ev.eq_7, S.ev.eq_10, S.ev.eq_11, S.ev.eq_12, S.ev.eq_13, S.ev.eq_14, S.ev.eq_15, S.ev.eq_16, S.ev.eq_17, S.ev.eq_18, S.ev.eq_19, S.ev.eq_20, E.ev.eq_1, E.ev.eq_2, E.ev.eq_3, E.ev.eq_4, E.ev.eq_5, E.ev.eq_6, E.ev.eq_7, E.ev.eq_8, E.ev.eq_9, E.ev.eq_10, E.ev.eq_11, E.ev.eq_12, E.ev.eq_13, E.ev.eq_14, E.ev.eq_15, E.ev.eq_16, E.ev.eq_17, E.ev.eq_18, E.ev.eq_19, E.ev.eq_20, E.ev.eq_21, E.ev.eq_22, E.ev.eq_23, E.ev.eq_24, E.ev.eq_25, E.ev.eq_26, E.ev.eq_28, E.ev.eq_29, Es.ev, It.ev, Op.ev, Op.tst, slV, slP, ownS, ixT, T.tru, outT, List.getElem?_cons_zero, Option.bind_some, Option.map_some, h13]
    rfl)]
  have c4 := cell_at (k + 11) ns 4
  have c30 := cell_at (k + 11) ns 30
  have mx := fun c => mixed_ok (k + 11) c 90 (by decide)
  generalize hc : mixed (cellAt ns 4 + cellAt ns 30) 90 = c
  have hc0 : 0 ≤ c := hc ▸ (mixed_lo _ _).1
  rw [ev_step (env' := [.fz (.scr ns), .fz p.t, .fz (.int c), .no, .no, .no, .no, .no, .no]) (by
    have e4 : ((4 : Nat) : Int) = 4 := rfl
    have e30 : ((30 : Nat) : Int) = 30 := rfl
    rw [e4] at c4
    rw [e30] at c30
    simp only [Ss.ev, S.ev.eq_1, S.ev.eq_2, S.ev.eq_3, S.ev.eq_4, S.ev.eq_5, S.ev.eq_6, S.ev.eq_7, S.ev.eq_10, S.ev.eq_11, S.ev.eq_12, S.ev.eq_13, S.ev.eq_14, S.ev.eq_15, S.ev.eq_16, S.ev.eq_17, S.ev.eq_18, S.ev.eq_19, S.ev.eq_20, E.ev.eq_1, E.ev.eq_2, E.ev.eq_3, E.ev.eq_4, E.ev.eq_5, E.ev.eq_6, E.ev.eq_7, E.ev.eq_8, E.ev.eq_9, E.ev.eq_10, E.ev.eq_11, E.ev.eq_12, E.ev.eq_13, E.ev.eq_14, E.ev.eq_15, E.ev.eq_16, E.ev.eq_17, E.ev.eq_18, E.ev.eq_19, E.ev.eq_20, E.ev.eq_21, E.ev.eq_22, E.ev.eq_23, E.ev.eq_24, E.ev.eq_25, E.ev.eq_26, E.ev.eq_28, E.ev.eq_29, Es.ev, It.ev, Op.ev, Op.tst, slV, slP, ownS, ixT, T.tru, outT, List.getElem?_cons_zero, List.getElem?_cons_succ, Option.bind_some, Option.map_some, c4, c30, BOp.ap, mx, hc]
    rfl)]
  obtain ⟨r, hr, hi⟩ : ∃ r, PlOk 100 r ∧ ∀ S : S, S = (.iff (.cmp .lt (.bin .mod (.v 2) (.k (.int 5))) (.k (.int 3))) (.cons (.set 1 false (.call 18 (.cons (.v 1) (.cons (.bin .fdiv (.v 2) (.k (.int 5))) .nil)))) .nil) .nil) → S.ev (tab.pg (k + 12)) [.fz (.scr ns), .fz p.t, .fz (.int c), .no, .no, .no, .no, .no, .no] = some (.nx [.fz (.scr ns), .fz r.t, .fz (.int c), .no, .no, .no, .no, .no, .no]) := by
    by_cases h : c % 5 < 3
    · obtain ⟨q, hq, h18⟩ := hS (c / 5) (by omega)
      refine ⟨q, hq, fun S hS => ?_⟩
      subst hS
      simp [Ss.ev, S.ev.eq_1, S.ev.eq_2, S.ev.eq_3, S.ev.eq_4, S.ev.eq_5, S.ev.eq_6, S.ev.eq_7, S.ev.eq_10, S.ev.eq_11, S.ev.eq_12, S.ev.eq_13, S.ev.eq_14, S.ev.eq_15, S.ev.eq_16, S.ev.eq_17, S.ev.eq_18, S.ev.eq_19, S.ev.eq_20, E.ev.eq_1, E.ev.eq_2, E.ev.eq_3, E.ev.eq_4, E.ev.eq_5, E.ev.eq_6, E.ev.eq_7, E.ev.eq_8, E.ev.eq_9, E.ev.eq_10, E.ev.eq_11, E.ev.eq_12, E.ev.eq_13, E.ev.eq_14, E.ev.eq_15, E.ev.eq_16, E.ev.eq_17, E.ev.eq_18, E.ev.eq_19, E.ev.eq_20, E.ev.eq_21, E.ev.eq_22, E.ev.eq_23, E.ev.eq_24, E.ev.eq_25, E.ev.eq_26, E.ev.eq_28, E.ev.eq_29, Es.ev, It.ev, Op.ev, Op.tst, slV, slP, ownS, ixT, T.tru, outT, BOp.ap, COp.ap, h, h18]
    · refine ⟨p, hp, fun S hS => ?_⟩
      subst hS
      simp [Ss.ev, S.ev.eq_1, S.ev.eq_2, S.ev.eq_3, S.ev.eq_4, S.ev.eq_5, S.ev.eq_6, S.ev.eq_7, S.ev.eq_10, S.ev.eq_11, S.ev.eq_12, S.ev.eq_13, S.ev.eq_14, S.ev.eq_15, S.ev.eq_16, S.ev.eq_17, S.ev.eq_18, S.ev.eq_19, S.ev.eq_20, E.ev.eq_1, E.ev.eq_2, E.ev.eq_3, E.ev.eq_4, E.ev.eq_5, E.ev.eq_6, E.ev.eq_7, E.ev.eq_8, E.ev.eq_9, E.ev.eq_10, E.ev.eq_11, E.ev.eq_12, E.ev.eq_13, E.ev.eq_14, E.ev.eq_15, E.ev.eq_16, E.ev.eq_17, E.ev.eq_18, E.ev.eq_19, E.ev.eq_20, E.ev.eq_21, E.ev.eq_22, E.ev.eq_23, E.ev.eq_24, E.ev.eq_25, E.ev.eq_26, E.ev.eq_28, E.ev.eq_29, Es.ev, It.ev, Op.ev, Op.tst, slV, slP, ownS, ixT, T.tru, outT, BOp.ap, COp.ap, h]
  rw [ev_step (hi _ rfl)]
  have sm := hr.sm (by decide)
  have hb := hr.bare (by decide)
  have bsm := hb.sm (by decide)
  have bd := bareP_bd r
  have b1 := law_bare (k := k + 10) r sm
  have b2 := program_of (k := k + 8) r
  obtain ⟨pl, nd, hl, b3⟩ := hP (bareP r) hb c hc0
  have hw := hb.fenced (pl := pl) (by decide) bd hl
  have snd := spotsOf_nd nd
  have wsm := hw.sm (by decide)
  have wb : bareP (fencedP (bareP r) pl) = bareP r := bareP_fenced bd snd
  have bb : bareP (bareP r) = bareP r := bareP_id bd
  have b4 := bare (k := k + 7) r sm
  have b5 := bare (k := k + 7) (bareP r) bsm
  have b6 := bare (k := k + 7) (fencedP (bareP r) pl) wsm
  rw [wb] at b6
  rw [bb] at b5
  have b7 := fenced (k := k + 6) r pl sm
  have b8 := fenced (k := k + 6) (bareP r) pl.reverse bsm
  rw [bb, fencedP_rev] at b8
  have b9 := fenced (k := k + 6) (fencedP (bareP r) pl) pl wsm
  rw [wb] at b9
  have b10 := fenced (k := k + 6) r [] sm
  rw [fencedP_nil] at b10
  have b11 := law_fenced (k := k + 10) (bareP r) pl bsm snd (fun x hx => (bd x hx).2)
  have b12 := plain_of (k := k + 10) r
  have i1 := law_is (k := k + 8) (hb.le (m := 200) (by decide))
  have i2 := law_is (k := k + 8) hw
  have e1 : eqOk r.t r.t = true := by unfold eqOk; rw [pl_dep r 56]; rfl
  have e2 : r.t.eqv r.t = true := eqv_rf r.t 60 (pl_dep r 56)
  have e3 : eqOk (.lst (plcT pl)) (.lst (plcT pl)) = true := by unfold eqOk; rw [plc_dep pl 58]; rfl
  have e4 : (T.lst (plcT pl)).eqv (.lst (plcT pl)) = true := eqv_rf _ 60 (plc_dep pl 58)
  generalize hW : fencedP (bareP r) pl = W at *
  generalize hB : bareP r = B at *
  rw [ev_step (env' := [.fz (.scr ns), .fz r.t, .fz (.int c), .fz B.t, .no, .no, .no, .no, .no]) (by
    simp only [Ss.ev, S.ev.eq_1, S.ev.eq_2, S.ev.eq_3, S.ev.eq_4, S.ev.eq_5, S.ev.eq_6, S.ev.eq_7, S.ev.eq_10, S.ev.eq_11, S.ev.eq_12, S.ev.eq_13, S.ev.eq_14, S.ev.eq_15, S.ev.eq_16, S.ev.eq_17, S.ev.eq_18, S.ev.eq_19, S.ev.eq_20, E.ev.eq_1, E.ev.eq_2, E.ev.eq_3, E.ev.eq_4, E.ev.eq_5, E.ev.eq_6, E.ev.eq_7, E.ev.eq_8, E.ev.eq_9, E.ev.eq_10, E.ev.eq_11, E.ev.eq_12, E.ev.eq_13, E.ev.eq_14, E.ev.eq_15, E.ev.eq_16, E.ev.eq_17, E.ev.eq_18, E.ev.eq_19, E.ev.eq_20, E.ev.eq_21, E.ev.eq_22, E.ev.eq_23, E.ev.eq_24, E.ev.eq_25, E.ev.eq_26, E.ev.eq_28, E.ev.eq_29, Es.ev, It.ev, Op.ev, Op.tst, slV, slP, ownS, ixT, T.tru, outT, List.getElem?_cons_zero, List.getElem?_cons_succ, Option.bind_some, Option.map_some, b1]
    rfl)]
  rw [ev_step (env' := [.fz (.scr ns), .fz r.t, .fz (.int c), .fz B.t, .fz r.o, .no, .no, .no, .no]) (by
    simp only [Ss.ev, S.ev.eq_1, S.ev.eq_2, S.ev.eq_3, S.ev.eq_4, S.ev.eq_5, S.ev.eq_6, S.ev.eq_7, S.ev.eq_10, S.ev.eq_11, S.ev.eq_12, S.ev.eq_13, S.ev.eq_14, S.ev.eq_15, S.ev.eq_16, S.ev.eq_17, S.ev.eq_18, S.ev.eq_19, S.ev.eq_20, E.ev.eq_1, E.ev.eq_2, E.ev.eq_3, E.ev.eq_4, E.ev.eq_5, E.ev.eq_6, E.ev.eq_7, E.ev.eq_8, E.ev.eq_9, E.ev.eq_10, E.ev.eq_11, E.ev.eq_12, E.ev.eq_13, E.ev.eq_14, E.ev.eq_15, E.ev.eq_16, E.ev.eq_17, E.ev.eq_18, E.ev.eq_19, E.ev.eq_20, E.ev.eq_21, E.ev.eq_22, E.ev.eq_23, E.ev.eq_24, E.ev.eq_25, E.ev.eq_26, E.ev.eq_28, E.ev.eq_29, Es.ev, It.ev, Op.ev, Op.tst, slV, slP, ownS, ixT, T.tru, outT, List.getElem?_cons_zero, List.getElem?_cons_succ, Option.bind_some, Option.map_some, b2]
    rfl)]
  rw [ev_step (env' := [.fz (.scr ns), .fz r.t, .fz (.int c), .fz B.t, .fz r.o, .fz (.lst (plcT pl)), .no, .no, .no]) (by
    simp only [Ss.ev, S.ev.eq_1, S.ev.eq_2, S.ev.eq_3, S.ev.eq_4, S.ev.eq_5, S.ev.eq_6, S.ev.eq_7, S.ev.eq_10, S.ev.eq_11, S.ev.eq_12, S.ev.eq_13, S.ev.eq_14, S.ev.eq_15, S.ev.eq_16, S.ev.eq_17, S.ev.eq_18, S.ev.eq_19, S.ev.eq_20, E.ev.eq_1, E.ev.eq_2, E.ev.eq_3, E.ev.eq_4, E.ev.eq_5, E.ev.eq_6, E.ev.eq_7, E.ev.eq_8, E.ev.eq_9, E.ev.eq_10, E.ev.eq_11, E.ev.eq_12, E.ev.eq_13, E.ev.eq_14, E.ev.eq_15, E.ev.eq_16, E.ev.eq_17, E.ev.eq_18, E.ev.eq_19, E.ev.eq_20, E.ev.eq_21, E.ev.eq_22, E.ev.eq_23, E.ev.eq_24, E.ev.eq_25, E.ev.eq_26, E.ev.eq_28, E.ev.eq_29, Es.ev, It.ev, Op.ev, Op.tst, slV, slP, ownS, ixT, T.tru, outT, List.getElem?_cons_zero, List.getElem?_cons_succ, Option.bind_some, Option.map_some, b3]
    rfl)]
  rw [ev_step (env' := [.fz (.scr ns), .fz r.t, .fz (.int c), .fz B.t, .fz r.o, .fz (.lst (plcT pl)), .ow (.lst (plcT pl)), .no, .no]) (by
    simp only [Ss.ev, S.ev.eq_1, S.ev.eq_2, S.ev.eq_3, S.ev.eq_4, S.ev.eq_5, S.ev.eq_6, S.ev.eq_7, S.ev.eq_10, S.ev.eq_11, S.ev.eq_12, S.ev.eq_13, S.ev.eq_14, S.ev.eq_15, S.ev.eq_16, S.ev.eq_17, S.ev.eq_18, S.ev.eq_19, S.ev.eq_20, E.ev.eq_1, E.ev.eq_2, E.ev.eq_3, E.ev.eq_4, E.ev.eq_5, E.ev.eq_6, E.ev.eq_7, E.ev.eq_8, E.ev.eq_9, E.ev.eq_10, E.ev.eq_11, E.ev.eq_12, E.ev.eq_13, E.ev.eq_14, E.ev.eq_15, E.ev.eq_16, E.ev.eq_17, E.ev.eq_18, E.ev.eq_19, E.ev.eq_20, E.ev.eq_21, E.ev.eq_22, E.ev.eq_23, E.ev.eq_24, E.ev.eq_25, E.ev.eq_26, E.ev.eq_28, E.ev.eq_29, Es.ev, It.ev, Op.ev, Op.tst, slV, slP, ownS, ixT, T.tru, outT, List.getElem?_cons_zero, List.getElem?_cons_succ, Option.bind_some, Option.map_some, Bi.ap]
    rfl)]
  rw [ev_step (env' := [.fz (.scr ns), .fz r.t, .fz (.int c), .fz B.t, .fz r.o, .fz (.lst (plcT pl)), .ow (.lst (plcT pl)), .no, .no]) (by
    simp [Ss.ev, S.ev.eq_1, S.ev.eq_2, S.ev.eq_3, S.ev.eq_4, S.ev.eq_5, S.ev.eq_6, S.ev.eq_7, S.ev.eq_10, S.ev.eq_11, S.ev.eq_12, S.ev.eq_13, S.ev.eq_14, S.ev.eq_15, S.ev.eq_16, S.ev.eq_17, S.ev.eq_18, S.ev.eq_19, S.ev.eq_20, E.ev.eq_1, E.ev.eq_2, E.ev.eq_3, E.ev.eq_4, E.ev.eq_5, E.ev.eq_6, E.ev.eq_7, E.ev.eq_8, E.ev.eq_9, E.ev.eq_10, E.ev.eq_11, E.ev.eq_12, E.ev.eq_13, E.ev.eq_14, E.ev.eq_15, E.ev.eq_16, E.ev.eq_17, E.ev.eq_18, E.ev.eq_19, E.ev.eq_20, E.ev.eq_21, E.ev.eq_22, E.ev.eq_23, E.ev.eq_24, E.ev.eq_25, E.ev.eq_26, E.ev.eq_28, E.ev.eq_29, Es.ev, It.ev, Op.ev, Op.tst, slV, slP, ownS, ixT, T.tru, outT, b4, b5, i1])]
  rw [ev_step (env' := [.fz (.scr ns), .fz r.t, .fz (.int c), .fz B.t, .fz r.o, .fz (.lst (plcT pl)), .ow (.lst (plcT pl)), .fz W.t, .no]) (by
    simp [Ss.ev, S.ev.eq_1, S.ev.eq_2, S.ev.eq_3, S.ev.eq_4, S.ev.eq_5, S.ev.eq_6, S.ev.eq_7, S.ev.eq_10, S.ev.eq_11, S.ev.eq_12, S.ev.eq_13, S.ev.eq_14, S.ev.eq_15, S.ev.eq_16, S.ev.eq_17, S.ev.eq_18, S.ev.eq_19, S.ev.eq_20, E.ev.eq_1, E.ev.eq_2, E.ev.eq_3, E.ev.eq_4, E.ev.eq_5, E.ev.eq_6, E.ev.eq_7, E.ev.eq_8, E.ev.eq_9, E.ev.eq_10, E.ev.eq_11, E.ev.eq_12, E.ev.eq_13, E.ev.eq_14, E.ev.eq_15, E.ev.eq_16, E.ev.eq_17, E.ev.eq_18, E.ev.eq_19, E.ev.eq_20, E.ev.eq_21, E.ev.eq_22, E.ev.eq_23, E.ev.eq_24, E.ev.eq_25, E.ev.eq_26, E.ev.eq_28, E.ev.eq_29, Es.ev, It.ev, Op.ev, Op.tst, slV, slP, ownS, ixT, T.tru, outT, b11])]
  rw [ev_step (env' := [.fz (.scr ns), .fz r.t, .fz (.int c), .fz B.t, .fz r.o, .fz (.lst (plcT pl)), .ow (.lst (plcT pl)), .fz W.t, .fz W.o]) (by
    simp [Ss.ev, S.ev.eq_1, S.ev.eq_2, S.ev.eq_3, S.ev.eq_4, S.ev.eq_5, S.ev.eq_6, S.ev.eq_7, S.ev.eq_10, S.ev.eq_11, S.ev.eq_12, S.ev.eq_13, S.ev.eq_14, S.ev.eq_15, S.ev.eq_16, S.ev.eq_17, S.ev.eq_18, S.ev.eq_19, S.ev.eq_20, E.ev.eq_1, E.ev.eq_2, E.ev.eq_3, E.ev.eq_4, E.ev.eq_5, E.ev.eq_6, E.ev.eq_7, E.ev.eq_8, E.ev.eq_9, E.ev.eq_10, E.ev.eq_11, E.ev.eq_12, E.ev.eq_13, E.ev.eq_14, E.ev.eq_15, E.ev.eq_16, E.ev.eq_17, E.ev.eq_18, E.ev.eq_19, E.ev.eq_20, E.ev.eq_21, E.ev.eq_22, E.ev.eq_23, E.ev.eq_24, E.ev.eq_25, E.ev.eq_26, E.ev.eq_28, E.ev.eq_29, Es.ev, It.ev, Op.ev, Op.tst, slV, slP, ownS, ixT, T.tru, outT, b7])]
  rw [ev_step (env' := [.fz (.scr ns), .fz r.t, .fz (.int c), .fz B.t, .fz r.o, .fz (.lst (plcT pl)), .ow (.lst (plcT pl)), .fz W.t, .fz W.o]) (by
    simp [Ss.ev, S.ev.eq_1, S.ev.eq_2, S.ev.eq_3, S.ev.eq_4, S.ev.eq_5, S.ev.eq_6, S.ev.eq_7, S.ev.eq_10, S.ev.eq_11, S.ev.eq_12, S.ev.eq_13, S.ev.eq_14, S.ev.eq_15, S.ev.eq_16, S.ev.eq_17, S.ev.eq_18, S.ev.eq_19, S.ev.eq_20, E.ev.eq_1, E.ev.eq_2, E.ev.eq_3, E.ev.eq_4, E.ev.eq_5, E.ev.eq_6, E.ev.eq_7, E.ev.eq_8, E.ev.eq_9, E.ev.eq_10, E.ev.eq_11, E.ev.eq_12, E.ev.eq_13, E.ev.eq_14, E.ev.eq_15, E.ev.eq_16, E.ev.eq_17, E.ev.eq_18, E.ev.eq_19, E.ev.eq_20, E.ev.eq_21, E.ev.eq_22, E.ev.eq_23, E.ev.eq_24, E.ev.eq_25, E.ev.eq_26, E.ev.eq_28, E.ev.eq_29, Es.ev, It.ev, Op.ev, Op.tst, slV, slP, ownS, ixT, T.tru, outT, i2, COp.ap, e3, e4])]
  rw [ev_step (env' := [.fz (.scr ns), .fz r.t, .fz (.int c), .fz B.t, .fz r.o, .fz (.lst (plcT pl)), .ow (.lst []), .fz W.t, .fz W.o]) (by
    simp [Ss.ev, S.ev.eq_1, S.ev.eq_2, S.ev.eq_3, S.ev.eq_4, S.ev.eq_5, S.ev.eq_6, S.ev.eq_7, S.ev.eq_10, S.ev.eq_11, S.ev.eq_12, S.ev.eq_13, S.ev.eq_14, S.ev.eq_15, S.ev.eq_16, S.ev.eq_17, S.ev.eq_18, S.ev.eq_19, S.ev.eq_20, E.ev.eq_1, E.ev.eq_2, E.ev.eq_3, E.ev.eq_4, E.ev.eq_5, E.ev.eq_6, E.ev.eq_7, E.ev.eq_8, E.ev.eq_9, E.ev.eq_10, E.ev.eq_11, E.ev.eq_12, E.ev.eq_13, E.ev.eq_14, E.ev.eq_15, E.ev.eq_16, E.ev.eq_17, E.ev.eq_18, E.ev.eq_19, E.ev.eq_20, E.ev.eq_21, E.ev.eq_22, E.ev.eq_23, E.ev.eq_24, E.ev.eq_25, E.ev.eq_26, E.ev.eq_28, E.ev.eq_29, Es.ev, It.ev, Op.ev, Op.tst, slV, slP, ownS, ixT, T.tru, outT, Lm.ap, slO])]
  rw [ev_step (env' := [.fz (.scr ns), .fz r.t, .fz (.int c), .fz B.t, .fz r.o, .fz (.lst (plcT pl)), .ow (.lst []), .fz W.t, .fz W.o]) (by
    simp [Ss.ev, S.ev.eq_1, S.ev.eq_2, S.ev.eq_3, S.ev.eq_4, S.ev.eq_5, S.ev.eq_6, S.ev.eq_7, S.ev.eq_10, S.ev.eq_11, S.ev.eq_12, S.ev.eq_13, S.ev.eq_14, S.ev.eq_15, S.ev.eq_16, S.ev.eq_17, S.ev.eq_18, S.ev.eq_19, S.ev.eq_20, E.ev.eq_1, E.ev.eq_2, E.ev.eq_3, E.ev.eq_4, E.ev.eq_5, E.ev.eq_6, E.ev.eq_7, E.ev.eq_8, E.ev.eq_9, E.ev.eq_10, E.ev.eq_11, E.ev.eq_12, E.ev.eq_13, E.ev.eq_14, E.ev.eq_15, E.ev.eq_16, E.ev.eq_17, E.ev.eq_18, E.ev.eq_19, E.ev.eq_20, E.ev.eq_21, E.ev.eq_22, E.ev.eq_23, E.ev.eq_24, E.ev.eq_25, E.ev.eq_26, E.ev.eq_28, E.ev.eq_29, Es.ev, It.ev, Op.ev, Op.tst, slV, slP, ownS, ixT, T.tru, outT, revT, i2, b4, b8, plc_rev])]
  rw [ev_step (env' := [.fz (.scr ns), .fz r.t, .fz (.int c), .fz B.t, .fz r.o, .fz (.lst (plcT pl)), .ow (.lst []), .fz W.t, .fz W.o]) (by
    simp [Ss.ev, S.ev.eq_1, S.ev.eq_2, S.ev.eq_3, S.ev.eq_4, S.ev.eq_5, S.ev.eq_6, S.ev.eq_7, S.ev.eq_10, S.ev.eq_11, S.ev.eq_12, S.ev.eq_13, S.ev.eq_14, S.ev.eq_15, S.ev.eq_16, S.ev.eq_17, S.ev.eq_18, S.ev.eq_19, S.ev.eq_20, E.ev.eq_1, E.ev.eq_2, E.ev.eq_3, E.ev.eq_4, E.ev.eq_5, E.ev.eq_6, E.ev.eq_7, E.ev.eq_8, E.ev.eq_9, E.ev.eq_10, E.ev.eq_11, E.ev.eq_12, E.ev.eq_13, E.ev.eq_14, E.ev.eq_15, E.ev.eq_16, E.ev.eq_17, E.ev.eq_18, E.ev.eq_19, E.ev.eq_20, E.ev.eq_21, E.ev.eq_22, E.ev.eq_23, E.ev.eq_24, E.ev.eq_25, E.ev.eq_26, E.ev.eq_28, E.ev.eq_29, Es.ev, It.ev, Op.ev, Op.tst, slV, slP, ownS, ixT, T.tru, outT, i1, i2, b6, b9])]
  rw [ev_step (env' := [.fz (.scr ns), .fz r.t, .fz (.int c), .fz B.t, .fz r.o, .fz (.lst (plcT pl)), .fz (.lst []), .fz W.t, .fz W.o]) (by
    simp [Ss.ev, S.ev.eq_1, S.ev.eq_2, S.ev.eq_3, S.ev.eq_4, S.ev.eq_5, S.ev.eq_6, S.ev.eq_7, S.ev.eq_10, S.ev.eq_11, S.ev.eq_12, S.ev.eq_13, S.ev.eq_14, S.ev.eq_15, S.ev.eq_16, S.ev.eq_17, S.ev.eq_18, S.ev.eq_19, S.ev.eq_20, E.ev.eq_1, E.ev.eq_2, E.ev.eq_3, E.ev.eq_4, E.ev.eq_5, E.ev.eq_6, E.ev.eq_7, E.ev.eq_8, E.ev.eq_9, E.ev.eq_10, E.ev.eq_11, E.ev.eq_12, E.ev.eq_13, E.ev.eq_14, E.ev.eq_15, E.ev.eq_16, E.ev.eq_17, E.ev.eq_18, E.ev.eq_19, E.ev.eq_20, E.ev.eq_21, E.ev.eq_22, E.ev.eq_23, E.ev.eq_24, E.ev.eq_25, E.ev.eq_26, E.ev.eq_28, E.ev.eq_29, Es.ev, It.ev, Op.ev, Op.tst, slV, slP, ownS, ixT, T.tru, outT, frzE])]
  have b10' : (tab.pg (k + 12)).fn 5 [r.o, .lst []] = some B.o := b10
  simp [Ss.ev, S.ev.eq_1, S.ev.eq_2, S.ev.eq_3, S.ev.eq_4, S.ev.eq_5, S.ev.eq_6, S.ev.eq_7, S.ev.eq_10, S.ev.eq_11, S.ev.eq_12, S.ev.eq_13, S.ev.eq_14, S.ev.eq_15, S.ev.eq_16, S.ev.eq_17, S.ev.eq_18, S.ev.eq_19, S.ev.eq_20, E.ev.eq_1, E.ev.eq_2, E.ev.eq_3, E.ev.eq_4, E.ev.eq_5, E.ev.eq_6, E.ev.eq_7, E.ev.eq_8, E.ev.eq_9, E.ev.eq_10, E.ev.eq_11, E.ev.eq_12, E.ev.eq_13, E.ev.eq_14, E.ev.eq_15, E.ev.eq_16, E.ev.eq_17, E.ev.eq_18, E.ev.eq_19, E.ev.eq_20, E.ev.eq_21, E.ev.eq_22, E.ev.eq_23, E.ev.eq_24, E.ev.eq_25, E.ev.eq_26, E.ev.eq_28, E.ev.eq_29, Es.ev, It.ev, Op.ev, Op.tst, slV, slP, ownS, ixT, T.tru, outT, b10', i1, b12, COp.ap, e1, e2]
end
end Tx

set_option Elab.async false
set_option linter.all false
set_option autoImplicit false
set_option maxRecDepth 100000
set_option maxHeartbeats 4000000
namespace Tx
open PySem Fe
/-- the places of one thread -/
def thP (p : Pl) (t : Nat) : List (Nat × Nat) := match p.ths[t]? with
  | some r => (List.range (r.length - 1)).map fun j => (t, 1 + j)
  | none => []
def allPl (p : Pl) (i : Nat) : List (Nat × Nat) := (List.range i).flatMap (thP p)
theorem thP_fst {p : Pl} {t : Nat} {q : Nat × Nat} (h : q ∈ thP p t) : q.1 = t := by
  unfold thP at h
  cases e : p.ths[t]? with
  | none => rw [e] at h; cases h
  | some r =>
    rw [e] at h
    obtain ⟨j, _, rfl⟩ := List.mem_map.mp h
    rfl
theorem thP_nd (p : Pl) (t : Nat) : (thP p t).Nodup := by
  unfold thP
  cases e : p.ths[t]? with
  | none => exact List.nodup_nil
  | some r =>
    refine List.pairwise_map.mpr ?_
    refine List.Pairwise.imp ?_ (List.nodup_range (n := r.length - 1))
    intro a b hab e
    injection e with _ e2
    omega
theorem allPl_nd (p : Pl) : ∀ i, (allPl p i).Nodup
  | 0 => List.nodup_nil
  | i + 1 => by
    unfold allPl
    rw [range_fl]
    refine List.nodup_append.mpr ⟨allPl_nd p i, thP_nd p i, fun a ha b hb e => ?_⟩
    obtain ⟨t, ht, hat⟩ := List.mem_flatMap.mp ha
    have h1 := thP_fst hat
    have h2 := thP_fst hb
    rw [List.mem_range] at ht
    rw [e] at h1
    omega
theorem thP_len {p : Pl} (h : PlOk 100 p) (t : Nat) : (thP p t).length ≤ 100 := by
  unfold thP
  cases e : p.ths[t]? with
  | none => exact Nat.zero_le _
  | some r =>
    have := h.rl r (List.mem_of_getElem? e)
    simp; omega
theorem allPl_len {p : Pl} (h : PlOk 100 p) : ∀ i, (allPl p i).length ≤ 100 * i
  | 0 => Nat.le_refl _
  | i + 1 => by
    unfold allPl
    rw [range_fl, List.length_append]
    have h1 := allPl_len h i
    have h2 := thP_len h i
    unfold allPl at h1
    omega
section
variable {k : Nat}
theorem rng2_nat (N : Nat) (h : N ≤ 1000) : rng2T (.int 1) (.int (N : Nat)) = some ((List.range (N - 1)).map fun j => .int ((1 : Int) + (j : Nat))) := by
  have hL : LIM = 16777216 := rfl
  have e : ((N : Int) - 1).toNat = N - 1 := by omega
  have h1 : (-(2 ^ 62) : Int) ≤ 1 := by decide
  have h2 : (1 : Int) < 2 ^ 62 := by decide
  have h3 : -(2 ^ 62) ≤ (N : Int) := by omega
  have h4 : (N : Int) < 2 ^ 62 := by omega
  have h5 : (N : Int) - 1 ≤ (LIM : Nat) := by omega
  simp only [rng2T, h1, h2, h3, h4, h5, and_self, if_true, e, rngT]
theorem ev_rng2 {P : Pg} {env : En} {a b : E} {x y : T} (ha : a.ev P env = some x) (hb : b.ev P env = some y) : (It.rng2 a b).ev P env = rng2T x y := by
  unfold It.ev
  rw [ha, hb]
  rfl
theorem c19x (r : List Rw) (t : Nat) (hl : r.length ≤ 1000) (s0 s1 s4 : Sl) (h : (It.rng2 (.k (.int 1)) (.bi .len (.cons (.v 3) .nil))).ev (tab.pg k) [s0, s1, .fz (.int (t : Nat)), .fz (.tup (r.map Rw.t)), s4] = some ((List.range (r.length - 1)).map fun j => .int ((1 : Int) + (j : Nat)))) :
    c19_0.ev (tab.pg k) [s0, s1, .fz (.int (t : Nat)), .fz (.tup (r.map Rw.t)), s4] = some (.lst ((List.range (r.length - 1)).map fun (j : Nat) => .tup [.int (t : Nat), .int (1 + (j : Int))])) := by
  unfold c19_0
  refine ev_lcB (List.range (r.length - 1)) (fun j => .int ((1 : Int) + (j : Nat))) _ h fun j hj => ?_
  refine ⟨[s0, s1, .fz (.int (t : Nat)), .fz (.tup (r.map Rw.t)), .fz (.int ((1 : Int) + (j : Nat)))], ?_, ?_, ?_⟩
  · simp [Tg.bind, wipeE]
  · simp [Op.tst]
  · simp [Ss.ev, S.ev.eq_1, S.ev.eq_2, S.ev.eq_3, S.ev.eq_4, S.ev.eq_5, S.ev.eq_6, S.ev.eq_7, S.ev.eq_10, S.ev.eq_11, S.ev.eq_12, S.ev.eq_13, S.ev.eq_14, S.ev.eq_15, S.ev.eq_16, S.ev.eq_17, S.ev.eq_18, S.ev.eq_19, S.ev.eq_20, E.ev.eq_1, E.ev.eq_2, E.ev.eq_3, E.ev.eq_4, E.ev.eq_5, E.ev.eq_6, E.ev.eq_7, E.ev.eq_8, E.ev.eq_9, E.ev.eq_10, E.ev.eq_11, E.ev.eq_12, E.ev.eq_13, E.ev.eq_14, E.ev.eq_15, E.ev.eq_16, E.ev.eq_17, E.ev.eq_18, E.ev.eq_19, E.ev.eq_20, E.ev.eq_21, E.ev.eq_22, E.ev.eq_23, E.ev.eq_24, E.ev.eq_25, E.ev.eq_26, E.ev.eq_28, E.ev.eq_29, Es.ev, It.ev, Op.ev, Op.tst, slV, slP, ownS, ixT, T.tru, outT]
theorem c19 (p : Pl) (r : List Rw) (t : Nat) (h : p.ths[t]? = some r) (hl : r.length ≤ 1000) (s0 s1 s4 : Sl) :
    c19_0.ev (tab.pg k) [s0, s1, .fz (.int (t : Nat)), .fz (.tup (r.map Rw.t)), s4] = some (.lst (plcT (thP p t))) := by
  have e : plcT (thP p t) = (List.range (r.length - 1)).map fun (j : Nat) => .tup [.int (t : Nat), .int (1 + (j : Int))] := by
    unfold thP plcT
    rw [h]
    simp only [List.map_map]
    apply List.map_congr_left
    intro j _
    show T.tup [.int (t : Nat), .int ((1 + j : Nat) : Int)] = _
    have : ((1 + j : Nat) : Int) = 1 + (j : Int) := by omega
    rw [this]
  rw [e]
  refine c19x r t hl s0 s1 s4 ((ev_rng2 (x := .int 1) (y := .int (r.length : Nat)) ?_ ?_).trans (rng2_nat r.length hl))
  · simp [Ss.ev, S.ev.eq_1, S.ev.eq_2, S.ev.eq_3, S.ev.eq_4, S.ev.eq_5, S.ev.eq_6, S.ev.eq_7, S.ev.eq_10, S.ev.eq_11, S.ev.eq_12, S.ev.eq_13, S.ev.eq_14, S.ev.eq_15, S.ev.eq_16, S.ev.eq_17, S.ev.eq_18, S.ev.eq_19, S.ev.eq_20, E.ev.eq_1, E.ev.eq_2, E.ev.eq_3, E.ev.eq_4, E.ev.eq_5, E.ev.eq_6, E.ev.eq_7, E.ev.eq_8, E.ev.eq_9, E.ev.eq_10, E.ev.eq_11, E.ev.eq_12, E.ev.eq_13, E.ev.eq_14, E.ev.eq_15, E.ev.eq_16, E.ev.eq_17, E.ev.eq_18, E.ev.eq_19, E.ev.eq_20, E.ev.eq_21, E.ev.eq_22, E.ev.eq_23, E.ev.eq_24, E.ev.eq_25, E.ev.eq_26, E.ev.eq_28, E.ev.eq_29, Es.ev, It.ev, Op.ev, Op.tst, slV, slP, ownS, ixT, T.tru, outT]
  · simp [Ss.ev, S.ev.eq_1, S.ev.eq_2, S.ev.eq_3, S.ev.eq_4, S.ev.eq_5, S.ev.eq_6, S.ev.eq_7, S.ev.eq_10, S.ev.eq_11, S.ev.eq_12, S.ev.eq_13, S.ev.eq_14, S.ev.eq_15, S.ev.eq_16, S.ev.eq_17, S.ev.eq_18, S.ev.eq_19, S.ev.eq_20, E.ev.eq_1, E.ev.eq_2, E.ev.eq_3, E.ev.eq_4, E.ev.eq_5, E.ev.eq_6, E.ev.eq_7, E.ev.eq_8, E.ev.eq_9, E.ev.eq_10, E.ev.eq_11, E.ev.eq_12, E.ev.eq_13, E.ev.eq_14, E.ev.eq_15, E.ev.eq_16, E.ev.eq_17, E.ev.eq_18, E.ev.eq_19, E.ev.eq_20, E.ev.eq_21, E.ev.eq_22, E.ev.eq_23, E.ev.eq_24, E.ev.eq_25, E.ev.eq_26, E.ev.eq_28, E.ev.eq_29, Es.ev, It.ev, Op.ev, Op.tst, slV, slP, ownS, ixT, T.tru, outT, Bi.ap]
def I19 (p : Pl) (i : Nat) (env : En) : Prop := ∃ e2 e3, env = [.fz p.t, .ow (.lst (plcT (allPl p i))), e2, e3, .no]
theorem law_all_places (p : Pl) (h : PlOk 100 p) : (tab.pg (k + 1)).fn 19 [p.t] = some (.lst (plcT (allPl p p.ths.length))) := by
  rw [fnS]
  show outT (b19.ev (tab.pg k) [.fz p.t, .no, .no, .no, .no]) = _
  unfold b19
  rw [ev_step (env' := [.fz p.t, .ow (.lst []), .no, .no, .no]) rfl]
  obtain ⟨env', h4, e2, e3, rfl⟩ := ev_for (P := tab.pg k) (env := [.fz p.t, .ow (.lst []), .no, .no, .no]) (tg := .tt [2, 3]) (it := .enu (.ix (.v 0) (.k (.int 1)))) (ts := enumT 0 (thsT p.ths)) (b := l19_1)
    (I19 p) (by simp [Ss.ev, S.ev.eq_1, S.ev.eq_2, S.ev.eq_3, S.ev.eq_4, S.ev.eq_5, S.ev.eq_6, S.ev.eq_7, S.ev.eq_10, S.ev.eq_11, S.ev.eq_12, S.ev.eq_13, S.ev.eq_14, S.ev.eq_15, S.ev.eq_16, S.ev.eq_17, S.ev.eq_18, S.ev.eq_19, S.ev.eq_20, E.ev.eq_1, E.ev.eq_2, E.ev.eq_3, E.ev.eq_4, E.ev.eq_5, E.ev.eq_6, E.ev.eq_7, E.ev.eq_8, E.ev.eq_9, E.ev.eq_10, E.ev.eq_11, E.ev.eq_12, E.ev.eq_13, E.ev.eq_14, E.ev.eq_15, E.ev.eq_16, E.ev.eq_17, E.ev.eq_18, E.ev.eq_19, E.ev.eq_20, E.ev.eq_21, E.ev.eq_22, E.ev.eq_23, E.ev.eq_24, E.ev.eq_25, E.ev.eq_26, E.ev.eq_28, E.ev.eq_29, Es.ev, It.ev, Op.ev, Op.tst, slV, slP, ownS, ixT, T.tru, outT, Pl.t, atI1, enuT]) ⟨_, _, rfl⟩ (by
    rintro i t env ht ⟨e2, e3, rfl⟩
    obtain ⟨u, hu, rfl⟩ := enum_at ht
    unfold thsT at hu
    rw [List.getElem?_map] at hu
    obtain ⟨r, hr, rfl⟩ := mpd hu
    have hi : i < p.ths.length := (List.getElem?_eq_some_iff.mp hr).1
    have hrl := h.rl r (List.mem_of_getElem? hr)
    have htl := h.tl
    have hc := c19 (k := k) p r i hr (by omega) (.fz p.t) (.ow (.lst (plcT (allPl p i)))) .no
    have hL : LIM = 16777216 := rfl
    have h1 := allPl_len h i
    have h2 := thP_len h i
    have hln : (plcT (allPl p i)).length + (plcT (thP p i)).length ≤ LIM := by
      unfold plcT
      rw [List.length_map, List.length_map]; omega
    have hs : plcT (allPl p (i + 1)) = plcT (allPl p i) ++ plcT (thP p i) := by
      unfold allPl plcT
      rw [range_fl, List.map_append]
    refine ⟨_, [.fz p.t, .ow (.lst (plcT (allPl p (i + 1)))), .fz (.int (i : Nat)), .fz (.tup (r.map Rw.t)), .no], rfl, .inl ?_, .fz (.int (i : Nat)), .fz (.tup (r.map Rw.t)), rfl⟩
    rw [hs]
    generalize plcT (allPl p i) = A at hc hln ⊢
    simp [l19_1, Ss.ev, S.ev.eq_1, S.ev.eq_2, S.ev.eq_3, S.ev.eq_4, S.ev.eq_5, S.ev.eq_6, S.ev.eq_7, S.ev.eq_10, S.ev.eq_11, S.ev.eq_12, S.ev.eq_13, S.ev.eq_14, S.ev.eq_15, S.ev.eq_16, S.ev.eq_17, S.ev.eq_18, S.ev.eq_19, S.ev.eq_20, E.ev.eq_1, E.ev.eq_2, E.ev.eq_3, E.ev.eq_4, E.ev.eq_5, E.ev.eq_6, E.ev.eq_7, E.ev.eq_8, E.ev.eq_9, E.ev.eq_10, E.ev.eq_11, E.ev.eq_12, E.ev.eq_13, E.ev.eq_14, E.ev.eq_15, E.ev.eq_16, E.ev.eq_17, E.ev.eq_18, E.ev.eq_19, E.ev.eq_20, E.ev.eq_21, E.ev.eq_22, E.ev.eq_23, E.ev.eq_24, E.ev.eq_25, E.ev.eq_26, E.ev.eq_28, E.ev.eq_29, Es.ev, It.ev, Op.ev, Op.tst, slV, slP, ownS, ixT, T.tru, outT, hc, slO, Lm.ap, hln])
  refine (congrArg outT (ev_step h4)).trans ?_
  have hln : (enumT 0 (thsT p.ths)).length = p.ths.length := by
    rw [enumT_len]; simp [thsT]
  rw [hln]
  simp [Ss.ev, S.ev.eq_1, S.ev.eq_2, S.ev.eq_3, S.ev.eq_4, S.ev.eq_5, S.ev.eq_6, S.ev.eq_7, S.ev.eq_10, S.ev.eq_11, S.ev.eq_12, S.ev.eq_13, S.ev.eq_14, S.ev.eq_15, S.ev.eq_16, S.ev.eq_17, S.ev.eq_18, S.ev.eq_19, S.ev.eq_20, E.ev.eq_1, E.ev.eq_2, E.ev.eq_3, E.ev.eq_4, E.ev.eq_5, E.ev.eq_6, E.ev.eq_7, E.ev.eq_8, E.ev.eq_9, E.ev.eq_10, E.ev.eq_11, E.ev.eq_12, E.ev.eq_13, E.ev.eq_14, E.ev.eq_15, E.ev.eq_16, E.ev.eq_17, E.ev.eq_18, E.ev.eq_19, E.ev.eq_20, E.ev.eq_21, E.ev.eq_22, E.ev.eq_23, E.ev.eq_24, E.ev.eq_25, E.ev.eq_26, E.ev.eq_28, E.ev.eq_29, Es.ev, It.ev, Op.ev, Op.tst, slV, slP, ownS, ixT, T.tru, outT, frzE]
def d20 : E := .cmp .eq (.bin .mod (.call 7 (.cons (.bin .mul (.v 1) (.bin .add (.k (.int 1)) (.bin .mul (.k (.int 2)) (.v 3)))) (.cons (.v 3) .nil))) (.ix (.lst (.cons (.k (.int 2)) (.cons (.k (.int 4)) (.cons (.k (.int 1)) .nil)))) (.bin .mod (.v 1) (.k (.int 3))))) (.k (.int 0))
def t20 : Ss := .cons (.lm .insert 2 (.cons (.bin .mod (.call 7 (.cons (.bin .mul (.v 1) (.bin .add (.k (.int 3)) (.bin .mul (.k (.int 2)) (.v 3)))) (.cons (.bin .add (.k (.int 50)) (.v 3)) .nil))) (.bin .add (.bi .len (.cons (.p 2) .nil)) (.k (.int 1)))) (.cons (.v 4) .nil))) .nil
def I20 (p : Pl) (c : Int) (L : List (Nat × Nat)) (i : Nat) (env : En) : Prop := ∃ e3 e4 A, A.Nodup ∧ A.length ≤ i ∧ (∀ q ∈ A, q ∈ L.take i) ∧ env = [.fz p.t, .fz (.int c), .ow (.lst (plcT A)), e3, e4]
theorem law_places (p : Pl) (h : PlOk 100 p) (c : Int) (hc : 0 ≤ c) : ∃ pl, pl.Nodup ∧ pl.length ≤ 10000 ∧ (tab.pg (k + 2)).fn 20 [p.t, .int c] = some (.lst (plcT pl)) := by
  have hA := law_all_places (k := k) p h
  have nd := allPl_nd p p.ths.length
  have hl : (allPl p p.ths.length).length ≤ 1000 := by
    have := allPl_len h p.ths.length
    have := h.tl
    omega
  generalize allPl p p.ths.length = L at hA nd hl
  obtain ⟨env', h4, e3, e4, A, a1, a2, a3, rfl⟩ := ev_for (P := tab.pg (k + 1)) (env := [.fz p.t, .fz (.int c), .ow (.lst []), .no, .no]) (tg := .tt [3, 4]) (it := .enu (.call 19 (.cons (.v 0) .nil))) (ts := enumT 0 (plcT L)) (b := l20_0)
    (I20 p c L) (by simp [Ss.ev, S.ev.eq_1, S.ev.eq_2, S.ev.eq_3, S.ev.eq_4, S.ev.eq_5, S.ev.eq_6, S.ev.eq_7, S.ev.eq_10, S.ev.eq_11, S.ev.eq_12, S.ev.eq_13, S.ev.eq_14, S.ev.eq_15, S.ev.eq_16, S.ev.eq_17, S.ev.eq_18, S.ev.eq_19, S.ev.eq_20, E.ev.eq_1, E.ev.eq_2, E.ev.eq_3, E.ev.eq_4, E.ev.eq_5, E.ev.eq_6, E.ev.eq_7, E.ev.eq_8, E.ev.eq_9, E.ev.eq_10, E.ev.eq_11, E.ev.eq_12, E.ev.eq_13, E.ev.eq_14, E.ev.eq_15, E.ev.eq_16, E.ev.eq_17, E.ev.eq_18, E.ev.eq_19, E.ev.eq_20, E.ev.eq_21, E.ev.eq_22, E.ev.eq_23, E.ev.eq_24, E.ev.eq_25, E.ev.eq_26, E.ev.eq_28, E.ev.eq_29, Es.ev, It.ev, Op.ev, Op.tst, slV, slP, ownS, ixT, T.tru, outT, hA, enuT]) ⟨_, _, [], List.nodup_nil, Nat.le_refl _, (fun q hq => nomatch hq), rfl⟩ (by
    rintro i t env ht ⟨e3, e4, A, a1, a2, a3, rfl⟩
    obtain ⟨u, hu, rfl⟩ := enum_at ht
    unfold plcT at hu
    rw [List.getElem?_map] at hu
    obtain ⟨q, hq, rfl⟩ := mpd hu
    have hi : i < L.length := (List.getElem?_eq_some_iff.mp hq).1
    have hL : LIM = 16777216 := rfl
    have m1 := mixed_ok k (c * (1 + 2 * (i : Int))) (i : Int) (by omega)
    have m2 := mixed_ok k (c * (3 + 2 * (i : Int))) (50 + (i : Int)) (by omega)
    have i1 : inMul c (1 + 2 * (i : Int)) = true := inMulR (by omega)
    have i2 : inMul c (3 + 2 * (i : Int)) = true := inMulR (by omega)
    have i3 : inMul 2 (i : Int) = true := inMulL (by omega)
    have htk : L.take (i + 1) = L.take i ++ [q] := by rw [List.take_add_one, hq]; rfl
    have hqA : q ∉ A := by
      intro hm
      have h1 := a3 q hm
      have h2 : (L.take (i + 1)).Nodup := nd.sublist (List.take_sublist _ _)
      rw [htk] at h2
      exact (List.nodup_append.mp h2).2.2 q h1 q (List.mem_singleton.mpr rfl) rfl
    have m1lo := mixed_lo (c * (1 + 2 * (i : Int))) (i : Int)
    have m2lo := mixed_lo (c * (3 + 2 * (i : Int))) (50 + (i : Int))
    generalize mixed (c * (1 + 2 * (i : Int))) (i : Int) = x1 at m1 m1lo
    generalize mixed (c * (3 + 2 * (i : Int))) (50 + (i : Int)) = x2 at m2 m2lo
    generalize hent : [Sl.fz p.t, .fz (.int c), .ow (.lst (plcT A)), .fz (.int (i : Nat)), .fz (.tup [.int (q.1 : Nat), .int (q.2 : Nat)])] = ent at *
    obtain ⟨b, hb⟩ : ∃ b, d20.ev (tab.pg (k + 1)) ent = some (.bl b) := by
      rw [← hent]
      have : c % 3 = 0 ∨ c % 3 = 1 ∨ c % 3 = 2 := by omega
      rcases this with e | e | e <;> (simp [d20, Ss.ev, S.ev.eq_1, S.ev.eq_2, S.ev.eq_3, S.ev.eq_4, S.ev.eq_5, S.ev.eq_6, S.ev.eq_7, S.ev.eq_10, S.ev.eq_11, S.ev.eq_12, S.ev.eq_13, S.ev.eq_14, S.ev.eq_15, S.ev.eq_16, S.ev.eq_17, S.ev.eq_18, S.ev.eq_19, S.ev.eq_20, E.ev.eq_1, E.ev.eq_2, E.ev.eq_3, E.ev.eq_4, E.ev.eq_5, E.ev.eq_6, E.ev.eq_7, E.ev.eq_8, E.ev.eq_9, E.ev.eq_10, E.ev.eq_11, E.ev.eq_12, E.ev.eq_13, E.ev.eq_14, E.ev.eq_15, E.ev.eq_16, E.ev.eq_17, E.ev.eq_18, E.ev.eq_19, E.ev.eq_20, E.ev.eq_21, E.ev.eq_22, E.ev.eq_23, E.ev.eq_24, E.ev.eq_25, E.ev.eq_26, E.ev.eq_28, E.ev.eq_29, Es.ev, It.ev, Op.ev, Op.tst, slV, slP, ownS, ixT, T.tru, outT, BOp.ap, COp.ap, eqOk, T.dep, e, i1, i3, m1, atI0, atI1, atI2, T.eqv, T.toD, PyData.eqv])
    have hl20 : l20_0.ev (tab.pg (k + 1)) ent = (if b then t20 else .nil).ev (tab.pg (k + 1)) ent := by
      show (Ss.cons (.iff d20 t20 .nil) .nil).ev (tab.pg (k + 1)) ent = _
      simp only [Ss.ev, S.ev.eq_1, S.ev.eq_2, S.ev.eq_3, S.ev.eq_4, S.ev.eq_5, S.ev.eq_6, S.ev.eq_7, S.ev.eq_10, S.ev.eq_11, S.ev.eq_12, S.ev.eq_13, S.ev.eq_14, S.ev.eq_15, S.ev.eq_16, S.ev.eq_17, S.ev.eq_18, S.ev.eq_19, S.ev.eq_20, E.ev.eq_1, E.ev.eq_2, E.ev.eq_3, E.ev.eq_4, E.ev.eq_5, E.ev.eq_6, E.ev.eq_7, E.ev.eq_8, E.ev.eq_9, E.ev.eq_10, E.ev.eq_11, E.ev.eq_12, E.ev.eq_13, E.ev.eq_14, E.ev.eq_15, E.ev.eq_16, E.ev.eq_17, E.ev.eq_18, E.ev.eq_19, E.ev.eq_20, E.ev.eq_21, E.ev.eq_22, E.ev.eq_23, E.ev.eq_24, E.ev.eq_25, E.ev.eq_26, E.ev.eq_28, E.ev.eq_29, Es.ev, It.ev, Op.ev, Op.tst, slV, slP, ownS, ixT, T.tru, outT, hb, Option.bind_some]
      cases b
      · simp [Ss.ev, S.ev.eq_1, S.ev.eq_2, S.ev.eq_3, S.ev.eq_4, S.ev.eq_5, S.ev.eq_6, S.ev.eq_7, S.ev.eq_10, S.ev.eq_11, S.ev.eq_12, S.ev.eq_13, S.ev.eq_14, S.ev.eq_15, S.ev.eq_16, S.ev.eq_17, S.ev.eq_18, S.ev.eq_19, S.ev.eq_20, E.ev.eq_1, E.ev.eq_2, E.ev.eq_3, E.ev.eq_4, E.ev.eq_5, E.ev.eq_6, E.ev.eq_7, E.ev.eq_8, E.ev.eq_9, E.ev.eq_10, E.ev.eq_11, E.ev.eq_12, E.ev.eq_13, E.ev.eq_14, E.ev.eq_15, E.ev.eq_16, E.ev.eq_17, E.ev.eq_18, E.ev.eq_19, E.ev.eq_20, E.ev.eq_21, E.ev.eq_22, E.ev.eq_23, E.ev.eq_24, E.ev.eq_25, E.ev.eq_26, E.ev.eq_28, E.ev.eq_29, Es.ev, It.ev, Op.ev, Op.tst, slV, slP, ownS, ixT, T.tru, outT]
      · simp [Ss.ev, S.ev.eq_1, S.ev.eq_2, S.ev.eq_3, S.ev.eq_4, S.ev.eq_5, S.ev.eq_6, S.ev.eq_7, S.ev.eq_10, S.ev.eq_11, S.ev.eq_12, S.ev.eq_13, S.ev.eq_14, S.ev.eq_15, S.ev.eq_16, S.ev.eq_17, S.ev.eq_18, S.ev.eq_19, S.ev.eq_20, E.ev.eq_1, E.ev.eq_2, E.ev.eq_3, E.ev.eq_4, E.ev.eq_5, E.ev.eq_6, E.ev.eq_7, E.ev.eq_8, E.ev.eq_9, E.ev.eq_10, E.ev.eq_11, E.ev.eq_12, E.ev.eq_13, E.ev.eq_14, E.ev.eq_15, E.ev.eq_16, E.ev.eq_17, E.ev.eq_18, E.ev.eq_19, E.ev.eq_20, E.ev.eq_21, E.ev.eq_22, E.ev.eq_23, E.ev.eq_24, E.ev.eq_25, E.ev.eq_26, E.ev.eq_28, E.ev.eq_29, Es.ev, It.ev, Op.ev, Op.tst, slV, slP, ownS, ixT, T.tru, outT]
        split
        · next h => exact h.symm
        · rfl
    cases b with
    | true =>
      have hln : (plcT A).length < LIM := by unfold plcT; rw [List.length_map]; omega
      have hj0 : 0 ≤ x2 % (((plcT A).length : Int) + 1) := Int.emod_nonneg _ (by omega)
      have hj1 : x2 % (((plcT A).length : Int) + 1) < 4611686018427387904 := by
        have := Int.emod_lt_of_pos x2 (b := ((plcT A).length : Int) + 1) (by omega)
        omega
      generalize hj : (x2 % (((plcT A).length : Int) + 1)).toNat = j
      refine ⟨ent, [.fz p.t, .fz (.int c), .ow (.lst ((plcT A).take j ++ [.tup [.int (q.1 : Nat), .int (q.2 : Nat)]] ++ (plcT A).drop j)), .fz (.int (i : Nat)), .fz (.tup [.int (q.1 : Nat), .int (q.2 : Nat)])], by rw [← hent]; rfl, .inl ?_, .fz (.int (i : Nat)), .fz (.tup [.int (q.1 : Nat), .int (q.2 : Nat)]), A.take j ++ [q] ++ A.drop j, ?_, ?_, ?_, ?_⟩
      · rw [← hent] at hl20 ⊢
        refine hl20.trans ?_
        simp [t20, Ss.ev, S.ev.eq_1, S.ev.eq_2, S.ev.eq_3, S.ev.eq_4, S.ev.eq_5, S.ev.eq_6, S.ev.eq_7, S.ev.eq_10, S.ev.eq_11, S.ev.eq_12, S.ev.eq_13, S.ev.eq_14, S.ev.eq_15, S.ev.eq_16, S.ev.eq_17, S.ev.eq_18, S.ev.eq_19, S.ev.eq_20, E.ev.eq_1, E.ev.eq_2, E.ev.eq_3, E.ev.eq_4, E.ev.eq_5, E.ev.eq_6, E.ev.eq_7, E.ev.eq_8, E.ev.eq_9, E.ev.eq_10, E.ev.eq_11, E.ev.eq_12, E.ev.eq_13, E.ev.eq_14, E.ev.eq_15, E.ev.eq_16, E.ev.eq_17, E.ev.eq_18, E.ev.eq_19, E.ev.eq_20, E.ev.eq_21, E.ev.eq_22, E.ev.eq_23, E.ev.eq_24, E.ev.eq_25, E.ev.eq_26, E.ev.eq_28, E.ev.eq_29, Es.ev, It.ev, Op.ev, Op.tst, slV, slP, ownS, ixT, T.tru, outT, BOp.ap, Bi.ap, i2, i3, m2, slO, Lm.ap, hln, hj0, hj1, hj]
      · have hp : (A.take j ++ [q] ++ A.drop j).Perm (q :: A) := by
          have := List.perm_middle (a := q) (l₁ := A.take j) (l₂ := A.drop j)
          rw [List.take_append_drop] at this
          simpa using this
        exact hp.nodup_iff.mpr (List.nodup_cons.mpr ⟨hqA, a1⟩)
      · simp only [List.length_append, List.length_take, List.length_drop, List.length_cons, List.length_nil]; omega
      · intro z hz
        rw [htk]
        simp only [List.mem_append, List.mem_singleton] at hz ⊢
        rcases hz with (hz | hz) | hz
        · exact .inl (a3 z (List.mem_of_mem_take hz))
        · exact .inr hz
        · exact .inl (a3 z (List.mem_of_mem_drop hz))
      · simp [plcT, List.map_take, List.map_drop]
    | false =>
      refine ⟨ent, ent, by rw [← hent]; rfl, .inl ?_, .fz (.int (i : Nat)), .fz (.tup [.int (q.1 : Nat), .int (q.2 : Nat)]), A, a1, by omega, fun z hz => ?_, hent.symm⟩
      · refine hl20.trans ?_
        simp [Ss.ev, S.ev.eq_1, S.ev.eq_2, S.ev.eq_3, S.ev.eq_4, S.ev.eq_5, S.ev.eq_6, S.ev.eq_7, S.ev.eq_10, S.ev.eq_11, S.ev.eq_12, S.ev.eq_13, S.ev.eq_14, S.ev.eq_15, S.ev.eq_16, S.ev.eq_17, S.ev.eq_18, S.ev.eq_19, S.ev.eq_20, E.ev.eq_1, E.ev.eq_2, E.ev.eq_3, E.ev.eq_4, E.ev.eq_5, E.ev.eq_6, E.ev.eq_7, E.ev.eq_8, E.ev.eq_9, E.ev.eq_10, E.ev.eq_11, E.ev.eq_12, E.ev.eq_13, E.ev.eq_14, E.ev.eq_15, E.ev.eq_16, E.ev.eq_17, E.ev.eq_18, E.ev.eq_19, E.ev.eq_20, E.ev.eq_21, E.ev.eq_22, E.ev.eq_23, E.ev.eq_24, E.ev.eq_25, E.ev.eq_26, E.ev.eq_28, E.ev.eq_29, Es.ev, It.ev, Op.ev, Op.tst, slV, slP, ownS, ixT, T.tru, outT]
      · rw [htk]
        exact List.mem_append_left _ (a3 z hz))
  refine ⟨A, a1, ?_, ?_⟩
  · rw [enumT_len] at a2
    unfold plcT at a2
    rw [List.length_map] at a2; omega
  · rw [fnS]
    show outT (b20.ev (tab.pg (k + 1)) [.fz p.t, .fz (.int c), .no, .no, .no]) = _
    unfold b20
    rw [ev_step (env' := [.fz p.t, .fz (.int c), .ow (.lst []), .no, .no]) rfl]
    refine (congrArg outT (ev_step h4)).trans ?_
    simp [Ss.ev, S.ev.eq_1, S.ev.eq_2, S.ev.eq_3, S.ev.eq_4, S.ev.eq_5, S.ev.eq_6, S.ev.eq_7, S.ev.eq_10, S.ev.eq_11, S.ev.eq_12, S.ev.eq_13, S.ev.eq_14, S.ev.eq_15, S.ev.eq_16, S.ev.eq_17, S.ev.eq_18, S.ev.eq_19, S.ev.eq_20, E.ev.eq_1, E.ev.eq_2, E.ev.eq_3, E.ev.eq_4, E.ev.eq_5, E.ev.eq_6, E.ev.eq_7, E.ev.eq_8, E.ev.eq_9, E.ev.eq_10, E.ev.eq_11, E.ev.eq_12, E.ev.eq_13, E.ev.eq_14, E.ev.eq_15, E.ev.eq_16, E.ev.eq_17, E.ev.eq_18, E.ev.eq_19, E.ev.eq_20, E.ev.eq_21, E.ev.eq_22, E.ev.eq_23, E.ev.eq_24, E.ev.eq_25, E.ev.eq_26, E.ev.eq_28, E.ev.eq_29, Es.ev, It.ev, Op.ev, Op.tst, slV, slP, ownS, ixT, T.tru, outT, frzE]
end
end Tx

set_option Elab.async false
set_option linter.all false
set_option autoImplicit false
set_option maxRecDepth 100000
set_option maxHeartbeats 4000000
namespace Tx
open PySem Fe
def shapesT : List T := [.str "put 0 1,get p 1/put 1 2,get p 0", .str "put 0 1,fence,get p 1/put 1 2,fence,get p 0", .str "swap p 0 1,get q 1/swap p 1 2,get q 0", .str "put 0 1,put 1 2/get p 1,get q 0", .str "put 0 1,get p 1/put 1 2,fence,get p 0", .str "get p 0,put 1 1/get p 1,put 0 2", .str "put 0 1,put 1 2/put 1 3,put 0 4", .str "put 0 1,get p 0,get q 1/put 1 2,get p 1,get q 0", .str "put 0 1/get p 0,put 1 p/get p 1,get q 0", .str "put 0 1,get p 1/put 1 2,get p 2/put 2 3,get p 0", .str "put 0 1,get p 1,skip p 1,put 2 3/put 1 2,get p 0,get q 2", .str "put 0 1,put 0 2/get p 0,get q 0", .str "swap p 0 1/swap p 0 2/get p 0,get q 0", .str "put 0 1,add p p 7,put 1 p/get q 1,swap p 0 9", .str "put 0 1,put 0 2,get p 0/put 0 3,get p 0", .str "put 0 1,swap p 0 2,put 0 3,get q 0/get p 0"]
def Lok (L : List (List Rw)) : Prop := L.length ≤ 4 ∧ ∀ r ∈ L, r.length ≤ 20 ∧ ∀ w ∈ r, RwOk w
def lolT (L : List (List Rw)) : T := .lst (L.map fun r => .lst (r.map Rw.t))
def s3 : Option Out → Option Sl
  | some (.nx e) => e[3]?
  | _ => none
section
variable {k : Nat}
theorem fn9 (c : Int) : (tab.pg (k + 1)).fn 9 [.int c] = L2.atI shapesT (c % 16) := by
  rw [fnS]
  show outT (b9.ev (tab.pg k) [.fz (.int c), .no]) = _
  have h : b9.ev (tab.pg k) [.fz (.int c), .no] = (Ss.cons (.ret (.ix (.v 1) (.bin .mod (.v 0) (.k (.int 16))))) .nil).ev (tab.pg k) [.fz (.int c), .fz (.lst shapesT)] := by kernel_rfl
  rw [h]
  simp only [Ss.ev, S.ev.eq_1, S.ev.eq_2, S.ev.eq_3, S.ev.eq_4, S.ev.eq_5, S.ev.eq_6, S.ev.eq_7, S.ev.eq_10, S.ev.eq_11, S.ev.eq_12, S.ev.eq_13, S.ev.eq_14, S.ev.eq_15, S.ev.eq_16, S.ev.eq_17, S.ev.eq_18, S.ev.eq_19, S.ev.eq_20, E.ev.eq_1, E.ev.eq_2, E.ev.eq_3, E.ev.eq_4, E.ev.eq_5, E.ev.eq_6, E.ev.eq_7, E.ev.eq_8, E.ev.eq_9, E.ev.eq_10, E.ev.eq_11, E.ev.eq_12, E.ev.eq_13, E.ev.eq_14, E.ev.eq_15, E.ev.eq_16, E.ev.eq_17, E.ev.eq_18, E.ev.eq_19, E.ev.eq_20, E.ev.eq_21, E.ev.eq_22, E.ev.eq_23, E.ev.eq_24, E.ev.eq_25, E.ev.eq_26, E.ev.eq_28, E.ev.eq_29, Es.ev, It.ev, Op.ev, Op.tst, slV, slP, ownS, ixT, T.tru, outT, List.getElem?_cons_zero, List.getElem?_cons_succ, Option.bind_some, BOp.ap]
  have e : (if (0 : Int) < 16 then some (T.int (c % 16)) else none) = some (.int (c % 16)) := rfl
  rw [e, Option.bind_some]
  show outT (match (L2.atI shapesT (c % 16)).map Out.rt with | some (.nx e) => _ | o => o) = _
  cases L2.atI shapesT (c % 16) <;> rfl
theorem fn10_of {c : Int} {z : Str} {ts : List T} {nm m : T} {L : List (List Rw)} (h9 : (tab.pg (k + 1)).fn 9 [.int c] = some (.str z)) (hs : Bm.ap .split (.str z) [.str "/"] = some (.lst ts))
    (hl : ∀ P : Pg, s3 (forL (l10_2.ev P) (.n 4) ts [.fz (.int c), .fz nm, .fz m, .ow (.lst []), .no, .no, .no, .no, .no, .no, .no, .no, .no, .no]) = some (.ow (lolT L))) : (tab.pg (k + 2)).fn 10 [.int c, nm, m] = some (lolT L) := by
  rw [fnS]
  show outT (b10.ev (tab.pg (k + 1)) [.fz (.int c), .fz nm, .fz m, .no, .no, .no, .no, .no, .no, .no, .no, .no, .no, .no]) = _
  unfold b10
  rw [ev_step (env' := [.fz (.int c), .fz nm, .fz m, .ow (.lst []), .no, .no, .no, .no, .no, .no, .no, .no, .no, .no]) rfl]
  have hl := hl (tab.pg (k + 1))
  cases e : forL (l10_2.ev (tab.pg (k + 1))) (.n 4) ts [.fz (.int c), .fz nm, .fz m, .ow (.lst []), .no, .no, .no, .no, .no, .no, .no, .no, .no, .no] with
  | none => rw [e] at hl; cases hl
  | some o =>
    rw [e] at hl
    cases o with
    | nx env =>
      have hl' : env[3]? = some (.ow (lolT L)) := hl
      rw [ev_step (env' := env) (by
        unfold S.ev
        simp only [Ss.ev, S.ev.eq_1, S.ev.eq_2, S.ev.eq_3, S.ev.eq_4, S.ev.eq_5, S.ev.eq_6, S.ev.eq_7, S.ev.eq_10, S.ev.eq_11, S.ev.eq_12, S.ev.eq_13, S.ev.eq_14, S.ev.eq_15, S.ev.eq_16, S.ev.eq_17, S.ev.eq_18, S.ev.eq_19, S.ev.eq_20, E.ev.eq_1, E.ev.eq_2, E.ev.eq_3, E.ev.eq_4, E.ev.eq_5, E.ev.eq_6, E.ev.eq_7, E.ev.eq_8, E.ev.eq_9, E.ev.eq_10, E.ev.eq_11, E.ev.eq_12, E.ev.eq_13, E.ev.eq_14, E.ev.eq_15, E.ev.eq_16, E.ev.eq_17, E.ev.eq_18, E.ev.eq_19, E.ev.eq_20, E.ev.eq_21, E.ev.eq_22, E.ev.eq_23, E.ev.eq_24, E.ev.eq_25, E.ev.eq_26, E.ev.eq_28, E.ev.eq_29, Es.ev, It.ev, Op.ev, Op.tst, slV, slP, ownS, ixT, T.tru, outT, List.getElem?_cons_zero, Option.bind_some, Option.map_some, h9, hs]
        exact e)]
      obtain ⟨hlt, hg⟩ := List.getElem?_eq_some_iff.mp hl'
      simp [Ss.ev, S.ev.eq_1, S.ev.eq_2, S.ev.eq_3, S.ev.eq_4, S.ev.eq_5, S.ev.eq_6, S.ev.eq_7, S.ev.eq_10, S.ev.eq_11, S.ev.eq_12, S.ev.eq_13, S.ev.eq_14, S.ev.eq_15, S.ev.eq_16, S.ev.eq_17, S.ev.eq_18, S.ev.eq_19, S.ev.eq_20, E.ev.eq_1, E.ev.eq_2, E.ev.eq_3, E.ev.eq_4, E.ev.eq_5, E.ev.eq_6, E.ev.eq_7, E.ev.eq_8, E.ev.eq_9, E.ev.eq_10, E.ev.eq_11, E.ev.eq_12, E.ev.eq_13, E.ev.eq_14, E.ev.eq_15, E.ev.eq_16, E.ev.eq_17, E.ev.eq_18, E.ev.eq_19, E.ev.eq_20, E.ev.eq_21, E.ev.eq_22, E.ev.eq_23, E.ev.eq_24, E.ev.eq_25, E.ev.eq_26, E.ev.eq_28, E.ev.eq_29, Es.ev, It.ev, Op.ev, Op.tst, slV, slP, ownS, ixT, T.tru, outT, frzE, hlt, hg]
    | _ => cases hl
end
def shp0 (n0 n1 n2 n3 n4 n5 n6 n7 n8 : Str) (m : Int) : List (List Rw) := [[.put n0 (.i (1 + m)), .get n3 n1], [.put n1 (.i (2 + m)), .get n3 n0]]
def shp1 (n0 n1 n2 n3 n4 n5 n6 n7 n8 : Str) (m : Int) : List (List Rw) := [[.put n0 (.i (1 + m)), .fence, .get n3 n1], [.put n1 (.i (2 + m)), .fence, .get n3 n0]]
def shp2 (n0 n1 n2 n3 n4 n5 n6 n7 n8 : Str) (m : Int) : List (List Rw) := [[.swap n3 n0 (.i (1 + m)), .get n4 n1], [.swap n3 n1 (.i (2 + m)), .get n4 n0]]
def shp3 (n0 n1 n2 n3 n4 n5 n6 n7 n8 : Str) (m : Int) : List (List Rw) := [[.put n0 (.i (1 + m)), .put n1 (.i (2 + m))], [.get n3 n1, .get n4 n0]]
def shp4 (n0 n1 n2 n3 n4 n5 n6 n7 n8 : Str) (m : Int) : List (List Rw) := [[.put n0 (.i (1 + m)), .get n3 n1], [.put n1 (.i (2 + m)), .fence, .get n3 n0]]
def shp5 (n0 n1 n2 n3 n4 n5 n6 n7 n8 : Str) (m : Int) : List (List Rw) := [[.get n3 n0, .put n1 (.i (1 + m))], [.get n3 n1, .put n0 (.i (2 + m))]]
def shp6 (n0 n1 n2 n3 n4 n5 n6 n7 n8 : Str) (m : Int) : List (List Rw) := [[.put n0 (.i (1 + m)), .put n1 (.i (2 + m))], [.put n1 (.i (3 + m)), .put n0 (.i (4 + m))]]
def shp7 (n0 n1 n2 n3 n4 n5 n6 n7 n8 : Str) (m : Int) : List (List Rw) := [[.put n0 (.i (1 + m)), .get n3 n0, .get n4 n1], [.put n1 (.i (2 + m)), .get n3 n1, .get n4 n0]]
def shp8 (n0 n1 n2 n3 n4 n5 n6 n7 n8 : Str) (m : Int) : List (List Rw) := [[.put n0 (.i (1 + m))], [.get n3 n0, .put n1 (.s n3)], [.get n3 n1, .get n4 n0]]
def shp9 (n0 n1 n2 n3 n4 n5 n6 n7 n8 : Str) (m : Int) : List (List Rw) := [[.put n0 (.i (1 + m)), .get n3 n1], [.put n1 (.i (2 + m)), .get n3 n2], [.put n2 (.i (3 + m)), .get n3 n0]]
def shp10 (n0 n1 n2 n3 n4 n5 n6 n7 n8 : Str) (m : Int) : List (List Rw) := [[.put n0 (.i (1 + m)), .get n3 n1, .skip n3 1, .put n2 (.i (3 + m))], [.put n1 (.i (2 + m)), .get n3 n0, .get n4 n2]]
def shp11 (n0 n1 n2 n3 n4 n5 n6 n7 n8 : Str) (m : Int) : List (List Rw) := [[.put n0 (.i (1 + m)), .put n0 (.i (2 + m))], [.get n3 n0, .get n4 n0]]
def shp12 (n0 n1 n2 n3 n4 n5 n6 n7 n8 : Str) (m : Int) : List (List Rw) := [[.swap n3 n0 (.i (1 + m))], [.swap n3 n0 (.i (2 + m))], [.get n3 n0, .get n4 n0]]
def shp13 (n0 n1 n2 n3 n4 n5 n6 n7 n8 : Str) (m : Int) : List (List Rw) := [[.put n0 (.i (1 + m)), .add n3 (.s n3) (.i (7 + m)), .put n1 (.s n3)], [.get n4 n1, .swap n3 n0 (.i (9 + m))]]
def shp14 (n0 n1 n2 n3 n4 n5 n6 n7 n8 : Str) (m : Int) : List (List Rw) := [[.put n0 (.i (1 + m)), .put n0 (.i (2 + m)), .get n3 n0], [.put n0 (.i (3 + m)), .get n3 n0]]
def shp15 (n0 n1 n2 n3 n4 n5 n6 n7 n8 : Str) (m : Int) : List (List Rw) := [[.put n0 (.i (1 + m)), .swap n3 n0 (.i (2 + m)), .put n0 (.i (3 + m)), .get n4 n0], [.get n3 n0]]
section
variable (n0 n1 n2 n3 n4 n5 n6 n7 n8 : Str) (P : Pg) (s0 : Sl)
theorem s10_0_0 : s3 (forL (l10_2.ev P) (.n 4) [.str "put 0 1,get p 1", .str "put 1 2,get p 0"] [s0, .fz (.lst [.str n0, .str n1, .str n2, .str n3, .str n4, .str n5, .str n6, .str n7, .str n8]), .fz (.int 0), .ow (.lst []), .no, .no, .no, .no, .no, .no, .no, .no, .no, .no]) = some (.ow (lolT (shp0 n0 n1 n2 n3 n4 n5 n6 n7 n8 0))) := by kernel_rfl
theorem s10_0_30 : s3 (forL (l10_2.ev P) (.n 4) [.str "put 0 1,get p 1", .str "put 1 2,get p 0"] [s0, .fz (.lst [.str n0, .str n1, .str n2, .str n3, .str n4, .str n5, .str n6, .str n7, .str n8]), .fz (.int 30), .ow (.lst []), .no, .no, .no, .no, .no, .no, .no, .no, .no, .no]) = some (.ow (lolT (shp0 n0 n1 n2 n3 n4 n5 n6 n7 n8 30))) := by kernel_rfl
theorem s10_0_60 : s3 (forL (l10_2.ev P) (.n 4) [.str "put 0 1,get p 1", .str "put 1 2,get p 0"] [s0, .fz (.lst [.str n0, .str n1, .str n2, .str n3, .str n4, .str n5, .str n6, .str n7, .str n8]), .fz (.int 60), .ow (.lst []), .no, .no, .no, .no, .no, .no, .no, .no, .no, .no]) = some (.ow (lolT (shp0 n0 n1 n2 n3 n4 n5 n6 n7 n8 60))) := by kernel_rfl
theorem s10_1_0 : s3 (forL (l10_2.ev P) (.n 4) [.str "put 0 1,fence,get p 1", .str "put 1 2,fence,get p 0"] [s0, .fz (.lst [.str n0, .str n1, .str n2, .str n3, .str n4, .str n5, .str n6, .str n7, .str n8]), .fz (.int 0), .ow (.lst []), .no, .no, .no, .no, .no, .no, .no, .no, .no, .no]) = some (.ow (lolT (shp1 n0 n1 n2 n3 n4 n5 n6 n7 n8 0))) := by kernel_rfl
theorem s10_1_30 : s3 (forL (l10_2.ev P) (.n 4) [.str "put 0 1,fence,get p 1", .str "put 1 2,fence,get p 0"] [s0, .fz (.lst [.str n0, .str n1, .str n2, .str n3, .str n4, .str n5, .str n6, .str n7, .str n8]), .fz (.int 30), .ow (.lst []), .no, .no, .no, .no, .no, .no, .no, .no, .no, .no]) = some (.ow (lolT (shp1 n0 n1 n2 n3 n4 n5 n6 n7 n8 30))) := by kernel_rfl
theorem s10_1_60 : s3 (forL (l10_2.ev P) (.n 4) [.str "put 0 1,fence,get p 1", .str "put 1 2,fence,get p 0"] [s0, .fz (.lst [.str n0, .str n1, .str n2, .str n3, .str n4, .str n5, .str n6, .str n7, .str n8]), .fz (.int 60), .ow (.lst []), .no, .no, .no, .no, .no, .no, .no, .no, .no, .no]) = some (.ow (lolT (shp1 n0 n1 n2 n3 n4 n5 n6 n7 n8 60))) := by kernel_rfl
theorem s10_2_0 : s3 (forL (l10_2.ev P) (.n 4) [.str "swap p 0 1,get q 1", .str "swap p 1 2,get q 0"] [s0, .fz (.lst [.str n0, .str n1, .str n2, .str n3, .str n4, .str n5, .str n6, .str n7, .str n8]), .fz (.int 0), .ow (.lst []), .no, .no, .no, .no, .no, .no, .no, .no, .no, .no]) = some (.ow (lolT (shp2 n0 n1 n2 n3 n4 n5 n6 n7 n8 0))) := by kernel_rfl
theorem s10_2_30 : s3 (forL (l10_2.ev P) (.n 4) [.str "swap p 0 1,get q 1", .str "swap p 1 2,get q 0"] [s0, .fz (.lst [.str n0, .str n1, .str n2, .str n3, .str n4, .str n5, .str n6, .str n7, .str n8]), .fz (.int 30), .ow (.lst []), .no, .no, .no, .no, .no, .no, .no, .no, .no, .no]) = some (.ow (lolT (shp2 n0 n1 n2 n3 n4 n5 n6 n7 n8 30))) := by kernel_rfl
theorem s10_2_60 : s3 (forL (l10_2.ev P) (.n 4) [.str "swap p 0 1,get q 1", .str "swap p 1 2,get q 0"] [s0, .fz (.lst [.str n0, .str n1, .str n2, .str n3, .str n4, .str n5, .str n6, .str n7, .str n8]), .fz (.int 60), .ow (.lst []), .no, .no, .no, .no, .no, .no, .no, .no, .no, .no]) = some (.ow (lolT (shp2 n0 n1 n2 n3 n4 n5 n6 n7 n8 60))) := by kernel_rfl
theorem s10_3_0 : s3 (forL (l10_2.ev P) (.n 4) [.str "put 0 1,put 1 2", .str "get p 1,get q 0"] [s0, .fz (.lst [.str n0, .str n1, .str n2, .str n3, .str n4, .str n5, .str n6, .str n7, .str n8]), .fz (.int 0), .ow (.lst []), .no, .no, .no, .no, .no, .no, .no, .no, .no, .no]) = some (.ow (lolT (shp3 n0 n1 n2 n3 n4 n5 n6 n7 n8 0))) := by kernel_rfl
theorem s10_3_30 : s3 (forL (l10_2.ev P) (.n 4) [.str "put 0 1,put 1 2", .str "get p 1,get q 0"] [s0, .fz (.lst [.str n0, .str n1, .str n2, .str n3, .str n4, .str n5, .str n6, .str n7, .str n8]), .fz (.int 30), .ow (.lst []), .no, .no, .no, .no, .no, .no, .no, .no, .no, .no]) = some (.ow (lolT (shp3 n0 n1 n2 n3 n4 n5 n6 n7 n8 30))) := by kernel_rfl
theorem s10_3_60 : s3 (forL (l10_2.ev P) (.n 4) [.str "put 0 1,put 1 2", .str "get p 1,get q 0"] [s0, .fz (.lst [.str n0, .str n1, .str n2, .str n3, .str n4, .str n5, .str n6, .str n7, .str n8]), .fz (.int 60), .ow (.lst []), .no, .no, .no, .no, .no, .no, .no, .no, .no, .no]) = some (.ow (lolT (shp3 n0 n1 n2 n3 n4 n5 n6 n7 n8 60))) := by kernel_rfl
theorem s10_4_0 : s3 (forL (l10_2.ev P) (.n 4) [.str "put 0 1,get p 1", .str "put 1 2,fence,get p 0"] [s0, .fz (.lst [.str n0, .str n1, .str n2, .str n3, .str n4, .str n5, .str n6, .str n7, .str n8]), .fz (.int 0), .ow (.lst []), .no, .no, .no, .no, .no, .no, .no, .no, .no, .no]) = some (.ow (lolT (shp4 n0 n1 n2 n3 n4 n5 n6 n7 n8 0))) := by kernel_rfl
theorem s10_4_30 : s3 (forL (l10_2.ev P) (.n 4) [.str "put 0 1,get p 1", .str "put 1 2,fence,get p 0"] [s0, .fz (.lst [.str n0, .str n1, .str n2, .str n3, .str n4, .str n5, .str n6, .str n7, .str n8]), .fz (.int 30), .ow (.lst []), .no, .no, .no, .no, .no, .no, .no, .no, .no, .no]) = some (.ow (lolT (shp4 n0 n1 n2 n3 n4 n5 n6 n7 n8 30))) := by kernel_rfl
theorem s10_4_60 : s3 (forL (l10_2.ev P) (.n 4) [.str "put 0 1,get p 1", .str "put 1 2,fence,get p 0"] [s0, .fz (.lst [.str n0, .str n1, .str n2, .str n3, .str n4, .str n5, .str n6, .str n7, .str n8]), .fz (.int 60), .ow (.lst []), .no, .no, .no, .no, .no, .no, .no, .no, .no, .no]) = some (.ow (lolT (shp4 n0 n1 n2 n3 n4 n5 n6 n7 n8 60))) := by kernel_rfl
theorem s10_5_0 : s3 (forL (l10_2.ev P) (.n 4) [.str "get p 0,put 1 1", .str "get p 1,put 0 2"] [s0, .fz (.lst [.str n0, .str n1, .str n2, .str n3, .str n4, .str n5, .str n6, .str n7, .str n8]), .fz (.int 0), .ow (.lst []), .no, .no, .no, .no, .no, .no, .no, .no, .no, .no]) = some (.ow (lolT (shp5 n0 n1 n2 n3 n4 n5 n6 n7 n8 0))) := by kernel_rfl
theorem s10_5_30 : s3 (forL (l10_2.ev P) (.n 4) [.str "get p 0,put 1 1", .str "get p 1,put 0 2"] [s0, .fz (.lst [.str n0, .str n1, .str n2, .str n3, .str n4, .str n5, .str n6, .str n7, .str n8]), .fz (.int 30), .ow (.lst []), .no, .no, .no, .no, .no, .no, .no, .no, .no, .no]) = some (.ow (lolT (shp5 n0 n1 n2 n3 n4 n5 n6 n7 n8 30))) := by kernel_rfl
theorem s10_5_60 : s3 (forL (l10_2.ev P) (.n 4) [.str "get p 0,put 1 1", .str "get p 1,put 0 2"] [s0, .fz (.lst [.str n0, .str n1, .str n2, .str n3, .str n4, .str n5, .str n6, .str n7, .str n8]), .fz (.int 60), .ow (.lst []), .no, .no, .no, .no, .no, .no, .no, .no, .no, .no]) = some (.ow (lolT (shp5 n0 n1 n2 n3 n4 n5 n6 n7 n8 60))) := by kernel_rfl
theorem s10_6_0 : s3 (forL (l10_2.ev P) (.n 4) [.str "put 0 1,put 1 2", .str "put 1 3,put 0 4"] [s0, .fz (.lst [.str n0, .str n1, .str n2, .str n3, .str n4, .str n5, .str n6, .str n7, .str n8]), .fz (.int 0), .ow (.lst []), .no, .no, .no, .no, .no, .no, .no, .no, .no, .no]) = some (.ow (lolT (shp6 n0 n1 n2 n3 n4 n5 n6 n7 n8 0))) := by kernel_rfl
theorem s10_6_30 : s3 (forL (l10_2.ev P) (.n 4) [.str "put 0 1,put 1 2", .str "put 1 3,put 0 4"] [s0, .fz (.lst [.str n0, .str n1, .str n2, .str n3, .str n4, .str n5, .str n6, .str n7, .str n8]), .fz (.int 30), .ow (.lst []), .no, .no, .no, .no, .no, .no, .no, .no, .no, .no]) = some (.ow (lolT (shp6 n0 n1 n2 n3 n4 n5 n6 n7 n8 30))) := by kernel_rfl
theorem s10_6_60 : s3 (forL (l10_2.ev P) (.n 4) [.str "put 0 1,put 1 2", .str "put 1 3,put 0 4"] [s0, .fz (.lst [.str n0, .str n1, .str n2, .str n3, .str n4, .str n5, .str n6, .str n7, .str n8]), .fz (.int 60), .ow (.lst []), .no, .no, .no, .no, .no, .no, .no, .no, .no, .no]) = some (.ow (lolT (shp6 n0 n1 n2 n3 n4 n5 n6 n7 n8 60))) := by kernel_rfl
theorem s10_7_0 : s3 (forL (l10_2.ev P) (.n 4) [.str "put 0 1,get p 0,get q 1", .str "put 1 2,get p 1,get q 0"] [s0, .fz (.lst [.str n0, .str n1, .str n2, .str n3, .str n4, .str n5, .str n6, .str n7, .str n8]), .fz (.int 0), .ow (.lst []), .no, .no, .no, .no, .no, .no, .no, .no, .no, .no]) = some (.ow (lolT (shp7 n0 n1 n2 n3 n4 n5 n6 n7 n8 0))) := by kernel_rfl
theorem s10_7_30 : s3 (forL (l10_2.ev P) (.n 4) [.str "put 0 1,get p 0,get q 1", .str "put 1 2,get p 1,get q 0"] [s0, .fz (.lst [.str n0, .str n1, .str n2, .str n3, .str n4, .str n5, .str n6, .str n7, .str n8]), .fz (.int 30), .ow (.lst []), .no, .no, .no, .no, .no, .no, .no, .no, .no, .no]) = some (.ow (lolT (shp7 n0 n1 n2 n3 n4 n5 n6 n7 n8 30))) := by kernel_rfl
theorem s10_7_60 : s3 (forL (l10_2.ev P) (.n 4) [.str "put 0 1,get p 0,get q 1", .str "put 1 2,get p 1,get q 0"] [s0, .fz (.lst [.str n0, .str n1, .str n2, .str n3, .str n4, .str n5, .str n6, .str n7, .str n8]), .fz (.int 60), .ow (.lst []), .no, .no, .no, .no, .no, .no, .no, .no, .no, .no]) = some (.ow (lolT (shp7 n0 n1 n2 n3 n4 n5 n6 n7 n8 60))) := by kernel_rfl
theorem s10_8_0 : s3 (forL (l10_2.ev P) (.n 4) [.str "put 0 1", .str "get p 0,put 1 p", .str "get p 1,get q 0"] [s0, .fz (.lst [.str n0, .str n1, .str n2, .str n3, .str n4, .str n5, .str n6, .str n7, .str n8]), .fz (.int 0), .ow (.lst []), .no, .no, .no, .no, .no, .no, .no, .no, .no, .no]) = some (.ow (lolT (shp8 n0 n1 n2 n3 n4 n5 n6 n7 n8 0))) := by kernel_rfl
theorem s10_8_30 : s3 (forL (l10_2.ev P) (.n 4) [.str "put 0 1", .str "get p 0,put 1 p", .str "get p 1,get q 0"] [s0, .fz (.lst [.str n0, .str n1, .str n2, .str n3, .str n4, .str n5, .str n6, .str n7, .str n8]), .fz (.int 30), .ow (.lst []), .no, .no, .no, .no, .no, .no, .no, .no, .no, .no]) = some (.ow (lolT (shp8 n0 n1 n2 n3 n4 n5 n6 n7 n8 30))) := by kernel_rfl
theorem s10_8_60 : s3 (forL (l10_2.ev P) (.n 4) [.str "put 0 1", .str "get p 0,put 1 p", .str "get p 1,get q 0"] [s0, .fz (.lst [.str n0, .str n1, .str n2, .str n3, .str n4, .str n5, .str n6, .str n7, .str n8]), .fz (.int 60), .ow (.lst []), .no, .no, .no, .no, .no, .no, .no, .no, .no, .no]) = some (.ow (lolT (shp8 n0 n1 n2 n3 n4 n5 n6 n7 n8 60))) := by kernel_rfl
theorem s10_9_0 : s3 (forL (l10_2.ev P) (.n 4) [.str "put 0 1,get p 1", .str "put 1 2,get p 2", .str "put 2 3,get p 0"] [s0, .fz (.lst [.str n0, .str n1, .str n2, .str n3, .str n4, .str n5, .str n6, .str n7, .str n8]), .fz (.int 0), .ow (.lst []), .no, .no, .no, .no, .no, .no, .no, .no, .no, .no]) = some (.ow (lolT (shp9 n0 n1 n2 n3 n4 n5 n6 n7 n8 0))) := by kernel_rfl
theorem s10_9_30 : s3 (forL (l10_2.ev P) (.n 4) [.str "put 0 1,get p 1", .str "put 1 2,get p 2", .str "put 2 3,get p 0"] [s0, .fz (.lst [.str n0, .str n1, .str n2, .str n3, .str n4, .str n5, .str n6, .str n7, .str n8]), .fz (.int 30), .ow (.lst []), .no, .no, .no, .no, .no, .no, .no, .no, .no, .no]) = some (.ow (lolT (shp9 n0 n1 n2 n3 n4 n5 n6 n7 n8 30))) := by kernel_rfl
theorem s10_9_60 : s3 (forL (l10_2.ev P) (.n 4) [.str "put 0 1,get p 1", .str "put 1 2,get p 2", .str "put 2 3,get p 0"] [s0, .fz (.lst [.str n0, .str n1, .str n2, .str n3, .str n4, .str n5, .str n6, .str n7, .str n8]), .fz (.int 60), .ow (.lst []), .no, .no, .no, .no, .no, .no, .no, .no, .no, .no]) = some (.ow (lolT (shp9 n0 n1 n2 n3 n4 n5 n6 n7 n8 60))) := by kernel_rfl
theorem s10_10_0 : s3 (forL (l10_2.ev P) (.n 4) [.str "put 0 1,get p 1,skip p 1,put 2 3", .str "put 1 2,get p 0,get q 2"] [s0, .fz (.lst [.str n0, .str n1, .str n2, .str n3, .str n4, .str n5, .str n6, .str n7, .str n8]), .fz (.int 0), .ow (.lst []), .no, .no, .no, .no, .no, .no, .no, .no, .no, .no]) = some (.ow (lolT (shp10 n0 n1 n2 n3 n4 n5 n6 n7 n8 0))) := by kernel_rfl
theorem s10_10_30 : s3 (forL (l10_2.ev P) (.n 4) [.str "put 0 1,get p 1,skip p 1,put 2 3", .str "put 1 2,get p 0,get q 2"] [s0, .fz (.lst [.str n0, .str n1, .str n2, .str n3, .str n4, .str n5, .str n6, .str n7, .str n8]), .fz (.int 30), .ow (.lst []), .no, .no, .no, .no, .no, .no, .no, .no, .no, .no]) = some (.ow (lolT (shp10 n0 n1 n2 n3 n4 n5 n6 n7 n8 30))) := by kernel_rfl
theorem s10_10_60 : s3 (forL (l10_2.ev P) (.n 4) [.str "put 0 1,get p 1,skip p 1,put 2 3", .str "put 1 2,get p 0,get q 2"] [s0, .fz (.lst [.str n0, .str n1, .str n2, .str n3, .str n4, .str n5, .str n6, .str n7, .str n8]), .fz (.int 60), .ow (.lst []), .no, .no, .no, .no, .no, .no, .no, .no, .no, .no]) = some (.ow (lolT (shp10 n0 n1 n2 n3 n4 n5 n6 n7 n8 60))) := by kernel_rfl
theorem s10_11_0 : s3 (forL (l10_2.ev P) (.n 4) [.str "put 0 1,put 0 2", .str "get p 0,get q 0"] [s0, .fz (.lst [.str n0, .str n1, .str n2, .str n3, .str n4, .str n5, .str n6, .str n7, .str n8]), .fz (.int 0), .ow (.lst []), .no, .no, .no, .no, .no, .no, .no, .no, .no, .no]) = some (.ow (lolT (shp11 n0 n1 n2 n3 n4 n5 n6 n7 n8 0))) := by kernel_rfl
theorem s10_11_30 : s3 (forL (l10_2.ev P) (.n 4) [.str "put 0 1,put 0 2", .str "get p 0,get q 0"] [s0, .fz (.lst [.str n0, .str n1, .str n2, .str n3, .str n4, .str n5, .str n6, .str n7, .str n8]), .fz (.int 30), .ow (.lst []), .no, .no, .no, .no, .no, .no, .no, .no, .no, .no]) = some (.ow (lolT (shp11 n0 n1 n2 n3 n4 n5 n6 n7 n8 30))) := by kernel_rfl
theorem s10_11_60 : s3 (forL (l10_2.ev P) (.n 4) [.str "put 0 1,put 0 2", .str "get p 0,get q 0"] [s0, .fz (.lst [.str n0, .str n1, .str n2, .str n3, .str n4, .str n5, .str n6, .str n7, .str n8]), .fz (.int 60), .ow (.lst []), .no, .no, .no, .no, .no, .no, .no, .no, .no, .no]) = some (.ow (lolT (shp11 n0 n1 n2 n3 n4 n5 n6 n7 n8 60))) := by kernel_rfl
theorem s10_12_0 : s3 (forL (l10_2.ev P) (.n 4) [.str "swap p 0 1", .str "swap p 0 2", .str "get p 0,get q 0"] [s0, .fz (.lst [.str n0, .str n1, .str n2, .str n3, .str n4, .str n5, .str n6, .str n7, .str n8]), .fz (.int 0), .ow (.lst []), .no, .no, .no, .no, .no, .no, .no, .no, .no, .no]) = some (.ow (lolT (shp12 n0 n1 n2 n3 n4 n5 n6 n7 n8 0))) := by kernel_rfl
theorem s10_12_30 : s3 (forL (l10_2.ev P) (.n 4) [.str "swap p 0 1", .str "swap p 0 2", .str "get p 0,get q 0"] [s0, .fz (.lst [.str n0, .str n1, .str n2, .str n3, .str n4, .str n5, .str n6, .str n7, .str n8]), .fz (.int 30), .ow (.lst []), .no, .no, .no, .no, .no, .no, .no, .no, .no, .no]) = some (.ow (lolT (shp12 n0 n1 n2 n3 n4 n5 n6 n7 n8 30))) := by kernel_rfl
theorem s10_12_60 : s3 (forL (l10_2.ev P) (.n 4) [.str "swap p 0 1", .str "swap p 0 2", .str "get p 0,get q 0"] [s0, .fz (.lst [.str n0, .str n1, .str n2, .str n3, .str n4, .str n5, .str n6, .str n7, .str n8]), .fz (.int 60), .ow (.lst []), .no, .no, .no, .no, .no, .no, .no, .no, .no, .no]) = some (.ow (lolT (shp12 n0 n1 n2 n3 n4 n5 n6 n7 n8 60))) := by kernel_rfl
theorem s10_13_0 : s3 (forL (l10_2.ev P) (.n 4) [.str "put 0 1,add p p 7,put 1 p", .str "get q 1,swap p 0 9"] [s0, .fz (.lst [.str n0, .str n1, .str n2, .str n3, .str n4, .str n5, .str n6, .str n7, .str n8]), .fz (.int 0), .ow (.lst []), .no, .no, .no, .no, .no, .no, .no, .no, .no, .no]) = some (.ow (lolT (shp13 n0 n1 n2 n3 n4 n5 n6 n7 n8 0))) := by kernel_rfl
theorem s10_13_30 : s3 (forL (l10_2.ev P) (.n 4) [.str "put 0 1,add p p 7,put 1 p", .str "get q 1,swap p 0 9"] [s0, .fz (.lst [.str n0, .str n1, .str n2, .str n3, .str n4, .str n5, .str n6, .str n7, .str n8]), .fz (.int 30), .ow (.lst []), .no, .no, .no, .no, .no, .no, .no, .no, .no, .no]) = some (.ow (lolT (shp13 n0 n1 n2 n3 n4 n5 n6 n7 n8 30))) := by kernel_rfl
theorem s10_13_60 : s3 (forL (l10_2.ev P) (.n 4) [.str "put 0 1,add p p 7,put 1 p", .str "get q 1,swap p 0 9"] [s0, .fz (.lst [.str n0, .str n1, .str n2, .str n3, .str n4, .str n5, .str n6, .str n7, .str n8]), .fz (.int 60), .ow (.lst []), .no, .no, .no, .no, .no, .no, .no, .no, .no, .no]) = some (.ow (lolT (shp13 n0 n1 n2 n3 n4 n5 n6 n7 n8 60))) := by kernel_rfl
theorem s10_14_0 : s3 (forL (l10_2.ev P) (.n 4) [.str "put 0 1,put 0 2,get p 0", .str "put 0 3,get p 0"] [s0, .fz (.lst [.str n0, .str n1, .str n2, .str n3, .str n4, .str n5, .str n6, .str n7, .str n8]), .fz (.int 0), .ow (.lst []), .no, .no, .no, .no, .no, .no, .no, .no, .no, .no]) = some (.ow (lolT (shp14 n0 n1 n2 n3 n4 n5 n6 n7 n8 0))) := by kernel_rfl
theorem s10_14_30 : s3 (forL (l10_2.ev P) (.n 4) [.str "put 0 1,put 0 2,get p 0", .str "put 0 3,get p 0"] [s0, .fz (.lst [.str n0, .str n1, .str n2, .str n3, .str n4, .str n5, .str n6, .str n7, .str n8]), .fz (.int 30), .ow (.lst []), .no, .no, .no, .no, .no, .no, .no, .no, .no, .no]) = some (.ow (lolT (shp14 n0 n1 n2 n3 n4 n5 n6 n7 n8 30))) := by kernel_rfl
theorem s10_14_60 : s3 (forL (l10_2.ev P) (.n 4) [.str "put 0 1,put 0 2,get p 0", .str "put 0 3,get p 0"] [s0, .fz (.lst [.str n0, .str n1, .str n2, .str n3, .str n4, .str n5, .str n6, .str n7, .str n8]), .fz (.int 60), .ow (.lst []), .no, .no, .no, .no, .no, .no, .no, .no, .no, .no]) = some (.ow (lolT (shp14 n0 n1 n2 n3 n4 n5 n6 n7 n8 60))) := by kernel_rfl
theorem s10_15_0 : s3 (forL (l10_2.ev P) (.n 4) [.str "put 0 1,swap p 0 2,put 0 3,get q 0", .str "get p 0"] [s0, .fz (.lst [.str n0, .str n1, .str n2, .str n3, .str n4, .str n5, .str n6, .str n7, .str n8]), .fz (.int 0), .ow (.lst []), .no, .no, .no, .no, .no, .no, .no, .no, .no, .no]) = some (.ow (lolT (shp15 n0 n1 n2 n3 n4 n5 n6 n7 n8 0))) := by kernel_rfl
theorem s10_15_30 : s3 (forL (l10_2.ev P) (.n 4) [.str "put 0 1,swap p 0 2,put 0 3,get q 0", .str "get p 0"] [s0, .fz (.lst [.str n0, .str n1, .str n2, .str n3, .str n4, .str n5, .str n6, .str n7, .str n8]), .fz (.int 30), .ow (.lst []), .no, .no, .no, .no, .no, .no, .no, .no, .no, .no]) = some (.ow (lolT (shp15 n0 n1 n2 n3 n4 n5 n6 n7 n8 30))) := by kernel_rfl
theorem s10_15_60 : s3 (forL (l10_2.ev P) (.n 4) [.str "put 0 1,swap p 0 2,put 0 3,get q 0", .str "get p 0"] [s0, .fz (.lst [.str n0, .str n1, .str n2, .str n3, .str n4, .str n5, .str n6, .str n7, .str n8]), .fz (.int 60), .ow (.lst []), .no, .no, .no, .no, .no, .no, .no, .no, .no, .no]) = some (.ow (lolT (shp15 n0 n1 n2 n3 n4 n5 n6 n7 n8 60))) := by kernel_rfl
end
theorem ok10_0 (n0 n1 n2 n3 n4 n5 n6 n7 n8 : Str) (m : Int) (hm : m = 0 ∨ m = 30 ∨ m = 60) (h0 : NmOk n0) (h1 : NmOk n1) (h2 : NmOk n2) (h3 : NmOk n3) (h4 : NmOk n4) (h5 : NmOk n5) (h6 : NmOk n6) (h7 : NmOk n7) (h8 : NmOk n8) : Lok (shp0 n0 n1 n2 n3 n4 n5 n6 n7 n8 m) := by
  have q : ∀ a : Int, 0 ≤ a → a ≤ 9 → IntOk (a + m) := fun a h1 h2 => by unfold IntOk; omega
  have z : IntOk ((1 : Nat) : Int) := by unfold IntOk; decide
  simp [Lok, shp0, RwOk, VlOk, h0, h1, h2, h3, h4, q]
theorem ok10_1 (n0 n1 n2 n3 n4 n5 n6 n7 n8 : Str) (m : Int) (hm : m = 0 ∨ m = 30 ∨ m = 60) (h0 : NmOk n0) (h1 : NmOk n1) (h2 : NmOk n2) (h3 : NmOk n3) (h4 : NmOk n4) (h5 : NmOk n5) (h6 : NmOk n6) (h7 : NmOk n7) (h8 : NmOk n8) : Lok (shp1 n0 n1 n2 n3 n4 n5 n6 n7 n8 m) := by
  have q : ∀ a : Int, 0 ≤ a → a ≤ 9 → IntOk (a + m) := fun a h1 h2 => by unfold IntOk; omega
  have z : IntOk ((1 : Nat) : Int) := by unfold IntOk; decide
  simp [Lok, shp1, RwOk, VlOk, h0, h1, h2, h3, h4, q]
theorem ok10_2 (n0 n1 n2 n3 n4 n5 n6 n7 n8 : Str) (m : Int) (hm : m = 0 ∨ m = 30 ∨ m = 60) (h0 : NmOk n0) (h1 : NmOk n1) (h2 : NmOk n2) (h3 : NmOk n3) (h4 : NmOk n4) (h5 : NmOk n5) (h6 : NmOk n6) (h7 : NmOk n7) (h8 : NmOk n8) : Lok (shp2 n0 n1 n2 n3 n4 n5 n6 n7 n8 m) := by
  have q : ∀ a : Int, 0 ≤ a → a ≤ 9 → IntOk (a + m) := fun a h1 h2 => by unfold IntOk; omega
  have z : IntOk ((1 : Nat) : Int) := by unfold IntOk; decide
  simp [Lok, shp2, RwOk, VlOk, h0, h1, h2, h3, h4, q]
theorem ok10_3 (n0 n1 n2 n3 n4 n5 n6 n7 n8 : Str) (m : Int) (hm : m = 0 ∨ m = 30 ∨ m = 60) (h0 : NmOk n0) (h1 : NmOk n1) (h2 : NmOk n2) (h3 : NmOk n3) (h4 : NmOk n4) (h5 : NmOk n5) (h6 : NmOk n6) (h7 : NmOk n7) (h8 : NmOk n8) : Lok (shp3 n0 n1 n2 n3 n4 n5 n6 n7 n8 m) := by
  have q : ∀ a : Int, 0 ≤ a → a ≤ 9 → IntOk (a + m) := fun a h1 h2 => by unfold IntOk; omega
  have z : IntOk ((1 : Nat) : Int) := by unfold IntOk; decide
  simp [Lok, shp3, RwOk, VlOk, h0, h1, h2, h3, h4, q]
theorem ok10_4 (n0 n1 n2 n3 n4 n5 n6 n7 n8 : Str) (m : Int) (hm : m = 0 ∨ m = 30 ∨ m = 60) (h0 : NmOk n0) (h1 : NmOk n1) (h2 : NmOk n2) (h3 : NmOk n3) (h4 : NmOk n4) (h5 : NmOk n5) (h6 : NmOk n6) (h7 : NmOk n7) (h8 : NmOk n8) : Lok (shp4 n0 n1 n2 n3 n4 n5 n6 n7 n8 m) := by
  have q : ∀ a : Int, 0 ≤ a → a ≤ 9 → IntOk (a + m) := fun a h1 h2 => by unfold IntOk; omega
  have z : IntOk ((1 : Nat) : Int) := by unfold IntOk; decide
  simp [Lok, shp4, RwOk, VlOk, h0, h1, h2, h3, h4, q]
theorem ok10_5 (n0 n1 n2 n3 n4 n5 n6 n7 n8 : Str) (m : Int) (hm : m = 0 ∨ m = 30 ∨ m = 60) (h0 : NmOk n0) (h1 : NmOk n1) (h2 : NmOk n2) (h3 : NmOk n3) (h4 : NmOk n4) (h5 : NmOk n5) (h6 : NmOk n6) (h7 : NmOk n7) (h8 : NmOk n8) : Lok (shp5 n0 n1 n2 n3 n4 n5 n6 n7 n8 m) := by
  have q : ∀ a : Int, 0 ≤ a → a ≤ 9 → IntOk (a + m) := fun a h1 h2 => by unfold IntOk; omega
  have z : IntOk ((1 : Nat) : Int) := by unfold IntOk; decide
  simp [Lok, shp5, RwOk, VlOk, h0, h1, h2, h3, h4, q]
theorem ok10_6 (n0 n1 n2 n3 n4 n5 n6 n7 n8 : Str) (m : Int) (hm : m = 0 ∨ m = 30 ∨ m = 60) (h0 : NmOk n0) (h1 : NmOk n1) (h2 : NmOk n2) (h3 : NmOk n3) (h4 : NmOk n4) (h5 : NmOk n5) (h6 : NmOk n6) (h7 : NmOk n7) (h8 : NmOk n8) : Lok (shp6 n0 n1 n2 n3 n4 n5 n6 n7 n8 m) := by
  have q : ∀ a : Int, 0 ≤ a → a ≤ 9 → IntOk (a + m) := fun a h1 h2 => by unfold IntOk; omega
  have z : IntOk ((1 : Nat) : Int) := by unfold IntOk; decide
  simp [Lok, shp6, RwOk, VlOk, h0, h1, h2, h3, h4, q]
theorem ok10_7 (n0 n1 n2 n3 n4 n5 n6 n7 n8 : Str) (m : Int) (hm : m = 0 ∨ m = 30 ∨ m = 60) (h0 : NmOk n0) (h1 : NmOk n1) (h2 : NmOk n2) (h3 : NmOk n3) (h4 : NmOk n4) (h5 : NmOk n5) (h6 : NmOk n6) (h7 : NmOk n7) (h8 : NmOk n8) : Lok (shp7 n0 n1 n2 n3 n4 n5 n6 n7 n8 m) := by
  have q : ∀ a : Int, 0 ≤ a → a ≤ 9 → IntOk (a + m) := fun a h1 h2 => by unfold IntOk; omega
  have z : IntOk ((1 : Nat) : Int) := by unfold IntOk; decide
  simp [Lok, shp7, RwOk, VlOk, h0, h1, h2, h3, h4, q]
theorem ok10_8 (n0 n1 n2 n3 n4 n5 n6 n7 n8 : Str) (m : Int) (hm : m = 0 ∨ m = 30 ∨ m = 60) (h0 : NmOk n0) (h1 : NmOk n1) (h2 : NmOk n2) (h3 : NmOk n3) (h4 : NmOk n4) (h5 : NmOk n5) (h6 : NmOk n6) (h7 : NmOk n7) (h8 : NmOk n8) : Lok (shp8 n0 n1 n2 n3 n4 n5 n6 n7 n8 m) := by
  have q : ∀ a : Int, 0 ≤ a → a ≤ 9 → IntOk (a + m) := fun a h1 h2 => by unfold IntOk; omega
  have z : IntOk ((1 : Nat) : Int) := by unfold IntOk; decide
  simp [Lok, shp8, RwOk, VlOk, h0, h1, h2, h3, h4, q]
theorem ok10_9 (n0 n1 n2 n3 n4 n5 n6 n7 n8 : Str) (m : Int) (hm : m = 0 ∨ m = 30 ∨ m = 60) (h0 : NmOk n0) (h1 : NmOk n1) (h2 : NmOk n2) (h3 : NmOk n3) (h4 : NmOk n4) (h5 : NmOk n5) (h6 : NmOk n6) (h7 : NmOk n7) (h8 : NmOk n8) : Lok (shp9 n0 n1 n2 n3 n4 n5 n6 n7 n8 m) := by
  have q : ∀ a : Int, 0 ≤ a → a ≤ 9 → IntOk (a + m) := fun a h1 h2 => by unfold IntOk; omega
  have z : IntOk ((1 : Nat) : Int) := by unfold IntOk; decide
  simp [Lok, shp9, RwOk, VlOk, h0, h1, h2, h3, h4, q]
theorem ok10_10 (n0 n1 n2 n3 n4 n5 n6 n7 n8 : Str) (m : Int) (hm : m = 0 ∨ m = 30 ∨ m = 60) (h0 : NmOk n0) (h1 : NmOk n1) (h2 : NmOk n2) (h3 : NmOk n3) (h4 : NmOk n4) (h5 : NmOk n5) (h6 : NmOk n6) (h7 : NmOk n7) (h8 : NmOk n8) : Lok (shp10 n0 n1 n2 n3 n4 n5 n6 n7 n8 m) := by
  have q : ∀ a : Int, 0 ≤ a → a ≤ 9 → IntOk (a + m) := fun a h1 h2 => by unfold IntOk; omega
  have z : IntOk ((1 : Nat) : Int) := by unfold IntOk; decide
  simp [Lok, shp10, RwOk, VlOk, h0, h1, h2, h3, h4, q]
  exact z
theorem ok10_11 (n0 n1 n2 n3 n4 n5 n6 n7 n8 : Str) (m : Int) (hm : m = 0 ∨ m = 30 ∨ m = 60) (h0 : NmOk n0) (h1 : NmOk n1) (h2 : NmOk n2) (h3 : NmOk n3) (h4 : NmOk n4) (h5 : NmOk n5) (h6 : NmOk n6) (h7 : NmOk n7) (h8 : NmOk n8) : Lok (shp11 n0 n1 n2 n3 n4 n5 n6 n7 n8 m) := by
  have q : ∀ a : Int, 0 ≤ a → a ≤ 9 → IntOk (a + m) := fun a h1 h2 => by unfold IntOk; omega
  have z : IntOk ((1 : Nat) : Int) := by unfold IntOk; decide
  simp [Lok, shp11, RwOk, VlOk, h0, h1, h2, h3, h4, q]
theorem ok10_12 (n0 n1 n2 n3 n4 n5 n6 n7 n8 : Str) (m : Int) (hm : m = 0 ∨ m = 30 ∨ m = 60) (h0 : NmOk n0) (h1 : NmOk n1) (h2 : NmOk n2) (h3 : NmOk n3) (h4 : NmOk n4) (h5 : NmOk n5) (h6 : NmOk n6) (h7 : NmOk n7) (h8 : NmOk n8) : Lok (shp12 n0 n1 n2 n3 n4 n5 n6 n7 n8 m) := by
  have q : ∀ a : Int, 0 ≤ a → a ≤ 9 → IntOk (a + m) := fun a h1 h2 => by unfold IntOk; omega
  have z : IntOk ((1 : Nat) : Int) := by unfold IntOk; decide
  simp [Lok, shp12, RwOk, VlOk, h0, h1, h2, h3, h4, q]
theorem ok10_13 (n0 n1 n2 n3 n4 n5 n6 n7 n8 : Str) (m : Int) (hm : m = 0 ∨ m = 30 ∨ m = 60) (h0 : NmOk n0) (h1 : NmOk n1) (h2 : NmOk n2) (h3 : NmOk n3) (h4 : NmOk n4) (h5 : NmOk n5) (h6 : NmOk n6) (h7 : NmOk n7) (h8 : NmOk n8) : Lok (shp13 n0 n1 n2 n3 n4 n5 n6 n7 n8 m) := by
  have q : ∀ a : Int, 0 ≤ a → a ≤ 9 → IntOk (a + m) := fun a h1 h2 => by unfold IntOk; omega
  have z : IntOk ((1 : Nat) : Int) := by unfold IntOk; decide
  simp [Lok, shp13, RwOk, VlOk, h0, h1, h2, h3, h4, q]
theorem ok10_14 (n0 n1 n2 n3 n4 n5 n6 n7 n8 : Str) (m : Int) (hm : m = 0 ∨ m = 30 ∨ m = 60) (h0 : NmOk n0) (h1 : NmOk n1) (h2 : NmOk n2) (h3 : NmOk n3) (h4 : NmOk n4) (h5 : NmOk n5) (h6 : NmOk n6) (h7 : NmOk n7) (h8 : NmOk n8) : Lok (shp14 n0 n1 n2 n3 n4 n5 n6 n7 n8 m) := by
  have q : ∀ a : Int, 0 ≤ a → a ≤ 9 → IntOk (a + m) := fun a h1 h2 => by unfold IntOk; omega
  have z : IntOk ((1 : Nat) : Int) := by unfold IntOk; decide
  simp [Lok, shp14, RwOk, VlOk, h0, h1, h2, h3, h4, q]
theorem ok10_15 (n0 n1 n2 n3 n4 n5 n6 n7 n8 : Str) (m : Int) (hm : m = 0 ∨ m = 30 ∨ m = 60) (h0 : NmOk n0) (h1 : NmOk n1) (h2 : NmOk n2) (h3 : NmOk n3) (h4 : NmOk n4) (h5 : NmOk n5) (h6 : NmOk n6) (h7 : NmOk n7) (h8 : NmOk n8) : Lok (shp15 n0 n1 n2 n3 n4 n5 n6 n7 n8 m) := by
  have q : ∀ a : Int, 0 ≤ a → a ≤ 9 → IntOk (a + m) := fun a h1 h2 => by unfold IntOk; omega
  have z : IntOk ((1 : Nat) : Int) := by unfold IntOk; decide
  simp [Lok, shp15, RwOk, VlOk, h0, h1, h2, h3, h4, q]
theorem shaped (k : Nat) (c m : Int) (hm : m = 0 ∨ m = 30 ∨ m = 60) (n0 n1 n2 n3 n4 n5 n6 n7 n8 : Str) (h0 : NmOk n0) (h1 : NmOk n1) (h2 : NmOk n2) (h3 : NmOk n3) (h4 : NmOk n4) (h5 : NmOk n5) (h6 : NmOk n6) (h7 : NmOk n7) (h8 : NmOk n8) : ∃ L, Lok L ∧ (tab.pg (k + 2)).fn 10 [.int c, .lst [.str n0, .str n1, .str n2, .str n3, .str n4, .str n5, .str n6, .str n7, .str n8], .int m] = some (lolT L) := by
  have h9 := fn9 (k := k) c
  obtain ⟨i, hi, e⟩ : ∃ i : Nat, i < 16 ∧ c % 16 = (i : Int) := ⟨(c % 16).toNat, by omega, by omega⟩
  rw [e, atI_nat] at h9
  match i, hi, h9 with
  | 0, _, h9 =>
    refine ⟨shp0 n0 n1 n2 n3 n4 n5 n6 n7 n8 m, ok10_0 n0 n1 n2 n3 n4 n5 n6 n7 n8 m hm h0 h1 h2 h3 h4 h5 h6 h7 h8, fn10_of (ts := [.str "put 0 1,get p 1", .str "put 1 2,get p 0"]) h9 (by kernel_rfl) fun P => ?_⟩
    rcases hm with rfl | rfl | rfl
    · exact s10_0_0 n0 n1 n2 n3 n4 n5 n6 n7 n8 P _
    · exact s10_0_30 n0 n1 n2 n3 n4 n5 n6 n7 n8 P _
    · exact s10_0_60 n0 n1 n2 n3 n4 n5 n6 n7 n8 P _
  | 1, _, h9 =>
    refine ⟨shp1 n0 n1 n2 n3 n4 n5 n6 n7 n8 m, ok10_1 n0 n1 n2 n3 n4 n5 n6 n7 n8 m hm h0 h1 h2 h3 h4 h5 h6 h7 h8, fn10_of (ts := [.str "put 0 1,fence,get p 1", .str "put 1 2,fence,get p 0"]) h9 (by kernel_rfl) fun P => ?_⟩
    rcases hm with rfl | rfl | rfl
    · exact s10_1_0 n0 n1 n2 n3 n4 n5 n6 n7 n8 P _
    · exact s10_1_30 n0 n1 n2 n3 n4 n5 n6 n7 n8 P _
    · exact s10_1_60 n0 n1 n2 n3 n4 n5 n6 n7 n8 P _
  | 2, _, h9 =>
    refine ⟨shp2 n0 n1 n2 n3 n4 n5 n6 n7 n8 m, ok10_2 n0 n1 n2 n3 n4 n5 n6 n7 n8 m hm h0 h1 h2 h3 h4 h5 h6 h7 h8, fn10_of (ts := [.str "swap p 0 1,get q 1", .str "swap p 1 2,get q 0"]) h9 (by kernel_rfl) fun P => ?_⟩
    rcases hm with rfl | rfl | rfl
    · exact s10_2_0 n0 n1 n2 n3 n4 n5 n6 n7 n8 P _
    · exact s10_2_30 n0 n1 n2 n3 n4 n5 n6 n7 n8 P _
    · exact s10_2_60 n0 n1 n2 n3 n4 n5 n6 n7 n8 P _
  | 3, _, h9 =>
    refine ⟨shp3 n0 n1 n2 n3 n4 n5 n6 n7 n8 m, ok10_3 n0 n1 n2 n3 n4 n5 n6 n7 n8 m hm h0 h1 h2 h3 h4 h5 h6 h7 h8, fn10_of (ts := [.str "put 0 1,put 1 2", .str "get p 1,get q 0"]) h9 (by kernel_rfl) fun P => ?_⟩
    rcases hm with rfl | rfl | rfl
    · exact s10_3_0 n0 n1 n2 n3 n4 n5 n6 n7 n8 P _
    · exact s10_3_30 n0 n1 n2 n3 n4 n5 n6 n7 n8 P _
    · exact s10_3_60 n0 n1 n2 n3 n4 n5 n6 n7 n8 P _
  | 4, _, h9 =>
    refine ⟨shp4 n0 n1 n2 n3 n4 n5 n6 n7 n8 m, ok10_4 n0 n1 n2 n3 n4 n5 n6 n7 n8 m hm h0 h1 h2 h3 h4 h5 h6 h7 h8, fn10_of (ts := [.str "put 0 1,get p 1", .str "put 1 2,fence,get p 0"]) h9 (by kernel_rfl) fun P => ?_⟩
    rcases hm with rfl | rfl | rfl
    · exact s10_4_0 n0 n1 n2 n3 n4 n5 n6 n7 n8 P _
    · exact s10_4_30 n0 n1 n2 n3 n4 n5 n6 n7 n8 P _
    · exact s10_4_60 n0 n1 n2 n3 n4 n5 n6 n7 n8 P _
  | 5, _, h9 =>
    refine ⟨shp5 n0 n1 n2 n3 n4 n5 n6 n7 n8 m, ok10_5 n0 n1 n2 n3 n4 n5 n6 n7 n8 m hm h0 h1 h2 h3 h4 h5 h6 h7 h8, fn10_of (ts := [.str "get p 0,put 1 1", .str "get p 1,put 0 2"]) h9 (by kernel_rfl) fun P => ?_⟩
    rcases hm with rfl | rfl | rfl
    · exact s10_5_0 n0 n1 n2 n3 n4 n5 n6 n7 n8 P _
    · exact s10_5_30 n0 n1 n2 n3 n4 n5 n6 n7 n8 P _
    · exact s10_5_60 n0 n1 n2 n3 n4 n5 n6 n7 n8 P _
  | 6, _, h9 =>
    refine ⟨shp6 n0 n1 n2 n3 n4 n5 n6 n7 n8 m, ok10_6 n0 n1 n2 n3 n4 n5 n6 n7 n8 m hm h0 h1 h2 h3 h4 h5 h6 h7 h8, fn10_of (ts := [.str "put 0 1,put 1 2", .str "put 1 3,put 0 4"]) h9 (by kernel_rfl) fun P => ?_⟩
    rcases hm with rfl | rfl | rfl
    · exact s10_6_0 n0 n1 n2 n3 n4 n5 n6 n7 n8 P _
    · exact s10_6_30 n0 n1 n2 n3 n4 n5 n6 n7 n8 P _
    · exact s10_6_60 n0 n1 n2 n3 n4 n5 n6 n7 n8 P _
  | 7, _, h9 =>
    refine ⟨shp7 n0 n1 n2 n3 n4 n5 n6 n7 n8 m, ok10_7 n0 n1 n2 n3 n4 n5 n6 n7 n8 m hm h0 h1 h2 h3 h4 h5 h6 h7 h8, fn10_of (ts := [.str "put 0 1,get p 0,get q 1", .str "put 1 2,get p 1,get q 0"]) h9 (by kernel_rfl) fun P => ?_⟩
    rcases hm with rfl | rfl | rfl
    · exact s10_7_0 n0 n1 n2 n3 n4 n5 n6 n7 n8 P _
    · exact s10_7_30 n0 n1 n2 n3 n4 n5 n6 n7 n8 P _
    · exact s10_7_60 n0 n1 n2 n3 n4 n5 n6 n7 n8 P _
  | 8, _, h9 =>
    refine ⟨shp8 n0 n1 n2 n3 n4 n5 n6 n7 n8 m, ok10_8 n0 n1 n2 n3 n4 n5 n6 n7 n8 m hm h0 h1 h2 h3 h4 h5 h6 h7 h8, fn10_of (ts := [.str "put 0 1", .str "get p 0,put 1 p", .str "get p 1,get q 0"]) h9 (by kernel_rfl) fun P => ?_⟩
    rcases hm with rfl | rfl | rfl
    · exact s10_8_0 n0 n1 n2 n3 n4 n5 n6 n7 n8 P _
    · exact s10_8_30 n0 n1 n2 n3 n4 n5 n6 n7 n8 P _
    · exact s10_8_60 n0 n1 n2 n3 n4 n5 n6 n7 n8 P _
  | 9, _, h9 =>
    refine ⟨shp9 n0 n1 n2 n3 n4 n5 n6 n7 n8 m, ok10_9 n0 n1 n2 n3 n4 n5 n6 n7 n8 m hm h0 h1 h2 h3 h4 h5 h6 h7 h8, fn10_of (ts := [.str "put 0 1,get p 1", .str "put 1 2,get p 2", .str "put 2 3,get p 0"]) h9 (by kernel_rfl) fun P => ?_⟩
    rcases hm with rfl | rfl | rfl
    · exact s10_9_0 n0 n1 n2 n3 n4 n5 n6 n7 n8 P _
    · exact s10_9_30 n0 n1 n2 n3 n4 n5 n6 n7 n8 P _
    · exact s10_9_60 n0 n1 n2 n3 n4 n5 n6 n7 n8 P _
  | 10, _, h9 =>
    refine ⟨shp10 n0 n1 n2 n3 n4 n5 n6 n7 n8 m, ok10_10 n0 n1 n2 n3 n4 n5 n6 n7 n8 m hm h0 h1 h2 h3 h4 h5 h6 h7 h8, fn10_of (ts := [.str "put 0 1,get p 1,skip p 1,put 2 3", .str "put 1 2,get p 0,get q 2"]) h9 (by kernel_rfl) fun P => ?_⟩
    rcases hm with rfl | rfl | rfl
    · exact s10_10_0 n0 n1 n2 n3 n4 n5 n6 n7 n8 P _
    · exact s10_10_30 n0 n1 n2 n3 n4 n5 n6 n7 n8 P _
    · exact s10_10_60 n0 n1 n2 n3 n4 n5 n6 n7 n8 P _
  | 11, _, h9 =>
    refine ⟨shp11 n0 n1 n2 n3 n4 n5 n6 n7 n8 m, ok10_11 n0 n1 n2 n3 n4 n5 n6 n7 n8 m hm h0 h1 h2 h3 h4 h5 h6 h7 h8, fn10_of (ts := [.str "put 0 1,put 0 2", .str "get p 0,get q 0"]) h9 (by kernel_rfl) fun P => ?_⟩
    rcases hm with rfl | rfl | rfl
    · exact s10_11_0 n0 n1 n2 n3 n4 n5 n6 n7 n8 P _
    · exact s10_11_30 n0 n1 n2 n3 n4 n5 n6 n7 n8 P _
    · exact s10_11_60 n0 n1 n2 n3 n4 n5 n6 n7 n8 P _
  | 12, _, h9 =>
    refine ⟨shp12 n0 n1 n2 n3 n4 n5 n6 n7 n8 m, ok10_12 n0 n1 n2 n3 n4 n5 n6 n7 n8 m hm h0 h1 h2 h3 h4 h5 h6 h7 h8, fn10_of (ts := [.str "swap p 0 1", .str "swap p 0 2", .str "get p 0,get q 0"]) h9 (by kernel_rfl) fun P => ?_⟩
    rcases hm with rfl | rfl | rfl
    · exact s10_12_0 n0 n1 n2 n3 n4 n5 n6 n7 n8 P _
    · exact s10_12_30 n0 n1 n2 n3 n4 n5 n6 n7 n8 P _
    · exact s10_12_60 n0 n1 n2 n3 n4 n5 n6 n7 n8 P _
  | 13, _, h9 =>
    refine ⟨shp13 n0 n1 n2 n3 n4 n5 n6 n7 n8 m, ok10_13 n0 n1 n2 n3 n4 n5 n6 n7 n8 m hm h0 h1 h2 h3 h4 h5 h6 h7 h8, fn10_of (ts := [.str "put 0 1,add p p 7,put 1 p", .str "get q 1,swap p 0 9"]) h9 (by kernel_rfl) fun P => ?_⟩
    rcases hm with rfl | rfl | rfl
    · exact s10_13_0 n0 n1 n2 n3 n4 n5 n6 n7 n8 P _
    · exact s10_13_30 n0 n1 n2 n3 n4 n5 n6 n7 n8 P _
    · exact s10_13_60 n0 n1 n2 n3 n4 n5 n6 n7 n8 P _
  | 14, _, h9 =>
    refine ⟨shp14 n0 n1 n2 n3 n4 n5 n6 n7 n8 m, ok10_14 n0 n1 n2 n3 n4 n5 n6 n7 n8 m hm h0 h1 h2 h3 h4 h5 h6 h7 h8, fn10_of (ts := [.str "put 0 1,put 0 2,get p 0", .str "put 0 3,get p 0"]) h9 (by kernel_rfl) fun P => ?_⟩
    rcases hm with rfl | rfl | rfl
    · exact s10_14_0 n0 n1 n2 n3 n4 n5 n6 n7 n8 P _
    · exact s10_14_30 n0 n1 n2 n3 n4 n5 n6 n7 n8 P _
    · exact s10_14_60 n0 n1 n2 n3 n4 n5 n6 n7 n8 P _
  | 15, _, h9 =>
    refine ⟨shp15 n0 n1 n2 n3 n4 n5 n6 n7 n8 m, ok10_15 n0 n1 n2 n3 n4 n5 n6 n7 n8 m hm h0 h1 h2 h3 h4 h5 h6 h7 h8, fn10_of (ts := [.str "put 0 1,swap p 0 2,put 0 3,get q 0", .str "get p 0"]) h9 (by kernel_rfl) fun P => ?_⟩
    rcases hm with rfl | rfl | rfl
    · exact s10_15_0 n0 n1 n2 n3 n4 n5 n6 n7 n8 P _
    · exact s10_15_30 n0 n1 n2 n3 n4 n5 n6 n7 n8 P _
    · exact s10_15_60 n0 n1 n2 n3 n4 n5 n6 n7 n8 P _
  | n + 16, hi, _ => exact absurd hi (by omega)
end Tx

set_option Elab.async false
set_option linter.all false
set_option autoImplicit false
set_option maxRecDepth 100000
set_option maxHeartbeats 4000000
namespace Tx
open PySem Fe
def lets : Str := "abcdefghijklmnopqrstuvwxyz"
def L1 (z : Str) : Prop := PyData.strOk z = true ∧ z.length = 1
def lt (i : Int) : Str := ⟨#[lets.cps.toList.getD (i % 26).toNat 0]⟩
theorem lets_len : lets.cps.toList.length = 26 := by decide +kernel
theorem lets_ok : lets.cps.toList.all (· < 0x110000) = true := by decide +kernel
theorem lt_get (i : Int) : lets.cps.toList[(i % 26).toNat]? = some (lets.cps.toList.getD (i % 26).toNat 0) := by
  have h : (i % 26).toNat < lets.cps.toList.length := by rw [lets_len]; omega
  rw [List.getD_eq_getElem?_getD, List.getElem?_eq_getElem h]; rfl
theorem lt_ok (i : Int) : L1 (lt i) := by
  refine ⟨?_, rfl⟩
  have h := List.all_eq_true.mp lets_ok _ (List.mem_of_getElem? (lt_get i))
  show (#[lets.cps.toList.getD (i % 26).toNat 0] : Array Nat).all (· < 0x110000) = true
  simpa using h
theorem lt_ix (i : Int) : ixT (.str lets) (.int (i % 26)) = some (.str (lt i)) := by
  show (L2.atI lets.cps.toList (i % 26)).map (fun c => T.str ⟨#[c]⟩) = _
  rw [show i % 26 = (((i % 26).toNat : Nat) : Int) by omega, atI_nat]
  have := lt_get i
  rw [this]
  rfl
theorem strs_map : ∀ ss : List Str, strs? (ss.map T.str) = some ss
  | [] => rfl
  | s :: ss => by
    show (strs? (ss.map T.str)).map (s :: ·) = _
    rw [strs_map ss]; rfl
theorem sum_l1 : ∀ {ss : List Str}, (∀ z ∈ ss, L1 z) → (ss.map (·.length)).sum = ss.length
  | [], _ => rfl
  | s :: ss, h => by
    rw [List.map_cons, List.sum_cons, List.length_cons, sum_l1 fun z m => h z (List.mem_cons_of_mem _ m), (h s List.mem_cons_self).2]; omega
theorem join0 {ss : List Str} (h : ∀ z ∈ ss, L1 z) (hn : ss.length ≤ 6) : ∃ z, (PyData.strOk z = true ∧ z.length ≤ 6) ∧ Bm.ap .join (.str "") [.lst (ss.map .str)] = some (.str z) := by
  have h0 : ("" : Str).length = 0 := by decide +kernel
  have hs := sum_l1 h
  obtain ⟨j1, j2⟩ := join_ok (a := "") (ss := ss) (by decide +kernel) fun s m => (h s m).1
  rw [h0, hs] at j2
  refine ⟨Txt.join "" ss, ⟨j1, by omega⟩, ?_⟩
  simp only [Bm.ap, strs_map]
  have hL : LIM = 16777216 := rfl
  rw [if_pos (by rw [h0, hs]; omega)]
theorem cut_to {α : Type} (xs : List α) (n : Nat) (h : n ≤ xs.length) : cutL xs none (some (n : Int)) = xs.take n := by
  have := cut_mid xs 0 n (Nat.zero_le _)
  rw [List.drop_zero] at this
  rw [← this]
  unfold cutL
  have e1 : HT.sIx xs.length 0 none = 0 := rfl
  have e2 : HT.sIx xs.length 0 (some ((0 : Nat) : Int)) = 0 := by rw [HT.sIx_nat]; omega
  rw [e1, e2, show ((0 : Nat) : Int) + (n : Int) = (n : Int) by omega]
def oddT : List T := (["cells", "thread", "put", "get", "swap", "add", "skip", "fence"] : List Str).map .str
theorem odd_ok : Bm.ap .split (.str "cells thread put get swap add skip fence") [.str " "] = some (.lst oddT) := by kernel_rfl
theorem deps_str (l : List Str) (n : Nat) : deps (l.map T.str) n = true := by
  induction l with
  | nil => rfl
  | cons a l ih => simp [deps, T.dep]; exact ih
theorem add_lst (a b : List T) (h : a.length + b.length ≤ 1000) : BOp.ap .add (.lst a) (.lst b) = some (.lst (a ++ b)) := by
  have hL : LIM = 16777216 := rfl
  have : a.length + b.length ≤ LIM := by omega
  simp [BOp.ap, this]
theorem add_str (a b : Str) (h : a.length + b.length ≤ 1000) : BOp.ap .add (.str a) (.str b) = some (.str (a ++ b)) := by
  have hL : LIM = 16777216 := rfl
  have : a.length + b.length ≤ LIM := by omega
  simp [BOp.ap, this]
section
variable {k : Nat}
theorem c8a (c : Int) (s2 s3 s4 s6 s7 s8 s9 s10 : Sl) : c8_0.ev (tab.pg k) [.fz (.int c), .fz (.str lets), s2, s3, s4, .no, s6, s7, s8, s9, s10] = some (.lst (((List.range 6).map fun (j : Nat) => lt (c / 7 + 5 * (j : Int))).map .str)) := by
  rw [List.map_map]
  unfold c8_0
  refine ev_lcB (List.range 6) (fun j => .int ((0 : Int) + (j : Nat))) _ (by simpa [Ss.ev, S.ev.eq_1, S.ev.eq_2, S.ev.eq_3, S.ev.eq_4, S.ev.eq_5, S.ev.eq_6, S.ev.eq_7, S.ev.eq_10, S.ev.eq_11, S.ev.eq_12, S.ev.eq_13, S.ev.eq_14, S.ev.eq_15, S.ev.eq_16, S.ev.eq_17, S.ev.eq_18, S.ev.eq_19, S.ev.eq_20, E.ev.eq_1, E.ev.eq_2, E.ev.eq_3, E.ev.eq_4, E.ev.eq_5, E.ev.eq_6, E.ev.eq_7, E.ev.eq_8, E.ev.eq_9, E.ev.eq_10, E.ev.eq_11, E.ev.eq_12, E.ev.eq_13, E.ev.eq_14, E.ev.eq_15, E.ev.eq_16, E.ev.eq_17, E.ev.eq_18, E.ev.eq_19, E.ev.eq_20, E.ev.eq_21, E.ev.eq_22, E.ev.eq_23, E.ev.eq_24, E.ev.eq_25, E.ev.eq_26, E.ev.eq_28, E.ev.eq_29, Es.ev, It.ev, Op.ev, Op.tst, slV, slP, ownS, ixT, T.tru, outT] using rng_nat 6 (by decide)) fun j hj => ⟨[.fz (.int c), .fz (.str lets), s2, s3, s4, .fz (.int ((0 : Int) + (j : Nat))), s6, s7, s8, s9, s10], ?_, ?_, ?_⟩
  · simp [Tg.bind, wipeE]
  · simp [Op.tst]
  · have i3 : inMul 5 (j : Int) = true := inMulL (by omega)
    have hx := lt_ix (c / 7 + 5 * (j : Int))
    simp [Ss.ev, S.ev.eq_1, S.ev.eq_2, S.ev.eq_3, S.ev.eq_4, S.ev.eq_5, S.ev.eq_6, S.ev.eq_7, S.ev.eq_10, S.ev.eq_11, S.ev.eq_12, S.ev.eq_13, S.ev.eq_14, S.ev.eq_15, S.ev.eq_16, S.ev.eq_17, S.ev.eq_18, S.ev.eq_19, S.ev.eq_20, E.ev.eq_1, E.ev.eq_2, E.ev.eq_3, E.ev.eq_4, E.ev.eq_5, E.ev.eq_6, E.ev.eq_7, E.ev.eq_8, E.ev.eq_9, E.ev.eq_10, E.ev.eq_11, E.ev.eq_12, E.ev.eq_13, E.ev.eq_14, E.ev.eq_15, E.ev.eq_16, E.ev.eq_17, E.ev.eq_18, E.ev.eq_19, E.ev.eq_20, E.ev.eq_21, E.ev.eq_22, E.ev.eq_23, E.ev.eq_24, E.ev.eq_25, E.ev.eq_26, E.ev.eq_28, E.ev.eq_29, Es.ev, It.ev, Op.ev, Op.tst, slV, slP, ownS, ixT, T.tru, outT, BOp.ap, i3] at hx ⊢
    exact hx
def I8 (c : Int) (s a : Nat) (Rs : List Str) (i : Nat) (env : En) : Prop := ∃ e7 e8 e9, ∃ L : List Str, L.length = i ∧ (∀ z ∈ L, NmOk z) ∧ env = [.fz (.int c), .fz (.str lets), .fz (.int (s : Nat)), .fz (.int (a : Nat)), .fz (.lst (Rs.map .str)), .no, .ow (.lst (L.map .str)), e7, e8, e9, .no]
theorem l8 (c : Int) (s a : Nat) (Rs : List Str) (hs : s ≤ 6) (ha : a < s) (hR : Rs.length = 6) (hL : ∀ z ∈ Rs, L1 z) (i : Nat) (hi : i < 9) (env : En) (h : I8 c s a Rs i env) : ∃ env2 env3, Tg.bind (.n 7) (.int ((0 : Int) + (i : Nat))) env = some env2 ∧ (l8_1.ev (tab.pg k) env2 = some (.nx env3) ∨ l8_1.ev (tab.pg k) env2 = some (.ct env3)) ∧ I8 c s a Rs (i + 1) env3 := by
  obtain ⟨e7, e8, e9, L, h1, h2, rfl⟩ := h
  have sg := lt_ok (c / 11 + (i : Int))
  have sx := lt_ix (c / 11 + (i : Int))
  generalize lt (c / 11 + (i : Int)) = sign at sg sx
  obtain ⟨z, hz, jz⟩ := join0 (ss := Rs.take a ++ [sign] ++ (Rs.drop (a + 1)).take (s - (a + 1))) (by
    intro z hz
    simp only [List.mem_append, List.mem_singleton] at hz
    rcases hz with (hz | hz) | hz
    · exact hL z (List.mem_of_mem_take hz)
    · exact hz ▸ sg
    · exact hL z (List.mem_of_mem_drop (List.mem_of_mem_take hz))) (by simp only [List.length_append, List.length_take, List.length_drop, List.length_cons, List.length_nil]; omega)
  obtain ⟨y, hy, jy⟩ := join0 (ss := Rs.take (1 + i % 5)) (fun z hz => hL z (List.mem_of_mem_take hz)) (by rw [List.length_take]; omega)
  have hLIM : LIM = 16777216 := rfl
  have hln : L.length < LIM := by omega
  have t1 := cut_to (Rs.map T.str) a (by rw [List.length_map]; omega)
  have t2 := cut_mid (Rs.map T.str) (a + 1) (s - (a + 1)) (by rw [List.length_map]; omega)
  have t3 := cut_to (Rs.map T.str) (1 + i % 5) (by rw [List.length_map]; omega)
  rw [show (((a + 1 : Nat) : Int) + ((s - (a + 1) : Nat) : Int)) = (s : Int) by omega, show ((a + 1 : Nat) : Int) = (a : Int) + 1 by omega] at t2
  rw [show ((1 + i % 5 : Nat) : Int) = 1 + (i : Int) % 5 by omega] at t3
  simp only [List.map_append, List.map_take, List.map_drop, List.map_cons, List.map_nil] at jz jy
  have a1 := add_lst ((Rs.map T.str).take a) [.str sign] (by simp only [List.length_take, List.length_cons, List.length_nil, List.length_map]; omega)
  have a2 := add_lst ((Rs.map T.str).take a ++ [.str sign]) (((Rs.map T.str).drop (a + 1)).take (s - (a + 1))) (by simp only [List.length_append, List.length_take, List.length_drop, List.length_cons, List.length_nil, List.length_map]; omega)
  have a3 := add_str sign y (by have := sg.2; have := hy.2; omega)
  have e0 : T.int ((0 : Int) + (i : Nat)) = .int (i : Nat) := by simp
  rw [e0]
  suffices hh : ∃ w e9', NmOk w ∧ l8_1.ev (tab.pg k) [.fz (.int c), .fz (.str lets), .fz (.int (s : Nat)), .fz (.int (a : Nat)), .fz (.lst (Rs.map .str)), .no, .ow (.lst (L.map .str)), .fz (.int (i : Nat)), e8, e9, .no] = some (.nx [.fz (.int c), .fz (.str lets), .fz (.int (s : Nat)), .fz (.int (a : Nat)), .fz (.lst (Rs.map .str)), .no, .ow (.lst (L.map .str ++ [.str w])), .fz (.int (i : Nat)), .fz (.str sign), e9', .no]) by
    obtain ⟨w, e9', hw, hh⟩ := hh
    refine ⟨_, _, rfl, .inl hh, .fz (.int (i : Nat)), .fz (.str sign), e9', L ++ [w], by rw [List.length_append, h1]; rfl, fun z hz => ?_, by rw [List.map_append]; rfl⟩
    rcases List.mem_append.mp hz with hz | hz
    · exact h2 z hz
    · rw [List.mem_singleton.mp hz]; exact hw
  have s1 : (S.set 8 false (.ix (.v 1) (.bin .mod (.bin .add (.bin .fdiv (.v 0) (.k (.int 11))) (.v 7)) (.k (.int 26))))).ev (tab.pg k) [.fz (.int c), .fz (.str lets), .fz (.int (s : Nat)), .fz (.int (a : Nat)), .fz (.lst (Rs.map .str)), .no, .ow (.lst (L.map .str)), .fz (.int (i : Nat)), e8, e9, .no] = some (.nx [.fz (.int c), .fz (.str lets), .fz (.int (s : Nat)), .fz (.int (a : Nat)), .fz (.lst (Rs.map .str)), .no, .ow (.lst (L.map .str)), .fz (.int (i : Nat)), .fz (.str sign), e9, .no]) := by
    have b1 : BOp.ap .fdiv (.int c) (.int 11) = some (.int (c / 11)) := rfl
    have b2 : BOp.ap .add (.int (c / 11)) (.int (i : Nat)) = some (.int (c / 11 + (i : Int))) := rfl
    have b3 : BOp.ap .mod (.int (c / 11 + (i : Int))) (.int 26) = some (.int ((c / 11 + (i : Int)) % 26)) := rfl
    simp only [ixT] at sx
    simp only [Ss.ev, S.ev.eq_1, S.ev.eq_2, S.ev.eq_3, S.ev.eq_4, S.ev.eq_5, S.ev.eq_6, S.ev.eq_7, S.ev.eq_10, S.ev.eq_11, S.ev.eq_12, S.ev.eq_13, S.ev.eq_14, S.ev.eq_15, S.ev.eq_16, S.ev.eq_17, S.ev.eq_18, S.ev.eq_19, S.ev.eq_20, E.ev.eq_1, E.ev.eq_2, E.ev.eq_3, E.ev.eq_4, E.ev.eq_5, E.ev.eq_6, E.ev.eq_7, E.ev.eq_8, E.ev.eq_9, E.ev.eq_10, E.ev.eq_11, E.ev.eq_12, E.ev.eq_13, E.ev.eq_14, E.ev.eq_15, E.ev.eq_16, E.ev.eq_17, E.ev.eq_18, E.ev.eq_19, E.ev.eq_20, E.ev.eq_21, E.ev.eq_22, E.ev.eq_23, E.ev.eq_24, E.ev.eq_25, E.ev.eq_26, E.ev.eq_28, E.ev.eq_29, Es.ev, It.ev, Op.ev, Op.tst, slV, slP, ownS, ixT, T.tru, outT, Option.bind_some, Option.map_some, List.getElem?_cons_zero, List.getElem?_cons_succ, b1, b2, b3, sx]
    rfl
  have s2 : (S.set 9 false (.bm .join (.k (.str "")) (.cons (.bin .add (.bin .add (.sl (.v 4) .no (.so (.v 3))) (.lst (.cons (.v 8) .nil))) (.sl (.v 4) (.so (.bin .add (.v 3) (.k (.int 1)))) (.so (.v 2)))) .nil))).ev (tab.pg k) [.fz (.int c), .fz (.str lets), .fz (.int (s : Nat)), .fz (.int (a : Nat)), .fz (.lst (Rs.map .str)), .no, .ow (.lst (L.map .str)), .fz (.int (i : Nat)), .fz (.str sign), e9, .no] = some (.nx [.fz (.int c), .fz (.str lets), .fz (.int (s : Nat)), .fz (.int (a : Nat)), .fz (.lst (Rs.map .str)), .no, .ow (.lst (L.map .str)), .fz (.int (i : Nat)), .fz (.str sign), .fz (.str z), .no]) := by
    have b1 : BOp.ap .add (.int (a : Nat)) (.int 1) = some (.int ((a : Int) + 1)) := rfl
    simp only [Ss.ev, S.ev.eq_1, S.ev.eq_2, S.ev.eq_3, S.ev.eq_4, S.ev.eq_5, S.ev.eq_6, S.ev.eq_7, S.ev.eq_10, S.ev.eq_11, S.ev.eq_12, S.ev.eq_13, S.ev.eq_14, S.ev.eq_15, S.ev.eq_16, S.ev.eq_17, S.ev.eq_18, S.ev.eq_19, S.ev.eq_20, E.ev.eq_1, E.ev.eq_2, E.ev.eq_3, E.ev.eq_4, E.ev.eq_5, E.ev.eq_6, E.ev.eq_7, E.ev.eq_8, E.ev.eq_9, E.ev.eq_10, E.ev.eq_11, E.ev.eq_12, E.ev.eq_13, E.ev.eq_14, E.ev.eq_15, E.ev.eq_16, E.ev.eq_17, E.ev.eq_18, E.ev.eq_19, E.ev.eq_20, E.ev.eq_21, E.ev.eq_22, E.ev.eq_23, E.ev.eq_24, E.ev.eq_25, E.ev.eq_26, E.ev.eq_28, E.ev.eq_29, Es.ev, It.ev, Op.ev, Op.tst, slV, slP, ownS, ixT, T.tru, outT, Option.bind_some, Option.map_some, List.getElem?_cons_zero, List.getElem?_cons_succ, partT, slT, t1, t2, a1, a2, b1, jz]
    rfl
  have s3 : ∀ Q, Q = (S.iff (.cmp .eq (.bin .mod (.v 0) (.k (.int 4))) (.k (.int 3))) (.cons (.set 9 false (.ix (.lst (.cons (.bm .join (.k (.str "")) (.cons (.sl (.v 4) .no (.so (.bin .add (.k (.int 1)) (.bin .mod (.v 7) (.k (.int 5)))))) .nil)) (.cons (.bin .add (.v 8) (.bm .join (.k (.str "")) (.cons (.sl (.v 4) .no (.so (.bin .add (.k (.int 1)) (.bin .mod (.v 7) (.k (.int 5)))))) .nil))) .nil))) (.bin .fdiv (.v 7) (.k (.int 5))))) .nil) .nil) →
      ∃ w, NmOk w ∧ Q.ev (tab.pg k) [.fz (.int c), .fz (.str lets), .fz (.int (s : Nat)), .fz (.int (a : Nat)), .fz (.lst (Rs.map .str)), .no, .ow (.lst (L.map .str)), .fz (.int (i : Nat)), .fz (.str sign), .fz (.str z), .no] = some (.nx [.fz (.int c), .fz (.str lets), .fz (.int (s : Nat)), .fz (.int (a : Nat)), .fz (.lst (Rs.map .str)), .no, .ow (.lst (L.map .str)), .fz (.int (i : Nat)), .fz (.str sign), .fz (.str w), .no]) := by
    rintro Q rfl
    by_cases h4 : c % 4 = 3
    · have q : (i : Int) / 5 = 0 ∨ (i : Int) / 5 = 1 := by omega
      have b1 : BOp.ap .mod (.int (i : Nat)) (.int 5) = some (.int ((i : Int) % 5)) := rfl
      have b2 : BOp.ap .add (.int 1) (.int ((i : Int) % 5)) = some (.int (1 + (i : Int) % 5)) := rfl
      have b3 : BOp.ap .mod (.int c) (.int 4) = some (.int 3) := by rw [← h4]; rfl
      have b4 : COp.ap .eq (.int 3) (.int 3) = some (.bl true) := rfl
      have b5 : BOp.ap .fdiv (.int (i : Nat)) (.int 5) = some (.int ((i : Int) / 5)) := rfl
      rcases q with q | q
      · refine ⟨y, ⟨hy.1, Nat.le_trans hy.2 (by decide)⟩, ?_⟩
        simp only [Ss.ev, S.ev.eq_1, S.ev.eq_2, S.ev.eq_3, S.ev.eq_4, S.ev.eq_5, S.ev.eq_6, S.ev.eq_7, S.ev.eq_10, S.ev.eq_11, S.ev.eq_12, S.ev.eq_13, S.ev.eq_14, S.ev.eq_15, S.ev.eq_16, S.ev.eq_17, S.ev.eq_18, S.ev.eq_19, S.ev.eq_20, E.ev.eq_1, E.ev.eq_2, E.ev.eq_3, E.ev.eq_4, E.ev.eq_5, E.ev.eq_6, E.ev.eq_7, E.ev.eq_8, E.ev.eq_9, E.ev.eq_10, E.ev.eq_11, E.ev.eq_12, E.ev.eq_13, E.ev.eq_14, E.ev.eq_15, E.ev.eq_16, E.ev.eq_17, E.ev.eq_18, E.ev.eq_19, E.ev.eq_20, E.ev.eq_21, E.ev.eq_22, E.ev.eq_23, E.ev.eq_24, E.ev.eq_25, E.ev.eq_26, E.ev.eq_28, E.ev.eq_29, Es.ev, It.ev, Op.ev, Op.tst, slV, slP, ownS, ixT, T.tru, outT, Option.bind_some, Option.map_some, List.getElem?_cons_zero, List.getElem?_cons_succ, partT, slT, t3, jy, b1, b2, b3, b4, b5, a3, q, atI0, cond_true]
        rfl
      · refine ⟨sign ++ y, ⟨strOk_app sg.1 hy.1, ?_⟩, ?_⟩
        · show (sign ++ y).length ≤ 7
          rw [len_app, sg.2]; have := hy.2; omega
        simp only [Ss.ev, S.ev.eq_1, S.ev.eq_2, S.ev.eq_3, S.ev.eq_4, S.ev.eq_5, S.ev.eq_6, S.ev.eq_7, S.ev.eq_10, S.ev.eq_11, S.ev.eq_12, S.ev.eq_13, S.ev.eq_14, S.ev.eq_15, S.ev.eq_16, S.ev.eq_17, S.ev.eq_18, S.ev.eq_19, S.ev.eq_20, E.ev.eq_1, E.ev.eq_2, E.ev.eq_3, E.ev.eq_4, E.ev.eq_5, E.ev.eq_6, E.ev.eq_7, E.ev.eq_8, E.ev.eq_9, E.ev.eq_10, E.ev.eq_11, E.ev.eq_12, E.ev.eq_13, E.ev.eq_14, E.ev.eq_15, E.ev.eq_16, E.ev.eq_17, E.ev.eq_18, E.ev.eq_19, E.ev.eq_20, E.ev.eq_21, E.ev.eq_22, E.ev.eq_23, E.ev.eq_24, E.ev.eq_25, E.ev.eq_26, E.ev.eq_28, E.ev.eq_29, Es.ev, It.ev, Op.ev, Op.tst, slV, slP, ownS, ixT, T.tru, outT, Option.bind_some, Option.map_some, List.getElem?_cons_zero, List.getElem?_cons_succ, partT, slT, t3, jy, b1, b2, b3, b4, b5, a3, q, atI1, cond_true]
        rfl
    · have b3 : BOp.ap .mod (.int c) (.int 4) = some (.int (c % 4)) := rfl
      have b4 : COp.ap .eq (.int (c % 4)) (.int 3) = some (.bl false) := by
        simp [COp.ap, eqOk, T.dep, T.eqv, T.toD, PyData.eqv, h4]
      refine ⟨z, ⟨hz.1, Nat.le_trans hz.2 (by decide)⟩, ?_⟩
      simp only [Ss.ev, S.ev.eq_1, S.ev.eq_2, S.ev.eq_3, S.ev.eq_4, S.ev.eq_5, S.ev.eq_6, S.ev.eq_7, S.ev.eq_10, S.ev.eq_11, S.ev.eq_12, S.ev.eq_13, S.ev.eq_14, S.ev.eq_15, S.ev.eq_16, S.ev.eq_17, S.ev.eq_18, S.ev.eq_19, S.ev.eq_20, E.ev.eq_1, E.ev.eq_2, E.ev.eq_3, E.ev.eq_4, E.ev.eq_5, E.ev.eq_6, E.ev.eq_7, E.ev.eq_8, E.ev.eq_9, E.ev.eq_10, E.ev.eq_11, E.ev.eq_12, E.ev.eq_13, E.ev.eq_14, E.ev.eq_15, E.ev.eq_16, E.ev.eq_17, E.ev.eq_18, E.ev.eq_19, E.ev.eq_20, E.ev.eq_21, E.ev.eq_22, E.ev.eq_23, E.ev.eq_24, E.ev.eq_25, E.ev.eq_26, E.ev.eq_28, E.ev.eq_29, Es.ev, It.ev, Op.ev, Op.tst, slV, slP, ownS, ixT, T.tru, outT, Option.bind_some, Option.map_some, List.getElem?_cons_zero, List.getElem?_cons_succ, b3, b4, cond_false]
  obtain ⟨w, hw, s3⟩ := s3 _ rfl
  refine ⟨w, .fz (.str w), hw, ?_⟩
  refine (ev_step s1).trans ((ev_step s2).trans ((ev_step s3).trans ?_))
  simp [Ss.ev, S.ev.eq_1, S.ev.eq_2, S.ev.eq_3, S.ev.eq_4, S.ev.eq_5, S.ev.eq_6, S.ev.eq_7, S.ev.eq_10, S.ev.eq_11, S.ev.eq_12, S.ev.eq_13, S.ev.eq_14, S.ev.eq_15, S.ev.eq_16, S.ev.eq_17, S.ev.eq_18, S.ev.eq_19, S.ev.eq_20, E.ev.eq_1, E.ev.eq_2, E.ev.eq_3, E.ev.eq_4, E.ev.eq_5, E.ev.eq_6, E.ev.eq_7, E.ev.eq_8, E.ev.eq_9, E.ev.eq_10, E.ev.eq_11, E.ev.eq_12, E.ev.eq_13, E.ev.eq_14, E.ev.eq_15, E.ev.eq_16, E.ev.eq_17, E.ev.eq_18, E.ev.eq_19, E.ev.eq_20, E.ev.eq_21, E.ev.eq_22, E.ev.eq_23, E.ev.eq_24, E.ev.eq_25, E.ev.eq_26, E.ev.eq_28, E.ev.eq_29, Es.ev, It.ev, Op.ev, Op.tst, slV, slP, ownS, ixT, T.tru, outT, slO, Lm.ap, hln]
theorem names_ok (c : Int) (hc : 0 ≤ c) : ∃ L : List Str, L.length = 9 ∧ (∀ z ∈ L, NmOk z) ∧ (tab.pg (k + 1)).fn 8 [.int c] = some (.lst (L.map .str)) := by
  obtain ⟨s, hs1, hs2, hs⟩ : ∃ s : Nat, 1 ≤ s ∧ s ≤ 6 ∧ 1 + c / 4 % 6 = (s : Int) := ⟨(1 + c / 4 % 6).toNat, by omega, by omega, by omega⟩
  obtain ⟨a, ha1, ha⟩ : ∃ a : Nat, a < s ∧ ixT (.lst [.int (c / 24 % (s : Int)), .int 0, .int ((s : Int) - 1), .int 0]) (.int (c % 4)) = some (.int (a : Nat)) := by
    have h0 : 0 ≤ c / 24 % (s : Int) := Int.emod_nonneg _ (by omega)
    have h1 : c / 24 % (s : Int) < s := Int.emod_lt_of_pos _ (by omega)
    have : c % 4 = 0 ∨ c % 4 = 1 ∨ c % 4 = 2 ∨ c % 4 = 3 := by omega
    rcases this with e | e | e | e <;> rw [e]
    · exact ⟨(c / 24 % (s : Int)).toNat, by omega, by show L2.atI _ 0 = _; rw [atI0]; congr 2; omega⟩
    · exact ⟨0, by omega, atI1 _ _ _⟩
    · exact ⟨s - 1, by omega, by show L2.atI _ 2 = _; rw [atI2]; congr 2; omega⟩
    · exact ⟨0, by omega, atI3 _ _ _ _ _⟩
  rw [fnS]
  show ∃ L : List Str, _ ∧ _ ∧ outT (b8.ev (tab.pg k) [.fz (.int c), .no, .no, .no, .no, .no, .no, .no, .no, .no, .no]) = _
  have hRl : ((List.range 6).map fun (j : Nat) => lt (c / 7 + 5 * (j : Int))).length = 6 := by simp
  have hRo : ∀ z ∈ ((List.range 6).map fun (j : Nat) => lt (c / 7 + 5 * (j : Int))), L1 z := fun z hz => by
    obtain ⟨j, _, rfl⟩ := List.mem_map.mp hz
    exact lt_ok _
  have hc8 := c8a (k := k) c
  generalize ((List.range 6).map fun (j : Nat) => lt (c / 7 + 5 * (j : Int))) = Rs at hRl hRo hc8
  have q0 : b8.ev (tab.pg k) [.fz (.int c), .no, .no, .no, .no, .no, .no, .no, .no, .no, .no] = (match b8 with | .cons _ (.cons _ (.cons _ (.cons _ r))) => r | _ => .nil).ev (tab.pg k) [.fz (.int c), .fz (.str lets), .fz (.int (s : Nat)), .fz (.int (a : Nat)), .fz (.lst (Rs.map .str)), .no, .no, .no, .no, .no, .no] := by
    unfold b8
    rw [ev_step (env' := [.fz (.int c), .fz (.str lets), .no, .no, .no, .no, .no, .no, .no, .no, .no]) rfl,
      ev_step (env' := [.fz (.int c), .fz (.str lets), .fz (.int (s : Nat)), .no, .no, .no, .no, .no, .no, .no, .no]) (by simp [Ss.ev, S.ev.eq_1, S.ev.eq_2, S.ev.eq_3, S.ev.eq_4, S.ev.eq_5, S.ev.eq_6, S.ev.eq_7, S.ev.eq_10, S.ev.eq_11, S.ev.eq_12, S.ev.eq_13, S.ev.eq_14, S.ev.eq_15, S.ev.eq_16, S.ev.eq_17, S.ev.eq_18, S.ev.eq_19, S.ev.eq_20, E.ev.eq_1, E.ev.eq_2, E.ev.eq_3, E.ev.eq_4, E.ev.eq_5, E.ev.eq_6, E.ev.eq_7, E.ev.eq_8, E.ev.eq_9, E.ev.eq_10, E.ev.eq_11, E.ev.eq_12, E.ev.eq_13, E.ev.eq_14, E.ev.eq_15, E.ev.eq_16, E.ev.eq_17, E.ev.eq_18, E.ev.eq_19, E.ev.eq_20, E.ev.eq_21, E.ev.eq_22, E.ev.eq_23, E.ev.eq_24, E.ev.eq_25, E.ev.eq_26, E.ev.eq_28, E.ev.eq_29, Es.ev, It.ev, Op.ev, Op.tst, slV, slP, ownS, ixT, T.tru, outT, BOp.ap, hs]),
      ev_step (env' := [.fz (.int c), .fz (.str lets), .fz (.int (s : Nat)), .fz (.int (a : Nat)), .no, .no, .no, .no, .no, .no, .no]) (by
        have b1 : BOp.ap .mod (.int (c / 24)) (.int (s : Nat)) = some (.int (c / 24 % (s : Int))) := by simp [BOp.ap]; omega
        have b2 : BOp.ap .fdiv (.int c) (.int 24) = some (.int (c / 24)) := rfl
        have b3 : BOp.ap .mod (.int c) (.int 4) = some (.int (c % 4)) := rfl
        have b4 : BOp.ap .sub (.int (s : Nat)) (.int 1) = some (.int ((s : Int) - 1)) := rfl
        simp only [ixT] at ha
        simp only [Ss.ev, S.ev.eq_1, S.ev.eq_2, S.ev.eq_3, S.ev.eq_4, S.ev.eq_5, S.ev.eq_6, S.ev.eq_7, S.ev.eq_10, S.ev.eq_11, S.ev.eq_12, S.ev.eq_13, S.ev.eq_14, S.ev.eq_15, S.ev.eq_16, S.ev.eq_17, S.ev.eq_18, S.ev.eq_19, S.ev.eq_20, E.ev.eq_1, E.ev.eq_2, E.ev.eq_3, E.ev.eq_4, E.ev.eq_5, E.ev.eq_6, E.ev.eq_7, E.ev.eq_8, E.ev.eq_9, E.ev.eq_10, E.ev.eq_11, E.ev.eq_12, E.ev.eq_13, E.ev.eq_14, E.ev.eq_15, E.ev.eq_16, E.ev.eq_17, E.ev.eq_18, E.ev.eq_19, E.ev.eq_20, E.ev.eq_21, E.ev.eq_22, E.ev.eq_23, E.ev.eq_24, E.ev.eq_25, E.ev.eq_26, E.ev.eq_28, E.ev.eq_29, Es.ev, It.ev, Op.ev, Op.tst, slV, slP, ownS, ixT, T.tru, outT, Option.bind_some, Option.map_some, List.getElem?_cons_zero, List.getElem?_cons_succ, b1, b2, b3, b4, ha]
        rfl),
      ev_step (env' := [.fz (.int c), .fz (.str lets), .fz (.int (s : Nat)), .fz (.int (a : Nat)), .fz (.lst (Rs.map .str)), .no, .no, .no, .no, .no, .no]) (by simp [Ss.ev, S.ev.eq_1, S.ev.eq_2, S.ev.eq_3, S.ev.eq_4, S.ev.eq_5, S.ev.eq_6, S.ev.eq_7, S.ev.eq_10, S.ev.eq_11, S.ev.eq_12, S.ev.eq_13, S.ev.eq_14, S.ev.eq_15, S.ev.eq_16, S.ev.eq_17, S.ev.eq_18, S.ev.eq_19, S.ev.eq_20, E.ev.eq_1, E.ev.eq_2, E.ev.eq_3, E.ev.eq_4, E.ev.eq_5, E.ev.eq_6, E.ev.eq_7, E.ev.eq_8, E.ev.eq_9, E.ev.eq_10, E.ev.eq_11, E.ev.eq_12, E.ev.eq_13, E.ev.eq_14, E.ev.eq_15, E.ev.eq_16, E.ev.eq_17, E.ev.eq_18, E.ev.eq_19, E.ev.eq_20, E.ev.eq_21, E.ev.eq_22, E.ev.eq_23, E.ev.eq_24, E.ev.eq_25, E.ev.eq_26, E.ev.eq_28, E.ev.eq_29, Es.ev, It.ev, Op.ev, Op.tst, slV, slP, ownS, ixT, T.tru, outT, hc8])]
  rw [q0]
  unfold b8
  dsimp only
  rw [ev_step (env' := [.fz (.int c), .fz (.str lets), .fz (.int (s : Nat)), .fz (.int (a : Nat)), .fz (.lst (Rs.map .str)), .no, .ow (.lst []), .no, .no, .no, .no]) rfl]
  obtain ⟨env', h4, e7, e8, e9, L, h1, h2, rfl⟩ := ev_for (P := tab.pg k) (env := [.fz (.int c), .fz (.str lets), .fz (.int (s : Nat)), .fz (.int (a : Nat)), .fz (.lst (Rs.map .str)), .no, .ow (.lst []), .no, .no, .no, .no]) (tg := .n 7) (it := .rng (.k (.int 9))) (ts := (List.range 9).map fun i => .int ((0 : Int) + (i : Nat))) (b := l8_1)
    (I8 c s a Rs) (by simpa [Ss.ev, S.ev.eq_1, S.ev.eq_2, S.ev.eq_3, S.ev.eq_4, S.ev.eq_5, S.ev.eq_6, S.ev.eq_7, S.ev.eq_10, S.ev.eq_11, S.ev.eq_12, S.ev.eq_13, S.ev.eq_14, S.ev.eq_15, S.ev.eq_16, S.ev.eq_17, S.ev.eq_18, S.ev.eq_19, S.ev.eq_20, E.ev.eq_1, E.ev.eq_2, E.ev.eq_3, E.ev.eq_4, E.ev.eq_5, E.ev.eq_6, E.ev.eq_7, E.ev.eq_8, E.ev.eq_9, E.ev.eq_10, E.ev.eq_11, E.ev.eq_12, E.ev.eq_13, E.ev.eq_14, E.ev.eq_15, E.ev.eq_16, E.ev.eq_17, E.ev.eq_18, E.ev.eq_19, E.ev.eq_20, E.ev.eq_21, E.ev.eq_22, E.ev.eq_23, E.ev.eq_24, E.ev.eq_25, E.ev.eq_26, E.ev.eq_28, E.ev.eq_29, Es.ev, It.ev, Op.ev, Op.tst, slV, slP, ownS, ixT, T.tru, outT] using rng_nat 9 (by decide)) ⟨_, _, _, [], rfl, (fun z hz => nomatch hz), rfl⟩ (by
    intro i t env ht hI
    rw [List.getElem?_map] at ht
    obtain ⟨i', hi', rfl⟩ := mpd ht
    have hlt : i < 9 := by
      have := (List.getElem?_eq_some_iff.mp hi').1
      rwa [List.length_range] at this
    have : i' = i := by
      rw [List.getElem?_range hlt] at hi'
      exact (Option.some.inj hi').symm
    subst this
    exact l8 c s a Rs hs2 ha1 hRl hRo _ hlt env hI)
  have h9 : L.length = 9 := by simpa using h1
  have hc2 : ∃ O : List Str, c8_2.ev (tab.pg k) [.fz (.int c), .fz (.str lets), .fz (.int (s : Nat)), .fz (.int (a : Nat)), .fz (.lst (Rs.map .str)), .no, .ow (.lst (L.map .str)), e7, e8, e9, .no] = some (.lst (O.map .str)) := by
    unfold c8_2
    refine ⟨L.filter fun z => oddT.any fun y => y.eqv (.str z), ev_lcA L T.str T.str _ (by simp [Ss.ev, S.ev.eq_1, S.ev.eq_2, S.ev.eq_3, S.ev.eq_4, S.ev.eq_5, S.ev.eq_6, S.ev.eq_7, S.ev.eq_10, S.ev.eq_11, S.ev.eq_12, S.ev.eq_13, S.ev.eq_14, S.ev.eq_15, S.ev.eq_16, S.ev.eq_17, S.ev.eq_18, S.ev.eq_19, S.ev.eq_20, E.ev.eq_1, E.ev.eq_2, E.ev.eq_3, E.ev.eq_4, E.ev.eq_5, E.ev.eq_6, E.ev.eq_7, E.ev.eq_8, E.ev.eq_9, E.ev.eq_10, E.ev.eq_11, E.ev.eq_12, E.ev.eq_13, E.ev.eq_14, E.ev.eq_15, E.ev.eq_16, E.ev.eq_17, E.ev.eq_18, E.ev.eq_19, E.ev.eq_20, E.ev.eq_21, E.ev.eq_22, E.ev.eq_23, E.ev.eq_24, E.ev.eq_25, E.ev.eq_26, E.ev.eq_28, E.ev.eq_29, Es.ev, It.ev, Op.ev, Op.tst, slV, slP, ownS, ixT, T.tru, outT, seqT]) fun z hz => ⟨[.fz (.int c), .fz (.str lets), .fz (.int (s : Nat)), .fz (.int (a : Nat)), .fz (.lst (Rs.map .str)), .no, .ow (.lst (L.map .str)), e7, e8, .fz (.str z), .no], ?_, ?_, fun _ => ?_⟩⟩
    · simp [Tg.bind, wipeE]
    · have hd : deps oddT DM = true := deps_str _ _
      simp only [Ss.ev, S.ev.eq_1, S.ev.eq_2, S.ev.eq_3, S.ev.eq_4, S.ev.eq_5, S.ev.eq_6, S.ev.eq_7, S.ev.eq_10, S.ev.eq_11, S.ev.eq_12, S.ev.eq_13, S.ev.eq_14, S.ev.eq_15, S.ev.eq_16, S.ev.eq_17, S.ev.eq_18, S.ev.eq_19, S.ev.eq_20, E.ev.eq_1, E.ev.eq_2, E.ev.eq_3, E.ev.eq_4, E.ev.eq_5, E.ev.eq_6, E.ev.eq_7, E.ev.eq_8, E.ev.eq_9, E.ev.eq_10, E.ev.eq_11, E.ev.eq_12, E.ev.eq_13, E.ev.eq_14, E.ev.eq_15, E.ev.eq_16, E.ev.eq_17, E.ev.eq_18, E.ev.eq_19, E.ev.eq_20, E.ev.eq_21, E.ev.eq_22, E.ev.eq_23, E.ev.eq_24, E.ev.eq_25, E.ev.eq_26, E.ev.eq_28, E.ev.eq_29, Es.ev, It.ev, Op.ev, Op.tst, slV, slP, ownS, ixT, T.tru, outT, Option.bind_some, List.getElem?_cons_zero, List.getElem?_cons_succ, odd_ok, COp.ap, inT, hd, T.dep, Bool.and_self, if_true, Option.map_some]
    · simp [Ss.ev, S.ev.eq_1, S.ev.eq_2, S.ev.eq_3, S.ev.eq_4, S.ev.eq_5, S.ev.eq_6, S.ev.eq_7, S.ev.eq_10, S.ev.eq_11, S.ev.eq_12, S.ev.eq_13, S.ev.eq_14, S.ev.eq_15, S.ev.eq_16, S.ev.eq_17, S.ev.eq_18, S.ev.eq_19, S.ev.eq_20, E.ev.eq_1, E.ev.eq_2, E.ev.eq_3, E.ev.eq_4, E.ev.eq_5, E.ev.eq_6, E.ev.eq_7, E.ev.eq_8, E.ev.eq_9, E.ev.eq_10, E.ev.eq_11, E.ev.eq_12, E.ev.eq_13, E.ev.eq_14, E.ev.eq_15, E.ev.eq_16, E.ev.eq_17, E.ev.eq_18, E.ev.eq_19, E.ev.eq_20, E.ev.eq_21, E.ev.eq_22, E.ev.eq_23, E.ev.eq_24, E.ev.eq_25, E.ev.eq_26, E.ev.eq_28, E.ev.eq_29, Es.ev, It.ev, Op.ev, Op.tst, slV, slP, ownS, ixT, T.tru, outT]
  obtain ⟨O, hO⟩ := hc2
  have hsl : strs? (L.map T.str) = some L := strs_map L
  have hcond : ∃ b, (E.or (.cmp .ne (.v 10) (.lst .nil)) (.cmp .lt (.bi .lenset (.cons (.p 6) .nil)) (.k (.int 9)))).ev (tab.pg k) [.fz (.int c), .fz (.str lets), .fz (.int (s : Nat)), .fz (.int (a : Nat)), .fz (.lst (Rs.map .str)), .no, .ow (.lst (L.map .str)), e7, e8, e9, .fz (.lst (O.map .str))] = some (.bl b) := by
    have hdO : (T.lst (O.map T.str)).dep DM = true := deps_str O 59
    have hd0 : (T.lst []).dep DM = true := rfl
    have b1 : COp.ap .ne (.lst (O.map .str)) (.lst []) = some (.bl (!(T.lst (O.map .str)).eqv (.lst []))) := by
      simp only [COp.ap, eqOk, hdO, hd0, Bool.and_self, if_true]
    have b2 : Bi.ap .lenset [.lst (L.map .str)] = some (.int (firstMetS [] L).length) := by
      simp only [Bi.ap, hsl]
      rw [if_pos (by omega)]
    have b3 : ∀ x : Int, COp.ap .lt (.int x) (.int 9) = some (.bl (decide (x < 9))) := fun _ => rfl
    simp only [Ss.ev, S.ev.eq_1, S.ev.eq_2, S.ev.eq_3, S.ev.eq_4, S.ev.eq_5, S.ev.eq_6, S.ev.eq_7, S.ev.eq_10, S.ev.eq_11, S.ev.eq_12, S.ev.eq_13, S.ev.eq_14, S.ev.eq_15, S.ev.eq_16, S.ev.eq_17, S.ev.eq_18, S.ev.eq_19, S.ev.eq_20, E.ev.eq_1, E.ev.eq_2, E.ev.eq_3, E.ev.eq_4, E.ev.eq_5, E.ev.eq_6, E.ev.eq_7, E.ev.eq_8, E.ev.eq_9, E.ev.eq_10, E.ev.eq_11, E.ev.eq_12, E.ev.eq_13, E.ev.eq_14, E.ev.eq_15, E.ev.eq_16, E.ev.eq_17, E.ev.eq_18, E.ev.eq_19, E.ev.eq_20, E.ev.eq_21, E.ev.eq_22, E.ev.eq_23, E.ev.eq_24, E.ev.eq_25, E.ev.eq_26, E.ev.eq_28, E.ev.eq_29, Es.ev, It.ev, Op.ev, Op.tst, slV, slP, ownS, ixT, T.tru, outT, Option.bind_some, Option.map_some, List.getElem?_cons_zero, List.getElem?_cons_succ, b1, b2, b3]
    cases !(T.lst (O.map .str)).eqv (.lst [])
    · exact ⟨_, rfl⟩
    · exact ⟨_, rfl⟩
  obtain ⟨b, hb⟩ := hcond
  have fin : ∀ Lf : List Str, Lf.length = 9 → (∀ z ∈ Lf, NmOk z) → ∀ o, outT o = some (.lst (Lf.map .str)) → ∃ L : List Str, L.length = 9 ∧ (∀ z ∈ L, NmOk z) ∧ outT o = some (.lst (L.map .str)) := fun Lf h1 h2 o h3 => ⟨Lf, h1, h2, h3⟩
  rw [List.length_map, List.length_range] at h1
  cases b with
  | true =>
    refine fin (["a", "b", "c", "ab", "ba", "z", "x", "xx", "y"] : List Str) rfl (by
      intro z hz
      have : ((["a", "b", "c", "ab", "ba", "z", "x", "xx", "y"] : List Str).all fun z => PyData.strOk z && decide (z.cps.size ≤ 7)) = true := by decide +kernel
      have := List.all_eq_true.mp this z hz
      rw [Bool.and_eq_true, decide_eq_true_eq] at this
      exact this) _ ?_
    rw [ev_step h4, ev_step (env' := [.fz (.int c), .fz (.str lets), .fz (.int (s : Nat)), .fz (.int (a : Nat)), .fz (.lst (Rs.map .str)), .no, .ow (.lst (L.map .str)), e7, e8, e9, .fz (.lst (O.map .str))]) (by simp [Ss.ev, S.ev.eq_1, S.ev.eq_2, S.ev.eq_3, S.ev.eq_4, S.ev.eq_5, S.ev.eq_6, S.ev.eq_7, S.ev.eq_10, S.ev.eq_11, S.ev.eq_12, S.ev.eq_13, S.ev.eq_14, S.ev.eq_15, S.ev.eq_16, S.ev.eq_17, S.ev.eq_18, S.ev.eq_19, S.ev.eq_20, E.ev.eq_1, E.ev.eq_2, E.ev.eq_3, E.ev.eq_4, E.ev.eq_5, E.ev.eq_6, E.ev.eq_7, E.ev.eq_8, E.ev.eq_9, E.ev.eq_10, E.ev.eq_11, E.ev.eq_12, E.ev.eq_13, E.ev.eq_14, E.ev.eq_15, E.ev.eq_16, E.ev.eq_17, E.ev.eq_18, E.ev.eq_19, E.ev.eq_20, E.ev.eq_21, E.ev.eq_22, E.ev.eq_23, E.ev.eq_24, E.ev.eq_25, E.ev.eq_26, E.ev.eq_28, E.ev.eq_29, Es.ev, It.ev, Op.ev, Op.tst, slV, slP, ownS, ixT, T.tru, outT, hO])]
    rw [ev_ret (t := .lst ((["a", "b", "c", "ab", "ba", "z", "x", "xx", "y"] : List Str).map .str)) (by
      unfold S.ev
      rw [hb]
      rfl)]
    rfl
  | false =>
    refine fin L h9 h2 _ ?_
    rw [ev_step h4, ev_step (env' := [.fz (.int c), .fz (.str lets), .fz (.int (s : Nat)), .fz (.int (a : Nat)), .fz (.lst (Rs.map .str)), .no, .ow (.lst (L.map .str)), e7, e8, e9, .fz (.lst (O.map .str))]) (by simp [Ss.ev, S.ev.eq_1, S.ev.eq_2, S.ev.eq_3, S.ev.eq_4, S.ev.eq_5, S.ev.eq_6, S.ev.eq_7, S.ev.eq_10, S.ev.eq_11, S.ev.eq_12, S.ev.eq_13, S.ev.eq_14, S.ev.eq_15, S.ev.eq_16, S.ev.eq_17, S.ev.eq_18, S.ev.eq_19, S.ev.eq_20, E.ev.eq_1, E.ev.eq_2, E.ev.eq_3, E.ev.eq_4, E.ev.eq_5, E.ev.eq_6, E.ev.eq_7, E.ev.eq_8, E.ev.eq_9, E.ev.eq_10, E.ev.eq_11, E.ev.eq_12, E.ev.eq_13, E.ev.eq_14, E.ev.eq_15, E.ev.eq_16, E.ev.eq_17, E.ev.eq_18, E.ev.eq_19, E.ev.eq_20, E.ev.eq_21, E.ev.eq_22, E.ev.eq_23, E.ev.eq_24, E.ev.eq_25, E.ev.eq_26, E.ev.eq_28, E.ev.eq_29, Es.ev, It.ev, Op.ev, Op.tst, slV, slP, ownS, ixT, T.tru, outT, hO])]
    rw [ev_step (env' := [.fz (.int c), .fz (.str lets), .fz (.int (s : Nat)), .fz (.int (a : Nat)), .fz (.lst (Rs.map .str)), .no, .ow (.lst (L.map .str)), e7, e8, e9, .fz (.lst (O.map .str))]) (by
      unfold S.ev
      rw [hb]
      rfl)]
    simp [Ss.ev, S.ev.eq_1, S.ev.eq_2, S.ev.eq_3, S.ev.eq_4, S.ev.eq_5, S.ev.eq_6, S.ev.eq_7, S.ev.eq_10, S.ev.eq_11, S.ev.eq_12, S.ev.eq_13, S.ev.eq_14, S.ev.eq_15, S.ev.eq_16, S.ev.eq_17, S.ev.eq_18, S.ev.eq_19, S.ev.eq_20, E.ev.eq_1, E.ev.eq_2, E.ev.eq_3, E.ev.eq_4, E.ev.eq_5, E.ev.eq_6, E.ev.eq_7, E.ev.eq_8, E.ev.eq_9, E.ev.eq_10, E.ev.eq_11, E.ev.eq_12, E.ev.eq_13, E.ev.eq_14, E.ev.eq_15, E.ev.eq_16, E.ev.eq_17, E.ev.eq_18, E.ev.eq_19, E.ev.eq_20, E.ev.eq_21, E.ev.eq_22, E.ev.eq_23, E.ev.eq_24, E.ev.eq_25, E.ev.eq_26, E.ev.eq_28, E.ev.eq_29, Es.ev, It.ev, Op.ev, Op.tst, slV, slP, ownS, ixT, T.tru, outT, frzE]
end
end Tx

set_option Elab.async false
set_option linter.all false
set_option autoImplicit false
set_option maxRecDepth 100000
set_option maxHeartbeats 4000000
namespace Tx
open PySem Fe
theorem bAdd (i j : Int) : BOp.ap .add (.int i) (.int j) = some (.int (i + j)) := rfl
theorem bSub (i j : Int) : BOp.ap .sub (.int i) (.int j) = some (.int (i - j)) := rfl
theorem bMod (i j : Int) : BOp.ap .mod (.int i) (.int j) = if 0 < j then some (.int (i % j)) else none := rfl
theorem bDiv (i j : Int) : BOp.ap .fdiv (.int i) (.int j) = if 0 < j ∧ j < 1073741824 then some (.int (i / j)) else none := rfl
theorem cLt (i j : Int) : COp.ap .lt (.int i) (.int j) = some (.bl (decide (i < j))) := rfl
theorem cLe (i j : Int) : COp.ap .le (.int i) (.int j) = some (.bl (decide (i ≤ j))) := rfl
theorem cGt (i j : Int) : COp.ap .gt (.int i) (.int j) = some (.bl (decide (j < i))) := rfl
theorem cGe (i j : Int) : COp.ap .ge (.int i) (.int j) = some (.bl (decide (j ≤ i))) := rfl
theorem cEq (i j : Int) : COp.ap .eq (.int i) (.int j) = some (.bl (decide (i = j))) := by
  have : (i == j) = decide (i = j) := by rw [Bool.eq_iff_iff]; simp
  simp [COp.ap, eqOk, T.dep, T.eqv, T.toD, PyData.eqv, this]
theorem nm_at {L : List Str} (h9 : L.length = 9) (hL : ∀ z ∈ L, NmOk z) (i : Int) (h1 : 0 ≤ i) (h2 : i < 9) : ∃ z, NmOk z ∧ L2.atI (L.map T.str) i = some (.str z) := by
  have h : i.toNat < L.length := by omega
  refine ⟨L[i.toNat], hL _ (List.getElem_mem h), ?_⟩
  have := atI_nat (L.map T.str) i.toNat
  rw [show ((i.toNat : Nat) : Int) = i by omega] at this
  rw [this, List.getElem?_map, List.getElem?_eq_getElem h]; rfl
theorem int_ok {i : Int} (h1 : 0 ≤ i) (h2 : i < 10 ^ 12) : IntOk i := by
  unfold IntOk
  omega
section
variable {k : Nat}
theorem row_ok (c : Int) (hc : 0 ≤ c ∧ c < 10 ^ 10) {L : List Str} (h9 : L.length = 9) (hL : ∀ z ∈ L, NmOk z) (l kk : Nat) (hk : kk ≤ 1000) : ∃ r, RwOk r ∧ (tab.pg (k + 1)).fn 11 [.int c, .lst (L.map .str), .int (l : Nat), .int (kk : Nat)] = some r.t := by
  obtain ⟨zs, oks, es⟩ := nm_at h9 hL (c / 11 % 3) (by omega) (by omega)
  obtain ⟨zb, okb, eb⟩ := nm_at h9 hL (3 + c / 33 % 4) (by omega) (by omega)
  obtain ⟨zo, oko, eo⟩ := nm_at h9 hL (3 + c / 132 % 4) (by omega) (by omega)
  obtain ⟨v, okv, ev⟩ : ∃ v : Vl, VlOk v ∧ L2.atI [T.int (1 + (kk : Int)), .int (c / 528 % 100), .str zb] (c / 53 % 3) = some v.t := by
    have : c / 53 % 3 = 0 ∨ c / 53 % 3 = 1 ∨ c / 53 % 3 = 2 := by omega
    rcases this with e | e | e <;> rw [e]
    · exact ⟨.i (1 + (kk : Int)), int_ok (by omega) (by omega), atI0 _ _⟩
    · exact ⟨.i (c / 528 % 100), int_ok (by omega) (by omega), atI1 _ _ _⟩
    · exact ⟨.s zb, okb, atI2 _ _ _ _⟩
  obtain ⟨w, okw, ew⟩ : ∃ v : Vl, VlOk v ∧ L2.atI [T.int (1 + (kk : Int)), .str zo] (c / 53 % 2) = some v.t := by
    have : c / 53 % 2 = 0 ∨ c / 53 % 2 = 1 := by omega
    rcases this with e | e <;> rw [e]
    · exact ⟨.i (1 + (kk : Int)), int_ok (by omega) (by omega), atI0 _ _⟩
    · exact ⟨.s zo, oko, atI1 _ _ _⟩
  rw [fnS]
  show ∃ r, _ ∧ outT (b11.ev (tab.pg k) [.fz (.int c), .fz (.lst (L.map .str)), .fz (.int (l : Nat)), .fz (.int (kk : Nat)), .no, .no, .no, .no, .no]) = _
  have q0 : b11.ev (tab.pg k) [.fz (.int c), .fz (.lst (L.map .str)), .fz (.int (l : Nat)), .fz (.int (kk : Nat)), .no, .no, .no, .no, .no] = (match b11 with | .cons _ (.cons _ (.cons _ (.cons _ (.cons _ r)))) => r | _ => .nil).ev (tab.pg k) [.fz (.int c), .fz (.lst (L.map .str)), .fz (.int (l : Nat)), .fz (.int (kk : Nat)), .fz (.str zs), .fz (.str zb), .fz (.str zo), .fz v.t, .fz (.int (c % 11))] := by
    unfold b11
    rw [ev_step (env' := [.fz (.int c), .fz (.lst (L.map .str)), .fz (.int (l : Nat)), .fz (.int (kk : Nat)), .fz (.str zs), .no, .no, .no, .no]) (by
        simp only [Ss.ev, S.ev.eq_1, S.ev.eq_2, S.ev.eq_3, S.ev.eq_4, S.ev.eq_5, S.ev.eq_6, S.ev.eq_7, S.ev.eq_10, S.ev.eq_11, S.ev.eq_12, S.ev.eq_13, S.ev.eq_14, S.ev.eq_15, S.ev.eq_16, S.ev.eq_17, S.ev.eq_18, S.ev.eq_19, S.ev.eq_20, E.ev.eq_1, E.ev.eq_2, E.ev.eq_3, E.ev.eq_4, E.ev.eq_5, E.ev.eq_6, E.ev.eq_7, E.ev.eq_8, E.ev.eq_9, E.ev.eq_10, E.ev.eq_11, E.ev.eq_12, E.ev.eq_13, E.ev.eq_14, E.ev.eq_15, E.ev.eq_16, E.ev.eq_17, E.ev.eq_18, E.ev.eq_19, E.ev.eq_20, E.ev.eq_21, E.ev.eq_22, E.ev.eq_23, E.ev.eq_24, E.ev.eq_25, E.ev.eq_26, E.ev.eq_28, E.ev.eq_29, Es.ev, It.ev, Op.ev, Op.tst, slV, slP, ownS, ixT, T.tru, outT, Option.bind_some, Option.map_some, List.getElem?_cons_zero, List.getElem?_cons_succ, List.set_cons_zero, List.set_cons_succ, bAdd, bSub, bMod, bDiv, cLt, cLe, cGt, cGe, cEq, Int.reduceLT, true_and, and_true, and_self, if_true, Bool.false_eq_true, if_false, cond_true, cond_false, ite_true, ite_false, reduceIte, Int.reduceLT, es]),
      ev_step (env' := [.fz (.int c), .fz (.lst (L.map .str)), .fz (.int (l : Nat)), .fz (.int (kk : Nat)), .fz (.str zs), .fz (.str zb), .no, .no, .no]) (by
        simp only [Ss.ev, S.ev.eq_1, S.ev.eq_2, S.ev.eq_3, S.ev.eq_4, S.ev.eq_5, S.ev.eq_6, S.ev.eq_7, S.ev.eq_10, S.ev.eq_11, S.ev.eq_12, S.ev.eq_13, S.ev.eq_14, S.ev.eq_15, S.ev.eq_16, S.ev.eq_17, S.ev.eq_18, S.ev.eq_19, S.ev.eq_20, E.ev.eq_1, E.ev.eq_2, E.ev.eq_3, E.ev.eq_4, E.ev.eq_5, E.ev.eq_6, E.ev.eq_7, E.ev.eq_8, E.ev.eq_9, E.ev.eq_10, E.ev.eq_11, E.ev.eq_12, E.ev.eq_13, E.ev.eq_14, E.ev.eq_15, E.ev.eq_16, E.ev.eq_17, E.ev.eq_18, E.ev.eq_19, E.ev.eq_20, E.ev.eq_21, E.ev.eq_22, E.ev.eq_23, E.ev.eq_24, E.ev.eq_25, E.ev.eq_26, E.ev.eq_28, E.ev.eq_29, Es.ev, It.ev, Op.ev, Op.tst, slV, slP, ownS, ixT, T.tru, outT, Option.bind_some, Option.map_some, List.getElem?_cons_zero, List.getElem?_cons_succ, List.set_cons_zero, List.set_cons_succ, bAdd, bSub, bMod, bDiv, cLt, cLe, cGt, cGe, cEq, Int.reduceLT, true_and, and_true, and_self, if_true, Bool.false_eq_true, if_false, cond_true, cond_false, ite_true, ite_false, reduceIte, eb]),
      ev_step (env' := [.fz (.int c), .fz (.lst (L.map .str)), .fz (.int (l : Nat)), .fz (.int (kk : Nat)), .fz (.str zs), .fz (.str zb), .fz (.str zo), .no, .no]) (by
        simp only [Ss.ev, S.ev.eq_1, S.ev.eq_2, S.ev.eq_3, S.ev.eq_4, S.ev.eq_5, S.ev.eq_6, S.ev.eq_7, S.ev.eq_10, S.ev.eq_11, S.ev.eq_12, S.ev.eq_13, S.ev.eq_14, S.ev.eq_15, S.ev.eq_16, S.ev.eq_17, S.ev.eq_18, S.ev.eq_19, S.ev.eq_20, E.ev.eq_1, E.ev.eq_2, E.ev.eq_3, E.ev.eq_4, E.ev.eq_5, E.ev.eq_6, E.ev.eq_7, E.ev.eq_8, E.ev.eq_9, E.ev.eq_10, E.ev.eq_11, E.ev.eq_12, E.ev.eq_13, E.ev.eq_14, E.ev.eq_15, E.ev.eq_16, E.ev.eq_17, E.ev.eq_18, E.ev.eq_19, E.ev.eq_20, E.ev.eq_21, E.ev.eq_22, E.ev.eq_23, E.ev.eq_24, E.ev.eq_25, E.ev.eq_26, E.ev.eq_28, E.ev.eq_29, Es.ev, It.ev, Op.ev, Op.tst, slV, slP, ownS, ixT, T.tru, outT, Option.bind_some, Option.map_some, List.getElem?_cons_zero, List.getElem?_cons_succ, List.set_cons_zero, List.set_cons_succ, bAdd, bSub, bMod, bDiv, cLt, cLe, cGt, cGe, cEq, Int.reduceLT, true_and, and_true, and_self, if_true, Bool.false_eq_true, if_false, cond_true, cond_false, ite_true, ite_false, reduceIte, eo]),
      ev_step (env' := [.fz (.int c), .fz (.lst (L.map .str)), .fz (.int (l : Nat)), .fz (.int (kk : Nat)), .fz (.str zs), .fz (.str zb), .fz (.str zo), .fz v.t, .no]) (by
        simp only [Ss.ev, S.ev.eq_1, S.ev.eq_2, S.ev.eq_3, S.ev.eq_4, S.ev.eq_5, S.ev.eq_6, S.ev.eq_7, S.ev.eq_10, S.ev.eq_11, S.ev.eq_12, S.ev.eq_13, S.ev.eq_14, S.ev.eq_15, S.ev.eq_16, S.ev.eq_17, S.ev.eq_18, S.ev.eq_19, S.ev.eq_20, E.ev.eq_1, E.ev.eq_2, E.ev.eq_3, E.ev.eq_4, E.ev.eq_5, E.ev.eq_6, E.ev.eq_7, E.ev.eq_8, E.ev.eq_9, E.ev.eq_10, E.ev.eq_11, E.ev.eq_12, E.ev.eq_13, E.ev.eq_14, E.ev.eq_15, E.ev.eq_16, E.ev.eq_17, E.ev.eq_18, E.ev.eq_19, E.ev.eq_20, E.ev.eq_21, E.ev.eq_22, E.ev.eq_23, E.ev.eq_24, E.ev.eq_25, E.ev.eq_26, E.ev.eq_28, E.ev.eq_29, Es.ev, It.ev, Op.ev, Op.tst, slV, slP, ownS, ixT, T.tru, outT, Option.bind_some, Option.map_some, List.getElem?_cons_zero, List.getElem?_cons_succ, List.set_cons_zero, List.set_cons_succ, bAdd, bSub, bMod, bDiv, cLt, cLe, cGt, cGe, cEq, Int.reduceLT, true_and, and_true, and_self, if_true, Bool.false_eq_true, if_false, cond_true, cond_false, ite_true, ite_false, reduceIte, ev]),
      ev_step (env' := [.fz (.int c), .fz (.lst (L.map .str)), .fz (.int (l : Nat)), .fz (.int (kk : Nat)), .fz (.str zs), .fz (.str zb), .fz (.str zo), .fz v.t, .fz (.int (c % 11))]) (by
        simp only [Ss.ev, S.ev.eq_1, S.ev.eq_2, S.ev.eq_3, S.ev.eq_4, S.ev.eq_5, S.ev.eq_6, S.ev.eq_7, S.ev.eq_10, S.ev.eq_11, S.ev.eq_12, S.ev.eq_13, S.ev.eq_14, S.ev.eq_15, S.ev.eq_16, S.ev.eq_17, S.ev.eq_18, S.ev.eq_19, S.ev.eq_20, E.ev.eq_1, E.ev.eq_2, E.ev.eq_3, E.ev.eq_4, E.ev.eq_5, E.ev.eq_6, E.ev.eq_7, E.ev.eq_8, E.ev.eq_9, E.ev.eq_10, E.ev.eq_11, E.ev.eq_12, E.ev.eq_13, E.ev.eq_14, E.ev.eq_15, E.ev.eq_16, E.ev.eq_17, E.ev.eq_18, E.ev.eq_19, E.ev.eq_20, E.ev.eq_21, E.ev.eq_22, E.ev.eq_23, E.ev.eq_24, E.ev.eq_25, E.ev.eq_26, E.ev.eq_28, E.ev.eq_29, Es.ev, It.ev, Op.ev, Op.tst, slV, slP, ownS, ixT, T.tru, outT, Option.bind_some, Option.map_some, List.getElem?_cons_zero, List.getElem?_cons_succ, List.set_cons_zero, List.set_cons_succ, bAdd, bSub, bMod, bDiv, cLt, cLe, cGt, cGe, cEq, Int.reduceLT, true_and, and_true, and_self, if_true, Bool.false_eq_true, if_false, cond_true, cond_false, ite_true, ite_false, reduceIte])]
  rw [q0]
  unfold b11
  dsimp only
  have hm : Bi.ap .min2 [.int (l : Nat), .int 9] = some (.int (min l 9 : Nat)) := by
    simp only [Bi.ap]
    congr 2
    split <;> omega
  by_cases h4 : c % 11 < 4
  · exact ⟨.put zs v, ⟨oks, okv⟩, by simp only [Ss.ev, S.ev.eq_1, S.ev.eq_2, S.ev.eq_3, S.ev.eq_4, S.ev.eq_5, S.ev.eq_6, S.ev.eq_7, S.ev.eq_10, S.ev.eq_11, S.ev.eq_12, S.ev.eq_13, S.ev.eq_14, S.ev.eq_15, S.ev.eq_16, S.ev.eq_17, S.ev.eq_18, S.ev.eq_19, S.ev.eq_20, E.ev.eq_1, E.ev.eq_2, E.ev.eq_3, E.ev.eq_4, E.ev.eq_5, E.ev.eq_6, E.ev.eq_7, E.ev.eq_8, E.ev.eq_9, E.ev.eq_10, E.ev.eq_11, E.ev.eq_12, E.ev.eq_13, E.ev.eq_14, E.ev.eq_15, E.ev.eq_16, E.ev.eq_17, E.ev.eq_18, E.ev.eq_19, E.ev.eq_20, E.ev.eq_21, E.ev.eq_22, E.ev.eq_23, E.ev.eq_24, E.ev.eq_25, E.ev.eq_26, E.ev.eq_28, E.ev.eq_29, Es.ev, It.ev, Op.ev, Op.tst, slV, slP, ownS, ixT, T.tru, outT, Option.bind_some, Option.map_some, List.getElem?_cons_zero, List.getElem?_cons_succ, List.set_cons_zero, List.set_cons_succ, bAdd, bSub, bMod, bDiv, cLt, cLe, cGt, cGe, cEq, Int.reduceLT, true_and, and_true, and_self, if_true, Bool.false_eq_true, if_false, cond_true, cond_false, ite_true, ite_false, reduceIte, h4, decide_true, Rw.t]⟩
  by_cases h7 : c % 11 < 7
  · exact ⟨.get zb zs, ⟨okb, oks⟩, by simp only [Ss.ev, S.ev.eq_1, S.ev.eq_2, S.ev.eq_3, S.ev.eq_4, S.ev.eq_5, S.ev.eq_6, S.ev.eq_7, S.ev.eq_10, S.ev.eq_11, S.ev.eq_12, S.ev.eq_13, S.ev.eq_14, S.ev.eq_15, S.ev.eq_16, S.ev.eq_17, S.ev.eq_18, S.ev.eq_19, S.ev.eq_20, E.ev.eq_1, E.ev.eq_2, E.ev.eq_3, E.ev.eq_4, E.ev.eq_5, E.ev.eq_6, E.ev.eq_7, E.ev.eq_8, E.ev.eq_9, E.ev.eq_10, E.ev.eq_11, E.ev.eq_12, E.ev.eq_13, E.ev.eq_14, E.ev.eq_15, E.ev.eq_16, E.ev.eq_17, E.ev.eq_18, E.ev.eq_19, E.ev.eq_20, E.ev.eq_21, E.ev.eq_22, E.ev.eq_23, E.ev.eq_24, E.ev.eq_25, E.ev.eq_26, E.ev.eq_28, E.ev.eq_29, Es.ev, It.ev, Op.ev, Op.tst, slV, slP, ownS, ixT, T.tru, outT, Option.bind_some, Option.map_some, List.getElem?_cons_zero, List.getElem?_cons_succ, List.set_cons_zero, List.set_cons_succ, bAdd, bSub, bMod, bDiv, cLt, cLe, cGt, cGe, cEq, Int.reduceLT, true_and, and_true, and_self, if_true, Bool.false_eq_true, if_false, cond_true, cond_false, ite_true, ite_false, reduceIte, h4, h7, decide_true, decide_false, Rw.t]⟩
  by_cases h8 : c % 11 = 7
  · exact ⟨.swap zb zs w, ⟨okb, oks, okw⟩, by simp only [Ss.ev, S.ev.eq_1, S.ev.eq_2, S.ev.eq_3, S.ev.eq_4, S.ev.eq_5, S.ev.eq_6, S.ev.eq_7, S.ev.eq_10, S.ev.eq_11, S.ev.eq_12, S.ev.eq_13, S.ev.eq_14, S.ev.eq_15, S.ev.eq_16, S.ev.eq_17, S.ev.eq_18, S.ev.eq_19, S.ev.eq_20, E.ev.eq_1, E.ev.eq_2, E.ev.eq_3, E.ev.eq_4, E.ev.eq_5, E.ev.eq_6, E.ev.eq_7, E.ev.eq_8, E.ev.eq_9, E.ev.eq_10, E.ev.eq_11, E.ev.eq_12, E.ev.eq_13, E.ev.eq_14, E.ev.eq_15, E.ev.eq_16, E.ev.eq_17, E.ev.eq_18, E.ev.eq_19, E.ev.eq_20, E.ev.eq_21, E.ev.eq_22, E.ev.eq_23, E.ev.eq_24, E.ev.eq_25, E.ev.eq_26, E.ev.eq_28, E.ev.eq_29, Es.ev, It.ev, Op.ev, Op.tst, slV, slP, ownS, ixT, T.tru, outT, Option.bind_some, Option.map_some, List.getElem?_cons_zero, List.getElem?_cons_succ, List.set_cons_zero, List.set_cons_succ, bAdd, bSub, bMod, bDiv, cLt, cLe, cGt, cGe, cEq, Int.reduceLT, true_and, and_true, and_self, if_true, Bool.false_eq_true, if_false, cond_true, cond_false, ite_true, ite_false, reduceIte, h8, decide_true, Int.reduceLT, decide_false, Rw.t, ew]⟩
  by_cases h9' : c % 11 = 8
  · exact ⟨.add zb (.s zo) v, ⟨okb, oko, okv⟩, by simp only [Ss.ev, S.ev.eq_1, S.ev.eq_2, S.ev.eq_3, S.ev.eq_4, S.ev.eq_5, S.ev.eq_6, S.ev.eq_7, S.ev.eq_10, S.ev.eq_11, S.ev.eq_12, S.ev.eq_13, S.ev.eq_14, S.ev.eq_15, S.ev.eq_16, S.ev.eq_17, S.ev.eq_18, S.ev.eq_19, S.ev.eq_20, E.ev.eq_1, E.ev.eq_2, E.ev.eq_3, E.ev.eq_4, E.ev.eq_5, E.ev.eq_6, E.ev.eq_7, E.ev.eq_8, E.ev.eq_9, E.ev.eq_10, E.ev.eq_11, E.ev.eq_12, E.ev.eq_13, E.ev.eq_14, E.ev.eq_15, E.ev.eq_16, E.ev.eq_17, E.ev.eq_18, E.ev.eq_19, E.ev.eq_20, E.ev.eq_21, E.ev.eq_22, E.ev.eq_23, E.ev.eq_24, E.ev.eq_25, E.ev.eq_26, E.ev.eq_28, E.ev.eq_29, Es.ev, It.ev, Op.ev, Op.tst, slV, slP, ownS, ixT, T.tru, outT, Option.bind_some, Option.map_some, List.getElem?_cons_zero, List.getElem?_cons_succ, List.set_cons_zero, List.set_cons_succ, bAdd, bSub, bMod, bDiv, cLt, cLe, cGt, cGe, cEq, Int.reduceLT, true_and, and_true, and_self, if_true, Bool.false_eq_true, if_false, cond_true, cond_false, ite_true, ite_false, reduceIte, h9', decide_true, Int.reduceLT, Int.reduceEq, decide_false, Rw.t, ew, Vl.t]⟩
  by_cases h10 : c % 11 = 9
  · by_cases hl : (l : Int) = 0
    · exact ⟨.add zb (.s zo) v, ⟨okb, oko, okv⟩, by simp only [Ss.ev, S.ev.eq_1, S.ev.eq_2, S.ev.eq_3, S.ev.eq_4, S.ev.eq_5, S.ev.eq_6, S.ev.eq_7, S.ev.eq_10, S.ev.eq_11, S.ev.eq_12, S.ev.eq_13, S.ev.eq_14, S.ev.eq_15, S.ev.eq_16, S.ev.eq_17, S.ev.eq_18, S.ev.eq_19, S.ev.eq_20, E.ev.eq_1, E.ev.eq_2, E.ev.eq_3, E.ev.eq_4, E.ev.eq_5, E.ev.eq_6, E.ev.eq_7, E.ev.eq_8, E.ev.eq_9, E.ev.eq_10, E.ev.eq_11, E.ev.eq_12, E.ev.eq_13, E.ev.eq_14, E.ev.eq_15, E.ev.eq_16, E.ev.eq_17, E.ev.eq_18, E.ev.eq_19, E.ev.eq_20, E.ev.eq_21, E.ev.eq_22, E.ev.eq_23, E.ev.eq_24, E.ev.eq_25, E.ev.eq_26, E.ev.eq_28, E.ev.eq_29, Es.ev, It.ev, Op.ev, Op.tst, slV, slP, ownS, ixT, T.tru, outT, Option.bind_some, Option.map_some, List.getElem?_cons_zero, List.getElem?_cons_succ, List.set_cons_zero, List.set_cons_succ, bAdd, bSub, bMod, bDiv, cLt, cLe, cGt, cGe, cEq, Int.reduceLT, true_and, and_true, and_self, if_true, Bool.false_eq_true, if_false, cond_true, cond_false, ite_true, ite_false, reduceIte, h10, hl, decide_true, Int.reduceLT, Int.reduceEq, decide_false, Rw.t, ew, Vl.t]⟩
    · have hp : (0 : Int) < 1 + ((min l 9 : Nat) : Int) := by omega
      have hn0 : 0 ≤ c / 528 % (1 + ((min l 9 : Nat) : Int)) := Int.emod_nonneg _ (by omega)
      have hn1 : c / 528 % (1 + ((min l 9 : Nat) : Int)) < 1 + ((min l 9 : Nat) : Int) := Int.emod_lt_of_pos _ hp
      refine ⟨.skip zb (c / 528 % (1 + ((min l 9 : Nat) : Int))).toNat, ⟨okb, int_ok (by omega) (by omega)⟩, ?_⟩
      have e : (((c / 528 % (1 + ((min l 9 : Nat) : Int))).toNat : Nat) : Int) = c / 528 % (1 + ((min l 9 : Nat) : Int)) := by omega
      simp only [Rw.t, e]
      simp only [Ss.ev, S.ev.eq_1, S.ev.eq_2, S.ev.eq_3, S.ev.eq_4, S.ev.eq_5, S.ev.eq_6, S.ev.eq_7, S.ev.eq_10, S.ev.eq_11, S.ev.eq_12, S.ev.eq_13, S.ev.eq_14, S.ev.eq_15, S.ev.eq_16, S.ev.eq_17, S.ev.eq_18, S.ev.eq_19, S.ev.eq_20, E.ev.eq_1, E.ev.eq_2, E.ev.eq_3, E.ev.eq_4, E.ev.eq_5, E.ev.eq_6, E.ev.eq_7, E.ev.eq_8, E.ev.eq_9, E.ev.eq_10, E.ev.eq_11, E.ev.eq_12, E.ev.eq_13, E.ev.eq_14, E.ev.eq_15, E.ev.eq_16, E.ev.eq_17, E.ev.eq_18, E.ev.eq_19, E.ev.eq_20, E.ev.eq_21, E.ev.eq_22, E.ev.eq_23, E.ev.eq_24, E.ev.eq_25, E.ev.eq_26, E.ev.eq_28, E.ev.eq_29, Es.ev, It.ev, Op.ev, Op.tst, slV, slP, ownS, ixT, T.tru, outT, Option.bind_some, Option.map_some, List.getElem?_cons_zero, List.getElem?_cons_succ, List.set_cons_zero, List.set_cons_succ, bAdd, bSub, bMod, bDiv, cLt, cLe, cGt, cGe, cEq, Int.reduceLT, true_and, and_true, and_self, if_true, Bool.false_eq_true, if_false, cond_true, cond_false, ite_true, ite_false, reduceIte, h10, hl, decide_true, Int.reduceLT, Int.reduceEq, decide_false, hm, hp]
  · by_cases hl : (l : Int) = 0 <;> exact ⟨.fence, trivial, by simp only [Ss.ev, S.ev.eq_1, S.ev.eq_2, S.ev.eq_3, S.ev.eq_4, S.ev.eq_5, S.ev.eq_6, S.ev.eq_7, S.ev.eq_10, S.ev.eq_11, S.ev.eq_12, S.ev.eq_13, S.ev.eq_14, S.ev.eq_15, S.ev.eq_16, S.ev.eq_17, S.ev.eq_18, S.ev.eq_19, S.ev.eq_20, E.ev.eq_1, E.ev.eq_2, E.ev.eq_3, E.ev.eq_4, E.ev.eq_5, E.ev.eq_6, E.ev.eq_7, E.ev.eq_8, E.ev.eq_9, E.ev.eq_10, E.ev.eq_11, E.ev.eq_12, E.ev.eq_13, E.ev.eq_14, E.ev.eq_15, E.ev.eq_16, E.ev.eq_17, E.ev.eq_18, E.ev.eq_19, E.ev.eq_20, E.ev.eq_21, E.ev.eq_22, E.ev.eq_23, E.ev.eq_24, E.ev.eq_25, E.ev.eq_26, E.ev.eq_28, E.ev.eq_29, Es.ev, It.ev, Op.ev, Op.tst, slV, slP, ownS, ixT, T.tru, outT, Option.bind_some, Option.map_some, List.getElem?_cons_zero, List.getElem?_cons_succ, List.set_cons_zero, List.set_cons_succ, bAdd, bSub, bMod, bDiv, cLt, cLe, cGt, cGe, cEq, Int.reduceLT, true_and, and_true, and_self, if_true, Bool.false_eq_true, if_false, cond_true, cond_false, ite_true, ite_false, reduceIte, h4, h7, h8, h9', h10, hl, decide_true, decide_false, Rw.t]⟩
end
end Tx

set_option Elab.async false
set_option linter.all false
set_option autoImplicit false
set_option maxRecDepth 100000
set_option maxHeartbeats 4000000
namespace Tx
open PySem Fe
/-- a loop over range(n) -/
theorem ev_rngFor {P : Pg} {env : En} {v : Nat} {it : It} {b : Ss} {n : Nat} (I : Nat → En → Prop) (hi : it.ev P env = some ((List.range n).map fun i => .int ((0 : Int) + (i : Nat)))) (h0 : I 0 env)
    (hs : ∀ i env, i < n → I i env → ∃ env3, (b.ev P (env.set v (.fz (.int (i : Nat)))) = some (.nx env3) ∨ b.ev P (env.set v (.fz (.int (i : Nat)))) = some (.ct env3)) ∧ I (i + 1) env3) :
    ∃ env', (S.forr (.n v) it b).ev P env = some (.nx env') ∧ I n env' := by
  have := ev_for (tg := .n v) (b := b) I hi h0 (by
    intro i t env ht hI
    rw [List.getElem?_map] at ht
    obtain ⟨i', hi', rfl⟩ := mpd ht
    have hlt : i < n := by
      have := (List.getElem?_eq_some_iff.mp hi').1
      rwa [List.length_range] at this
    have : i' = i := by
      rw [List.getElem?_range hlt] at hi'
      exact (Option.some.inj hi').symm
    subst this
    obtain ⟨e3, h1, h2⟩ := hs _ env hlt hI
    have e0 : T.int ((0 : Int) + (i' : Nat)) = .int (i' : Nat) := by simp
    rw [e0]
    exact ⟨_, e3, rfl, h1, h2⟩)
  rwa [List.length_map, List.length_range] at this
theorem rows_deps (l : List Rw) (n : Nat) : deps (l.map Rw.t) (n + 1) = true := deps_all fun t ht => by
  obtain ⟨r, _, rfl⟩ := List.mem_map.mp ht
  exact dep_row r n
section
variable {k : Nat}
def I12 (ns : List Int) (t : Nat) (N : T) (most : Int) (many : Nat) (few : Int) (i : Nat) (env : En) : Prop := ∃ e7 e8 e9 e10, ∃ L : List Rw, L.length = i ∧ (∀ r ∈ L, RwOk r) ∧ env = [.fz (.scr ns), .fz (.int (t : Nat)), .fz N, .fz (.int most), .fz (.int (many : Nat)), .ow (.lst (L.map Rw.t)), .fz (.int few), e7, e8, e9, e10]
theorem thread_ok (ns : List Int) (t : Nat) (ht : t ≤ 10) {L : List Str} (h9 : L.length = 9) (hL : ∀ z ∈ L, NmOk z) (most : Int) (many : Nat) (hm : many ≤ 20) :
    ∃ R : List Rw, R.length = many ∧ (∀ r ∈ R, RwOk r) ∧ (tab.pg (k + 2)).fn 12 [.scr ns, .int (t : Nat), .lst (L.map .str), .int most, .int (many : Nat)] = some (.lst (R.map Rw.t)) := by
  obtain ⟨z3, ok3, e3⟩ := nm_at h9 hL 3 (by omega) (by omega)
  obtain ⟨z0, ok0, e0⟩ := nm_at h9 hL 0 (by omega) (by omega)
  obtain ⟨few, hf⟩ : ∃ few : Int, L2.atI [T.int 2, .int 5] (if decide (3 < most) = true then 1 else 0) = some (.int few) := by
    cases decide (3 < most)
    · exact ⟨2, atI0 _ _⟩
    · exact ⟨5, atI1 _ _ _⟩
  have hLIM : LIM = 16777216 := rfl
  rw [fnS]
  show ∃ R : List Rw, _ ∧ _ ∧ outT (b12.ev (tab.pg (k + 1)) [.fz (.scr ns), .fz (.int (t : Nat)), .fz (.lst (L.map .str)), .fz (.int most), .fz (.int (many : Nat)), .no, .no, .no, .no, .no, .no]) = _
  unfold b12
  rw [ev_step (env' := [.fz (.scr ns), .fz (.int (t : Nat)), .fz (.lst (L.map .str)), .fz (.int most), .fz (.int (many : Nat)), .ow (.lst []), .no, .no, .no, .no, .no]) rfl,
    ev_step (env' := [.fz (.scr ns), .fz (.int (t : Nat)), .fz (.lst (L.map .str)), .fz (.int most), .fz (.int (many : Nat)), .ow (.lst []), .fz (.int few), .no, .no, .no, .no]) (by
      simp only [Ss.ev, S.ev.eq_1, S.ev.eq_2, S.ev.eq_3, S.ev.eq_4, S.ev.eq_5, S.ev.eq_6, S.ev.eq_7, S.ev.eq_10, S.ev.eq_11, S.ev.eq_12, S.ev.eq_13, S.ev.eq_14, S.ev.eq_15, S.ev.eq_16, S.ev.eq_17, S.ev.eq_18, S.ev.eq_19, S.ev.eq_20, E.ev.eq_1, E.ev.eq_2, E.ev.eq_3, E.ev.eq_4, E.ev.eq_5, E.ev.eq_6, E.ev.eq_7, E.ev.eq_8, E.ev.eq_9, E.ev.eq_10, E.ev.eq_11, E.ev.eq_12, E.ev.eq_13, E.ev.eq_14, E.ev.eq_15, E.ev.eq_16, E.ev.eq_17, E.ev.eq_18, E.ev.eq_19, E.ev.eq_20, E.ev.eq_21, E.ev.eq_22, E.ev.eq_23, E.ev.eq_24, E.ev.eq_25, E.ev.eq_26, E.ev.eq_28, E.ev.eq_29, Es.ev, It.ev, Op.ev, Op.tst, slV, slP, ownS, ixT, T.tru, outT, Option.bind_some, Option.map_some, List.getElem?_cons_zero, List.getElem?_cons_succ, List.set_cons_zero, List.set_cons_succ, bAdd, bSub, bMod, bDiv, cLt, cLe, cGt, cGe, cEq, Int.reduceLT, true_and, and_true, and_self, if_true, Bool.false_eq_true, if_false, cond_true, cond_false, ite_true, ite_false, reduceIte, Bi.ap, hf])]
  obtain ⟨env', h4, e7, e8, e9, e10, R, h1, h2, rfl⟩ := ev_rngFor (P := tab.pg (k + 1)) (env := [.fz (.scr ns), .fz (.int (t : Nat)), .fz (.lst (L.map .str)), .fz (.int most), .fz (.int (many : Nat)), .ow (.lst []), .fz (.int few), .no, .no, .no, .no]) (v := 7) (it := .rng (.v 4)) (b := l12_0) (n := many)
    (I12 ns t (.lst (L.map .str)) most many few) (by
      have := rng_nat many (by omega)
      simp only [Ss.ev, S.ev.eq_1, S.ev.eq_2, S.ev.eq_3, S.ev.eq_4, S.ev.eq_5, S.ev.eq_6, S.ev.eq_7, S.ev.eq_10, S.ev.eq_11, S.ev.eq_12, S.ev.eq_13, S.ev.eq_14, S.ev.eq_15, S.ev.eq_16, S.ev.eq_17, S.ev.eq_18, S.ev.eq_19, S.ev.eq_20, E.ev.eq_1, E.ev.eq_2, E.ev.eq_3, E.ev.eq_4, E.ev.eq_5, E.ev.eq_6, E.ev.eq_7, E.ev.eq_8, E.ev.eq_9, E.ev.eq_10, E.ev.eq_11, E.ev.eq_12, E.ev.eq_13, E.ev.eq_14, E.ev.eq_15, E.ev.eq_16, E.ev.eq_17, E.ev.eq_18, E.ev.eq_19, E.ev.eq_20, E.ev.eq_21, E.ev.eq_22, E.ev.eq_23, E.ev.eq_24, E.ev.eq_25, E.ev.eq_26, E.ev.eq_28, E.ev.eq_29, Es.ev, It.ev, Op.ev, Op.tst, slV, slP, ownS, ixT, T.tru, outT, Option.bind_some, Option.map_some, List.getElem?_cons_zero, List.getElem?_cons_succ, List.set_cons_zero, List.set_cons_succ, bAdd, bSub, bMod, bDiv, cLt, cLe, cGt, cGe, cEq, Int.reduceLT, true_and, and_true, and_self, if_true, Bool.false_eq_true, if_false, cond_true, cond_false, ite_true, ite_false, reduceIte, this]) ⟨_, _, _, _, [], rfl, (fun _ h => nomatch h), rfl⟩ (by
    rintro i env hi ⟨e7, e8, e9, e10, R, h1, h2, rfl⟩
    have c1 := cell_at k ns (5 + 8 * t + i)
    rw [show ((5 + 8 * t + i : Nat) : Int) = 5 + 8 * (t : Int) + (i : Int) by omega] at c1
    have c2 := mixed_ok k (cellAt ns (5 + 8 * t + i)) (10 * (t : Int) + (i : Int)) (by omega)
    have c3 := mixed_lo (cellAt ns (5 + 8 * t + i)) (10 * (t : Int) + (i : Int))
    generalize mixed (cellAt ns (5 + 8 * t + i)) (10 * (t : Int) + (i : Int)) = c at c2 c3
    obtain ⟨r, okr, er⟩ := row_ok (k := k) c ⟨c3.1, by omega⟩ h9 hL (many - 1 - i) (10 * t + i) (by omega)
    rw [show ((many - 1 - i : Nat) : Int) = (many : Int) - 1 - (i : Int) by omega, show ((10 * t + i : Nat) : Int) = 10 * (t : Int) + (i : Int) by omega] at er
    have b8 : BOp.ap .mul (.int 8) (.int (t : Nat)) = some (.int (8 * (t : Int))) := by
      have : inMul 8 (t : Int) = true := inMulL (by decide)
      simp only [BOp.ap, this, if_true]
    have b10 : BOp.ap .mul (.int 10) (.int (t : Nat)) = some (.int (10 * (t : Int))) := by
      have : inMul 10 (t : Int) = true := inMulL (by decide)
      simp only [BOp.ap, this, if_true]
    obtain ⟨fc, hc⟩ : ∃ fc : Int, Bm.ap .count (.lst (R.map Rw.t)) [fenT] = some (.int fc) := by
      have hd : deps (R.map Rw.t) DM = true := rows_deps R 59
      have hx : fenT.dep DM = true := rfl
      simp only [Bm.ap, hd, hx, Bool.and_self, if_true]
      exact ⟨_, rfl⟩
    have hln : R.length < LIM := by omega
    -- the row, as it comes to stand
    obtain ⟨r2, ok2, s4⟩ : ∃ r2, RwOk r2 ∧ (S.iff (.and (.cmp .eq (.v 10) (.v 6)) (.cmp .eq (.v 9) (.tup (.cons (.k (.str "fence")) .nil)))) (.cons (.set 9 false (.tup (.cons (.k (.str "get")) (.cons (.ix (.v 2) (.k (.int 3))) (.cons (.ix (.v 2) (.k (.int 0))) .nil))))) .nil) .nil).ev (tab.pg (k + 1))
        [.fz (.scr ns), .fz (.int (t : Nat)), .fz (.lst (L.map .str)), .fz (.int most), .fz (.int (many : Nat)), .ow (.lst (R.map Rw.t)), .fz (.int few), .fz (.int (i : Nat)), .fz (.int c), .fz r.t, .fz (.int fc)] =
        some (.nx [.fz (.scr ns), .fz (.int (t : Nat)), .fz (.lst (L.map .str)), .fz (.int most), .fz (.int (many : Nat)), .ow (.lst (R.map Rw.t)), .fz (.int few), .fz (.int (i : Nat)), .fz (.int c), .fz r2.t, .fz (.int fc)]) := by
      have hq := eqF r
      by_cases h5 : fc = few
      · cases hF : r.isF with
        | true => exact ⟨.get z3 z0, ⟨ok3, ok0⟩, by simp only [Ss.ev, S.ev.eq_1, S.ev.eq_2, S.ev.eq_3, S.ev.eq_4, S.ev.eq_5, S.ev.eq_6, S.ev.eq_7, S.ev.eq_10, S.ev.eq_11, S.ev.eq_12, S.ev.eq_13, S.ev.eq_14, S.ev.eq_15, S.ev.eq_16, S.ev.eq_17, S.ev.eq_18, S.ev.eq_19, S.ev.eq_20, E.ev.eq_1, E.ev.eq_2, E.ev.eq_3, E.ev.eq_4, E.ev.eq_5, E.ev.eq_6, E.ev.eq_7, E.ev.eq_8, E.ev.eq_9, E.ev.eq_10, E.ev.eq_11, E.ev.eq_12, E.ev.eq_13, E.ev.eq_14, E.ev.eq_15, E.ev.eq_16, E.ev.eq_17, E.ev.eq_18, E.ev.eq_19, E.ev.eq_20, E.ev.eq_21, E.ev.eq_22, E.ev.eq_23, E.ev.eq_24, E.ev.eq_25, E.ev.eq_26, E.ev.eq_28, E.ev.eq_29, Es.ev, It.ev, Op.ev, Op.tst, slV, slP, ownS, ixT, T.tru, outT, Option.bind_some, Option.map_some, List.getElem?_cons_zero, List.getElem?_cons_succ, List.set_cons_zero, List.set_cons_succ, bAdd, bSub, bMod, bDiv, cLt, cLe, cGt, cGe, cEq, Int.reduceLT, true_and, and_true, and_self, if_true, Bool.false_eq_true, if_false, cond_true, cond_false, ite_true, ite_false, reduceIte, h5, hq, hF, decide_true, e3, e0, show (Rw.get z3 z0).t = .tup [.str "get", .str z3, .str z0] from rfl]⟩
        | false => exact ⟨r, okr, by simp only [Ss.ev, S.ev.eq_1, S.ev.eq_2, S.ev.eq_3, S.ev.eq_4, S.ev.eq_5, S.ev.eq_6, S.ev.eq_7, S.ev.eq_10, S.ev.eq_11, S.ev.eq_12, S.ev.eq_13, S.ev.eq_14, S.ev.eq_15, S.ev.eq_16, S.ev.eq_17, S.ev.eq_18, S.ev.eq_19, S.ev.eq_20, E.ev.eq_1, E.ev.eq_2, E.ev.eq_3, E.ev.eq_4, E.ev.eq_5, E.ev.eq_6, E.ev.eq_7, E.ev.eq_8, E.ev.eq_9, E.ev.eq_10, E.ev.eq_11, E.ev.eq_12, E.ev.eq_13, E.ev.eq_14, E.ev.eq_15, E.ev.eq_16, E.ev.eq_17, E.ev.eq_18, E.ev.eq_19, E.ev.eq_20, E.ev.eq_21, E.ev.eq_22, E.ev.eq_23, E.ev.eq_24, E.ev.eq_25, E.ev.eq_26, E.ev.eq_28, E.ev.eq_29, Es.ev, It.ev, Op.ev, Op.tst, slV, slP, ownS, ixT, T.tru, outT, Option.bind_some, Option.map_some, List.getElem?_cons_zero, List.getElem?_cons_succ, List.set_cons_zero, List.set_cons_succ, bAdd, bSub, bMod, bDiv, cLt, cLe, cGt, cGe, cEq, Int.reduceLT, true_and, and_true, and_self, if_true, Bool.false_eq_true, if_false, cond_true, cond_false, ite_true, ite_false, reduceIte, h5, hq, hF, decide_true]⟩
      · exact ⟨r, okr, by simp only [Ss.ev, S.ev.eq_1, S.ev.eq_2, S.ev.eq_3, S.ev.eq_4, S.ev.eq_5, S.ev.eq_6, S.ev.eq_7, S.ev.eq_10, S.ev.eq_11, S.ev.eq_12, S.ev.eq_13, S.ev.eq_14, S.ev.eq_15, S.ev.eq_16, S.ev.eq_17, S.ev.eq_18, S.ev.eq_19, S.ev.eq_20, E.ev.eq_1, E.ev.eq_2, E.ev.eq_3, E.ev.eq_4, E.ev.eq_5, E.ev.eq_6, E.ev.eq_7, E.ev.eq_8, E.ev.eq_9, E.ev.eq_10, E.ev.eq_11, E.ev.eq_12, E.ev.eq_13, E.ev.eq_14, E.ev.eq_15, E.ev.eq_16, E.ev.eq_17, E.ev.eq_18, E.ev.eq_19, E.ev.eq_20, E.ev.eq_21, E.ev.eq_22, E.ev.eq_23, E.ev.eq_24, E.ev.eq_25, E.ev.eq_26, E.ev.eq_28, E.ev.eq_29, Es.ev, It.ev, Op.ev, Op.tst, slV, slP, ownS, ixT, T.tru, outT, Option.bind_some, Option.map_some, List.getElem?_cons_zero, List.getElem?_cons_succ, List.set_cons_zero, List.set_cons_succ, bAdd, bSub, bMod, bDiv, cLt, cLe, cGt, cGe, cEq, Int.reduceLT, true_and, and_true, and_self, if_true, Bool.false_eq_true, if_false, cond_true, cond_false, ite_true, ite_false, reduceIte, h5, decide_false]⟩
    obtain ⟨r3, ok3', s5⟩ : ∃ r3, RwOk r3 ∧ (S.iff (.cmp .eq (.bin .sub (.v 7) (.v 10)) (.v 3)) (.cons (.set 9 false (.tup (.cons (.k (.str "fence")) .nil))) .nil) .nil).ev (tab.pg (k + 1))
        [.fz (.scr ns), .fz (.int (t : Nat)), .fz (.lst (L.map .str)), .fz (.int most), .fz (.int (many : Nat)), .ow (.lst (R.map Rw.t)), .fz (.int few), .fz (.int (i : Nat)), .fz (.int c), .fz r2.t, .fz (.int fc)] =
        some (.nx [.fz (.scr ns), .fz (.int (t : Nat)), .fz (.lst (L.map .str)), .fz (.int most), .fz (.int (many : Nat)), .ow (.lst (R.map Rw.t)), .fz (.int few), .fz (.int (i : Nat)), .fz (.int c), .fz r3.t, .fz (.int fc)]) := by
      by_cases h5 : (i : Int) - fc = most
      · exact ⟨.fence, trivial, by simp only [Ss.ev, S.ev.eq_1, S.ev.eq_2, S.ev.eq_3, S.ev.eq_4, S.ev.eq_5, S.ev.eq_6, S.ev.eq_7, S.ev.eq_10, S.ev.eq_11, S.ev.eq_12, S.ev.eq_13, S.ev.eq_14, S.ev.eq_15, S.ev.eq_16, S.ev.eq_17, S.ev.eq_18, S.ev.eq_19, S.ev.eq_20, E.ev.eq_1, E.ev.eq_2, E.ev.eq_3, E.ev.eq_4, E.ev.eq_5, E.ev.eq_6, E.ev.eq_7, E.ev.eq_8, E.ev.eq_9, E.ev.eq_10, E.ev.eq_11, E.ev.eq_12, E.ev.eq_13, E.ev.eq_14, E.ev.eq_15, E.ev.eq_16, E.ev.eq_17, E.ev.eq_18, E.ev.eq_19, E.ev.eq_20, E.ev.eq_21, E.ev.eq_22, E.ev.eq_23, E.ev.eq_24, E.ev.eq_25, E.ev.eq_26, E.ev.eq_28, E.ev.eq_29, Es.ev, It.ev, Op.ev, Op.tst, slV, slP, ownS, ixT, T.tru, outT, Option.bind_some, Option.map_some, List.getElem?_cons_zero, List.getElem?_cons_succ, List.set_cons_zero, List.set_cons_succ, bAdd, bSub, bMod, bDiv, cLt, cLe, cGt, cGe, cEq, Int.reduceLT, true_and, and_true, and_self, if_true, Bool.false_eq_true, if_false, cond_true, cond_false, ite_true, ite_false, reduceIte, h5, decide_true, show Rw.fence.t = .tup [.str "fence"] from rfl]⟩
      · exact ⟨r2, ok2, by simp only [Ss.ev, S.ev.eq_1, S.ev.eq_2, S.ev.eq_3, S.ev.eq_4, S.ev.eq_5, S.ev.eq_6, S.ev.eq_7, S.ev.eq_10, S.ev.eq_11, S.ev.eq_12, S.ev.eq_13, S.ev.eq_14, S.ev.eq_15, S.ev.eq_16, S.ev.eq_17, S.ev.eq_18, S.ev.eq_19, S.ev.eq_20, E.ev.eq_1, E.ev.eq_2, E.ev.eq_3, E.ev.eq_4, E.ev.eq_5, E.ev.eq_6, E.ev.eq_7, E.ev.eq_8, E.ev.eq_9, E.ev.eq_10, E.ev.eq_11, E.ev.eq_12, E.ev.eq_13, E.ev.eq_14, E.ev.eq_15, E.ev.eq_16, E.ev.eq_17, E.ev.eq_18, E.ev.eq_19, E.ev.eq_20, E.ev.eq_21, E.ev.eq_22, E.ev.eq_23, E.ev.eq_24, E.ev.eq_25, E.ev.eq_26, E.ev.eq_28, E.ev.eq_29, Es.ev, It.ev, Op.ev, Op.tst, slV, slP, ownS, ixT, T.tru, outT, Option.bind_some, Option.map_some, List.getElem?_cons_zero, List.getElem?_cons_succ, List.set_cons_zero, List.set_cons_succ, bAdd, bSub, bMod, bDiv, cLt, cLe, cGt, cGe, cEq, Int.reduceLT, true_and, and_true, and_self, if_true, Bool.false_eq_true, if_false, cond_true, cond_false, ite_true, ite_false, reduceIte, h5, decide_false]⟩
    refine ⟨[.fz (.scr ns), .fz (.int (t : Nat)), .fz (.lst (L.map .str)), .fz (.int most), .fz (.int (many : Nat)), .ow (.lst ((R ++ [r3]).map Rw.t)), .fz (.int few), .fz (.int (i : Nat)), .fz (.int c), .fz r3.t, .fz (.int fc)], .inl ?_, _, _, _, _, R ++ [r3], by rw [List.length_append, h1]; rfl, fun w hw => ?_, rfl⟩
    · unfold l12_0
      simp only [List.set_cons_zero, List.set_cons_succ]
      rw [ev_step (env' := [.fz (.scr ns), .fz (.int (t : Nat)), .fz (.lst (L.map .str)), .fz (.int most), .fz (.int (many : Nat)), .ow (.lst (R.map Rw.t)), .fz (.int few), .fz (.int (i : Nat)), .fz (.int c), e9, e10]) (by
          simp only [Ss.ev, S.ev.eq_1, S.ev.eq_2, S.ev.eq_3, S.ev.eq_4, S.ev.eq_5, S.ev.eq_6, S.ev.eq_7, S.ev.eq_10, S.ev.eq_11, S.ev.eq_12, S.ev.eq_13, S.ev.eq_14, S.ev.eq_15, S.ev.eq_16, S.ev.eq_17, S.ev.eq_18, S.ev.eq_19, S.ev.eq_20, E.ev.eq_1, E.ev.eq_2, E.ev.eq_3, E.ev.eq_4, E.ev.eq_5, E.ev.eq_6, E.ev.eq_7, E.ev.eq_8, E.ev.eq_9, E.ev.eq_10, E.ev.eq_11, E.ev.eq_12, E.ev.eq_13, E.ev.eq_14, E.ev.eq_15, E.ev.eq_16, E.ev.eq_17, E.ev.eq_18, E.ev.eq_19, E.ev.eq_20, E.ev.eq_21, E.ev.eq_22, E.ev.eq_23, E.ev.eq_24, E.ev.eq_25, E.ev.eq_26, E.ev.eq_28, E.ev.eq_29, Es.ev, It.ev, Op.ev, Op.tst, slV, slP, ownS, ixT, T.tru, outT, Option.bind_some, Option.map_some, List.getElem?_cons_zero, List.getElem?_cons_succ, List.set_cons_zero, List.set_cons_succ, bAdd, bSub, bMod, bDiv, cLt, cLe, cGt, cGe, cEq, Int.reduceLT, true_and, and_true, and_self, if_true, Bool.false_eq_true, if_false, cond_true, cond_false, ite_true, ite_false, reduceIte, b8, b10, c1, c2]),
        ev_step (env' := [.fz (.scr ns), .fz (.int (t : Nat)), .fz (.lst (L.map .str)), .fz (.int most), .fz (.int (many : Nat)), .ow (.lst (R.map Rw.t)), .fz (.int few), .fz (.int (i : Nat)), .fz (.int c), .fz r.t, e10]) (by
          simp only [Ss.ev, S.ev.eq_1, S.ev.eq_2, S.ev.eq_3, S.ev.eq_4, S.ev.eq_5, S.ev.eq_6, S.ev.eq_7, S.ev.eq_10, S.ev.eq_11, S.ev.eq_12, S.ev.eq_13, S.ev.eq_14, S.ev.eq_15, S.ev.eq_16, S.ev.eq_17, S.ev.eq_18, S.ev.eq_19, S.ev.eq_20, E.ev.eq_1, E.ev.eq_2, E.ev.eq_3, E.ev.eq_4, E.ev.eq_5, E.ev.eq_6, E.ev.eq_7, E.ev.eq_8, E.ev.eq_9, E.ev.eq_10, E.ev.eq_11, E.ev.eq_12, E.ev.eq_13, E.ev.eq_14, E.ev.eq_15, E.ev.eq_16, E.ev.eq_17, E.ev.eq_18, E.ev.eq_19, E.ev.eq_20, E.ev.eq_21, E.ev.eq_22, E.ev.eq_23, E.ev.eq_24, E.ev.eq_25, E.ev.eq_26, E.ev.eq_28, E.ev.eq_29, Es.ev, It.ev, Op.ev, Op.tst, slV, slP, ownS, ixT, T.tru, outT, Option.bind_some, Option.map_some, List.getElem?_cons_zero, List.getElem?_cons_succ, List.set_cons_zero, List.set_cons_succ, bAdd, bSub, bMod, bDiv, cLt, cLe, cGt, cGe, cEq, Int.reduceLT, true_and, and_true, and_self, if_true, Bool.false_eq_true, if_false, cond_true, cond_false, ite_true, ite_false, reduceIte, b10, er]),
        ev_step (env' := [.fz (.scr ns), .fz (.int (t : Nat)), .fz (.lst (L.map .str)), .fz (.int most), .fz (.int (many : Nat)), .ow (.lst (R.map Rw.t)), .fz (.int few), .fz (.int (i : Nat)), .fz (.int c), .fz r.t, .fz (.int fc)]) (by
          simp only [Ss.ev, S.ev.eq_1, S.ev.eq_2, S.ev.eq_3, S.ev.eq_4, S.ev.eq_5, S.ev.eq_6, S.ev.eq_7, S.ev.eq_10, S.ev.eq_11, S.ev.eq_12, S.ev.eq_13, S.ev.eq_14, S.ev.eq_15, S.ev.eq_16, S.ev.eq_17, S.ev.eq_18, S.ev.eq_19, S.ev.eq_20, E.ev.eq_1, E.ev.eq_2, E.ev.eq_3, E.ev.eq_4, E.ev.eq_5, E.ev.eq_6, E.ev.eq_7, E.ev.eq_8, E.ev.eq_9, E.ev.eq_10, E.ev.eq_11, E.ev.eq_12, E.ev.eq_13, E.ev.eq_14, E.ev.eq_15, E.ev.eq_16, E.ev.eq_17, E.ev.eq_18, E.ev.eq_19, E.ev.eq_20, E.ev.eq_21, E.ev.eq_22, E.ev.eq_23, E.ev.eq_24, E.ev.eq_25, E.ev.eq_26, E.ev.eq_28, E.ev.eq_29, Es.ev, It.ev, Op.ev, Op.tst, slV, slP, ownS, ixT, T.tru, outT, Option.bind_some, Option.map_some, List.getElem?_cons_zero, List.getElem?_cons_succ, List.set_cons_zero, List.set_cons_succ, bAdd, bSub, bMod, bDiv, cLt, cLe, cGt, cGe, cEq, Int.reduceLT, true_and, and_true, and_self, if_true, Bool.false_eq_true, if_false, cond_true, cond_false, ite_true, ite_false, reduceIte, hc]), ev_step s4, ev_step s5]
      simp only [Ss.ev, S.ev.eq_1, S.ev.eq_2, S.ev.eq_3, S.ev.eq_4, S.ev.eq_5, S.ev.eq_6, S.ev.eq_7, S.ev.eq_10, S.ev.eq_11, S.ev.eq_12, S.ev.eq_13, S.ev.eq_14, S.ev.eq_15, S.ev.eq_16, S.ev.eq_17, S.ev.eq_18, S.ev.eq_19, S.ev.eq_20, E.ev.eq_1, E.ev.eq_2, E.ev.eq_3, E.ev.eq_4, E.ev.eq_5, E.ev.eq_6, E.ev.eq_7, E.ev.eq_8, E.ev.eq_9, E.ev.eq_10, E.ev.eq_11, E.ev.eq_12, E.ev.eq_13, E.ev.eq_14, E.ev.eq_15, E.ev.eq_16, E.ev.eq_17, E.ev.eq_18, E.ev.eq_19, E.ev.eq_20, E.ev.eq_21, E.ev.eq_22, E.ev.eq_23, E.ev.eq_24, E.ev.eq_25, E.ev.eq_26, E.ev.eq_28, E.ev.eq_29, Es.ev, It.ev, Op.ev, Op.tst, slV, slP, ownS, ixT, T.tru, outT, Option.bind_some, Option.map_some, List.getElem?_cons_zero, List.getElem?_cons_succ, List.set_cons_zero, List.set_cons_succ, bAdd, bSub, bMod, bDiv, cLt, cLe, cGt, cGe, cEq, Int.reduceLT, true_and, and_true, and_self, if_true, Bool.false_eq_true, if_false, cond_true, cond_false, ite_true, ite_false, reduceIte, slO, Lm.ap, List.length_map, hln, List.map_append, List.map_cons, List.map_nil]
    · rcases List.mem_append.mp hw with hw | hw
      · exact h2 w hw
      · rw [List.mem_singleton.mp hw]; exact ok3')
  refine ⟨R, h1, h2, ?_⟩
  refine (congrArg outT (ev_step h4)).trans ?_
  simp [Ss.ev, S.ev.eq_1, S.ev.eq_2, S.ev.eq_3, S.ev.eq_4, S.ev.eq_5, S.ev.eq_6, S.ev.eq_7, S.ev.eq_10, S.ev.eq_11, S.ev.eq_12, S.ev.eq_13, S.ev.eq_14, S.ev.eq_15, S.ev.eq_16, S.ev.eq_17, S.ev.eq_18, S.ev.eq_19, S.ev.eq_20, E.ev.eq_1, E.ev.eq_2, E.ev.eq_3, E.ev.eq_4, E.ev.eq_5, E.ev.eq_6, E.ev.eq_7, E.ev.eq_8, E.ev.eq_9, E.ev.eq_10, E.ev.eq_11, E.ev.eq_12, E.ev.eq_13, E.ev.eq_14, E.ev.eq_15, E.ev.eq_16, E.ev.eq_17, E.ev.eq_18, E.ev.eq_19, E.ev.eq_20, E.ev.eq_21, E.ev.eq_22, E.ev.eq_23, E.ev.eq_24, E.ev.eq_25, E.ev.eq_26, E.ev.eq_28, E.ev.eq_29, Es.ev, It.ev, Op.ev, Op.tst, slV, slP, ownS, ixT, T.tru, outT, frzE]
end
end Tx

set_option Elab.async false
set_option linter.all false
set_option autoImplicit false
set_option maxRecDepth 100000
set_option maxHeartbeats 4000000
namespace Tx
open PySem Fe
theorem rw_tup (r : Rw) : ∃ l, r.t = .tup l ∧ l.length ≤ 4 ∧ ∀ n, deps l n = true := by
  cases r <;> exact ⟨_, rfl, by simp, fun n => by simp [deps, T.dep, vl_dep]⟩
theorem deps_app {a b : List T} {n : Nat} (h1 : deps a n = true) (h2 : deps b n = true) : deps (a ++ b) n = true := by
  induction a with
  | nil => exact h2
  | cons x a ih =>
    simp only [deps, Bool.and_eq_true, List.cons_append] at h1 ⊢
    exact ⟨h1.1, ih h1.2⟩
theorem cut_map {α β : Type} (f : α → β) (xs : List α) (a b : Option Int) : cutL (xs.map f) a b = (cutL xs a b).map f := by
  unfold cutL
  simp [List.map_take, List.map_drop]
theorem cut_sub {α : Type} (xs : List α) (a b : Option Int) : ∀ x ∈ cutL xs a b, x ∈ xs := by
  intro x h
  unfold cutL at h
  exact List.mem_of_mem_drop (List.mem_of_mem_take h)
theorem cut_len {α : Type} (xs : List α) (a b : Option Int) : (cutL xs a b).length ≤ xs.length := by
  unfold cutL
  rw [List.length_take, List.length_drop]; omega
theorem ints_map : ∀ l : List Int, ints? (l.map T.int) = some l
  | [] => rfl
  | i :: l => by
    show (ints? (l.map T.int)).map (i :: ·) = _
    rw [ints_map l]; rfl
def LsT (L : List (List Rw)) : List T := L.map fun r => .lst (r.map Rw.t)
def LsOk (L : List (List Rw)) : Prop := ∀ r ∈ L, r.length ≤ 20 ∧ ∀ w ∈ r, RwOk w
section
variable {k : Nat}
theorem shaped' (c m : Int) (hm : m = 0 ∨ m = 30 ∨ m = 60) {L : List Str} (h9 : L.length = 9) (hL : ∀ z ∈ L, NmOk z) : ∃ Ls, Lok Ls ∧ (tab.pg (k + 2)).fn 10 [.int c, .lst (L.map .str), .int m] = some (lolT Ls) := by
  match L, h9 with
  | [a0, a1, a2, a3, a4, a5, a6, a7, a8], _ =>
    exact shaped k c m hm a0 a1 a2 a3 a4 a5 a6 a7 a8 (hL _ (by simp)) (hL _ (by simp)) (hL _ (by simp)) (hL _ (by simp)) (hL _ (by simp)) (hL _ (by simp)) (hL _ (by simp)) (hL _ (by simp)) (hL _ (by simp))
def I13 (ns : List Int) (most : Int) (s2 s3 s4 s5 s6 s7 s9 : Sl) (i : Nat) (env : En) : Prop := ∃ e10 e11, ∃ L : List (List Rw), L.length = i ∧ LsOk L ∧ env = [.fz (.scr ns), .fz (.int most), s2, s3, s4, s5, s6, s7, .ow (.lst (LsT L)), s9, e10, e11, .no, .no, .no]
theorem t13 (ns : List Int) (most : Int) (hmo : most = 5 ∨ most = 3) (many : Nat) (hmany : many ≤ 3) {L : List Str} (h9 : L.length = 9) (hL : ∀ z ∈ L, NmOk z) (s2 s4 s5 s6 s7 : Sl) :
    ∃ e10 e11, ∃ Ls, Ls.length ≤ 4 ∧ LsOk Ls ∧ (S.forr (.n 10) (.rng (.v 9)) l13_1).ev (tab.pg (k + 2)) [.fz (.scr ns), .fz (.int most), s2, .fz (.lst (L.map .str)), s4, s5, s6, s7, .ow (.lst []), .fz (.int (many : Nat)), .no, .no, .no, .no, .no] =
      some (.nx [.fz (.scr ns), .fz (.int most), s2, .fz (.lst (L.map .str)), s4, s5, s6, s7, .ow (.lst (LsT Ls)), .fz (.int (many : Nat)), e10, e11, .no, .no, .no]) := by
  have hLIM : LIM = 16777216 := rfl
  obtain ⟨env', h4, e10, e11, Ls, h1, h2, rfl⟩ := ev_rngFor (P := tab.pg (k + 2)) (env := [.fz (.scr ns), .fz (.int most), s2, .fz (.lst (L.map .str)), s4, s5, s6, s7, .ow (.lst []), .fz (.int (many : Nat)), .no, .no, .no, .no, .no]) (v := 10) (it := .rng (.v 9)) (b := l13_1) (n := many)
    (I13 ns most s2 (.fz (.lst (L.map .str))) s4 s5 s6 s7 (.fz (.int (many : Nat)))) (by
      have := rng_nat many (by omega)
      simp only [Ss.ev, S.ev.eq_1, S.ev.eq_2, S.ev.eq_3, S.ev.eq_4, S.ev.eq_5, S.ev.eq_6, S.ev.eq_7, S.ev.eq_10, S.ev.eq_11, S.ev.eq_12, S.ev.eq_13, S.ev.eq_14, S.ev.eq_15, S.ev.eq_16, S.ev.eq_17, S.ev.eq_18, S.ev.eq_19, S.ev.eq_20, E.ev.eq_1, E.ev.eq_2, E.ev.eq_3, E.ev.eq_4, E.ev.eq_5, E.ev.eq_6, E.ev.eq_7, E.ev.eq_8, E.ev.eq_9, E.ev.eq_10, E.ev.eq_11, E.ev.eq_12, E.ev.eq_13, E.ev.eq_14, E.ev.eq_15, E.ev.eq_16, E.ev.eq_17, E.ev.eq_18, E.ev.eq_19, E.ev.eq_20, E.ev.eq_21, E.ev.eq_22, E.ev.eq_23, E.ev.eq_24, E.ev.eq_25, E.ev.eq_26, E.ev.eq_28, E.ev.eq_29, Es.ev, It.ev, Op.ev, Op.tst, slV, slP, ownS, ixT, T.tru, outT, Option.bind_some, Option.map_some, List.getElem?_cons_zero, List.getElem?_cons_succ, List.set_cons_zero, List.set_cons_succ, bAdd, bSub, bMod, bDiv, cLt, cLe, cGt, cGe, cEq, Int.reduceLT, true_and, and_true, and_self, if_true, Bool.false_eq_true, if_false, cond_true, cond_false, ite_true, ite_false, reduceIte, this]) ⟨_, _, [], rfl, (fun _ h => nomatch h), rfl⟩ (by
    rintro i env hi ⟨e10, e11, Ls, h1, h2, rfl⟩
    have c1 := cell_at (k + 1) ns 3
    rw [show ((3 : Nat) : Int) = 3 from rfl] at c1
    have hb : ∀ c : Int, inMul c (1 + 2 * (i : Int)) = true := fun c => inMulR (by omega)
    have i3 : inMul 2 (i : Int) = true := inMulL (by decide)
    have m1 : ∀ a b : Int, inMul a b = true → BOp.ap .mul (.int a) (.int b) = some (.int (a * b)) := fun a b h => by simp only [BOp.ap, h, if_true]
    have m2 := m1 _ _ i3
    have m3 := m1 _ _ (hb (cellAt ns 3))
    have c2 := mixed_ok (k + 1) (cellAt ns 3 * (1 + 2 * (i : Int))) (i : Int) (by omega)
    have c3 := mixed_lo (cellAt ns 3 * (1 + 2 * (i : Int))) (i : Int)
    generalize mixed (cellAt ns 3 * (1 + 2 * (i : Int))) (i : Int) = c at c2 c3
    obtain ⟨sz, hsz, esz⟩ : ∃ sz : Nat, sz ≤ 20 ∧ (E.bin .mod (.call 7 (.cons (.bin .mul (.call 6 (.cons (.v 0) (.cons (.k (.int 3)) .nil))) (.bin .add (.k (.int 1)) (.bin .mul (.k (.int 2)) (.v 10)))) (.cons (.v 10) .nil))) (.bin .add (.v 1) (.ix (.lst (.cons (.k (.int 3)) (.cons (.k (.int 6)) .nil))) (.bi .int (.cons (.cmp .gt (.v 1) (.k (.int 3))) .nil))))).ev (tab.pg (k + 2))
        [.fz (.scr ns), .fz (.int most), s2, .fz (.lst (L.map .str)), s4, s5, s6, s7, .ow (.lst (LsT Ls)), .fz (.int (many : Nat)), .fz (.int (i : Nat)), e11, .no, .no, .no] = some (.int (sz : Nat)) := by
      rcases hmo with rfl | rfl
      · refine ⟨(c % 11).toNat, by omega, ?_⟩
        rw [show (((c % 11).toNat : Nat) : Int) = c % 11 by omega]
        simp only [Ss.ev, S.ev.eq_1, S.ev.eq_2, S.ev.eq_3, S.ev.eq_4, S.ev.eq_5, S.ev.eq_6, S.ev.eq_7, S.ev.eq_10, S.ev.eq_11, S.ev.eq_12, S.ev.eq_13, S.ev.eq_14, S.ev.eq_15, S.ev.eq_16, S.ev.eq_17, S.ev.eq_18, S.ev.eq_19, S.ev.eq_20, E.ev.eq_1, E.ev.eq_2, E.ev.eq_3, E.ev.eq_4, E.ev.eq_5, E.ev.eq_6, E.ev.eq_7, E.ev.eq_8, E.ev.eq_9, E.ev.eq_10, E.ev.eq_11, E.ev.eq_12, E.ev.eq_13, E.ev.eq_14, E.ev.eq_15, E.ev.eq_16, E.ev.eq_17, E.ev.eq_18, E.ev.eq_19, E.ev.eq_20, E.ev.eq_21, E.ev.eq_22, E.ev.eq_23, E.ev.eq_24, E.ev.eq_25, E.ev.eq_26, E.ev.eq_28, E.ev.eq_29, Es.ev, It.ev, Op.ev, Op.tst, slV, slP, ownS, ixT, T.tru, outT, Option.bind_some, Option.map_some, List.getElem?_cons_zero, List.getElem?_cons_succ, List.set_cons_zero, List.set_cons_succ, bAdd, bSub, bMod, bDiv, cLt, cLe, cGt, cGe, cEq, Int.reduceLT, true_and, and_true, and_self, if_true, Bool.false_eq_true, if_false, cond_true, cond_false, ite_true, ite_false, reduceIte, m2, m3, c1, c2, Bi.ap, Int.reduceLT, decide_true, if_true, atI1, Int.reduceAdd]
      · refine ⟨(c % 6).toNat, by omega, ?_⟩
        rw [show (((c % 6).toNat : Nat) : Int) = c % 6 by omega]
        simp only [Ss.ev, S.ev.eq_1, S.ev.eq_2, S.ev.eq_3, S.ev.eq_4, S.ev.eq_5, S.ev.eq_6, S.ev.eq_7, S.ev.eq_10, S.ev.eq_11, S.ev.eq_12, S.ev.eq_13, S.ev.eq_14, S.ev.eq_15, S.ev.eq_16, S.ev.eq_17, S.ev.eq_18, S.ev.eq_19, S.ev.eq_20, E.ev.eq_1, E.ev.eq_2, E.ev.eq_3, E.ev.eq_4, E.ev.eq_5, E.ev.eq_6, E.ev.eq_7, E.ev.eq_8, E.ev.eq_9, E.ev.eq_10, E.ev.eq_11, E.ev.eq_12, E.ev.eq_13, E.ev.eq_14, E.ev.eq_15, E.ev.eq_16, E.ev.eq_17, E.ev.eq_18, E.ev.eq_19, E.ev.eq_20, E.ev.eq_21, E.ev.eq_22, E.ev.eq_23, E.ev.eq_24, E.ev.eq_25, E.ev.eq_26, E.ev.eq_28, E.ev.eq_29, Es.ev, It.ev, Op.ev, Op.tst, slV, slP, ownS, ixT, T.tru, outT, Option.bind_some, Option.map_some, List.getElem?_cons_zero, List.getElem?_cons_succ, List.set_cons_zero, List.set_cons_succ, bAdd, bSub, bMod, bDiv, cLt, cLe, cGt, cGe, cEq, Int.reduceLT, true_and, and_true, and_self, if_true, Bool.false_eq_true, if_false, cond_true, cond_false, ite_true, ite_false, reduceIte, m2, m3, c1, c2, Bi.ap, Int.reduceLT, decide_false, atI0, Int.reduceAdd]
    obtain ⟨R, hR1, hR2, hR3⟩ := thread_ok (k := k) ns i (by omega) h9 hL most sz hsz
    have hln : (LsT Ls).length < LIM := by unfold LsT; rw [List.length_map]; omega
    refine ⟨[.fz (.scr ns), .fz (.int most), s2, .fz (.lst (L.map .str)), s4, s5, s6, s7, .ow (.lst (LsT (Ls ++ [R]))), .fz (.int (many : Nat)), .fz (.int (i : Nat)), .fz (.int (sz : Nat)), .no, .no, .no], .inl ?_, _, _, Ls ++ [R], by rw [List.length_append, h1]; rfl, fun w hw => ?_, rfl⟩
    · unfold l13_1
      simp only [List.set_cons_zero, List.set_cons_succ]
      rw [ev_step (env' := [.fz (.scr ns), .fz (.int most), s2, .fz (.lst (L.map .str)), s4, s5, s6, s7, .ow (.lst (LsT Ls)), .fz (.int (many : Nat)), .fz (.int (i : Nat)), .fz (.int (sz : Nat)), .no, .no, .no]) (by
        unfold S.ev
        rw [esz]; rfl)]
      have hs : LsT (Ls ++ [R]) = LsT Ls ++ [.lst (R.map Rw.t)] := by unfold LsT; rw [List.map_append]; rfl
      simp only [Ss.ev, S.ev.eq_1, S.ev.eq_2, S.ev.eq_3, S.ev.eq_4, S.ev.eq_5, S.ev.eq_6, S.ev.eq_7, S.ev.eq_10, S.ev.eq_11, S.ev.eq_12, S.ev.eq_13, S.ev.eq_14, S.ev.eq_15, S.ev.eq_16, S.ev.eq_17, S.ev.eq_18, S.ev.eq_19, S.ev.eq_20, E.ev.eq_1, E.ev.eq_2, E.ev.eq_3, E.ev.eq_4, E.ev.eq_5, E.ev.eq_6, E.ev.eq_7, E.ev.eq_8, E.ev.eq_9, E.ev.eq_10, E.ev.eq_11, E.ev.eq_12, E.ev.eq_13, E.ev.eq_14, E.ev.eq_15, E.ev.eq_16, E.ev.eq_17, E.ev.eq_18, E.ev.eq_19, E.ev.eq_20, E.ev.eq_21, E.ev.eq_22, E.ev.eq_23, E.ev.eq_24, E.ev.eq_25, E.ev.eq_26, E.ev.eq_28, E.ev.eq_29, Es.ev, It.ev, Op.ev, Op.tst, slV, slP, ownS, ixT, T.tru, outT, Option.bind_some, Option.map_some, List.getElem?_cons_zero, List.getElem?_cons_succ, List.set_cons_zero, List.set_cons_succ, bAdd, bSub, bMod, bDiv, cLt, cLe, cGt, cGe, cEq, Int.reduceLT, true_and, and_true, and_self, if_true, Bool.false_eq_true, if_false, cond_true, cond_false, ite_true, ite_false, reduceIte, hR3, slO, Lm.ap, hln, hs]
    · rcases List.mem_append.mp hw with hw | hw
      · exact h2 w hw
      · rw [List.mem_singleton.mp hw]; exact ⟨by omega, hR2⟩)
  exact ⟨e10, e11, Ls, by omega, h2, h4⟩
theorem w13 (Ls : List (List Rw)) (h1 : Ls.length ≤ 4) (h2 : LsOk Ls) (s0 s1 s2 s3 s4 s5 s6 s7 s9 s10 s11 s13 s14 : Sl) :
    ∃ e13 e14, ∃ W : List T, deps W 60 = true ∧ (S.forr (.n 13) (.it (.v 8)) l13_3).ev (tab.pg k) [s0, s1, s2, s3, s4, s5, s6, s7, .fz (.lst (LsT Ls)), s9, s10, s11, .fz (.lst []), s13, s14] =
      some (.nx [s0, s1, s2, s3, s4, s5, s6, s7, .fz (.lst (LsT Ls)), s9, s10, s11, .fz (.lst W), e13, e14]) := by
  have hLIM : LIM = 16777216 := rfl
  obtain ⟨env', h4, e13, e14, W, hd, hw, rfl⟩ := ev_for (P := tab.pg k) (env := [s0, s1, s2, s3, s4, s5, s6, s7, .fz (.lst (LsT Ls)), s9, s10, s11, .fz (.lst []), s13, s14]) (tg := .n 13) (it := .it (.v 8)) (ts := LsT Ls) (b := l13_3)
    (fun i env => ∃ e13 e14, ∃ W : List T, deps W 60 = true ∧ W.length ≤ 80 * i ∧ env = [s0, s1, s2, s3, s4, s5, s6, s7, .fz (.lst (LsT Ls)), s9, s10, s11, .fz (.lst W), e13, e14]) rfl ⟨s13, s14, [], rfl, Nat.zero_le _, rfl⟩ (by
    rintro i t env ht ⟨e13, e14, W, hd, hw, rfl⟩
    unfold LsT at ht
    rw [List.getElem?_map] at ht
    obtain ⟨R, hR, rfl⟩ := mpd ht
    have hi : i < Ls.length := (List.getElem?_eq_some_iff.mp hR).1
    obtain ⟨r1, r2⟩ := h2 R (List.mem_of_getElem? hR)
    obtain ⟨env', h5, e14', W', hd', hw', rfl⟩ := ev_for (P := tab.pg k) (env := [s0, s1, s2, s3, s4, s5, s6, s7, .fz (.lst (LsT Ls)), s9, s10, s11, .fz (.lst W), .fz (.lst (R.map Rw.t)), e14]) (tg := .n 14) (it := .it (.v 13)) (ts := R.map Rw.t) (b := l13_2)
      (fun j env => ∃ e14, ∃ V : List T, deps V 60 = true ∧ V.length ≤ W.length + 4 * j ∧ env = [s0, s1, s2, s3, s4, s5, s6, s7, .fz (.lst (LsT Ls)), s9, s10, s11, .fz (.lst V), .fz (.lst (R.map Rw.t)), e14]) rfl ⟨e14, W, hd, Nat.le_add_right _ _, rfl⟩ (by
      rintro j t env ht ⟨e14, V, hd, hv, rfl⟩
      rw [List.getElem?_map] at ht
      obtain ⟨r, hr, rfl⟩ := mpd ht
      have hj : j < R.length := (List.getElem?_eq_some_iff.mp hr).1
      obtain ⟨l, el, hl, hdl⟩ := rw_tup r
      have ha := add_lst V l (by omega)
      rw [el]
      refine ⟨_, [s0, s1, s2, s3, s4, s5, s6, s7, .fz (.lst (LsT Ls)), s9, s10, s11, .fz (.lst (V ++ l)), .fz (.lst (R.map Rw.t)), .fz (.tup l)], rfl, .inl ?_, _, V ++ l, deps_app hd (hdl 60), by rw [List.length_append]; omega, rfl⟩
      simp only [l13_2, Ss.ev, S.ev.eq_1, S.ev.eq_2, S.ev.eq_3, S.ev.eq_4, S.ev.eq_5, S.ev.eq_6, S.ev.eq_7, S.ev.eq_10, S.ev.eq_11, S.ev.eq_12, S.ev.eq_13, S.ev.eq_14, S.ev.eq_15, S.ev.eq_16, S.ev.eq_17, S.ev.eq_18, S.ev.eq_19, S.ev.eq_20, E.ev.eq_1, E.ev.eq_2, E.ev.eq_3, E.ev.eq_4, E.ev.eq_5, E.ev.eq_6, E.ev.eq_7, E.ev.eq_8, E.ev.eq_9, E.ev.eq_10, E.ev.eq_11, E.ev.eq_12, E.ev.eq_13, E.ev.eq_14, E.ev.eq_15, E.ev.eq_16, E.ev.eq_17, E.ev.eq_18, E.ev.eq_19, E.ev.eq_20, E.ev.eq_21, E.ev.eq_22, E.ev.eq_23, E.ev.eq_24, E.ev.eq_25, E.ev.eq_26, E.ev.eq_28, E.ev.eq_29, Es.ev, It.ev, Op.ev, Op.tst, slV, slP, ownS, ixT, T.tru, outT, Option.bind_some, Option.map_some, List.getElem?_cons_zero, List.getElem?_cons_succ, List.set_cons_zero, List.set_cons_succ, bAdd, bSub, bMod, bDiv, cLt, cLe, cGt, cGe, cEq, Int.reduceLT, true_and, and_true, and_self, if_true, Bool.false_eq_true, if_false, cond_true, cond_false, ite_true, ite_false, reduceIte, Bi.ap, ha])
    rw [List.length_map] at hw'
    refine ⟨_, _, rfl, .inl (?_ : l13_3.ev (tab.pg k) _ = some (.nx [s0, s1, s2, s3, s4, s5, s6, s7, .fz (.lst (LsT Ls)), s9, s10, s11, .fz (.lst W'), .fz (.lst (R.map Rw.t)), e14'])), _, _, W', hd', by omega, rfl⟩
    unfold l13_3
    exact (ev_step h5).trans rfl)
  exact ⟨e13, e14, W, hd, h4⟩
end
end Tx

set_option Elab.async false
set_option linter.all false
set_option autoImplicit false
set_option maxRecDepth 100000
set_option maxHeartbeats 4000000
namespace Tx
open PySem Fe
section
variable {k : Nat}
theorem c13a (L : List Str) (h9 : L.length = 9) (hL : ∀ z ∈ L, NmOk z) (first : Int) (hf : 0 ≤ first) (s0 s1 s2 : Sl) :
    ∃ C : List (Str × Int), C.length = 3 ∧ (∀ q ∈ C, NmOk q.1 ∧ IntOk q.2) ∧ c13_0.ev (tab.pg k) [s0, s1, s2, .fz (.lst (L.map .str)), .fz (.int first), .fz (.lst [.int 0, .int 0, .int (first / 7 % 100), .int 5]), .no, .no, .no, .no, .no, .no, .no, .no, .no] = some (.lst (celT C)) := by
  have hx : ∀ i : Int, ∃ v : Int, IntOk v ∧ L2.atI [T.int 0, .int 0, .int (first / 7 % 100), .int 5] ((first + i) % 4) = some (.int v) := fun i => by
    have : (first + i) % 4 = 0 ∨ (first + i) % 4 = 1 ∨ (first + i) % 4 = 2 ∨ (first + i) % 4 = 3 := by omega
    rcases this with e | e | e | e <;> rw [e]
    · exact ⟨0, int_ok (by omega) (by omega), atI0 _ _⟩
    · exact ⟨0, int_ok (by omega) (by omega), atI1 _ _ _⟩
    · exact ⟨first / 7 % 100, int_ok (by omega) (by omega), atI2 _ _ _ _⟩
    · exact ⟨5, int_ok (by omega) (by omega), atI3 _ _ _ _ _⟩
  have hy : ∀ j : Nat, ∃ q : Str × Int, NmOk q.1 ∧ IntOk q.2 ∧ (j < 3 → L2.atI (L.map T.str) (j : Int) = some (.str q.1)) ∧ L2.atI [T.int 0, .int 0, .int (first / 7 % 100), .int 5] ((first + (j : Int)) % 4) = some (.int q.2) := fun j => by
    obtain ⟨v, h1, h2⟩ := hx j
    by_cases hj : j < 3
    · obtain ⟨z, z1, z2⟩ := nm_at h9 hL (j : Int) (by omega) (by omega)
      exact ⟨(z, v), z1, h1, fun _ => z2, h2⟩
    · obtain ⟨z, z1, z2⟩ := nm_at h9 hL 0 (by omega) (by omega)
      exact ⟨(z, v), z1, h1, fun h => absurd h hj, h2⟩
  let g : Nat → Str × Int := fun j => Classical.choose (hy j)
  have hg : ∀ j, NmOk (g j).1 ∧ IntOk (g j).2 ∧ (j < 3 → L2.atI (L.map T.str) (j : Int) = some (.str (g j).1)) ∧ L2.atI [T.int 0, .int 0, .int (first / 7 % 100), .int 5] ((first + (j : Int)) % 4) = some (.int (g j).2) := fun j => Classical.choose_spec (hy j)
  refine ⟨(List.range 3).map g, by simp, fun q hq => ?_, ?_⟩
  · obtain ⟨j, _, rfl⟩ := List.mem_map.mp hq
    exact ⟨(hg j).1, (hg j).2.1⟩
  · unfold c13_0 celT
    rw [List.map_map]
    refine ev_lcB (List.range 3) (fun j => .int ((0 : Int) + (j : Nat))) _ (by simpa [Ss.ev, S.ev.eq_1, S.ev.eq_2, S.ev.eq_3, S.ev.eq_4, S.ev.eq_5, S.ev.eq_6, S.ev.eq_7, S.ev.eq_10, S.ev.eq_11, S.ev.eq_12, S.ev.eq_13, S.ev.eq_14, S.ev.eq_15, S.ev.eq_16, S.ev.eq_17, S.ev.eq_18, S.ev.eq_19, S.ev.eq_20, E.ev.eq_1, E.ev.eq_2, E.ev.eq_3, E.ev.eq_4, E.ev.eq_5, E.ev.eq_6, E.ev.eq_7, E.ev.eq_8, E.ev.eq_9, E.ev.eq_10, E.ev.eq_11, E.ev.eq_12, E.ev.eq_13, E.ev.eq_14, E.ev.eq_15, E.ev.eq_16, E.ev.eq_17, E.ev.eq_18, E.ev.eq_19, E.ev.eq_20, E.ev.eq_21, E.ev.eq_22, E.ev.eq_23, E.ev.eq_24, E.ev.eq_25, E.ev.eq_26, E.ev.eq_28, E.ev.eq_29, Es.ev, It.ev, Op.ev, Op.tst, slV, slP, ownS, ixT, T.tru, outT] using rng_nat 3 (by decide)) fun j hj => ⟨[s0, s1, s2, .fz (.lst (L.map .str)), .fz (.int first), .fz (.lst [.int 0, .int 0, .int (first / 7 % 100), .int 5]), .no, .fz (.int (j : Nat)), .no, .no, .no, .no, .no, .no, .no], ?_, ?_, ?_⟩
    · simp [Tg.bind, wipeE]
    · simp [Op.tst]
    · obtain ⟨_, _, h3, h4⟩ := hg j
      have h3 := h3 (List.mem_range.mp hj)
      simp only [Ss.ev, S.ev.eq_1, S.ev.eq_2, S.ev.eq_3, S.ev.eq_4, S.ev.eq_5, S.ev.eq_6, S.ev.eq_7, S.ev.eq_10, S.ev.eq_11, S.ev.eq_12, S.ev.eq_13, S.ev.eq_14, S.ev.eq_15, S.ev.eq_16, S.ev.eq_17, S.ev.eq_18, S.ev.eq_19, S.ev.eq_20, E.ev.eq_1, E.ev.eq_2, E.ev.eq_3, E.ev.eq_4, E.ev.eq_5, E.ev.eq_6, E.ev.eq_7, E.ev.eq_8, E.ev.eq_9, E.ev.eq_10, E.ev.eq_11, E.ev.eq_12, E.ev.eq_13, E.ev.eq_14, E.ev.eq_15, E.ev.eq_16, E.ev.eq_17, E.ev.eq_18, E.ev.eq_19, E.ev.eq_20, E.ev.eq_21, E.ev.eq_22, E.ev.eq_23, E.ev.eq_24, E.ev.eq_25, E.ev.eq_26, E.ev.eq_28, E.ev.eq_29, Es.ev, It.ev, Op.ev, Op.tst, slV, slP, ownS, ixT, T.tru, outT, Option.bind_some, Option.map_some, List.getElem?_cons_zero, List.getElem?_cons_succ, List.set_cons_zero, List.set_cons_succ, bAdd, bSub, bMod, bDiv, cLt, cLe, cGt, cGe, cEq, Int.reduceLT, true_and, and_true, and_self, if_true, Bool.false_eq_true, if_false, cond_true, cond_false, ite_true, ite_false, reduceIte, h3, h4]
      rfl
theorem c13b (L : List Str) (h9 : L.length = 9) (hL : ∀ z ∈ L, NmOk z) (W : List T) (hW : deps W 60 = true) (s0 s1 s2 s4 s5 s6 s8 s9 s10 s11 s13 s14 : Sl) :
    ∃ F : List Nat, F.length ≤ 3 ∧ c13_4.ev (tab.pg k) [s0, s1, s2, .fz (.lst (L.map .str)), s4, s5, s6, .no, s8, s9, s10, s11, .fz (.lst W), s13, s14] = some (.lst ((F.map fun (j : Nat) => (j : Int) + 1).map .int)) := by
  have hy : ∀ j : Nat, ∃ b : Bool, j < 3 → ((E.cmp .isin (.ix (.v 3) (.v 7)) (.v 12)).ev (tab.pg k) [s0, s1, s2, .fz (.lst (L.map .str)), s4, s5, s6, .fz (.int (j : Nat)), s8, s9, s10, s11, .fz (.lst W), s13, s14]) = some (.bl b) := fun j => by
    by_cases hj : j < 3
    · obtain ⟨z, z1, z2⟩ := nm_at h9 hL (j : Int) (by omega) (by omega)
      have hd : (T.str z).dep DM = true := rfl
      refine ⟨W.any fun y => y.eqv (.str z), fun _ => ?_⟩
      simp only [Ss.ev, S.ev.eq_1, S.ev.eq_2, S.ev.eq_3, S.ev.eq_4, S.ev.eq_5, S.ev.eq_6, S.ev.eq_7, S.ev.eq_10, S.ev.eq_11, S.ev.eq_12, S.ev.eq_13, S.ev.eq_14, S.ev.eq_15, S.ev.eq_16, S.ev.eq_17, S.ev.eq_18, S.ev.eq_19, S.ev.eq_20, E.ev.eq_1, E.ev.eq_2, E.ev.eq_3, E.ev.eq_4, E.ev.eq_5, E.ev.eq_6, E.ev.eq_7, E.ev.eq_8, E.ev.eq_9, E.ev.eq_10, E.ev.eq_11, E.ev.eq_12, E.ev.eq_13, E.ev.eq_14, E.ev.eq_15, E.ev.eq_16, E.ev.eq_17, E.ev.eq_18, E.ev.eq_19, E.ev.eq_20, E.ev.eq_21, E.ev.eq_22, E.ev.eq_23, E.ev.eq_24, E.ev.eq_25, E.ev.eq_26, E.ev.eq_28, E.ev.eq_29, Es.ev, It.ev, Op.ev, Op.tst, slV, slP, ownS, ixT, T.tru, outT, Option.bind_some, Option.map_some, List.getElem?_cons_zero, List.getElem?_cons_succ, List.set_cons_zero, List.set_cons_succ, bAdd, bSub, bMod, bDiv, cLt, cLe, cGt, cGe, cEq, Int.reduceLT, true_and, and_true, and_self, if_true, Bool.false_eq_true, if_false, cond_true, cond_false, ite_true, ite_false, reduceIte, z2, COp.ap, inT, hW, hd]
      rfl
    · exact ⟨true, fun h => absurd h hj⟩
  let g : Nat → Bool := fun j => Classical.choose (hy j)
  have hg : ∀ j, j < 3 → ((E.cmp .isin (.ix (.v 3) (.v 7)) (.v 12)).ev (tab.pg k) [s0, s1, s2, .fz (.lst (L.map .str)), s4, s5, s6, .fz (.int (j : Nat)), s8, s9, s10, s11, .fz (.lst W), s13, s14]) = some (.bl (g j)) := fun j => Classical.choose_spec (hy j)
  refine ⟨(List.range 3).filter g, Nat.le_trans (List.length_filter_le _ _) (by simp), ?_⟩
  rw [List.map_map]
  unfold c13_4
  refine ev_lcA (List.range 3) (fun j => .int ((0 : Int) + (j : Nat))) _ g (by simpa [Ss.ev, S.ev.eq_1, S.ev.eq_2, S.ev.eq_3, S.ev.eq_4, S.ev.eq_5, S.ev.eq_6, S.ev.eq_7, S.ev.eq_10, S.ev.eq_11, S.ev.eq_12, S.ev.eq_13, S.ev.eq_14, S.ev.eq_15, S.ev.eq_16, S.ev.eq_17, S.ev.eq_18, S.ev.eq_19, S.ev.eq_20, E.ev.eq_1, E.ev.eq_2, E.ev.eq_3, E.ev.eq_4, E.ev.eq_5, E.ev.eq_6, E.ev.eq_7, E.ev.eq_8, E.ev.eq_9, E.ev.eq_10, E.ev.eq_11, E.ev.eq_12, E.ev.eq_13, E.ev.eq_14, E.ev.eq_15, E.ev.eq_16, E.ev.eq_17, E.ev.eq_18, E.ev.eq_19, E.ev.eq_20, E.ev.eq_21, E.ev.eq_22, E.ev.eq_23, E.ev.eq_24, E.ev.eq_25, E.ev.eq_26, E.ev.eq_28, E.ev.eq_29, Es.ev, It.ev, Op.ev, Op.tst, slV, slP, ownS, ixT, T.tru, outT] using rng_nat 3 (by decide)) fun j hj => ⟨[s0, s1, s2, .fz (.lst (L.map .str)), s4, s5, s6, .fz (.int (j : Nat)), s8, s9, s10, s11, .fz (.lst W), s13, s14], ?_, ?_, fun _ => ?_⟩
  · simp [Tg.bind, wipeE]
  · have := hg j (List.mem_range.mp hj)
    show Option.bind (E.ev (tab.pg k) (E.cmp .isin (.ix (.v 3) (.v 7)) (.v 12)) _) T.tru = _
    rw [this]; rfl
  · simp only [Ss.ev, S.ev.eq_1, S.ev.eq_2, S.ev.eq_3, S.ev.eq_4, S.ev.eq_5, S.ev.eq_6, S.ev.eq_7, S.ev.eq_10, S.ev.eq_11, S.ev.eq_12, S.ev.eq_13, S.ev.eq_14, S.ev.eq_15, S.ev.eq_16, S.ev.eq_17, S.ev.eq_18, S.ev.eq_19, S.ev.eq_20, E.ev.eq_1, E.ev.eq_2, E.ev.eq_3, E.ev.eq_4, E.ev.eq_5, E.ev.eq_6, E.ev.eq_7, E.ev.eq_8, E.ev.eq_9, E.ev.eq_10, E.ev.eq_11, E.ev.eq_12, E.ev.eq_13, E.ev.eq_14, E.ev.eq_15, E.ev.eq_16, E.ev.eq_17, E.ev.eq_18, E.ev.eq_19, E.ev.eq_20, E.ev.eq_21, E.ev.eq_22, E.ev.eq_23, E.ev.eq_24, E.ev.eq_25, E.ev.eq_26, E.ev.eq_28, E.ev.eq_29, Es.ev, It.ev, Op.ev, Op.tst, slV, slP, ownS, ixT, T.tru, outT, Option.bind_some, Option.map_some, List.getElem?_cons_zero, List.getElem?_cons_succ, List.set_cons_zero, List.set_cons_succ, bAdd, bSub, bMod, bDiv, cLt, cLe, cGt, cGe, cEq, Int.reduceLT, true_and, and_true, and_self, if_true, Bool.false_eq_true, if_false, cond_true, cond_false, ite_true, ite_false, reduceIte, Function.comp]
theorem c13c (Ls : List (List Rw)) (s0 s1 s2 s3 s4 s5 s6 s7 s9 s10 s11 s12 s13 s14 : Sl) : c13_5.ev (tab.pg k) [s0, s1, s2, s3, s4, s5, s6, s7, .fz (.lst (LsT Ls)), s9, s10, s11, s12, s13, s14] = some (.lst (thsT Ls)) := by
  unfold c13_5 thsT
  refine ev_lcB Ls (fun r => .lst (r.map Rw.t)) _ rfl fun r _ => ⟨[s0, s1, s2, s3, s4, s5, s6, s7, .fz (.lst (LsT Ls)), s9, s10, s11, s12, .fz (.lst (r.map Rw.t)), s14], ?_, ?_, ?_⟩
  · simp [Tg.bind, wipeE]
  · simp [Op.tst]
  · simp only [Ss.ev, S.ev.eq_1, S.ev.eq_2, S.ev.eq_3, S.ev.eq_4, S.ev.eq_5, S.ev.eq_6, S.ev.eq_7, S.ev.eq_10, S.ev.eq_11, S.ev.eq_12, S.ev.eq_13, S.ev.eq_14, S.ev.eq_15, S.ev.eq_16, S.ev.eq_17, S.ev.eq_18, S.ev.eq_19, S.ev.eq_20, E.ev.eq_1, E.ev.eq_2, E.ev.eq_3, E.ev.eq_4, E.ev.eq_5, E.ev.eq_6, E.ev.eq_7, E.ev.eq_8, E.ev.eq_9, E.ev.eq_10, E.ev.eq_11, E.ev.eq_12, E.ev.eq_13, E.ev.eq_14, E.ev.eq_15, E.ev.eq_16, E.ev.eq_17, E.ev.eq_18, E.ev.eq_19, E.ev.eq_20, E.ev.eq_21, E.ev.eq_22, E.ev.eq_23, E.ev.eq_24, E.ev.eq_25, E.ev.eq_26, E.ev.eq_28, E.ev.eq_29, Es.ev, It.ev, Op.ev, Op.tst, slV, slP, ownS, ixT, T.tru, outT, Option.bind_some, Option.map_some, List.getElem?_cons_zero, List.getElem?_cons_succ, List.set_cons_zero, List.set_cons_succ, bAdd, bSub, bMod, bDiv, cLt, cLe, cGt, cGe, cEq, Int.reduceLT, true_and, and_true, and_self, if_true, Bool.false_eq_true, if_false, cond_true, cond_false, ite_true, ite_false, reduceIte, Bi.ap]
theorem program_ok (ns : List Int) : ∃ p, PlOk 20 p ∧ (tab.pg (k + 3)).fn 13 [.scr ns, .int 5] = some p.t := by
  have c0 := cell_at (k + 1) ns 0
  have c1 := cell_at (k + 1) ns 1
  have c2 := cell_at (k + 1) ns 2
  rw [show ((0 : Nat) : Int) = 0 from rfl] at c0
  rw [show ((1 : Nat) : Int) = 1 from rfl] at c1
  rw [show ((2 : Nat) : Int) = 2 from rfl] at c2
  have m0 := mixed_ok (k + 1) (cellAt ns 0) 1 (by decide)
  have m1 := mixed_ok (k + 1) (cellAt ns 1) 2 (by decide)
  have p0 := mixed_lo (cellAt ns 0) 1
  have p1 := mixed_lo (cellAt ns 1) 2
  generalize mixed (cellAt ns 0) 1 = cell at m0 p0
  generalize mixed (cellAt ns 1) 2 = first at m1 p1
  obtain ⟨L, h9, hL, h8⟩ := names_ok (k := k + 1) (cell / 13) (by omega)
  obtain ⟨C, hC1, hC2, hC3⟩ := c13a (k := k + 2) L h9 hL first p1.1 (.fz (.scr ns)) (.fz (.int 5)) (.fz (.int cell))
  rw [fnS]
  show ∃ p, _ ∧ outT (b13.ev (tab.pg (k + 2)) [.fz (.scr ns), .fz (.int 5), .no, .no, .no, .no, .no, .no, .no, .no, .no, .no, .no, .no, .no]) = _
  -- the threads
  obtain ⟨Ls, s1, s9, s10, s11, hl, hok, hth⟩ : ∃ Ls, ∃ s1 s9 s10 s11, Ls.length ≤ 4 ∧ LsOk Ls ∧ ∀ Q, Q = (match b13 with | .cons _ (.cons _ (.cons _ (.cons _ (.cons _ (.cons s _))))) => s | _ => .nop) → Q.ev (tab.pg (k + 2))
      [.fz (.scr ns), .fz (.int 5), .fz (.int cell), .fz (.lst (L.map .str)), .fz (.int first), .fz (.lst [.int 0, .int 0, .int (first / 7 % 100), .int 5]), .fz (.tup (celT C)), .no, .no, .no, .no, .no, .no, .no, .no] =
      some (.nx [.fz (.scr ns), s1, .fz (.int cell), .fz (.lst (L.map .str)), .fz (.int first), .fz (.lst [.int 0, .int 0, .int (first / 7 % 100), .int 5]), .fz (.tup (celT C)), .no, .fz (.lst (LsT Ls)), s9, s10, s11, .no, .no, .no]) := by
    by_cases h3 : cellAt ns 2 % 3 = 1
    · have hm : cellAt ns 1 % 3 * 30 = 0 ∨ cellAt ns 1 % 3 * 30 = 30 ∨ cellAt ns 1 % 3 * 30 = 60 := by omega
      obtain ⟨Ls, ⟨l1, l2⟩, hs⟩ := shaped' (k := k) (cellAt ns 2 / 3) (cellAt ns 1 % 3 * 30) hm h9 hL
      refine ⟨Ls, .fz (.int 5), .no, .no, .no, l1, l2, ?_⟩
      rintro Q rfl
      unfold b13
      dsimp only
      have i30 : BOp.ap .mul (.int (cellAt ns 1 % 3)) (.int 30) = some (.int (cellAt ns 1 % 3 * 30)) := by
        have : inMul (cellAt ns 1 % 3) 30 = true := inMulR (by decide)
        simp only [BOp.ap, this, if_true]
      simp only [Ss.ev, S.ev.eq_1, S.ev.eq_2, S.ev.eq_3, S.ev.eq_4, S.ev.eq_5, S.ev.eq_6, S.ev.eq_7, S.ev.eq_10, S.ev.eq_11, S.ev.eq_12, S.ev.eq_13, S.ev.eq_14, S.ev.eq_15, S.ev.eq_16, S.ev.eq_17, S.ev.eq_18, S.ev.eq_19, S.ev.eq_20, E.ev.eq_1, E.ev.eq_2, E.ev.eq_3, E.ev.eq_4, E.ev.eq_5, E.ev.eq_6, E.ev.eq_7, E.ev.eq_8, E.ev.eq_9, E.ev.eq_10, E.ev.eq_11, E.ev.eq_12, E.ev.eq_13, E.ev.eq_14, E.ev.eq_15, E.ev.eq_16, E.ev.eq_17, E.ev.eq_18, E.ev.eq_19, E.ev.eq_20, E.ev.eq_21, E.ev.eq_22, E.ev.eq_23, E.ev.eq_24, E.ev.eq_25, E.ev.eq_26, E.ev.eq_28, E.ev.eq_29, Es.ev, It.ev, Op.ev, Op.tst, slV, slP, ownS, ixT, T.tru, outT, Option.bind_some, Option.map_some, List.getElem?_cons_zero, List.getElem?_cons_succ, List.set_cons_zero, List.set_cons_succ, bAdd, bSub, bMod, bDiv, cLt, cLe, cGt, cGe, cEq, Int.reduceLT, true_and, and_true, and_self, if_true, Bool.false_eq_true, if_false, cond_true, cond_false, ite_true, ite_false, reduceIte, c1, c2, h3, decide_true, i30, hs, lolT, LsT]
    · obtain ⟨many, hm1, hm2, hm3⟩ : ∃ many : Nat, 1 ≤ many ∧ many ≤ 3 ∧ L2.atI [T.int 2, .int 2, .int 3, .int 1, .int 2] (cellAt ns 2 / 3 % 5) = some (.int (many : Nat)) := by
        have : cellAt ns 2 / 3 % 5 = 0 ∨ cellAt ns 2 / 3 % 5 = 1 ∨ cellAt ns 2 / 3 % 5 = 2 ∨ cellAt ns 2 / 3 % 5 = 3 ∨ cellAt ns 2 / 3 % 5 = 4 := by omega
        rcases this with e | e | e | e | e <;> rw [e]
        · exact ⟨2, by omega, by omega, atI0 _ _⟩
        · exact ⟨2, by omega, by omega, atI1 _ _ _⟩
        · exact ⟨3, by omega, by omega, atI2 _ _ _ _⟩
        · exact ⟨1, by omega, by omega, atI3 _ _ _ _ _⟩
        · exact ⟨2, by omega, by omega, atI_nat _ 4⟩
      obtain ⟨most, hmo, hmin⟩ : ∃ most : Int, (most = 5 ∨ most = 3) ∧ (E.bi .min2 (.cons (.v 1) (.cons (.ix (.lst (.cons (.k (.int 5)) (.cons (.k (.int 5)) (.cons (.k (.int 5)) (.cons (.k (.int 3)) .nil))))) (.v 9)) .nil))).ev (tab.pg (k + 2))
          [.fz (.scr ns), .fz (.int 5), .fz (.int cell), .fz (.lst (L.map .str)), .fz (.int first), .fz (.lst [.int 0, .int 0, .int (first / 7 % 100), .int 5]), .fz (.tup (celT C)), .no, .no, .fz (.int (many : Nat)), .no, .no, .no, .no, .no] = some (.int most) := by
        have : many = 1 ∨ many = 2 ∨ many = 3 := by omega
        rcases this with rfl | rfl | rfl
        · exact ⟨5, .inl rfl, by simp only [Ss.ev, S.ev.eq_1, S.ev.eq_2, S.ev.eq_3, S.ev.eq_4, S.ev.eq_5, S.ev.eq_6, S.ev.eq_7, S.ev.eq_10, S.ev.eq_11, S.ev.eq_12, S.ev.eq_13, S.ev.eq_14, S.ev.eq_15, S.ev.eq_16, S.ev.eq_17, S.ev.eq_18, S.ev.eq_19, S.ev.eq_20, E.ev.eq_1, E.ev.eq_2, E.ev.eq_3, E.ev.eq_4, E.ev.eq_5, E.ev.eq_6, E.ev.eq_7, E.ev.eq_8, E.ev.eq_9, E.ev.eq_10, E.ev.eq_11, E.ev.eq_12, E.ev.eq_13, E.ev.eq_14, E.ev.eq_15, E.ev.eq_16, E.ev.eq_17, E.ev.eq_18, E.ev.eq_19, E.ev.eq_20, E.ev.eq_21, E.ev.eq_22, E.ev.eq_23, E.ev.eq_24, E.ev.eq_25, E.ev.eq_26, E.ev.eq_28, E.ev.eq_29, Es.ev, It.ev, Op.ev, Op.tst, slV, slP, ownS, ixT, T.tru, outT, Option.bind_some, Option.map_some, List.getElem?_cons_zero, List.getElem?_cons_succ, List.set_cons_zero, List.set_cons_succ, bAdd, bSub, bMod, bDiv, cLt, cLe, cGt, cGe, cEq, Int.reduceLT, true_and, and_true, and_self, if_true, Bool.false_eq_true, if_false, cond_true, cond_false, ite_true, ite_false, reduceIte, show ((1 : Nat) : Int) = 1 from rfl, atI1, Bi.ap]⟩
        · exact ⟨5, .inl rfl, by simp only [Ss.ev, S.ev.eq_1, S.ev.eq_2, S.ev.eq_3, S.ev.eq_4, S.ev.eq_5, S.ev.eq_6, S.ev.eq_7, S.ev.eq_10, S.ev.eq_11, S.ev.eq_12, S.ev.eq_13, S.ev.eq_14, S.ev.eq_15, S.ev.eq_16, S.ev.eq_17, S.ev.eq_18, S.ev.eq_19, S.ev.eq_20, E.ev.eq_1, E.ev.eq_2, E.ev.eq_3, E.ev.eq_4, E.ev.eq_5, E.ev.eq_6, E.ev.eq_7, E.ev.eq_8, E.ev.eq_9, E.ev.eq_10, E.ev.eq_11, E.ev.eq_12, E.ev.eq_13, E.ev.eq_14, E.ev.eq_15, E.ev.eq_16, E.ev.eq_17, E.ev.eq_18, E.ev.eq_19, E.ev.eq_20, E.ev.eq_21, E.ev.eq_22, E.ev.eq_23, E.ev.eq_24, E.ev.eq_25, E.ev.eq_26, E.ev.eq_28, E.ev.eq_29, Es.ev, It.ev, Op.ev, Op.tst, slV, slP, ownS, ixT, T.tru, outT, Option.bind_some, Option.map_some, List.getElem?_cons_zero, List.getElem?_cons_succ, List.set_cons_zero, List.set_cons_succ, bAdd, bSub, bMod, bDiv, cLt, cLe, cGt, cGe, cEq, Int.reduceLT, true_and, and_true, and_self, if_true, Bool.false_eq_true, if_false, cond_true, cond_false, ite_true, ite_false, reduceIte, show ((2 : Nat) : Int) = 2 from rfl, atI2, Bi.ap]⟩
        · exact ⟨3, .inr rfl, by simp only [Ss.ev, S.ev.eq_1, S.ev.eq_2, S.ev.eq_3, S.ev.eq_4, S.ev.eq_5, S.ev.eq_6, S.ev.eq_7, S.ev.eq_10, S.ev.eq_11, S.ev.eq_12, S.ev.eq_13, S.ev.eq_14, S.ev.eq_15, S.ev.eq_16, S.ev.eq_17, S.ev.eq_18, S.ev.eq_19, S.ev.eq_20, E.ev.eq_1, E.ev.eq_2, E.ev.eq_3, E.ev.eq_4, E.ev.eq_5, E.ev.eq_6, E.ev.eq_7, E.ev.eq_8, E.ev.eq_9, E.ev.eq_10, E.ev.eq_11, E.ev.eq_12, E.ev.eq_13, E.ev.eq_14, E.ev.eq_15, E.ev.eq_16, E.ev.eq_17, E.ev.eq_18, E.ev.eq_19, E.ev.eq_20, E.ev.eq_21, E.ev.eq_22, E.ev.eq_23, E.ev.eq_24, E.ev.eq_25, E.ev.eq_26, E.ev.eq_28, E.ev.eq_29, Es.ev, It.ev, Op.ev, Op.tst, slV, slP, ownS, ixT, T.tru, outT, Option.bind_some, Option.map_some, List.getElem?_cons_zero, List.getElem?_cons_succ, List.set_cons_zero, List.set_cons_succ, bAdd, bSub, bMod, bDiv, cLt, cLe, cGt, cGe, cEq, Int.reduceLT, true_and, and_true, and_self, if_true, Bool.false_eq_true, if_false, cond_true, cond_false, ite_true, ite_false, reduceIte, show ((3 : Nat) : Int) = 3 from rfl, atI3, Bi.ap]⟩
      obtain ⟨e10, e11, Ls, l1, l2, hs⟩ := t13 (k := k) ns most hmo many hm2 h9 hL (.fz (.int cell)) (.fz (.int first)) (.fz (.lst [.int 0, .int 0, .int (first / 7 % 100), .int 5])) (.fz (.tup (celT C))) .no
      refine ⟨Ls, .fz (.int most), .fz (.int (many : Nat)), e10, e11, l1, l2, ?_⟩
      rintro Q rfl
      unfold b13
      dsimp only
      rw [S.ev.eq_7]
      have hc : (E.cmp .eq (.bin .mod (.call 6 (.cons (.v 0) (.cons (.k (.int 2)) .nil))) (.k (.int 3))) (.k (.int 1))).ev (tab.pg (k + 2)) [.fz (.scr ns), .fz (.int 5), .fz (.int cell), .fz (.lst (L.map .str)), .fz (.int first), .fz (.lst [.int 0, .int 0, .int (first / 7 % 100), .int 5]), .fz (.tup (celT C)), .no, .no, .no, .no, .no, .no, .no, .no] = some (.bl false) := by
        simp only [Ss.ev, S.ev.eq_1, S.ev.eq_2, S.ev.eq_3, S.ev.eq_4, S.ev.eq_5, S.ev.eq_6, S.ev.eq_7, S.ev.eq_10, S.ev.eq_11, S.ev.eq_12, S.ev.eq_13, S.ev.eq_14, S.ev.eq_15, S.ev.eq_16, S.ev.eq_17, S.ev.eq_18, S.ev.eq_19, S.ev.eq_20, E.ev.eq_1, E.ev.eq_2, E.ev.eq_3, E.ev.eq_4, E.ev.eq_5, E.ev.eq_6, E.ev.eq_7, E.ev.eq_8, E.ev.eq_9, E.ev.eq_10, E.ev.eq_11, E.ev.eq_12, E.ev.eq_13, E.ev.eq_14, E.ev.eq_15, E.ev.eq_16, E.ev.eq_17, E.ev.eq_18, E.ev.eq_19, E.ev.eq_20, E.ev.eq_21, E.ev.eq_22, E.ev.eq_23, E.ev.eq_24, E.ev.eq_25, E.ev.eq_26, E.ev.eq_28, E.ev.eq_29, Es.ev, It.ev, Op.ev, Op.tst, slV, slP, ownS, ixT, T.tru, outT, Option.bind_some, Option.map_some, List.getElem?_cons_zero, List.getElem?_cons_succ, List.set_cons_zero, List.set_cons_succ, bAdd, bSub, bMod, bDiv, cLt, cLe, cGt, cGe, cEq, Int.reduceLT, true_and, and_true, and_self, if_true, Bool.false_eq_true, if_false, cond_true, cond_false, ite_true, ite_false, reduceIte, c2, h3, decide_false]
      rw [hc]
      simp only [Option.bind_some, T.tru, cond_false]
      rw [ev_step (env' := [.fz (.scr ns), .fz (.int 5), .fz (.int cell), .fz (.lst (L.map .str)), .fz (.int first), .fz (.lst [.int 0, .int 0, .int (first / 7 % 100), .int 5]), .fz (.tup (celT C)), .no, .no, .fz (.int (many : Nat)), .no, .no, .no, .no, .no]) (by
          simp only [Ss.ev, S.ev.eq_1, S.ev.eq_2, S.ev.eq_3, S.ev.eq_4, S.ev.eq_5, S.ev.eq_6, S.ev.eq_7, S.ev.eq_10, S.ev.eq_11, S.ev.eq_12, S.ev.eq_13, S.ev.eq_14, S.ev.eq_15, S.ev.eq_16, S.ev.eq_17, S.ev.eq_18, S.ev.eq_19, S.ev.eq_20, E.ev.eq_1, E.ev.eq_2, E.ev.eq_3, E.ev.eq_4, E.ev.eq_5, E.ev.eq_6, E.ev.eq_7, E.ev.eq_8, E.ev.eq_9, E.ev.eq_10, E.ev.eq_11, E.ev.eq_12, E.ev.eq_13, E.ev.eq_14, E.ev.eq_15, E.ev.eq_16, E.ev.eq_17, E.ev.eq_18, E.ev.eq_19, E.ev.eq_20, E.ev.eq_21, E.ev.eq_22, E.ev.eq_23, E.ev.eq_24, E.ev.eq_25, E.ev.eq_26, E.ev.eq_28, E.ev.eq_29, Es.ev, It.ev, Op.ev, Op.tst, slV, slP, ownS, ixT, T.tru, outT, Option.bind_some, Option.map_some, List.getElem?_cons_zero, List.getElem?_cons_succ, List.set_cons_zero, List.set_cons_succ, bAdd, bSub, bMod, bDiv, cLt, cLe, cGt, cGe, cEq, Int.reduceLT, true_and, and_true, and_self, if_true, Bool.false_eq_true, if_false, cond_true, cond_false, ite_true, ite_false, reduceIte, c2, hm3]),
        ev_step (env' := [.fz (.scr ns), .fz (.int most), .fz (.int cell), .fz (.lst (L.map .str)), .fz (.int first), .fz (.lst [.int 0, .int 0, .int (first / 7 % 100), .int 5]), .fz (.tup (celT C)), .no, .no, .fz (.int (many : Nat)), .no, .no, .no, .no, .no]) (by
          unfold S.ev
          rw [hmin]; rfl),
        ev_step (env' := [.fz (.scr ns), .fz (.int most), .fz (.int cell), .fz (.lst (L.map .str)), .fz (.int first), .fz (.lst [.int 0, .int 0, .int (first / 7 % 100), .int 5]), .fz (.tup (celT C)), .no, .ow (.lst []), .fz (.int (many : Nat)), .no, .no, .no, .no, .no]) rfl, ev_step hs]
      simp only [Ss.ev, S.ev.eq_1, S.ev.eq_2, S.ev.eq_3, S.ev.eq_4, S.ev.eq_5, S.ev.eq_6, S.ev.eq_7, S.ev.eq_10, S.ev.eq_11, S.ev.eq_12, S.ev.eq_13, S.ev.eq_14, S.ev.eq_15, S.ev.eq_16, S.ev.eq_17, S.ev.eq_18, S.ev.eq_19, S.ev.eq_20, E.ev.eq_1, E.ev.eq_2, E.ev.eq_3, E.ev.eq_4, E.ev.eq_5, E.ev.eq_6, E.ev.eq_7, E.ev.eq_8, E.ev.eq_9, E.ev.eq_10, E.ev.eq_11, E.ev.eq_12, E.ev.eq_13, E.ev.eq_14, E.ev.eq_15, E.ev.eq_16, E.ev.eq_17, E.ev.eq_18, E.ev.eq_19, E.ev.eq_20, E.ev.eq_21, E.ev.eq_22, E.ev.eq_23, E.ev.eq_24, E.ev.eq_25, E.ev.eq_26, E.ev.eq_28, E.ev.eq_29, Es.ev, It.ev, Op.ev, Op.tst, slV, slP, ownS, ixT, T.tru, outT, Option.bind_some, Option.map_some, List.getElem?_cons_zero, List.getElem?_cons_succ, List.set_cons_zero, List.set_cons_succ, bAdd, bSub, bMod, bDiv, cLt, cLe, cGt, cGe, cEq, Int.reduceLT, true_and, and_true, and_self, if_true, Bool.false_eq_true, if_false, cond_true, cond_false, ite_true, ite_false, reduceIte, frzE]
  have hth := hth _ rfl
  obtain ⟨e13, e14, W, hW, hw⟩ := w13 (k := k + 2) Ls hl hok (.fz (.scr ns)) s1 (.fz (.int cell)) (.fz (.lst (L.map .str))) (.fz (.int first)) (.fz (.lst [.int 0, .int 0, .int (first / 7 % 100), .int 5])) (.fz (.tup (celT C))) .no s9 s10 s11 .no .no
  obtain ⟨F, hF3, hF⟩ := c13b (k := k + 2) L h9 hL W hW (.fz (.scr ns)) s1 (.fz (.int cell)) (.fz (.int first)) (.fz (.lst [.int 0, .int 0, .int (first / 7 % 100), .int 5])) (.fz (.tup (celT C))) (.fz (.lst (LsT Ls))) s9 s10 s11 e13 e14
  have ha := add_lst [.int (1 + first / 9 % 3)] ((F.map fun (j : Nat) => (j : Int) + 1).map .int) (by simp only [List.length_map, List.length_cons, List.length_nil]; omega)
  obtain ⟨m, hm⟩ : ∃ m : Int, Bi.ap .max1 [.lst ([.int (1 + first / 9 % 3)] ++ (F.map fun (j : Nat) => (j : Int) + 1).map .int)] = some (.int m) := by
    have e : ints? (.int (1 + first / 9 % 3) :: (F.map fun (j : Nat) => (j : Int) + 1).map T.int) = some ((1 + first / 9 % 3) :: F.map fun (j : Nat) => (j : Int) + 1) := ints_map (_ :: _)
    simp only [Bi.ap, List.cons_append, List.nil_append, e]
    exact ⟨_, rfl⟩
  have hc5 := c13c (k := k + 2) Ls (.fz (.scr ns)) s1 (.fz (.int cell)) (.fz (.lst (L.map .str))) (.fz (.int first)) (.fz (.lst [.int 0, .int 0, .int (first / 7 % 100), .int 5])) (.fz (.tup (celT C))) .no (.fz (.int m)) s10 s11 (.fz (.lst W)) e13 e14
  refine ⟨⟨cutL C none (some m), Ls⟩, ⟨Nat.le_trans (cut_len _ _ _) (by omega), fun q hq => hC2 q (cut_sub _ _ _ _ hq), by show Ls.length ≤ 10; omega, fun r hr => (hok r hr).1, fun r hr w hw => (hok r hr).2 w hw⟩, ?_⟩
  unfold b13 at hth ⊢
  dsimp only at hth
  rw [ev_step (env' := [.fz (.scr ns), .fz (.int 5), .fz (.int cell), .no, .no, .no, .no, .no, .no, .no, .no, .no, .no, .no, .no]) (by
      simp only [Ss.ev, S.ev.eq_1, S.ev.eq_2, S.ev.eq_3, S.ev.eq_4, S.ev.eq_5, S.ev.eq_6, S.ev.eq_7, S.ev.eq_10, S.ev.eq_11, S.ev.eq_12, S.ev.eq_13, S.ev.eq_14, S.ev.eq_15, S.ev.eq_16, S.ev.eq_17, S.ev.eq_18, S.ev.eq_19, S.ev.eq_20, E.ev.eq_1, E.ev.eq_2, E.ev.eq_3, E.ev.eq_4, E.ev.eq_5, E.ev.eq_6, E.ev.eq_7, E.ev.eq_8, E.ev.eq_9, E.ev.eq_10, E.ev.eq_11, E.ev.eq_12, E.ev.eq_13, E.ev.eq_14, E.ev.eq_15, E.ev.eq_16, E.ev.eq_17, E.ev.eq_18, E.ev.eq_19, E.ev.eq_20, E.ev.eq_21, E.ev.eq_22, E.ev.eq_23, E.ev.eq_24, E.ev.eq_25, E.ev.eq_26, E.ev.eq_28, E.ev.eq_29, Es.ev, It.ev, Op.ev, Op.tst, slV, slP, ownS, ixT, T.tru, outT, Option.bind_some, Option.map_some, List.getElem?_cons_zero, List.getElem?_cons_succ, List.set_cons_zero, List.set_cons_succ, bAdd, bSub, bMod, bDiv, cLt, cLe, cGt, cGe, cEq, Int.reduceLT, true_and, and_true, and_self, if_true, Bool.false_eq_true, if_false, cond_true, cond_false, ite_true, ite_false, reduceIte, c0, m0]),
    ev_step (env' := [.fz (.scr ns), .fz (.int 5), .fz (.int cell), .fz (.lst (L.map .str)), .no, .no, .no, .no, .no, .no, .no, .no, .no, .no, .no]) (by
      simp only [Ss.ev, S.ev.eq_1, S.ev.eq_2, S.ev.eq_3, S.ev.eq_4, S.ev.eq_5, S.ev.eq_6, S.ev.eq_7, S.ev.eq_10, S.ev.eq_11, S.ev.eq_12, S.ev.eq_13, S.ev.eq_14, S.ev.eq_15, S.ev.eq_16, S.ev.eq_17, S.ev.eq_18, S.ev.eq_19, S.ev.eq_20, E.ev.eq_1, E.ev.eq_2, E.ev.eq_3, E.ev.eq_4, E.ev.eq_5, E.ev.eq_6, E.ev.eq_7, E.ev.eq_8, E.ev.eq_9, E.ev.eq_10, E.ev.eq_11, E.ev.eq_12, E.ev.eq_13, E.ev.eq_14, E.ev.eq_15, E.ev.eq_16, E.ev.eq_17, E.ev.eq_18, E.ev.eq_19, E.ev.eq_20, E.ev.eq_21, E.ev.eq_22, E.ev.eq_23, E.ev.eq_24, E.ev.eq_25, E.ev.eq_26, E.ev.eq_28, E.ev.eq_29, Es.ev, It.ev, Op.ev, Op.tst, slV, slP, ownS, ixT, T.tru, outT, Option.bind_some, Option.map_some, List.getElem?_cons_zero, List.getElem?_cons_succ, List.set_cons_zero, List.set_cons_succ, bAdd, bSub, bMod, bDiv, cLt, cLe, cGt, cGe, cEq, Int.reduceLT, true_and, and_true, and_self, if_true, Bool.false_eq_true, if_false, cond_true, cond_false, ite_true, ite_false, reduceIte, h8]),
    ev_step (env' := [.fz (.scr ns), .fz (.int 5), .fz (.int cell), .fz (.lst (L.map .str)), .fz (.int first), .no, .no, .no, .no, .no, .no, .no, .no, .no, .no]) (by
      simp only [Ss.ev, S.ev.eq_1, S.ev.eq_2, S.ev.eq_3, S.ev.eq_4, S.ev.eq_5, S.ev.eq_6, S.ev.eq_7, S.ev.eq_10, S.ev.eq_11, S.ev.eq_12, S.ev.eq_13, S.ev.eq_14, S.ev.eq_15, S.ev.eq_16, S.ev.eq_17, S.ev.eq_18, S.ev.eq_19, S.ev.eq_20, E.ev.eq_1, E.ev.eq_2, E.ev.eq_3, E.ev.eq_4, E.ev.eq_5, E.ev.eq_6, E.ev.eq_7, E.ev.eq_8, E.ev.eq_9, E.ev.eq_10, E.ev.eq_11, E.ev.eq_12, E.ev.eq_13, E.ev.eq_14, E.ev.eq_15, E.ev.eq_16, E.ev.eq_17, E.ev.eq_18, E.ev.eq_19, E.ev.eq_20, E.ev.eq_21, E.ev.eq_22, E.ev.eq_23, E.ev.eq_24, E.ev.eq_25, E.ev.eq_26, E.ev.eq_28, E.ev.eq_29, Es.ev, It.ev, Op.ev, Op.tst, slV, slP, ownS, ixT, T.tru, outT, Option.bind_some, Option.map_some, List.getElem?_cons_zero, List.getElem?_cons_succ, List.set_cons_zero, List.set_cons_succ, bAdd, bSub, bMod, bDiv, cLt, cLe, cGt, cGe, cEq, Int.reduceLT, true_and, and_true, and_self, if_true, Bool.false_eq_true, if_false, cond_true, cond_false, ite_true, ite_false, reduceIte, c1, m1]),
    ev_step (env' := [.fz (.scr ns), .fz (.int 5), .fz (.int cell), .fz (.lst (L.map .str)), .fz (.int first), .fz (.lst [.int 0, .int 0, .int (first / 7 % 100), .int 5]), .no, .no, .no, .no, .no, .no, .no, .no, .no]) (by
      simp only [Ss.ev, S.ev.eq_1, S.ev.eq_2, S.ev.eq_3, S.ev.eq_4, S.ev.eq_5, S.ev.eq_6, S.ev.eq_7, S.ev.eq_10, S.ev.eq_11, S.ev.eq_12, S.ev.eq_13, S.ev.eq_14, S.ev.eq_15, S.ev.eq_16, S.ev.eq_17, S.ev.eq_18, S.ev.eq_19, S.ev.eq_20, E.ev.eq_1, E.ev.eq_2, E.ev.eq_3, E.ev.eq_4, E.ev.eq_5, E.ev.eq_6, E.ev.eq_7, E.ev.eq_8, E.ev.eq_9, E.ev.eq_10, E.ev.eq_11, E.ev.eq_12, E.ev.eq_13, E.ev.eq_14, E.ev.eq_15, E.ev.eq_16, E.ev.eq_17, E.ev.eq_18, E.ev.eq_19, E.ev.eq_20, E.ev.eq_21, E.ev.eq_22, E.ev.eq_23, E.ev.eq_24, E.ev.eq_25, E.ev.eq_26, E.ev.eq_28, E.ev.eq_29, Es.ev, It.ev, Op.ev, Op.tst, slV, slP, ownS, ixT, T.tru, outT, Option.bind_some, Option.map_some, List.getElem?_cons_zero, List.getElem?_cons_succ, List.set_cons_zero, List.set_cons_succ, bAdd, bSub, bMod, bDiv, cLt, cLe, cGt, cGe, cEq, Int.reduceLT, true_and, and_true, and_self, if_true, Bool.false_eq_true, if_false, cond_true, cond_false, ite_true, ite_false, reduceIte]),
    ev_step (env' := [.fz (.scr ns), .fz (.int 5), .fz (.int cell), .fz (.lst (L.map .str)), .fz (.int first), .fz (.lst [.int 0, .int 0, .int (first / 7 % 100), .int 5]), .fz (.tup (celT C)), .no, .no, .no, .no, .no, .no, .no, .no]) (by
      simp only [Ss.ev, S.ev.eq_1, S.ev.eq_2, S.ev.eq_3, S.ev.eq_4, S.ev.eq_5, S.ev.eq_6, S.ev.eq_7, S.ev.eq_10, S.ev.eq_11, S.ev.eq_12, S.ev.eq_13, S.ev.eq_14, S.ev.eq_15, S.ev.eq_16, S.ev.eq_17, S.ev.eq_18, S.ev.eq_19, S.ev.eq_20, E.ev.eq_1, E.ev.eq_2, E.ev.eq_3, E.ev.eq_4, E.ev.eq_5, E.ev.eq_6, E.ev.eq_7, E.ev.eq_8, E.ev.eq_9, E.ev.eq_10, E.ev.eq_11, E.ev.eq_12, E.ev.eq_13, E.ev.eq_14, E.ev.eq_15, E.ev.eq_16, E.ev.eq_17, E.ev.eq_18, E.ev.eq_19, E.ev.eq_20, E.ev.eq_21, E.ev.eq_22, E.ev.eq_23, E.ev.eq_24, E.ev.eq_25, E.ev.eq_26, E.ev.eq_28, E.ev.eq_29, Es.ev, It.ev, Op.ev, Op.tst, slV, slP, ownS, ixT, T.tru, outT, Option.bind_some, Option.map_some, List.getElem?_cons_zero, List.getElem?_cons_succ, List.set_cons_zero, List.set_cons_succ, bAdd, bSub, bMod, bDiv, cLt, cLe, cGt, cGe, cEq, Int.reduceLT, true_and, and_true, and_self, if_true, Bool.false_eq_true, if_false, cond_true, cond_false, ite_true, ite_false, reduceIte, hC3, Bi.ap]),
    ev_step hth,
    ev_step (env' := [.fz (.scr ns), s1, .fz (.int cell), .fz (.lst (L.map .str)), .fz (.int first), .fz (.lst [.int 0, .int 0, .int (first / 7 % 100), .int 5]), .fz (.tup (celT C)), .no, .fz (.lst (LsT Ls)), s9, s10, s11, .fz (.lst []), .no, .no]) rfl,
    ev_step hw,
    ev_step (env' := [.fz (.scr ns), s1, .fz (.int cell), .fz (.lst (L.map .str)), .fz (.int first), .fz (.lst [.int 0, .int 0, .int (first / 7 % 100), .int 5]), .fz (.tup (celT C)), .no, .fz (.lst (LsT Ls)), .fz (.int m), s10, s11, .fz (.lst W), e13, e14]) (by
      simp only [Ss.ev, S.ev.eq_1, S.ev.eq_2, S.ev.eq_3, S.ev.eq_4, S.ev.eq_5, S.ev.eq_6, S.ev.eq_7, S.ev.eq_10, S.ev.eq_11, S.ev.eq_12, S.ev.eq_13, S.ev.eq_14, S.ev.eq_15, S.ev.eq_16, S.ev.eq_17, S.ev.eq_18, S.ev.eq_19, S.ev.eq_20, E.ev.eq_1, E.ev.eq_2, E.ev.eq_3, E.ev.eq_4, E.ev.eq_5, E.ev.eq_6, E.ev.eq_7, E.ev.eq_8, E.ev.eq_9, E.ev.eq_10, E.ev.eq_11, E.ev.eq_12, E.ev.eq_13, E.ev.eq_14, E.ev.eq_15, E.ev.eq_16, E.ev.eq_17, E.ev.eq_18, E.ev.eq_19, E.ev.eq_20, E.ev.eq_21, E.ev.eq_22, E.ev.eq_23, E.ev.eq_24, E.ev.eq_25, E.ev.eq_26, E.ev.eq_28, E.ev.eq_29, Es.ev, It.ev, Op.ev, Op.tst, slV, slP, ownS, ixT, T.tru, outT, Option.bind_some, Option.map_some, List.getElem?_cons_zero, List.getElem?_cons_succ, List.set_cons_zero, List.set_cons_succ, bAdd, bSub, bMod, bDiv, cLt, cLe, cGt, cGe, cEq, Int.reduceLT, true_and, and_true, and_self, if_true, Bool.false_eq_true, if_false, cond_true, cond_false, ite_true, ite_false, reduceIte, hF, ha, hm])]
  have hcut : slT (.tup (celT C)) none (some m) = some (.tup (celT (cutL C none (some m)))) := by
    unfold celT
    simp only [slT, cut_map]
  simp only [Ss.ev, S.ev.eq_1, S.ev.eq_2, S.ev.eq_3, S.ev.eq_4, S.ev.eq_5, S.ev.eq_6, S.ev.eq_7, S.ev.eq_10, S.ev.eq_11, S.ev.eq_12, S.ev.eq_13, S.ev.eq_14, S.ev.eq_15, S.ev.eq_16, S.ev.eq_17, S.ev.eq_18, S.ev.eq_19, S.ev.eq_20, E.ev.eq_1, E.ev.eq_2, E.ev.eq_3, E.ev.eq_4, E.ev.eq_5, E.ev.eq_6, E.ev.eq_7, E.ev.eq_8, E.ev.eq_9, E.ev.eq_10, E.ev.eq_11, E.ev.eq_12, E.ev.eq_13, E.ev.eq_14, E.ev.eq_15, E.ev.eq_16, E.ev.eq_17, E.ev.eq_18, E.ev.eq_19, E.ev.eq_20, E.ev.eq_21, E.ev.eq_22, E.ev.eq_23, E.ev.eq_24, E.ev.eq_25, E.ev.eq_26, E.ev.eq_28, E.ev.eq_29, Es.ev, It.ev, Op.ev, Op.tst, slV, slP, ownS, ixT, T.tru, outT, Option.bind_some, Option.map_some, List.getElem?_cons_zero, List.getElem?_cons_succ, List.set_cons_zero, List.set_cons_succ, bAdd, bSub, bMod, bDiv, cLt, cLe, cGt, cGe, cEq, Int.reduceLT, true_and, and_true, and_self, if_true, Bool.false_eq_true, if_false, cond_true, cond_false, ite_true, ite_false, reduceIte, partT, hcut, hc5, Bi.ap, Pl.t]
end
end Tx

set_option Elab.async false
set_option linter.all false
set_option autoImplicit false
set_option maxRecDepth 100000
set_option maxHeartbeats 4000000
namespace Tx
open PySem Fe
theorem ixN_nat {n i : Nat} (h : i < n) : L2.ixN n (i : Int) = some i := by
  unfold L2.ixN
  rw [if_pos (by omega), if_pos (by omega)]
  simp
theorem ev_iffF {P : Pg} {env : En} {c : E} {a b : Ss} (h : c.ev P env = some (.bl false)) : (S.iff c a b).ev P env = b.ev P env := by
  rw [S.ev.eq_7, h]; rfl
theorem ev_iffT {P : Pg} {env : En} {c : E} {a b : Ss} (h : c.ev P env = some (.bl true)) : (S.iff c a b).ev P env = a.ev P env := by
  rw [S.ev.eq_7, h]; rfl
theorem ev_one {P : Pg} {env env' : En} {s : S} (h : s.ev P env = some (.nx env')) : (Ss.cons s .nil).ev P env = some (.nx env') := by
  rw [ev_step h]; rfl
section
variable {k : Nat}
theorem mulI {a b : Int} (h : inMul a b = true) : BOp.ap .mul (.int a) (.int b) = some (.int (a * b)) := by simp only [BOp.ap, h, if_true]
/-- fences put in -/
theorem l18a (c : Int) (t i : Nat) (ht : t ≤ 100) (hi : i ≤ 100) (R : List Rw) (hR : R.length ≤ 1000) (ok : ∀ r ∈ R, RwOk r) (s0 s2 s4 s7 s8 s9 : Sl) :
    ∃ R' : List Rw, R'.length ≤ R.length + 1 ∧ (∀ r ∈ R', RwOk r) ∧ l18_0.ev (tab.pg (k + 1)) [s0, .fz (.int c), s2, .fz (.int (t : Nat)), s4, .ow (.lst (R.map Rw.t)), .fz (.int (i : Nat)), s7, s8, s9] =
      some (.nx [s0, .fz (.int c), s2, .fz (.int (t : Nat)), s4, .ow (.lst (R'.map Rw.t)), .fz (.int (i : Nat)), s7, s8, s9]) := by
  have hLIM : LIM = 16777216 := rfl
  obtain ⟨fc, hc⟩ : ∃ fc : Int, Bm.ap .count (.lst (R.map Rw.t)) [fenT] = some (.int fc) := by
    have hd : deps (R.map Rw.t) DM = true := rows_deps R 59
    have hx : fenT.dep DM = true := rfl
    simp only [Bm.ap, hd, hx, Bool.and_self, if_true]
    exact ⟨_, rfl⟩
  by_cases h5 : fc < 5
  · have e1 := mulI (a := 7) (b := (t : Int)) (inMulL (by decide))
    have e2 := mulI (a := 2) (b := 7 * (t : Int) + (i : Int)) (inMulL (by decide))
    have e3 := mulI (a := c) (b := 1 + 2 * (7 * (t : Int) + (i : Int))) (inMulR (by omega))
    have m1 := mixed_ok k (c * (1 + 2 * (7 * (t : Int) + (i : Int)))) (80 + 7 * (t : Int) + (i : Int)) (by omega)
    generalize mixed (c * (1 + 2 * (7 * (t : Int) + (i : Int)))) (80 + 7 * (t : Int) + (i : Int)) = x at m1
    have hp : (0 : Int) < (R.length : Int) + 1 := by omega
    have hj0 : 0 ≤ x % ((R.length : Int) + 1) := Int.emod_nonneg _ (by omega)
    have hj1 : x % ((R.length : Int) + 1) < 4611686018427387904 := by
      have := Int.emod_lt_of_pos x hp
      omega
    have hln : R.length < LIM := by omega
    generalize hj : x % ((R.length : Int) + 1) = j at hj0 hj1
    refine ⟨R.take j.toNat ++ [Rw.fence] ++ R.drop j.toNat, ?_, fun r hr => ?_, ?_⟩
    · simp only [List.length_append, List.length_take, List.length_drop, List.length_cons, List.length_nil]; omega
    · simp only [List.mem_append, List.mem_singleton] at hr
      rcases hr with (hr | hr) | hr
      · exact ok r (List.mem_of_mem_take hr)
      · subst hr; trivial
      · exact ok r (List.mem_of_mem_drop hr)
    · have hl : Lm.ap .insert (R.map Rw.t) [.int j, fenT] = some ((R.take j.toNat ++ [Rw.fence] ++ R.drop j.toNat).map Rw.t) := by
        have hj2 : j < 2 ^ 62 := by omega
        simp only [Lm.ap, List.length_map]
        rw [if_pos ⟨hln, hj0, hj2⟩, List.map_append, List.map_append, List.map_take, List.map_drop]
        rfl
      simp only [l18_0, Ss.ev, S.ev.eq_1, S.ev.eq_2, S.ev.eq_3, S.ev.eq_4, S.ev.eq_5, S.ev.eq_6, S.ev.eq_7, S.ev.eq_10, S.ev.eq_11, S.ev.eq_12, S.ev.eq_13, S.ev.eq_14, S.ev.eq_15, S.ev.eq_16, S.ev.eq_17, S.ev.eq_18, S.ev.eq_19, S.ev.eq_20, E.ev.eq_1, E.ev.eq_2, E.ev.eq_3, E.ev.eq_4, E.ev.eq_5, E.ev.eq_6, E.ev.eq_7, E.ev.eq_8, E.ev.eq_9, E.ev.eq_10, E.ev.eq_11, E.ev.eq_12, E.ev.eq_13, E.ev.eq_14, E.ev.eq_15, E.ev.eq_16, E.ev.eq_17, E.ev.eq_18, E.ev.eq_19, E.ev.eq_20, E.ev.eq_21, E.ev.eq_22, E.ev.eq_23, E.ev.eq_24, E.ev.eq_25, E.ev.eq_26, E.ev.eq_28, E.ev.eq_29, Es.ev, It.ev, Op.ev, Op.tst, slV, slP, ownS, ixT, T.tru, outT, Option.bind_some, Option.map_some, List.getElem?_cons_zero, List.getElem?_cons_succ, List.set_cons_zero, List.set_cons_succ, bAdd, bSub, bMod, bDiv, cLt, cLe, cGt, cGe, cEq, Int.reduceLT, true_and, and_true, and_self, if_true, Bool.false_eq_true, if_false, cond_true, cond_false, ite_true, ite_false, reduceIte, hc, h5, decide_true, e1, e2, e3, m1, Bi.ap, List.length_map, hp, hj, slO, hl]
  · refine ⟨R, Nat.le_succ _, ok, ?_⟩
    exact ev_one ((ev_iffF (by simp only [Ss.ev, S.ev.eq_1, S.ev.eq_2, S.ev.eq_3, S.ev.eq_4, S.ev.eq_5, S.ev.eq_6, S.ev.eq_7, S.ev.eq_10, S.ev.eq_11, S.ev.eq_12, S.ev.eq_13, S.ev.eq_14, S.ev.eq_15, S.ev.eq_16, S.ev.eq_17, S.ev.eq_18, S.ev.eq_19, S.ev.eq_20, E.ev.eq_1, E.ev.eq_2, E.ev.eq_3, E.ev.eq_4, E.ev.eq_5, E.ev.eq_6, E.ev.eq_7, E.ev.eq_8, E.ev.eq_9, E.ev.eq_10, E.ev.eq_11, E.ev.eq_12, E.ev.eq_13, E.ev.eq_14, E.ev.eq_15, E.ev.eq_16, E.ev.eq_17, E.ev.eq_18, E.ev.eq_19, E.ev.eq_20, E.ev.eq_21, E.ev.eq_22, E.ev.eq_23, E.ev.eq_24, E.ev.eq_25, E.ev.eq_26, E.ev.eq_28, E.ev.eq_29, Es.ev, It.ev, Op.ev, Op.tst, slV, slP, ownS, ixT, T.tru, outT, Option.bind_some, Option.map_some, List.getElem?_cons_zero, List.getElem?_cons_succ, List.set_cons_zero, List.set_cons_succ, bAdd, bSub, bMod, bDiv, cLt, cLe, cGt, cGe, cEq, Int.reduceLT, true_and, and_true, and_self, if_true, Bool.false_eq_true, if_false, cond_true, cond_false, ite_true, ite_false, reduceIte, hc, h5, decide_false])).trans rfl)
/-- skips drawn anew -/
theorem l18b (c : Int) (t i : Nat) (ht : t ≤ 100) (R : List Rw) (hi : i < R.length) (hR : R.length ≤ 1000) (ok : ∀ r ∈ R, RwOk r) (r : Rw) (okr : RwOk r) (s0 s2 s4 s6 s9 : Sl) :
    ∃ s9', ∃ R' : List Rw, R'.length = R.length ∧ (∀ r ∈ R', RwOk r) ∧ l18_1.ev (tab.pg (k + 1)) [s0, .fz (.int c), s2, .fz (.int (t : Nat)), s4, .ow (.lst (R.map Rw.t)), s6, .fz (.int (i : Nat)), .fz r.t, s9] =
      some (.nx [s0, .fz (.int c), s2, .fz (.int (t : Nat)), s4, .ow (.lst (R'.map Rw.t)), s6, .fz (.int (i : Nat)), .fz r.t, s9']) := by
  have e1 := mulI (a := 11) (b := (t : Int)) (inMulL (by decide))
  have e2 := mulI (a := 2) (b := 11 * (t : Int) + (i : Int)) (inMulL (by decide))
  have e3 := mulI (a := c) (b := 1 + 2 * (11 * (t : Int) + (i : Int))) (inMulR (by omega))
  have m1 := mixed_ok k (c * (1 + 2 * (11 * (t : Int) + (i : Int)))) (110 + 11 * (t : Int) + (i : Int)) (by omega)
  have m2 := mixed_lo (c * (1 + 2 * (11 * (t : Int) + (i : Int)))) (110 + 11 * (t : Int) + (i : Int))
  generalize mixed (c * (1 + 2 * (11 * (t : Int) + (i : Int)))) (110 + 11 * (t : Int) + (i : Int)) = x at m1 m2
  have hd : (if (R.length : Int) - (i : Int) < 10 then (R.length : Int) - (i : Int) else 10) = ((min 10 (R.length - i) : Nat) : Int) := by split <;> omega
  have hp : (0 : Int) < ((min 10 (R.length - i) : Nat) : Int) := by omega
  have hv0 : 0 ≤ x / 3 % ((min 10 (R.length - i) : Nat) : Int) := Int.emod_nonneg _ (by omega)
  have hv1 : x / 3 % ((min 10 (R.length - i) : Nat) : Int) < ((min 10 (R.length - i) : Nat) : Int) := Int.emod_lt_of_pos _ hp
  have s1 : (S.set 9 false (.call 7 (.cons (.bin .mul (.v 1) (.bin .add (.k (.int 1)) (.bin .mul (.k (.int 2)) (.bin .add (.bin .mul (.k (.int 11)) (.v 3)) (.v 7))))) (.cons (.bin .add (.bin .add (.k (.int 110)) (.bin .mul (.k (.int 11)) (.v 3))) (.v 7)) .nil)))).ev (tab.pg (k + 1)) [s0, .fz (.int c), s2, .fz (.int (t : Nat)), s4, .ow (.lst (R.map Rw.t)), s6, .fz (.int (i : Nat)), .fz r.t, s9] =
      some (.nx [s0, .fz (.int c), s2, .fz (.int (t : Nat)), s4, .ow (.lst (R.map Rw.t)), s6, .fz (.int (i : Nat)), .fz r.t, .fz (.int x)]) := by
    simp only [Ss.ev, S.ev.eq_1, S.ev.eq_2, S.ev.eq_3, S.ev.eq_4, S.ev.eq_5, S.ev.eq_6, S.ev.eq_7, S.ev.eq_10, S.ev.eq_11, S.ev.eq_12, S.ev.eq_13, S.ev.eq_14, S.ev.eq_15, S.ev.eq_16, S.ev.eq_17, S.ev.eq_18, S.ev.eq_19, S.ev.eq_20, E.ev.eq_1, E.ev.eq_2, E.ev.eq_3, E.ev.eq_4, E.ev.eq_5, E.ev.eq_6, E.ev.eq_7, E.ev.eq_8, E.ev.eq_9, E.ev.eq_10, E.ev.eq_11, E.ev.eq_12, E.ev.eq_13, E.ev.eq_14, E.ev.eq_15, E.ev.eq_16, E.ev.eq_17, E.ev.eq_18, E.ev.eq_19, E.ev.eq_20, E.ev.eq_21, E.ev.eq_22, E.ev.eq_23, E.ev.eq_24, E.ev.eq_25, E.ev.eq_26, E.ev.eq_28, E.ev.eq_29, Es.ev, It.ev, Op.ev, Op.tst, slV, slP, ownS, ixT, T.tru, outT, Option.bind_some, Option.map_some, List.getElem?_cons_zero, List.getElem?_cons_succ, List.set_cons_zero, List.set_cons_succ, bAdd, bSub, bMod, bDiv, cLt, cLe, cGt, cGe, cEq, Int.reduceLT, true_and, and_true, and_self, if_true, Bool.false_eq_true, if_false, cond_true, cond_false, ite_true, ite_false, reduceIte, e1, e2, e3, m1]
  have put : ∀ b : Str, NmOk b → (setiT (R.map Rw.t) (.int (i : Nat)) (.tup [.str "skip", .str b, .int (x / 3 % ((min 10 (R.length - i) : Nat) : Int))]) = some ((R.set i (.skip b (x / 3 % ((min 10 (R.length - i) : Nat) : Int)).toNat)).map Rw.t)) := fun b _ => by
    have e : (((x / 3 % ((min 10 (R.length - i) : Nat) : Int)).toNat : Nat) : Int) = x / 3 % ((min 10 (R.length - i) : Nat) : Int) := by omega
    unfold setiT
    dsimp only
    rw [ixN_nat (by rw [List.length_map]; exact hi), Option.map_some, List.map_set]
    simp only [Rw.t, e]
  have okp : ∀ b : Str, NmOk b → ∀ w ∈ R.set i (.skip b (x / 3 % ((min 10 (R.length - i) : Nat) : Int)).toNat), RwOk w := fun b hb w hw => by
    rcases List.mem_or_eq_of_mem_set hw with h | h
    · exact ok w h
    · subst h; exact ⟨hb, int_ok (by omega) (by omega)⟩
  unfold l18_1 at *
  rw [ev_step s1]
  cases r with
  | skip b n =>
    refine ⟨.fz (.int x), R.set i (.skip b (x / 3 % ((min 10 (R.length - i) : Nat) : Int)).toNat), List.length_set, okp b okr.1, ?_⟩
    have hp1 := put b okr.1
    simp only [Ss.ev, S.ev.eq_1, S.ev.eq_2, S.ev.eq_3, S.ev.eq_4, S.ev.eq_5, S.ev.eq_6, S.ev.eq_7, S.ev.eq_10, S.ev.eq_11, S.ev.eq_12, S.ev.eq_13, S.ev.eq_14, S.ev.eq_15, S.ev.eq_16, S.ev.eq_17, S.ev.eq_18, S.ev.eq_19, S.ev.eq_20, E.ev.eq_1, E.ev.eq_2, E.ev.eq_3, E.ev.eq_4, E.ev.eq_5, E.ev.eq_6, E.ev.eq_7, E.ev.eq_8, E.ev.eq_9, E.ev.eq_10, E.ev.eq_11, E.ev.eq_12, E.ev.eq_13, E.ev.eq_14, E.ev.eq_15, E.ev.eq_16, E.ev.eq_17, E.ev.eq_18, E.ev.eq_19, E.ev.eq_20, E.ev.eq_21, E.ev.eq_22, E.ev.eq_23, E.ev.eq_24, E.ev.eq_25, E.ev.eq_26, E.ev.eq_28, E.ev.eq_29, Es.ev, It.ev, Op.ev, Op.tst, slV, slP, ownS, ixT, T.tru, outT, Option.bind_some, Option.map_some, List.getElem?_cons_zero, List.getElem?_cons_succ, List.set_cons_zero, List.set_cons_succ, bAdd, bSub, bMod, bDiv, cLt, cLe, cGt, cGe, cEq, Int.reduceLT, true_and, and_true, and_self, if_true, Bool.false_eq_true, if_false, cond_true, cond_false, ite_true, ite_false, reduceIte, Rw.t, atI0, atI1, eqS, w_put_put, w_put_get, w_put_swap, w_put_add, w_put_skip, w_put_fence, w_put_row, w_get_put, w_get_get, w_get_swap, w_get_add, w_get_skip, w_get_fence, w_get_row, w_swap_put, w_swap_get, w_swap_swap, w_swap_add, w_swap_skip, w_swap_fence, w_swap_row, w_add_put, w_add_get, w_add_swap, w_add_add, w_add_skip, w_add_fence, w_add_row, w_skip_put, w_skip_get, w_skip_swap, w_skip_add, w_skip_skip, w_skip_fence, w_skip_row, w_fence_put, w_fence_get, w_fence_swap, w_fence_add, w_fence_skip, w_fence_fence, w_fence_row, w_row_put, w_row_get, w_row_swap, w_row_add, w_row_skip, w_row_fence, w_row_row, Bi.ap, List.length_map, hd, hp, slO]
    rw [hp1]
    rfl
  | get b cc =>
    by_cases h3 : x % 3 = 1
    · refine ⟨.fz (.int x), R.set i (.skip b (x / 3 % ((min 10 (R.length - i) : Nat) : Int)).toNat), List.length_set, okp b okr.1, ?_⟩
      have hp1 := put b okr.1
      simp only [Ss.ev, S.ev.eq_1, S.ev.eq_2, S.ev.eq_3, S.ev.eq_4, S.ev.eq_5, S.ev.eq_6, S.ev.eq_7, S.ev.eq_10, S.ev.eq_11, S.ev.eq_12, S.ev.eq_13, S.ev.eq_14, S.ev.eq_15, S.ev.eq_16, S.ev.eq_17, S.ev.eq_18, S.ev.eq_19, S.ev.eq_20, E.ev.eq_1, E.ev.eq_2, E.ev.eq_3, E.ev.eq_4, E.ev.eq_5, E.ev.eq_6, E.ev.eq_7, E.ev.eq_8, E.ev.eq_9, E.ev.eq_10, E.ev.eq_11, E.ev.eq_12, E.ev.eq_13, E.ev.eq_14, E.ev.eq_15, E.ev.eq_16, E.ev.eq_17, E.ev.eq_18, E.ev.eq_19, E.ev.eq_20, E.ev.eq_21, E.ev.eq_22, E.ev.eq_23, E.ev.eq_24, E.ev.eq_25, E.ev.eq_26, E.ev.eq_28, E.ev.eq_29, Es.ev, It.ev, Op.ev, Op.tst, slV, slP, ownS, ixT, T.tru, outT, Option.bind_some, Option.map_some, List.getElem?_cons_zero, List.getElem?_cons_succ, List.set_cons_zero, List.set_cons_succ, bAdd, bSub, bMod, bDiv, cLt, cLe, cGt, cGe, cEq, Int.reduceLT, true_and, and_true, and_self, if_true, Bool.false_eq_true, if_false, cond_true, cond_false, ite_true, ite_false, reduceIte, Rw.t, atI0, atI1, eqS, w_put_put, w_put_get, w_put_swap, w_put_add, w_put_skip, w_put_fence, w_put_row, w_get_put, w_get_get, w_get_swap, w_get_add, w_get_skip, w_get_fence, w_get_row, w_swap_put, w_swap_get, w_swap_swap, w_swap_add, w_swap_skip, w_swap_fence, w_swap_row, w_add_put, w_add_get, w_add_swap, w_add_add, w_add_skip, w_add_fence, w_add_row, w_skip_put, w_skip_get, w_skip_swap, w_skip_add, w_skip_skip, w_skip_fence, w_skip_row, w_fence_put, w_fence_get, w_fence_swap, w_fence_add, w_fence_skip, w_fence_fence, w_fence_row, w_row_put, w_row_get, w_row_swap, w_row_add, w_row_skip, w_row_fence, w_row_row, Bi.ap, List.length_map, hd, hp, slO, h3, decide_true]
      rw [hp1]
      rfl
    · exact ⟨.fz (.int x), R, rfl, ok, by simp only [Ss.ev, S.ev.eq_1, S.ev.eq_2, S.ev.eq_3, S.ev.eq_4, S.ev.eq_5, S.ev.eq_6, S.ev.eq_7, S.ev.eq_10, S.ev.eq_11, S.ev.eq_12, S.ev.eq_13, S.ev.eq_14, S.ev.eq_15, S.ev.eq_16, S.ev.eq_17, S.ev.eq_18, S.ev.eq_19, S.ev.eq_20, E.ev.eq_1, E.ev.eq_2, E.ev.eq_3, E.ev.eq_4, E.ev.eq_5, E.ev.eq_6, E.ev.eq_7, E.ev.eq_8, E.ev.eq_9, E.ev.eq_10, E.ev.eq_11, E.ev.eq_12, E.ev.eq_13, E.ev.eq_14, E.ev.eq_15, E.ev.eq_16, E.ev.eq_17, E.ev.eq_18, E.ev.eq_19, E.ev.eq_20, E.ev.eq_21, E.ev.eq_22, E.ev.eq_23, E.ev.eq_24, E.ev.eq_25, E.ev.eq_26, E.ev.eq_28, E.ev.eq_29, Es.ev, It.ev, Op.ev, Op.tst, slV, slP, ownS, ixT, T.tru, outT, Option.bind_some, Option.map_some, List.getElem?_cons_zero, List.getElem?_cons_succ, List.set_cons_zero, List.set_cons_succ, bAdd, bSub, bMod, bDiv, cLt, cLe, cGt, cGe, cEq, Int.reduceLT, true_and, and_true, and_self, if_true, Bool.false_eq_true, if_false, cond_true, cond_false, ite_true, ite_false, reduceIte, Rw.t, atI0, eqS, w_put_put, w_put_get, w_put_swap, w_put_add, w_put_skip, w_put_fence, w_put_row, w_get_put, w_get_get, w_get_swap, w_get_add, w_get_skip, w_get_fence, w_get_row, w_swap_put, w_swap_get, w_swap_swap, w_swap_add, w_swap_skip, w_swap_fence, w_swap_row, w_add_put, w_add_get, w_add_swap, w_add_add, w_add_skip, w_add_fence, w_add_row, w_skip_put, w_skip_get, w_skip_swap, w_skip_add, w_skip_skip, w_skip_fence, w_skip_row, w_fence_put, w_fence_get, w_fence_swap, w_fence_add, w_fence_skip, w_fence_fence, w_fence_row, w_row_put, w_row_get, w_row_swap, w_row_add, w_row_skip, w_row_fence, w_row_row, h3, decide_false]⟩
  | _ => exact ⟨.fz (.int x), R, rfl, ok, by simp only [Ss.ev, S.ev.eq_1, S.ev.eq_2, S.ev.eq_3, S.ev.eq_4, S.ev.eq_5, S.ev.eq_6, S.ev.eq_7, S.ev.eq_10, S.ev.eq_11, S.ev.eq_12, S.ev.eq_13, S.ev.eq_14, S.ev.eq_15, S.ev.eq_16, S.ev.eq_17, S.ev.eq_18, S.ev.eq_19, S.ev.eq_20, E.ev.eq_1, E.ev.eq_2, E.ev.eq_3, E.ev.eq_4, E.ev.eq_5, E.ev.eq_6, E.ev.eq_7, E.ev.eq_8, E.ev.eq_9, E.ev.eq_10, E.ev.eq_11, E.ev.eq_12, E.ev.eq_13, E.ev.eq_14, E.ev.eq_15, E.ev.eq_16, E.ev.eq_17, E.ev.eq_18, E.ev.eq_19, E.ev.eq_20, E.ev.eq_21, E.ev.eq_22, E.ev.eq_23, E.ev.eq_24, E.ev.eq_25, E.ev.eq_26, E.ev.eq_28, E.ev.eq_29, Es.ev, It.ev, Op.ev, Op.tst, slV, slP, ownS, ixT, T.tru, outT, Option.bind_some, Option.map_some, List.getElem?_cons_zero, List.getElem?_cons_succ, List.set_cons_zero, List.set_cons_succ, bAdd, bSub, bMod, bDiv, cLt, cLe, cGt, cGe, cEq, Int.reduceLT, true_and, and_true, and_self, if_true, Bool.false_eq_true, if_false, cond_true, cond_false, ite_true, ite_false, reduceIte, Rw.t, atI0, eqS, w_put_put, w_put_get, w_put_swap, w_put_add, w_put_skip, w_put_fence, w_put_row, w_get_put, w_get_get, w_get_swap, w_get_add, w_get_skip, w_get_fence, w_get_row, w_swap_put, w_swap_get, w_swap_swap, w_swap_add, w_swap_skip, w_swap_fence, w_swap_row, w_add_put, w_add_get, w_add_swap, w_add_add, w_add_skip, w_add_fence, w_add_row, w_skip_put, w_skip_get, w_skip_swap, w_skip_add, w_skip_skip, w_skip_fence, w_skip_row, w_fence_put, w_fence_get, w_fence_swap, w_fence_add, w_fence_skip, w_fence_fence, w_fence_row, w_row_put, w_row_get, w_row_swap, w_row_add, w_row_skip, w_row_fence, w_row_row]⟩
end
end Tx

set_option Elab.async false
set_option linter.all false
set_option autoImplicit false
set_option maxRecDepth 100000
set_option maxHeartbeats 4000000
namespace Tx
open PySem Fe
section
variable {k : Nat}
theorem l18c (c : Int) (t : Nat) (ht : t ≤ 100) (R : List Rw) (hR : R.length ≤ 20) (ok : ∀ r ∈ R, RwOk r) (s0 s5 s6 s7 s8 s9 : Sl) (A : List T) (hA : A.length ≤ 1000) :
    ∃ s5' s6' s7' s8' s9', ∃ R' : List Rw, R'.length ≤ 100 ∧ (∀ r ∈ R', RwOk r) ∧ l18_2.ev (tab.pg (k + 1)) [s0, .fz (.int c), .ow (.lst A), .fz (.int (t : Nat)), .fz (.tup (R.map Rw.t)), s5, s6, s7, s8, s9] =
      some (.nx [s0, .fz (.int c), .ow (.lst (A ++ [.tup (R'.map Rw.t)])), .fz (.int (t : Nat)), .fz (.tup (R.map Rw.t)), s5', s6', s7', s8', s9']) := by
  have hLIM : LIM = 16777216 := rfl
  have e2 := mulI (a := 2) (b := (t : Int)) (inMulL (by decide))
  have e3 := mulI (a := c) (b := 1 + 2 * (t : Int)) (inMulR (by omega))
  have m1 := mixed_ok k (c * (1 + 2 * (t : Int))) (70 + (t : Int)) (by omega)
  have m2 := mixed_lo (c * (1 + 2 * (t : Int))) (70 + (t : Int))
  generalize mixed (c * (1 + 2 * (t : Int))) (70 + (t : Int)) = x at m1 m2
  obtain ⟨n, hn, hx⟩ : ∃ n : Nat, n ≤ 4 ∧ 1 + x % 4 = (n : Int) := ⟨(1 + x % 4).toNat, by omega, by omega⟩
  have hr := rng_nat n (by omega)
  unfold l18_2
  rw [ev_step (env' := [s0, .fz (.int c), .ow (.lst A), .fz (.int (t : Nat)), .fz (.tup (R.map Rw.t)), .ow (.lst (R.map Rw.t)), s6, s7, s8, s9]) (by
    simp only [Ss.ev, S.ev.eq_1, S.ev.eq_2, S.ev.eq_3, S.ev.eq_4, S.ev.eq_5, S.ev.eq_6, S.ev.eq_7, S.ev.eq_10, S.ev.eq_11, S.ev.eq_12, S.ev.eq_13, S.ev.eq_14, S.ev.eq_15, S.ev.eq_16, S.ev.eq_17, S.ev.eq_18, S.ev.eq_19, S.ev.eq_20, E.ev.eq_1, E.ev.eq_2, E.ev.eq_3, E.ev.eq_4, E.ev.eq_5, E.ev.eq_6, E.ev.eq_7, E.ev.eq_8, E.ev.eq_9, E.ev.eq_10, E.ev.eq_11, E.ev.eq_12, E.ev.eq_13, E.ev.eq_14, E.ev.eq_15, E.ev.eq_16, E.ev.eq_17, E.ev.eq_18, E.ev.eq_19, E.ev.eq_20, E.ev.eq_21, E.ev.eq_22, E.ev.eq_23, E.ev.eq_24, E.ev.eq_25, E.ev.eq_26, E.ev.eq_28, E.ev.eq_29, Es.ev, It.ev, Op.ev, Op.tst, slV, slP, ownS, ixT, T.tru, outT, Option.bind_some, Option.map_some, List.getElem?_cons_zero, List.getElem?_cons_succ, List.set_cons_zero, List.set_cons_succ, bAdd, bSub, bMod, bDiv, cLt, cLe, cGt, cGe, cEq, Int.reduceLT, true_and, and_true, and_self, if_true, Bool.false_eq_true, if_false, cond_true, cond_false, ite_true, ite_false, reduceIte, Bi.ap])]
  obtain ⟨env', h4, e6, R1, r1, r2, rfl⟩ := ev_rngFor (P := tab.pg (k + 1)) (env := [s0, .fz (.int c), .ow (.lst A), .fz (.int (t : Nat)), .fz (.tup (R.map Rw.t)), .ow (.lst (R.map Rw.t)), s6, s7, s8, s9]) (v := 6) (it := .rng (.bin .add (.k (.int 1)) (.bin .mod (.call 7 (.cons (.bin .mul (.v 1) (.bin .add (.k (.int 1)) (.bin .mul (.k (.int 2)) (.v 3)))) (.cons (.bin .add (.k (.int 70)) (.v 3)) .nil))) (.k (.int 4))))) (b := l18_0) (n := n)
    (fun i env => ∃ e6, ∃ R1 : List Rw, R1.length ≤ 20 + i ∧ (∀ r ∈ R1, RwOk r) ∧ env = [s0, .fz (.int c), .ow (.lst A), .fz (.int (t : Nat)), .fz (.tup (R.map Rw.t)), .ow (.lst (R1.map Rw.t)), e6, s7, s8, s9]) (by
      simp only [Ss.ev, S.ev.eq_1, S.ev.eq_2, S.ev.eq_3, S.ev.eq_4, S.ev.eq_5, S.ev.eq_6, S.ev.eq_7, S.ev.eq_10, S.ev.eq_11, S.ev.eq_12, S.ev.eq_13, S.ev.eq_14, S.ev.eq_15, S.ev.eq_16, S.ev.eq_17, S.ev.eq_18, S.ev.eq_19, S.ev.eq_20, E.ev.eq_1, E.ev.eq_2, E.ev.eq_3, E.ev.eq_4, E.ev.eq_5, E.ev.eq_6, E.ev.eq_7, E.ev.eq_8, E.ev.eq_9, E.ev.eq_10, E.ev.eq_11, E.ev.eq_12, E.ev.eq_13, E.ev.eq_14, E.ev.eq_15, E.ev.eq_16, E.ev.eq_17, E.ev.eq_18, E.ev.eq_19, E.ev.eq_20, E.ev.eq_21, E.ev.eq_22, E.ev.eq_23, E.ev.eq_24, E.ev.eq_25, E.ev.eq_26, E.ev.eq_28, E.ev.eq_29, Es.ev, It.ev, Op.ev, Op.tst, slV, slP, ownS, ixT, T.tru, outT, Option.bind_some, Option.map_some, List.getElem?_cons_zero, List.getElem?_cons_succ, List.set_cons_zero, List.set_cons_succ, bAdd, bSub, bMod, bDiv, cLt, cLe, cGt, cGe, cEq, Int.reduceLT, true_and, and_true, and_self, if_true, Bool.false_eq_true, if_false, cond_true, cond_false, ite_true, ite_false, reduceIte, e2, e3, m1, hx, hr]) ⟨_, R, hR, ok, rfl⟩ (by
    rintro i env hi ⟨e6, R1, r1, r2, rfl⟩
    obtain ⟨R2, q1, q2, q3⟩ := l18a (k := k) c t i ht (by omega) R1 (by omega) r2 s0 (.ow (.lst A)) (.fz (.tup (R.map Rw.t))) s7 s8 s9
    exact ⟨_, .inl q3, _, R2, by omega, q2, rfl⟩)
  rw [ev_step h4]
  obtain ⟨env', h5, e7, e8, e9, R2, p1, p2, rfl⟩ := ev_for (P := tab.pg (k + 1)) (env := [s0, .fz (.int c), .ow (.lst A), .fz (.int (t : Nat)), .fz (.tup (R.map Rw.t)), .ow (.lst (R1.map Rw.t)), e6, s7, s8, s9]) (tg := .tt [7, 8]) (it := .enu (.bi .list (.cons (.p 5) .nil))) (ts := enumT 0 (R1.map Rw.t)) (b := l18_1)
    (fun i env => ∃ e7 e8 e9, ∃ R2 : List Rw, R2.length = R1.length ∧ (∀ r ∈ R2, RwOk r) ∧ env = [s0, .fz (.int c), .ow (.lst A), .fz (.int (t : Nat)), .fz (.tup (R.map Rw.t)), .ow (.lst (R2.map Rw.t)), e6, e7, e8, e9]) (by
      simp only [Ss.ev, S.ev.eq_1, S.ev.eq_2, S.ev.eq_3, S.ev.eq_4, S.ev.eq_5, S.ev.eq_6, S.ev.eq_7, S.ev.eq_10, S.ev.eq_11, S.ev.eq_12, S.ev.eq_13, S.ev.eq_14, S.ev.eq_15, S.ev.eq_16, S.ev.eq_17, S.ev.eq_18, S.ev.eq_19, S.ev.eq_20, E.ev.eq_1, E.ev.eq_2, E.ev.eq_3, E.ev.eq_4, E.ev.eq_5, E.ev.eq_6, E.ev.eq_7, E.ev.eq_8, E.ev.eq_9, E.ev.eq_10, E.ev.eq_11, E.ev.eq_12, E.ev.eq_13, E.ev.eq_14, E.ev.eq_15, E.ev.eq_16, E.ev.eq_17, E.ev.eq_18, E.ev.eq_19, E.ev.eq_20, E.ev.eq_21, E.ev.eq_22, E.ev.eq_23, E.ev.eq_24, E.ev.eq_25, E.ev.eq_26, E.ev.eq_28, E.ev.eq_29, Es.ev, It.ev, Op.ev, Op.tst, slV, slP, ownS, ixT, T.tru, outT, Option.bind_some, Option.map_some, List.getElem?_cons_zero, List.getElem?_cons_succ, List.set_cons_zero, List.set_cons_succ, bAdd, bSub, bMod, bDiv, cLt, cLe, cGt, cGe, cEq, Int.reduceLT, true_and, and_true, and_self, if_true, Bool.false_eq_true, if_false, cond_true, cond_false, ite_true, ite_false, reduceIte, Bi.ap, enuT]) ⟨_, _, _, R1, rfl, r2, rfl⟩ (by
    rintro i u env hu ⟨e7, e8, e9, R2, p1, p2, rfl⟩
    obtain ⟨u', hu2, rfl⟩ := enum_at hu
    rw [List.getElem?_map] at hu2
    obtain ⟨r, hr, rfl⟩ := mpd hu2
    have hi : i < R1.length := (List.getElem?_eq_some_iff.mp hr).1
    obtain ⟨s9', R3, q1, q2, q3⟩ := l18b (k := k) c t i ht R2 (by omega) (by omega) p2 r (r2 r (List.mem_of_getElem? hr)) s0 (.ow (.lst A)) (.fz (.tup (R.map Rw.t))) e6 e9
    exact ⟨_, _, rfl, .inl q3, _, _, _, R3, by omega, q2, rfl⟩)
  rw [ev_step h5]
  have hln : A.length < LIM := by omega
  refine ⟨.ow (.lst (R2.map Rw.t)), e6, e7, e8, e9, R2, by omega, p2, ?_⟩
  simp only [Ss.ev, S.ev.eq_1, S.ev.eq_2, S.ev.eq_3, S.ev.eq_4, S.ev.eq_5, S.ev.eq_6, S.ev.eq_7, S.ev.eq_10, S.ev.eq_11, S.ev.eq_12, S.ev.eq_13, S.ev.eq_14, S.ev.eq_15, S.ev.eq_16, S.ev.eq_17, S.ev.eq_18, S.ev.eq_19, S.ev.eq_20, E.ev.eq_1, E.ev.eq_2, E.ev.eq_3, E.ev.eq_4, E.ev.eq_5, E.ev.eq_6, E.ev.eq_7, E.ev.eq_8, E.ev.eq_9, E.ev.eq_10, E.ev.eq_11, E.ev.eq_12, E.ev.eq_13, E.ev.eq_14, E.ev.eq_15, E.ev.eq_16, E.ev.eq_17, E.ev.eq_18, E.ev.eq_19, E.ev.eq_20, E.ev.eq_21, E.ev.eq_22, E.ev.eq_23, E.ev.eq_24, E.ev.eq_25, E.ev.eq_26, E.ev.eq_28, E.ev.eq_29, Es.ev, It.ev, Op.ev, Op.tst, slV, slP, ownS, ixT, T.tru, outT, Option.bind_some, Option.map_some, List.getElem?_cons_zero, List.getElem?_cons_succ, List.set_cons_zero, List.set_cons_succ, bAdd, bSub, bMod, bDiv, cLt, cLe, cGt, cGe, cEq, Int.reduceLT, true_and, and_true, and_self, if_true, Bool.false_eq_true, if_false, cond_true, cond_false, ite_true, ite_false, reduceIte, Bi.ap, slO, Lm.ap, hln]
theorem strewn (p : Pl) (hp : PlOk 20 p) (c : Int) : ∃ q, PlOk 100 q ∧ (tab.pg (k + 2)).fn 18 [p.t, .int c] = some q.t := by
  rw [fnS]
  show ∃ q, _ ∧ outT (b18.ev (tab.pg (k + 1)) [.fz p.t, .fz (.int c), .no, .no, .no, .no, .no, .no, .no, .no]) = _
  unfold b18
  rw [ev_step (env' := [.fz p.t, .fz (.int c), .ow (.lst []), .no, .no, .no, .no, .no, .no, .no]) rfl]
  have htl := hp.tl
  obtain ⟨env', h4, e3, e4, e5, e6, e7, e8, e9, L, l1, l2, l3, rfl⟩ := ev_for (P := tab.pg (k + 1)) (env := [.fz p.t, .fz (.int c), .ow (.lst []), .no, .no, .no, .no, .no, .no, .no]) (tg := .tt [3, 4]) (it := .enu (.ix (.v 0) (.k (.int 1)))) (ts := enumT 0 (thsT p.ths)) (b := l18_2)
    (fun i env => ∃ e3 e4 e5 e6 e7 e8 e9, ∃ L : List (List Rw), L.length = i ∧ (∀ r ∈ L, r.length ≤ 100) ∧ (∀ r ∈ L, ∀ w ∈ r, RwOk w) ∧ env = [.fz p.t, .fz (.int c), .ow (.lst (thsT L)), e3, e4, e5, e6, e7, e8, e9]) (by simp [Ss.ev, S.ev.eq_1, S.ev.eq_2, S.ev.eq_3, S.ev.eq_4, S.ev.eq_5, S.ev.eq_6, S.ev.eq_7, S.ev.eq_10, S.ev.eq_11, S.ev.eq_12, S.ev.eq_13, S.ev.eq_14, S.ev.eq_15, S.ev.eq_16, S.ev.eq_17, S.ev.eq_18, S.ev.eq_19, S.ev.eq_20, E.ev.eq_1, E.ev.eq_2, E.ev.eq_3, E.ev.eq_4, E.ev.eq_5, E.ev.eq_6, E.ev.eq_7, E.ev.eq_8, E.ev.eq_9, E.ev.eq_10, E.ev.eq_11, E.ev.eq_12, E.ev.eq_13, E.ev.eq_14, E.ev.eq_15, E.ev.eq_16, E.ev.eq_17, E.ev.eq_18, E.ev.eq_19, E.ev.eq_20, E.ev.eq_21, E.ev.eq_22, E.ev.eq_23, E.ev.eq_24, E.ev.eq_25, E.ev.eq_26, E.ev.eq_28, E.ev.eq_29, Es.ev, It.ev, Op.ev, Op.tst, slV, slP, ownS, ixT, T.tru, outT, Pl.t, atI1, enuT]) ⟨_, _, _, _, _, _, _, [], rfl, (fun _ h => nomatch h), (fun _ h => nomatch h), rfl⟩ (by
    rintro i t env ht ⟨e3, e4, e5, e6, e7, e8, e9, L, l1, l2, l3, rfl⟩
    obtain ⟨u, hu, rfl⟩ := enum_at ht
    unfold thsT at hu
    rw [List.getElem?_map] at hu
    obtain ⟨r, hr, rfl⟩ := mpd hu
    have hi : i < p.ths.length := (List.getElem?_eq_some_iff.mp hr).1
    have hm := List.mem_of_getElem? hr
    obtain ⟨s5', s6', s7', s8', s9', R', q1, q2, q3⟩ := l18c (k := k) c i (by omega) r (hp.rl r hm) (hp.ro r hm) (.fz p.t) e5 e6 e7 e8 e9 (thsT L) (by unfold thsT; rw [List.length_map]; omega)
    refine ⟨_, _, rfl, .inl q3, _, _, _, _, _, _, _, L ++ [R'], by rw [List.length_append, l1]; rfl, fun w hw => ?_, fun w hw => ?_, by unfold thsT; rw [List.map_append]; rfl⟩
    · rcases List.mem_append.mp hw with hw | hw
      · exact l2 w hw
      · rw [List.mem_singleton.mp hw]; exact q1
    · rcases List.mem_append.mp hw with hw | hw
      · exact l3 w hw
      · rw [List.mem_singleton.mp hw]; exact q2)
  have hln : (enumT 0 (thsT p.ths)).length = p.ths.length := by
    rw [enumT_len]; simp [thsT]
  rw [hln] at l1
  refine ⟨⟨p.cells, L⟩, ⟨hp.cl, hp.co, by show L.length ≤ 10; omega, l2, l3⟩, ?_⟩
  rw [ev_step h4]
  simp only [Ss.ev, S.ev.eq_1, S.ev.eq_2, S.ev.eq_3, S.ev.eq_4, S.ev.eq_5, S.ev.eq_6, S.ev.eq_7, S.ev.eq_10, S.ev.eq_11, S.ev.eq_12, S.ev.eq_13, S.ev.eq_14, S.ev.eq_15, S.ev.eq_16, S.ev.eq_17, S.ev.eq_18, S.ev.eq_19, S.ev.eq_20, E.ev.eq_1, E.ev.eq_2, E.ev.eq_3, E.ev.eq_4, E.ev.eq_5, E.ev.eq_6, E.ev.eq_7, E.ev.eq_8, E.ev.eq_9, E.ev.eq_10, E.ev.eq_11, E.ev.eq_12, E.ev.eq_13, E.ev.eq_14, E.ev.eq_15, E.ev.eq_16, E.ev.eq_17, E.ev.eq_18, E.ev.eq_19, E.ev.eq_20, E.ev.eq_21, E.ev.eq_22, E.ev.eq_23, E.ev.eq_24, E.ev.eq_25, E.ev.eq_26, E.ev.eq_28, E.ev.eq_29, Es.ev, It.ev, Op.ev, Op.tst, slV, slP, ownS, ixT, T.tru, outT, Option.bind_some, Option.map_some, List.getElem?_cons_zero, List.getElem?_cons_succ, List.set_cons_zero, List.set_cons_succ, bAdd, bSub, bMod, bDiv, cLt, cLe, cGt, cGe, cEq, Int.reduceLT, true_and, and_true, and_self, if_true, Bool.false_eq_true, if_false, cond_true, cond_false, ite_true, ite_false, reduceIte, Pl.t, atI0, Bi.ap]
theorem law_ok (ns : List Int) (h : ns.length ≤ 63) : tab.fnO (tab.pg 38) lawI [.scr ns] = some (.bl true) := by
  obtain ⟨p, hp, h13⟩ := program_ok (k := 35) ns
  show outT (b22.ev (tab.pg 38) [.fz (.scr ns), .no, .no, .no, .no, .no, .no, .no, .no]) = _
  exact law_end (k := 26) ns p (hp.le (by decide)) h13 (fun c _ => strewn (k := 36) p hp c) (fun r hr c hc => law_places (k := 36) r hr c hc)
end
end Tx

set_option Elab.async false
set_option linter.all false
set_option maxRecDepth 100000
set_option maxHeartbeats 0
namespace Tx
open PySem PySem.Spec PyProof.Rows L2 Fe
def ob (s : PySem.W.SharedT) : He.AlD × Bool := obT 4 tab (HandSHeadRun.getT s)
theorem ob_eq (s : PySem.W.SharedT) : ob s = (hkT 4 tab).obs s.abs := obT_eq (HandSHeadRun.getT_eq s)
theorem run (w : World) : HandSHeadRun.RunEq R (PySem.W.view R.prog [36]) (hkT 4 tab) ob 4000 names w := by
  intro os
  kernel_rfl
end Tx

set_option Elab.async false
set_option linter.all false
set_option maxRecDepth 100000
set_option maxHeartbeats 0
open PySem PySem.W PySem.Calls PyProof.Rows
theorem PySem.Challenge.cw_fencerow_k60_bare_and_fenced_holds : PySem.Challenge.rw_fencerow_k60_bare_and_fenced.Holds := by
  w_on; o_law
  refine HandSHeadRun.head_any (r := OpenLaw.row PySem.Challenge.rw_fencerow_k60_bare_and_fenced) (q := view (OpenLaw.row PySem.Challenge.rw_fencerow_k60_bare_and_fenced).prog [36]) (H := Fe.hkT 4 Tx.tab) (ob := Tx.ob) (M := 4000) (loose := Tx.names) (d := HandSHeadRun.topDef (OpenLaw.row PySem.Challenge.rw_fencerow_k60_bare_and_fenced).prog 36) (kwd := []) Tx.ob_eq
    (by kernel_rfl) (fun s => by kernel_rfl) Tx.run (by kernel_rfl) (by kernel_rfl) (by kernel_rfl) (by rfl) (by first | assumption | decide +kernel) (by decide +kernel) ⟨rfl, rfl, rfl, rfl, rfl, by decide +kernel⟩ ?hw ?hc
  case hw => w_witness2
  case hc =>
    exact Fe.walkG (n := 63) (li := Tx.lawI) (f := Tx.f22) (x := "_law_script") rfl (by decide) (by decide) (by kernel_rfl) Tx.sOk Tx.bOk rfl (by kernel_rfl) rfl Tx.law_ok
