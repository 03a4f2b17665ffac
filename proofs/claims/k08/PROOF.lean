import PyProof.Rows.All
import Wide.All
import OpenK.AllK
import Wide.FinOn
import HandS.ForMost
import HandS.Flow
import HandS.TupAny
import HandS.Wide
import HandS.IsInst
import HandS.RaiseMore
import HandS.TupLe
import HandS.CallSlots
import HandS.Lambda
import HandS.Star
import KE.GoesZip
import KE.KDictZip
import HandS.Zip
import PyProof.ListNew
import HandS.ReplaceLit
import HandS.ReplaceList
import HandS.Property
import HandS.Style
import PyProof.InstSpecial
import PyProof.ListRange
import HandS.NamedTup0
import HandS.HeadWalk
import HandS.TryOnly
import HandS.HeadHook4
import HandS.HeadEnd
import HandS.Codes
import HandS.Defaults
import HandS.Words
import HandS.Ends
import HandS.More
import KE.KStateDown
import HandS.Head0
import HandS.Head1
import HandS.Head2
import PySem.Challenge.RW_deedline_k08_whole_packed_lists_node_by
set_option Elab.async false
set_option linter.all false
set_option maxRecDepth 100000
set_option maxHeartbeats 0
namespace RX
open PySem

inductive D where
  | non | bl (b : Bool) | int (i : Int) | str (s : List Nat) | tup (ds : List D) | ref (n : Nat) | gl (n : Nat) | ty (n : String)
  deriving Inhabited

inductive Cell where
  | lst (ds : List D) | fro (ds : List D) | dct (kvs : List (D × D)) | ins (c : Nat) (fs : List (Nat × D))
  deriving Inhabited

abbrev Store := List Cell
abbrev EnvD := List (Option D)

inductive Out (α : Type) where
  | ok (a : α) (st : Store)
  | exc (c : Nat) (p : Option D) (st : Store)
  | stuck
def Out.bind {α β : Type} (x : Out α) (f : α → Store → Out β) : Out β := match x with
  | .ok a st => f a st
  | .exc c p st => .exc c p st
  | .stuck => .stuck
def Out.calm {α : Type} (x : Out α) : Out α := match x with
  | .ok a st => .ok a st
  | .exc _ _ _ => .stuck
  | .stuck => .stuck
def ofOpt {α : Type} (o : Option α) (st : Store) : Out α := match o with
  | some a => .ok a st
  | none => .stuck

def SL : Nat := 16777216

mutual
def pyF (g : Nat → Option PyData) : D → Option PyData
  | .non => some .none
  | .bl b => some (.bool b)
  | .int i => some (.int i)
  | .str s => some (.str ⟨s.toArray⟩)
  | .tup ds => match pyFs g ds with
    | some ps => some (.tuple ps)
    | none => none
  | .ref n => g n
  | .gl _ => none
  | .ty _ => none
def pyFs (g : Nat → Option PyData) : List D → Option (List PyData)
  | [] => some []
  | d :: ds => match pyF g d with
    | some p => match pyFs g ds with
      | some ps => some (p :: ps)
      | none => none
    | none => none
end
def pyL (g : Nat → Option PyData) (ds : List D) : Option PyData := match pyFs g ds with
  | some ps => some (.list ps)
  | none => none
def pyN (st : Store) : Nat → Nat → Option PyData
  | 0, _ => none
  | k + 1, n => match st[n]? with
    | some (.lst ds) => pyL (pyN st k) ds
    | some (.fro ds) => pyL (pyN st k) ds
    | _ => none
def toPy (st : Store) (d : D) : Option PyData := pyF (pyN st 8) d
def eqD (st : Store) (a b : D) : Option Bool := match toPy st a, toPy st b with
  | some p, some q => if SeqAt.shaped p && SeqAt.shaped q then some (PyData.eqv p q) else none
  | _, _ => none

def catOk (m n : Nat) : Bool := decide (m + n ≤ SL)
def alloc (c : Cell) (st : Store) : Out D := .ok (.ref st.length) (st ++ [c])
def powOk (i j : Int) : Bool := decide (0 ≤ j) && decide ((Builtin.Int.intBits i : Int) * j ≤ 134217728)
def op2 (op : Operator) (a b : D) (st : Store) : Out D := match op with
  | .Add => match a, b with
    | .int i, .int j => .ok (.int (i + j)) st
    | .str s, .str t => if catOk s.length t.length then .ok (.str (s ++ t)) st else .stuck
    | .tup s, .tup t => if catOk s.length t.length then .ok (.tup (s ++ t)) st else .stuck
    | .ref m, .ref n => match st[m]?, st[n]? with
      | some (.lst s), some (.lst t) => if catOk s.length t.length then alloc (.lst (s ++ t)) st else .stuck
      | _, _ => .stuck
    | _, _ => .stuck
  | .Sub => match a, b with
    | .int i, .int j => .ok (.int (i - j)) st
    | _, _ => .stuck
  | .Mult => match a, b with
    | .int i, .int j => if i.natAbs.log2 + j.natAbs.log2 < 1000000 then .ok (.int (i * j)) st else .stuck
    | .str [c], .int k => if 0 ≤ k ∧ k ≤ SL then .ok (.str (List.replicate k.toNat c)) st else .stuck
    | .ref m, .int k => match st[m]? with
      | some (.lst s) => if 0 ≤ k ∧ k < 1000000 ∧ s.length * k.toNat ≤ SL then alloc (.lst (List.replicate k.toNat s).flatten) st else .stuck
      | _ => .stuck
    | _, _ => .stuck
  | .FloorDiv => match a, b with
    | .int i, .int j => if 0 < j ∧ j.natAbs.log2 < 9000 then .ok (.int (i / j)) st else .stuck
    | _, _ => .stuck
  | .Mod => match a, b with
    | .int i, .int j => if 0 < j then .ok (.int (i % j)) st else .stuck
    | _, _ => .stuck
  | .Pow => match a, b with
    | .int i, .int j => if powOk i j then .ok (.int (i ^ j.toNat)) st else .stuck
    | _, _ => .stuck
  | .LShift => match a, b with
    | .int i, .int j => if 0 ≤ j ∧ j ≤ 1000000 ∧ i.natAbs < 2 ^ 64 then .ok (.int (i * 2 ^ j.toNat)) st else .stuck
    | _, _ => .stuck
  | .RShift => match a, b with
    | .int i, .int j => if 0 ≤ j then .ok (.int (i / 2 ^ j.toNat)) st else .stuck
    | _, _ => .stuck
  | _ => .stuck

def isFlat : D → Bool
  | .non => true
  | .bl _ => true
  | .int _ => true
  | .str _ => true
  | _ => false
def flatEq : D → D → Bool
  | .non, .non => true
  | .bl a, .bl b => a == b
  | .bl a, .int j => (if a then 1 else 0) == j
  | .int i, .bl b => i == (if b then 1 else 0)
  | .int i, .int j => i == j
  | .str s, .str t => s == t
  | _, _ => false
def itemsOf (st : Store) : D → Option (List D)
  | .tup ds => some ds
  | .ref n => match st[n]? with
    | some (.lst ds) => some ds
    | some (.fro ds) => some ds
    | _ => none
  | _ => none
def isIn (st : Store) (a b : D) : Option Bool := match b with
  | .str t => match a with
    | .str [c] => some (t.contains c)
    | _ => none
  | _ => match itemsOf st b with
    | some ds => if isFlat a && ds.all isFlat then some (ds.any fun y => flatEq y a) else none
    | none => none
def ltS (s t : List Nat) : Bool := decide (s < t)
def intsOf : List D → Option (List Int)
  | [] => some []
  | .int i :: r => match intsOf r with
    | some is => some (i :: is)
    | none => none
  | _ :: _ => none
def notO (o : Option Bool) : Option Bool := match o with
  | some b => some (!b)
  | none => none
def cmpD (op : CmpOp) (a b : D) (st : Store) : Option Bool := match op with
  | .Eq => eqD st a b
  | .NotEq => notO (eqD st a b)
  | .Lt => match a, b with
    | .int i, .int j => some (decide (i < j))
    | .str s, .str t => some (ltS s t)
    | .tup s, .tup t => match intsOf s, intsOf t with
      | some x, some y => some (HT.lexLt x y)
      | _, _ => none
    | _, _ => none
  | .LtE => match a, b with
    | .int i, .int j => some (decide (i ≤ j))
    | .str s, .str t => some (!ltS t s)
    | _, _ => none
  | .Gt => match a, b with
    | .int i, .int j => some (decide (j < i))
    | .str s, .str t => some (ltS t s)
    | .tup s, .tup t => match intsOf s, intsOf t with
      | some x, some y => some (HT.lexLt y x)
      | _, _ => none
    | _, _ => none
  | .GtE => match a, b with
    | .int i, .int j => some (decide (j ≤ i))
    | .str s, .str t => some (!ltS s t)
    | _, _ => none
  | .Is => match b with
    | .non => some (match a with | .non => true | _ => false)
    | _ => none
  | .IsNot => match b with
    | .non => some (match a with | .non => false | _ => true)
    | _ => none
  | .In => isIn st a b
  | .NotIn => notO (isIn st a b)

def truth (st : Store) : D → Option Bool
  | .non => some false
  | .bl b => some b
  | .int i => some (i != 0)
  | .str s => if s.length ≤ SL then some (!s.isEmpty) else none
  | .tup ds => some (!ds.isEmpty)
  | .ref n => match st[n]? with
    | some (.lst ds) => some (!ds.isEmpty)
    | some (.fro ds) => some (!ds.isEmpty)
    | some (.dct kvs) => some (!kvs.isEmpty)
    | _ => none
  | _ => none

def itemAt {α : Type} (xs : List α) (i : Int) : Option α := L2.atI xs i
def subD (a i : D) (st : Store) : Option D := match a, i with
  | .str s, .int k => if s.length ≤ SL then (match itemAt s k with
    | some c => some (.str [c])
    | none => none) else none
  | _, .int k => match itemsOf st a with
    | some ds => itemAt ds k
    | none => none
  | _, _ => none
def cut {α : Type} (xs : List α) (lo hi : Option Int) : List α := (xs.drop (HT.sIx xs.length 0 lo)).take (HT.sIx xs.length xs.length hi - HT.sIx xs.length 0 lo)
def bndOf : D → Option (Option Int)
  | .non => some none
  | .int i => some (some i)
  | _ => none
def slcB (a : D) (l h : Option Int) (st : Store) : Out D := match a with
  | .str s => if s.length ≤ SL then .ok (.str (cut s l h)) st else .stuck
  | .tup ds => .ok (.tup (cut ds l h)) st
  | .ref n => match itemsOf st (.ref n) with
    | some ds => alloc (.lst (cut ds l h)) st
    | none => .stuck
  | _ => .stuck
def bndO (x : Out D) : Out (Option Int) := x.bind fun d st => ofOpt (bndOf d) st

inductive Blt where
  | len | abs | int | str | repr | max | min | sum | ord | tuple | list | all | any | isinst
  deriving DecidableEq, Inhabited
def boolsOf : List D → Option (List Bool)
  | [] => some []
  | .bl b :: r => match boolsOf r with
    | some bs => some (b :: bs)
    | none => none
  | _ :: _ => none
def strOfInt (i : Int) : List Nat := (Str.ofString (toString i)).cps.toList
def tyName (st : Store) (a : D) : Option String := match a with
  | .non => some "NoneType"
  | .bl _ => some "bool"
  | .int _ => some "int"
  | .str _ => some "str"
  | .tup _ => some "tuple"
  | .ref n => match st[n]? with
    | some (.lst _) => some "list"
    | some (.fro _) => some "list"
    | some (.dct _) => some "dict"
    | _ => none
  | _ => none
def tyKnown (t : String) : Bool := t == "int" || t == "bool" || t == "str" || t == "tuple" || t == "list" || t == "dict"
def isA (st : Store) (a : D) (t : String) : Option Bool := match tyName st a with
  | some y => if tyKnown t then some (y == t || (y == "bool" && t == "int")) else none
  | none => none
def maxI : List Int → Int → Int
  | [], m => m
  | x :: r, m => maxI r (if x > m then x else m)
def minI : List Int → Int → Int
  | [], m => m
  | x :: r, m => minI r (if x < m then x else m)
def blt (b : Blt) (ds : List D) (st : Store) : Out D := match b, ds with
  | .len, [.str s] => if s.length ≤ SL then .ok (.int s.length) st else .stuck
  | .len, [.tup ds] => .ok (.int ds.length) st
  | .len, [.ref n] => match st[n]? with
    | some (.lst ds) => .ok (.int ds.length) st
    | some (.fro ds) => .ok (.int ds.length) st
    | some (.dct kvs) => .ok (.int kvs.length) st
    | _ => .stuck
  | .abs, [.int i] => .ok (.int (if i < 0 then -i else i)) st
  | .int, [.int i] => .ok (.int i) st
  | .int, [.bl b] => .ok (.int (if b then 1 else 0)) st
  | .str, [.int i] => if i.natAbs.log2 < 1920 then .ok (.str (strOfInt i)) st else .stuck
  | .str, [.str s] => .ok (.str s) st
  | .repr, [.bl b] => .ok (.str (if b then [84, 114, 117, 101] else [70, 97, 108, 115, 101])) st
  | .repr, [.int i] => if i.natAbs.log2 < 1920 then .ok (.str (strOfInt i)) st else .stuck
  | .repr, [.non] => .ok (.str [78, 111, 110, 101]) st
  | .max, [.int i, .int j] => .ok (.int (if j > i then j else i)) st
  | .min, [.int i, .int j] => .ok (.int (if j < i then j else i)) st
  | .max, [.ref n] => match itemsOf st (.ref n) with
    | some ds => match intsOf ds with
      | some (i :: is) => .ok (.int (maxI is i)) st
      | _ => .stuck
    | none => .stuck
  | .min, [.ref n] => match itemsOf st (.ref n) with
    | some ds => match intsOf ds with
      | some (i :: is) => .ok (.int (minI is i)) st
      | _ => .stuck
    | none => .stuck
  | .sum, [.ref n] => match itemsOf st (.ref n) with
    | some ds => match intsOf ds with
      | some is => .ok (.int is.sum) st
      | _ => .stuck
    | none => .stuck
  | .ord, [.str [c]] => .ok (.int c) st
  | .tuple, [a] => match itemsOf st a with
    | some ds => .ok (.tup ds) st
    | none => .stuck
  | .list, [.str s] => if s.length ≤ SL then alloc (.lst (s.map fun c => .str [c])) st else .stuck
  | .list, [a] => match itemsOf st a with
    | some ds => alloc (.lst ds) st
    | none => .stuck
  | .all, [.ref n] => match itemsOf st (.ref n) with
    | some ds => match boolsOf ds with
      | some bs => .ok (.bl (bs.all id)) st
      | _ => .stuck
    | none => .stuck
  | .any, [.ref n] => match itemsOf st (.ref n) with
    | some ds => match boolsOf ds with
      | some bs => .ok (.bl (bs.any id)) st
      | _ => .stuck
    | none => .stuck
  | .isinst, [a, .ty t] => match isA st a t with
    | some b => .ok (.bl b) st
    | none => .stuck
  | _, _ => .stuck

inductive Met where
  | append | join | replace | startswith | pop | extend
  deriving DecidableEq, Inhabited
def strsOf : List D → Option (List (List Nat))
  | [] => some []
  | .str s :: r => match strsOf r with
    | some ss => some (s :: ss)
    | none => none
  | _ :: _ => none
def joinL (sep : List Nat) : List (List Nat) → List Nat
  | [] => []
  | [s] => s
  | s :: r => s ++ sep ++ joinL sep r
def met (m : Met) (o : D) (ds : List D) (st : Store) : Out D := match m, o, ds with
  | .append, .ref n, [d] => match st[n]? with
    | some (.lst xs) => if xs.length < SL then .ok .non (st.set n (.lst (xs ++ [d]))) else .stuck
    | _ => .stuck
  | .extend, .ref n, [.ref m] => match st[n]?, st[m]? with
    | some (.lst xs), some (.lst ys) => if xs.length + ys.length ≤ SL then .ok .non (st.set n (.lst (xs ++ ys))) else .stuck
    | _, _ => .stuck
  | .join, .str s, [.ref n] => match itemsOf st (.ref n) with
    | some ds => match strsOf ds with
      | some ss => if (ss.map (·.length)).sum + ss.length * s.length ≤ SL then .ok (.str (joinL s ss)) st else .stuck
      | none => .stuck
    | none => .stuck
  | _, _, _ => .stuck

def metIs (m : Met) (o : D) (st : Store) : Bool := match m with
  | .append => match o with
    | .ref n => match st[n]? with
      | some (.lst _) => true
      | _ => false
    | _ => false
  | .pop => match o with
    | .ref n => match st[n]? with
      | some (.lst _) => true
      | _ => false
    | _ => false
  | .extend => match o with
    | .ref n => match st[n]? with
      | some (.lst _) => true
      | _ => false
    | _ => false
  | _ => match o with
    | .str _ => true
    | _ => false

def replC (c : Nat) (z s : List Nat) : List Nat := s.flatMap fun d => if d = c then z else [d]

inductive Tg where
  | nm (i : Nat) | tp (ts : List Tg)
  deriving Inhabited
inductive ItK where
  | val | rng | enum | zip
  deriving DecidableEq, Inhabited
inductive E where
  | nev
  | var (i : Nat)
  | cst (d : D)
  | op2 (op : Operator) (a b : E)
  | neg (a : E)
  | cmp (op : CmpOp) (a b : E)
  | cmp2 (o1 o2 : CmpOp) (a b c : E)
  | and (a b : E) | or (a b : E) | not (a : E)
  | ite (c a b : E)
  | tup (es : List E) | lst (es : List E)
  | tupX (es : List E) (bs : List Bool) | lstX (es : List E) (bs : List Bool)
  | lzip (es : List E)
  | attr (ws : List (Nat × Nat)) (cs : List Nat) (f : Nat) (o : E)
  | meth (ws : List (Nat × Nat)) (m : Nat) (o : E) (es : List E)
  | make (c j : Nat) (es : List E)
  | callv (i : Nat) (es : List E)
  | rev (a : E)
  | lenO (ws : List (Nat × Nat)) (a : E)
  | lrng (es : List E)
  | isO (a : E) (c : Nat)
  | lc2 (src : List E) (tg : Tg) (src1 : List E) (tg1 : Tg) (own : List Nat) (e : E)
  | sub (a i : E) | slc (a lo hi : E)
  | call (f : Nat) (es : List E)
  | blt (b : Blt) (es : List E)
  | met (m : Met) (o : E) (es : List E)
  | repl (c : Nat) (z : List Nat) (o : E)
  | lc (k : ItK) (src : List E) (tg : Tg) (own : List Nat) (cs : List E) (e : E)
  deriving Inhabited
inductive S where
  | nev
  | asg (t : Tg) (e : E)
  | asgS (o i e : E)
  | setF (cs : List Nat) (f : Nat) (o e : E)
  | par (is : List Nat) (es : List E)
  | aug (op : Operator) (i : Nat) (e : E)
  | expr (e : E)
  | ret (e : E) | retN
  | ifs (c : E) (a b : List S)
  | whil (c : E) (b : List S)
  | for_ (k : ItK) (src : List E) (tg : Tg) (b : List S)
  | brk | cont | pass
  deriving Inhabited

inductive Src where
  | lst (n : Nat) | tup (ds : List D) | rng (lo : Int) (n : Nat) | rngD (lo : Int) (n : Nat) | str (s : List Nat) | enum (n : Nat) | zip (m n : Nat) | enumS (s : List Nat)
def srcOf (k : ItK) (ds : List D) (st : Store) : Option (Src × Nat) := match k, ds with
  | .val, [.str s] => some (.str s, s.length)
  | .val, [.tup ds] => some (.tup ds, ds.length)
  | .val, [.ref n] => match st[n]? with
    | some (.lst ds) => some (.lst n, ds.length)
    | some (.fro ds) => some (.lst n, ds.length)
    | _ => none
  | .rng, [.int j] => if -(2 ^ 62) ≤ j ∧ j < 2 ^ 62 then some (.rng 0 j.toNat, j.toNat) else none
  | .rng, [.int i, .int j, .int c] => if -(2 ^ 62) ≤ i ∧ i < 2 ^ 62 ∧ -(2 ^ 62) ≤ j ∧ j < 2 ^ 62 ∧ c = -1 then some (.rngD i (i - j).toNat, (i - j).toNat) else none
  | .rng, [.int i, .int j] => if -(2 ^ 62) ≤ i ∧ i < 2 ^ 62 ∧ -(2 ^ 62) ≤ j ∧ j < 2 ^ 62 then some (.rng i (j - i).toNat, (j - i).toNat) else none
  | .enum, [.ref n] => match st[n]? with
    | some (.lst ds) => some (.enum n, ds.length)
    | some (.fro ds) => some (.enum n, ds.length)
    | _ => none
  | .enum, [.str s] => some (.enumS s, s.length)
  | .zip, [.ref m, .ref n] => match itemsOf st (.ref m), itemsOf st (.ref n) with
    | some xs, some ys => some (.zip m n, min xs.length ys.length)
    | _, _ => none
  | _, _ => none
def srcO (k : ItK) (x : Out (List D)) : Out (Src × Nat) := x.bind fun ds st => ofOpt (srcOf k ds st) st
def fetch (s : Src) (i : Nat) (st : Store) : Option (Option D) := match s with
  | .lst n => match itemsOf st (.ref n) with
    | some ds => some ds[i]?
    | none => none
  | .tup ds => some ds[i]?
  | .rng lo n => some (if i < n then some (.int (lo + i)) else none)
  | .rngD lo n => some (if i < n then some (.int (lo + (i : Nat) * (-1))) else none)
  | .str s => some (match s[i]? with | some c => some (.str [c]) | none => none)
  | .enum n => match itemsOf st (.ref n) with
    | some ds => some (match ds[i]? with | some d => some (.tup [.int i, d]) | none => none)
    | none => none
  | .enumS s => if i ≤ s.length then some (match s[i]? with | some c => some (.tup [.int i, .str [c]]) | none => none) else none
  | .zip m n => match itemsOf st (.ref m), itemsOf st (.ref n) with
    | some xs, some ys => some (match xs[i]?, ys[i]? with | some x, some y => some (.tup [x, y]) | _, _ => none)
    | _, _ => none

mutual
def put : Tg → D → EnvD → Option EnvD
  | .nm i, d, env => if i < env.length then some (env.set i (some d)) else none
  | .tp ts, .tup ds, env => putAll ts ds env
  | .tp _, _, _ => none
def putAll : List Tg → List D → EnvD → Option EnvD
  | [], [], env => some env
  | t :: ts, d :: ds, env => match put t d env with
    | some env' => putAll ts ds env'
    | none => none
  | _, _, _ => none
end
def putS (st : Store) (t : Tg) (d : D) (env : EnvD) : Option EnvD := match t, d with
  | .tp ts, .ref n => match itemsOf st (.ref n) with
    | some ds => putAll ts ds env
    | none => none
  | t, d => put t d env
mutual
def tgIx : Tg → List Nat
  | .nm i => [i]
  | .tp ts => tgIxs ts
def tgIxs : List Tg → List Nat
  | [] => []
  | t :: ts => tgIx t ++ tgIxs ts
end
def wipeE (env : EnvD) : List Nat → EnvD
  | [] => env
  | v :: vs => (wipeE env vs).set v none

structure Sem where
  call : Nat → List D → Store → Out D

def lcLoop (n : Nat) (s : Src) (turn : D → Store → Out (Option D)) : Nat → Nat → Store → Out D
  | 0, _, _ => .stuck
  | k + 1, i, st => match fetch s i st with
    | none => .stuck
    | some none => .ok (.ref n) st
    | some (some d) => match turn d st with
      | .ok none st1 => lcLoop n s turn k (i + 1) st1
      | .ok (some y) st1 => match st1[n]? with
        | some (.lst acc) => if acc.length < SL then lcLoop n s turn k (i + 1) (st1.set n (.lst (acc ++ [y]))) else .stuck
        | _ => .stuck
      | _ => .stuck
def truthO (x : Out D) : Out Bool := x.bind fun d st => ofOpt (truth st d) st
def cmpO (op : CmpOp) (x y : D) (st : Store) : Out D := match cmpD op x y st with
  | some k => .ok (.bl k) st
  | none => .stuck

def lzipO (ds : List D) (st : Store) : Out D := match ds with
  | [.ref m, .ref n] => match itemsOf st (.ref m), itemsOf st (.ref n) with
    | some xs, some ys => alloc (.lst (List.zipWith (fun x y => .tup [x, y]) xs ys)) st
    | _, _ => .stuck
  | [.tup xs, .tup ys] => alloc (.lst (List.zipWith (fun x y => .tup [x, y]) xs ys)) st
  | _ => .stuck
def insAt (st : Store) (d : D) : Option (Nat × List (Nat × D)) := match d with
  | .ref n => match st[n]? with
    | some (.ins c fs) => some (c, fs)
    | _ => none
  | _ => none
def putN (f : Nat) (d : D) : List (Nat × D) → List (Nat × D)
  | [] => [(f, d)]
  | (g, e) :: r => if g = f then (f, d) :: r else (g, e) :: putN f d r
def attrO (call : Nat → List D → Store → Out D) (ws : List (Nat × Nat)) (cs : List Nat) (f : Nat) (x : D) (st : Store) : Out D := match insAt st x with
  | some (c, fs) => match ws.lookup c with
    | some j => (call j [x] st).calm
    | none => if cs.contains c then ofOpt (fs.lookup f) st else .stuck
  | none => .stuck
def methO (ws : List (Nat × Nat)) (m : Nat) (x : D) (st : Store) : Option Nat := match insAt st x with
  | some (c, fs) => match fs.lookup m with
    | some _ => none
    | none => ws.lookup c
  | none => none
def madeO (n : Nat) (x : Out D) : Out D := x.bind fun d st => match d with
  | .non => .ok (.ref n) st
  | _ => .stuck
def revO (x : D) (st : Store) : Out D := match x with
  | .ref n => match itemsOf st (.ref n) with
    | some ds => alloc (.lst ds.reverse) st
    | none => .stuck
  | _ => .stuck
def lenI (x : Out D) : Out D := x.calm.bind fun d st => match d with
  | .int i => if 0 ≤ i ∧ i < 2 ^ 63 then .ok (.int i) st else .stuck
  | _ => .stuck
def lenOO (call : Nat → List D → Store → Out D) (ws : List (Nat × Nat)) (x : D) (st : Store) : Out D := match insAt st x with
  | some (c, _) => match ws.lookup c with
    | some j => lenI (call j [x] st)
    | none => .stuck
  | none => blt .len [x] st
def lrngO (ds : List D) (st : Store) : Out D := match ds with
  | [.int j] => if 0 ≤ j ∧ j ≤ SL then alloc (.lst ((List.range j.toNat).map fun i => .int (i : Nat))) st else .stuck
  | _ => .stuck
def isOO (c : Nat) (x : D) (st : Store) : Out D := match insAt st x with
  | some (c', _) => if c' = c then .ok (.bl true) st else .stuck
  | none => match tyName st x with
    | some _ => .ok (.bl false) st
    | none => .stuck
def setFO (cs : List Nat) (f : Nat) (x d : D) (st : Store) : Option Store := match x with
  | .ref n => match st[n]? with
    | some (.ins c fs) => if cs.contains c && decide (fs.length < 1000) then some (st.set n (.ins c (putN f d fs))) else none
    | _ => none
  | _ => none
def lcIn (n : Nat) (s : Src) (turn : D → Store → Out D) : Nat → Nat → Store → Out Unit
  | 0, _, _ => .stuck
  | k + 1, i, st => match fetch s i st with
    | none => .stuck
    | some none => .ok () st
    | some (some d) => match turn d st with
      | .ok y st1 => match st1[n]? with
        | some (.lst acc) => if acc.length < SL then lcIn n s turn k (i + 1) (st1.set n (.lst (acc ++ [y]))) else .stuck
        | _ => .stuck
      | _ => .stuck
def lcOut (n : Nat) (s : Src) (turn : D → Store → Out Unit) : Nat → Nat → Store → Out D
  | 0, _, _ => .stuck
  | k + 1, i, st => match fetch s i st with
    | none => .stuck
    | some none => .ok (.ref n) st
    | some (some d) => match turn d st with
      | .ok _ st1 => lcOut n s turn k (i + 1) st1
      | _ => .stuck
def spl (b : Bool) (d : D) (st : Store) : Option (List D) := if b then itemsOf st d else some [d]
mutual
def evE (Γ : Sem) : E → EnvD → Store → Out D
  | .nev, _, _ => .stuck
  | .var i, env, st => match env[i]? with
    | some (some d) => .ok d st
    | _ => .stuck
  | .cst d, _, st => .ok d st
  | .op2 op a b, env, st => (evE Γ a env st).bind fun x st1 => (evE Γ b env st1).bind fun y st2 => op2 op x y st2
  | .neg a, env, st => (evE Γ a env st).bind fun x st1 => match x with
    | .int i => .ok (.int (-i)) st1
    | _ => .stuck
  | .cmp op a b, env, st => (evE Γ a env st).bind fun x st1 => (evE Γ b env st1).bind fun y st2 => cmpO op x y st2
  | .cmp2 o1 o2 a b c, env, st => (evE Γ a env st).bind fun x st1 => (evE Γ b env st1).bind fun y st2 => match cmpD o1 x y st2 with
    | some true => (evE Γ c env st2).bind fun z st3 => cmpO o2 y z st3
    | some false => .ok (.bl false) st2
    | none => .stuck
  | .and a b, env, st => (evE Γ a env st).bind fun x st1 => match truth st1 x with
    | some true => evE Γ b env st1
    | some false => .ok x st1
    | none => .stuck
  | .or a b, env, st => (evE Γ a env st).bind fun x st1 => match truth st1 x with
    | some true => .ok x st1
    | some false => evE Γ b env st1
    | none => .stuck
  | .not a, env, st => (truthO (evE Γ a env st)).bind fun b st1 => .ok (.bl (!b)) st1
  | .ite c a b, env, st => (truthO (evE Γ c env st)).bind fun t st1 => match t with
    | true => evE Γ a env st1
    | false => evE Γ b env st1
  | .tup es, env, st => (evEs Γ es env st).bind fun ds st1 => if ds.length ≤ SL then .ok (.tup ds) st1 else .stuck
  | .lst es, env, st => (evEs Γ es env st).bind fun ds st1 => if ds.length ≤ SL then alloc (.lst ds) st1 else .stuck
  | .tupX es bs, env, st => (evXs Γ es bs env st).bind fun ds st1 => if ds.length ≤ SL then .ok (.tup ds) st1 else .stuck
  | .lstX es bs, env, st => (evXs Γ es bs env st).bind fun ds st1 => if ds.length ≤ SL then alloc (.lst ds) st1 else .stuck
  | .lzip es, env, st => (evEs Γ es env st).bind fun ds st1 => lzipO ds st1
  | .attr ws cs f o, env, st => (evE Γ o env st).bind fun x st1 => attrO Γ.call ws cs f x st1
  | .meth ws m o es, env, st => (evE Γ o env st).bind fun x st1 => match methO ws m x st1 with
    | some j => (evEs Γ es env st1).bind fun ds st2 => Γ.call j (x :: ds) st2
    | none => .stuck
  | .make c j es, env, st => (evEs Γ es env st).bind fun ds st1 => madeO st1.length (Γ.call j (.ref st1.length :: ds) (st1 ++ [.ins c []]))
  | .callv i es, env, st => match env[i]? with
    | some (some (.gl j)) => (evEs Γ es env st).calm.bind fun ds st1 => Γ.call j ds st1
    | _ => .stuck
  | .rev a, env, st => (evE Γ a env st).bind fun x st1 => revO x st1
  | .lenO ws a, env, st => (evE Γ a env st).bind fun x st1 => lenOO Γ.call ws x st1
  | .lrng es, env, st => (evEs Γ es env st).bind fun ds st1 => lrngO ds st1
  | .isO a c, env, st => (evE Γ a env st).bind fun x st1 => isOO c x st1
  | .lc2 src tg src1 tg1 own e, env, st => (srcO .val (evEs Γ src env st)).bind fun p st1 => lcOut st1.length p.1 (fun d st2 => match put tg d (wipeE env own) with
          | some env' => (srcO .val (evEs Γ src1 env' st2)).bind fun p1 st3 => lcIn st1.length p1.1 (fun d1 st4 => match put tg1 d1 (wipeE env' (tgIx tg1)) with
              | some env'' => evE Γ e env'' st4
              | none => .stuck) (p1.2 + 1) 0 st3
          | none => .stuck) (p.2 + 1) 0 (st1 ++ [.lst []])
  | .sub a i, env, st => (evE Γ a env st).bind fun x st1 => (evE Γ i env st1).bind fun y st2 => ofOpt (subD x y st2) st2
  | .slc a lo hi, env, st => (evE Γ a env st).bind fun x st1 => (bndO (evE Γ lo env st1)).bind fun y st2 => (bndO (evE Γ hi env st2)).bind fun z st3 => slcB x y z st3
  | .call f es, env, st => (evEs Γ es env st).bind fun ds st1 => Γ.call f ds st1
  | .blt b es, env, st => (evEs Γ es env st).bind fun ds st1 => blt b ds st1
  | .met m o es, env, st => (evE Γ o env st).bind fun x st1 => if metIs m x st1 then (evEs Γ es env st1).bind fun ds st2 => met m x ds st2 else .stuck
  | .repl c z o, env, st => (evE Γ o env st).bind fun x st1 => match x with
    | .str s => if s.length + (s.length + 1) * z.length ≤ SL then .ok (.str (replC c z s)) st1 else .stuck
    | _ => .stuck
  | .lc k src tg own cs e, env, st => (srcO k (evEs Γ src env st)).bind fun p st1 => lcLoop st1.length p.1 (fun d st2 => match put tg d (wipeE env own) with
          | some env' => (evCs Γ cs env' st2).bind fun t st3 => match t with
            | true => (evE Γ e env' st3).bind fun y st4 => .ok (some y) st4
            | false => .ok none st3
          | none => .stuck) (p.2 + 1) 0 (st1 ++ [.lst []])
def evEs (Γ : Sem) : List E → EnvD → Store → Out (List D)
  | [], _, st => .ok [] st
  | e :: es, env, st => (evE Γ e env st).bind fun d st1 => (evEs Γ es env st1).bind fun ds st2 => .ok (d :: ds) st2
def evXs (Γ : Sem) : List E → List Bool → EnvD → Store → Out (List D)
  | [], _, _, st => .ok [] st
  | _ :: _, [], _, _ => .stuck
  | e :: es, b :: bs, env, st => (evE Γ e env st).bind fun d st1 => match spl b d st1 with
    | some xs => (evXs Γ es bs env st1).bind fun ds st2 => .ok (xs ++ ds) st2
    | none => .stuck
def evCs (Γ : Sem) : List E → EnvD → Store → Out Bool
  | [], _, st => .ok true st
  | c :: _, env, st => truthO (evE Γ c env st)
end

def ipI2 (op : Operator) (x y : D) : Option D := match op, x, y with
  | .Add, .int i, .int j => some (.int (i + j))
  | .Sub, .int i, .int j => some (.int (i - j))
  | _, _, _ => none
inductive OS where
  | next (env : EnvD) (st : Store)
  | ret (d : D) (st : Store)
  | brk (env : EnvD) (st : Store)
  | cont (env : EnvD) (st : Store)
  | exc (c : Nat) (p : Option D) (env : EnvD) (st : Store)
  | stuck
def OS.of {α : Type} (x : Out α) (env : EnvD) (f : α → Store → OS) : OS := match x with
  | .ok a st => f a st
  | .exc c p st => .exc c p env st
  | .stuck => .stuck
def WL : Nat := 1000000
def whileLoop (c : EnvD → Store → Out Bool) (b : EnvD → Store → OS) : Nat → EnvD → Store → OS
  | 0, _, _ => .stuck
  | k + 1, env, st => OS.of (c env st) env fun t st1 => if t then
      match b env st1 with
      | .next env2 st2 => whileLoop c b k env2 st2
      | .cont env2 st2 => whileLoop c b k env2 st2
      | .brk env2 st2 => .next env2 st2
      | r => r
    else .next env st1
def forLoop (s : Src) (tg : Tg) (b : EnvD → Store → OS) : Nat → Nat → EnvD → Store → OS
  | 0, _, _, _ => .stuck
  | k + 1, i, env, st => match fetch s i st with
    | none => .stuck
    | some none => .next env st
    | some (some d) => match put tg d env with
      | none => .stuck
      | some env1 => match b env1 st with
        | .next env2 st2 => forLoop s tg b k (i + 1) env2 st2
        | .cont env2 st2 => forLoop s tg b k (i + 1) env2 st2
        | .brk env2 st2 => .next env2 st2
        | r => r
def setD (o i d : D) (st : Store) : Option Store := match o, i with
  | .ref n, .int k => match st[n]? with
    | some (.lst xs) => match L2.ixN xs.length k with
      | some j => some (st.set n (.lst (xs.set j d)))
      | none => none
    | _ => none
  | _, _ => none
mutual
def evS (Γ : Sem) : S → EnvD → Store → OS
  | .nev, _, _ => .stuck
  | .asg t e, env, st => OS.of (evE Γ e env st) env fun d st1 => match putS st1 t d env with
    | some env1 => .next env1 st1
    | none => .stuck
  | .asgS o i e, env, st => OS.of (evE Γ e env st) env fun d st1 => OS.of (evE Γ o env st1) env fun x st2 => OS.of (evE Γ i env st2) env fun y st3 => match setD x y d st3 with
    | some st4 => .next env st4
    | none => .stuck
  | .setF cs f o e, env, st => OS.of (evE Γ e env st) env fun d st1 => OS.of (evE Γ o env st1) env fun x st2 => match setFO cs f x d st2 with
    | some st3 => .next env st3
    | none => .stuck
  | .par is es, env, st => OS.of (evEs Γ es env st) env fun ds st1 => match putAll (is.map Tg.nm) ds env with
    | some env1 => .next env1 st1
    | none => .stuck
  | .aug op i e, env, st => match env[i]? with
    | some (some x) => OS.of (evE Γ e env st) env fun y st1 => match ipI2 op x y with
      | some z => .next (env.set i (some z)) st1
      | none => .stuck
    | _ => .stuck
  | .expr e, env, st => OS.of (evE Γ e env st) env fun _ st1 => .next env st1
  | .ret e, env, st => OS.of (evE Γ e env st) env fun d st1 => .ret d st1
  | .retN, _, st => .ret .non st
  | .ifs c a b, env, st => OS.of (truthO (evE Γ c env st)) env fun t st1 => if t then evSs Γ a env st1 else evSs Γ b env st1
  | .whil c b, env, st => whileLoop (fun env st => truthO (evE Γ c env st)) (evSs Γ b) WL env st
  | .for_ k src tg b, env, st => OS.of (srcO k (evEs Γ src env st)) env fun p st1 => forLoop p.1 tg (evSs Γ b) (p.2 + 1) 0 env st1
  | .brk, env, st => .brk env st
  | .cont, env, st => .cont env st
  | .pass, env, st => .next env st
def evSs (Γ : Sem) : List S → EnvD → Store → OS
  | [], env, st => .next env st
  | s :: r, env, st => match evS Γ s env st with
    | .next env1 st1 => evSs Γ r env1 st1
    | o => o
end

structure Fn where
  n : Nat
  ps : Nat
  body : List S
  deriving Inhabited
def endOf : OS → Out D
  | .next _ st => .ok .non st
  | .ret d st => .ok d st
  | .exc c p _ st => .exc c p st
  | _ => .stuck
def callN (fns : Nat → Option Fn) : Nat → Nat → List D → Store → Out D
  | 0, _, _, _ => .stuck
  | k + 1, f, ds, st => match fns f with
    | some fn => if ds.length = fn.ps then endOf (evSs ⟨callN fns k⟩ fn.body (ds.map some ++ List.replicate (fn.n - ds.length) none) st) else .stuck
    | none => .stuck
end RX

namespace RX
open PySem L2

def encL : List Nat → Nat
  | [] => 0
  | d :: r => d + 128 * encL r + 1
def encS (x : Str) : Nat := encL x.cps.toList
def decL : Nat → Nat → List Nat
  | 0, _ => []
  | _ + 1, 0 => []
  | k + 1, n + 1 => (n % 128) :: decL k (n / 128)
def nmS (n : Nat) : Str := ⟨(decL 60 n).toArray⟩
structure ClsI where
  ms : List (Str × Nat × Nat)
  pr : List (Str × Nat)
  fl : List Str
inductive GK where
  | fn (ps : Nat) | cst (d : D) | cls (ci : ClsI) | mth (c m : Str) | prp (c f : Str) | oth
abbrev G := List (Str × GK)
def gIx : G → Str → Nat → Option (Nat × GK)
  | [], _, _ => none
  | (y, k) :: r, x, i => if y = x then some (i, k) else gIx r x (i + 1)
structure CS where
  N : List Str
  sc : Scope
  fnc : Str → Bool

def clsesFrom : G → Nat → List (Nat × ClsI)
  | [], _ => []
  | (_, k) :: r, i => match k with
    | .cls ci => (i, ci) :: clsesFrom r (i + 1)
    | _ => clsesFrom r (i + 1)
def clsesOf (g : G) : List (Nat × ClsI) := clsesFrom g 0
def propsOf (g : G) (f : Str) : List (Nat × Nat) := (clsesOf g).filterMap fun p => match p.2.pr.lookup f with
  | some j => some (p.1, j)
  | none => none
def fldsOf (g : G) (f : Str) : List Nat := (clsesOf g).filterMap fun p => if p.2.fl.contains f then some p.1 else none
def methsOf (g : G) (m : Str) (n : Nat) : List (Nat × Nat) := (clsesOf g).filterMap fun p => match p.2.ms.lookup m with
  | some (j, ps) => if ps = n + 1 then some (p.1, j) else none
  | none => none
def clsB (g : G) (c : Nat) : Bool := match g[c]? with
  | some (_, .cls _) => true
  | _ => false
def ixOf : List Str → Str → Nat → Option Nat
  | [], _, _ => none
  | y :: r, x, i => if y = x then some i else ixOf r x (i + 1)
def visB (sc : Scope) (x : Str) : Bool := match sc.names.lookup x with
  | some .local => true
  | some .cell => true
  | some .free => true
  | _ => false
def globB (sc : Scope) (x : Str) : Bool := match sc.names.lookup x with
  | some .globalImplicit => true
  | _ => false
def tyOf (x : Str) : Option String :=
  if x = "int" then some "int" else if x = "bool" then some "bool" else if x = "str" then some "str" else if x = "tuple" then some "tuple" else if x = "list" then some "list" else if x = "dict" then some "dict" else none
def oddName (x : Str) : Bool := x == ("__debug__" : Str) || x == ("__classdict__" : Str) || x == ("__name__" : Str)
def cName (g : G) (cs : CS) (x : Str) : E :=
  if oddName x then .nev
  else if visB cs.sc x then (match ixOf cs.N x 0 with
    | some i => .var i
    | none => .nev)
  else if globB cs.sc x then (match gIx g x 0 with
    | some (_, .cst d) => .cst d
    | some (i, .fn _) => .cst (.gl i)
    | some (i, .cls _) => .cst (.gl i)
    | some _ => .nev
    | none => match tyOf x with
      | some t => .cst (.ty t)
      | none => .nev)
  else .nev
def bltOf (x : Str) : Option Blt :=
  if x = "len" then some .len else if x = "abs" then some .abs else if x = "int" then some .int else if x = "str" then some .str else if x = "repr" then some .repr
  else if x = "max" then some .max else if x = "min" then some .min else if x = "sum" then some .sum else if x = "ord" then some .ord else if x = "tuple" then some .tuple
  else if x = "list" then some .list else if x = "all" then some .all else if x = "any" then some .any else if x = "isinstance" then some .isinst else none
def metOf (x : Str) : Option Met :=
  if x = "append" then some .append else if x = "join" then some .join else if x = "extend" then some .extend else none

def starB : Expr → Bool
  | .Starred _ _ => true
  | _ => false
def setB : Expr → Bool
  | .Set _ _ _ => true
  | _ => false
def superB : Expr → Bool
  | .Call (.Name _ _) [] [] _ => true
  | _ => false
def sliceB : Expr → Bool
  | .Slice _ _ _ _ => true
  | _ => false
def compB : Expr → Bool
  | .ListComp _ _ _ _ => true
  | .SetComp _ _ _ _ => true
  | .DictComp _ _ _ _ _ => true
  | _ => false

def cConst (c : Const) : E := match c with
  | .none => .cst .non
  | .bool b => .cst (.bl b)
  | .int i => .cst (.int i)
  | .str s => .cst (.str s.cps.toList)
  | _ => .nev
def cCmp (ia : E) : List CmpOp → List Expr → List E → E
  | [op], [b], [ib] => if setB b then .nev else .cmp op ia ib
  | [o1, o2], [b, c], [ib, ic] => if setB b || setB c then .nev else .cmp2 o1 o2 ia ib ic
  | _, _, _ => .nev
def cBool (op : BoolOp) : List E → E
  | [] => .nev
  | [a] => a
  | a :: r => match op with
    | .And => .and a (cBool op r)
    | .Or => .or a (cBool op r)
def cBlt (g : G) (b : Blt) (es : List E) : E := match b, es with
  | .len, [e] => if (methsOf g "__len__" 0).isEmpty then .blt .len [e] else .lenO (methsOf g "__len__" 0) e
  | .isinst, [a, .cst (.gl c)] => if clsB g c then .isO a c else .nev
  | b, es => .blt b es
def cCallN (g : G) (cs : CS) (x : Str) (es : List E) : E :=
  if oddName x then .nev
  else if visB cs.sc x then (match ixOf cs.N x 0 with
    | some i => if es.isEmpty then .nev else .callv i es
    | none => .nev)
  else if !globB cs.sc x then .nev
  else match gIx g x 0 with
    | some (i, .fn ps) => if es.length = ps then .call i es else .nev
    | some (i, .cls ci) => (match ci.ms.lookup ("__init__" : Str) with
      | some (j, ps) => if es.length + 1 = ps ∧ es.isEmpty = false then .make i j es else .nev
      | none => .nev)
    | some _ => .nev
    | none => if es.isEmpty then .nev else match bltOf x with
      | some b => cBlt g b es
      | none => .nev
def cCallM (g : G) (m : Str) (apos pos : Pos) (o : Expr) (io : E) (es : List E) : E :=
  if superB o || !(apos.endLine == pos.line) || !decide (es.length < 20) then .nev
  else if (methsOf g m es.length).isEmpty then (if es.isEmpty then .nev else match metOf m with
    | some k => .met k io es
    | none => .nev)
  else if (metOf m).isSome || !decide (nmS (encS m) = m) then .nev else .meth (methsOf g m es.length) (encS m) io es
def cAttr (g : G) (f : Str) (o : Expr) (io : E) : E :=
  if superB o || !decide (nmS (encS f) = f) then .nev else .attr (propsOf g f) (fldsOf g f) (encS f) io
def litB : Expr → Bool
  | .Constant (.int _) _ _ => true
  | .Constant (.str _) _ _ => true
  | _ => false
def oneB (g : G) (cs : CS) : Expr → Bool
  | .Call (.Name x _) args [] _ => args.any litB && !(args.any starB) && !visB cs.sc x && (match gIx g x 0 with | some (_, .fn _) => true | _ => false)
  | _ => false
def cRepl (apos pos : Pos) (y z : Str) (o : Expr) (io : E) : E := match y.cps.toList with
  | [c] => if (y == z) || superB o || !(apos.endLine == pos.line) then .nev else .repl c z.cps.toList io
  | _ => .nev
def lookS (sc : Scope) (x : Str) : Option NameKind := sc.names.lookup x
def cTg : Nat → CS → Expr → Option Tg
  | 0, _, _ => none
  | n + 1, cs, e => match e with
    | .Name x _ => (match lookS cs.sc x with
      | some .local => (match ixOf cs.N x 0 with | some i => some (.nm i) | none => none)
      | some .cell => if cs.fnc x then (match ixOf cs.N x 0 with | some i => some (.nm i) | none => none) else none
      | _ => none)
    | .Tuple es _ _ => if es.any starB then none else (match cTgs (cTg n cs) es with | some ts => some (.tp ts) | none => none)
    | _ => none
where cTgs (f : Expr → Option Tg) : List Expr → Option (List Tg)
  | [] => some []
  | e :: es => match f e with
    | some t => match cTgs f es with
      | some ts => some (t :: ts)
      | none => none
    | none => none
def tupB : Expr → Bool
  | .Tuple _ _ _ => true
  | _ => false
def cIt (g : G) (cs : CS) (tg : Expr) (it : Expr) : Option (ItK × List Expr) := match it with
  | .Call (.Name x _) args [] _ =>
    if visB cs.sc x || !globB cs.sc x then none
    else match gIx g x 0 with
      | some _ => some (.val, [it])
      | none =>
        if x = "range" then (match args with | [a] => if starB a then none else some (.rng, [a]) | [a, b] => if starB a || starB b then none else some (.rng, [a, b]) | [a, b, c] => if starB a || starB b || starB c then none else some (.rng, [a, b, c]) | _ => none)
        else if x = "enumerate" then (match args with | [a] => if starB a || !tupB tg then none else some (.enum, [a]) | _ => none)
        else if x = "zip" then (match args with | [a, b] => if starB a || starB b || !tupB tg then none else some (.zip, [a, b]) | _ => none)
        else some (.val, [it])
  | .Set _ _ _ => none
  | _ => some (.val, [it])
def ownOf (N : List Str) : List (Str × NameKind) → List (Str × Nat)
  | [] => []
  | (x, k) :: r => match k with
    | .local => (match ixOf N x 0 with | some i => (x, i) :: ownOf N r | none => ownOf N r)
    | .cell => (match ixOf N x 0 with | some i => (x, i) :: ownOf N r | none => ownOf N r)
    | _ => ownOf N r

def unstar : Expr → Expr
  | .Starred e _ => e
  | e => e
def lzipB (g : G) (cs : CS) (x : Str) : List Expr → Option (Expr × Expr)
  | [.Call (.Name y _) [a, b] [] _] => if x = "list" ∧ y = "zip" ∧ (visB cs.sc x || !globB cs.sc x || visB cs.sc y || !globB cs.sc y || (gIx g x 0).isSome || (gIx g y 0).isSome || starB a || starB b) = false then some (a, b) else none
  | _ => none
def lrngB (g : G) (cs : CS) (x : Str) : List Expr → Option Expr
  | [.Call (.Name y _) [a] [] _] => if x = "list" ∧ y = "range" ∧ (visB cs.sc x || !globB cs.sc x || visB cs.sc y || !globB cs.sc y || (gIx g x 0).isSome || (gIx g y 0).isSome || starB a) = false then some a else none
  | _ => none
def rev1 : Option Expr → Bool
  | some (.UnaryOp .USub (.Constant (.int 1) _ _) _) => true
  | _ => false
def cE (g : G) : Nat → CS → Expr → E
  | 0, _, _ => .nev
  | n + 1, cs, e => match e with
    | .Name x _ => cName g cs x
    | .Constant c _ _ => cConst c
    | .BinOp a op b _ => .op2 op (cE g n cs a) (cE g n cs b)
    | .UnaryOp op a _ => (match op with
      | .USub => .neg (cE g n cs a)
      | .Not => .not (cE g n cs a)
      | _ => .nev)
    | .BoolOp op vs _ => cBool op (vs.map (cE g n cs))
    | .Compare a ops bs _ => cCmp (cE g n cs a) ops bs (bs.map (cE g n cs))
    | .IfExp c a b _ => .ite (cE g n cs c) (cE g n cs a) (cE g n cs b)
    | .Tuple es _ _ => if es.any starB then .tupX (es.map fun e => cE g n cs (unstar e)) (es.map starB) else .tup (es.map (cE g n cs))
    | .List es _ => if es.any starB then .lstX (es.map fun e => cE g n cs (unstar e)) (es.map starB) else .lst (es.map (cE g n cs))
    | .Subscript a i _ => (match i with
      | .Slice lo hi st _ => (match st with
        | some s => (match lo, hi with
          | none, none => if rev1 (some s) then .rev (cE g n cs a) else .nev
          | _, _ => .nev)
        | none => .slc (cE g n cs a) (match lo with | some l => cE g n cs l | none => .cst .non) (match hi with | some h => cE g n cs h | none => .cst .non))
      | _ => .sub (cE g n cs a) (cE g n cs i))
    | .Call f args kws pos => if !kws.isEmpty || args.any starB then .nev else (match f with
      | .Name x _ => (match lzipB g cs x args with
        | some (a, b) => .lzip [cE g n cs a, cE g n cs b]
        | none => (match lrngB g cs x args with
          | some a => .lrng [cE g n cs a]
          | none => cCallN g cs x (args.map (cE g n cs))))
      | .Attribute o m apos => (match args with
        | [.Constant (.str y) _ _, .Constant (.str z) _ _] => if m = "replace" then (if oneB g cs o then cRepl apos pos y z o (cE g n cs o) else .nev) else cCallM g m apos pos o (cE g n cs o) (args.map (cE g n cs))
        | _ => cCallM g m apos pos o (cE g n cs o) (args.map (cE g n cs)))
      | _ => .nev)
    | .Attribute o f _ => cAttr g f o (cE g n cs o)
    | .ListComp elt gens scope _ => (match gens with
      | [⟨tg, it, ifs, a⟩] => if a = 0 ∧ ifs.length ≤ 1 ∧ blkC cs.N cs.sc scope (ownOf cs.N scope.names) = true then
          (match cIt g cs tg it with
          | some (k, src) => (match cTg n ⟨cs.N, relS scope cs.sc, fun x => scope.names.lookup x == some .cell⟩ tg with
            | some t => if (tgIx t).all (fun i => ((ownOf cs.N scope.names).map (·.2)).contains i) then .lc k (src.map (cE g n cs)) t ((ownOf cs.N scope.names).map (·.2)) (ifs.map (cE g n ⟨cs.N, relS scope cs.sc, fun x => scope.names.lookup x == some .cell⟩))
                (cE g n ⟨cs.N, relS scope cs.sc, fun x => scope.names.lookup x == some .cell⟩ elt) else .nev
            | none => .nev)
          | none => .nev)
        else .nev
      | [⟨tg, it, ifs, a⟩, ⟨tg1, it1, ifs1, a1⟩] => if a = 0 ∧ a1 = 0 ∧ ifs.isEmpty = true ∧ ifs1.isEmpty = true ∧ blkC cs.N cs.sc scope (ownOf cs.N scope.names) = true then
          (match cIt g cs tg it, cIt g ⟨cs.N, relS scope cs.sc, fun x => scope.names.lookup x == some .cell⟩ tg1 it1 with
          | some (.val, src), some (.val, src1) => (match cTg n ⟨cs.N, relS scope cs.sc, fun x => scope.names.lookup x == some .cell⟩ tg, cTg n ⟨cs.N, relS scope cs.sc, fun x => scope.names.lookup x == some .cell⟩ tg1 with
            | some t, some t1 => if ((tgIx t).all (fun i => ((ownOf cs.N scope.names).map (·.2)).contains i) && (tgIx t1).all (fun i => ((ownOf cs.N scope.names).map (·.2)).contains i)) = true then
                .lc2 (src.map (cE g n cs)) t (src1.map (cE g n ⟨cs.N, relS scope cs.sc, fun x => scope.names.lookup x == some .cell⟩)) t1 ((ownOf cs.N scope.names).map (·.2)) (cE g n ⟨cs.N, relS scope cs.sc, fun x => scope.names.lookup x == some .cell⟩ elt) else .nev
            | _, _ => .nev)
          | _, _ => .nev)
        else .nev
      | _ => .nev)
    | _ => .nev

def isFunK : ScopeKind → Bool
  | .function => true
  | _ => false
def lcNm (sc : Scope) (x : Str) (tp : Pos) (e : Expr) : Bool := match e with
  | .ListComp _ [_] scope pos => (tp.line == pos.line) && (match lookS sc x with | some .local => true | _ => false) && !(scope.names.any fun (n, k) => n == x && (k == .local || k == .cell)) && isFunK sc.kind
  | _ => false
def bkS (sc : Scope) : ScopeKind := if sc.kind.isAnnotationScope then .function else sc.kind
def swR (sc : Scope) (ts vs : List Expr) : Option (Option (List Str)) :=
  if !(ts.length == 2 || ts.length == 3) || vs.length != ts.length || bkS sc != .function then some none
  else if vs.any (fun | .Starred .. => true | _ => false) then some none
  else
    let line := (ts.head?.map (·.pos.line)).getD 0
    let names := ts.filterMap fun
      | .Name id pos => if sc.names.lookup id == some .local && pos.line == line then some id else none
      | _ => none
    if names.length != ts.length || names.eraseDups.length != names.length then some none
    else if vs.all (foldedForSure 8) then some none
    else if vs.all (constantsAlone 8) then none
    else some (some names)
def locS (sc : Scope) (x : Str) : Bool := match lookS sc x with | some .local => true | _ => false
def parS (cs : CS) (f : Expr → E) (ts vs : List Expr) (xs : List Str) : S := match ts, vs with
  | [.Name x _, .Name y _], [a, b] => if xs = [x, y] ∧ (locS cs.sc x && locS cs.sc y && !starB a && !starB b) = true then (match ixOf cs.N x 0, ixOf cs.N y 0 with
    | some i, some j => if i ≠ j then .par [i, j] [f a, f b] else .nev
    | _, _ => .nev) else .nev
  | [.Name x _, .Name y _, .Name z _], [a, b, c] => if xs = [x, y, z] ∧ (locS cs.sc x && locS cs.sc y && locS cs.sc z && !starB a && !starB b && !starB c) = true then (match ixOf cs.N x 0, ixOf cs.N y 0, ixOf cs.N z 0 with
    | some i, some j, some l => if i ≠ j ∧ i ≠ l ∧ j ≠ l then .par [i, j, l] [f a, f b, f c] else .nev
    | _, _, _ => .nev) else .nev
  | _, _ => .nev
def augB : Operator → Bool
  | .Add => true
  | .Sub => true
  | _ => false
def asgO (o : Option Tg) (e : E) : S := match o with
  | some t => .asg t e
  | none => .nev
def cS (g : G) : Nat → CS → Stmt → S
  | 0, _, _ => .nev
  | n + 1, cs, s => match s with
    | .Assign ts e pos => (match ts with
      | [t] => (match t with
        | .Subscript o i _ => if compB e || sliceB i then .nev else .asgS (cE g n cs o) (cE g n cs i) (cE g n cs e)
        | .Attribute o f _ => if compB e || superB o || !decide (nmS (encS f) = f) then .nev else .setF (fldsOf g f) (encS f) (cE g n cs o) (cE g n cs e)
        | .Name x tp => if compB e then (if lcNm cs.sc x tp e then asgO (cTg n cs (.Name x tp)) (cE g n cs e) else .nev) else asgO (cTg n cs (.Name x tp)) (cE g n cs e)
        | .Tuple ts k p => if compB e then .nev else (match e with
          | .Tuple vs k2 p2 => (match swR cs.sc ts vs with
            | none => .nev
            | some none => asgO (cTg n cs (.Tuple ts k p)) (cE g n cs (.Tuple vs k2 p2))
            | some (some xs) => parS cs (cE g n cs) ts vs xs)
          | _ => asgO (cTg n cs (.Tuple ts k p)) (cE g n cs e))
        | _ => .nev)
      | _ => .nev)
    | .AugAssign t op e _ => (match t with
      | .Name x tp => if locS cs.sc x && augB op then (match ixOf cs.N x 0 with | some i => .aug op i (cE g n cs e) | none => .nev) else .nev
      | _ => .nev)
    | .Expr e _ => if compB e then .nev else .expr (cE g n cs e)
    | .Return v _ => (match v with
      | some e => .ret (cE g n cs e)
      | none => .retN)
    | .If c a b _ => .ifs (cE g n cs c) (a.map (cS g n cs)) (b.map (cS g n cs))
    | .While c b o _ => (match o with
      | [] => .whil (cE g n cs c) (b.map (cS g n cs))
      | _ :: _ => .nev)
    | .For tg it b o _ => (match o with
      | [] => (match cIt g cs tg it with
        | some (k, src) => (match cTg n cs tg with
          | some t => .for_ k (src.map (cE g n cs)) t (b.map (cS g n cs))
          | none => .nev)
        | none => .nev)
      | _ :: _ => .nev)
    | .Break _ => .brk
    | .Continue _ => .cont
    | .Pass _ => .pass
    | _ => .nev

structure DefI where
  name : Str
  N : List Str
  body : List Stmt
  scope : Scope
  ps : Nat
  qual : Str := name
  own : Option Str := none
  prp : Bool := false
  dfl : List D := []
def fnI (g : G) (d : DefI) : Fn := ⟨d.N.length, d.ps, d.body.map (cS g 40 ⟨d.N, d.scope, fun _ => true⟩)⟩
end RX

namespace RX
open PySem PySem.Spec PyProof.Rows L2

abbrev GA := Nat → Addr

mutual
inductive RD (K : PySem.W.Frag) (ga : GA) (ι : List Addr) (H : Hp) : D → V → Prop
  | non : RD K ga ι H .non .non
  | bl (b : Bool) : RD K ga ι H (.bl b) (.bl b)
  | int (i : Int) : RD K ga ι H (.int i) (.int i)
  | str (s : List Nat) : RD K ga ι H (.str s) (.str ⟨s.toArray⟩)
  | tup {ds : List D} {a : Addr} {vs : List V} : SqT K H a vs → RDs K ga ι H ds vs → RD K ga ι H (.tup ds) (.ref a)
  | ref {n : Nat} {a : Addr} : ι[n]? = some a → RD K ga ι H (.ref n) (.ref a)
  | gl (n : Nat) : RD K ga ι H (.gl n) (.ref (ga n))
  | ty (n : String) : RD K ga ι H (.ty n) (.ty n)
inductive RDs (K : PySem.W.Frag) (ga : GA) (ι : List Addr) (H : Hp) : List D → List V → Prop
  | nil : RDs K ga ι H [] []
  | cons {d : D} {v : V} {ds : List D} {vs : List V} : RD K ga ι H d v → RDs K ga ι H ds vs → RDs K ga ι H (d :: ds) (v :: vs)
end

structure Ext (H H' : Hp) : Prop where
  tup : ∀ a xs, H a = some (.tup xs) → H' a = some (.tup xs)
  frz : ∀ a o u, H a = some (.frz o u) → H' a = some (.frz o u)
theorem Ext.refl (H : Hp) : Ext H H := ⟨fun _ _ h => h, fun _ _ _ h => h⟩
theorem Ext.trans {H H1 H2 : Hp} (a : Ext H H1) (b : Ext H1 H2) : Ext H H2 := ⟨fun c xs h => b.tup c xs (a.tup c xs h), fun c o u h => b.frz c o u (a.frz c o u h)⟩
theorem Ext.new {H : Hp} {p : Addr} {o : HO} (h : H p = none) : Ext H (upd H p o) :=
  ⟨fun a xs e => by rw [upd_ne (ne_of_none e h)]; exact e, fun a o u e => by rw [upd_ne (ne_of_none e h)]; exact e⟩
theorem Ext.set {H : Hp} {p : Addr} {o : HO} (h : Mut (H p)) : Ext H (upd H p o) :=
  ⟨fun a xs e => by
    have n : a ≠ p := fun z => by rw [← z, e] at h; exact h
    rw [upd_ne n]; exact e, fun a o u e => by
    have n : a ≠ p := fun z => by rw [← z, e] at h; exact h
    rw [upd_ne n]; exact e⟩
theorem Ext.sqT {K : PySem.W.Frag} {H H' : Hp} {a : Addr} {xs : List V} (e : Ext H H') (h : SqT K H a xs) : SqT K H' a xs := by
  rcases h with (h | ⟨o, h⟩) | h
  · exact .inl (.inl (e.tup a xs h))
  · exact .inl (.inr ⟨o, e.frz a o _ h⟩)
  · exact .inr h

abbrev Pre (ι ι' : List Addr) : Prop := ∃ more, ι' = ι ++ more
theorem Pre.refl (ι : List Addr) : Pre ι ι := ⟨[], by simp⟩
theorem Pre.trans {a b c : List Addr} (x : Pre a b) (y : Pre b c) : Pre a c := by
  obtain ⟨m, rfl⟩ := x
  obtain ⟨n, rfl⟩ := y
  exact ⟨m ++ n, by simp⟩
theorem Pre.get {ι ι' : List Addr} (p : Pre ι ι') {n : Nat} {a : Addr} (h : ι[n]? = some a) : ι'[n]? = some a := by
  obtain ⟨m, rfl⟩ := p
  obtain ⟨h1, h2⟩ := List.getElem?_eq_some_iff.mp h
  rw [List.getElem?_append_left h1]
  exact h

section
variable {K : PySem.W.Frag} {ga : GA} {ι ι' : List Addr} {H H' : Hp}
mutual
theorem RD.mono (e : Ext H H') (p : Pre ι ι') : ∀ {d : D} {v : V}, RD K ga ι H d v → RD K ga ι' H' d v
  | _, _, .non => .non
  | _, _, .bl b => .bl b
  | _, _, .int i => .int i
  | _, _, .str s => .str s
  | _, _, .tup h r => .tup (e.sqT h) (RDs.mono e p r)
  | _, _, .ref h => .ref (p.get h)
  | _, _, .gl n => .gl n
  | _, _, .ty n => .ty n
theorem RDs.mono (e : Ext H H') (p : Pre ι ι') : ∀ {ds : List D} {vs : List V}, RDs K ga ι H ds vs → RDs K ga ι' H' ds vs
  | _, _, .nil => .nil
  | _, _, .cons r t => .cons (RD.mono e p r) (RDs.mono e p t)
end
theorem RDs.length : ∀ {ds : List D} {vs : List V}, RDs K ga ι H ds vs → ds.length = vs.length
  | _, _, .nil => rfl
  | _, _, .cons _ t => by simp [RDs.length t]
theorem RDs.get : ∀ {ds : List D} {vs : List V} {i : Nat} {d : D}, RDs K ga ι H ds vs → ds[i]? = some d → ∃ v, vs[i]? = some v ∧ RD K ga ι H d v
  | _, _, i, d, .nil, h => by simp at h
  | _, _, 0, d, .cons r t, h => by
    simp at h; subst h; exact ⟨_, rfl, r⟩
  | _, _, i + 1, d, .cons r t, h => by
    obtain ⟨v, h1, h2⟩ := RDs.get (i := i) t (by simpa using h)
    exact ⟨v, by simpa using h1, h2⟩
theorem RDs.getNone {ds : List D} {vs : List V} {i : Nat} (r : RDs K ga ι H ds vs) (h : ds[i]? = none) : vs.length ≤ i := by
  have := List.getElem?_eq_none_iff.mp h
  have := r.length
  omega
theorem RDs.append : ∀ {ds es : List D} {vs ws : List V}, RDs K ga ι H ds vs → RDs K ga ι H es ws → RDs K ga ι H (ds ++ es) (vs ++ ws)
  | _, _, _, _, .nil, s => s
  | _, _, _, _, .cons r t, s => .cons r (RDs.append t s)
theorem RDs.take : ∀ {ds : List D} {vs : List V} (n : Nat), RDs K ga ι H ds vs → RDs K ga ι H (ds.take n) (vs.take n)
  | _, _, 0, _ => by simp; exact .nil
  | _, _, n + 1, .nil => .nil
  | _, _, n + 1, .cons r t => .cons r (RDs.take n t)
theorem RDs.drop : ∀ {ds : List D} {vs : List V} (n : Nat), RDs K ga ι H ds vs → RDs K ga ι H (ds.drop n) (vs.drop n)
  | _, _, 0, r => r
  | _, _, n + 1, .nil => .nil
  | _, _, n + 1, .cons r t => RDs.drop n t
theorem RDs.set : ∀ {ds : List D} {vs : List V} {d : D} {v : V} (n : Nat), RDs K ga ι H ds vs → RD K ga ι H d v → RDs K ga ι H (ds.set n d) (vs.set n v)
  | _, _, _, _, _, .nil, _ => .nil
  | _, _, _, _, 0, .cons r t, q => .cons q t
  | _, _, _, _, n + 1, .cons r t, q => .cons r (RDs.set n t q)
theorem RDs.rep {ds : List D} {vs : List V} (r : RDs K ga ι H ds vs) : ∀ n : Nat, RDs K ga ι H (List.replicate n ds).flatten (List.replicate n vs).flatten
  | 0 => by simp; exact .nil
  | n + 1 => by
    rw [List.replicate_succ, List.replicate_succ, List.flatten_cons, List.flatten_cons]
    exact r.append (RDs.rep r n)
end

def FroAt (K : PySem.W.Frag) (H : Hp) (a : Addr) (xs : List V) : Prop :=
  (∃ o, H a = some (.frz o (.lst xs))) ∨
    ∃ (o : Obj) (its : Array Value) (n : Nat), K.lookup a = some o ∧ o.cls = .type "list" ∧ o.dict = none ∧ o.data = .seq its n ∧ its.size ≤ sizeLine ∧ Vals xs its.toList
theorem FroAt.sq {K : PySem.W.Frag} {H : Hp} {a : Addr} {xs : List V} (h : FroAt K H a xs) : SqL K H a xs := by
  rcases h with h | h
  · exact .inl (.inr h)
  · exact .inr h
theorem Ext.fro {K : PySem.W.Frag} {H H' : Hp} {a : Addr} {xs : List V} (e : Ext H H') (h : FroAt K H a xs) : FroAt K H' a xs := by
  rcases h with ⟨o, h⟩ | h
  · exact .inl ⟨o, e.frz a o _ h⟩
  · exact .inr h
inductive RFs (K : PySem.W.Frag) (ga : GA) (ι : List Addr) (H : Hp) : List (Nat × D) → List (Str × V) → Prop
  | nil : RFs K ga ι H [] []
  | cons {i : Nat} {d : D} {v : V} {fs : List (Nat × D)} {gs : List (Str × V)} : encS (nmS i) = i → RD K ga ι H d v → RFs K ga ι H fs gs → RFs K ga ι H ((i, d) :: fs) ((nmS i, v) :: gs)
section
variable {K : PySem.W.Frag} {ga : GA} {ι ι' : List Addr} {H H' : Hp} {fs : List (Nat × D)} {gs : List (Str × V)}
theorem RFs.mono (e : Ext H H') (p : Pre ι ι') (r : RFs K ga ι H fs gs) : RFs K ga ι' H' fs gs := by
  induction r with
  | nil => exact .nil
  | cons k d _ ih => exact .cons k (d.mono e p) ih
theorem RFs.length (r : RFs K ga ι H fs gs) : fs.length = gs.length := by
  induction r with
  | nil => rfl
  | cons k d _ ih => simp [ih]
theorem RFs.get (r : RFs K ga ι H fs gs) {f : Nat} {d : D} (h : fs.lookup f = some d) : ∃ v, gs.lookup (nmS f) = some v ∧ RD K ga ι H d v := by
  induction r with
  | nil => cases h
  | @cons i e v fs gs k q rr ih =>
    rw [List.lookup_cons] at h ⊢
    by_cases hi : f = i
    · subst hi
      simp only [beq_self_eq_true] at h ⊢
      cases h
      exact ⟨v, rfl, q⟩
    · have h1 : (f == i) = false := by simpa using hi
      rw [h1] at h
      obtain ⟨w, e1, e2⟩ := ih h
      by_cases hn : nmS f = nmS i
      · -- then the first is met, but the ids are one
        exfalso
        have : ∀ {fs : List (Nat × D)} {gs : List (Str × V)}, RFs K ga ι H fs gs → fs.lookup f = some d → encS (nmS f) = f := by
          intro fs gs r
          induction r with
          | nil => intro h; cases h
          | @cons i' e' v' fs' gs' k' q' _ ih' =>
            intro h
            rw [List.lookup_cons] at h
            by_cases hi' : f = i'
            · rw [hi']; exact k'
            · have h2 : (f == i') = false := by simpa using hi'
              rw [h2] at h
              exact ih' h
        have kf := this rr h
        rw [hn, k] at kf
        exact hi kf.symm
      · have h2 : (nmS f == nmS i) = false := by simpa using hn
        rw [h2]
        exact ⟨w, e1, e2⟩
theorem RFs.none (r : RFs K ga ι H fs gs) {x : Str} (h : fs.lookup (encS x) = none) : gs.lookup x = none := by
  induction r with
  | nil => rfl
  | @cons i e v fs gs k q _ ih =>
    rw [List.lookup_cons] at h ⊢
    by_cases hn : x = nmS i
    · rw [hn, k] at h
      simp at h
    · have h2 : (x == nmS i) = false := by simpa using hn
      rw [h2]
      by_cases hi : encS x = i
      · have h3 : (encS x == i) = true := by simpa using hi
        rw [h3] at h
        cases h
      · have h3 : (encS x == i) = false := by simpa using hi
        rw [h3] at h
        exact ih h
theorem RFs.put (r : RFs K ga ι H fs gs) {f : Nat} {d : D} {v : V} (kf : encS (nmS f) = f) (q : RD K ga ι H d v) : RFs K ga ι H (putN f d fs) (putF (nmS f) v gs) := by
  induction r with
  | nil => exact .cons kf q .nil
  | @cons i e w fs gs k r1 r2 ih =>
    unfold putN putF
    by_cases hi : i = f
    · subst hi
      rw [if_pos rfl, if_pos rfl]
      exact .cons k q r2
    · have hn : nmS i ≠ nmS f := fun z => hi (by rw [← k, z, kf])
      rw [if_neg hi, if_neg hn]
      exact .cons k r1 ih
end
def CellAt (K : PySem.W.Frag) (ga : GA) (ι : List Addr) (H : Hp) (a : Addr) : Cell → Prop
  | .lst ds => ∃ vs, H a = some (.lst vs) ∧ RDs K ga ι H ds vs
  | .fro ds => ∃ vs, FroAt K H a vs ∧ RDs K ga ι H ds vs
  | .dct _ => False
  | .ins c fs => ∃ dx gs, H a = some (.ins (ga c) dx gs) ∧ RFs K ga ι H fs gs
def isFro : Cell → Bool
  | .fro _ => true
  | _ => false
structure RS (K : PySem.W.Frag) (ga : GA) (ι : List Addr) (H : Hp) (st : Store) : Prop where
  len : ι.length = st.length
  at_ : ∀ (n : Nat) (c : Cell) (a : Addr), st[n]? = some c → ι[n]? = some a → CellAt K ga ι H a c
  inj : ∀ (n m : Nat) (a : Addr) (c c' : Cell), ι[n]? = some a → ι[m]? = some a → st[n]? = some c → st[m]? = some c' → isFro c = false → isFro c' = false → n = m

section
variable {K : PySem.W.Frag} {ga : GA} {ι ι' : List Addr} {H H' : Hp} {st : Store}
theorem RS.addr (r : RS K ga ι H st) {n : Nat} {c : Cell} (h : st[n]? = some c) : ∃ a, ι[n]? = some a ∧ CellAt K ga ι H a c := by
  have hn : n < ι.length := by rw [r.len]; exact (List.getElem?_eq_some_iff.mp h).1
  exact ⟨ι[n], by simp [hn], r.at_ n c _ h (by simp [hn])⟩
theorem CellAt.mut {a : Addr} {c : Cell} (h : CellAt K ga ι H a c) (hf : isFro c = false) : Mut (H a) := by
  cases c with
  | lst ds => obtain ⟨vs, e, _⟩ := h; rw [e]; trivial
  | fro ds => cases hf
  | dct kvs => exact h.elim
  | ins c fs => obtain ⟨dx, gs, e, _⟩ := h; rw [e]; trivial
theorem CellAt.stay {a : Addr} {c : Cell} (h : CellAt K ga ι H a c) (e : Ext H H') (p : Pre ι ι') (k : isFro c = false → H' a = H a) : CellAt K ga ι' H' a c := by
  cases c with
  | lst ds => obtain ⟨vs, q, r⟩ := h; exact ⟨vs, (k rfl).trans q, r.mono e p⟩
  | fro ds => obtain ⟨vs, q, r⟩ := h; exact ⟨vs, e.fro q, r.mono e p⟩
  | dct kvs => exact h.elim
  | ins c fs => obtain ⟨dx, gs, q, r⟩ := h; exact ⟨dx, gs, (k rfl).trans q, r.mono e p⟩
theorem get_snoc {α : Type} {l : List α} {x : α} {n : Nat} {y : α} (h : (l ++ [x])[n]? = some y) : (n < l.length ∧ l[n]? = some y) ∨ (n = l.length ∧ y = x) := by
  by_cases hn : n < l.length
  · rw [List.getElem?_append_left hn] at h
    exact .inl ⟨hn, h⟩
  · have hn' : l.length ≤ n := Nat.le_of_not_lt hn
    rw [List.getElem?_append_right hn'] at h
    have : n - l.length = 0 := by
      cases q : n - l.length with
      | zero => rfl
      | succ k => rw [q] at h; simp at h
    rw [this] at h
    simp at h
    exact .inr ⟨by omega, h.symm⟩
theorem RS.new (r : RS K ga ι H st) {p : Addr} {o : HO} {c : Cell} (hp : H p = none) (hc : CellAt K ga (ι ++ [p]) (upd H p o) p c) : RS K ga (ι ++ [p]) (upd H p o) (st ++ [c]) := by
  have e : Ext H (upd H p o) := .new hp
  have P : Pre ι (ι ++ [p]) := ⟨[p], rfl⟩
  refine ⟨by simp [r.len], fun n d a h1 h2 => ?_, fun n m a c1 c2 h1 h2 h3 h4 f1 f2 => ?_⟩
  · rcases get_snoc h1 with ⟨hn, h1⟩ | ⟨hn, rfl⟩
    · rcases get_snoc h2 with ⟨_, h2⟩ | ⟨hn', _⟩
      · have q := r.at_ n d a h1 h2
        refine q.stay e P fun hf => ?_
        have m := q.mut hf
        exact upd_ne fun z => by rw [z, hp] at m; exact m
      · rw [r.len] at hn'; omega
    · rcases get_snoc h2 with ⟨hn', _⟩ | ⟨_, rfl⟩
      · rw [r.len] at hn'; omega
      · exact hc
  · have key : ∀ {n m : Nat} {a : Addr} {c1 c2 : Cell}, n < ι.length → ι[n]? = some a → (ι ++ [p])[m]? = some a → (st ++ [c])[n]? = some c1 → (st ++ [c])[m]? = some c2 → isFro c1 = false → isFro c2 = false → n = m := by
      intro n m b d1 d2 hn k1 k2 k3 k4 g1 g2
      rcases get_snoc k3 with ⟨_, k3'⟩ | ⟨hn', _⟩
      · rcases get_snoc k2 with ⟨hm, k2'⟩ | ⟨hm, hb⟩
        · rcases get_snoc k4 with ⟨_, k4'⟩ | ⟨hm', _⟩
          · exact r.inj n m b d1 d2 k1 k2' k3' k4' g1 g2
          · rw [r.len] at hm; omega
        · have mu := (r.at_ n d1 b k3' k1).mut g1
          rw [hb, hp] at mu
          exact mu.elim
      · rw [r.len] at hn; omega
    rcases get_snoc h1 with ⟨hn, h1'⟩ | ⟨hn, _⟩
    · exact key hn h1' h2 h3 h4 f1 f2
    · rcases get_snoc h2 with ⟨hm, h2'⟩ | ⟨hm, _⟩
      · exact (key hm h2' h1 h4 h3 f2 f1).symm
      · omega
theorem RS.write (r : RS K ga ι H st) {n : Nat} {a : Addr} {c c' : Cell} {o : HO} (hn : st[n]? = some c) (ha : ι[n]? = some a) (hf : isFro c = false) (hf' : isFro c' = false) (hc : CellAt K ga ι (upd H a o) a c') : RS K ga ι (upd H a o) (st.set n c') := by
  have mu := (r.at_ n c a hn ha).mut hf
  have e : Ext H (upd H a o) := .set mu
  have hlt : n < st.length := (List.getElem?_eq_some_iff.mp hn).1
  have old : ∀ {m : Nat} {d : Cell}, (st.set n c')[m]? = some d → (m = n ∧ d = c') ∨ (m ≠ n ∧ st[m]? = some d) := by
    intro m d h
    by_cases hm : m = n
    · subst hm
      rw [List.getElem?_set_self hlt] at h
      exact .inl ⟨rfl, (Option.some.inj h).symm⟩
    · rw [List.getElem?_set_ne (Ne.symm hm)] at h
      exact .inr ⟨hm, h⟩
  refine ⟨by simp [r.len], fun m d b h1 h2 => ?_, fun m k b c1 c2 h1 h2 h3 h4 f1 f2 => ?_⟩
  · rcases old h1 with ⟨rfl, rfl⟩ | ⟨hm, h1⟩
    · rw [ha] at h2; cases h2
      exact hc
    · have q := r.at_ m d b h1 h2
      refine q.stay e (.refl _) fun hfd => ?_
      exact upd_ne fun z => hm (r.inj m n b d c h2 (by rw [z]; exact ha) h1 hn hfd hf)
  · rcases old h3 with ⟨e1, e2⟩ | ⟨hm, h3'⟩
    · rcases old h4 with ⟨e3, e4⟩ | ⟨hk, h4'⟩
      · rw [e1, e3]
      · exact r.inj m k b c c2 h1 h2 (by rw [e1]; exact hn) h4' hf f2
    · rcases old h4 with ⟨e3, e4⟩ | ⟨hk, h4'⟩
      · exact r.inj m k b c1 c h1 h2 h3' (by rw [e3]; exact hn) f1 hf
      · exact r.inj m k b c1 c2 h1 h2 h3' h4' f1 f2
theorem RS.mono (r : RS K ga ι H st) (e : Ext H H') (k : ∀ (n : Nat) (c : Cell) (a : Addr), st[n]? = some c → ι[n]? = some a → isFro c = false → H' a = H a) : RS K ga ι H' st :=
  ⟨r.len, fun n c a h1 h2 => (r.at_ n c a h1 h2).stay e (.refl _) fun f => k n c a h1 h2 f, r.inj⟩
theorem RS.fresh (r : RS K ga ι H st) {p : Addr} {o : HO} (hp : H p = none) : RS K ga ι (upd H p o) st :=
  r.mono (.new hp) fun n c a h1 h2 f => upd_ne fun z => by
    have m := (r.at_ n c a h1 h2).mut f
    rw [z, hp] at m; exact m
end

def RE (K : PySem.W.Frag) (ga : GA) (ι : List Addr) (H : Hp) (env : EnvD) (σ : L2.St) : Prop :=
  env.length = σ.length ∧ ∀ (i : Nat) (d : D), env[i]? = some (some d) → ∃ v, σ[i]? = some (some v) ∧ RD K ga ι H d v
section
variable {K : PySem.W.Frag} {ga : GA} {ι ι' : List Addr} {H H' : Hp} {env : EnvD} {σ : L2.St}
theorem RE.mono (r : RE K ga ι H env σ) (e : Ext H H') (p : Pre ι ι') : RE K ga ι' H' env σ :=
  ⟨r.1, fun i d h => let ⟨v, h1, h2⟩ := r.2 i d h; ⟨v, h1, h2.mono e p⟩⟩
theorem RE.set (r : RE K ga ι H env σ) {i : Nat} {d : D} {v : V} (q : RD K ga ι H d v) : RE K ga ι H (env.set i (some d)) (σ.set i (some v)) := by
  refine ⟨by simp [r.1], fun j e h => ?_⟩
  by_cases hj : j = i
  · subst hj
    have hlt : j < env.length := by
      have := (List.getElem?_eq_some_iff.mp h).1
      simpa using this
    rw [List.getElem?_set_self hlt] at h
    cases h
    refine ⟨v, ?_, q⟩
    rw [List.getElem?_set_self (by rw [← r.1]; exact hlt)]
  · rw [List.getElem?_set_ne (Ne.symm hj)] at h
    obtain ⟨w, h1, h2⟩ := r.2 j e h
    exact ⟨w, by rw [List.getElem?_set_ne (Ne.symm hj)]; exact h1, h2⟩
theorem RE.none (r : RE K ga ι H env σ) (i : Nat) : RE K ga ι H (env.set i none) (σ.set i none) := by
  refine ⟨by simp [r.1], fun j e h => ?_⟩
  by_cases hj : j = i
  · subst hj
    have hlt : j < env.length := by
      have := (List.getElem?_eq_some_iff.mp h).1
      simpa using this
    rw [List.getElem?_set_self hlt] at h
    cases h
  · rw [List.getElem?_set_ne (Ne.symm hj)] at h
    obtain ⟨w, h1, h2⟩ := r.2 j e h
    exact ⟨w, by rw [List.getElem?_set_ne (Ne.symm hj)]; exact h1, h2⟩
theorem RE.wipe (r : RE K ga ι H env σ) : ∀ own : List Nat, RE K ga ι H (wipeE env own) (L2.wipe σ own)
  | [] => r
  | v :: vs => RE.none (RE.wipe r vs) v
end

abbrev XF := Nat → Str
structure Mo where
  K : PySem.W.Frag
  ga : GA
  xf : XF
def XOk (M : Mo) (c : Nat) (p : Option D) (ι' : List Addr) (H' : Hp) (cls : Value) (dd : Option Addr) : Prop :=
  cls = .ref (M.ga c) ∧ match p with
    | none => dd = none
    | some d => ∃ dx v, dd = some dx ∧ H' dx = some (.xd [(M.xf c, v)]) ∧ RD M.K M.ga ι' H' d v
def Good (M : Mo) {α β : Type} (R : List Addr → Hp → α → β → Prop) (W : Value → Option Addr → Hp → Prop) (ι : List Addr) (H : Hp) (x : Out α) (Q : β → Hp → Prop) : Prop := match x with
  | .ok a st' => ∀ (ι' : List Addr) (H' : Hp) (b : β), Ext H H' → Pre ι ι' → RS M.K M.ga ι' H' st' → R ι' H' a b → Q b H'
  | .exc c p st' => ∀ (ι' : List Addr) (H' : Hp) (cls : Value) (dd : Option Addr), Ext H H' → Pre ι ι' → RS M.K M.ga ι' H' st' → XOk M c p ι' H' cls dd → W cls dd H'
  | .stuck => False
abbrev rD (M : Mo) : List Addr → Hp → D → V → Prop := fun ι H d v => RD M.K M.ga ι H d v
abbrev rDs (M : Mo) : List Addr → Hp → List D → List V → Prop := fun ι H d v => RDs M.K M.ga ι H d v
abbrev rEq {α : Type} : List Addr → Hp → α → α → Prop := fun _ _ a b => a = b
section
variable {M : Mo} {α β γ δ : Type} {R : List Addr → Hp → α → β → Prop} {R' : List Addr → Hp → γ → δ → Prop} {W : Value → Option Addr → Hp → Prop} {ι ι' : List Addr} {H H' : Hp} {x : Out α}
theorem Good.later {Q : β → Hp → Prop} (g : Good M R W ι H x Q) (e : Ext H H') (p : Pre ι ι') : Good M R W ι' H' x Q := by
  cases x with
  | ok a st => exact fun ι2 H2 b e2 p2 => g ι2 H2 b (e.trans e2) (p.trans p2)
  | exc c q st => exact fun ι2 H2 cls dd e2 p2 => g ι2 H2 cls dd (e.trans e2) (p.trans p2)
  | stuck => exact g
theorem Good.mono {Q Q' : β → Hp → Prop} (g : Good M R W ι H x Q) (h : ∀ b H', Q b H' → Q' b H') : Good M R W ι H x Q' := by
  cases x with
  | ok a st => exact fun ι2 H2 b e2 p2 r q => h _ _ (g ι2 H2 b e2 p2 r q)
  | exc c q st => exact g
  | stuck => exact g
theorem Good.seq {k : α → Store → Out γ} {Q : δ → Hp → Prop} (g : Good M R' W ι H (x.bind k) Q) :
    Good M R W ι H x fun b H1 => ∃ (ι1 : List Addr) (st1 : Store) (a : α), x = .ok a st1 ∧ Ext H H1 ∧ Pre ι ι1 ∧ RS M.K M.ga ι1 H1 st1 ∧ R ι1 H1 a b ∧ Good M R' W ι1 H1 (k a st1) Q := by
  cases x with
  | ok a st => exact fun ι2 H2 b e2 p2 r q => ⟨ι2, st, a, rfl, e2, p2, r, q, Good.later (x := k a st) g e2 p2⟩
  | exc c q st => exact g
  | stuck => exact g
theorem Good.ok {Q : β → Hp → Prop} {a : α} {st : Store} {b : β} (g : Good M R W ι H (.ok a st) Q) (rs : RS M.K M.ga ι H st) (r : R ι H a b) : Q b H := g ι H b (.refl H) (.refl ι) rs r
theorem Good.okE {Q : β → Hp → Prop} {a : α} {st : Store} {b : β} (g : Good M R W ι H (.ok a st) Q) (e : Ext H H') (p : Pre ι ι') (rs : RS M.K M.ga ι' H' st) (r : R ι' H' a b) : Q b H' := g ι' H' b e p rs r
end
end RX

namespace RX
open PySem PySem.Spec PyProof.Rows L2

section
variable {X : Cx} {M : Mo}
def rO (M : Mo) (W : Value → Option Addr → Hp → Prop) (f : D → D → Store → Out D) : R2 := fun x y H Q => ∃ (ι : List Addr) (st : Store) (a b : D), RS M.K M.ga ι H st ∧ RD M.K M.ga ι H a x ∧ RD M.K M.ga ι H b y ∧ Good M (rD M) W ι H (f a b st) Q
theorem SL_eq : SL = sizeLine := by rw [sizeLine_eq]; rfl

theorem str_app (s t : List Nat) : (⟨s.toArray⟩ : Str) ++ ⟨t.toArray⟩ = ⟨(s ++ t).toArray⟩ := by
  show Str.mk (s.toArray ++ t.toArray) = _
  simp
theorem str_len (s : List Nat) : (⟨s.toArray⟩ : Str).length = s.length := by
  show s.toArray.size = _
  simp
theorem lst_of {ι : List Addr} {H : Hp} {st : Store} {n : Nat} {ds : List D} {x : V} (rs : RS M.K M.ga ι H st) (h : st[n]? = some (.lst ds)) (r : RD M.K M.ga ι H (.ref n) x) : ∃ a vs, x = .ref a ∧ ι[n]? = some a ∧ H a = some (.lst vs) ∧ RDs M.K M.ga ι H ds vs := by
  cases r with
  | ref e =>
    obtain ⟨vs, q, rd⟩ := rs.at_ n _ _ h e
    exact ⟨_, vs, rfl, e, q, rd⟩
theorem alloc_lst {ι : List Addr} {H : Hp} {st : Store} {ds : List D} {vs : List V} {W : Value → Option Addr → Hp → Prop} {Q : VK} (rs : RS M.K M.ga ι H st) (r : RDs M.K M.ga ι H ds vs) (g : Good M (rD M) W ι H (alloc (.lst ds) st) Q) :
    ∀ p, H p = none → Q (.ref p) (upd H p (.lst vs)) := fun p hp => by
  have e : Ext H (upd H p (.lst vs)) := .new hp
  have P : Pre ι (ι ++ [p]) := ⟨[p], rfl⟩
  refine Good.okE (M := M) g e P (rs.new hp ⟨vs, upd_same, r.mono e P⟩) (.ref ?_)
  rw [← rs.len]
  simp

theorem mul_sign {X : Cx} {pins : List (Addr × Obj)} {s : Shared} {σ : L2.St} {H : Hp} {c : Nat} {k : Int} {v u : Value} {Q : VK} (h1 : 0 ≤ k) (h2 : k ≤ SL) (I : L2.Inv X pins σ H s) (rx : RelV (.str ⟨[c].toArray⟩) v) (ry : RelV (.int k) u) (q : Q (.str ⟨(List.replicate k.toNat c).toArray⟩) H) :
    wpAny (model X.prog X.w) X.A (binaryOp .Mult v u) (EP X pins σ Q) X.xe s := by
  obtain ⟨t, rfl⟩ := rx
  obtain ⟨t', rfl⟩ := ry
  have hs : SL = 16777216 := rfl
  have e : Txt.mul ⟨[c].toArray⟩ k = ⟨(List.replicate k.toNat c).toArray⟩ := by
    have h := mul_one_list c k
    revert h
    generalize Txt.mul (⟨#[c]⟩ : Str) k = y
    intro h
    cases y with
    | mk cps =>
      have h : cps.toList = List.replicate k.toNat c := h
      rw [← h]
  refine PySem.SB.mul ⟨?_, ?_, ?_⟩ fun t' kk => ⟨.str _, H, I.tok kk, ⟨t', rfl⟩, by rw [e]; exact q⟩
  · rw [Bool.or_eq_false_iff]
    exact ⟨decide_eq_false (by omega), decide_eq_false (by omega)⟩
  · intro _ _ hh
    have h1 : (1 : Int) ≤ (2 ^ 63 - 1) / k := by
      by_cases hk : k = 0
      · omega
      · exact (Int.le_ediv_iff_mul_le (by omega)).mpr (by omega)
    have h3 : (((⟨[c].toArray⟩ : Str).length : Nat) : Int) = 1 := rfl
    omega
  · intro _ _
    have h3 : (⟨[c].toArray⟩ : Str).length = 1 := rfl
    rw [h3]
    have h4 : sizeLine = 16777216 := sizeLine_eq
    exact decide_eq_false (by rw [h4]; omega)
theorem op2_ok {W : Value → Option Addr → Hp → Prop} (hK : X.K = M.K) : ∀ op : Operator, OpR X (binaryOp op) (rO M W (op2 op)) := by
  intro op pins s σ H x y v u Q I rx ry ⟨ι, st, a, b, rs, ra, rb, g⟩
  cases op <;> simp only [op2] at g
  case Add =>
    split at g
    · cases ra; cases rb
      exact op_add pins s σ H _ _ v u Q I rx ry ⟨_, _, rfl, rfl, g.ok rs (.int _)⟩
    · split at g
      · rename_i hc
        cases ra; cases rb
        refine op_add_str pins s σ H _ _ v u Q I rx ry ⟨_, _, rfl, rfl, ?_, ?_⟩
        · rw [str_len, str_len, ← SL_eq]
          exact of_decide_eq_true hc
        · rw [str_app]
          exact g.ok rs (.str _)
      · exact g.elim
    · split at g
      · rename_i hc
        have hc := of_decide_eq_true hc
        cases ra with
        | tup h1 r1 => cases rb with
          | tup h2 r2 =>
            rename_i a1 vs1 a2 vs2
            refine op_catA pins s σ H _ _ v u Q I rx ry ⟨_, _, _, _, rfl, rfl, hK ▸ h1, hK ▸ h2, ?_, fun e => ?_, fun _ e => ?_, fun n1 n2 p hp => ?_⟩
            · rw [← r1.length, ← r2.length, ← SL_eq]; exact hc
            · subst e
              cases r1
              exact g.ok rs (.tup h2 r2)
            · subst e
              cases r2
              refine g.ok rs (.tup h1 ?_)
              rw [List.append_nil]; exact r1
            · have e : Ext H (upd H p (.tup (vs1 ++ vs2))) := .new hp
              exact g.okE e (.refl ι) (rs.fresh hp) (.tup (.inl (.inl upd_same)) ((r1.append r2).mono e (.refl _)))
      · exact g.elim
    · split at g
      · rename_i h1 h2
        split at g
        · rename_i hc
          have hc := of_decide_eq_true hc
          obtain ⟨a1, vs1, rfl, e1, q1, r1⟩ := lst_of rs h1 ra
          obtain ⟨a2, vs2, rfl, e2, q2, r2⟩ := lst_of rs h2 rb
          exact op_cat pins s σ H _ _ v u Q I rx ry ⟨_, _, _, _, rfl, rfl, q1, q2, by rw [← r1.length, ← r2.length, ← SL_eq]; exact hc, alloc_lst rs (r1.append r2) g⟩
        · exact g.elim
      · exact g.elim
    · exact g.elim
  case Sub =>
    split at g
    · cases ra; cases rb
      exact op_sub pins s σ H _ _ v u Q I rx ry ⟨_, _, rfl, rfl, g.ok rs (.int _)⟩
    · exact g.elim
  case Mult =>
    split at g
    · split at g
      · rename_i hc
        cases ra; cases rb
        exact op_mulW pins s σ H _ _ v u Q I rx ry ⟨_, _, rfl, rfl, hc, g.ok rs (.int _)⟩
      · exact g.elim
    · split at g
      · rename_i hc
        cases ra; cases rb
        exact mul_sign hc.1 hc.2 I rx ry (g.ok rs (.str _))
      · exact g.elim
    · split at g
      · rename_i h1
        split at g
        · rename_i hc
          obtain ⟨c1, c2, c3⟩ := hc
          obtain ⟨a1, vs1, rfl, e1, q1, r1⟩ := lst_of rs h1 ra
          cases rb
          exact op_rep pins s σ H _ _ v u Q I rx ry ⟨_, _, _, rfl, rfl, q1, by omega, by omega, by rw [← r1.length, ← SL_eq]; exact c3, alloc_lst rs (r1.rep _) g⟩
        · exact g.elim
      · exact g.elim
    · exact g.elim
  case FloorDiv =>
    split at g
    · split at g
      · rename_i hc
        cases ra; cases rb
        exact op_fdivW pins s σ H _ _ v u Q I rx ry ⟨_, _, rfl, rfl, hc, g.ok rs (.int _)⟩
      · exact g.elim
    · exact g.elim
  case Mod =>
    split at g
    · split at g
      · rename_i hc
        cases ra; cases rb
        exact op_mod pins s σ H _ _ v u Q I rx ry ⟨_, _, rfl, rfl, hc, g.ok rs (.int _)⟩
      · exact g.elim
    · exact g.elim
  case Pow =>
    split at g
    · split at g
      · rename_i hc
        cases ra; cases rb
        unfold powOk at hc
        simp only [Bool.and_eq_true, decide_eq_true_eq] at hc
        obtain ⟨t, rfl⟩ := rx
        obtain ⟨t', rfl⟩ := ry
        exact pow_int hc.1 (by have := hc.2; omega) ⟨.int _, H, I.tok _, ⟨_, rfl⟩, g.ok rs (.int _)⟩
      · exact g.elim
    · exact g.elim
  case LShift =>
    split at g
    · split at g
      · rename_i hc
        cases ra; cases rb
        exact op_shl pins s σ H _ _ v u Q I rx ry ⟨_, _, rfl, rfl, hc, g.ok rs (.int _)⟩
      · exact g.elim
    · exact g.elim
  case RShift =>
    split at g
    · split at g
      · rename_i hc
        cases ra; cases rb
        exact op_shr pins s σ H _ _ v u Q I rx ry ⟨_, _, rfl, rfl, hc, g.ok rs (.int _)⟩
      · exact g.elim
    · exact g.elim
  all_goals exact g.elim
end
end RX

namespace RX
open PySem PySem.Spec PyProof.Rows L2
section
variable {X : Cx} {M : Mo} {ι : List Addr} {H : Hp} {st : Store}
mutual
theorem py_ok {g : Nat → Option PyData} (hg : ∀ (n : Nat) (a : Addr) (p : PyData), g n = some p → ι[n]? = some a → Dp M.K H (.ref a) p) : ∀ {d : D} {v : V} {p : PyData}, RD M.K M.ga ι H d v → pyF g d = some p → Dp M.K H v p
  | .non, _, p, .non, h => by simp only [pyF] at h; cases h; exact .non
  | .bl b, _, p, .bl _, h => by simp only [pyF] at h; cases h; exact .bl _
  | .int i, _, p, .int _, h => by simp only [pyF] at h; cases h; exact .int _
  | .str s, _, p, .str _, h => by simp only [pyF] at h; cases h; exact .str _
  | .tup ds, _, p, .tup hq r, h => by
    simp only [pyF] at h
    split at h
    · rename_i ps hps
      cases h
      exact .tup hq (pys_ok hg r hps)
    · cases h
  | .ref n, _, p, .ref e, h => by
    simp only [pyF] at h
    exact hg n _ p h e
  | .gl n, _, p, .gl _, h => by simp only [pyF] at h; cases h
  | .ty n, _, p, .ty _, h => by simp only [pyF] at h; cases h
theorem pys_ok {g : Nat → Option PyData} (hg : ∀ (n : Nat) (a : Addr) (p : PyData), g n = some p → ι[n]? = some a → Dp M.K H (.ref a) p) : ∀ {ds : List D} {vs : List V} {ps : List PyData}, RDs M.K M.ga ι H ds vs → pyFs g ds = some ps → DpAll M.K H vs ps
  | [], _, ps, .nil, h => by simp only [pyFs] at h; cases h; exact .nil
  | d :: ds, _, ps, .cons r t, h => by
    simp only [pyFs] at h
    split at h
    · rename_i p hp
      split at h
      · rename_i qs hqs
        cases h
        exact .cons (py_ok hg r hp) (pys_ok hg t hqs)
      · cases h
    · cases h
end
theorem pyL_ok {g : Nat → Option PyData} (hg : ∀ (n : Nat) (a : Addr) (p : PyData), g n = some p → ι[n]? = some a → Dp M.K H (.ref a) p) {ds : List D} {vs : List V} {p : PyData} {a : Addr} (hq : SqL M.K H a vs) (r : RDs M.K M.ga ι H ds vs) (h : pyL g ds = some p) : Dp M.K H (.ref a) p := by
  unfold pyL at h
  split at h
  · rename_i ps hps
    cases h
    exact .lst hq (pys_ok hg r hps)
  · cases h
theorem pyN_ok (rs : RS M.K M.ga ι H st) : ∀ (k n : Nat) (a : Addr) (p : PyData), pyN st k n = some p → ι[n]? = some a → Dp M.K H (.ref a) p
  | 0, n, a, p, h, _ => by simp only [pyN] at h; cases h
  | k + 1, n, a, p, h, e => by
    have ih := pyN_ok rs k
    simp only [pyN] at h
    split at h
    · rename_i ds hc
      obtain ⟨vs, q, r⟩ := rs.at_ n _ a hc e
      exact pyL_ok ih (.inl (.inl q)) r h
    · rename_i ds hc
      obtain ⟨vs, q, r⟩ := rs.at_ n _ a hc e
      exact pyL_ok ih q.sq r h
    · cases h
theorem toPy_ok (rs : RS M.K M.ga ι H st) {d : D} {v : V} {p : PyData} (r : RD M.K M.ga ι H d v) (h : toPy st d = some p) : Dp M.K H v p := py_ok (fun n a p => pyN_ok rs 8 n a p) r h

theorem items_ok (rs : RS M.K M.ga ι H st) {d : D} {v : V} {ds : List D} (r : RD M.K M.ga ι H d v) (h : itemsOf st d = some ds) : ∃ a vs, v = .ref a ∧ (SqL M.K H a vs ∨ SqT M.K H a vs) ∧ RDs M.K M.ga ι H ds vs := by
  cases r with
  | tup hq r => simp only [itemsOf] at h; cases h; exact ⟨_, _, rfl, .inr hq, r⟩
  | ref e =>
    simp only [itemsOf] at h
    split at h
    · rename_i es hc
      cases h
      obtain ⟨vs, q, r⟩ := rs.at_ _ _ _ hc e
      exact ⟨_, vs, rfl, .inl (.inl (.inl q)), r⟩
    · rename_i es hc
      cases h
      obtain ⟨vs, q, r⟩ := rs.at_ _ _ _ hc e
      exact ⟨_, vs, rfl, .inl q.sq, r⟩
    · cases h
  | _ => simp only [itemsOf] at h; cases h
theorem itemsL_ok (rs : RS M.K M.ga ι H st) {n : Nat} {v : V} {ds : List D} (r : RD M.K M.ga ι H (.ref n) v) (h : itemsOf st (.ref n) = some ds) : ∃ a vs, v = .ref a ∧ ι[n]? = some a ∧ SqL M.K H a vs ∧ RDs M.K M.ga ι H ds vs := by
  cases r with
  | ref e =>
    simp only [itemsOf] at h
    split at h
    · rename_i es hc
      cases h
      obtain ⟨vs, q, r⟩ := rs.at_ _ _ _ hc e
      exact ⟨_, vs, rfl, e, .inl (.inl q), r⟩
    · rename_i es hc
      cases h
      obtain ⟨vs, q, r⟩ := rs.at_ _ _ _ hc e
      exact ⟨_, vs, rfl, e, q.sq, r⟩
    · cases h
theorem flat_ok {d : D} {v : V} (r : RD M.K M.ga ι H d v) (h : isFlat d = true) : flatV v = true := by
  cases r <;> first | rfl | cases h
theorem flats_ok : ∀ {ds : List D} {vs : List V}, RDs M.K M.ga ι H ds vs → ds.all isFlat = true → vs.all flatV = true
  | _, _, .nil, _ => rfl
  | _, _, .cons r t, h => by
    simp only [List.all_cons, Bool.and_eq_true] at h ⊢
    exact ⟨flat_ok r h.1, flats_ok t h.2⟩
theorem str_beq (s t : List Nat) : ((⟨s.toArray⟩ : Str) == ⟨t.toArray⟩) = (s == t) := by
  by_cases h : s = t
  · subst h; simp
  · have h1 : (s == t) = false := by simpa using h
    rw [h1]
    have h2 : ¬ (⟨s.toArray⟩ : Str) = ⟨t.toArray⟩ := fun q => h (by
      have q' : s.toArray = t.toArray := by injection q
      simpa using q')
    simpa using h2
theorem flatEq_ok {d e : D} {v w : V} (r : RD M.K M.ga ι H d v) (q : RD M.K M.ga ι H e w) (h1 : isFlat d = true) (h2 : isFlat e = true) : eqV v w = flatEq d e := by
  cases r <;> cases q <;> first | rfl | (cases h1; done) | (cases h2; done) | (simp only [eqV, flatEq]; exact str_beq _ _)
theorem inV_ok {d : D} {v : V} (r : RD M.K M.ga ι H d v) (h : isFlat d = true) : ∀ {ds : List D} {vs : List V}, RDs M.K M.ga ι H ds vs → ds.all isFlat = true → inV v vs = ds.any fun y => flatEq y d
  | _, _, .nil, _ => rfl
  | _, _, .cons q t, hs => by
    simp only [List.all_cons, Bool.and_eq_true] at hs
    have ih := inV_ok r h t hs.2
    unfold inV at ih ⊢
    simp only [List.any_cons]
    rw [flatEq_ok q r hs.1 h, ih]
theorem ints_ok : ∀ {ds : List D} {vs : List V} {is : List Int}, RDs M.K M.ga ι H ds vs → intsOf ds = some is → vs = is.map V.int
  | _, _, is, .nil, h => by simp only [intsOf] at h; cases h; rfl
  | _, _, is, .cons r t, h => by
    cases r <;> simp only [intsOf] at h <;> first | (cases h; done) | skip
    split at h
    · rename_i js hj
      cases h
      rw [ints_ok t hj]; rfl
    · cases h

theorem goodB {st' : Store} {k : Bool} {W : Value → Option Addr → Hp → Prop} {Q : VK} (rs : RS M.K M.ga ι H st) (g : Good M (rD M) W ι H (.ok (.bl k) st) Q) : Q (.bl k) H := g.ok rs (.bl k)
theorem cmpO_some {op : CmpOp} {x y : D} {W : Value → Option Addr → Hp → Prop} {Q : VK} (g : Good M (rD M) W ι H (cmpO op x y st) Q) : ∃ k, cmpD op x y st = some k ∧ Good M (rD M) W ι H (.ok (.bl k) st) Q := by
  unfold cmpO at g
  cases e : cmpD op x y st with
  | none => rw [e] at g; exact g.elim
  | some k => rw [e] at g; exact ⟨k, rfl, g⟩
theorem notO_some {o : Option Bool} {k : Bool} (h : notO o = some k) : ∃ b, o = some b ∧ k = !b := by
  cases o with
  | none => cases h
  | some b => exact ⟨b, rfl, (Option.some.inj h).symm⟩
theorem eqD_some {a b : D} {k : Bool} (h : eqD st a b = some k) : ∃ p q, toPy st a = some p ∧ toPy st b = some q ∧ SeqAt.shaped p = true ∧ SeqAt.shaped q = true ∧ k = PyData.eqv p q := by
  unfold eqD at h
  split at h
  · rename_i p q h1 h2
    split at h
    · rename_i hs
      simp only [Bool.and_eq_true] at hs
      exact ⟨p, q, h1, h2, hs.1, hs.2, (Option.some.inj h).symm⟩
    · cases h
  · cases h
theorem ltS_eq (s t : List Nat) : decide ((⟨s.toArray⟩ : Str).cps.toList < (⟨t.toArray⟩ : Str).cps.toList) = ltS s t := by
  unfold ltS
  simp
theorem mem_eq (c : Nat) (t : List Nat) : decide (c ∈ (⟨t.toArray⟩ : Str).cps.toList) = t.contains c := by
  simp
theorem lexAt_shift {e r : Nat → Bool} {z : Bool} : ∀ {k i : Nat}, Ob.lexAt e r z (i + 1) k = Ob.lexAt (fun j => e (j + 1)) (fun j => r (j + 1)) z i k
  | 0, i => rfl
  | k + 1, i => by rw [Ob.lexAt_succ, Ob.lexAt_succ, lexAt_shift]
theorem lexGt : ∀ (ns ms : List Int), Ob.lexAt (fun j => decide (ns.getD j 0 = ms.getD j 0)) (fun j => decide (ns.getD j 0 > ms.getD j 0)) (decide (ns.length > ms.length)) 0 (min ns.length ms.length) = HT.lexLt ms ns
  | [], [] => rfl
  | [], m :: ms => by simp [Ob.lexAt_zero, HT.lexLt]
  | n :: ns, [] => by simp [Ob.lexAt_zero, HT.lexLt]
  | n :: ns, m :: ms => by
    have ih := lexGt ns ms
    have e1 : min (n :: ns).length (m :: ms).length = min ns.length ms.length + 1 := by simp only [List.length_cons]; omega
    have e2 : decide ((n :: ns).length > (m :: ms).length) = decide (ns.length > ms.length) := by simp
    rw [e1, e2, Ob.lexAt_succ, lexAt_shift, HT.lexLt_cons]
    simp only [List.getD_cons_succ, List.getD_cons_zero]
    rw [ih]
    by_cases h : n = m
    · simp [h]
    · have h' : ¬ m = n := fun q => h q.symm
      simp [h, h']
theorem op_gtT {X : Cx} {pins : List (Addr × Obj)} {s : Shared} {σ : L2.St} {H : Hp} {a b : Addr} {ns ms : List Int} {Q : VK} (hu : X.A.units < cLine) (I : Inv X pins σ H s) (ha : SqT X.K H a (ns.map V.int)) (hb : SqT X.K H b (ms.map V.int))
    (q : Q (.bl (HT.lexLt ms ns)) H) : wpAny (model X.prog X.w) X.A (compareOp .Gt (.ref a) (.ref b)) (EP X pins σ Q) X.xe s := by
  obtain ⟨its, r1, p1, _⟩ := I.tuple ha
  obtain ⟨its2, r2, p2, _⟩ := I.tuple hb
  have i1 : IntsAre its ns := Vals.ints r1
  have i2 : IntsAre its2 ms := Vals.ints r2
  have e1 : its.toArray.size = ns.length := by rw [List.size_toArray]; exact i1.length
  have e2 : its2.toArray.size = ms.length := by rw [List.size_toArray]; exact i2.length
  have at1 : ∀ j (h1 : j < its.toArray.size), ∃ t, its.toArray[j] = .int (ns.getD j 0) t := fun j h1 => PyProof.Rows.IntsAre.int_at i1 _ _ (by simp at h1; simp [h1])
  have at2 : ∀ j (h1 : j < its2.toArray.size), ∃ t, its2.toArray[j] = .int (ms.getD j 0) t := fun j h1 => PyProof.Rows.IntsAre.int_at i2 _ _ (by simp at h1; simp [h1])
  have R := Ob.RcOp.tuples_gt (A := X.A) (s := s) (e := fun j => decide (ns.getD j 0 = ms.getD j 0)) (r := fun j => decide (ns.getD j 0 > ms.getD j 0)) p1 p2 hu (fun j h1 h2 => by
    obtain ⟨t, et⟩ := at1 j h1
    obtain ⟨t', et'⟩ := at2 j h2
    rw [et, et']
    have z : (ns.getD j 0 == ms.getD j 0) = decide (ns.getD j 0 = ms.getD j 0) := by
      by_cases q : ns.getD j 0 = ms.getD j 0
      · rw [decide_eq_true q]; exact beq_iff_eq.mpr q
      · rw [decide_eq_false q]; exact beq_eq_false_iff_ne.mpr q
    rw [← z]
    exact SeqAt.EqAt.int_int _ _ _ _) (fun j h1 h2 _ => by
    obtain ⟨t, et⟩ := at1 j h1
    obtain ⟨t', et'⟩ := at2 j h2
    rw [et, et']
    exact Ob.RcOp.gt_int _ _ _ _)
  rw [e1, e2, lexGt] at R
  have z : wpAny (model X.prog X.w) X.A (compareOp .Gt (.ref a) (.ref b)) (EP X pins σ Q) X.xe s := R X.prog X.w X.xe (EP X pins σ Q) ⟨.bl _, H, I, rfl, q⟩
  exact z
theorem cmpO_ok {W : Value → Option Addr → Hp → Prop} (hK : X.K = M.K) {k : Nat} (hr : Room k X.A) : ∀ op : CmpOp, OpR X (compareOp op) (rO M W (cmpO op)) := by
  intro op pins s σ H x y v u Q I rx ry ⟨ι, st, a, b, rs, ra, rb, g⟩
  obtain ⟨z, e, g⟩ := cmpO_some g
  have q := g.ok rs (.bl z)
  clear g
  have eqc : ∀ {z : Bool}, eqD st a b = some z → rEqD X.K x y H (fun w H' => w = .bl z ∧ H' = H) := by
    intro z h
    obtain ⟨p, q, h1, h2, s1, s2, e⟩ := eqD_some h
    exact ⟨p, q, hK ▸ toPy_ok rs ra h1, hK ▸ toPy_ok rs rb h2, s1, s2, by rw [e], rfl⟩
  have inc : ∀ {z : Bool}, isIn st a b = some z → (∃ (c : Nat) (t : List Nat), x = .str ⟨#[c]⟩ ∧ y = .str ⟨t.toArray⟩ ∧ z = t.contains c) ∨ (∃ p vs, y = .ref p ∧ (SqL X.K H p vs ∨ SqT X.K H p vs) ∧ flatV x = true ∧ vs.all flatV = true ∧ z = inV x vs) := by
    intro z h
    unfold isIn at h
    split at h
    · split at h
      · cases h
        cases ra; cases rb
        exact .inl ⟨_, _, rfl, rfl, rfl⟩
      · cases h
    · split at h
      · rename_i ds hd
        split at h
        · rename_i hf
          cases h
          simp only [Bool.and_eq_true] at hf
          obtain ⟨p, vs, rfl, hq, r⟩ := items_ok rs rb hd
          exact .inr ⟨p, vs, rfl, hK ▸ hq, flat_ok ra hf.1, flats_ok r hf.2, (inV_ok ra hf.1 r hf.2).symm⟩
        · cases h
      · cases h
  cases op <;> simp only [cmpD] at e
  case Eq =>
    obtain ⟨p, q', h1, h2, s1, s2, e'⟩ := eqD_some e
    subst e'
    exact op_eqD hr.units pins s σ H x y v u Q I rx ry ⟨p, q', hK ▸ toPy_ok rs ra h1, hK ▸ toPy_ok rs rb h2, s1, s2, q⟩
  case NotEq =>
    obtain ⟨b', eb, rfl⟩ := notO_some e
    obtain ⟨p, q', h1, h2, s1, s2, e'⟩ := eqD_some eb
    subst e'
    exact op_neD hr.units pins s σ H x y v u Q I rx ry ⟨p, q', hK ▸ toPy_ok rs ra h1, hK ▸ toPy_ok rs rb h2, s1, s2, q⟩
  case Lt =>
    split at e
    · cases e; cases ra; cases rb
      exact op_lt pins s σ H _ _ v u Q I rx ry ⟨_, _, rfl, rfl, q⟩
    · cases e; cases ra; cases rb
      exact op_lt_str pins s σ H _ _ v u Q I rx ry ⟨_, _, rfl, rfl, by rw [ltS_eq]; exact q⟩
    · split at e
      · rename_i i1 i2
        cases e
        cases ra with
        | tup h1 r1 => cases rb with
          | tup h2 r2 =>
            rw [ints_ok r1 i1] at h1
            rw [ints_ok r2 i2] at h2
            exact op_ltT hr.units0 pins s σ H _ _ v u Q I rx ry ⟨_, _, _, _, rfl, rfl, hK ▸ h1, hK ▸ h2, q⟩
      · cases e
    · cases e
  case LtE =>
    split at e
    · cases e; cases ra; cases rb
      exact op_le pins s σ H _ _ v u Q I rx ry ⟨_, _, rfl, rfl, q⟩
    · cases e; cases ra; cases rb
      exact op_le_str pins s σ H _ _ v u Q I rx ry ⟨_, _, rfl, rfl, by rw [ltS_eq]; exact q⟩
    · cases e
  case Gt =>
    split at e
    · cases e; cases ra; cases rb
      exact op_gt pins s σ H _ _ v u Q I rx ry ⟨_, _, rfl, rfl, q⟩
    · cases e; cases ra; cases rb
      exact op_gt_str pins s σ H _ _ v u Q I rx ry ⟨_, _, rfl, rfl, by rw [ltS_eq]; exact q⟩
    · split at e
      · rename_i i1 i2
        cases e
        cases ra with
        | tup h1 r1 => cases rb with
          | tup h2 r2 =>
            rw [ints_ok r1 i1] at h1
            rw [ints_ok r2 i2] at h2
            cases rx
            cases ry
            exact op_gtT hr.units0 I (hK ▸ h1) (hK ▸ h2) q
      · cases e
    · cases e
  case GtE =>
    split at e
    · cases e; cases ra; cases rb
      exact op_ge pins s σ H _ _ v u Q I rx ry ⟨_, _, rfl, rfl, q⟩
    · cases e; cases ra; cases rb
      exact op_ge_str pins s σ H _ _ v u Q I rx ry ⟨_, _, rfl, rfl, by rw [ltS_eq]; exact q⟩
    · cases e
  case Is =>
    split at e
    · cases e
      refine op_isN pins s σ H x y v u Q I rx ry ⟨by cases rb; rfl, ?_⟩
      cases ra <;> exact q
    · cases e
  case IsNot =>
    split at e
    · cases e
      refine op_notN pins s σ H x y v u Q I rx ry ⟨by cases rb; rfl, ?_⟩
      cases ra <;> exact q
    · cases e
  case In =>
    rcases inc e with ⟨c, t, rfl, rfl, rfl⟩ | ⟨p, vs, rfl, hq, f1, f2, rfl⟩
    · exact op_in_sign pins s σ H _ _ v u Q I rx ry ⟨c, _, rfl, rfl, by rw [mem_eq]; exact q⟩
    · exact op_in_seq pins s σ H _ _ v u Q I rx ry ⟨p, vs, rfl, hq, f1, f2, q⟩
  case NotIn =>
    obtain ⟨b', eb, rfl⟩ := notO_some e
    rcases inc eb with ⟨c, t, rfl, rfl, rfl⟩ | ⟨p, vs, rfl, hq, f1, f2, rfl⟩
    · exact op_notIn_sign pins s σ H _ _ v u Q I rx ry ⟨c, _, rfl, rfl, by rw [mem_eq]; exact q⟩
    · exact op_notIn_seq pins s σ H _ _ v u Q I rx ry ⟨p, vs, rfl, hq, f1, f2, q⟩
end
end RX

namespace RX
open PySem PySem.Spec PyProof.Rows L2
section
variable {X : Cx} {M : Mo} {ι : List Addr} {H : Hp} {st : Store}
theorem empty_eq {ds : List D} {vs : List V} (r : RDs M.K M.ga ι H ds vs) : ds.isEmpty = vs.isEmpty := by
  cases r <;> rfl
theorem truth_ok (rs : RS M.K M.ga ι H st) {d : D} {v : V} {k : Bool} (r : RD M.K M.ga ι H d v) (h : truth st d = some k) : TruV M.K v H k := by
  cases r with
  | non => simp only [truth] at h; exact (Option.some.inj h).symm
  | bl b => simp only [truth] at h; exact (Option.some.inj h).symm
  | int i => simp only [truth] at h; exact (Option.some.inj h).symm
  | str s =>
    simp only [truth] at h
    split at h
    · rename_i hl
      cases h
      refine ⟨by rw [str_len, ← SL_eq]; exact hl, ?_⟩
      rw [str_len]
      cases s with
      | nil => rfl
      | cons c s =>
        have e1 : (!(c :: s).isEmpty) = true := rfl
        have e2 : ((((c :: s).length : Nat) : Int) != 0) = true := by
          rw [bne_iff_ne]
          simp only [List.length_cons]
          omega
        rw [e1, e2]
    · cases h
  | tup hq r =>
    simp only [truth] at h
    cases h
    exact .inr (.inl ⟨_, hq, by rw [empty_eq r]⟩)
  | ref e =>
    simp only [truth] at h
    split at h
    · rename_i hc
      cases h
      obtain ⟨vs, q, r⟩ := rs.at_ _ _ _ hc e
      exact .inl ⟨vs, .inl (.inl q), by rw [empty_eq r]⟩
    · rename_i hc
      cases h
      obtain ⟨vs, q, r⟩ := rs.at_ _ _ _ hc e
      exact .inl ⟨vs, q.sq, by rw [empty_eq r]⟩
    · rename_i hc
      exact (rs.at_ _ _ _ hc e).elim
    · cases h
  | gl n => simp only [truth] at h; cases h
  | ty n => simp only [truth] at h; cases h
theorem ix_get {ds : List D} {vs : List V} {i : Int} {d : D} (r : RDs M.K M.ga ι H ds vs) (h : itemAt ds i = some d) : ∃ v, atI vs i = some v ∧ RD M.K M.ga ι H d v := by
  unfold itemAt atI at h
  unfold atI
  rw [← r.length]
  cases e : ixN ds.length i with
  | none => rw [e] at h; cases h
  | some j =>
    rw [e] at h
    have h' : ds[j]? = some d := h
    obtain ⟨v, h1, h2⟩ := r.get h'
    exact ⟨v, h1, h2⟩
theorem sub_ok {W : Value → Option Addr → Hp → Prop} (hK : X.K = M.K) : IxR X (rO M W fun a i st => ofOpt (subD a i st) st) := by
  intro value slice pins s σ H x y v u Q I rx ry ⟨ι, st, a, b, rs, ra, rb, g0⟩ hs
  have g1 : Good M (rD M) W ι H (ofOpt (subD a b st) st) Q := g0
  clear g0
  cases e : subD a b st with
  | none => rw [e] at g1; exact g1.elim
  | some d =>
    rw [e] at g1
    have g : Good M (rD M) W ι H (.ok d st) Q := g1
    clear g1
    have seq : ∀ {ds : List D} {k : Int}, itemsOf st a = some ds → b = .int k → itemAt ds k = some d → wpAny (model X.prog X.w) X.A (subscriptTail value slice v u) (EP X pins σ Q) X.xe s := by
      intro ds k h1 h2 h3
      subst h2
      cases rb
      obtain ⟨p, vs, rfl, hq, r⟩ := items_ok rs ra h1
      obtain ⟨w, hw, rw'⟩ := ix_get r h3
      have q := g.ok rs rw'
      rcases hq with hq | hq
      · exact ix_list value slice pins s σ H _ _ v u Q I rx ry ⟨p, vs, _, w, rfl, rfl, hK ▸ hq, hw, q⟩ hs
      · exact ix_tup value slice pins s σ H _ _ v u Q I rx ry ⟨p, vs, _, w, rfl, rfl, hK ▸ hq, hw, q⟩ hs
    unfold subD at e
    split at e
    · split at e
      · rename_i hl
        split at e
        · rename_i c hc
          cases e
          cases ra; cases rb
          refine ix_str value slice pins s σ H _ _ v u Q I rx ry ⟨_, _, c, rfl, rfl, by rw [str_len, ← SL_eq]; exact hl, ?_, g.ok rs (.str [c])⟩ hs
          exact hc
        · cases e
      · cases e
    · split at e
      · rename_i hd
        exact seq hd rfl e
      · cases e
    · cases e
def rSB (M : Mo) (W : Value → Option Addr → Hp → Prop) : V → Option Int → Option Int → Hp → VK → Prop := fun x lo hi H Q => ∃ (ι : List Addr) (st : Store) (a : D), RS M.K M.ga ι H st ∧ RD M.K M.ga ι H a x ∧ Good M (rD M) W ι H (slcB a lo hi st) Q
theorem cut_ok {ds : List D} {vs : List V} (r : RDs M.K M.ga ι H ds vs) (lo hi : Option Int) : RDs M.K M.ga ι H (cut ds lo hi) (cutV vs lo hi) := by
  unfold cut cutV
  rw [← r.length]
  exact (r.drop _).take _
theorem slc_ok {W : Value → Option Addr → Hp → Prop} (hK : X.K = M.K) : SlR X (rSB M W) := by
  intro pins s σ H x v vl vu lo hi sl Q I rx hs pl pu ⟨ι, st, a, rs, ra, g⟩
  cases ra with
  | str z =>
    simp only [slcB] at g
    split at g
    · rename_i hl
      refine sl_str pins s σ H _ v vl vu lo hi sl Q I rx hs pl pu ⟨_, rfl, by rw [str_len, ← SL_eq]; exact hl, ?_⟩
      have q := g.ok rs (.str _)
      unfold cutS
      rw [str_len]
      exact q
    · exact g.elim
  | @tup ds a1 vs1 hq r =>
    simp only [slcB] at g
    refine sl_tupA pins s σ H _ v vl vu lo hi sl Q I rx hs pl pu ⟨_, _, rfl, hK ▸ hq, fun hw => ?g1, fun hw p hp => ?g2⟩
    case g1 =>
      obtain ⟨e1, e2⟩ := hw
      refine g.ok rs (.tup hq ?_)
      have q := cut_ok r lo hi
      unfold cutV at q
      rw [e1, e2] at q
      simpa using q
    case g2 =>
      have e : Ext H (upd H p (.tup (cutV vs1 lo hi))) := .new hp
      exact g.okE e (.refl ι) (rs.fresh hp) (.tup (.inl (.inl upd_same)) ((cut_ok r lo hi).mono e (.refl _)))
  | ref e =>
    rename_i n a1
    simp only [slcB] at g
    split at g
    · rename_i ds hd
      obtain ⟨a2, vs, ea, e2, hq, r⟩ := itemsL_ok rs (.ref e) hd
      cases ea
      exact sl_list pins s σ H _ v vl vu lo hi sl Q I rx hs pl pu ⟨_, vs, rfl, hK ▸ hq, alloc_lst rs (cut_ok r lo hi) g⟩
    · exact g.elim
  | _ => simp only [slcB] at g; exact g.elim
theorem po_any {e : Expr} {te : TE} (h : PE X e te) : PO X (some e) (fun σ H Q => te σ H fun x H1 => (x = .non ∧ Q none H1) ∨ ∃ i, x = .int i ∧ Q (some i) H1) := by
  refine ⟨fun pins s σ H Q I hw => ?_⟩
  rw [evalPart_some]
  refine thn (h.run pins s σ H _ I hw) fun u s1 ⟨x, H1, I1, r1, q1⟩ => ?_
  rcases q1 with ⟨rfl, q⟩ | ⟨i, rfl, q⟩
  · obtain rfl : u = Value.none := r1
    exact ⟨none, H1, I1, .none, q⟩
  · obtain ⟨t, rfl⟩ := r1
    exact ⟨some i, H1, I1, .int i t, q⟩

def rB (M : Mo) (W : Value → Option Addr → Hp → Prop) (f : List D → Store → Out D) : List V → Hp → VK → Prop := fun vs H Q => ∃ (ι : List Addr) (st : Store) (ds : List D), RS M.K M.ga ι H st ∧ RDs M.K M.ga ι H ds vs ∧ Good M (rD M) W ι H (f ds st) Q
theorem one_of {d : D} {vs : List V} (r : RDs M.K M.ga ι H [d] vs) : ∃ v, vs = [v] ∧ RD M.K M.ga ι H d v := by
  cases r with
  | cons a b => cases b; exact ⟨_, rfl, a⟩
theorem two_of {d e : D} {vs : List V} (r : RDs M.K M.ga ι H [d, e] vs) : ∃ v w, vs = [v, w] ∧ RD M.K M.ga ι H d v ∧ RD M.K M.ga ι H e w := by
  cases r with
  | cons a b => obtain ⟨w, rfl, q⟩ := one_of b; exact ⟨_, w, rfl, a, q⟩
theorem maxI_ge : ∀ (l : List Int) (m : Int), m ≤ maxI l m ∧ ∀ x ∈ l, x ≤ maxI l m
  | [], m => ⟨Int.le_refl _, fun x h => by cases h⟩
  | y :: r, m => by
    obtain ⟨h1, h2⟩ := maxI_ge r (if y > m then y else m)
    have hm : m ≤ (if y > m then y else m) := by split <;> omega
    have hy : y ≤ (if y > m then y else m) := by split <;> omega
    refine ⟨Int.le_trans hm h1, fun x h => ?_⟩
    rcases List.mem_cons.mp h with rfl | h
    · exact Int.le_trans hy h1
    · exact h2 x h
theorem maxI_mem : ∀ (l : List Int) (m : Int), maxI l m = m ∨ maxI l m ∈ l
  | [], m => .inl rfl
  | y :: r, m => by
    have := maxI_mem r (if y > m then y else m)
    show maxI r (if y > m then y else m) = m ∨ maxI r (if y > m then y else m) ∈ y :: r
    rcases this with h | h
    · rw [h]
      split
      · exact .inr List.mem_cons_self
      · exact .inl rfl
    · exact .inr (List.mem_cons_of_mem _ h)
theorem minI_le : ∀ (l : List Int) (m : Int), minI l m ≤ m ∧ ∀ x ∈ l, minI l m ≤ x
  | [], m => ⟨Int.le_refl _, fun x h => by cases h⟩
  | y :: r, m => by
    obtain ⟨h1, h2⟩ := minI_le r (if y < m then y else m)
    have hm : (if y < m then y else m) ≤ m := by split <;> omega
    have hy : (if y < m then y else m) ≤ y := by split <;> omega
    refine ⟨Int.le_trans h1 hm, fun x h => ?_⟩
    rcases List.mem_cons.mp h with rfl | h
    · exact Int.le_trans h1 hy
    · exact h2 x h
theorem minI_mem : ∀ (l : List Int) (m : Int), minI l m = m ∨ minI l m ∈ l
  | [], m => .inl rfl
  | y :: r, m => by
    have := minI_mem r (if y < m then y else m)
    show minI r (if y < m then y else m) = m ∨ minI r (if y < m then y else m) ∈ y :: r
    rcases this with h | h
    · rw [h]
      split
      · exact .inr List.mem_cons_self
      · exact .inl rfl
    · exact .inr (List.mem_cons_of_mem _ h)
theorem bools_ok : ∀ {ds : List D} {vs : List V} {bs : List Bool}, RDs M.K M.ga ι H ds vs → boolsOf ds = some bs → vs = bs.map V.bl
  | _, _, bs, .nil, h => by simp only [boolsOf] at h; cases h; rfl
  | _, _, bs, .cons r t, h => by
    cases r <;> simp only [boolsOf] at h <;> first | (cases h; done) | skip
    split at h
    · rename_i js hj
      cases h
      rw [bools_ok t hj]; rfl
    · cases h
theorem strs_ok : ∀ {ds : List D} {vs : List V} {ss : List (List Nat)}, RDs M.K M.ga ι H ds vs → strsOf ds = some ss → vs = (ss.map fun s => (⟨s.toArray⟩ : Str)).map V.str
  | _, _, bs, .nil, h => by simp only [strsOf] at h; cases h; rfl
  | _, _, bs, .cons r t, h => by
    cases r <;> simp only [strsOf] at h <;> first | (cases h; done) | skip
    split at h
    · rename_i js hj
      cases h
      rw [strs_ok t hj]; rfl
    · cases h
def knownTys : List String := ["int", "bool", "str", "tuple", "list", "dict"]
def knownNms : List String := ["NoneType", "bool", "int", "str", "tuple", "list", "dict"]
theorem kit_tab : (knownNms.all fun y => knownTys.all fun t => kitB y t == some (y == t || (y == "bool" && t == "int"))) = true := by decide +kernel
theorem kit_at {y t : String} (h1 : y ∈ knownNms) (h2 : t ∈ knownTys) : kitB y t = some (y == t || (y == "bool" && t == "int")) := by
  have a := List.all_eq_true.mp kit_tab y h1
  have b := List.all_eq_true.mp a t h2
  exact eq_of_beq b
theorem tyKnown_mem {t : String} (h : tyKnown t = true) : t ∈ knownTys := by
  unfold tyKnown at h
  simp only [Bool.or_eq_true, beq_iff_eq] at h
  unfold knownTys
  simp only [List.mem_cons]
  rcases h with ((((h | h) | h) | h) | h) | h <;> simp [h]
theorem sqT_ty {K : PySem.W.Frag} {H : Hp} {a : Addr} {vs : List V} (h : SqT K H a vs) : TyX K H (.ref a) (.type "tuple") := by
  rcases h with (h | ⟨o, h⟩) | ⟨o, its, n, h, c, _⟩
  · exact .base (.tup h)
  · exact .fTuple h
  · exact .kTuple h c
theorem fro_ty {K : PySem.W.Frag} {H : Hp} {a : Addr} {vs : List V} (h : FroAt K H a vs) : TyX K H (.ref a) (.type "list") := by
  rcases h with ⟨o, h⟩ | ⟨o, its, n, h, c, _⟩
  · exact .base (.frz h)
  · exact .kList h c
theorem ty_ok (rs : RS M.K M.ga ι H st) {d : D} {v : V} {y : String} (r : RD M.K M.ga ι H d v) (h : tyName st d = some y) : TyX M.K H v (.type y) ∧ y ∈ knownNms := by
  cases r with
  | non => simp only [tyName] at h; cases h; exact ⟨.base .non, by simp [knownNms]⟩
  | bl b => simp only [tyName] at h; cases h; exact ⟨.base (.bl b), by simp [knownNms]⟩
  | int b => simp only [tyName] at h; cases h; exact ⟨.base (.int b), by simp [knownNms]⟩
  | str b => simp only [tyName] at h; cases h; exact ⟨.base (.str _), by simp [knownNms]⟩
  | tup hq r => simp only [tyName] at h; cases h; exact ⟨sqT_ty hq, by simp [knownNms]⟩
  | ref e =>
    simp only [tyName] at h
    split at h
    · rename_i hc
      cases h
      obtain ⟨vs, q, r⟩ := rs.at_ _ _ _ hc e
      exact ⟨.base (.lst q), by simp [knownNms]⟩
    · rename_i hc
      cases h
      obtain ⟨vs, q, r⟩ := rs.at_ _ _ _ hc e
      exact ⟨fro_ty q, by simp [knownNms]⟩
    · rename_i hc
      exact (rs.at_ _ _ _ hc e).elim
    · cases h
  | gl n => simp only [tyName] at h; cases h
  | ty n => simp only [tyName] at h; cases h
end
end RX

namespace RX
open PySem PySem.Spec PyProof.Rows L2 PySem.P
section
variable {X : Cx} {M : Mo} {ι : List Addr} {H : Hp} {st : Store}
def bltV : Blt → Value
  | .len => .builtin "len" | .abs => .builtin "abs" | .int => .type "int" | .str => .type "str" | .repr => .builtin "repr" | .max => .builtin "max" | .min => .builtin "min"
  | .sum => .builtin "sum" | .ord => .builtin "ord" | .tuple => .type "tuple" | .list => .type "list" | .all => .builtin "all" | .any => .builtin "any" | .isinst => .builtin "isinstance"
theorem strOfInt_eq (i : Int) : (⟨(strOfInt i).toArray⟩ : Str) = Str.ofString (toString i) := by
  unfold strOfInt
  simp
theorem vals_one {v : V} {us : List Value} (r : Vals [v] us) : ∃ u, us = [u] ∧ RelV v u := by
  cases r with
  | cons a b => cases b; exact ⟨_, rfl, a⟩
theorem len_arg (rs : RS M.K M.ga ι H st) {d : D} {v : V} {n : Nat} (r : RD M.K M.ga ι H d v) {W : Value → Option Addr → Hp → Prop} {Q : VK} (g : Good M (rD M) W ι H (blt .len [d] st) Q) : ∃ n, LenV M.K v H n ∧ Q (.int n) H := by
  cases r with
  | str s =>
    simp only [blt] at g
    split at g
    · rename_i hl
      exact ⟨s.length, ⟨by rw [str_len, ← SL_eq]; exact hl, by rw [str_len]⟩, g.ok rs (.int _)⟩
    · exact g.elim
  | tup hq r =>
    simp only [blt] at g
    exact ⟨_, .inr ⟨_, hq, r.length⟩, g.ok rs (.int _)⟩
  | ref e =>
    simp only [blt] at g
    split at g
    · rename_i hc
      obtain ⟨vs, q, r⟩ := rs.at_ _ _ _ hc e
      exact ⟨_, .inl ⟨vs, .inl (.inl q), r.length⟩, g.ok rs (.int _)⟩
    · rename_i hc
      obtain ⟨vs, q, r⟩ := rs.at_ _ _ _ hc e
      exact ⟨_, .inl ⟨vs, q.sq, r.length⟩, g.ok rs (.int _)⟩
    · rename_i hc
      exact (rs.at_ _ _ _ hc e).elim
    · exact g.elim
  | _ => simp only [blt] at g; exact g.elim
theorem chars_rd {K : PySem.W.Frag} {ga : GA} {ι : List Addr} {H : Hp} : ∀ s : List Nat, RDs K ga ι H (s.map fun c => .str [c]) (s.map fun c => V.str ⟨[c].toArray⟩)
  | [] => .nil
  | c :: s => .cons (.str [c]) (chars_rd s)
theorem vals_of {β : Type} {f : β → V} : ∀ {s : List β} {us : List Value}, us.length = s.length → (∀ (j : Nat) (c : β) (v : Value), s[j]? = some c → us[j]? = some v → RelV (f c) v) → Vals (s.map f) us
  | [], [], _, _ => .nil
  | [], _ :: _, h, _ => by cases h
  | _ :: _, [], h, _ => by cases h
  | c :: s, v :: us, h, k => .cons (k 0 c v rfl rfl) (vals_of (by simpa using h) fun j d u e1 e2 => k (j + 1) d u (by simpa using e1) (by simpa using e2))
theorem list_str {pins : List (Addr × Obj)} {s : Shared} {σ : L2.St} {x : List Nat} {us : List Value} {Q : VK} (hc : X.calm = true) (hl : x.length ≤ SL) (I : L2.Inv X pins σ H s) (r : Vals [.str ⟨x.toArray⟩] us)
    (q : ∀ p, H p = none → Q (.ref p) (upd H p (.lst (x.map fun c => V.str ⟨[c].toArray⟩)))) : wpAny (model X.prog X.w) X.A (call (.type "list") us) (EP X pins σ Q) X.xe s := by
  obtain ⟨u, rfl, ru⟩ := vals_one r
  obtain ⟨t, rfl⟩ := ru
  have hz : x.length ≤ sizeLine := by rw [← SL_eq]; exact hl
  refine PySem.call_list_str (I.ok.hd hc) _ t (fun h' tk acc' c' hk hp hi => ?_) (by simpa using hz)
  have hfr : H s.heap.objs.size = none := I.hok.fresh (Nat.le_refl _)
  have hlen : acc'.toList.length = x.length := by simpa using hi.1
  have hv : Vals (x.map fun c => V.str ⟨[c].toArray⟩) acc'.toList := vals_of (by simpa using hlen) fun j c v e1 e2 => by
    obtain ⟨d, w, h1, h2⟩ := hi.2 j v (by rw [← Array.getElem?_toList]; exact e2)
    have h1 : x.toArray[j]? = some d := h1
    rw [List.getElem?_toArray, e1] at h1
    cases h1
    exact ⟨w, h2⟩
  refine ⟨.ref s.heap.objs.size, _, I.laid (t' := tk) hk (Nat.le_refl _) (o := .lst (x.map fun c => V.str ⟨[c].toArray⟩)) ⟨by simpa using hz, acc'.toList, c', hv, ?_⟩, rfl, q _ hfr⟩
  rw [hp]
theorem blt_ok {W : Value → Option Addr → Hp → Prop} (hK : X.K = M.K) (hc : X.calm = true) {k : Nat} (hr : Room k X.A) : ∀ b : Blt, CallR X (bltV b) (rB M W (blt b)) := by
  intro b pins s σ H vs us Q I r ⟨ι, st, ds, rs, rd, g⟩
  cases b
  case len =>
    cases rd with
    | nil => simp only [blt] at g; exact g.elim
    | cons r1 t => cases t with
      | nil =>
        obtain ⟨n, h1, q⟩ := len_arg (n := 0) rs r1 g
        exact call_len pins s σ H _ us Q I r ⟨_, n, rfl, hK ▸ h1, q⟩
      | cons _ _ => cases r1 <;> simp only [blt] at g <;> exact g.elim
  case abs =>
    simp only [blt] at g
    split at g <;> first | contradiction | skip
    · obtain ⟨v, rfl, r1⟩ := one_of rd
      cases r1
      exact call_abs pins s σ H _ us Q I r ⟨_, rfl, g.ok rs (.int _)⟩
  case int =>
    simp only [blt] at g
    split at g <;> first | contradiction | skip
    · obtain ⟨v, rfl, r1⟩ := one_of rd
      cases r1
      exact call_int1 pins s σ H _ us Q I r (.inl ⟨_, rfl, g.ok rs (.int _)⟩)
    · obtain ⟨v, rfl, r1⟩ := one_of rd
      cases r1
      exact call_int1 pins s σ H _ us Q I r (.inr ⟨_, rfl, g.ok rs (.int _)⟩)
  case str =>
    simp only [blt] at g
    split at g <;> first | contradiction | skip
    · split at g
      · rename_i hl
        obtain ⟨v, rfl, r1⟩ := one_of rd
        cases r1
        have q := g.ok rs (.str _)
        rw [strOfInt_eq] at q
        exact call_str_int pins s σ H _ us Q I r ⟨_, rfl, hl, q⟩
      · exact g.elim
    · obtain ⟨v, rfl, r1⟩ := one_of rd
      cases r1
      exact SkE.call_str_str pins s σ H _ us Q I r ⟨_, rfl, g.ok rs (.str _)⟩
  case repr =>
    simp only [blt] at g
    split at g <;> first | contradiction | skip
    · obtain ⟨v, rfl, r1⟩ := one_of rd
      cases r1
      obtain ⟨u, rfl, ru⟩ := vals_one r
      cases (show u = Value.bool _ from ru)
      have q := g.ok rs (.str _)
      refine repr_of_bool ⟨.str _, H, I.tok _, ⟨_, rfl⟩, ?_⟩
      have e : ∀ b : Bool, (⟨(if b then [84, 114, 117, 101] else [70, 97, 108, 115, 101] : List Nat).toArray⟩ : Str) = (if b then Str.ofString "True" else Str.ofString "False") := by intro b; cases b <;> decide +kernel
      rw [← e]
      exact q
    · split at g
      · rename_i hl
        obtain ⟨v, rfl, r1⟩ := one_of rd
        cases r1
        have q := g.ok rs (.str _)
        rw [strOfInt_eq] at q
        exact SkE.call_repr_int pins s σ H _ us Q I r ⟨_, rfl, hl, q⟩
      · exact g.elim
    · obtain ⟨v, rfl, r1⟩ := one_of rd
      cases r1
      obtain ⟨u, rfl, ru⟩ := vals_one r
      cases (show u = Value.none from ru)
      have q := g.ok rs (.str _)
      refine repr_of_none ⟨.str _, H, I.tok _, ⟨_, rfl⟩, ?_⟩
      have e : (⟨([78, 111, 110, 101] : List Nat).toArray⟩ : Str) = Str.ofString "None" := by decide +kernel
      rw [← e]
      exact q
  case max =>
    simp only [blt] at g
    split at g <;> first | contradiction | skip
    · obtain ⟨v, w, rfl, r1, r2⟩ := two_of rd
      cases r1; cases r2
      exact call_max2 hc pins s σ H _ us Q I r ⟨_, _, rfl, g.ok rs (.int _)⟩
    · obtain ⟨v, rfl, r1⟩ := one_of rd
      split at g
      · rename_i es he
        split at g
        · rename_i i is hi
          obtain ⟨a, vs, rfl, _, hq, rr⟩ := itemsL_ok rs r1 he
          rw [ints_ok rr hi] at hq
          have q := g.ok rs (.int _)
          refine cr_max hc pins s σ H _ us Q I r ⟨a, i :: is, rfl, hK ▸ hq, Nat.succ_pos _, fun m hm hle => ?_⟩
          have e : m = maxI is i := by
            obtain ⟨h1, h2⟩ := maxI_ge is i
            have h3 : m ≤ maxI is i := by
              rcases List.mem_cons.mp hm with e | h
              · rw [e]; exact h1
              · exact h2 m h
            have h4 : maxI is i ≤ m := by
              refine hle _ ?_
              rcases maxI_mem is i with e | h
              · rw [e]; exact List.mem_cons_self
              · exact List.mem_cons_of_mem _ h
            omega
          rw [e]
          exact q
        · exact g.elim
      · exact g.elim
  case min =>
    simp only [blt] at g
    split at g <;> first | contradiction | skip
    · obtain ⟨v, w, rfl, r1, r2⟩ := two_of rd
      cases r1; cases r2
      exact call_min2 hc pins s σ H _ us Q I r ⟨_, _, rfl, g.ok rs (.int _)⟩
    · obtain ⟨v, rfl, r1⟩ := one_of rd
      split at g
      · rename_i es he
        split at g
        · rename_i i is hi
          obtain ⟨a, vs, rfl, _, hq, rr⟩ := itemsL_ok rs r1 he
          rw [ints_ok rr hi] at hq
          have q := g.ok rs (.int _)
          refine cr_min hc pins s σ H _ us Q I r ⟨a, i :: is, rfl, hK ▸ hq, Nat.succ_pos _, fun m hm hle => ?_⟩
          have e : m = minI is i := by
            obtain ⟨h1, h2⟩ := minI_le is i
            have h3 : minI is i ≤ m := by
              rcases List.mem_cons.mp hm with e | h
              · rw [e]; exact h1
              · exact h2 m h
            have h4 : m ≤ minI is i := by
              refine hle _ ?_
              rcases minI_mem is i with e | h
              · rw [e]; exact List.mem_cons_self
              · exact List.mem_cons_of_mem _ h
            omega
          rw [e]
          exact q
        · exact g.elim
      · exact g.elim
  case sum =>
    simp only [blt] at g
    split at g <;> first | contradiction | skip
    · obtain ⟨v, rfl, r1⟩ := one_of rd
      split at g
      · rename_i es he
        split at g
        · rename_i is hi
          obtain ⟨a, vs, rfl, _, hq, rr⟩ := itemsL_ok rs r1 he
          rw [ints_ok rr hi] at hq
          exact cr_sum hc pins s σ H _ us Q I r ⟨a, is, rfl, hK ▸ hq, g.ok rs (.int _)⟩
        · exact g.elim
      · exact g.elim
  case ord =>
    simp only [blt] at g
    split at g <;> first | contradiction | skip
    · obtain ⟨v, rfl, r1⟩ := one_of rd
      cases r1
      exact call_ord pins s σ H _ us Q I r ⟨_, rfl, rfl, g.ok rs (.int _)⟩
  case tuple =>
    simp only [blt] at g
    split at g <;> first | contradiction | skip
    · obtain ⟨v, rfl, r1⟩ := one_of rd
      split at g
      · rename_i es he
        obtain ⟨a, vs, rfl, hq, rr⟩ := items_ok rs r1 he
        rcases hq with hq | hq
        · refine call_tuple_of pins s σ H _ us Q I r ⟨a, vs, rfl, .inl ⟨hK ▸ hq, fun l hl => ?_⟩⟩
          have e : Ext H (upd H l (.tup vs)) := .new hl
          exact g.okE e (.refl ι) (rs.fresh hl) (.tup (.inl (.inl upd_same)) (rr.mono e (.refl _)))
        · exact call_tuple_of pins s σ H _ us Q I r ⟨a, vs, rfl, .inr ⟨hK ▸ hq, g.ok rs (.tup hq rr)⟩⟩
      · exact g.elim
  case list =>
    simp only [blt] at g
    split at g <;> first | contradiction | skip
    · split at g
      · rename_i hl
        obtain ⟨v, rfl, r1⟩ := one_of rd
        cases r1
        exact list_str hc hl I r fun p hp => alloc_lst rs (chars_rd _) g p hp
      · exact g.elim
    · obtain ⟨v, rfl, r1⟩ := one_of rd
      split at g
      · rename_i es he
        obtain ⟨a, vs, rfl, hq, rr⟩ := items_ok rs r1 he
        exact call_list_of pins s σ H _ us Q I r ⟨a, vs, rfl, hK ▸ hq, alloc_lst rs rr g⟩
      · exact g.elim
  case all =>
    simp only [blt] at g
    split at g <;> first | contradiction | skip
    · obtain ⟨v, rfl, r1⟩ := one_of rd
      split at g
      · rename_i es he
        split at g
        · rename_i bs hi
          obtain ⟨a, vs, rfl, _, hq, rr⟩ := itemsL_ok rs r1 he
          rw [bools_ok rr hi] at hq
          exact cr_all hc pins s σ H _ us Q I r ⟨a, bs, rfl, hK ▸ hq, g.ok rs (.bl _)⟩
        · exact g.elim
      · exact g.elim
  case any =>
    simp only [blt] at g
    split at g <;> first | contradiction | skip
    · obtain ⟨v, rfl, r1⟩ := one_of rd
      split at g
      · rename_i es he
        split at g
        · rename_i bs hi
          obtain ⟨a, vs, rfl, _, hq, rr⟩ := itemsL_ok rs r1 he
          rw [bools_ok rr hi] at hq
          exact cr_any hc pins s σ H _ us Q I r ⟨a, bs, rfl, hK ▸ hq, g.ok rs (.bl _)⟩
        · exact g.elim
      · exact g.elim
  case isinst =>
    simp only [blt] at g
    split at g <;> first | contradiction | skip
    · obtain ⟨v, w, rfl, r1, r2⟩ := two_of rd
      cases r2
      split at g
      · rename_i b hb
        unfold isA at hb
        split at hb
        · rename_i y hy
          split at hb
          · rename_i ht
            cases hb
            obtain ⟨h1, h2⟩ := ty_ok rs r1 hy
            exact call_isi pins s σ H _ us Q I r ⟨_, _, .type y, .type _, _, rfl, .ty _, hK ▸ h1, kit_ty (kit_at h2 (tyKnown_mem ht)), g.ok rs (.bl _)⟩
          · cases hb
        · cases hb
      · exact g.elim
end
end RX

namespace RX
open PySem PySem.Spec PyProof.Rows L2
abbrev wAt (W : WX) (σ : L2.St) : Value → Option Addr → Hp → Prop := fun c d H' => W c d σ H'
def tX (M : Mo) (W : WX) (f : EnvD → Store → Out D) : TE := fun σ H Q => ∃ (ι : List Addr) (st : Store) (env : EnvD), RS M.K M.ga ι H st ∧ RE M.K M.ga ι H env σ ∧ Good M (rD M) (wAt W σ) ι H (f env st) Q
def tXs (M : Mo) (W : WX) (f : EnvD → Store → Out (List D)) : TA := fun σ H Q => ∃ (ι : List Addr) (st : Store) (env : EnvD), RS M.K M.ga ι H st ∧ RE M.K M.ga ι H env σ ∧ Good M (rDs M) (wAt W σ) ι H (f env st) Q
def tXb (M : Mo) (W : WX) (f : EnvD → Store → Out Bool) : TT := fun σ H Q => ∃ (ι : List Addr) (st : Store) (env : EnvD), RS M.K M.ga ι H st ∧ RE M.K M.ga ι H env σ ∧ Good M rEq (wAt W σ) ι H (f env st) Q
theorem pe_weak {X : Cx} {e : Expr} {t t' : TE} (h : PE X e t) (w : ∀ σ H Q, t' σ H Q → t σ H Q) : PE X e t' := ⟨fun pins s σ H Q I q => h.run pins s σ H Q I (w σ H Q q)⟩
theorem pt_weak {X : Cx} {e : Expr} {t t' : TT} (h : PT X e t) (w : ∀ σ H Q, t' σ H Q → t σ H Q) : PT X e t' := ⟨fun pins s σ H Q I q => h.run pins s σ H Q I (w σ H Q q)⟩
theorem pa_weak {X : Cx} {e : List Expr} {t t' : TA} (h : PA X e t) (w : ∀ σ H Q, t' σ H Q → t σ H Q) : PA X e t' := ⟨fun pos pins s σ H Q I q => h.run pos pins s σ H Q I (w σ H Q q)⟩
section
variable {X : Cx} {M : Mo} {W : WX} {Γ : Sem} {a b c : Expr} {ia ib ic : E} {pos : Pos}
theorem pe_nev {e : Expr} : PE X e (tX M W (evE Γ .nev)) := ⟨fun pins s σ H Q I ⟨ι, st, env, rs, re, g⟩ => by
  simp only [evE] at g
  exact g.elim⟩
theorem pt_nev {e : Expr} : PT X e (tXb M W fun env st => truthO (evE Γ .nev env st)) := ⟨fun pins s σ H Q I ⟨ι, st, env, rs, re, g⟩ => by
  simp only [evE, truthO, Out.bind] at g
  exact g.elim⟩
theorem tX_then {f : EnvD → Store → Out D} {γ δ : Type} {R' : List Addr → Hp → γ → δ → Prop} {k : D → Store → Out γ} {σ : L2.St} {H : Hp} {ι : List Addr} {st : Store} {env : EnvD} {Q : δ → Hp → Prop} {Q' : VK}
    (rs : RS M.K M.ga ι H st) (re : RE M.K M.ga ι H env σ) (g : Good M R' (wAt W σ) ι H ((f env st).bind k) Q)
    (h : ∀ (v : V) (H1 : Hp) (ι1 : List Addr) (st1 : Store) (d : D), f env st = .ok d st1 → Ext H H1 → Pre ι ι1 → RS M.K M.ga ι1 H1 st1 → RE M.K M.ga ι1 H1 env σ → RD M.K M.ga ι1 H1 d v → Good M R' (wAt W σ) ι1 H1 (k d st1) Q → Q' v H1) : tX M W f σ H Q' :=
  ⟨ι, st, env, rs, re, (Good.seq (R := rD M) g).mono fun v H1 ⟨ι1, st1, d, ed, e1, p1, rs1, r1, g1⟩ => h v H1 ι1 st1 d ed e1 p1 rs1 (re.mono e1 p1) r1 g1⟩
theorem tXs_then {f : EnvD → Store → Out (List D)} {γ δ : Type} {R' : List Addr → Hp → γ → δ → Prop} {k : List D → Store → Out γ} {σ : L2.St} {H : Hp} {ι : List Addr} {st : Store} {env : EnvD} {Q : δ → Hp → Prop} {Q' : List V → Hp → Prop}
    (rs : RS M.K M.ga ι H st) (re : RE M.K M.ga ι H env σ) (g : Good M R' (wAt W σ) ι H ((f env st).bind k) Q)
    (h : ∀ (v : List V) (H1 : Hp) (ι1 : List Addr) (st1 : Store) (d : List D), f env st = .ok d st1 → Ext H H1 → Pre ι ι1 → RS M.K M.ga ι1 H1 st1 → RE M.K M.ga ι1 H1 env σ → RDs M.K M.ga ι1 H1 d v → Good M R' (wAt W σ) ι1 H1 (k d st1) Q → Q' v H1) : tXs M W f σ H Q' :=
  ⟨ι, st, env, rs, re, (Good.seq (R := rDs M) g).mono fun v H1 ⟨ι1, st1, d, ed, e1, p1, rs1, r1, g1⟩ => h v H1 ι1 st1 d ed e1 p1 rs1 (re.mono e1 p1) r1 g1⟩
theorem tXb_then {f : EnvD → Store → Out Bool} {γ δ : Type} {R' : List Addr → Hp → γ → δ → Prop} {k : Bool → Store → Out γ} {σ : L2.St} {H : Hp} {ι : List Addr} {st : Store} {env : EnvD} {Q : δ → Hp → Prop} {Q' : Bool → Hp → Prop}
    (rs : RS M.K M.ga ι H st) (re : RE M.K M.ga ι H env σ) (g : Good M R' (wAt W σ) ι H ((f env st).bind k) Q)
    (h : ∀ (v : Bool) (H1 : Hp) (ι1 : List Addr) (st1 : Store), f env st = .ok v st1 → Ext H H1 → Pre ι ι1 → RS M.K M.ga ι1 H1 st1 → RE M.K M.ga ι1 H1 env σ → Good M R' (wAt W σ) ι1 H1 (k v st1) Q → Q' v H1) : tXb M W f σ H Q' :=
  ⟨ι, st, env, rs, re, (Good.seq (R := rEq) g).mono fun v H1 ⟨ι1, st1, d, ed, e1, p1, rs1, r1, g1⟩ => by
    have r1 : d = v := r1
    subst r1
    exact h d H1 ι1 st1 ed e1 p1 rs1 (re.mono e1 p1) g1⟩

theorem px_var {i : Nat} {x : Str} (hN : X.N[i]? = some x) (hv : Vis X.env.scope x) (hd : (x == ("__debug__" : Str)) = false) (hcd : (x == ("__classdict__" : Str)) = false) : PE X (.Name x pos) (tX M W (evE Γ (.var i))) := by
  refine pe_weak (pe_var hN hv hd hcd) fun σ H Q ⟨ι, st, env, rs, re, g⟩ => ?_
  simp only [evE] at g
  cases e : env[i]? with
  | none => rw [e] at g; exact g.elim
  | some o =>
    rw [e] at g
    cases o with
    | none => exact g.elim
    | some d =>
      obtain ⟨v, h1, h2⟩ := re.2 i d e
      exact ⟨v, h1, Good.ok (R := rD M) g rs h2⟩
theorem px_cst {e : Expr} {d : D} {v : V} (h : PE X e (tC v)) (r : ∀ ι H, RD M.K M.ga ι H d v) : PE X e (tX M W (evE Γ (.cst d))) := by
  refine pe_weak h fun σ H Q ⟨ι, st, env, rs, re, g⟩ => ?_
  simp only [evE] at g
  exact Good.ok (R := rD M) g rs (r ι H)
theorem px_const {c : Const} {k : Nat} : PE X (.Constant c k pos) (tX M W (evE Γ (cConst c))) := by
  cases c with
  | none => exact px_cst pe_non fun _ _ => .non
  | bool b => exact px_cst pe_bl fun _ _ => .bl b
  | int i => exact px_cst pe_int fun _ _ => .int i
  | str s =>
    refine px_cst pe_str fun ι H => ?_
    have q : RD M.K M.ga ι H (.str s.cps.toList) (.str ⟨s.cps.toList.toArray⟩) := .str _
    simpa using q
  | _ => exact pe_nev
theorem px_op2 (hK : X.K = M.K) {op : Operator} (ha : PE X a (tX M W (evE Γ ia))) (hb : PE X b (tX M W (evE Γ ib))) : PE X (.BinOp a op b pos) (tX M W (evE Γ (.op2 op ia ib))) := by
  refine ⟨fun pins s σ H Q I ⟨ι, st, env, rs, re, g⟩ => ?_⟩
  simp only [evE] at g
  refine (pe_op (op2_ok (M := M) (W := wAt W σ) hK op) ha hb).run pins s σ H Q I ?_
  refine tX_then rs re g fun x H1 ι1 st1 d _ e1 p1 rs1 re1 r1 g1 => ?_
  refine tX_then rs1 re1 g1 fun y H2 ι2 st2 d2 _ e2 p2 rs2 re2 r2 g2 => ?_
  exact ⟨ι2, st2, d, d2, rs2, r1.mono e2 p2, r2, g2⟩
theorem px_neg (ha : PE X a (tX M W (evE Γ ia))) : PE X (.UnaryOp .USub a pos) (tX M W (evE Γ (.neg ia))) := by
  refine pe_weak (pe_un un_neg ha) fun σ H Q ⟨ι, st, env, rs, re, g⟩ => ?_
  simp only [evE] at g
  refine tX_then rs re g fun x H1 ι1 st1 d _ e1 p1 rs1 re1 r1 g1 => ?_
  cases r1 <;> first | (exact ⟨_, rfl, Good.ok (R := rD M) g1 rs1 (.int _)⟩) | exact g1.elim
theorem px_cmp (hK : X.K = M.K) {k : Nat} (hr : Room k X.A) {op : CmpOp} (ha : PE X a (tX M W (evE Γ ia))) (hb : PE X b (tX M W (evE Γ ib))) (hs : setB b = false) : PE X (.Compare a [op] [b] pos) (tX M W (evE Γ (.cmp op ia ib))) := by
  refine ⟨fun pins s σ H Q I ⟨ι, st, env, rs, re, g⟩ => ?_⟩
  simp only [evE] at g
  refine (pe_cmpR (cmpO_ok (M := M) (W := wAt W σ) hK hr op) ha hb (by cases b <;> first | rfl | cases hs)).run pins s σ H Q I ?_
  refine tX_then rs re g fun x H1 ι1 st1 d _ e1 p1 rs1 re1 r1 g1 => ?_
  refine tX_then rs1 re1 g1 fun y H2 ι2 st2 d2 _ e2 p2 rs2 re2 r2 g2 => ?_
  exact ⟨ι2, st2, d, d2, rs2, r1.mono e2 p2, r2, g2⟩
theorem cmpO_bl {op : CmpOp} {x y : D} {st : Store} {ι : List Addr} {H : Hp} {V' : Value → Option Addr → Hp → Prop} {Q : Bool → Hp → Prop} (g : Good M rEq V' ι H (truthO (cmpO op x y st)) Q) :
    Good M (rD M) V' ι H (cmpO op x y st) fun z H3 => ∃ k, z = .bl k ∧ Q k H3 := by
  unfold cmpO at g ⊢
  cases e : cmpD op x y st with
  | none => rw [e] at g; exact g.elim
  | some k =>
    rw [e] at g
    intro ι' H' b e1 p1 rs1 r1
    cases r1
    exact ⟨k, rfl, g ι' H' k e1 p1 rs1 rfl⟩
theorem bind_bind {α β γ : Type} (x : Out α) (f : α → Store → Out β) (k : β → Store → Out γ) : (x.bind f).bind k = x.bind fun a st => (f a st).bind k := by
  cases x <;> rfl
theorem truthO_bind {α : Type} (x : Out α) (f : α → Store → Out D) : truthO (x.bind f) = x.bind fun a st => truthO (f a st) := bind_bind x f _
theorem pt_cmp' (hK : X.K = M.K) {k : Nat} (hr : Room k X.A) {op : CmpOp} (ha : PE X a (tX M W (evE Γ ia))) (hb : PE X b (tX M W (evE Γ ib))) (hs : setB b = false) : PT X (.Compare a [op] [b] pos) (tXb M W fun env st => truthO (evE Γ (.cmp op ia ib) env st)) := by
  refine ⟨fun pins s σ H Q I ⟨ι, st, env, rs, re, g⟩ => ?_⟩
  simp only [evE, truthO_bind] at g
  refine (pt_cmpR (cmpO_ok (M := M) (W := wAt W σ) hK hr op) ha hb (by cases b <;> first | rfl | cases hs)).run pins s σ H Q I ?_
  refine tX_then rs re g fun x H1 ι1 st1 d _ e1 p1 rs1 re1 r1 g1 => ?_
  refine tX_then rs1 re1 g1 fun y H2 ι2 st2 d2 _ e2 p2 rs2 re2 r2 g2 => ?_
  exact ⟨ι2, st2, d, d2, rs2, r1.mono e2 p2, r2, cmpO_bl g2⟩
end
end RX

namespace RX
open PySem PySem.Spec PyProof.Rows L2
section
variable {X : Cx} {M : Mo} {W : WX} {Γ : Sem} {a b c e : Expr} {ia ib ic : E} {pos : Pos}
theorem px_truth (hK : X.K = M.K) (ha : PE X e (tX M W (evE Γ ia))) (he : ∀ whole, isTrue e X.env whole = (do let v ← whole; standAt e.pos; holding [v] (truthy v))) : PT X e (tXb M W fun env st => truthO (evE Γ ia env st)) := by
  refine pt_weak (pt_truth ha he) fun σ H Q ⟨ι, st, env, rs, re, g⟩ => ?_
  unfold truthO at g
  refine tX_then rs re g fun x H1 ι1 st1 d _ e1 p1 rs1 re1 r1 g1 => ?_
  cases q : truth st1 d with
  | none => rw [q] at g1; exact g1.elim
  | some k =>
    rw [q] at g1
    exact ⟨k, by rw [hK]; exact truth_ok rs1 r1 q, Good.ok (R := rEq) g1 rs1 rfl⟩
theorem px_cmp2 (hK : X.K = M.K) {k : Nat} (hr : Room k X.A) {o1 o2 : CmpOp} (ha : PE X a (tX M W (evE Γ ia))) (hb : PE X b (tX M W (evE Γ ib))) (hc : PE X c (tX M W (evE Γ ic))) (hs : setB c = false) :
    PE X (.Compare a [o1, o2] [b, c] pos) (tX M W (evE Γ (.cmp2 o1 o2 ia ib ic))) := by
  refine ⟨fun pins s σ H Q I ⟨ι, st, env, rs, re, g⟩ => ?_⟩
  simp only [evE] at g
  refine (pe_chain (cmpO_ok (M := M) (W := wAt W σ) hK hr o1) (cmpO_ok (M := M) (W := wAt W σ) hK hr o2) ha hb hc (by cases c <;> first | rfl | cases hs)).run pins s σ H Q I ?_
  refine tX_then rs re g fun x H1 ι1 st1 d _ e1 p1 rs1 re1 r1 g1 => ?_
  refine tX_then rs1 re1 g1 fun y H2 ι2 st2 d2 _ e2 p2 rs2 re2 r2 g2 => ?_
  refine ⟨ι2, st2, d, d2, rs2, r1.mono e2 p2, r2, ?_⟩
  unfold cmpO
  cases q : cmpD o1 d d2 st2 with
  | none => rw [q] at g2; exact g2.elim
  | some t =>
    rw [q] at g2
    intro ι3 H3 z e3 p3 rs3 r3
    cases r3
    refine ⟨t, rfl, ?_⟩
    cases t with
    | false => exact Good.okE (R := rD M) g2 e3 p3 rs3 (.bl false)
    | true =>
      refine tX_then rs3 (re2.mono e3 p3) (Good.later g2 e3 p3) fun z H4 ι4 st4 d4 _ e4 p4 rs4 re4 r4 g4 => ?_
      exact ⟨ι4, st4, d2, d4, rs4, (r2.mono e3 p3).mono e4 p4, r4, g4⟩
theorem pt_cmp2 (hK : X.K = M.K) {k : Nat} (hr : Room k X.A) {o1 o2 : CmpOp} (ha : PE X a (tX M W (evE Γ ia))) (hb : PE X b (tX M W (evE Γ ib))) (hc : PE X c (tX M W (evE Γ ic))) (hs : setB c = false) :
    PT X (.Compare a [o1, o2] [b, c] pos) (tXb M W fun env st => truthO (evE Γ (.cmp2 o1 o2 ia ib ic) env st)) := by
  refine ⟨fun pins s σ H Q I ⟨ι, st, env, rs, re, g⟩ => ?_⟩
  simp only [evE, truthO_bind] at g
  refine (pt_chain (cmpO_ok (M := M) (W := wAt W σ) hK hr o1) (cmpO_ok (M := M) (W := wAt W σ) hK hr o2) ha hb hc (by cases c <;> first | rfl | cases hs)).run pins s σ H Q I ?_
  refine tX_then rs re g fun x H1 ι1 st1 d _ e1 p1 rs1 re1 r1 g1 => ?_
  refine tX_then rs1 re1 g1 fun y H2 ι2 st2 d2 _ e2 p2 rs2 re2 r2 g2 => ?_
  refine ⟨ι2, st2, d, d2, rs2, r1.mono e2 p2, r2, ?_⟩
  unfold cmpO
  cases q : cmpD o1 d d2 st2 with
  | none => rw [q] at g2; exact g2.elim
  | some t =>
    rw [q] at g2
    intro ι3 H3 z e3 p3 rs3 r3
    cases r3
    refine ⟨t, rfl, ?_⟩
    cases t with
    | false => exact ⟨false, rfl, Good.okE (R := rEq) g2 e3 p3 rs3 rfl⟩
    | true =>
      simp only [truthO_bind] at g2
      refine tX_then rs3 (re2.mono e3 p3) (Good.later g2 e3 p3) fun z H4 ι4 st4 d4 _ e4 p4 rs4 re4 r4 g4 => ?_
      exact ⟨ι4, st4, d2, d4, rs4, (r2.mono e3 p3).mono e4 p4, r4, cmpO_bl g4⟩

theorem px_not (hK : X.K = M.K) (ha : PE X a (tX M W (evE Γ ia))) : PE X (.UnaryOp .Not a pos) (tX M W (evE Γ (.not ia))) := by
  refine pe_weak (pe_notT ha) fun σ H Q ⟨ι, st, env, rs, re, g⟩ => ?_
  simp only [evE] at g
  unfold truthO at g
  rw [bind_bind] at g
  refine tX_then rs re g fun x H1 ι1 st1 d _ e1 p1 rs1 re1 r1 g1 => ?_
  cases q : truth st1 d with
  | none => rw [q] at g1; exact g1.elim
  | some k =>
    rw [q] at g1
    exact ⟨k, by rw [hK]; exact truth_ok rs1 r1 q, Good.ok (R := rD M) g1 rs1 (.bl _)⟩
theorem pt_not' (ha : PT X a (tXb M W fun env st => truthO (evE Γ ia env st))) : PT X (.UnaryOp .Not a pos) (tXb M W fun env st => truthO (evE Γ (.not ia) env st)) := by
  refine pt_weak (pt_not ha) fun σ H Q ⟨ι, st, env, rs, re, g⟩ => ?_
  simp only [evE, truthO_bind] at g
  refine tXb_then (f := fun env st => truthO (evE Γ ia env st)) rs re g fun k H1 ι1 st1 _ e1 p1 rs1 re1 g1 => ?_
  exact Good.ok (R := rEq) g1 rs1 rfl
theorem px_and (hK : X.K = M.K) {rest : List Expr} (ha : PE X a (tX M W (evE Γ ia))) (hb : PE X (.BoolOp .And (b :: rest) pos) (tX M W (evE Γ ib))) : PE X (.BoolOp .And (a :: b :: rest) pos) (tX M W (evE Γ (.and ia ib))) := by
  refine pe_weak (pe_andT ha hb) fun σ H Q ⟨ι, st, env, rs, re, g⟩ => ?_
  simp only [evE] at g
  refine tX_then rs re g fun x H1 ι1 st1 d _ e1 p1 rs1 re1 r1 g1 => ?_
  cases q : truth st1 d with
  | none => rw [q] at g1; exact g1.elim
  | some k =>
    rw [q] at g1
    refine ⟨k, by rw [hK]; exact truth_ok rs1 r1 q, ?_⟩
    cases k with
    | true => exact ⟨ι1, st1, env, rs1, re1, g1⟩
    | false => exact Good.ok (R := rD M) g1 rs1 r1
theorem px_or (hK : X.K = M.K) {rest : List Expr} (ha : PE X a (tX M W (evE Γ ia))) (hb : PE X (.BoolOp .Or (b :: rest) pos) (tX M W (evE Γ ib))) : PE X (.BoolOp .Or (a :: b :: rest) pos) (tX M W (evE Γ (.or ia ib))) := by
  refine pe_weak (pe_orT ha hb) fun σ H Q ⟨ι, st, env, rs, re, g⟩ => ?_
  simp only [evE] at g
  refine tX_then rs re g fun x H1 ι1 st1 d _ e1 p1 rs1 re1 r1 g1 => ?_
  cases q : truth st1 d with
  | none => rw [q] at g1; exact g1.elim
  | some k =>
    rw [q] at g1
    refine ⟨k, by rw [hK]; exact truth_ok rs1 r1 q, ?_⟩
    cases k with
    | false => exact ⟨ι1, st1, env, rs1, re1, g1⟩
    | true => exact Good.ok (R := rD M) g1 rs1 r1
theorem truthO_and (ia ib : E) (env : EnvD) (st : Store) : truthO (evE Γ (.and ia ib) env st) = (truthO (evE Γ ia env st)).bind fun t st1 => if t = true then truthO (evE Γ ib env st1) else .ok false st1 := by
  simp only [evE, truthO_bind]
  unfold truthO
  rw [bind_bind]
  cases evE Γ ia env st with
  | ok d st1 =>
    simp only [Out.bind]
    cases q : truth st1 d with
    | none => rfl
    | some k => cases k <;> simp [ofOpt, Out.bind, q]
  | _ => rfl
theorem truthO_or (ia ib : E) (env : EnvD) (st : Store) : truthO (evE Γ (.or ia ib) env st) = (truthO (evE Γ ia env st)).bind fun t st1 => if t = true then .ok true st1 else truthO (evE Γ ib env st1) := by
  simp only [evE, truthO_bind]
  unfold truthO
  rw [bind_bind]
  cases evE Γ ia env st with
  | ok d st1 =>
    simp only [Out.bind]
    cases q : truth st1 d with
    | none => rfl
    | some k => cases k <;> simp [ofOpt, Out.bind, q]
  | _ => rfl
theorem pw_and' {rest : List Expr} (ha : PT X a (tXb M W fun env st => truthO (evE Γ ia env st))) (hb : PW X (.BoolOp .And (b :: rest) pos) (tXb M W fun env st => truthO (evE Γ ib env st))) :
    PW X (.BoolOp .And (a :: b :: rest) pos) (tXb M W fun env st => truthO (evE Γ (.and ia ib) env st)) := by
  refine ⟨fun wh pins s σ H Q I ⟨ι, st, env, rs, re, g⟩ => (pw_and ha hb).run wh pins s σ H Q I ?_⟩
  simp only [truthO_and] at g
  refine tXb_then (f := fun env st => truthO (evE Γ ia env st)) rs re g fun k H1 ι1 st1 _ e1 p1 rs1 re1 g1 => ?_
  cases k with
  | true => exact ⟨ι1, st1, env, rs1, re1, g1⟩
  | false => exact Good.ok (R := rEq) g1 rs1 rfl
theorem pw_or' {rest : List Expr} (ha : PT X a (tXb M W fun env st => truthO (evE Γ ia env st))) (hb : PW X (.BoolOp .Or (b :: rest) pos) (tXb M W fun env st => truthO (evE Γ ib env st))) :
    PW X (.BoolOp .Or (a :: b :: rest) pos) (tXb M W fun env st => truthO (evE Γ (.or ia ib) env st)) := by
  refine ⟨fun wh pins s σ H Q I ⟨ι, st, env, rs, re, g⟩ => (pw_or ha hb).run wh pins s σ H Q I ?_⟩
  simp only [truthO_or] at g
  refine tXb_then (f := fun env st => truthO (evE Γ ia env st)) rs re g fun k H1 ι1 st1 _ e1 p1 rs1 re1 g1 => ?_
  cases k with
  | true => exact Good.ok (R := rEq) g1 rs1 rfl
  | false => exact ⟨ι1, st1, env, rs1, re1, g1⟩
theorem px_ite (hc : PT X c (tXb M W fun env st => truthO (evE Γ ic env st))) (ha : PE X a (tX M W (evE Γ ia))) (hb : PE X b (tX M W (evE Γ ib))) : PE X (.IfExp c a b pos) (tX M W (evE Γ (.ite ic ia ib))) := by
  refine pe_weak (pe_ifExp hc ha hb) fun σ H Q ⟨ι, st, env, rs, re, g⟩ => ?_
  simp only [evE] at g
  refine tXb_then (f := fun env st => truthO (evE Γ ic env st)) rs re g fun k H1 ι1 st1 _ e1 p1 rs1 re1 g1 => ?_
  cases k with
  | true => exact ⟨ι1, st1, env, rs1, re1, g1⟩
  | false => exact ⟨ι1, st1, env, rs1, re1, g1⟩
theorem pt_ite (hc : PT X c (tXb M W fun env st => truthO (evE Γ ic env st))) (ha : PT X a (tXb M W fun env st => truthO (evE Γ ia env st))) (hb : PT X b (tXb M W fun env st => truthO (evE Γ ib env st))) :
    PT X (.IfExp c a b pos) (tXb M W fun env st => truthO (evE Γ (.ite ic ia ib) env st)) := by
  refine ⟨fun pins s σ H Q I ⟨ι, st, env, rs, re, g⟩ => ?_⟩
  simp only [evE, truthO_bind] at g
  refine isTrue_IfExp (thn (hc.run pins s σ H _ I (tXb_then (f := fun env st => truthO (evE Γ ic env st)) (Q' := fun k H1 => ∃ ι1 st1, RS M.K M.ga ι1 H1 st1 ∧ RE M.K M.ga ι1 H1 env σ ∧ Good M rEq (wAt W σ) ι1 H1 (truthO (match k with | true => evE Γ ia env st1 | false => evE Γ ib env st1)) Q) rs re g
    fun k H1 ι1 st1 _ e1 p1 rs1 re1 g1 => ⟨ι1, st1, rs1, re1, by cases k <;> exact g1⟩)) fun k s1 ⟨H1, I1, ι1, st1, rs1, re1, g1⟩ => ?_)
  cases k with
  | true => exact ha.run pins s1 σ H1 Q I1 ⟨ι1, st1, env, rs1, re1, g1⟩
  | false => exact hb.run pins s1 σ H1 Q I1 ⟨ι1, st1, env, rs1, re1, g1⟩
theorem star_cons {es : List Expr} {en : Env} (h : starB e = false) : starEach (e :: es) en = (false, eval e en) :: starEach es en := by
  cases e <;> first | rfl | cases h
theorem star_none : ∀ {es : List Expr} {en : Env}, es.any starB = false → (backTo pos (starEach es en)).any (·.1) = false
  | [], _, _ => rfl
  | e :: es, en, h => by
    rw [List.any_cons, Bool.or_eq_false_iff] at h
    rw [star_cons h.1]
    exact (star_none (es := es) (en := en) h.2 : (backTo pos (starEach es en)).any (·.1) = false)
theorem pxs_nil : PA X [] (tXs M W (evEs Γ [])) := by
  refine ⟨fun pos pins s σ H Q I ⟨ι, st, env, rs, re, g⟩ => pa_nil.run pos pins s σ H Q I ?_⟩
  simp only [evEs] at g
  exact Good.ok (R := rDs M) g rs .nil
theorem pxs_cons {es : List Expr} {ies : List E} (hs : starB a = false) (ha : PE X a (tX M W (evE Γ ia))) (hr : PA X es (tXs M W (evEs Γ ies))) : PA X (a :: es) (tXs M W (evEs Γ (ia :: ies))) := by
  refine pa_weak (pa_cons ha hr (star_cons hs)) fun σ H Q ⟨ι, st, env, rs, re, g⟩ => ?_
  simp only [evEs] at g
  refine tX_then rs re g fun x H1 ι1 st1 d _ e1 p1 rs1 re1 r1 g1 => ?_
  refine tXs_then rs1 re1 g1 fun y H2 ι2 st2 d2 _ e2 p2 rs2 re2 r2 g2 => ?_
  exact Good.ok (R := rDs M) g2 rs2 (.cons (r1.mono e2 p2) r2)
theorem px_tup {es : List Expr} {ies : List E} {x1} (h : PA X es (tXs M W (evEs Γ ies))) : PE X (.Tuple es x1 pos) (tX M W (evE Γ (.tup ies))) := by
  refine pe_weak (pe_tup h) fun σ H Q ⟨ι, st, env, rs, re, g⟩ => ?_
  simp only [evE] at g
  refine tXs_then rs re g fun vs H1 ι1 st1 ds _ e1 p1 rs1 re1 r1 g1 => ?_
  by_cases hl : ds.length ≤ SL
  · rw [if_pos hl] at g1
    refine ⟨by rw [← r1.length, ← SL_eq]; exact hl, fun p hp => ?_⟩
    exact Good.okE (R := rD M) g1 (.new hp) (.refl _) (rs1.fresh hp) (.tup (.inl (.inl upd_same)) (r1.mono (.new hp) (.refl _)))
  · rw [if_neg hl] at g1; exact g1.elim
theorem px_lst {es : List Expr} {ies : List E} (h : PA X es (tXs M W (evEs Γ ies))) : PE X (.List es pos) (tX M W (evE Γ (.lst ies))) := by
  refine pe_weak (pe_lst h) fun σ H Q ⟨ι, st, env, rs, re, g⟩ => ?_
  simp only [evE] at g
  refine tXs_then rs re g fun vs H1 ι1 st1 ds _ e1 p1 rs1 re1 r1 g1 => ?_
  by_cases hl : ds.length ≤ SL
  · rw [if_pos hl] at g1
    exact ⟨by rw [← r1.length, ← SL_eq]; exact hl, fun p hp => alloc_lst rs1 r1 g1 p hp⟩
  · rw [if_neg hl] at g1; exact g1.elim
theorem px_sub (hK : X.K = M.K) (hp : PlainIx b) (ha : PE X a (tX M W (evE Γ ia))) (hb : PE X b (tX M W (evE Γ ib))) : PE X (.Subscript a b pos) (tX M W (evE Γ (.sub ia ib))) := by
  refine ⟨fun pins s σ H Q I ⟨ι, st, env, rs, re, g⟩ => ?_⟩
  simp only [evE] at g
  refine (pe_ix (sub_ok (M := M) (W := wAt W σ) hK) ha hb hp).run pins s σ H Q I ?_
  refine tX_then rs re g fun x H1 ι1 st1 d _ e1 p1 rs1 re1 r1 g1 => ?_
  refine tX_then rs1 re1 g1 fun y H2 ι2 st2 d2 _ e2 p2 rs2 re2 r2 g2 => ?_
  exact ⟨ι2, st2, d, d2, rs2, r1.mono e2 p2, r2, g2⟩
def tBd (M : Mo) (W : WX) (Γ : Sem) (i : E) : TO := fun σ H Q => ∃ (ι : List Addr) (st : Store) (env : EnvD), RS M.K M.ga ι H st ∧ RE M.K M.ga ι H env σ ∧ Good M rEq (wAt W σ) ι H (bndO (evE Γ i env st)) Q
theorem po_bd {e : Option Expr} {i : E} (h : match e with | some x => PE X x (tX M W (evE Γ i)) | none => i = .cst .non) : PO X e (tBd M W Γ i) := by
  cases e with
  | none =>
    cases h
    refine ⟨fun pins s σ H Q I ⟨ι, st, env, rs, re, g⟩ => po_none.run pins s σ H Q I ?_⟩
    simp only [evE, bndO, Out.bind, bndOf, ofOpt] at g
    exact Good.ok (R := rEq) g rs rfl
  | some x =>
    refine ⟨fun pins s σ H Q I ⟨ι, st, env, rs, re, g⟩ => (po_any h).run pins s σ H Q I ?_⟩
    unfold bndO at g
    refine tX_then rs re g fun v H1 ι1 st1 d _ e1 p1 rs1 re1 r1 g1 => ?_
    cases r1 with
    | non => exact .inl ⟨rfl, Good.ok (R := rEq) g1 rs1 rfl⟩
    | int k => exact .inr ⟨k, rfl, Good.ok (R := rEq) g1 rs1 rfl⟩
    | _ => exact g1.elim
theorem tBd_then {i : E} {γ δ : Type} {R' : List Addr → Hp → γ → δ → Prop} {k : Option Int → Store → Out γ} {σ : L2.St} {H : Hp} {ι : List Addr} {st : Store} {env : EnvD} {Q : δ → Hp → Prop} {Q' : Option Int → Hp → Prop}
    (rs : RS M.K M.ga ι H st) (re : RE M.K M.ga ι H env σ) (g : Good M R' (wAt W σ) ι H ((bndO (evE Γ i env st)).bind k) Q)
    (h : ∀ (v : Option Int) (H1 : Hp) (ι1 : List Addr) (st1 : Store), Ext H H1 → Pre ι ι1 → RS M.K M.ga ι1 H1 st1 → RE M.K M.ga ι1 H1 env σ → Good M R' (wAt W σ) ι1 H1 (k v st1) Q → Q' v H1) : tBd M W Γ i σ H Q' :=
  ⟨ι, st, env, rs, re, (Good.seq (R := rEq) g).mono fun v H1 ⟨ι1, st1, d, ed, e1, p1, rs1, r1, g1⟩ => by
    have r1 : d = v := r1
    subst r1
    exact h d H1 ι1 st1 e1 p1 rs1 (re.mono e1 p1) g1⟩
theorem px_slc (hK : X.K = M.K) {lo hi : Option Expr} {il ih : E} {p2 : Pos} (ha : PE X a (tX M W (evE Γ ia))) (hl : match lo with | some x => PE X x (tX M W (evE Γ il)) | none => il = .cst .non) (hh : match hi with | some x => PE X x (tX M W (evE Γ ih)) | none => ih = .cst .non) :
    PE X (.Subscript a (.Slice lo hi none p2) pos) (tX M W (evE Γ (.slc ia il ih))) := by
  refine ⟨fun pins s σ H Q I ⟨ι, st, env, rs, re, g⟩ => ?_⟩
  simp only [evE] at g
  refine (pe_slice (slc_ok (M := M) (W := wAt W σ) hK) ha (po_bd hl) (po_bd hh)).run pins s σ H Q I ?_
  refine tX_then rs re g fun x H1 ι1 st1 d _ e1 p1 rs1 re1 r1 g1 => ?_
  refine tBd_then rs1 re1 g1 fun l H2 ι2 st2 e2 p2 rs2 re2 g2 => ?_
  refine tBd_then rs2 re2 g2 fun h H3 ι3 st3 e3 p3 rs3 re3 g3 => ?_
  exact ⟨ι3, st3, d, rs3, (r1.mono e2 p2).mono e3 p3, g3⟩
end
end RX

namespace RX
open PySem PySem.Spec PyProof.Rows L2
section
variable {X : Cx} {M : Mo} {W : WX} {Γ : Sem} {a b c e : Expr} {es : List Expr} {ia ib ic : E} {ies : List E} {pos : Pos}
def spD (M : Mo) (call : Nat → List D → Store → Out D) (i n : Nat) : Sp := fun vs H Q E => ∃ (ι : List Addr) (st : Store) (ds : List D), RS M.K M.ga ι H st ∧ RDs M.K M.ga ι H ds vs ∧ ds.length = n ∧ Good M (rD M) (fun c d H' => E c d H') ι H (call i ds st) Q
theorem spD_len {call : Nat → List D → Store → Out D} {i n : Nat} (vs : List V) (H : Hp) (Q : VK) (E : XK) (h : spD M call i n vs H Q E) : vs.length = n := by
  obtain ⟨ι, st, ds, rs, rd, hl, g⟩ := h
  rw [← rd.length, hl]
theorem pe_callS0 {CX : CXT} {k : Nat} {f : Addr} {fd : FuncData} {ps : List Str} {sp : Sp} {E : L2.St → XK} {x : Str} {p : Pos} (F : FnOk X.prog X.w X.K X.mg X.base CX k f fd ps sp) (hr : Room k X.A) (hg : Gl X x) (hm : X.mg x = some (.ref f)) (hk : PySem.W.keepIn X.K (.ref f) = true) (hb : Binds X.K fd ps []) (hx : ∀ σ, PassesAt CX X σ (E σ))
    (hdb : (x == ("__debug__" : Str)) = false) : PE X (.Call (.Name x p) [] [] pos) (tCallSD sp [] E tNil) := by
  refine ⟨fun pins s σ H Q I h => ?_⟩
  refine wpAny_Call_Name_kw (ld_glob I hg hm ?_ hdb)
  exact PySem.W.callWith_K0 I.kIn hk (run_fnSD (us := []) F hr hb .nil (hx σ) I .nil h)
theorem px_call {k : Nat} {f : Addr} {fd : FuncData} {ps : List Str} {x : Str} {p : Pos} {i : Nat} (F : FnOk X.prog X.w X.K X.mg X.base (L2.CX X.prog X.w) k f fd ps (spD M Γ.call i ps.length)) (hr : Room k X.A) (hg : Gl X x) (hm : X.mg x = some (.ref f))
    (hk : PySem.W.keepIn X.K (.ref f) = true) (hb : Binds X.K fd ps []) (tk : Takes X W) (ha : PA X es (tXs M W (evEs Γ ies))) (hl : ies.length = ps.length) (hn : es.length = ies.length) (hdb : (x == ("__debug__" : Str)) = false) (hs : es.any starB = false) :
    PE X (.Call (.Name x p) es [] pos) (tX M W (evE Γ (.call i ies))) := by
  have evl : ∀ (l : List E) (env : EnvD) (st : Store) (ds : List D) (st1 : Store), evEs Γ l env st = .ok ds st1 → ds.length = l.length := by
    intro l
    induction l with
    | nil => intro env st ds st1 h; simp only [evEs] at h; cases h; rfl
    | cons y l ih =>
      intro env st ds st1 h
      simp only [evEs] at h
      cases q : evE Γ y env st with
      | ok d st2 =>
        rw [q] at h
        have h : ((evEs Γ l env st2).bind fun ds st2 => Out.ok (d :: ds) st2) = .ok ds st1 := h
        cases q2 : evEs Γ l env st2 with
        | ok ds2 st3 =>
          rw [q2] at h
          cases h
          simp [ih _ _ _ _ q2]
        | exc c p st3 => rw [q2] at h; cases h
        | stuck => rw [q2] at h; cases h
      | exc c p st2 => rw [q] at h; cases h
      | stuck => rw [q] at h; cases h
  have key : ∀ (σ : L2.St) (H : Hp) (Q : VK), tX M W (evE Γ (.call i ies)) σ H Q → tXs M W (evEs Γ ies) σ H fun vs H1 => spD M Γ.call i ps.length (vs ++ []) H1 Q (WE W σ) := by
    intro σ H Q ⟨ι, st, env, rs, re, g⟩
    simp only [evE] at g
    refine tXs_then rs re g fun vs H1 ι1 st1 ds ed e1 p1 rs1 re1 r1 g1 => ?_
    rw [List.append_nil]
    exact ⟨ι1, st1, ds, rs1, r1, by rw [evl _ _ _ _ _ ed, hl], g1⟩
  cases es with
  | nil =>
    cases ies with
    | cons y l => cases hn
    | nil =>
      refine pe_weak (pe_callS0 (E := WE W) F hr hg hm hk hb (fun σ => passAt tk σ) hdb) fun σ H Q h => ?_
      obtain ⟨ι, st, env, rs, re, g⟩ := h
      simp only [evE, evEs, Out.bind] at g
      exact ⟨ι, st, [], rs, .nil, hl, g⟩
  | cons e es =>
    rw [List.any_cons, Bool.or_eq_false_iff] at hs
    exact pe_weak (pe_callSD (E := WE W) F hr hg hm hk hb .nil (fun σ => passAt tk σ) ha hdb (star_cons hs.1) (star_none hs.2)) key
theorem ite_some {α : Type} {p : Prop} [Decidable p] {a b : α} {r : Option α} (h : (if p then some a else r) = some b) : (p ∧ a = b) ∨ r = some b := by
  by_cases q : p
  · rw [if_pos q] at h; exact .inl ⟨q, Option.some.inj h⟩
  · rw [if_neg q] at h; exact .inr h
theorem bltOf_boot {x : Str} {b : Blt} (h : bltOf x = some b) : bootBuiltins x = some (bltV b) := by
  unfold bltOf at h
  rcases ite_some h with ⟨rfl, rfl⟩ | h
  · exact boot_len
  rcases ite_some h with ⟨rfl, rfl⟩ | h
  · exact boot_abs
  rcases ite_some h with ⟨rfl, rfl⟩ | h
  · decide +kernel
  rcases ite_some h with ⟨rfl, rfl⟩ | h
  · decide +kernel
  rcases ite_some h with ⟨rfl, rfl⟩ | h
  · exact boot_repr
  rcases ite_some h with ⟨rfl, rfl⟩ | h
  · exact boot_max
  rcases ite_some h with ⟨rfl, rfl⟩ | h
  · exact boot_min
  rcases ite_some h with ⟨rfl, rfl⟩ | h
  · exact boot_sum
  rcases ite_some h with ⟨rfl, rfl⟩ | h
  · exact boot_ord
  rcases ite_some h with ⟨rfl, rfl⟩ | h
  · decide +kernel
  rcases ite_some h with ⟨rfl, rfl⟩ | h
  · decide +kernel
  rcases ite_some h with ⟨rfl, rfl⟩ | h
  · exact boot_all
  rcases ite_some h with ⟨rfl, rfl⟩ | h
  · exact boot_any
  rcases ite_some h with ⟨rfl, rfl⟩ | h
  · exact boot_isinstance
  cases h
theorem px_blt (hK : X.K = M.K) (hc : X.calm = true) {k : Nat} (hr : Room k X.A) {b : Blt} {x : Str} {p : Pos} (hx : bltOf x = some b) (hg : Gl X x) (hm : X.mg x = none) (ho : oddName x = false) (ha : PA X (e :: es) (tXs M W (evEs Γ ies))) (hs : (e :: es).any starB = false) :
    PE X (.Call (.Name x p) (e :: es) [] pos) (tX M W (evE Γ (.blt b ies))) := by
  rw [List.any_cons, Bool.or_eq_false_iff] at hs
  have hb := bltOf_boot hx
  unfold oddName at ho
  rw [Bool.or_eq_false_iff, Bool.or_eq_false_iff] at ho
  have hn : x ≠ "__name__" := fun z => by rw [z] at ho; exact absurd ho.2 (by decide)
  refine ⟨fun pins s σ H Q I ⟨ι, st, env, rs, re, g⟩ => ?_⟩
  simp only [evE] at g
  have q : tCB (rB M (wAt W σ) (blt b)) (tXs M W (evEs Γ ies)) σ H Q := by
    refine tXs_then rs re g fun vs H1 ι1 st1 ds _ e1 p1 rs1 re1 r1 g1 => ?_
    exact ⟨ι1, st1, ds, rs1, r1, g1⟩
  have ok := blt_ok (X := X) (M := M) (W := wAt W σ) hK hc hr b
  cases b <;> first
    | exact (pe_callB ok hg hm hb ha hn ho.1.1 (star_cons hs.1) (star_none hs.2)).run pins s σ H Q I q
    | exact (pe_callTy ok hg hm hb ha hn ho.1.1 (star_cons hs.1) (star_none hs.2)).run pins s σ H Q I q
def metId : Met → String
  | .append => "list.append" | .join => "str.join" | .replace => "str.replace" | .startswith => "str.startswith" | .pop => "list.pop" | .extend => "list.extend"
def metTy : Met → String
  | .append => "list" | .join => "str" | .replace => "str" | .startswith => "str" | .pop => "list" | .extend => "list"
def metDone : Met → Bool
  | .append => true | .join => true | .extend => true | _ => false
def rM (M : Mo) (W : Value → Option Addr → Hp → Prop) (f : D → List D → Store → Out D) : V → List V → Hp → VK → Prop := fun x vs H Q => ∃ (ι : List Addr) (st : Store) (o : D) (ds : List D), RS M.K M.ga ι H st ∧ RD M.K M.ga ι H o x ∧ RDs M.K M.ga ι H ds vs ∧ Good M (rD M) W ι H (f o ds st) Q
theorem joinL_eq (s : List Nat) (ss : List (List Nat)) : Txt.join (⟨s.toArray⟩ : Str) (ss.map fun s => (⟨s.toArray⟩ : Str)) = ⟨(joinL s ss).toArray⟩ := by
  show Builtin.Str.glued _ _ = _
  rw [StrLaws.glued_eq_join]
  induction ss with
  | nil => rfl
  | cons x r ih =>
    cases r with
    | nil => rfl
    | cons y r =>
      show (⟨x.toArray⟩ : Str) ++ ⟨s.toArray⟩ ++ Str.join _ _ = _
      rw [ih, str_app, str_app]
      rfl
theorem met_ok {W : Value → Option Addr → Hp → Prop} (hK : X.K = M.K) : ∀ m : Met, metDone m = true → MtR X (metId m) (rM M W (met m)) := by
  intro m hm pins s σ H x vs v us Q I rx rv ⟨ι, st, o, ds, rs, ro, rd, g⟩
  cases m with
  | append =>
    cases ro with
    | @ref n a e =>
      cases rd with
      | nil => simp only [met] at g; exact g.elim
      | @cons d w _ _ r t =>
        cases t with
        | cons r2 t => simp only [met] at g; exact g.elim
        | nil =>
          simp only [met] at g
          cases q : st[n]? with
          | none => rw [q] at g; exact g.elim
          | some c =>
            rw [q] at g
            cases c with
            | lst xs =>
              simp only at g
              obtain ⟨a', vs', e1, e2, hH, rl⟩ := lst_of rs q (.ref (K := M.K) (ga := M.ga) (H := H) e)
              cases e1
              split at g
              · rename_i hl
                refine mt_append (X := X) pins s σ H _ _ v us Q I rx rv ⟨a, vs', _, rfl, rfl, hH, by rw [← rl.length, ← SL_eq]; exact hl, ?_⟩
                have ex : Ext H (upd H a (.lst (vs' ++ [w]))) := .set (by rw [hH]; trivial)
                exact Good.okE (R := rD M) g ex (.refl _) (rs.write q e rfl rfl ⟨_, upd_same, (rl.append (.cons r .nil)).mono ex (.refl _)⟩) .non
              · exact g.elim
            | _ => exact g.elim
    | _ => simp only [met] at g; exact g.elim
  | extend =>
    cases ro with
    | @ref n a e =>
      cases rd with
      | nil => simp only [met] at g; exact g.elim
      | @cons d w _ _ r t =>
        cases t with
        | cons r2 t => cases r <;> (simp only [met] at g; exact g.elim)
        | nil =>
          cases r with
          | @ref m b eb =>
            simp only [met] at g
            cases q : st[n]? with
            | none => rw [q] at g; exact g.elim
            | some c =>
              rw [q] at g
              cases q2 : st[m]? with
              | none => rw [q2] at g; cases c <;> exact g.elim
              | some c2 =>
                rw [q2] at g
                cases c with
                | lst xs =>
                  cases c2 with
                  | lst ys =>
                    simp only at g
                    obtain ⟨a', vs', e1, e2, hH, rl⟩ := lst_of rs q (.ref (K := M.K) (ga := M.ga) (H := H) e)
                    obtain ⟨b', ws', f1, f2, hB, rl2⟩ := lst_of rs q2 (.ref (K := M.K) (ga := M.ga) (H := H) eb)
                    cases e1
                    cases f1
                    split at g
                    · rename_i hl
                      refine mt_extend (X := X) pins s σ H _ _ v us Q I rx rv ⟨a, b, vs', ws', rfl, rfl, hH, hB, by rw [← rl.length, ← rl2.length, ← SL_eq]; exact hl, ?_⟩
                      have ex : Ext H (upd H a (.lst (vs' ++ ws'))) := .set (by rw [hH]; trivial)
                      exact Good.okE (R := rD M) g ex (.refl _) (rs.write q e rfl rfl ⟨_, upd_same, (rl.append rl2).mono ex (.refl _)⟩) .non
                    · exact g.elim
                  | _ => exact g.elim
                | _ => exact g.elim
          | _ => simp only [met] at g; exact g.elim
    | _ => simp only [met] at g; exact g.elim
  | join =>
    cases ro with
    | str s0 =>
      cases rd with
      | nil => simp only [met] at g; exact g.elim
      | cons r t =>
        cases t with
        | cons r2 t => cases r <;> (simp only [met] at g; exact g.elim)
        | nil =>
          cases r with
          | @ref n a e =>
            simp only [met] at g
            cases q : itemsOf st (.ref n) with
            | none => rw [q] at g; exact g.elim
            | some its =>
              rw [q] at g
              simp only at g
              cases q2 : strsOf its with
              | none => rw [q2] at g; exact g.elim
              | some ss =>
                rw [q2] at g
                simp only at g
                split at g
                · rename_i hl
                  obtain ⟨a', vs', e1, _, hq, rl⟩ := itemsL_ok rs (.ref (K := M.K) (ga := M.ga) (H := H) e) q
                  cases e1
                  have ev := strs_ok rl q2
                  subst ev
                  refine mt_join (X := X) pins s σ H _ _ v us Q I rx rv ⟨⟨s0.toArray⟩, a, ss.map fun s => (⟨s.toArray⟩ : Str), rfl, rfl, .inl (by rw [hK]; exact hq), ?_, ?_⟩
                  · have e1 : (ss.map fun s => (⟨s.toArray⟩ : Str)).map (·.length) = ss.map (·.length) := by
                      rw [List.map_map]
                      exact List.map_congr_left fun x _ => str_len x
                    rw [e1, List.length_map, str_len]
                    exact hl
                  · rw [joinL_eq]
                    exact Good.ok (R := rD M) g rs (.str _)
                · exact g.elim
          | _ => simp only [met] at g; exact g.elim
    | _ => simp only [met] at g; exact g.elim
  | _ => cases hm
theorem metIs_ok (hK : X.K = M.K) {ι : List Addr} {H : Hp} {st : Store} {m : Met} {o : D} {v : V} (rs : RS M.K M.ga ι H st) (r : RD M.K M.ga ι H o v) (h : metIs m o st = true) : tyV X.K (metTy m) v H := by
  have lk : ∀ {n : Nat} {v : V}, RD M.K M.ga ι H (.ref n) v → (match st[n]? with | some (.lst _) => true | _ => false) = true → tyV X.K "list" v H := by
    intro n v r h
    cases r with
    | ref e =>
      split at h
      · rename_i xs q
        obtain ⟨vs, hH, _⟩ := rs.at_ _ _ _ q e
        exact .inl ⟨rfl, vs, .inl (.inl hH)⟩
      · cases h
  cases m with
  | append => cases o <;> first | cases h | exact lk r h
  | pop => cases o <;> first | cases h | exact lk r h
  | extend => cases o <;> first | cases h | exact lk r h
  | _ => cases r <;> first | exact rfl | cases h
theorem base_plain {o : Expr} {m : Str} {en : Env} {wh : PySem.Sem Value} (h : superB o = false) : attributeBase o m en wh = wh := by
  unfold attributeBase
  split
  · cases h
  · rfl
theorem star_all : ∀ {es : List Expr} {en : Env}, es.any starB = false → (backTo pos (starEach es en)).all (fun x => !x.1) = true
  | [], _, _ => rfl
  | e :: es, en, h => by
    rw [List.any_cons, Bool.or_eq_false_iff] at h
    rw [star_cons h.1]
    exact (star_all (es := es) (en := en) h.2 : (backTo pos (starEach es en)).all (fun x => !x.1) = true)
def metNm : Met → Str
  | .append => "append" | .join => "join" | .replace => "replace" | .startswith => "startswith" | .pop => "pop" | .extend => "extend"
theorem px_met (hK : X.K = M.K) {m : Met} {o : Expr} {io : E} {apos : Pos} (hm : metDone m = true) (ho : PE X o (tX M W (evE Γ io))) (ha : PA X (e :: es) (tXs M W (evEs Γ ies))) (hb : superB o = false) (hs : (e :: es).any starB = false) (hl : (e :: es).length < 20)
    (hline : (apos.endLine == pos.line) = true) : PE X (.Call (.Attribute o (metNm m) apos) (e :: es) [] pos) (tX M W (evE Γ (.met m io ies))) := by
  have hs' := hs
  rw [List.any_cons, Bool.or_eq_false_iff] at hs'
  refine ⟨fun pins s σ H Q I ⟨ι, st, env, rs, re, g⟩ => ?_⟩
  simp only [evE] at g
  have q : tBM X.K (metTy m) (rM M (wAt W σ) (met m)) (tX M W (evE Γ io)) (tXs M W (evEs Γ ies)) σ H Q := by
    refine tX_then rs re g fun x H1 ι1 st1 d _ e1 p1 rs1 re1 r1 g1 => ?_
    split at g1
    · rename_i hi
      refine ⟨metIs_ok hK rs1 r1 hi, ?_⟩
      refine tXs_then rs1 re1 g1 fun vs H2 ι2 st2 ds _ e2 p2 rs2 re2 r2 g2 => ?_
      exact ⟨ι2, st2, d, ds, rs2, r1.mono e2 p2, r2, g2⟩
    · exact g1.elim
  have hfew : ((backTo pos (starEach (e :: es) X.env)).all (fun x => !x.1) && (backToKw pos (keywordEach [] X.env)).all (fun x => x.1.isSome)
      && decide ((e :: es).length + ([] : List Keyword).length + (if ([] : List Keyword).isEmpty then 0 else 1) < 30)) = true := by
    rw [star_all hs, Bool.true_and, Bool.and_eq_true]
    refine ⟨rfl, decide_eq_true ?_⟩
    simp only [List.length_nil, List.isEmpty_nil, if_true]
    omega
  have ok := met_ok (X := X) (M := M) (W := wAt W σ) hK m hm
  cases m with
  | append => exact (pe_bm F.plainAttrs_list F.slot_list_append F.type_list_append ok ho ha (base_plain hb) hfew hline (star_cons hs'.1) (star_none hs'.2)).run pins s σ H Q I q
  | extend => exact (pe_bm F.plainAttrs_list F.slot_list_extend F.type_list_extend ok ho ha (base_plain hb) hfew hline (star_cons hs'.1) (star_none hs'.2)).run pins s σ H Q I q
  | join => exact (pe_bm F.plainAttrs_str F.slot_str_join F.type_str_join ok ho ha (base_plain hb) hfew hline (star_cons hs'.1) (star_none hs'.2)).run pins s σ H Q I q
  | _ => cases hm
theorem metOf_nm {x : Str} {m : Met} (h : metOf x = some m) : x = metNm m ∧ metDone m = true := by
  unfold metOf at h
  rcases ite_some h with ⟨rfl, rfl⟩ | h
  · exact ⟨rfl, rfl⟩
  rcases ite_some h with ⟨rfl, rfl⟩ | h
  · exact ⟨rfl, rfl⟩
  rcases ite_some h with ⟨rfl, rfl⟩ | h
  · exact ⟨rfl, rfl⟩
  cases h
end
end RX

namespace RX
open PySem PySem.Spec PyProof.Rows L2 PySem.W
section
variable {prog : Program} {w : World} {A : Around} {E : Value → Shared → Prop} {s : Shared} {z TI TO i1 i2 : Addr} {fp1 fp2 : List Addr} {n1 n2 i : Nat} {P1 P2 : Nat → Value → Prop} {St1 St2 : Nat → Heap → Prop} {a1 a2 : Value}
theorem zip_no_len : typeLookup (.type "zip") "__len__" = pure none := by rw [typeLookup_type, builtinLookup_eq_fast]; kernel_rfl
theorem zip_no_hint : typeLookup (.type "zip") "__length_hint__" = pure none := by rw [typeLookup_type, builtinLookup_eq_fast]; kernel_rfl
theorem draws_tuple (hh : A.handled = none) (it l : Addr) (hne : l ≠ it) (items : Array Value) :
    Draws prog w A it [it, l] items.size (fun i v => items[i]? = some v) (fun i h => h.IsTupleIter it l i ∧ h.IsTuple l items) where
  live := fun _ _ st => let ⟨o, ho, _⟩ := st.1; ⟨o, ho⟩
  frame := fun _ _ _ st hk => ⟨st.1.at fun o e => hk it (by simp) o e, by
    obtain ⟨o, e, r⟩ := st.2
    exact ⟨o, hk l (by simp) o e, r⟩⟩
  item := fun i s Q E hi st hQ => by
    refine RZ.nextOf_tuple_item st.1 st.2 (x := items[i]) (by simp [hi]) fun h' hit' hs' => ?_
    exact hQ _ h' s.toks (by simp [hi]) ⟨hit', st.2.extBut hs'.extBut hne⟩ hs'
  done := fun s Q E st hE => RZ.nextOf_tuple_end hh st.1 st.2 (by simp) hE
theorem zipD_held {T : Addr} {f : Bool} {oT : Obj} {Q : Value → Shared → Prop} (S : ZipSep2 z TI TO i1 i2 fp1 fp2) (D1 : Draws prog w A i1 fp1 n1 P1 St1) (D2 : Draws prog w A i2 fp2 n2 P2 St2)
    (hz : IsZipHeld s.heap z TI TO T f) (hT : s.heap.get? T = some oT) (hTI : IsTupOf2 s.heap TI (.ref i1) (.ref i2)) (st1 : St1 i s.heap) (st2 : St2 i s.heap) (hlt1 : i < n1) (hlt2 : i < n2)
    (hQ : ∀ x1 x2 h' tk, P1 i x1 → P2 i x2 → IsZipHeld h' z TI TO T true → St1 (i + 1) h' → St2 (i + 1) h' → IsTupOf2 h' s.heap.objs.size x1 x2 → h'.objs.size = s.heap.objs.size + 1 →
      (∀ c o, c ≠ z → c ≠ i1 → c ≠ i2 → s.heap.get? c = some o → h'.get? c = some o) → Q (.ref s.heap.objs.size) { s with heap := h', toks := tk }) :
    wpAny (model prog w) A (Builtin.«zip.__next__» ⟨[.ref z], []⟩) (fun fin s' => ∃ v, fin = .done (.ret v) ∧ Q v s') E s := by
  obtain ⟨hp, g, d, tk0, os⟩ := s
  show wpAny _ _ (field (.ref z) 2 >>= _) _ _ _
  refine wpAny_bind (wpAny_field hz rfl (x := .bool false) rfl ?_)
  show wpAny _ _ (field (.ref z) 3 >>= _) _ _ _
  refine wpAny_bind (wpAny_field hz rfl (x := .ref TI) rfl ?_)
  refine wpAny_bind (wpAny_seqItems hTI rfl ?_)
  show wpAny _ _ (Builtin.SmallTypes.ownedTupleIsFree (.ref z) >>= _) _ _ _
  refine wpAny_bind (wpAny_tupleHeld_zip hz hT fun g0 hz0 hs0 => ?_)
  replace hs0 : Heap.SameBut z hp g0 := hs0
  simp only [Bool.false_eq_true, if_false]
  refine wpAny_bind ?_
  rw [← Array.forIn_toList]
  simp only [List.forIn_cons, List.forIn_nil]
  refine wpAny_bind (wpAny_bind (wpAny_holding ?_))
  show wpAny _ _ (Builtin.SmallTypes.nextOf (.ref i1) >>= _) _ _ ⟨g0, g, d, tk0, os⟩
  refine wpAny_bind (D1.item i _ _ _ hlt1 (D1.over st1 hs0 S.zf1) fun x1 p1 tk1 hx1 sn1 hp1 => wpAny_pure ?_)
  replace hp1 : Heap.SameBut i1 g0 p1 := hp1
  refine wpAny_pure ?_
  refine wpAny_bind (wpAny_bind (wpAny_holding ?_))
  show wpAny _ _ (Builtin.SmallTypes.nextOf (.ref i2) >>= _) _ _ ⟨p1, g, d, tk1, os⟩
  refine wpAny_bind (D2.item i _ _ _ hlt2 (D2.over (D2.over st2 hs0 S.zf2) hp1 S.sep1_2) fun x2 p2 tk2 hx2 sn2 hp2 => wpAny_pure ?_)
  replace hp2 : Heap.SameBut i2 p1 p2 := hp2
  refine wpAny_pure (wpAny_pure ?_)
  show wpAny _ _ (newTuple [x1, x2] >>= _) _ _ ⟨p2, g, d, tk2, os⟩
  refine wpAny_bind (wpAny_newTuple ?_)
  have hsz : p2.objs.size = hp.objs.size := by rw [hp2.1, hp1.1, hs0.1]
  have hz3 : IsZipHeld p2 z TI TO T true := hp2.extBut _ _ S.zi2 (hp1.extBut _ _ S.zi1 hz0)
  have hk : ∀ c o, c ≠ z → c ≠ i1 → c ≠ i2 → hp.get? c = some o → p2.get? c = some o := fun c o c1 c2 c3 e => hp2.extBut _ _ c3 (hp1.extBut _ _ c2 (hs0.extBut _ _ c1 e))
  have hj1 : St1 (i + 1) p2 := D1.over sn1 hp2 S.sep2_1
  refine wpAny_pure ⟨_, rfl, ?_⟩
  have hp' : IsTupOf2 (p2.push { cls := .type "tuple", data := .seq #[x1, x2] }) p2.objs.size x1 x2 := Heap.get?_push_size _ rfl
  have hz4 : (p2.push { cls := .type "tuple", data := .seq #[x1, x2] }).objs.size = p2.objs.size + 1 := Heap.size_push ..
  show Q (.ref p2.objs.size) ⟨p2.push { cls := .type "tuple", data := .seq #[x1, x2] }, g, d, tk2, os⟩
  rw [hsz] at hp' hz4 ⊢
  exact hQ x1 x2 _ tk2 hx1 hx2 (Heap.get?_push_of_some _ hz3) (D1.frame _ _ _ hj1 fun b _ o e => Heap.get?_push_of_some _ e) (D2.frame _ _ _ sn2 fun b _ o e => Heap.get?_push_of_some _ e) hp' hz4 fun c o c1 c2 c3 e => Heap.get?_push_of_some _ (hk c o c1 c2 c3 e)
theorem zipD_held_end {T : Addr} {f : Bool} {oT : Obj} {Q : Fin → Shared → Prop} (S : ZipSep2 z TI TO i1 i2 fp1 fp2) (D1 : Draws prog w A i1 fp1 n1 P1 St1) (D2 : Draws prog w A i2 fp2 n2 P2 St2)
    (hz : IsZipHeld s.heap z TI TO T f) (hT : s.heap.get? T = some oT) (hTI : IsTupOf2 s.heap TI (.ref i1) (.ref i2)) (st1 : St1 i s.heap) (st2 : St2 i s.heap) (hle1 : i ≤ n1) (hle2 : i ≤ n2) (hend : i = n1 ∨ i = n2)
    (hE : ∀ h' tk e, (∀ c o, c ≠ z → c ≠ TO → c ≠ i1 → c ≠ i2 → s.heap.get? c = some o → h'.get? c = some o) → (∃ o, h'.get? e = some o ∧ o.cls = .type "StopIteration") → E (.ref e) { s with heap := h', toks := tk }) :
    wpAny (model prog w) A (Builtin.«zip.__next__» ⟨[.ref z], []⟩) Q E s := by
  obtain ⟨hp, g, d, tk0, os⟩ := s
  show wpAny _ _ (field (.ref z) 2 >>= _) _ _ _
  refine wpAny_bind (wpAny_field hz rfl (x := .bool false) rfl ?_)
  show wpAny _ _ (field (.ref z) 3 >>= _) _ _ _
  refine wpAny_bind (wpAny_field hz rfl (x := .ref TI) rfl ?_)
  refine wpAny_bind (wpAny_seqItems hTI rfl ?_)
  show wpAny _ _ (Builtin.SmallTypes.ownedTupleIsFree (.ref z) >>= _) _ _ _
  refine wpAny_bind (wpAny_tupleHeld_zip hz hT fun g0 hz0 hs0 => ?_)
  replace hs0 : Heap.SameBut z hp g0 := hs0
  simp only [Bool.false_eq_true, if_false]
  refine wpAny_bind ?_
  rw [← Array.forIn_toList]
  simp only [List.forIn_cons, List.forIn_nil]
  refine wpAny_bind (wpAny_bind (wpAny_holding ?_))
  show wpAny _ _ (Builtin.SmallTypes.nextOf (.ref i1) >>= _) _ _ ⟨g0, g, d, tk0, os⟩
  by_cases hlt1 : i < n1
  · refine wpAny_bind (D1.item i _ _ _ hlt1 (D1.over st1 hs0 S.zf1) fun x1 p1 tk1 hx1 sn1 hp1 => wpAny_pure ?_)
    replace hp1 : Heap.SameBut i1 g0 p1 := hp1
    refine wpAny_pure ?_
    have hi2 : i = n2 := by omega
    refine wpAny_bind (wpAny_bind (wpAny_holding ?_))
    show wpAny _ _ (Builtin.SmallTypes.nextOf (.ref i2) >>= _) _ _ ⟨p1, g, d, tk1, os⟩
    refine wpAny_bind (D2.done ⟨p1, g, d, tk1, os⟩ _ _ (by rw [← hi2]; exact D2.over (D2.over st2 hs0 S.zf2) hp1 S.sep1_2) fun q e hq he => ?_)
    replace hq : Heap.ExtBut i2 p1 q := hq
    exact hE q tk1 e (fun c o cz cT c1 c2 x => hq _ _ c2 (hp1.extBut _ _ c1 (hs0.extBut _ _ cz x))) he
  · have hi1 : i = n1 := by omega
    refine wpAny_bind (D1.done ⟨g0, g, d, tk0, os⟩ _ _ (by rw [← hi1]; exact D1.over st1 hs0 S.zf1) fun q e hq he => ?_)
    replace hq : Heap.ExtBut i1 g0 q := hq
    exact hE q tk0 e (fun c o cz cT c1 c2 x => hq _ _ c1 (hs0.extBut _ _ cz x)) he
def ZipSt (h : Heap) (z TI TO : Addr) (as : List Addr) : Prop :=
  (as = [] ∧ IsZip h z TI TO .none ∧ ∃ a b, IsTupOf2 h TO a b) ∨ ∃ T f oT, T ∈ as ∧ IsZipHeld h z TI TO T f ∧ h.get? T = some oT
theorem next_item {as : List Addr} {Q : Option Value → Shared → Prop} (S : ZipSep2 z TI TO i1 i2 fp1 fp2) (D1 : Draws prog w A.in1 i1 fp1 n1 P1 St1) (D2 : Draws prog w A.in1 i2 fp2 n2 P2 St2)
    (hz : ZipSt s.heap z TI TO as) (hTI : IsTupOf2 s.heap TI (.ref i1) (.ref i2)) (st1 : St1 i s.heap) (st2 : St2 i s.heap) (hlt1 : i < n1) (hlt2 : i < n2) (hlow : ∀ a ∈ as, a ≠ z ∧ a ≠ TO ∧ a ≠ i1 ∧ a ≠ i2)
    (hQ : ∀ x1 x2 h' tk, P1 i x1 → P2 i x2 → ZipSt h' z TI TO (as ++ [s.heap.objs.size]) → St1 (i + 1) h' → St2 (i + 1) h' → IsTupOf2 h' s.heap.objs.size x1 x2 → h'.objs.size = s.heap.objs.size + 1 →
      (∀ c o, c ≠ z → c ≠ TO → c ≠ i1 → c ≠ i2 → s.heap.get? c = some o → h'.get? c = some o) → Q (some (.ref s.heap.objs.size)) { s with heap := h', toks := tk }) :
    wpAny (model prog w) A (pyNext (.ref z)) Q E s := by
  rcases hz with ⟨rfl, hz, a, b, hTO⟩ | ⟨T, f, oT, hm, hz, hT⟩
  · refine wpAny_pyNext_zipD2_item S D1 D2 hz hTI hTO st1 st2 hlt1 hlt2 fun x1 x2 h' tk p1 p2 z1 z2 s1 s2 t1 sz k => ?_
    exact hQ x1 x2 h' tk p1 p2 (.inr ⟨_, false, _, by simp, z1, t1⟩) s1 s2 t1 sz k
  · have hTy : s.TypeIs (.ref z) "zip" := ⟨_, hz, rfl⟩
    obtain ⟨l1, l2, l3, l4⟩ := hlow T hm
    unfold pyNext
    exact wpAny_bind (wpAny_attempt (wpAny_callSpecial?_slot (name := Str.ofString "__next__") hTy F.slot_zip_next
      (wpAny_call_entry F.slot_zip_next hTy F.entry_zip_next
        (zipD_held S D1 D2 hz hT hTI st1 st2 hlt1 hlt2 fun x1 x2 h' tk p1 p2 z1 s1 s2 t1 sz k => wpAny_pure
          (hQ x1 x2 h' tk p1 p2 (.inr ⟨T, true, oT, List.mem_append_left _ hm, z1, k T _ l1 l3 l4 hT⟩) s1 s2 t1 sz fun c o c1 c2 c3 c4 e => k c o c1 c3 c4 e)) (F.args_zip_next_1 _))))
theorem next_end {as : List Addr} {Q : Option Value → Shared → Prop} (S : ZipSep2 z TI TO i1 i2 fp1 fp2) (D1 : Draws prog w A.in1 i1 fp1 n1 P1 St1) (D2 : Draws prog w A.in1 i2 fp2 n2 P2 St2)
    (hz : ZipSt s.heap z TI TO as) (hTI : IsTupOf2 s.heap TI (.ref i1) (.ref i2)) (st1 : St1 i s.heap) (st2 : St2 i s.heap) (hle1 : i ≤ n1) (hle2 : i ≤ n2) (hend : i = n1 ∨ i = n2)
    (hQ : ∀ h' tk, (∀ c o, c ≠ z → c ≠ TO → c ≠ i1 → c ≠ i2 → s.heap.get? c = some o → h'.get? c = some o) → Q none { s with heap := h', toks := tk }) : wpAny (model prog w) A (pyNext (.ref z)) Q E s := by
  rcases hz with ⟨rfl, hz, a, b, hTO⟩ | ⟨T, f, oT, hm, hz, hT⟩
  · exact wpAny_pyNext_zipD2_end S D1 D2 hz hTI hTO st1 st2 hle1 hle2 hend hQ
  · have hTy : s.TypeIs (.ref z) "zip" := ⟨_, hz, rfl⟩
    unfold pyNext
    refine wpAny_bind (wpAny_attempt (wpAny_callSpecial?_slot (name := Str.ofString "__next__") hTy F.slot_zip_next
      (wpAny_call_entry F.slot_zip_next hTy F.entry_zip_next (zipD_held_end S D1 D2 hz hT hTI st1 st2 hle1 hle2 hend fun h' tk e hk he => ?_) (F.args_zip_next_1 _))))
    obtain ⟨o, ho, hc⟩ := he
    refine wpAny_bind (wpAny_isInstance (T := "StopIteration") (b := true) ⟨o, ho, hc⟩ isSubtype_stop ?_)
    exact wpAny_pure (hQ _ _ hk)
structure PairsAt (P1 P2 : Nat → Value → Prop) (N : Nat) (h : Heap) (as : List Addr) : Prop where
  nd : as.Nodup
  all : ∀ j a, as[j]? = some a → N ≤ a ∧ a < h.objs.size ∧ ∃ x y, P1 j x ∧ P2 j y ∧ IsTupOf2 h a x y
end
section
variable {prog : Program} {w : World} {A : Around} {E : Value → Shared → Prop} {z TI TO i1 i2 S : Addr} {fp1 fp2 : List Addr} {n1 n2 N : Nat} {P1 P2 : Nat → Value → Prop} {St1 St2 : Nat → Heap → Prop}
structure ZL (z TI TO i1 i2 S : Addr) (fp1 fp2 : List Addr) (N : Nat) : Prop where
  sep : ZipSep2 z TI TO i1 i2 fp1 fp2
  lz : z < N
  lTI : TI < N
  lTO : TO < N
  lS : S < N
  l1 : ∀ b ∈ fp1, b < N
  l2 : ∀ b ∈ fp2, b < N
  Sz : S ≠ z
  STI : S ≠ TI
  STO : S ≠ TO
  S1 : S ∉ fp1
  S2 : S ∉ fp2
def ListOf (h : Heap) (S : Addr) (as : List Addr) (c : Nat) : Prop := h.get? S = some { cls := .type "list", dict := none, data := .seq (as.map Value.ref).toArray c, slots := #[] }
theorem zip_loop {R : Result → Shared → Prop} (Z : ZL z TI TO i1 i2 S fp1 fp2 N) (D1 : Draws prog w A.in1.in1 i1 fp1 n1 P1 St1) (D2 : Draws prog w A.in1.in1 i2 fp2 n2 P2 St2) (hn : min n1 n2 ≤ sizeLine) (res : Value) :
    ∀ (k i : Nat) (s : Shared) (as : List Addr) (c : Nat), min n1 n2 - i = k → i ≤ min n1 n2 → N ≤ s.heap.objs.size → St1 i s.heap → St2 i s.heap → IsTupOf2 s.heap TI (.ref i1) (.ref i2) → ZipSt s.heap z TI TO as →
      ListOf s.heap S as c → as.length = i → PairsAt P1 P2 N s.heap as →
      (∀ h' tk as' c', ListOf h' S as' c' → as'.length = min n1 n2 → PairsAt P1 P2 N h' as' → (∀ b o, b ≠ z → b ≠ TO → b ≠ i1 → b ≠ i2 → b ≠ S → s.heap.get? b = some o → h'.get? b = some o) → R (.ok (.ret res)) { s with heap := h', toks := tk }) →
      codeAny (model prog w) A (.builtin "list.extend.loop" ⟨[.ref S, .ref z, res], []⟩) R s := by
  intro k
  have hi1 : i1 < N := Z.l1 _ Z.sep.mem1
  have hi2 : i2 < N := Z.l2 _ Z.sep.mem2
  induction k with
  | zero =>
    intro i s as c hk hi hN st1 st2 hTI hz hS hl hp hR
    refine codeAny_builtin F.entry_extend_loop ?_
    rw [Around.under_plainId F.plain_extend_loop _]
    show wpAny _ A.in1 (pyNext (.ref z) >>= _) _ _ s
    refine wpAny_bind (next_end Z.sep D1 D2 hz hTI st1 st2 (by omega) (by omega) (by omega) fun h' tk hk' => ?_)
    refine wpAny_pure (hR h' tk as c (hk' S _ Z.Sz Z.STO (fun q => Z.S1 (q ▸ Z.sep.mem1)) (fun q => Z.S2 (q ▸ Z.sep.mem2)) hS) (by omega) ⟨hp.nd, fun j a ha => ?_⟩ fun b o b1 b2 b3 b4 _ e => hk' b o b1 b2 b3 b4 e)
    obtain ⟨q1, q2, x, y, q3, q4, q5⟩ := hp.all j a ha
    have q6 := hk' a _ (Nat.ne_of_gt (Nat.lt_of_lt_of_le Z.lz q1)) (Nat.ne_of_gt (Nat.lt_of_lt_of_le Z.lTO q1)) (Nat.ne_of_gt (Nat.lt_of_lt_of_le hi1 q1)) (Nat.ne_of_gt (Nat.lt_of_lt_of_le hi2 q1)) q5
    exact ⟨q1, Heap.lt_size q6, x, y, q3, q4, q6⟩
  | succ k ih =>
    intro i s as c hk hi hN st1 st2 hTI hz hS hl hp hR
    refine codeAny_builtin F.entry_extend_loop ?_
    rw [Around.under_plainId F.plain_extend_loop _]
    show wpAny _ A.in1 (pyNext (.ref z) >>= _) _ _ s
    have low : ∀ a ∈ as, N ≤ a := fun a ha => by
      obtain ⟨j, hj, rfl⟩ := List.getElem_of_mem ha
      exact (hp.all j _ (List.getElem?_eq_getElem hj)).1
    refine wpAny_bind (next_item Z.sep D1 D2 hz hTI st1 st2 (by omega) (by omega) (fun a ha => ?_) fun x1 x2 h' tk p1 p2 hz' st1' st2' hT hsz hk' => ?_)
    · have := low a ha
      exact ⟨Nat.ne_of_gt (Nat.lt_of_lt_of_le Z.lz this), Nat.ne_of_gt (Nat.lt_of_lt_of_le Z.lTO this), Nat.ne_of_gt (Nat.lt_of_lt_of_le hi1 this), Nat.ne_of_gt (Nat.lt_of_lt_of_le hi2 this)⟩
    have hS' : ListOf h' S as c := hk' S _ Z.Sz Z.STO (fun q => Z.S1 (q ▸ Z.sep.mem1)) (fun q => Z.S2 (q ▸ Z.sep.mem2)) hS
    have hTI' : IsTupOf2 h' TI (.ref i1) (.ref i2) := hk' TI _ Z.sep.TIz Z.sep.TITO Z.sep.TIi1 Z.sep.TIi2 hTI
    have hSn : S ≠ s.heap.objs.size := Nat.ne_of_lt (Nat.lt_of_lt_of_le Z.lS hN)
    have hal : as.length ≤ sizeLine := by omega
    show wpAny _ A.in1 (updateSeq S (·.push (Value.ref s.heap.objs.size)) >>= _) _ _ _
    refine wpAny_bind ?_
    refine wpAny_updateSeq hS' rfl (wpAny_pure ⟨plainId_quiet F.plain_extend_loop _, ?_⟩) (by simp; omega) (by simp; omega)
    have oth : ∀ b o, b ≠ S → h'.get? b = some o → (h'.update S (Obj.mapSeq (·.push (Value.ref s.heap.objs.size)))).get? b = some o := fun b o hb e => (Heap.get?_update_other _ _ (Ne.symm hb)).trans e
    obtain ⟨c', hS2⟩ : ∃ c', ListOf (h'.update S (Obj.mapSeq (·.push (Value.ref s.heap.objs.size)))) S (as ++ [s.heap.objs.size]) c' := by
      have q := Heap.get?_update_self (Obj.mapSeq (·.push (Value.ref s.heap.objs.size))) hS' rfl
      have e : ((as.map Value.ref).toArray.push (Value.ref s.heap.objs.size)) = ((as ++ [s.heap.objs.size]).map Value.ref).toArray := by simp
      refine ⟨if ((as.map Value.ref).toArray.push (Value.ref s.heap.objs.size)).size == (as.map Value.ref).toArray.size then c else c + 1, ?_⟩
      unfold ListOf
      rw [← e]
      exact q
    have hsz2 : (h'.update S (Obj.mapSeq (·.push (Value.ref s.heap.objs.size)))).objs.size = s.heap.objs.size + 1 := by rw [Heap.size_update]; exact hsz
    refine ih (i + 1) _ (as ++ [s.heap.objs.size]) c' (by omega) (by omega) (by show N ≤ (h'.update S _).objs.size; rw [hsz2]; omega)
      (D1.frame _ _ _ st1' fun b hb o e => oth b o (fun q => Z.S1 (q ▸ hb)) e) (D2.frame _ _ _ st2' fun b hb o e => oth b o (fun q => Z.S2 (q ▸ hb)) e) (oth TI _ (Ne.symm Z.STI) hTI') ?_ hS2 (by simp [hl]) ⟨?_, fun j a ha => ?_⟩ fun h2 tk2 as2 c2 q1 q2 q3 q4 => hR h2 tk2 as2 c2 q1 q2 q3 fun b o b1 b2 b3 b4 b5 e => q4 b o b1 b2 b3 b4 b5 (oth b o b5 (hk' b o b1 b2 b3 b4 e))
    · rcases hz' with ⟨q, _⟩ | ⟨T, f, oT, q1, q2, q3⟩
      · simp at q
      · refine .inr ⟨T, f, oT, q1, oth z _ (Ne.symm Z.Sz) q2, oth T _ (fun q => ?_) q3⟩
        have lS := Z.lS
        rcases List.mem_append.mp q1 with h | h
        · have := low T h
          rw [q] at this
          exact absurd lS (Nat.not_lt.mpr this)
        · have : T = s.heap.objs.size := by simpa using h
          exact hSn (q ▸ this)
    · refine List.nodup_append.mpr ⟨hp.nd, by simp, fun a ha b hb => ?_⟩
      obtain ⟨j, hj, rfl⟩ := List.getElem_of_mem ha
      have := (hp.all j _ (List.getElem?_eq_getElem hj)).2.1
      have hb : b = s.heap.objs.size := by simpa using hb
      rw [hb]
      exact Nat.ne_of_lt this
    · rcases get_snoc ha with ⟨hj, ha⟩ | ⟨hj, ha⟩
      · obtain ⟨q1, q2, x, y, q3, q4, q5⟩ := hp.all j a ha
        have q6 := hk' a _ (Nat.ne_of_gt (Nat.lt_of_lt_of_le Z.lz q1)) (Nat.ne_of_gt (Nat.lt_of_lt_of_le Z.lTO q1)) (Nat.ne_of_gt (Nat.lt_of_lt_of_le hi1 q1)) (Nat.ne_of_gt (Nat.lt_of_lt_of_le hi2 q1)) q5
        have q7 := oth a _ (Nat.ne_of_gt (Nat.lt_of_lt_of_le Z.lS q1)) q6
        exact ⟨q1, Heap.lt_size q7, x, y, q3, q4, q7⟩
      · subst ha; subst hj
        have q7 := oth s.heap.objs.size _ (Ne.symm hSn) hT
        exact ⟨hN, Heap.lt_size q7, x1, x2, by rw [hl]; exact p1, by rw [hl]; exact p2, q7⟩
theorem zip_extend {s : Shared} {R : Result → Shared → Prop} (Z : ZL z TI TO i1 i2 S fp1 fp2 N) (D1 : Draws prog w A.in1.in1 i1 fp1 n1 P1 St1) (D2 : Draws prog w A.in1.in1 i2 fp2 n2 P2 St2) (hn : min n1 n2 ≤ sizeLine) (res : Value) {c₀ : Nat}
    (hN : N ≤ s.heap.objs.size) (st1 : St1 0 s.heap) (st2 : St2 0 s.heap) (hTI : IsTupOf2 s.heap TI (.ref i1) (.ref i2)) (hz : IsZip s.heap z TI TO .none) (hTO : ∃ a b, IsTupOf2 s.heap TO a b) (hS : s.heap.get? S = some { cls := .type "list", data := .seq #[] c₀ })
    (hR : ∀ h' tk as' c', ListOf h' S as' c' → as'.length = min n1 n2 → PairsAt P1 P2 N h' as' → (∀ b o, b ≠ z → b ≠ TO → b ≠ i1 → b ≠ i2 → b ≠ S → s.heap.get? b = some o → h'.get? b = some o) → R (.ok (.ret res)) { s with heap := h', toks := tk }) :
    wpAny (model prog w) A.in1 (Builtin.List.listExtendWith (.ref S) (.ref z) res)
      (fun fin s' => match fin with | .done f => R (.ok f) s' | .again c' => c'.quiet = true ∧ codeAny (model prog w) A c' R s') (fun e s' => R (.error e) s') s := by
  have hT : s.TypeIs (.ref z) "zip" := ⟨_, hz, rfl⟩
  unfold Builtin.List.listExtendWith
  refine wpAny_bind (wpAny_typeOf hT ?_)
  have h1 : Builtin.List.listSameRef (.ref S) (.ref z) = false := by simp [Builtin.List.listSameRef, Z.Sz]
  have h2 : (Value.type "zip" == Value.type "list") = false := by decide
  have h3 : (Value.type "zip" == Value.type "tuple") = false := by decide
  simp only [h1, h2, h3, Bool.or_false, Bool.false_eq_true, if_false]
  refine wpAny_bind (wpAny_pyIter_zip hz ?_)
  refine wpAny_bind (wpAny_holding ?_)
  unfold Builtin.List.listLengthHint
  refine wpAny_bind (wpAny_specialOf hT zip_no_len ?_)
  show wpAny _ A.in1 (specialOf (Value.ref z) (Str.ofString "__length_hint__") >>= _) _ _ _
  refine wpAny_bind (wpAny_specialOf hT zip_no_hint ?_)
  refine wpAny_pure ?_
  show wpAny _ A.in1 (rule "list.extend.makes-room" >>= fun _ => Builtin.List.listTouch (.ref S) >>= fun _ =>
    again (.builtin "list.extend.loop" ⟨[.ref S, .ref z, res], []⟩)) _ _ _
  refine wpAny_bind (wpAny_rule ?_)
  refine wpAny_bind ?_
  show wpAny _ A.in1 (updateSeq S (·.push .none) >>= fun _ => updateSeq S (·.pop)) _ _ _
  refine wpAny_bind (wpAny_updateSeq hS rfl ?_)
  have hS₂ := Heap.get?_update_self (Obj.mapSeq (·.push Value.none)) hS rfl
  refine wpAny_updateSeq (hz := by seq_fits) hS₂ rfl ?_
  have hS₃ := Heap.get?_update_self (Obj.mapSeq (·.pop)) hS₂ rfl
  have oth : ∀ b o, b ≠ S → s.heap.get? b = some o → ((s.heap.update S (Obj.mapSeq (·.push Value.none))).update S (Obj.mapSeq (·.pop))).get? b = some o :=
    fun b o hb e => (Heap.get?_update_other _ _ (Ne.symm hb)).trans ((Heap.get?_update_other _ _ (Ne.symm hb)).trans e)
  obtain ⟨a, b, hTO⟩ := hTO
  refine wpAny_pure ⟨plainId_quiet F.plain_extend_loop _, zip_loop Z D1 D2 hn res (min n1 n2) 0 _ [] _ rfl (Nat.zero_le _)
    (by show N ≤ ((s.heap.update S _).update S _).objs.size; rw [Heap.size_update, Heap.size_update]; exact hN)
    (D1.frame _ _ _ st1 fun b hb o e => oth b o (fun q => Z.S1 (q ▸ hb)) e) (D2.frame _ _ _ st2 fun b hb o e => oth b o (fun q => Z.S2 (q ▸ hb)) e) (oth _ _ (Ne.symm Z.STI) hTI) (.inl ⟨rfl, oth _ _ (Ne.symm Z.Sz) hz, a, b, oth _ _ (Ne.symm Z.STO) hTO⟩) hS₃ rfl ⟨List.nodup_nil, fun j a h => by simp at h⟩
    fun h' tk as' c' q1 q2 q3 q4 => hR h' tk as' c' q1 q2 q3 fun b o b1 b2 b3 b4 b5 e => q4 b o b1 b2 b3 b4 b5 (oth b o b5 e)⟩
theorem call_list_zip {s : Shared} {Q : Value → Shared → Prop} (Z : ZL z TI TO i1 i2 s.heap.objs.size fp1 fp2 (s.heap.objs.size + 1)) (D1 : Draws prog w A.in1.in1.in1 i1 fp1 n1 P1 St1) (D2 : Draws prog w A.in1.in1.in1 i2 fp2 n2 P2 St2) (hn : min n1 n2 ≤ sizeLine)
    (st1 : St1 0 s.heap) (st2 : St2 0 s.heap) (hTI : IsTupOf2 s.heap TI (.ref i1) (.ref i2)) (hz : IsZip s.heap z TI TO .none) (hTO : ∃ a b, IsTupOf2 s.heap TO a b)
    (hQ : ∀ h' tk as c, ListOf h' s.heap.objs.size as c → as.length = min n1 n2 → PairsAt P1 P2 (s.heap.objs.size + 1) h' as → (∀ b o, b ≠ z → b ≠ TO → b ≠ i1 → b ≠ i2 → s.heap.get? b = some o → h'.get? b = some o) → Q (.ref s.heap.objs.size) { s with heap := h', toks := tk }) :
    wpAny (model prog w) A (call (.type "list") [.ref z]) Q E s := by
  refine callType_codes (Q₁ := fun obj s₁ => obj = .ref s.heap.objs.size ∧ s₁ = { s with heap := s.heap.push { cls := .type "list", data := .seq #[] } }) F.called_list (F.typeCall_list_1 _) F.entry_list_init
    (code_list_new _ ⟨rfl, rfl⟩) fun obj s₁ h₁ => ?_
  obtain ⟨rfl, rfl⟩ := h₁
  have hS : (s.heap.push { cls := .type "list", data := .seq #[] }).get? s.heap.objs.size = some { cls := .type "list", data := .seq #[] } := Heap.get?_push_size _ rfl
  refine ⟨⟨_, hS, rfl⟩, F.args_list_init_2 _ _, ?_⟩
  have up : ∀ b o, s.heap.get? b = some o → (s.heap.push { cls := .type "list", data := .seq #[] }).get? b = some o := fun b o e => Heap.get?_push_of_some _ e
  show wpAny _ A.in1.in1 (do let old ← Builtin.List.listItems (.ref s.heap.objs.size); Builtin.List.listUpdate (.ref s.heap.objs.size) (fun _ => #[]); letGo old.toList.reverse; Builtin.List.listExtendWith (.ref s.heap.objs.size) (.ref z) .none) _ _ _
  refine wpAny_bind ?_
  unfold Builtin.List.listItems
  refine wpAny_bind (wpAny_seqItems hS rfl (wpAny_pure ?_))
  show wpAny _ A.in1.in1 (updateSeq s.heap.objs.size (fun _ => #[]) >>= fun _ => letGo (#[] : Array Value).toList.reverse >>= fun _ => Builtin.List.listExtendWith (.ref s.heap.objs.size) (.ref z) .none) _ _ _
  refine wpAny_bind (wpAny_updateSeq hS rfl ?_)
  have hS₂ := Heap.get?_update_self (Obj.mapSeq (fun _ => (#[] : Array Value))) hS rfl
  have oth : ∀ b o, s.heap.get? b = some o → ((s.heap.push { cls := .type "list", data := .seq #[] }).update s.heap.objs.size (Obj.mapSeq (fun _ => (#[] : Array Value)))).get? b = some o :=
    fun b o e => (Heap.get?_update_other _ _ (Nat.ne_of_gt (Heap.lt_size e))).trans (up b o e)
  refine wpAny_bind (wpAny_letGo ?_)
  obtain ⟨a, b, hTO⟩ := hTO
  refine zip_extend Z D1 D2 hn .none (by show _ ≤ ((s.heap.push _).update _ _).objs.size; rw [Heap.size_update, Heap.size_push]; exact Nat.le_refl _) (D1.frame _ _ _ st1 fun b _ o e => oth b o e) (D2.frame _ _ _ st2 fun b _ o e => oth b o e) (oth _ _ hTI) (oth _ _ hz) ⟨a, b, oth _ _ hTO⟩ hS₂ fun h' tk as c q1 q2 q3 q4 => ?_
  exact ⟨rfl, hQ h' tk as c q1 q2 q3 fun b o b1 b2 b3 b4 e => q4 b o b1 b2 b3 b4 (Nat.ne_of_lt (Heap.lt_size e)) (oth b o e)⟩
end
def putP : Hp → List Addr → List (V × V) → Hp
  | H, a :: as, p :: ps => putP (upd H a (.tup [p.1, p.2])) as ps
  | H, _, _ => H
theorem putP_off {b : Addr} : ∀ (as : List Addr) (ps : List (V × V)) (H : Hp), b ∉ as → putP H as ps b = H b
  | [], _, _, _ => rfl
  | _ :: _, [], _, _ => rfl
  | a :: as, p :: ps, H, h => by
    show putP (upd H a (.tup [p.1, p.2])) as ps b = H b
    rw [putP_off as ps _ (fun z => h (List.mem_cons_of_mem _ z)), upd_ne (fun z => h (by rw [z]; exact List.mem_cons_self))]
theorem putP_at : ∀ (as : List Addr) (ps : List (V × V)) (H : Hp), as.length = ps.length → as.Nodup → ∀ (j : Nat) (a : Addr), as[j]? = some a → ∃ p, ps[j]? = some p ∧ putP H as ps a = some (.tup [p.1, p.2])
  | [], _, _, _, _, j, a, h => by simp at h
  | _ :: _, [], _, h, _, _, _, _ => by cases h
  | a :: as, p :: ps, H, h, hn, j, b, hb => by
    have hn' := List.nodup_cons.mp hn
    cases j with
    | zero =>
      have e : a = b := by simpa using hb
      subst e
      refine ⟨p, rfl, ?_⟩
      show putP (upd H a (.tup [p.1, p.2])) as ps a = _
      rw [putP_off as ps _ hn'.1, upd_same]
    | succ j =>
      obtain ⟨q, h1, h2⟩ := putP_at as ps (upd H a (.tup [p.1, p.2])) (Nat.succ.inj h) hn'.2 j b (by simpa using hb)
      exact ⟨q, by simpa using h1, h2⟩
def rLzip (K : PySem.W.Frag) : List V → Hp → VK → Prop := fun vs H Q => ∃ (a b : Addr) (xs ys : List V), vs = [.ref a, .ref b] ∧ ((SqL K H a xs ∧ SqL K H b ys) ∨ (SqT K H a xs ∧ SqT K H b ys)) ∧
  ∀ (H' : Hp) (p : Addr) (ts : List Addr), (∀ c o, H c = some o → H' c = some o) → H p = none → p ∉ ts → H' p = some (.lst (ts.map V.ref)) → ts.length = min xs.length ys.length →
    (∀ (j : Nat) (t : Addr), ts[j]? = some t → ∃ x y, xs[j]? = some x ∧ ys[j]? = some y ∧ H' t = some (.tup [x, y])) → Q (.ref p) H'
theorem vals_refs : ∀ as : List Addr, Vals (as.map V.ref) (as.map Value.ref)
  | [] => .nil
  | _ :: as => .cons rfl (vals_refs as)
section
variable {X : Cx}
theorem lzip_laid {pins : List (Addr × Obj)} {σ : L2.St} {H : Hp} {s : Shared} {h' : Heap} {tk c : Nat} {xs ys : List V} {us1 us2 : List Value} {as : List Addr} {S N : Nat} (I : Inv X pins σ H s) (r1 : Vals xs us1) (r2 : Vals ys us2) (hl1 : xs.length ≤ sizeLine)
    (hk : ∀ b o, s.heap.get? b = some o → h'.get? b = some o) (hSz : s.heap.objs.size ≤ S) (hSN : S < N) (hS : ListOf h' S as c) (hl : as.length = min us1.length us2.length) (hP : PairsAt (fun j v => us1.toArray[j]? = some v) (fun j v => us2.toArray[j]? = some v) N h' as) :
    ∃ H' : Hp, (∀ b o, H b = some o → H' b = some o) ∧ H S = none ∧ S ∉ as ∧ H' S = some (.lst (as.map V.ref)) ∧ (∀ (j : Nat) (t : Addr), as[j]? = some t → ∃ x y, xs[j]? = some x ∧ ys[j]? = some y ∧ H' t = some (.tup [x, y])) ∧ Inv X pins σ H' { s with heap := h', toks := tk } := by
  have e1 : xs.length = us1.length := Paired.length r1
  have e2 : ys.length = us2.length := Paired.length r2
  have lowA : ∀ a ∈ as, N ≤ a := fun a ha => by
    obtain ⟨j, hj, rfl⟩ := List.getElem_of_mem ha
    exact (hP.all j _ (List.getElem?_eq_getElem hj)).1
  have hSn : S ∉ as := fun z => Nat.lt_irrefl _ (Nat.lt_of_lt_of_le hSN (lowA S z))
  have newA : ∀ t ∈ as, H t = none := fun t ht => I.hok.fresh (Nat.le_trans hSz (Nat.le_trans (Nat.le_of_lt hSN) (lowA t ht)))
  have newS : H S = none := I.hok.fresh hSz
  have hlen : as.length = (xs.zip ys).length := by rw [List.length_zip, hl, e1, e2]
  have atP := putP_at as (xs.zip ys) (upd H S (.lst (as.map V.ref))) hlen hP.nd
  have off : ∀ b, b ∉ as → b ≠ S → putP (upd H S (.lst (as.map V.ref))) as (xs.zip ys) b = H b := fun b h1 h2 => by rw [putP_off as _ _ h1, upd_ne h2]
  have low : ∀ b o, s.heap.get? b = some o → b ∉ as ∧ b ≠ S := fun b o e => ⟨fun z => absurd (Heap.lt_size e) (Nat.not_lt.mpr (Nat.le_trans hSz (Nat.le_trans (Nat.le_of_lt hSN) (lowA b z)))), Nat.ne_of_lt (Nat.lt_of_lt_of_le (Heap.lt_size e) hSz)⟩
  have kp : ∀ b u, H b = some u → (putP (upd H S (.lst (as.map V.ref))) as (xs.zip ys)) b = some u := fun b u e => by
    rw [off b (fun z => by rw [newA b z] at e; cases e) (fun z => by rw [z, newS] at e; cases e)]
    exact e
  have eS : putP (upd H S (.lst (as.map V.ref))) as (xs.zip ys) S = some (.lst (as.map V.ref)) := by rw [putP_off as _ _ hSn, upd_same]
  have pairs : ∀ (j : Nat) (t : Addr), as[j]? = some t → ∃ x y, xs[j]? = some x ∧ ys[j]? = some y ∧ putP (upd H S (.lst (as.map V.ref))) as (xs.zip ys) t = some (.tup [x, y]) := fun j t ht => by
    obtain ⟨p, h1, h2⟩ := atP j t ht
    obtain ⟨q1, q2⟩ := List.getElem?_zip_eq_some.mp h1
    exact ⟨p.1, p.2, q1, q2, h2⟩
  refine ⟨putP (upd H S (.lst (as.map V.ref))) as (xs.zip ys), kp, newS, hSn, eS, pairs, ?_⟩
  refine I.call' (ch := []) rfl ⟨fun b o q _ _ _ => hk b o q, fun b o q _ _ _ => ⟨o.slots, hk b o q⟩, fun b o q n _ => ?_, fun b o q _ => ⟨o, hk b o q⟩, fun b xs q => kp b _ q, fun b o u q => kp b _ q, fun b ps q => ⟨#[], by rw [kp b _ q]; simp⟩⟩ (fun b u q => ?_) I.bare fun b z => by simp at z
  · obtain ⟨z1, z2⟩ := low b o q
    rw [off b z1 z2]
    exact n
  · by_cases hb : b ∈ as
    · obtain ⟨j, hj, rfl⟩ := List.getElem_of_mem hb
      have hj' := List.getElem?_eq_getElem hj
      obtain ⟨x, y, f1, f2, f3⟩ := pairs j _ hj'
      rw [f3] at q
      cases q
      obtain ⟨_, _, u1, u2, g1, g2, g3⟩ := hP.all j _ hj'
      obtain ⟨v1, k1, k2⟩ := r1.get f1
      obtain ⟨v2, k3, k4⟩ := r2.get f2
      have g1 : us1[j]? = some u1 := by simpa using g1
      have g2 : us2[j]? = some u2 := by simpa using g2
      rw [g1] at k1
      cases k1
      rw [g2] at k3
      cases k3
      exact ⟨by show 2 ≤ sizeLine; decide, [u1, u2], .cons k2 (.cons k4 .nil), ⟨_, g3, rfl, _, rfl⟩⟩
    · by_cases hb2 : b = S
      · rw [hb2] at q ⊢
        rw [eS] at q
        cases q
        refine ⟨by rw [List.length_map]; omega, as.map Value.ref, c, vals_refs as, hS⟩
      · rw [off b hb hb2] at q
        exact (I.hok b u q).stay (fun d v _ y => hk d v y) (fun d y => kp d _ y) fun d xs y => kp d _ y
theorem zl_apart (I l1 l2 : Nat) (h1 : l1 < I) (h2 : l2 < I) : ZL (I + 4) (I + 2) (I + 3) I (I + 1) (I + 5) [I, l1] [I + 1, l2] (I + 5 + 1) := by
  refine ⟨⟨?_, ?_, ?_, ?_, ?_, ?_, ?_, ?_, ?_, ?_, ?_, ?_, ?_⟩, ?_, ?_, ?_, ?_, fun c hc => ?_, fun c hc => ?_, ?_, ?_, ?_, ?_, ?_⟩
  all_goals first
    | (show (_ : Nat) ≠ _; omega)
    | (show (_ : Nat) < _; omega)
    | (simp; done)
    | (intro h
       simp only [List.mem_cons, List.not_mem_nil, or_false] at h
       rcases h with h | h
       · exact absurd (show (_ : Nat) = _ from h) (by omega)
       · exact absurd (show (_ : Nat) = _ from h) (by omega))
    | (simp only [List.mem_cons, List.not_mem_nil, or_false] at hc
       rcases hc with h | h
       · rw [h]; show (_ : Nat) < _; omega
       · rw [h]; show (_ : Nat) < _; omega)
theorem pe_lzip {e e2 : Expr} {ta : TA} {p p2 pos pos2 : Pos} (hc : X.calm = true) (hg : Gl X "list") (hm : X.mg "list" = none) (hg2 : Gl X "zip") (hm2 : X.mg "zip" = none) (ha : PA X [e, e2] ta)
    (hs2 : starEach [e, e2] X.env = (false, eval e X.env) :: starEach [e2] X.env) (hpl : (backTo pos2 (starEach [e2] X.env)).any (·.1) = false) :
    PE X (.Call (.Name "list" p) [.Call (.Name "zip" p2) [e, e2] [] pos2] [] pos) (fun σ H Q => ta σ H fun vs H1 => rLzip X.K vs H1 Q) := by
  have hs : starEach [.Call (.Name "zip" p2) [e, e2] [] pos2] X.env = (false, eval (.Call (.Name "zip" p2) [e, e2] [] pos2) X.env) :: starEach [] X.env := rfl
  refine ⟨fun pins s σ H Q I hq => ?_⟩
  refine wpAny_Call_Name_kw (ld_blt I hg hm (by decide +kernel : bootBuiltins "list" = some (.type "list")) ?_)
  refine PyProof.Rows.callWith_type1 ?_ hs rfl
  rw [hs]
  show wpAny _ _ (spliced ((false, eval (.Call (.Name "zip" p2) [e, e2] [] pos2) X.env) :: backTo pos (starEach [] X.env))) _ _ s
  refine Calls.spliced_cons ?_
  refine wpAny_Call_Name_kw (ld_blt I hg2 hm2 PyProof.Rows.boot_zip ?_)
  refine PyProof.Rows.callWith_type1 (thn (ha.run pos2 pins s σ H _ I hq) fun us s1 ⟨vs, H1, I1, r1, q1⟩ => ?_) hs2 hpl
  obtain ⟨a, b, xs, ys, ex, hq1, q⟩ := q1
  subst ex
  cases r1 with
  | cons r rr =>
    cases rr with
    | cons r' rr =>
      cases rr
      cases r
      cases r'
      have hh : X.A.handled = none := I1.ok.hd hc
      obtain ⟨hp, g, d, tk0, os⟩ := s1
      have fin : ∀ {h' h'' : Heap} {us1 us2 : List Value} {tk c : Nat} {as : List Addr}, (∀ c o, hp.get? c = some o → h'.get? c = some o) → h'.objs.size = hp.objs.size + 5 → Vals xs us1 → Vals ys us2 → xs.length ≤ sizeLine →
          ListOf h'' h'.objs.size as c → as.length = min us1.toArray.size us2.toArray.size → PairsAt (fun j v => us1.toArray[j]? = some v) (fun j v => us2.toArray[j]? = some v) (h'.objs.size + 1) h'' as →
          (∀ b o, b ≠ hp.objs.size + 4 → b ≠ hp.objs.size + 3 → b ≠ hp.objs.size → b ≠ hp.objs.size + 1 → h'.get? b = some o → h''.get? b = some o) →
          ∃ y H', Inv X pins σ H' ⟨h'', g, d, tk, os⟩ ∧ RelV y (.ref h'.objs.size) ∧ Q y H' := by
        intro h' h'' us1 us2 tk c as hk hsz v1 v2 hl hS hal hP hk2
        obtain ⟨H', k1, k2, k3, k4, k5, J⟩ := lzip_laid (tk := tk) (S := h'.objs.size) (N := h'.objs.size + 1) I1 v1 v2 hl (fun b o e => hk2 b o (Nat.ne_of_lt (Nat.lt_of_lt_of_le (Heap.lt_size e) (Nat.le_add_right _ _))) (Nat.ne_of_lt (Nat.lt_of_lt_of_le (Heap.lt_size e) (Nat.le_add_right _ _))) (Nat.ne_of_lt (Heap.lt_size e)) (Nat.ne_of_lt (Nat.lt_of_lt_of_le (Heap.lt_size e) (Nat.le_add_right _ _))) (hk b o e)) (by rw [hsz]; exact Nat.le_add_right _ _) (Nat.lt_succ_self _) hS (by simpa using hal) hP
        exact ⟨.ref _, H', J, rfl, q H' _ as k1 k2 k3 k4 (by rw [hal, List.size_toArray, List.size_toArray, Paired.length v1, Paired.length v2]) k5⟩
      rcases hq1 with ⟨hqx, hqy⟩ | ⟨hqx, hqy⟩
      · obtain ⟨its, rv, p1, hl1⟩ := I1.list hqx
        obtain ⟨its2, rv2, p3, hl2⟩ := I1.list hqy
        have la : a < hp.objs.size := p1.lt
        have lb : b < hp.objs.size := p3.lt
        refine call_zip_2 p1.isList p3.isList fun h' hz hTI hTO h1 h2 hsz hk => ?_
        refine Calls.spliced_nil ?_
        have L1 : h'.IsList a its.toArray := (show hp.IsList a its.toArray from p1.isList).at fun o e => hk a o e
        have L2 : h'.IsList b its2.toArray := (show hp.IsList b its2.toArray from p3.isList).at fun o e => hk b o e
        refine call_list_zip (s := ⟨h', g, d, tk0, os⟩) (by
            have q := zl_apart hp.objs.size a b la lb
            have e : (h'.objs.size : Nat) = hp.objs.size + 5 := hsz
            show ZL _ _ _ _ _ h'.objs.size _ _ (h'.objs.size + 1)
            rw [e]
            exact q)
          (Draws.list (A := X.A.in1.in1.in1) hh _ a (Nat.ne_of_lt la) its.toArray) (Draws.list (A := X.A.in1.in1.in1) hh _ b (Nat.ne_of_lt (Nat.lt_succ_of_lt lb)) its2.toArray) ?_ ⟨h1, L1⟩ ⟨h2, L2⟩ hTI hz ⟨_, _, hTO⟩ fun h'' tk as c q1 q2 q3 q4 => fin hk hsz rv rv2 hl1 q1 q2 q3 q4
        rw [List.size_toArray, List.size_toArray, ← Paired.length rv]
        exact Nat.le_trans (Nat.min_le_left _ _) hl1
      · obtain ⟨its, rv, p1, hl1⟩ := I1.tuple hqx
        obtain ⟨its2, rv2, p3, hl2⟩ := I1.tuple hqy
        obtain ⟨o1, ho1, r1⟩ := id p1
        obtain ⟨o2, ho2, r2⟩ := id p3
        have la : a < hp.objs.size := Heap.lt_size ho1
        have lb : b < hp.objs.size := Heap.lt_size ho2
        refine RZ.call_zipT (show hp.IsTuple a its.toArray from p1) (show hp.IsTuple b its2.toArray from p3) fun h' hz hTI hTO h1 h2 hsz hk => ?_
        refine Calls.spliced_nil ?_
        have L1 : h'.IsTuple a its.toArray := ⟨o1, hk a o1 ho1, r1⟩
        have L2 : h'.IsTuple b its2.toArray := ⟨o2, hk b o2 ho2, r2⟩
        refine call_list_zip (s := ⟨h', g, d, tk0, os⟩) (by
            have q := zl_apart hp.objs.size a b la lb
            have e : (h'.objs.size : Nat) = hp.objs.size + 5 := hsz
            show ZL _ _ _ _ _ h'.objs.size _ _ (h'.objs.size + 1)
            rw [e]
            exact q)
          (draws_tuple (A := X.A.in1.in1.in1) hh _ a (Nat.ne_of_lt la) its.toArray) (draws_tuple (A := X.A.in1.in1.in1) hh _ b (Nat.ne_of_lt (Nat.lt_succ_of_lt lb)) its2.toArray) ?_ ⟨h1, L1⟩ ⟨h2, L2⟩ hTI hz ⟨_, _, hTO⟩ fun h'' tk as c q1 q2 q3 q4 => fin hk hsz rv rv2 hl1 q1 q2 q3 q4
        rw [List.size_toArray, List.size_toArray, ← Paired.length rv]
        exact Nat.le_trans (Nat.min_le_left _ _) hl1
end
section
variable {X : Cx} {M : Mo} {W : WX} {Γ : Sem} {a b c e : Expr} {ia ib ic : E} {pos : Pos}
theorem pxs_starred {es : List Expr} {ies : List E} {bs : List Bool} {p : Pos} (hK : X.K = M.K) (ha : PE X a (tX M W (evE Γ ia))) (hr : PA X es (tXs M W (evXs Γ ies bs))) : PA X (.Starred a p :: es) (tXs M W (evXs Γ (ia :: ies) (true :: bs))) := by
  refine pa_weak (StX.pa_star ha hr) fun σ H Q ⟨ι, st, env, rs, re, g⟩ => ?_
  simp only [evXs] at g
  refine tX_then rs re g fun x H1 ι1 st1 d _ e1 p1 rs1 re1 r1 g1 => ?_
  cases q : spl true d st1 with
  | none => rw [q] at g1; exact g1.elim
  | some xs =>
    rw [q] at g1
    have q : itemsOf st1 d = some xs := q
    obtain ⟨t, vs, rfl, hs, rl⟩ := items_ok rs1 r1 q
    refine ⟨t, vs, rfl, by rw [hK]; exact hs.symm, ?_⟩
    refine tXs_then rs1 re1 g1 fun y H2 ι2 st2 d2 _ e2 p2 rs2 re2 r2 g2 => ?_
    exact Good.ok (R := rDs M) g2 rs2 ((rl.mono e2 p2).append r2)
theorem pxs_plain {es : List Expr} {ies : List E} {bs : List Bool} (hs : starB a = false) (ha : PE X a (tX M W (evE Γ ia))) (hr : PA X es (tXs M W (evXs Γ ies bs))) : PA X (a :: es) (tXs M W (evXs Γ (ia :: ies) (false :: bs))) := by
  refine pa_weak (pa_cons ha hr (star_cons hs)) fun σ H Q ⟨ι, st, env, rs, re, g⟩ => ?_
  simp only [evXs] at g
  refine tX_then rs re g fun x H1 ι1 st1 d _ e1 p1 rs1 re1 r1 g1 => ?_
  have q : spl false d st1 = some [d] := rfl
  rw [q] at g1
  refine tXs_then rs1 re1 g1 fun y H2 ι2 st2 d2 _ e2 p2 rs2 re2 r2 g2 => ?_
  exact Good.ok (R := rDs M) g2 rs2 (.cons (r1.mono e2 p2) r2)
theorem pxs_X {f : Expr → E} {es : List Expr} (hK : X.K = M.K) (h : ∀ e, PE X e (tX M W (evE Γ (f e)))) : PA X es (tXs M W (evXs Γ (es.map fun e => f (unstar e)) (es.map starB))) := by
  induction es with
  | nil =>
    refine ⟨fun pos pins s σ H Q I ⟨ι, st, env, rs, re, g⟩ => pa_nil.run pos pins s σ H Q I ?_⟩
    simp only [List.map_nil, evXs] at g
    exact Good.ok (R := rDs M) g rs .nil
  | cons e es ih =>
    simp only [List.map_cons]
    cases hs : starB e with
    | false =>
      have hu : unstar e = e := by cases e <;> first | rfl | cases hs
      rw [hu]
      exact pxs_plain hs (h e) ih
    | true =>
      cases e <;> first | (cases hs; done) | skip
      exact pxs_starred hK (h _) ih
theorem px_tupX {es : List Expr} {ies : List E} {bs : List Bool} {x1} (h : PA X es (tXs M W (evXs Γ ies bs))) : PE X (.Tuple es x1 pos) (tX M W (evE Γ (.tupX ies bs))) := by
  refine pe_weak (pe_tup h) fun σ H Q ⟨ι, st, env, rs, re, g⟩ => ?_
  simp only [evE] at g
  refine tXs_then (f := evXs Γ ies bs) rs re g fun vs H1 ι1 st1 ds _ e1 p1 rs1 re1 r1 g1 => ?_
  by_cases hl : ds.length ≤ SL
  · rw [if_pos hl] at g1
    refine ⟨by rw [← r1.length, ← SL_eq]; exact hl, fun p hp => ?_⟩
    exact Good.okE (R := rD M) g1 (.new hp) (.refl _) (rs1.fresh hp) (.tup (.inl (.inl upd_same)) (r1.mono (.new hp) (.refl _)))
  · rw [if_neg hl] at g1; exact g1.elim
theorem px_lstX {es : List Expr} {ies : List E} {bs : List Bool} (h : PA X es (tXs M W (evXs Γ ies bs))) : PE X (.List es pos) (tX M W (evE Γ (.lstX ies bs))) := by
  refine pe_weak (pe_lst h) fun σ H Q ⟨ι, st, env, rs, re, g⟩ => ?_
  simp only [evE] at g
  refine tXs_then (f := evXs Γ ies bs) rs re g fun vs H1 ι1 st1 ds _ e1 p1 rs1 re1 r1 g1 => ?_
  by_cases hl : ds.length ≤ SL
  · rw [if_pos hl] at g1
    exact ⟨by rw [← r1.length, ← SL_eq]; exact hl, fun p hp => alloc_lst rs1 r1 g1 p hp⟩
  · rw [if_neg hl] at g1; exact g1.elim
theorem RDs.zipT {K : PySem.W.Frag} {ga : GA} {ι : List Addr} {H : Hp} : ∀ {ds es : List D} {vs ws : List V} {ts : List Addr}, RDs K ga ι H ds vs → RDs K ga ι H es ws → ts.length = min vs.length ws.length →
    (∀ (j : Nat) (t : Addr), ts[j]? = some t → ∃ x y, vs[j]? = some x ∧ ws[j]? = some y ∧ H t = some (.tup [x, y])) → RDs K ga ι H (List.zipWith (fun x y => D.tup [x, y]) ds es) (ts.map V.ref)
  | _, _, _, _, [], .nil, _, _, _ => .nil
  | _, _, _, _, [], .cons _ _, .nil, _, _ => .nil
  | _, _, _, _, [], .cons _ _, .cons _ _, h, _ => by simp at h
  | _, _, _, _, _ :: _, .nil, _, h, _ => by simp at h
  | _, _, _, _, _ :: _, .cons _ _, .nil, h, _ => by simp at h
  | _, _, _, _, t :: ts, .cons r1 t1, .cons r2 t2, h, k => by
    obtain ⟨x, y, h1, h2, h3⟩ := k 0 t rfl
    simp only [List.getElem?_cons_zero, Option.some.injEq] at h1 h2
    subst h1; subst h2
    refine .cons (.tup (.inl (.inl h3)) (.cons r1 (.cons r2 .nil))) (RDs.zipT t1 t2 (by simpa using h) fun j t' ht => ?_)
    obtain ⟨x, y, q1, q2, q3⟩ := k (j + 1) t' (by simpa using ht)
    exact ⟨x, y, by simpa using q1, by simpa using q2, q3⟩
theorem RS.laidL {ι : List Addr} {H H' : Hp} {st : Store} {ds : List D} {vs : List V} {p : Addr} (rs : RS M.K M.ga ι H st) (k : ∀ c o, H c = some o → H' c = some o) (hp : H p = none) (hp' : H' p = some (.lst vs)) (rd : RDs M.K M.ga ι H' ds vs) :
    Ext H H' ∧ RS M.K M.ga (ι ++ [p]) H' (st ++ [.lst ds]) := by
  have ex : Ext H H' := ⟨fun a xs h => k a _ h, fun a o u h => k a _ h⟩
  have P : Pre ι (ι ++ [p]) := ⟨[p], rfl⟩
  refine ⟨ex, by simp [rs.len], fun n c a h1 h2 => ?_, fun n m a c1 c2 h1 h2 h3 h4 f1 f2 => ?_⟩
  · rcases get_snoc h1 with ⟨hn, h1⟩ | ⟨hn, rfl⟩
    · rcases get_snoc h2 with ⟨_, h2⟩ | ⟨hn', _⟩
      · have q := rs.at_ n c a h1 h2
        refine q.stay ex P fun hf => ?_
        have m := q.mut hf
        cases e : H a with
        | none => rw [e] at m; exact m.elim
        | some o => exact k a o e
      · rw [rs.len] at hn'; omega
    · rcases get_snoc h2 with ⟨hn', _⟩ | ⟨_, rfl⟩
      · rw [rs.len] at hn'; omega
      · exact ⟨vs, hp', rd.mono (.refl _) P⟩
  · have key : ∀ {n m : Nat} {a : Addr} {c1 c2 : Cell}, n < ι.length → ι[n]? = some a → (ι ++ [p])[m]? = some a → (st ++ [Cell.lst ds])[n]? = some c1 → (st ++ [Cell.lst ds])[m]? = some c2 → isFro c1 = false → isFro c2 = false → n = m := by
      intro n m b d1 d2 hn k1 k2 k3 k4 g1 g2
      rcases get_snoc k3 with ⟨_, k3'⟩ | ⟨hn', _⟩
      · rcases get_snoc k2 with ⟨hm, k2'⟩ | ⟨hm, hb⟩
        · rcases get_snoc k4 with ⟨_, k4'⟩ | ⟨hm', _⟩
          · exact rs.inj n m b d1 d2 k1 k2' k3' k4' g1 g2
          · rw [rs.len] at hm; omega
        · have mu := (rs.at_ n d1 b k3' k1).mut g1
          rw [hb, hp] at mu
          exact mu.elim
      · rw [rs.len] at hn; omega
    rcases get_snoc h1 with ⟨hn, h1'⟩ | ⟨hn, _⟩
    · exact key hn h1' h2 h3 h4 f1 f2
    · rcases get_snoc h2 with ⟨hm, h2'⟩ | ⟨hm, _⟩
      · exact (key hm h2' h1 h4 h3 f2 f1).symm
      · omega
theorem px_lzip {p p2 pos2 : Pos} (hK : X.K = M.K) (hc : X.calm = true) (hg : Gl X "list") (hm : X.mg "list" = none) (hg2 : Gl X "zip") (hm2 : X.mg "zip" = none) (ha : PA X [a, b] (tXs M W (evEs Γ [ia, ib]))) (h1 : starB a = false) (h2 : starB b = false) :
    PE X (.Call (.Name "list" p) [.Call (.Name "zip" p2) [a, b] [] pos2] [] pos) (tX M W (evE Γ (.lzip [ia, ib]))) := by
  have q2 : starEach [b] X.env = [(false, eval b X.env)] := star_cons h2
  refine pe_weak (pe_lzip hc hg hm hg2 hm2 ha (star_cons h1) (by rw [q2]; rfl)) fun σ H Q ⟨ι, st, env, rs, re, g⟩ => ?_
  simp only [evE] at g
  refine tXs_then (f := evEs Γ [ia, ib]) rs re g fun vs H1 ι1 st1 ds _ e1 p1 rs1 re1 r1 g1 => ?_
  have fin : ∀ {x y : Addr} {xs ys : List V} {us ws : List D}, RDs M.K M.ga ι1 H1 us xs → RDs M.K M.ga ι1 H1 ws ys → vs = [.ref x, .ref y] → ((SqL M.K H1 x xs ∧ SqL M.K H1 y ys) ∨ (SqT M.K H1 x xs ∧ SqT M.K H1 y ys)) →
      Good M (rD M) (wAt W σ) ι1 H1 (alloc (.lst (List.zipWith (fun x y => D.tup [x, y]) us ws)) st1) Q → rLzip X.K vs H1 Q := by
    intro x y xs ys us ws rx ry hv hsq g2
    refine ⟨x, y, xs, ys, hv, by rw [hK]; exact hsq, fun H' p ts k hp hnp hl hlen hpair => ?_⟩
    have ex : Ext H1 H' := ⟨fun a xs h => k a _ h, fun a o u h => k a _ h⟩
    obtain ⟨_, rs2⟩ := rs1.laidL k hp hl (RDs.zipT (rx.mono ex (.refl _)) (ry.mono ex (.refl _)) hlen hpair)
    refine Good.okE (M := M) (R := rD M) g2 ex ⟨[p], rfl⟩ rs2 (.ref ?_)
    rw [← rs1.len]
    simp
  cases r1 with
  | nil => exact g1.elim
  | cons q1 t1 =>
    cases t1 with
    | nil =>
      have q : ∀ d : D, lzipO [d] st1 = .stuck := fun d => by cases d <;> rfl
      rw [q] at g1
      exact g1.elim
    | cons q2 t2 =>
      cases t2 with
      | cons q3 t3 =>
        have q : ∀ (d d2 d3 : D) (r : List D), lzipO (d :: d2 :: d3 :: r) st1 = .stuck := fun d d2 d3 r => by cases d <;> first | rfl | (cases d2 <;> rfl)
        rw [q] at g1
        exact g1.elim
      | nil =>
        cases q1 with
        | tup hx rx =>
          cases q2 with
          | tup hy ry => exact fin rx ry rfl (.inr ⟨hx, hy⟩) g1
          | _ => simp only [lzipO] at g1; exact g1.elim
        | ref hx =>
          cases q2 with
          | ref hy =>
            rename_i m _ n _ _
            simp only [lzipO] at g1
            cases e3 : itemsOf st1 (.ref m) with
            | none => rw [e3] at g1; exact g1.elim
            | some us =>
              cases e4 : itemsOf st1 (.ref n) with
              | none => rw [e3, e4] at g1; exact g1.elim
              | some ws =>
                rw [e3, e4] at g1
                obtain ⟨x', xs, ex, _, sx, rx⟩ := itemsL_ok rs1 (.ref (K := M.K) (ga := M.ga) (H := H1) hx) e3
                cases ex
                obtain ⟨y', ys, ey, _, sy, ry⟩ := itemsL_ok rs1 (.ref (K := M.K) (ga := M.ga) (H := H1) hy) e4
                cases ey
                exact fin rx ry rfl (.inl ⟨sx, sy⟩) g1
          | _ => simp only [lzipO] at g1; exact g1.elim
        | _ => cases q2 <;> (simp only [lzipO] at g1; exact g1.elim)
end
end RX

namespace RX
open PySem PySem.Spec PyProof.Rows L2
section
variable {X : Cx} {M : Mo} {W : WX} {Γ : Sem} {a b c e tg : Expr} {es : List Expr} {ia ib ic : E} {ies : List E} {pos : Pos}
def WalkOk (M : Mo) (ι0 : List Addr) (H0 : Hp) (s : Src) (J : It) : Prop := ∀ (ι : List Addr) (H : Hp) (st : Store) (i : Nat) (o : Option D), Ext H0 H → Pre ι0 ι → RS M.K M.ga ι H st → fetch s i st = some o → match o with
  | none => J.stop i H
  | some d => J.go i H ∧ ∀ x H', J.yld i H x H' → Ext H H' ∧ RS M.K M.ga ι H' st ∧ RD M.K M.ga ι H' d x
theorem walk_lst {ι0 : List Addr} {H0 : Hp} {n : Nat} {p : Addr} (h : ι0[n]? = some p) : WalkOk M ι0 H0 (.lst n) (Itl M.K p) := by
  intro ι H st i o ex pr rs hf
  simp only [fetch] at hf
  cases q : itemsOf st (.ref n) with
  | none => rw [q] at hf; cases hf
  | some ds =>
    rw [q] at hf
    obtain ⟨p', vs, e1, _, hq, rl⟩ := itemsL_ok rs (.ref (K := M.K) (ga := M.ga) (H := H) (pr.get h)) q
    cases e1
    cases hf
    cases hi : ds[i]? with
    | none => exact ⟨vs, hq, rl.getNone hi⟩
    | some d =>
      obtain ⟨x, hx, rx⟩ := rl.get hi
      refine ⟨⟨vs, x, hq, hx⟩, fun y H' ⟨eH, hy⟩ => ?_⟩
      subst eH
      have := hy vs hq
      rw [hx] at this
      cases this
      exact ⟨.refl _, rs, rx⟩
theorem walk_tup {ι0 : List Addr} {H0 : Hp} {ds : List D} {vs : List V} {p : Addr} (hq : SqT M.K H0 p vs) (rl : RDs M.K M.ga ι0 H0 ds vs) : WalkOk M ι0 H0 (.tup ds) (Itt M.K p) := by
  intro ι H st i o ex pr rs hf
  simp only [fetch] at hf
  cases hf
  have hq := ex.sqT hq
  have rl := rl.mono ex pr
  cases hi : ds[i]? with
  | none => exact ⟨vs, hq, rl.getNone hi⟩
  | some d =>
    obtain ⟨x, hx, rx⟩ := rl.get hi
    refine ⟨⟨vs, x, hq, hx⟩, fun y H' ⟨eH, hy⟩ => ?_⟩
    subst eH
    have := hy vs hq
    rw [hx] at this
    cases this
    exact ⟨.refl _, rs, rx⟩
theorem walk_rng {ι0 : List Addr} {H0 : Hp} {lo : Int} {n : Nat} : WalkOk M ι0 H0 (.rng lo n) (Itr lo n) := by
  intro ι H st i o ex pr rs hf
  simp only [fetch] at hf
  by_cases hi : i < n
  · rw [if_pos hi] at hf
    cases hf
    refine ⟨hi, fun y H' ⟨eH, hy⟩ => ?_⟩
    subst eH; subst hy
    exact ⟨.refl _, rs, .int _⟩
  · rw [if_neg hi] at hf
    cases hf
    exact Nat.le_of_not_lt hi
theorem walk_rngD {ι0 : List Addr} {H0 : Hp} {lo : Int} {n : Nat} : WalkOk M ι0 H0 (.rngD lo n) (Itc lo (-1) n) := by
  intro ι H st i o ex pr rs hf
  simp only [fetch] at hf
  by_cases hi : i < n
  · rw [if_pos hi] at hf
    cases hf
    refine ⟨hi, fun y H' ⟨eH, hy⟩ => ?_⟩
    subst eH; subst hy
    exact ⟨.refl _, rs, .int _⟩
  · rw [if_neg hi] at hf
    cases hf
    exact Nat.le_of_not_lt hi
theorem evEs_lenI : ∀ (l : List E) (env : EnvD) (st : Store) (ds : List D) (st1 : Store), evEs Γ l env st = .ok ds st1 → ds.length = l.length := by
  intro l
  induction l with
  | nil => intro env st ds st1 h; simp only [evEs] at h; cases h; rfl
  | cons y l ih =>
    intro env st ds st1 h
    simp only [evEs, Out.bind] at h
    cases q : evE Γ y env st with
    | ok d st2 =>
      rw [q] at h
      simp only at h
      cases q2 : evEs Γ l env st2 with
      | ok ds2 st3 =>
        rw [q2] at h
        cases h
        simp [ih _ _ _ _ q2]
      | exc c p st3 => rw [q2] at h; cases h
      | stuck => rw [q2] at h; cases h
    | exc c p st2 => rw [q] at h; cases h
    | stuck => rw [q] at h; cases h
theorem walk_str {ι0 : List Addr} {H0 : Hp} {s : List Nat} : WalkOk M ι0 H0 (.str s) (Its ⟨s.toArray⟩) := by
  intro ι H st i o ex pr rs hf
  simp only [fetch] at hf
  cases hi : s[i]? with
  | none =>
    rw [hi] at hf; cases hf
    have := List.getElem?_eq_none_iff.mp hi
    show s.toArray.size ≤ i
    simpa using this
  | some c =>
    rw [hi] at hf; cases hf
    have hl := (List.getElem?_eq_some_iff.mp hi).1
    refine ⟨(by simpa using hl : i < s.toArray.size), fun y H' ⟨eH, c', hy, e2⟩ => ?_⟩
    subst eH; subst e2
    have : s.toArray[i]? = some c' := hy
    rw [List.getElem?_toArray, hi] at this
    cases this
    exact ⟨.refl _, rs, .str [c]⟩
theorem walk_enum {ι0 : List Addr} {H0 : Hp} {n : Nat} {p : Addr} (h : ι0[n]? = some p) : WalkOk M ι0 H0 (.enum n) (Ite M.K p) := by
  intro ι H st i o ex pr rs hf
  simp only [fetch] at hf
  cases q : itemsOf st (.ref n) with
  | none => rw [q] at hf; cases hf
  | some ds =>
    rw [q] at hf
    obtain ⟨p', vs, e1, _, hq, rl⟩ := itemsL_ok rs (.ref (K := M.K) (ga := M.ga) (H := H) (pr.get h)) q
    cases e1
    cases hi : ds[i]? with
    | none => simp only [hi] at hf; cases hf; exact ⟨vs, hq, rl.getNone hi⟩
    | some d =>
      simp only [hi] at hf; cases hf
      obtain ⟨x, hx, rx⟩ := rl.get hi
      refine ⟨⟨vs, x, hq, hx⟩, fun y H' ⟨T, x', e1, hT, eH, hy⟩ => ?_⟩
      subst e1; subst eH
      have := hy vs hq
      rw [hx] at this
      cases this
      exact ⟨.new hT, rs.fresh hT, .tup (.inl (.inl upd_same)) (.cons (.int _) (.cons (rx.mono (.new hT) (.refl _)) .nil))⟩
theorem walk_zip {ι0 : List Addr} {H0 : Hp} {m n : Nat} {p p2 : Addr} (h : ι0[m]? = some p) (h2 : ι0[n]? = some p2) : WalkOk M ι0 H0 (.zip m n) (Itz M.K p p2) := by
  intro ι H st i o ex pr rs hf
  simp only [fetch] at hf
  cases q : itemsOf st (.ref m) with
  | none => rw [q] at hf; cases hf
  | some ds =>
    cases q2 : itemsOf st (.ref n) with
    | none => rw [q, q2] at hf; cases hf
    | some ds2 =>
      rw [q, q2] at hf
      obtain ⟨p', vs, e1, _, hq, rl⟩ := itemsL_ok rs (.ref (K := M.K) (ga := M.ga) (H := H) (pr.get h)) q
      cases e1
      obtain ⟨p', vs2, e1, _, hq2, rl2⟩ := itemsL_ok rs (.ref (K := M.K) (ga := M.ga) (H := H) (pr.get h2)) q2
      cases e1
      cases hi : ds[i]? with
      | none => simp only [hi] at hf; cases hf; exact ⟨vs, vs2, hq, hq2, .inl (rl.getNone hi)⟩
      | some d =>
        cases hi2 : ds2[i]? with
        | none => simp only [hi, hi2] at hf; cases hf; exact ⟨vs, vs2, hq, hq2, .inr (rl2.getNone hi2)⟩
        | some d2 =>
          simp only [hi, hi2] at hf; cases hf
          obtain ⟨x, hx, rx⟩ := rl.get hi
          obtain ⟨x2, hx2, rx2⟩ := rl2.get hi2
          refine ⟨⟨vs, vs2, x, x2, hq, hq2, hx, hx2⟩, fun y H' ⟨T, x', y', e1, hT, eH, hy, hy2⟩ => ?_⟩
          subst e1; subst eH
          have := hy vs hq
          rw [hx] at this
          cases this
          have := hy2 vs2 hq2
          rw [hx2] at this
          cases this
          exact ⟨.new hT, rs.fresh hT, .tup (.inl (.inl upd_same)) (.cons (rx.mono (.new hT) (.refl _)) (.cons (rx2.mono (.new hT) (.refl _)) .nil))⟩
def rW (M : Mo) : List Addr → Hp → Src × Nat → It → Prop := fun ι H p J => WalkOk M ι H p.1 J
def tI (M : Mo) (W : WX) (Γ : Sem) (k : ItK) (src : List E) : TI := fun σ H R => ∃ (ι : List Addr) (st : Store) (env : EnvD), RS M.K M.ga ι H st ∧ RE M.K M.ga ι H env σ ∧ Good M (rW M) (wAt W σ) ι H (srcO k (evEs Γ src env st)) R
theorem pi_weak {t t' : TI} (h : PI X tg e t) (w : ∀ σ H R, t' σ H R → t σ H R) : PI X tg e t' := ⟨fun pins s σ H Q I q => h.run pins s σ H Q I (w σ H Q q)⟩
theorem px_it (hK : X.K = M.K) (he : PE X e (tX M W (evE Γ ia))) : PI X tg e (tI M W Γ .val [ia]) := by
  refine ⟨fun pins s σ H R I ⟨ι, st, env, rs, re, g⟩ => ?_⟩
  unfold srcO at g
  simp only [evEs, bind_bind, Out.bind] at g
  cases q : evE Γ ia env st with
  | stuck => rw [q] at g; exact g.elim
  | exc c p st1 =>
    rw [q] at g
    exact (pi_list he).run pins s σ H R I ⟨ι, st, env, rs, re, by rw [q]; exact g⟩
  | ok d st1 =>
    rw [q] at g
    simp only at g
    cases d with
    | str y =>
      refine (pi_str he).run pins s σ H R I ⟨ι, st, env, rs, re, ?_⟩
      rw [q]
      intro ι1 H1 v e1 p1 rs1 r1
      cases r1
      exact ⟨_, rfl, Good.okE (R := rW M) g e1 p1 rs1 walk_str⟩
    | tup ds =>
      refine (pi_tup he).run pins s σ H R I ⟨ι, st, env, rs, re, ?_⟩
      rw [q]
      intro ι1 H1 v e1 p1 rs1 r1
      cases r1 with
      | tup hq rl => exact ⟨_, rfl, ⟨_, by rw [hK]; exact hq⟩, by rw [hK]; exact Good.okE (R := rW M) g e1 p1 rs1 (walk_tup hq rl)⟩
    | ref n =>
      refine (pi_list he).run pins s σ H R I ⟨ι, st, env, rs, re, ?_⟩
      rw [q]
      intro ι1 H1 v e1 p1 rs1 r1
      cases r1 with
      | ref hn =>
        simp only [srcOf] at g
        cases qc : st1[n]? with
        | none => rw [qc] at g; exact g.elim
        | some cl =>
          rw [qc] at g
          cases cl with
          | lst ds =>
            obtain ⟨vs, hH, rl⟩ := rs1.at_ _ _ _ qc hn
            exact ⟨_, rfl, ⟨vs, .inl (.inl hH)⟩, by rw [hK]; exact Good.okE (R := rW M) g e1 p1 rs1 (walk_lst hn)⟩
          | fro ds =>
            obtain ⟨vs, hH, rl⟩ := rs1.at_ _ _ _ qc hn
            exact ⟨_, rfl, ⟨vs, by rw [hK]; exact hH.sq⟩, by rw [hK]; exact Good.okE (R := rW M) g e1 p1 rs1 (walk_lst hn)⟩
          | _ => exact g.elim
    | _ => exact g.elim
theorem px_rng1 {p : Pos} (hg : Gl X "range") (hm : X.mg "range" = none) (ha : PA X [a] (tXs M W (evEs Γ [ia]))) (hs : starB a = false) : PI X tg (.Call (.Name "range" p) [a] [] pos) (tI M W Γ .rng [ia]) := by
  refine pi_weak (pi_range1 hg hm ha (star_cons hs)) fun σ H R ⟨ι, st, env, rs, re, g⟩ => ?_
  refine tXs_then rs re g fun vs H1 ι1 st1 ds ed e1 p1 rs1 re1 r1 g1 => ?_
  cases r1 with
  | nil => exact g1.elim
  | cons r t =>
    cases t with
    | cons r2 t2 =>
      simp only [evEs, Out.bind] at ed
      cases q : evE Γ ia env st <;> rw [q] at ed <;> cases ed
    | nil =>
      cases r with
      | int j =>
        simp only [srcOf] at g1
        split at g1
        · rename_i hj
          exact ⟨j, rfl, hj.1, hj.2, Good.ok (R := rW M) g1 rs1 walk_rng⟩
        · exact g1.elim
      | _ => exact g1.elim
theorem px_rng2 {p : Pos} (hg : Gl X "range") (hm : X.mg "range" = none) (ha : PA X [a, b] (tXs M W (evEs Γ [ia, ib]))) (hs : starB a = false) (hs2 : starB b = false) : PI X tg (.Call (.Name "range" p) [a, b] [] pos) (tI M W Γ .rng [ia, ib]) := by
  have h2 : starEach [b] X.env = [(false, eval b X.env)] := star_cons hs2
  refine pi_weak (pi_range2 hg hm ha (by rw [star_cons hs, h2]) h2) fun σ H R ⟨ι, st, env, rs, re, g⟩ => ?_
  refine tXs_then rs re g fun vs H1 ι1 st1 ds ed e1 p1 rs1 re1 r1 g1 => ?_
  cases r1 with
  | nil => exact g1.elim
  | cons r t =>
    cases t with
    | nil =>
      exfalso
      simp only [evEs, Out.bind] at ed
      cases q : evE Γ ia env st with
      | ok d st2 =>
        rw [q] at ed
        simp only at ed
        cases q2 : evE Γ ib env st2 <;> rw [q2] at ed <;> cases ed
      | _ => rw [q] at ed; cases ed
    | cons r2 t2 =>
      cases t2 with
      | cons r3 t3 =>
        exfalso
        have hl := evEs_lenI _ _ _ _ _ ed
        simp at hl
      | nil =>
        cases r with
        | int i =>
          cases r2 with
          | int j =>
            simp only [srcOf] at g1
            split at g1
            · rename_i hj
              exact ⟨i, j, rfl, hj, Good.ok (R := rW M) g1 rs1 walk_rng⟩
            · exact g1.elim
          | _ => exact g1.elim
        | _ => cases r2 <;> exact g1.elim
theorem px_rng3 {p : Pos} (hg : Gl X "range") (hm : X.mg "range" = none) (ha : PA X [a, b, c] (tXs M W (evEs Γ [ia, ib, ic]))) (hs : starB a = false) (hs2 : starB b = false) (hs3 : starB c = false) : PI X tg (.Call (.Name "range" p) [a, b, c] [] pos) (tI M W Γ .rng [ia, ib, ic]) := by
  have h3 : starEach [c] X.env = [(false, eval c X.env)] := star_cons hs3
  have h2 : starEach [b, c] X.env = [(false, eval b X.env), (false, eval c X.env)] := by rw [star_cons hs2, h3]
  refine pi_weak (pi_range3 hg hm ha (star_cons hs) (by rw [h2]; rfl)) fun σ H R ⟨ι, st, env, rs, re, g⟩ => ?_
  refine tXs_then rs re g fun vs H1 ι1 st1 ds ed e1 p1 rs1 re1 r1 g1 => ?_
  have hl := evEs_lenI _ _ _ _ _ ed
  match ds, hl, r1, g1 with
  | [d1, d2, d3], _, .cons r1 (.cons r2 (.cons r3 .nil)), g1 =>
    cases r1 with
    | int i =>
      cases r2 with
      | int j =>
        cases r3 with
        | int k =>
          simp only [srcOf] at g1
          split at g1
          · rename_i hj
            obtain ⟨h1, h2, h3, h4, rfl⟩ := hj
            exact ⟨i, j, -1, _, rfl, RgC.neg h1 h2 h3 h4, Good.ok (R := rW M) g1 rs1 walk_rngD⟩
          · exact g1.elim
        | _ => exact g1.elim
      | _ => cases r3 <;> exact g1.elim
    | _ => cases r2 <;> cases r3 <;> exact g1.elim
def Ites (x : Str) : It :=
  ⟨fun i _ => i < x.cps.size, fun i H v H' => ∃ T c, v = .ref T ∧ H T = none ∧ H' = upd H T (.tup [.int (i : Nat), .str ⟨#[c]⟩]) ∧ x.cps[i]? = some c, fun i _ => i = x.cps.size⟩
theorem turn_enumS {P : Program} {w : World} {K : PySem.W.Frag} {elts : List Expr} {kk : Nat} {tpos : Pos} (x : Str) (t : Tok) (ty : String) (hty : ty = "str_ascii_iterator" ∨ ty = "str_iterator") (e it : Addr) :
    Turn P w K (.Tuple elts kk tpos) (Ites x) [e, it] e (fun i h => (∃ old, IsEnum h e it ((i : Nat) : Int) old) ∧ h.IsStrIter it ty x t i ∧ e ≠ it) where
  mem := by simp
  obj := fun i h st b hb => by
    obtain ⟨⟨old, he⟩, ⟨o, ho, hc, hd⟩, _⟩ := st
    have e' : b = e ∨ b = it := by simpa using hb
    rcases e' with z | z
    · rw [z]; exact ⟨_, he, fun v q => nomatch q⟩
    · rw [z]; exact ⟨o, ho, fun v q => by rw [hd] at q; cases q⟩
  keep := fun i h h' st k => let ⟨⟨old, he⟩, ⟨o, ho, r⟩, hne⟩ := st; ⟨⟨old, k e (by simp) _ he⟩, ⟨o, k it (by simp) o ho, r⟩, hne⟩
  item := by
    intro X hP hw hK hc i pins s σ H E I hf st hg
    subst hP hw hK
    obtain ⟨⟨old, he⟩, hit, hne⟩ := st
    have D : Draws X.prog X.w X.A.in1 it [it] x.cps.size (fun i v => ∃ c u, x.cps[i]? = some c ∧ v = Value.str ⟨#[c]⟩ u) (fun i h => h.IsStrIter it ty x t i) := by
      rcases hty with e | e
      · rw [e]; exact Draws.strAscii (A := X.A.in1) (I.ok.hd hc) it x t
      · rw [e]; exact Draws.strWide (A := X.A.in1) (I.ok.hd hc) it x t
    have hel : e < s.heap.objs.size := Heap.lt_size he
    have hil : it < s.heap.objs.size := by obtain ⟨_, q, _⟩ := hit; exact Heap.lt_size q
    refine wpAny_pyNext_enum_itemD D he hit hg hne (by simpa using hne) fun u h' tk hu ho hit' hT hsz hk => ?_
    obtain ⟨c, uu, hcx, rfl⟩ := hu
    refine ⟨_, rfl, wpAny_letOwnedTupleGo_enum (s := { s with heap := h', toks := tk + 1 }) ho fun h'' he' sb => ?_⟩
    have hT2 : h''.get? s.heap.objs.size = some { cls := .type "tuple", data := .seq #[.int i tk, .str ⟨#[c]⟩ uu] } := (sb.2 _ (Nat.ne_of_gt hel)).trans hT
    have new : ObjOk X.prog X.w (upd H s.heap.objs.size (.tup [.int (i : Nat), .str ⟨#[c]⟩])) h'' s.heap.objs.size (.tup [.int (i : Nat), .str ⟨#[c]⟩]) :=
      ⟨by show 2 ≤ sizeLine; decide, [.int i tk, .str ⟨#[c]⟩ uu], .cons ⟨_, rfl⟩ (.cons ⟨_, rfl⟩ .nil), ⟨_, hT2, rfl, _, rfl⟩⟩
    have I1 : Inv X pins σ (upd H s.heap.objs.size (.tup [.int (i : Nat), .str ⟨#[c]⟩])) { s with heap := h'', toks := tk + 1 } :=
      I.turnedNew (ch := [e, it]) (fun b ob hb q => (sb.2 b (fun z => hb (by simp [z]))).trans (hk b ob (fun z => hb (by simp [z])) (fun z => hb (by simp [z])) q)) hf (Nat.le_refl _) new
    refine ⟨.ref s.heap.objs.size, _, I1, rfl, ⟨_, c, rfl, I.hok.fresh (Nat.le_refl _), rfl, hcx⟩, ⟨⟨.str ⟨#[c]⟩ uu, ?_⟩, ?_, hne⟩, fun b hb => ?_⟩
    · have e1 : ((i + 1 : Nat) : Int) = (i : Int) + 1 := by omega
      rw [e1]; exact he'
    · obtain ⟨o, ho2, r⟩ := hit'
      exact ⟨o, (sb.2 it (Ne.symm hne)).trans ho2, r⟩
    · have hb' : b < s.heap.objs.size := by
        have e' : b = e ∨ b = it := by simpa using hb
        rcases e' with z | z
        · rw [z]; exact hel
        · rw [z]; exact hil
      rw [upd_ne (Nat.ne_of_lt hb')]
      exact (hf b hb).1
  done := by
    intro X hP hw hK hc i pins s σ H E I hf st hg
    subst hP hw hK
    obtain ⟨⟨old, he⟩, hit, hne⟩ := st
    have hg : i = x.cps.size := hg
    subst hg
    have D : Draws X.prog X.w X.A.in1 it [it] x.cps.size (fun i v => ∃ c u, x.cps[i]? = some c ∧ v = Value.str ⟨#[c]⟩ u) (fun i h => h.IsStrIter it ty x t i) := by
      rcases hty with e | e
      · rw [e]; exact Draws.strAscii (A := X.A.in1) (I.ok.hd hc) it x t
      · rw [e]; exact Draws.strWide (A := X.A.in1) (I.ok.hd hc) it x t
    obtain ⟨f0, f1, f2, f3, f4, f5⟩ := hf it (by simp)
    exact wpAny_pyNext_enum_endD D he hit fun h' eb => ⟨rfl, I.turned (t' := s.toks) (fun b o hb q => eb b o hb q) f0 f1 f3 f4 f5⟩
  self := fun A i s Q E st h => let ⟨⟨_, he⟩, _⟩ := st; wpAny_pyIter_enum he h
def iEnumS (ta : TA) : TI := fun σ H R => ta σ H fun vs H1 => ∃ x, vs = [.str x] ∧ R (Ites x) H1
theorem pi_enumS {ta : TA} {p tpos : Pos} {elts : List Expr} {kk : Nat} (hg : Gl X "enumerate") (hm : X.mg "enumerate" = none) (ha : PA X [e] ta) (hs : starEach [e] X.env = [(false, eval e X.env)]) :
    PI X (.Tuple elts kk tpos) (.Call (.Name "enumerate" p) [e] [] pos) (iEnumS ta) := by
  refine ⟨fun pins s σ H R I h => ?_⟩
  refine Call_ (ld_blt I hg hm boot_enumerate (PyProof.Rows.callWith_type1 (thn (ha.run pos pins s σ H _ I h) fun us s1 ⟨vs, H1, I1, r1, q1⟩ => ?_) hs rfl))
  obtain ⟨x, ex, q⟩ := q1
  subst ex
  cases r1 with
  | cons r rr =>
    cases rr
    obtain ⟨t, rfl⟩ := r
    have hty : strIterType x = "str_ascii_iterator" ∨ strIterType x = "str_iterator" := by
      unfold strIterType
      cases x.cps.all (· < 128) <;> simp
    refine call_enumerate_str fun h' he hit hsz hk => wpAny_pyIter_enum he ?_
    have I2 : Inv X pins σ H1 { s1 with heap := h' } := I1.kept (t' := s1.toks) hk
    refine ⟨s1.heap.objs.size + 1, [s1.heap.objs.size + 1, s1.heap.objs.size], _, _, H1, rfl, I2, turn_enumS x t (strIterType x) hty (s1.heap.objs.size + 1) s1.heap.objs.size, ⟨⟨.none, he⟩, hit, Nat.succ_ne_self _⟩, fun b hb => ?_, q⟩
    have e' : b = s1.heap.objs.size + 1 ∨ b = s1.heap.objs.size := by simpa using hb
    have hle : s1.heap.objs.size ≤ b := by
      rcases e' with z | z
      · rw [z]; exact Nat.le_add_right _ _
      · rw [z]; exact Nat.le_refl _
    exact I1.fpOk hle (I1.hok.fresh hle)
theorem walk_enumS {ι0 : List Addr} {H0 : Hp} {s : List Nat} : WalkOk M ι0 H0 (.enumS s) (Ites ⟨s.toArray⟩) := by
  intro ι H st i o ex pr rs hf
  simp only [fetch] at hf
  split at hf
  · rename_i hle
    cases hi : s[i]? with
    | none =>
      rw [hi] at hf; cases hf
      have := List.getElem?_eq_none_iff.mp hi
      show i = s.toArray.size
      simp; omega
    | some c =>
      rw [hi] at hf; cases hf
      have hl := (List.getElem?_eq_some_iff.mp hi).1
      refine ⟨(by simpa using hl : i < s.toArray.size), fun y H' ⟨T, c', e1, hT, eH, e2⟩ => ?_⟩
      subst e1; subst eH
      have : s.toArray[i]? = some c' := e2
      rw [List.getElem?_toArray, hi] at this
      cases this
      exact ⟨.new hT, rs.fresh hT, .tup (.inl (.inl upd_same)) (.cons (.int _) (.cons (.str [c]) .nil))⟩
  · cases hf
theorem px_enum (hK : X.K = M.K) {p tpos : Pos} {elts : List Expr} {kk : Nat} (hg : Gl X "enumerate") (hm : X.mg "enumerate" = none) (ha : PA X [a] (tXs M W (evEs Γ [ia]))) (hs : starB a = false) :
    PI X (.Tuple elts kk tpos) (.Call (.Name "enumerate" p) [a] [] pos) (tI M W Γ .enum [ia]) := by
  refine ⟨fun pins s σ H R I ⟨ι, st, env, rs, re, g⟩ => ?_⟩
  by_cases hstr : ∃ x st1, evEs Γ [ia] env st = .ok [.str x] st1
  · obtain ⟨x, st1, hx⟩ := hstr
    refine (pi_enumS hg hm ha (star_cons hs)).run pins s σ H R I ?_
    refine tXs_then rs re g fun vs H1 ι1 st1 ds ed e1 p1 rs1 re1 r1 g1 => ?_
    rw [hx] at ed
    cases ed
    obtain ⟨v, rfl, rv⟩ := one_of r1
    cases rv
    exact ⟨_, rfl, Good.ok (R := rW M) g1 rs1 walk_enumS⟩
  refine (pi_enum hg hm ha (star_cons hs)).run pins s σ H R I ?_
  refine tXs_then rs re g fun vs H1 ι1 st1 ds ed e1 p1 rs1 re1 r1 g1 => ?_
  cases r1 with
  | nil => exact g1.elim
  | cons r t =>
    cases r with
    | @ref n ad hn =>
      cases t with
      | cons r2 t2 => exact g1.elim
      | nil =>
        simp only [srcOf] at g1
        cases qc : st1[n]? with
        | none => rw [qc] at g1; exact g1.elim
        | some cl =>
          rw [qc] at g1
          cases cl with
          | lst ds =>
            obtain ⟨vs, hH, rl⟩ := rs1.at_ _ _ _ qc hn
            exact ⟨_, vs, rfl, .inl (.inl hH), by rw [hK]; exact Good.ok (R := rW M) g1 rs1 (walk_enum hn)⟩
          | fro ds =>
            obtain ⟨vs, hH, rl⟩ := rs1.at_ _ _ _ qc hn
            exact ⟨_, vs, rfl, by rw [hK]; exact hH.sq, by rw [hK]; exact Good.ok (R := rW M) g1 rs1 (walk_enum hn)⟩
          | _ => exact g1.elim
    | str x =>
      cases t with
      | nil => exact (hstr ⟨x, st1, ed⟩).elim
      | cons _ _ => exact g1.elim
    | _ => cases t <;> exact g1.elim
theorem px_zip (hK : X.K = M.K) {p tpos : Pos} {elts : List Expr} {kk : Nat} (hg : Gl X "zip") (hm : X.mg "zip" = none) (ha : PA X [a, b] (tXs M W (evEs Γ [ia, ib]))) (hs : starB a = false) (hs2 : starB b = false) :
    PI X (.Tuple elts kk tpos) (.Call (.Name "zip" p) [a, b] [] pos) (tI M W Γ .zip [ia, ib]) := by
  have hn : ([b] : List Expr).any starB = false := by simp [hs2]
  refine pi_weak (pi_zip hg hm ha (star_cons hs) (star_none hn)) fun σ H R ⟨ι, st, env, rs, re, g⟩ => ?_
  refine tXs_then rs re g fun vs H1 ι1 st1 ds ed e1 p1 rs1 re1 r1 g1 => ?_
  cases r1 with
  | nil => exact g1.elim
  | cons r t =>
    cases t with
    | nil => cases r <;> exact g1.elim
    | cons r2 t2 =>
      cases r with
      | @ref m ad hm' =>
        cases r2 with
        | @ref n ad2 hn' =>
          cases t2 with
          | cons r3 t3 => exact g1.elim
          | nil =>
            simp only [srcOf] at g1
            cases q : itemsOf st1 (.ref m) with
            | none => rw [q] at g1; exact g1.elim
            | some xs =>
              cases q2 : itemsOf st1 (.ref n) with
              | none => rw [q, q2] at g1; exact g1.elim
              | some ys =>
                rw [q, q2] at g1
                obtain ⟨p', vs, e1, _, hq, rl⟩ := itemsL_ok rs1 (.ref (K := M.K) (ga := M.ga) (H := H1) hm') q
                cases e1
                obtain ⟨p', vs2, e1, _, hq2, rl2⟩ := itemsL_ok rs1 (.ref (K := M.K) (ga := M.ga) (H := H1) hn') q2
                cases e1
                exact ⟨_, _, vs, vs2, rfl, by rw [hK]; exact hq, by rw [hK]; exact hq2, by rw [hK]; exact Good.ok (R := rW M) g1 rs1 (walk_zip hm' hn')⟩
        | _ => cases t2 <;> exact g1.elim
      | _ => cases r2 <;> cases t2 <;> exact g1.elim
end
end RX

namespace RX
open PySem PySem.Spec PyProof.Rows L2
theorem wipe_set {σ : L2.St} {i : Nat} {x : Option V} : ∀ {vs : List Nat}, i ∈ vs → L2.wipe (σ.set i x) vs = L2.wipe σ vs := by
  intro vs
  induction vs with
  | nil => intro h; cases h
  | cons v vs ih =>
    intro h
    unfold L2.wipe
    by_cases hv : i ∈ vs
    · rw [ih hv]
    · have e : i = v := by
        rcases List.mem_cons.mp h with z | z
        · exact z
        · exact absurd z hv
      subst e
      have key : ∀ (vs : List Nat), i ∉ vs → (L2.wipe (σ.set i x) vs) = (L2.wipe σ vs).set i x := by
        intro vs
        induction vs with
        | nil => intro _; rfl
        | cons u us ih2 =>
          intro hu
          have hu1 : i ≠ u := fun z => hu (by rw [z]; exact List.mem_cons_self)
          unfold L2.wipe
          rw [ih2 (fun z => hu (List.mem_cons_of_mem _ z)), List.set_comm _ _ hu1]
      rw [key vs hv, List.set_set]
section
variable {X : Cx} {M : Mo} {W : WX} {Γ : Sem} {a b c e tg : Expr} {es : List Expr} {ia ib ic : E} {ies : List E} {pos : Pos}
def tG (M : Mo) (t : Tg) : TG := fun v σ H Q => ∃ (ι : List Addr) (st : Store) (env env' : EnvD) (d : D), RS M.K M.ga ι H st ∧ RE M.K M.ga ι H env σ ∧ RD M.K M.ga ι H d v ∧ put t d env = some env' ∧
  ∀ σ', RE M.K M.ga ι H env' σ' → (∀ vs, (∀ i ∈ tgIx t, i ∈ vs) → L2.wipe σ' vs = L2.wipe σ vs) → Q σ' H
def tGs (M : Mo) (ts : List Tg) : TGs := fun xs σ H Q => ∃ (ι : List Addr) (st : Store) (env env' : EnvD) (ds : List D), RS M.K M.ga ι H st ∧ RE M.K M.ga ι H env σ ∧ RDs M.K M.ga ι H ds xs ∧ putAll ts ds env = some env' ∧
  ∀ σ', RE M.K M.ga ι H env' σ' → (∀ vs, (∀ i ∈ tgIxs ts, i ∈ vs) → L2.wipe σ' vs = L2.wipe σ vs) → Q σ' H
theorem pg_weak {t t' : TG} (h : PG X e t) (w : ∀ v σ H R, t' v σ H R → t v σ H R) : PG X e t' := ⟨fun pins s σ H v u Q I r q => h.run pins s σ H v u Q I r (w v σ H Q q)⟩
theorem pgs_weak {t t' : TGs} (h : PGs X es t) (w : ∀ v σ H R, t' v σ H R → t v σ H R) : PGs X es t' := ⟨fun pins s σ H v u Q I r q => h.run pins s σ H v u Q I r (w v σ H Q q)⟩
theorem px_nm {i : Nat} {x : Str} (hN : X.N.Nodup) (hi : X.N[i]? = some x) (hx : Loc X.env.scope x) (hf : X.fn x = true ∨ X.env.scope.names.lookup x = some .local) : PG X (.Name x pos) (tG M (.nm i)) := by
  refine pg_weak (pg_name hN hi hx hf) fun v σ H R ⟨ι, st, env, env', d, rs, re, rd, hp, k⟩ => ?_
  simp only [put] at hp
  split at hp
  · cases hp
    refine k _ (re.set rd) fun vs hv => wipe_set (hv i ?_)
    simp [tgIx]
  · cases hp
theorem pxs_gnil : PGs X [] (tGs M []) := by
  refine pgs_weak pgs_nil fun v σ H R ⟨ι, st, env, env', ds, rs, re, rd, hp, k⟩ => ?_
  cases ds with
  | nil =>
    simp only [putAll] at hp
    cases hp
    cases rd
    exact ⟨rfl, k σ re fun _ _ => rfl⟩
  | cons d ds => simp only [putAll] at hp; cases hp
theorem assign_cons {en : Env} (h : starB e = false) : assignEach (e :: es) en = (false, assign e en) :: assignEach es en := by
  cases e <;> first | rfl | cases h
theorem pxs_gcons {t : Tg} {ts : List Tg} (hs : starB e = false) (h1 : PG X e (tG M t)) (h2 : PGs X es (tGs M ts)) : PGs X (e :: es) (tGs M (t :: ts)) := by
  refine pgs_weak (pgs_cons h1 h2 (by rw [assign_cons hs]; rfl)) fun v σ H R ⟨ι, st, env, env', ds, rs, re, rd, hp, k⟩ => ?_
  cases rd with
  | nil => simp only [putAll] at hp; cases hp
  | @cons d w ds ws r rr =>
    simp only [putAll] at hp
    cases q : put t d env with
    | none => rw [q] at hp; cases hp
    | some env1 =>
      rw [q] at hp
      refine ⟨w, ws, rfl, ι, st, env, env1, d, rs, re, r, q, fun σ1 re1 k1 => ?_⟩
      refine ⟨ι, st, env1, env', ds, rs, re1, rr, hp, fun σ2 re2 k2 => k σ2 re2 fun vs hv => ?_⟩
      rw [k2 vs fun i hi => hv i (by simp only [tgIxs]; exact List.mem_append_right _ hi), k1 vs fun i hi => hv i (by simp only [tgIxs]; exact List.mem_append_left _ hi)]
theorem assign_len : ∀ {es : List Expr} {en : Env}, (assignEach es en).length = es.length
  | [], _ => rfl
  | e :: es, en => by
    cases e <;> exact congrArg (· + 1) (assign_len (es := es) (en := en))
theorem assign_find : ∀ {es : List Expr} {en : Env}, es.any starB = false → (assignEach es en).findIdx? (·.1) = none
  | [], _, _ => rfl
  | e :: es, en, h => by
    rw [List.any_cons, Bool.or_eq_false_iff] at h
    rw [assign_cons h.1, List.findIdx?_cons]
    rw [assign_find (es := es) (en := en) h.2]
    rfl
theorem putAll_len : ∀ {ts : List Tg} {ds : List D} {env env' : EnvD}, putAll ts ds env = some env' → ds.length = ts.length
  | [], [], _, _, _ => rfl
  | [], _ :: _, _, _, h => by simp only [putAll] at h; cases h
  | _ :: _, [], _, _, h => by simp only [putAll] at h; cases h
  | t :: ts, d :: ds, env, env', h => by
    simp only [putAll] at h
    cases q : put t d env with
    | none => rw [q] at h; cases h
    | some env1 =>
      rw [q] at h
      simp [putAll_len (ts := ts) h]
theorem px_tp (hK : X.K = M.K) (hc : X.calm = true) {kk : Nat} {ts : List Tg} (hs : es.any starB = false) (hl : ts.length = es.length) (h : PGs X es (tGs M ts)) : PG X (.Tuple es kk pos) (tG M (.tp ts)) := by
  refine pg_weak (pg_tup hc h rfl (assign_find hs)) fun v σ H R ⟨ι, st, env, env', d, rs, re, rd, hp, k⟩ => ?_
  cases d with
  | tup ds =>
    simp only [put] at hp
    cases rd with
    | tup hq rl =>
      refine ⟨_, _, rfl, by rw [hK]; exact hq, ?_, ι, st, env, env', ds, rs, re, rl, hp, fun σ' re' k' => k σ' re' fun vs hv => k' vs fun i hi => hv i (by simp only [tgIx]; exact hi)⟩
      rw [assign_len, ← hl, ← putAll_len hp, rl.length]
  | _ => simp only [put] at hp; cases hp
def tCs (M : Mo) (W : WX) (Γ : Sem) (cs : List E) : TT := tXb M W (evCs Γ cs)
theorem pxs_cs0 : PTs X [] (tCs M W Γ []) := by
  refine ⟨fun pins s σ H Q I ⟨ι, st, env, rs, re, g⟩ => pts_nil.run pins s σ H Q I ?_⟩
  simp only [evCs] at g
  exact Good.ok (R := rEq) g rs rfl
theorem pxs_cs1 {e : Expr} (h : PT X e (tXb M W fun env st => truthO (evE Γ ia env st))) : PTs X [e] (tCs M W Γ [ia]) := by
  refine ⟨fun pins s σ H Q I ⟨ι, st, env, rs, re, g⟩ => (pts_one h).run pins s σ H Q I ?_⟩
  simp only [evCs] at g
  exact ⟨ι, st, env, rs, re, g⟩
abbrev W0 : WX := fun _ _ _ _ => False
theorem lc_read {k : ItK} {src : List E} {t : Tg} {own : List Nat} {cs : List E} {ie : E} (htg : (tgIx t).all (fun i => own.contains i) = true) {σ : L2.St} {H : Hp} {Q : VK} (h : tX M W (evE Γ (.lc k src t own cs ie)) σ H Q) :
    tLc (tI M W Γ k src) (tG M t) (tCs M W0 Γ cs) (tX M W0 (evE Γ ie)) own σ H Q := by
  obtain ⟨ι, st, env, rs, re, g⟩ := h
  simp only [evE] at g
  refine ⟨ι, st, env, rs, re, (Good.seq (R := rW M) g).mono fun J H1 ⟨ι1, st1, p, _, e1, p1, rs1, rw1, g1⟩ => ?_⟩
  intro D0 hD
  have re1 := re.mono e1 p1
  have hx : Ext H1 (upd H1 D0 (.lst [])) := .new hD
  have hp : Pre ι1 (ι1 ++ [D0]) := ⟨[D0], rfl⟩
  have rs2 : RS M.K M.ga (ι1 ++ [D0]) (upd H1 D0 (.lst [])) (st1 ++ [.lst []]) := rs1.new hD ⟨[], upd_same, .nil⟩
  have hD1 : (ι1 ++ [D0])[st1.length]? = some D0 := by rw [← rs1.len]; simp
  have g2 := Good.later (ι' := ι1 ++ [D0]) g1 hx hp
  generalize hturn : (fun d st2 => match put t d (wipeE env own) with
          | some env' => (evCs Γ cs env' st2).bind fun t st3 => match t with
            | true => (evE Γ ie env' st3).bind fun y st4 => .ok (some y) st4
            | false => .ok none st3
          | none => .stuck : D → Store → Out (Option D)) = turn at g2
  -- the invariant: what is left to walk is good
  refine ⟨fun i m H => ∃ (ι' : List Addr) (st' : Store), RS M.K M.ga ι' H st' ∧ Ext (upd H1 D0 (.lst [])) H ∧ Pre (ι1 ++ [D0]) ι' ∧ Good M (rD M) (wAt W σ) ι' H (lcLoop st1.length p.1 turn m i st') Q,
    ⟨p.2 + 1, ι1 ++ [D0], st1 ++ [.lst []], rs2, .refl _, .refl _, g2⟩, ?_⟩
  rintro i m H3 ⟨ι3, st3, rs3, e3, p3, g3⟩
  have hD3 : ι3[st1.length]? = some D0 := p3.get hD1
  cases m with
  | zero => exact g3.elim
  | succ m =>
    unfold lcLoop at g3
    cases hf : fetch p.1 i st3 with
    | none => rw [hf] at g3; exact g3.elim
    | some o =>
      rw [hf] at g3
      have wk := rw1 ι3 H3 st3 i o (hx.trans e3) (hp.trans p3) rs3 hf
      cases o with
      | none => exact .inl ⟨wk, Good.ok (R := rD M) g3 rs3 (.ref hD3)⟩
      | some d =>
        simp only at g3
        refine .inr ⟨wk.1, fun H' => ∃ (ι' : List Addr) (st' : Store), RS M.K M.ga ι' H' st' ∧ Ext (upd H1 D0 (.lst [])) H' ∧ Pre (ι1 ++ [D0]) ι' ∧ Good M (rD M) (wAt W σ) ι' H' (lcLoop st1.length p.1 turn m (i + 1) st') Q, fun H' hn => ⟨m, Nat.lt_succ_self m, hn⟩, fun x H4 hy => ?_⟩
        obtain ⟨e4, rs4, rd4⟩ := wk.2 x H4 hy
        have re4 : RE M.K M.ga ι3 H4 (wipeE env own) (L2.wipe σ own) := (re1.mono ((hx.trans e3).trans e4) (hp.trans p3)).wipe own
        cases hput : put t d (wipeE env own) with
        | none =>
          exfalso
          have : turn d st3 = .stuck := by rw [← hturn]; simp only [hput]
          rw [this] at g3; exact g3
        | some env' =>
          have ht : turn d st3 = (evCs Γ cs env' st3).bind fun t st3 => match t with
            | true => (evE Γ ie env' st3).bind fun y st4 => .ok (some y) st4
            | false => .ok none st3 := by rw [← hturn]; simp only [hput]
          refine ⟨ι3, st3, _, env', d, rs4, re4, rd4, hput, fun σ2 re5 hw => ⟨?_, ?_⟩⟩
          · have q := hw own fun i hi => by
              have := List.all_eq_true.mp htg i hi
              simpa using this
            have ww : L2.wipe (L2.wipe σ own) own = L2.wipe σ own := by
              have : ∀ (vs : List Nat) (σ : L2.St), (∀ i ∈ vs, ∀ x, σ[i]? ≠ some (some x)) → L2.wipe σ vs = σ := by
                intro vs
                induction vs with
                | nil => intro σ _; rfl
                | cons u us ih =>
                  intro σ hσ
                  unfold L2.wipe
                  rw [ih σ fun i hi => hσ i (List.mem_cons_of_mem _ hi)]
                  apply List.ext_getElem?
                  intro j
                  by_cases hj : j = u
                  · subst hj
                    by_cases hlt : j < σ.length
                    · rw [List.getElem?_set_self hlt]
                      have := hσ j List.mem_cons_self
                      cases q : σ[j]? with
                      | none =>
                        have := List.getElem?_eq_none_iff.mp q
                        omega
                      | some o =>
                        cases o with
                        | none => rfl
                        | some x => exact absurd q (this x)
                    · rw [List.getElem?_eq_none_iff.mpr (by simpa using Nat.le_of_not_lt hlt), List.getElem?_eq_none_iff.mpr (Nat.le_of_not_lt hlt)]
                  · rw [List.getElem?_set_ne (Ne.symm hj)]
              exact this own _ fun i hi x h => (L2.wipe_some h).2 hi
            rw [q, ww]
          · rw [ht] at g3
            -- the tests
            cases hc : evCs Γ cs env' st3 with
            | stuck => rw [hc] at g3; exact g3.elim
            | exc _ _ _ => rw [hc] at g3; exact g3.elim
            | ok b st5 =>
              rw [hc] at g3
              refine ⟨ι3, st3, env', rs4, re5, ?_⟩
              rw [hc]
              intro ι5 H5 b' e5 p5 rs5 r5
              cases r5
              cases b with
              | false =>
                rw [if_neg Bool.false_ne_true]
                exact ⟨ι5, st5, rs5, (e3.trans e4).trans e5, p3.trans p5, Good.later (ι' := ι5) (x := lcLoop st1.length p.1 turn m (i + 1) st5) g3 (e4.trans e5) p5⟩
              | true =>
                rw [if_pos rfl]
                have g3 : Good M (rD M) (wAt W σ) ι3 H3 (match ((evE Γ ie env' st5).bind fun y st4 => .ok (some y) st4 : Out (Option D)) with
                  | .ok none st1' => lcLoop st1.length p.1 turn m (i + 1) st1'
                  | .ok (some y) st1' => match st1'[st1.length]? with
                    | some (.lst acc) => if acc.length < SL then lcLoop st1.length p.1 turn m (i + 1) (st1'.set st1.length (.lst (acc ++ [y]))) else .stuck
                    | _ => .stuck
                  | _ => .stuck) Q := g3
                refine ⟨ι5, st5, env', rs5, re5.mono e5 p5, ?_⟩
                cases he : evE Γ ie env' st5 with
                | stuck => rw [he] at g3; exact g3.elim
                | exc _ _ _ => rw [he] at g3; exact g3.elim
                | ok y st6 =>
                  rw [he] at g3
                  have g3 : Good M (rD M) (wAt W σ) ι3 H3 (match st6[st1.length]? with
                    | some (.lst acc) => if acc.length < SL then lcLoop st1.length p.1 turn m (i + 1) (st6.set st1.length (.lst (acc ++ [y]))) else .stuck
                    | _ => .stuck) Q := g3
                  intro ι6 H6 v e6 p6 rs6 r6
                  have hD6 : ι6[st1.length]? = some D0 := (p3.trans (p5.trans p6)).get hD1
                  cases hcell : st6[st1.length]? with
                  | none => rw [hcell] at g3; exact g3.elim
                  | some cl =>
                    rw [hcell] at g3
                    cases cl with
                    | lst acc =>
                      simp only at g3
                      split at g3
                      · rename_i hl
                        obtain ⟨vs, hH6, rl⟩ := rs6.at_ _ _ _ hcell hD6
                        have ex : Ext H6 (upd H6 D0 (.lst (vs ++ [v]))) := .set (by rw [hH6]; trivial)
                        refine ⟨vs, hH6, by rw [← rl.length, ← SL_eq]; exact hl, ι6, _, rs6.write (c' := .lst (acc ++ [y])) hcell hD6 rfl rfl ⟨_, upd_same, (rl.append (.cons r6 .nil)).mono ex (.refl _)⟩, ((e3.trans e4).trans e5).trans (e6.trans ex), p3.trans (p5.trans p6), ?_⟩
                        exact Good.later g3 ((e4.trans e5).trans (e6.trans ex)) (p5.trans p6)
                      · exact g3.elim
                    | _ => exact g3.elim
end
end RX

namespace RX
open PySem PySem.Spec PyProof.Rows L2
structure PE1 (X : Cx) (e : Expr) (t : TE) : Prop where
  run : ∀ (pins : List (Addr × Obj)) (s : Shared) (σ : L2.St) (H : Hp) (Q : VK), Inv X pins σ H s → t σ H Q → wpAny (model X.prog X.w) X.A (eval e X.env) (fun u s' => 1 ≤ s'.toks ∧ EP X pins σ Q u s') X.xe s
structure PA1 (X : Cx) (es : List Expr) (t : TA) : Prop where
  run : ∀ (pos : Pos) (pins : List (Addr × Obj)) (s : Shared) (σ : L2.St) (H : Hp) (Q : List V → Hp → Prop), Inv X pins σ H s → t σ H Q → wpAny (model X.prog X.w) X.A (spliced (backTo pos (starEach es X.env))) (fun us s' => 1 ≤ s'.toks ∧ AP X pins σ Q us s') X.xe s
section
variable {X : Cx} {M : Mo} {W : WX} {Γ : Sem} {a b c e : Expr} {es : List Expr} {ia ib ic : E} {ies : List E} {pos : Pos} {te : TE} {t : TA}
theorem pe1_weak {t t' : TE} (h : PE1 X e t) (w : ∀ σ H Q, t' σ H Q → t σ H Q) : PE1 X e t' := ⟨fun pins s σ H Q I q => h.run pins s σ H Q I (w σ H Q q)⟩
theorem pa1_weak {t t' : TA} (h : PA1 X es t) (w : ∀ σ H Q, t' σ H Q → t σ H Q) : PA1 X es t' := ⟨fun pos pins s σ H Q I q => h.run pos pins s σ H Q I (w σ H Q q)⟩
theorem PE1.of (h : PE1 X e te) : PE X e te := ⟨fun pins s σ H Q I q => thn (h.run pins s σ H Q I q) fun _ _ x => x.2⟩
theorem pe1_int {i : Int} {k : Nat} : PE1 X (.Constant (.int i) k pos) (tC (.int i)) := ⟨fun _ s _ H _ I h => wpAny_Constant_int ⟨Nat.le_add_left 1 s.toks, .int i, H, I.tok _, ⟨_, rfl⟩, h⟩⟩
theorem pe1_str {x : Str} {k : Nat} : PE1 X (.Constant (.str x) k pos) (tC (.str x)) := ⟨fun _ s _ H _ I h => Calls.Constant_str ⟨Nat.le_add_left 1 s.toks, .str x, H, I.tok _, ⟨_, rfl⟩, h⟩⟩
theorem pa1_head (ha : PE1 X e te) (hr : PA X es t) (hs : starEach (e :: es) X.env = (false, eval e X.env) :: starEach es X.env) : PA1 X (e :: es) (tCons te t) := by
  refine ⟨fun pos pins s σ H Q I h => ?_⟩
  rw [hs]
  show wpAny _ _ (spliced ((false, eval e X.env) :: backTo pos (starEach es X.env))) _ _ s
  refine Calls.spliced_cons (thn (ha.run pins s σ H _ I h) fun u s1 ⟨hk, x, H1, I1, r1, q1⟩ => ?_)
  exact wpAny_mono (wpAny_toks (hr.run pos pins s1 σ H1 _ I1 q1)) (fun us s2 ⟨hk2, xs, H2, I2, r2, q2⟩ => ⟨Nat.le_trans hk hk2, x :: xs, H2, I2, .cons r1 r2, q2⟩) fun _ _ x => x.2
theorem pa1_tail (ha : PE X e te) (hr : PA1 X es t) (hs : starEach (e :: es) X.env = (false, eval e X.env) :: starEach es X.env) : PA1 X (e :: es) (tCons te t) := by
  refine ⟨fun pos pins s σ H Q I h => ?_⟩
  rw [hs]
  show wpAny _ _ (spliced ((false, eval e X.env) :: backTo pos (starEach es X.env))) _ _ s
  refine Calls.spliced_cons (thn (ha.run pins s σ H _ I h) fun u s1 ⟨x, H1, I1, r1, q1⟩ => ?_)
  exact thn (hr.run pos pins s1 σ H1 _ I1 q1) fun us s2 ⟨hk2, xs, H2, I2, r2, q2⟩ => ⟨hk2, x :: xs, H2, I2, .cons r1 r2, q2⟩
theorem cons_read {σ : L2.St} {H : Hp} {Q : List V → Hp → Prop} (h : tXs M W (evEs Γ (ia :: ies)) σ H Q) : tCons (tX M W (evE Γ ia)) (tXs M W (evEs Γ ies)) σ H Q := by
  obtain ⟨ι, st, env, rs, re, g⟩ := h
  simp only [evEs] at g
  refine tX_then rs re g fun x H1 ι1 st1 d _ e1 p1 rs1 re1 r1 g1 => ?_
  refine tXs_then rs1 re1 g1 fun y H2 ι2 st2 d2 _ e2 p2 rs2 re2 r2 g2 => ?_
  exact Good.ok (R := rDs M) g2 rs2 (.cons (r1.mono e2 p2) r2)
theorem pxs1_all {f : Expr → E} (h : ∀ e, PE X e (tX M W (evE Γ (f e)))) (h1 : ∀ e, litB e = true → PE1 X e (tX M W (evE Γ (f e)))) (hp : ∀ es : List Expr, es.any starB = false → PA X es (tXs M W (evEs Γ (es.map f)))) : ∀ {es : List Expr}, es.any starB = false → es.any litB = true → PA1 X es (tXs M W (evEs Γ (es.map f)))
  | [], _, hl => by cases hl
  | e :: es, hs, hl => by
    have hs0 := hs
    rw [List.any_cons, Bool.or_eq_false_iff] at hs
    cases q : litB e with
    | true => exact pa1_weak (pa1_head (h1 e q) (hp es hs.2) (star_cons hs.1)) fun _ _ _ z => cons_read z
    | false =>
      rw [List.any_cons, q, Bool.false_or] at hl
      exact pa1_weak (pa1_tail (h e) (pxs1_all h h1 hp hs.2 hl) (star_cons hs.1)) fun _ _ _ z => cons_read z
theorem evEs_len : ∀ (l : List E) (env : EnvD) (st : Store) (ds : List D) (st1 : Store), evEs Γ l env st = .ok ds st1 → ds.length = l.length := by
  intro l
  induction l with
  | nil => intro env st ds st1 h; simp only [evEs] at h; cases h; rfl
  | cons y l ih =>
    intro env st ds st1 h
    simp only [evEs] at h
    cases q : evE Γ y env st with
    | ok d st2 =>
      rw [q] at h
      have h : ((evEs Γ l env st2).bind fun ds st2 => Out.ok (d :: ds) st2) = .ok ds st1 := h
      cases q2 : evEs Γ l env st2 with
      | ok ds2 st3 =>
        rw [q2] at h
        cases h
        simp [ih _ _ _ _ q2]
      | exc c p st3 => rw [q2] at h; cases h
      | stuck => rw [q2] at h; cases h
    | exc c p st2 => rw [q] at h; cases h
    | stuck => rw [q] at h; cases h
theorem px_call1 {k : Nat} {f : Addr} {fd : FuncData} {ps : List Str} {x : Str} {p : Pos} {i : Nat} (F : FnOk X.prog X.w X.K X.mg X.base (L2.CX X.prog X.w) k f fd ps (spD M Γ.call i ps.length)) (hr : Room k X.A) (hg : Gl X x) (hm : X.mg x = some (.ref f))
    (hk : PySem.W.keepIn X.K (.ref f) = true) (hb : Binds X.K fd ps []) (tk : Takes X W) (ha : PA1 X (e :: es) (tXs M W (evEs Γ ies))) (hl : ies.length = ps.length) (hdb : (x == ("__debug__" : Str)) = false) (hs : (e :: es).any starB = false) :
    PE1 X (.Call (.Name x p) (e :: es) [] pos) (tX M W (evE Γ (.call i ies))) := by
  rw [List.any_cons, Bool.or_eq_false_iff] at hs
  refine ⟨fun pins s σ H Q I h => ?_⟩
  have key : tXs M W (evEs Γ ies) σ H fun vs H1 => spD M Γ.call i ps.length (vs ++ []) H1 Q (WE W σ) := by
    obtain ⟨ι, st, env, rs, re, g⟩ := h
    simp only [evE] at g
    refine tXs_then rs re g fun vs H1 ι1 st1 ds ed e1 p1 rs1 re1 r1 g1 => ?_
    rw [List.append_nil]
    exact ⟨ι1, st1, ds, rs1, r1, by rw [evEs_len _ _ _ _ _ ed, hl], g1⟩
  refine wpAny_Call_Name_kw (ld_glob I hg hm ?_ hdb)
  refine PySem.W.callWith_K (h₀ := X.base) I.ok.mod.kin hk (thn (ha.run pos pins s σ H _ I key) fun us s1 ⟨hk1, vs, H1, I1, r, q⟩ => ⟨I1.kIn, ?_⟩) (star_cons hs.1) (star_none hs.2)
  exact wpAny_mono (wpAny_toks (run_fnSD F hr hb .nil (passAt tk σ) I1 r q)) (fun u s2 ⟨hk2, q2⟩ => ⟨Nat.le_trans hk1 hk2, q2⟩) fun _ _ x => x.2
theorem replC_eq (c : Nat) (z s : List Nat) : Txt.replace ⟨s.toArray⟩ ⟨#[c]⟩ ⟨z.toArray⟩ = ⟨(replC c z s).toArray⟩ := by
  have h := StrLaws.replace_list (x := ⟨s.toArray⟩) (y := ⟨#[c]⟩) (z := ⟨z.toArray⟩) (Nat.le_refl 1)
  have e : ∀ l : List Nat, StrLaws.replL [c] z l = replC c z l := by
    intro l
    induction l with
    | nil => rw [StrLaws.replL_nil]; rfl
    | cons d l ih =>
      unfold replC
      rw [List.flatMap_cons]
      by_cases hd : d = c
      · subst hd
        rw [if_pos rfl, StrLaws.replL_hit (by simp) (by simp)]
        show z ++ StrLaws.replL [d] z l = _
        rw [ih]; rfl
      · rw [if_neg hd, StrLaws.replL_miss (by simpa using hd), ih]; rfl
  revert h
  generalize Txt.replace (⟨s.toArray⟩ : Str) ⟨#[c]⟩ ⟨z.toArray⟩ = y
  intro h
  cases y with
  | mk cps =>
    have h : cps.toList = StrLaws.replL [c] z s := by simpa using h
    rw [e] at h
    rw [← h]
theorem px_repl {o : Expr} {y z : Str} {j k : Nat} {c0 c1 apos : Pos} {cc : Nat} (ho : PE1 X o (tX M W (evE Γ ia))) (hy : y.cps.toList = [cc]) (hyz : (y == z) = false) (hb : superB o = false) (hline : (apos.endLine == pos.line) = true) :
    PE X (.Call (.Attribute o "replace" apos) [.Constant (.str y) j c0, .Constant (.str z) k c1] [] pos) (tX M W (evE Γ (.repl cc z.cps.toList ia))) := by
  refine ⟨fun pins s σ H Q I ⟨ι, st, env, rs, re, g⟩ => ?_⟩
  simp only [evE] at g
  have key : tX M W (evE Γ ia) σ H fun v H1 => ∃ x : List Nat, v = .str ⟨x.toArray⟩ ∧ x.length + (x.length + 1) * z.cps.toList.length ≤ SL ∧ Q (.str ⟨(replC cc z.cps.toList x).toArray⟩) H1 := by
    refine tX_then rs re g fun x H1 ι1 st1 d _ e1 p1 rs1 re1 r1 g1 => ?_
    cases r1 with
    | str x =>
      simp only at g1
      split at g1
      · rename_i hl
        exact ⟨x, rfl, hl, Good.ok (R := rD M) g1 rs1 (.str _)⟩
      · exact g1.elim
    | _ => exact g1.elim
  refine PySem.Call_method2 (base_plain hb) rfl hline (thn (ho.run pins s σ H _ I key) fun v s1 q => ?_)
  obtain ⟨hk, v', H1, I1, r1, x, e1, hz, q⟩ := q
  subst e1
  obtain ⟨tx, e2⟩ := r1
  subst e2
  have ey : y = ⟨#[cc]⟩ := by
    cases y with
    | mk cps =>
      have h : cps.toList = [cc] := hy
      have : cps = #[cc] := by rw [← Array.toArray_toList (xs := cps), h]
      rw [this]
  have ez : z = ⟨z.cps.toList.toArray⟩ := by simp
  refine ⟨"str", _, PySem.F.plainAttrs_str, PySem.F.slot_str_replace, PySem.F.type_str_replace, typeIs_str _ _ _, (fun _ e => nomatch e), Calls.callWith_builtin rfl (Calls.evalArgs_plain (Calls.spliced_cons ?_))⟩
  refine Calls.Constant_str (Calls.spliced_cons (Calls.Constant_str (Calls.spliced_nil ?_)))
  refine PySem.SC.replace (by show s1.toks ≠ 0; omega) (by show s1.toks + 1 ≠ 0; omega) (by show s1.toks ≠ s1.toks + 1; omega) hyz ?_ fun t' k => ⟨.str (Txt.replace ⟨x.toArray⟩ y z), H1, I1.tok k, ⟨t', rfl⟩, ?_⟩
  · have h1 : z.length = z.cps.toList.length := by simp [Str.length]
    rw [str_len, h1]
    exact hz
  · have : Txt.replace ⟨x.toArray⟩ y z = ⟨(replC cc z.cps.toList x).toArray⟩ := by
      rw [ey]
      have := replC_eq cc z.cps.toList x
      rw [← ez] at this
      exact this
    rw [this]
    exact q
end
end RX

namespace RX
open PySem PySem.Spec PyProof.Rows L2
def FnJ (M : Mo) (P : Program) (w : World) (mg : Str → Option Value) (base : Heap) (k : Nat) (call : Nat → List D → Store → Out D) : Prop :=
  ∀ (j : Nat) (ds : List D) (st : Store), call j ds st ≠ .stuck → ∃ (fd : FuncData) (pn : List Str), FnOk P w M.K mg base (L2.CX P w) k (M.ga j) fd pn (spD M call j pn.length) ∧ PySem.W.keepIn M.K (.ref (M.ga j)) = true ∧ Binds M.K fd pn [] ∧ pn.length = ds.length
structure ClsOk (M : Mo) (c : Nat) (ci : ClsI) : Prop where
  cls : Cls M.K (M.ga c)
  fl : ∀ f : Str, ci.fl.contains f = true → NoAttr M.K (M.ga c) f
  ms : ∀ (m : Str) (j ps : Nat), ci.ms.lookup m = some (j, ps) → Meth M.K (M.ga c) m (M.ga j)
  mkr : ∀ j ps : Nat, ci.ms.lookup ("__init__" : Str) = some (j, ps) → Mk M.K (M.ga c) (M.ga j)
  pr : ∀ (f : Str) (j : Nat), ci.pr.lookup f = some j → ∃ p, PropOf M.K (M.ga c) f p (M.ga j)
  isa : PySem.W.findIn M.K (.ref (M.ga c)) "__class__" = some (some (.builtin "object.__class__")) ∧ PySem.W.specialIn M.K (.builtin "object.__class__") "__get__" = some (some (.builtin "getset_descriptor.__get__")) ∧
    PySem.W.takesIn M.K (.builtin "object.__class__") = some true ∧ PySem.W.mroIn M.K (M.ga c) (.type "object") = some true
  out : ∀ y ∈ knownNms, PySem.W.kitOne M.K (.type y) (.ref (M.ga c)) = some false
theorem cx_no {P : Program} {w : World} {outer : List Env} {H : Hp} {s : Shared} {e : Value} {s' : Shared} (h : L2.CX P w outer H s (fun _ _ _ => False) e s') : False := by
  obtain ⟨a, B, H', cls, d, _, _, _, _, _, _, _, z⟩ := h
  exact z
theorem Good.calm {M : Mo} {α β : Type} {R : List Addr → Hp → α → β → Prop} {W W' : Value → Option Addr → Hp → Prop} {ι : List Addr} {H : Hp} {x : Out α} {Q : β → Hp → Prop} (g : Good M R W ι H x.calm Q) : Good M R W' ι H x Q := by
  cases x with
  | ok a st => exact g
  | exc c p st => exact g.elim
  | stuck => exact g.elim
theorem Good.ne {M : Mo} {α β : Type} {R : List Addr → Hp → α → β → Prop} {W : Value → Option Addr → Hp → Prop} {ι : List Addr} {H : Hp} {x : Out α} {Q : β → Hp → Prop} (g : Good M R W ι H x Q) : x ≠ .stuck := fun z => by
  rw [z] at g; exact g
theorem insAt_some {st : Store} {x : D} {c : Nat} {fs : List (Nat × D)} (h : insAt st x = some (c, fs)) : ∃ n, x = .ref n ∧ st[n]? = some (.ins c fs) := by
  unfold insAt at h
  split at h
  · rename_i n
    split at h
    · rename_i c' fs' q
      cases h
      exact ⟨n, rfl, q⟩
    · cases h
  · cases h
theorem ins_of {M : Mo} {ι : List Addr} {H : Hp} {st : Store} {x : D} {v : V} {c : Nat} {fs : List (Nat × D)} (rs : RS M.K M.ga ι H st) (r : RD M.K M.ga ι H x v) (h : insAt st x = some (c, fs)) :
    ∃ n a dx gs, x = .ref n ∧ v = .ref a ∧ ι[n]? = some a ∧ st[n]? = some (.ins c fs) ∧ H a = some (.ins (M.ga c) dx gs) ∧ RFs M.K M.ga ι H fs gs := by
  obtain ⟨n, rfl, hc⟩ := insAt_some h
  cases r with
  | ref e =>
    obtain ⟨dx, gs, q, rf⟩ := rs.at_ n _ _ hc e
    exact ⟨n, _, dx, gs, rfl, rfl, e, hc, q, rf⟩
theorem RDs.reverse {K : PySem.W.Frag} {ga : GA} {ι : List Addr} {H : Hp} : ∀ {ds : List D} {vs : List V}, RDs K ga ι H ds vs → RDs K ga ι H ds.reverse vs.reverse
  | _, _, .nil => .nil
  | _, _, .cons r t => by
    rw [List.reverse_cons, List.reverse_cons]
    exact (RDs.reverse t).append (.cons r .nil)
section
variable {X : Cx} {M : Mo} {W : WX} {Γ : Sem} {a b c o e : Expr} {es : List Expr} {ia ib ic io : E} {ies : List E} {pos : Pos} {k : Nat}
theorem px_attr (hK : X.K = M.K) (fj : FnJ M X.prog X.w X.mg X.base k Γ.call) (hr : Room (k + 1) X.A) {f : Str} {fi : Nat} {ws : List (Nat × Nat)} {cs : List Nat} (ho : PE X o (tX M W (evE Γ io))) (hb : superB o = false) (hf : nmS fi = f)
    (hw : ∀ c j, ws.lookup c = some j → Cls M.K (M.ga c) ∧ ∃ p, PropOf M.K (M.ga c) f p (M.ga j)) (hc : ∀ c, cs.contains c = true → Cls M.K (M.ga c) ∧ NoAttr M.K (M.ga c) f) :
    PE X (.Attribute o f pos) (tX M W (evE Γ (.attr ws cs fi io))) := by
  refine ⟨fun pins s σ H Q I ⟨ι, st, env, rs, re, g⟩ => ?_⟩
  simp only [evE, Out.bind] at g
  cases hx : evE Γ io env st with
  | stuck => rw [hx] at g; exact g.elim
  | exc cc q st1 =>
    rw [hx] at g
    exact (pe_fld ho (base_plain hb)).run pins s σ H Q I ⟨ι, st, env, rs, re, by rw [hx]; exact g⟩
  | ok x st1 =>
    rw [hx] at g
    simp only [attrO] at g
    cases hi : insAt st1 x with
    | none => rw [hi] at g; exact g.elim
    | some cf =>
      obtain ⟨cc, fs⟩ := cf
      rw [hi] at g
      simp only at g
      cases hl : ws.lookup cc with
      | some j =>
        rw [hl] at g
        obtain ⟨cl, p, hp⟩ := hw cc j hl
        have g' := Good.calm (W' := fun _ _ _ => False) g
        obtain ⟨fd, pn, F, hk, hbn, hpn⟩ := fj j [x] st1 g'.ne
        refine (pe_prop (C := M.ga cc) (E := fun _ _ _ => False) ho (by rw [hK]; exact cl) (by rw [hK]; exact hp) (by rw [hK]; exact F) hr (by rw [hK]; exact hbn) .nil (fun _ _ _ _ _ _ _ z => (cx_no z).elim) (base_plain hb)).run pins s σ H Q I ⟨ι, st, env, rs, re, ?_⟩
        rw [hx]
        intro ι1 H1 v e1 p1 rs1 r1
        obtain ⟨n, a', dx, gs, rfl, rfl, hn, hcell, hH, rf⟩ := ins_of rs1 r1 hi
        exact ⟨a', dx, gs, rfl, hH, ι1, st1, [.ref n], rs1, .cons r1 .nil, hpn.symm, Good.later (x := Γ.call j [.ref n] st1) g' e1 p1⟩
      | none =>
        rw [hl] at g
        simp only at g
        split at g
        · rename_i hcs
          obtain ⟨cl, na⟩ := hc cc hcs
          cases hd : fs.lookup fi with
          | none => rw [hd] at g; exact g.elim
          | some d =>
            rw [hd] at g
            refine (pe_fld ho (base_plain hb)).run pins s σ H Q I ⟨ι, st, env, rs, re, ?_⟩
            rw [hx]
            intro ι1 H1 v e1 p1 rs1 r1
            obtain ⟨n, a', dx, gs, rfl, rfl, hn, hcell, hH, rf⟩ := ins_of rs1 r1 hi
            obtain ⟨w, hw1, hw2⟩ := rf.get hd
            exact ⟨a', M.ga cc, dx, gs, w, rfl, hH, by rw [hK]; exact cl, by rw [hK]; exact na, by rw [← hf]; exact hw1, Good.okE (R := rD M) g e1 p1 rs1 hw2⟩
        · exact g.elim
theorem meth_run {m : Str} {apos : Pos} {A : Around} {s : Shared} {Q : Value → Shared → Prop} {E' : Value → Shared → Prop} (hb : superB o = false) (hs : es.any starB = false) (hl : es.length < 20) (hline : (apos.endLine == pos.line) = true)
    (h : wpAny (model X.prog X.w) A (eval o X.env) (fun ov s1 => wpAny (model X.prog X.w) A (holding [ov] (getMethod ov m (L2.plainOf o X.env)) >>= fun p => callWith pos p.1 p.2 (backTo pos (starEach es X.env)) (backToKw pos (keywordEach [] X.env))) Q E' s1) E' s) :
    wpAny (model X.prog X.w) A (eval (.Call (.Attribute o m apos) es [] pos) X.env) Q E' s := by
  have hfew : methodCallForm (es.length + ([] : List Keyword).length) (backTo pos (starEach es X.env)) (backToKw pos (keywordEach [] X.env)) = true := by
    unfold methodCallForm
    rw [star_all hs, Bool.true_and, Bool.and_eq_true]
    refine ⟨rfl, decide_eq_true ?_⟩
    show es.length + 0 + 0 < 30
    omega
  rw [arm_eval_Call, base_plain hb]
  refine wpAny_bind (wpAny_mono h (fun ov s1 h1 => ?_) fun _ _ z => z)
  refine wpAny_bind (wpAny_standAt ?_)
  rw [mcall_line hfew hline]
  exact h1
theorem insM {st : Store} {ws : List (Nat × Nat)} {mi j : Nat} {x : D} (h : methO ws mi x st = some j) : ∃ c fs, insAt st x = some (c, fs) ∧ fs.lookup mi = none ∧ ws.lookup c = some j := by
  unfold methO at h
  split at h
  · rename_i c fs q
    split at h
    · cases h
    · rename_i q2
      exact ⟨c, fs, q, q2, h⟩
  · cases h
theorem px_meth (hK : X.K = M.K) (fj : FnJ M X.prog X.w X.mg X.base k Γ.call) (hr : Room k X.A) (tk : Takes X W) {m : Str} {mi : Nat} {ws : List (Nat × Nat)} {apos : Pos} (ho : PE X o (tX M W (evE Γ io))) (ha : PA X es (tXs M W (evEs Γ ies))) (hb : superB o = false) (hm : encS m = mi)
    (hw : ∀ c j, ws.lookup c = some j → Cls M.K (M.ga c) ∧ Meth M.K (M.ga c) m (M.ga j)) (hs : es.any starB = false) (hl : es.length < 20) (hn : es.length = ies.length) (hline : (apos.endLine == pos.line) = true) :
    PE X (.Call (.Attribute o m apos) es [] pos) (tX M W (evE Γ (.meth ws mi io ies))) := by
  refine ⟨fun pins s σ H Q I ⟨ι, st, env, rs, re, g⟩ => ?_⟩
  simp only [evE] at g
  refine meth_run hb hs hl hline (thn (ho.run pins s σ H (fun v H1 => ∃ (ι1 : List Addr) (st1 : Store) (d : D), RS M.K M.ga ι1 H1 st1 ∧ RE M.K M.ga ι1 H1 env σ ∧ RD M.K M.ga ι1 H1 d v ∧
    Good M (rD M) (wAt W σ) ι1 H1 (match methO ws mi d st1 with | some j => (evEs Γ ies env st1).bind fun ds st2 => Γ.call j (d :: ds) st2 | none => .stuck) Q) I
    (tX_then rs re g fun v H1 ι1 st1 d _ e1 p1 rs1 re1 r1 g1 => ⟨ι1, st1, d, rs1, re1, r1, g1⟩)) fun u s1 ⟨v, H1, I1, rv, ι1, st1, d, rs1, re1, r1, g1⟩ => ?_)
  cases hmo : methO ws mi d st1 with
  | none => rw [hmo] at g1; exact g1.elim
  | some j =>
    rw [hmo] at g1
    obtain ⟨c, fs, hi, hlk, hwl⟩ := insM hmo
    obtain ⟨n, a', dx, gs, rfl, rfl, hnn, hcell, hH, rf⟩ := ins_of rs1 r1 hi
    obtain ⟨cl, hmt⟩ := hw c j hwl
    obtain rfl : u = Value.ref a' := rv
    refine wpAny_bind (wpAny_holding (getmeth_ok I1 hH (by rw [hK]; exact cl) (by rw [hK]; exact hmt) (rf.none (by rw [hm]; exact hlk)) ?_))
    have kp : PySem.W.keepIn X.K (.ref (M.ga j)) = true := by rw [hK]; exact hmt.kp
    cases es with
    | nil =>
      cases ies with
      | cons _ _ => cases hn
      | nil =>
        have g1 : Good M (rD M) (wAt W σ) ι1 H1 (Γ.call j [.ref n] st1) Q := by simpa only [evEs, Out.bind] using g1
        obtain ⟨fd, pn, F, _, hbn, hpn⟩ := fj j [.ref n] st1 g1.ne
        refine PySem.W.callWith_K0 (first := [.ref a']) I1.kIn kp (run_fnSD (us := [.ref a']) (vs := [.ref a']) (E := WE W) (by rw [hK]; exact F) hr (by rw [hK]; exact hbn) .nil (passAt tk σ) I1 (.cons rfl .nil) ?_)
        exact ⟨ι1, st1, [.ref n], rs1, .cons r1 .nil, hpn.symm, g1⟩
    | cons e es =>
      rw [List.any_cons, Bool.or_eq_false_iff] at hs
      refine PySem.W.callWith_K (first := [.ref a']) (h₀ := X.base) I1.ok.mod.kin kp (thn (ha.run pos pins s1 σ H1 (fun vs H2 => ∃ (ι2 : List Addr) (st2 : Store) (ds : List D), RS M.K M.ga ι2 H2 st2 ∧ RDs M.K M.ga ι2 H2 (.ref n :: ds) (.ref a' :: vs) ∧ Good M (rD M) (wAt W σ) ι2 H2 (Γ.call j (.ref n :: ds) st2) Q) I1
        (tXs_then rs1 re1 g1 fun vs H2 ι2 st2 ds _ e2 p2 rs2 re2 r2 g2 => ⟨ι2, st2, ds, rs2, .cons (r1.mono e2 p2) r2, g2⟩)) fun us s2 ⟨vs, H2, I2, rv2, ι2, st2, ds, rs2, r2, g2⟩ => ⟨I2.kIn, ?_⟩) (star_cons hs.1) (star_none hs.2)
      obtain ⟨fd, pn, F, _, hbn, hpn⟩ := fj j (.ref n :: ds) st2 g2.ne
      refine run_fnSD (us := .ref a' :: us) (vs := .ref a' :: vs) (E := WE W) (by rw [hK]; exact F) hr (by rw [hK]; exact hbn) .nil (passAt tk σ) I2 (.cons rfl rv2) ?_
      rw [List.append_nil]
      exact ⟨ι2, st2, .ref n :: ds, rs2, r2, hpn.symm, g2⟩
theorem run_makeS {pins : List (Addr × Obj)} {σ : L2.St} {H : Hp} {s : Shared} {Q : VK} {us : List Value} {vs : List V} {C f : Addr} {fd : FuncData} {ps : List Str} {sp : Sp} {E : XK} (Mk0 : Mk X.K C f) (F : FnOk X.prog X.w X.K X.mg X.base (L2.CX X.prog X.w) k f fd ps sp) (hr : Room (k + 1) X.A) (hb : Binds X.K fd ps [])
    (hx : PassesAt (L2.CX X.prog X.w) X σ E) (I : Inv X pins σ H s) (r : Vals vs us) (h : ∀ x dx, H x = none → H dx = none → dx ≠ x → sp (.ref x :: vs) (upd (upd H dx (.own x)) x (.ins C dx [])) (fun v H2 => v = .non ∧ Q (.ref x) H2) E) :
    wpAny (model X.prog X.w) X.A (call (.ref C) us) (EP X pins σ Q) X.xe s := by
  have n0 := Nat.le_refl s.heap.objs.size
  have q0 := h _ _ (I.hok.fresh (Nat.le_succ _)) (I.hok.fresh n0) (Nat.ne_of_lt (Nat.lt_succ_self _))
  have J := Inv.made (C := C) I
  have rr : Vals (V.ref (s.heap.objs.size + 1) :: vs) (Value.ref (s.heap.objs.size + 1) :: us) := .cons rfl r
  have len : (Value.ref (s.heap.objs.size + 1) :: us).length = ps.length := by rw [← rr.length]; exact F.len _ _ _ _ q0
  have bd := hb _ (Value.ref (s.heap.objs.size + 1) :: us) J.kIn (by rw [List.append_nil]; exact len)
  rw [List.append_nil] at bd
  have run := F.run _ X.stack _ _ _ _ _ _ E (hr.make C us []) (J.env0.make C us []) bd rr q0
  refine wpAny_call (make_map (f := f) I.kIn Mk0.makes Mk0.init (beq_iff_eq.mp Mk0.fn) (codeAny_mono run fun z s' hz => ?_))
  match z, hz with
  | .error e, hz => exact hx pins _ _ e s' J hz
  | .ok (.ret u), hz =>
    obtain ⟨v, H2, I2, rv, ev, q2⟩ := J.after hz
    subst ev
    exact ⟨rv, V.ref (s.heap.objs.size + 1), H2, I2, rfl, q2⟩
  | .ok .next, hz => exact False.elim hz
  | .ok .brk, hz => exact False.elim hz
  | .ok .cont, hz => exact False.elim hz
theorem px_make (hK : X.K = M.K) (fj : FnJ M X.prog X.w X.mg X.base k Γ.call) (hr : Room (k + 1) X.A) (tk : Takes X W) {x : Str} {p : Pos} {c j : Nat} (Mk0 : Mk M.K (M.ga c) (M.ga j)) (hg : Gl X x) (hm : X.mg x = some (.ref (M.ga c))) (ha : PA X (e :: es) (tXs M W (evEs Γ ies))) (hdb : (x == ("__debug__" : Str)) = false) (hs : (e :: es).any starB = false) :
    PE X (.Call (.Name x p) (e :: es) [] pos) (tX M W (evE Γ (.make c j ies))) := by
  rw [List.any_cons, Bool.or_eq_false_iff] at hs
  refine ⟨fun pins s σ H Q I ⟨ι, st, env, rs, re, g⟩ => ?_⟩
  simp only [evE] at g
  refine wpAny_Call_Name_kw (ld_glob I hg hm ?_ hdb)
  refine PySem.W.callWith_K (h₀ := X.base) I.ok.mod.kin (by rw [hK]; exact Mk0.kp) (thn (ha.run pos pins s σ H (fun vs H2 => ∃ (ι2 : List Addr) (st2 : Store) (ds : List D), RS M.K M.ga ι2 H2 st2 ∧ RDs M.K M.ga ι2 H2 ds vs ∧ Good M (rD M) (wAt W σ) ι2 H2 (madeO st2.length (Γ.call j (.ref st2.length :: ds) (st2 ++ [.ins c []]))) Q) I
        (tXs_then rs re g fun vs H2 ι2 st2 ds _ e2 p2 rs2 re2 r2 g2 => ⟨ι2, st2, ds, rs2, r2, g2⟩)) fun us s2 ⟨vs, H2, I2, rv2, ι2, st2, ds, rs2, r2, g2⟩ => ⟨I2.kIn, ?_⟩) (star_cons hs.1) (star_none hs.2)
  have nst : Γ.call j (.ref st2.length :: ds) (st2 ++ [.ins c []]) ≠ .stuck := fun z => by
    rw [z] at g2; exact g2
  obtain ⟨fd, pn, F, _, hbn, hpn⟩ := fj j _ _ nst
  refine run_makeS (E := WE W σ) (by rw [hK]; exact Mk0) (by rw [hK]; exact F) hr (by rw [hK]; exact hbn) (passAt tk σ) I2 rv2 fun a dx ea edx ne => ?_
  have x1 : Ext H2 (upd H2 dx (.own a)) := .new edx
  have ea1 : (upd H2 dx (.own a)) a = none := by rw [upd_ne (Ne.symm ne)]; exact ea
  have x2 : Ext (upd H2 dx (.own a)) (upd (upd H2 dx (.own a)) a (.ins (M.ga c) dx [])) := .new ea1
  have P : Pre ι2 (ι2 ++ [a]) := ⟨[a], rfl⟩
  have rs3 : RS M.K M.ga (ι2 ++ [a]) _ (st2 ++ [.ins c []]) := (rs2.fresh (o := .own a) edx).new (o := .ins (M.ga c) dx []) ea1 ⟨dx, [], upd_same, .nil⟩
  have hn : (ι2 ++ [a])[st2.length]? = some a := by rw [← rs2.len]; simp
  refine ⟨ι2 ++ [a], _, .ref st2.length :: ds, rs3, .cons (.ref hn) (r2.mono (x1.trans x2) P), hpn.symm, ?_⟩
  have g3 := Good.later g2 (x1.trans x2) P
  exact (Good.seq (R := rD M) g3).mono fun v H3 ⟨ι3, st3, d, _, e3, p3, rs4, r3, g4⟩ => by
    cases d <;> first | exact g4.elim | skip
    cases r3
    exact ⟨rfl, Good.ok (R := rD M) g4 rs4 (.ref (p3.get hn))⟩
theorem px_callv (hK : X.K = M.K) (fj : FnJ M X.prog X.w X.mg X.base k Γ.call) (hr : Room k X.A) (tk : Takes X W) {x : Str} {p : Pos} {i : Nat} (hN : X.N[i]? = some x) (hv : Vis X.env.scope x)
    (hdb : (x == ("__debug__" : Str)) = false) (hcd : (x == ("__classdict__" : Str)) = false) (ha : PA X (e :: es) (tXs M W (evEs Γ ies))) (hs : (e :: es).any starB = false) : PE X (.Call (.Name x p) (e :: es) [] pos) (tX M W (evE Γ (.callv i ies))) := by
  rw [List.any_cons, Bool.or_eq_false_iff] at hs
  refine ⟨fun pins s σ H Q I ⟨ι, st, env, rs, re, g⟩ => ?_⟩
  simp only [evE] at g
  split at g
  · rename_i j hj
    obtain ⟨v, hv1, hv2⟩ := re.2 i _ hj
    cases hv2
    cases he : evEs Γ ies env st with
    | stuck => rw [he] at g; exact g.elim
    | exc cc q st1 => rw [he] at g; exact g.elim
    | ok ds st1 =>
      rw [he] at g
      have g' : Good M (rD M) (wAt W σ) ι H (Γ.call j ds st1) Q := g
      obtain ⟨fd, pn, F, kp, hbn, hpn⟩ := fj j ds st1 g'.ne
      refine wpAny_Call_Name_kw (thn ((pe_var (pos := p) hN hv hdb hcd).run pins s σ H (fun w H1 => w = .ref (M.ga j) ∧ H1 = H) I ⟨_, hv1, rfl, rfl⟩) fun u s1 ⟨w, H1, I1, r1, ew, eH⟩ => ?_)
      subst ew; subst eH
      obtain rfl : u = Value.ref (M.ga j) := r1
      refine PySem.W.callWith_K (h₀ := X.base) I.ok.mod.kin (by rw [hK]; exact kp) (thn (ha.run pos pins s1 σ _ (fun vs H2 => ∃ (ι2 : List Addr), RS M.K M.ga ι2 H2 st1 ∧ RDs M.K M.ga ι2 H2 ds vs ∧ Good M (rD M) (wAt W σ) ι2 H2 (Γ.call j ds st1) Q) I1
        ⟨ι, st, env, rs, re, by rw [he]; exact fun ι2 H2 vs e2 p2 rs2 r2 => ⟨ι2, rs2, r2, Good.later g' e2 p2⟩⟩) fun us s2 ⟨vs, H2, I2, rv2, ι2, rs2, r2, g2⟩ => ⟨I2.kIn, ?_⟩) (star_cons hs.1) (star_none hs.2)
      refine run_fnSD (us := us) (vs := vs) (E := WE W) (by rw [hK]; exact F) hr (by rw [hK]; exact hbn) .nil (passAt tk σ) I2 rv2 ?_
      rw [List.append_nil]
      exact ⟨ι2, st1, ds, rs2, r2, hpn.symm, g2⟩
  · exact g.elim
theorem px_rev (hK : X.K = M.K) {s : Expr} {p3 : Pos} (h1 : rev1 (some s) = true) (ha : PE X a (tX M W (evE Γ ia))) : PE X (.Subscript a (.Slice none none (some s) p3) pos) (tX M W (evE Γ (.rev ia))) := by
  unfold rev1 at h1
  split at h1
  · rename_i q
    cases q
    refine pe_weak (pe_revL ha) fun σ H Q ⟨ι, st, env, rs, re, g⟩ => ?_
    simp only [evE] at g
    refine tX_then rs re g fun v H1 ι1 st1 d _ e1 p1 rs1 re1 r1 g1 => ?_
    unfold revO at g1
    split at g1
    · rename_i n
      split at g1
      · rename_i ds hds
        obtain ⟨a', vs, rfl, _, hq, rl⟩ := itemsL_ok rs1 r1 hds
        exact ⟨a', vs, rfl, by rw [hK]; exact hq, alloc_lst rs1 rl.reverse g1⟩
      · exact g1.elim
    · exact g1.elim
  · cases h1
theorem boot_len' : bootBuiltins ("len" : Str) = some (.builtin "len") := bltOf_boot (x := "len") (b := .len) (by decide +kernel)
theorem len_def {A : Around} {E : Value → Shared → Prop} {s : Shared} {x f : Addr} {Q : Value → Shared → Prop} (KX : M.K.In s.heap) (sp : PySem.W.Looks (model X.prog X.w) s.heap (specialOf (.ref x) "__len__") (some (.ref f))) (fn : PySem.W.isFn M.K (.ref f) = true)
    (h : wpAny (model X.prog X.w) A.in1 (call (.ref f) [.ref x]) (fun r s' => ∃ n u, r = .int n u ∧ 0 ≤ n ∧ n < 2 ^ 63 ∧ Q (.int n s'.toks) { s' with toks := s'.toks + 1 }) E s) : wpAny (model X.prog X.w) A (call (.builtin "len") [.ref x]) Q E s := by
  have tf : PySem.W.Looks (model X.prog X.w) s.heap (typeOf (.ref f)) (.type "function") := PySem.W.looks_typeIn KX (beq_iff_eq.mp fn)
  refine Calls.call_function_entry kind_len plain_len entry_len (args_len1 _) ?_
  unfold Builtin.«len»
  refine wpAny_bind (m := oneArg "len" _) (wpAny_pure ?_)
  have step : ∀ {Q' : Option Value → Shared → Prop}, wpAny (model X.prog X.w) A.in1 (call (.ref f) [.ref x]) (fun v => Q' (some v)) E s → wpAny (model X.prog X.w) A.in1 (callSpecial? (.ref x) (Str.ofString "__len__")) Q' E s := by
    intro Q' q
    unfold callSpecial?
    refine wpAny_bind (sp.here ?_)
    refine wpAny_holding (wpAny_bind ?_)
    unfold bindSpecial
    refine wpAny_bind (tf.here ?_)
    rw [if_pos (by decide)]
    first
      | exact wpAny_pure (wpAny_bind (wpAny_mono q (fun v s' z => wpAny_pure z) fun _ _ z => z))
      | exact wpAny_bind (wpAny_mono q (fun v s' z => wpAny_pure z) fun _ _ z => z)
  refine wpAny_bind (m := callSpecial? (.ref x) (Str.ofString "__len__")) (step (wpAny_mono h (fun r s' hr => ?_) fun _ _ y => y))
  obtain ⟨n, u, rfl, h0, h1, hq⟩ := hr
  refine wpAny_bind (wpAny_holding (wpAny_pure (wpAny_bind (wpAny_letGo ?_))))
  have z0 : ¬ n < 0 := by omega
  have z1 : ¬ n ≥ 2 ^ 63 := by omega
  simp only [if_neg z0, if_neg z1]
  first
    | exact wpAny_bind (wpAny_mkInt (wpAny_pure ⟨_, rfl, hq⟩))
    | (refine wpAny_bind (wpAny_pure ?_); exact wpAny_bind (wpAny_mkInt (wpAny_pure ⟨_, rfl, hq⟩)))
theorem px_lenO (hK : X.K = M.K) (hcalm : X.calm = true) (fj : FnJ M X.prog X.w X.mg X.base k Γ.call) (hr : Room (k + 1) X.A) {ws : List (Nat × Nat)} {p : Pos} (hw : ∀ c j, ws.lookup c = some j → Meth M.K (M.ga c) "__len__" (M.ga j)) (hg : Gl X "len") (hm : X.mg "len" = none)
    (ha : PE X a (tX M W (evE Γ ia))) (hs : starB a = false) : PE X (.Call (.Name "len" p) [a] [] pos) (tX M W (evE Γ (.lenO ws ia))) := by
  refine ⟨fun pins s σ H Q I ⟨ι, st, env, rs, re, g⟩ => ?_⟩
  simp only [evE] at g
  have hA : PA X [a] (tXs M W (evEs Γ [ia])) := pxs_cons hs ha pxs_nil
  refine wpAny_Call_Name_kw (ld_blt I hg hm boot_len' ?_)
  have g2 : Good M (rD M) (wAt W σ) ι H ((evEs Γ [ia] env st).bind fun ds st1 => match ds with | [d] => lenOO Γ.call ws d st1 | _ => .stuck) Q := by
    simp only [evEs, Out.bind]
    cases hx : evE Γ ia env st <;> (rw [hx] at g; exact g)
  refine PyProof.Rows.callWith_builtin1 (thn (hA.run pos pins s σ H (fun vs H1 => ∃ (ι1 : List Addr) (st1 : Store) (d : D), RS M.K M.ga ι1 H1 st1 ∧ RDs M.K M.ga ι1 H1 [d] vs ∧ Good M (rD M) (wAt W σ) ι1 H1 (lenOO Γ.call ws d st1) Q) I
    (tXs_then rs re g2 fun vs H1 ι1 st1 ds ed e1 p1 rs1 re1 r1 g1 => ?_)) fun us s1 ⟨vs, H1, I1, rv, ι1, st1, d, rs1, r1, g1⟩ => ?_) (star_cons hs) rfl
  · match ds, r1, g1 with
    | [d], r1, g1 => exact ⟨ι1, st1, d, rs1, r1, g1⟩
    | [], _, g1 => exact g1.elim
    | _ :: _ :: _, _, g1 => exact g1.elim
  · unfold lenOO at g1
    cases hi : insAt st1 d with
    | none =>
      rw [hi] at g1
      exact blt_ok (X := X) (M := M) (W := wAt W σ) hK hcalm hr .len pins s1 σ H1 vs us Q I1 rv ⟨ι1, st1, [d], rs1, r1, g1⟩
    | some cf =>
      obtain ⟨c, fs⟩ := cf
      rw [hi] at g1
      simp only at g1
      cases hl : ws.lookup c with
      | none => rw [hl] at g1; exact g1.elim
      | some j =>
        rw [hl] at g1
        obtain ⟨v, ev, rd⟩ := one_of r1
        subst ev
        obtain ⟨u, eu, ru⟩ := vals_one rv
        subst eu
        obtain ⟨n, a', dx, gs, rfl, rfl, hn, hcell, hH, rf⟩ := ins_of rs1 rd hi
        obtain rfl : u = Value.ref a' := ru
        have mt := hw c j hl
        simp only [lenI, Out.bind] at g1
        have nst : Γ.call j [.ref n] st1 ≠ .stuck := fun z => by
          rw [z] at g1; exact g1
        obtain ⟨fd, pn, F, _, hbn, hpn⟩ := fj j [.ref n] st1 nst
        obtain ⟨mA, O, _⟩ := ins_get I1.hok hH
        obtain ⟨od, J, _⟩ := O.look
        have KX : M.K.In s1.heap := hK ▸ I1.kIn
        refine len_def (M := M) KX (J.type.andThen (PySem.W.looks_findIn KX mt.at_)) mt.fn ?_
        have bd := hbn s1 [.ref a'] KX (by show 1 = pn.length; rw [hpn]; rfl)
        have sp : spD M Γ.call j pn.length [.ref a'] H1 (fun v H2 => ∃ i : Int, v = .int i ∧ 0 ≤ i ∧ i < 2 ^ 63 ∧ Q v H2) (fun _ _ _ => False) := by
          refine ⟨ι1, st1, [.ref n], rs1, .cons rd .nil, hpn.symm, ?_⟩
          cases hx : Γ.call j [.ref n] st1 with
          | stuck => exact absurd hx nst
          | exc _ _ _ => rw [hx] at g1; exact g1.elim
          | ok d2 st2 =>
            rw [hx] at g1
            intro ι2 H2 v e2 p2 rs2 r2
            simp only [Out.calm] at g1
            cases d2 <;> first | exact g1.elim | skip
            rename_i i
            simp only at g1
            split at g1
            · rename_i hi2
              cases r2
              exact ⟨i, rfl, hi2.1, hi2.2, Good.okE (R := rD M) g1 e2 p2 rs2 (.int i)⟩
            · exact g1.elim
        have hF : FnOk X.prog X.w X.K X.mg X.base (L2.CX X.prog X.w) k (M.ga j) fd pn (spD M Γ.call j pn.length) := by rw [hK]; exact F
        refine wpAny_call (codeAny_mono (hF.run X.A.in1 X.stack s1 H1 _ _ _ _ _ hr.in1 I1.env0.in1 bd (show Vals [V.ref a'] [Value.ref a'] from .cons rfl .nil) sp) fun z s' hz => ?_)
        match z, hz with
        | .error e, hz => exact (cx_no hz).elim
        | .ok (.ret u), hz =>
          obtain ⟨v, H2, I2, rv2, i, ev, h0, h1, q2⟩ := I1.after hz
          subst ev
          obtain ⟨t, rfl⟩ := rv2
          exact ⟨i, t, rfl, h0, h1, .int i, H2, I2.tok _, ⟨_, rfl⟩, q2⟩
        | .ok .next, hz => exact False.elim hz
        | .ok .brk, hz => exact False.elim hz
        | .ok .cont, hz => exact False.elim hz
theorem px_isO (hK : X.K = M.K) {c : Nat} {p : Pos} {ci : ClsI} (ck : ClsOk M c ci) (hg : Gl X "isinstance") (hm : X.mg "isinstance" = none) (ha : PA X [a, b] (tXs M W (evEs Γ [ia, .cst (.gl c)]))) (hs : starB a = false) (hs2 : starB b = false) :
    PE X (.Call (.Name "isinstance" p) [a, b] [] pos) (tX M W (evE Γ (.isO ia c))) := by
  have q2 : starEach [b] X.env = [(false, eval b X.env)] := star_cons hs2
  refine pe_weak (pe_callB call_isi hg hm (bltOf_boot (x := "isinstance") (b := .isinst) (by decide +kernel)) ha (by decide) (by decide) (star_cons hs) (by rw [q2]; rfl)) fun σ H Q ⟨ι, st, env, rs, re, g⟩ => ?_
  simp only [evE] at g
  have g2 : Good M (rD M) (wAt W σ) ι H ((evEs Γ [ia, .cst (.gl c)] env st).bind fun ds st1 => match ds with | [d, _] => isOO c d st1 | _ => .stuck) Q := by
    simp only [evEs, evE, Out.bind]
    cases hx : evE Γ ia env st <;> (rw [hx] at g; exact g)
  refine tXs_then rs re g2 fun vs H1 ι1 st1 ds ed e1 p1 rs1 re1 r1 g1 => ?_
  have hds : ∃ d, ds = [d, .gl c] := by
    simp only [evEs, evE, Out.bind] at ed
    cases hx : evE Γ ia env st <;> rw [hx] at ed <;> cases ed
    exact ⟨_, rfl⟩
  obtain ⟨d, rfl⟩ := hds
  obtain ⟨v, w, rfl, rd, rc⟩ := two_of r1
  cases rc
  simp only [isOO] at g1
  cases hi : insAt st1 d with
  | some cf =>
    obtain ⟨c', fs⟩ := cf
    rw [hi] at g1
    simp only at g1
    split at g1
    · rename_i hcc
      subst hcc
      obtain ⟨n, a', dx, gs, rfl, rfl, hn, hcell, hH, rf⟩ := ins_of rs1 rd hi
      obtain ⟨i1, i2, i3, i4⟩ := ck.isa
      refine ⟨.ref a', .ref (M.ga c'), .ref (M.ga c'), .ref (M.ga c'), true, rfl, .own _, .base (.ins hH (by rw [hK]; exact ck.cls) (by rw [hK]; exact i1) (by rw [hK]; exact i2) (by rw [hK]; exact i3) (by rw [hK]; exact i4)), ?_, Good.ok (R := rD M) g1 rs1 (.bl true)⟩
      unfold PySem.W.kitOne
      rw [if_pos (by simp)]
    · exact g1.elim
  | none =>
    rw [hi] at g1
    simp only at g1
    cases ht : tyName st1 d with
    | none => rw [ht] at g1; exact g1.elim
    | some y =>
      rw [ht] at g1
      obtain ⟨ty, hy⟩ := ty_ok rs1 rd ht
      exact ⟨v, .ref (M.ga c), .type y, .ref (M.ga c), false, rfl, .own _, by rw [hK]; exact ty, by rw [hK]; exact ck.out y hy, Good.ok (R := rD M) g1 rs1 (.bl false)⟩
theorem range_vals : ∀ {acc : List Value} {n b : Nat}, acc.length = n → (∀ (i : Nat) v, acc[i]? = some v → ∃ t, v = .int ((b + i : Nat) : Int) t) → Vals ((List.range' b n).map fun i => V.int (i : Nat)) acc
  | [], n, b, h, _ => by
    subst h
    exact .nil
  | v :: acc, n, b, h, k => by
    subst h
    obtain ⟨t, e⟩ := k 0 v rfl
    simp only [List.length_cons, List.range'_succ, List.map_cons]
    refine .cons ⟨t, by rw [e]; simp⟩ (range_vals rfl fun i w hw => ?_)
    obtain ⟨t, e⟩ := k (i + 1) w (by simpa using hw)
    exact ⟨t, by rw [e]; congr 1; omega⟩
theorem rds_ints {K : PySem.W.Frag} {ga : GA} {ι : List Addr} {H : Hp} : ∀ l : List Nat, RDs K ga ι H (l.map fun i => D.int (i : Nat)) (l.map fun i => V.int (i : Nat))
  | [] => .nil
  | _ :: l => .cons (.int _) (rds_ints l)
theorem px_lrng {p p2 pos2 : Pos} (hc : X.calm = true) (hg : Gl X "list") (hm : X.mg "list" = none) (hg2 : Gl X "range") (hm2 : X.mg "range" = none) (ha : PE X a (tX M W (evE Γ ia))) (h1 : starB a = false) :
    PE X (.Call (.Name "list" p) [.Call (.Name "range" p2) [a] [] pos2] [] pos) (tX M W (evE Γ (.lrng [ia]))) := by
  have hA : PA X [a] (tXs M W (evEs Γ [ia])) := pxs_cons h1 ha pxs_nil
  refine ⟨fun pins s σ H Q I ⟨ι, st, env, rs, re, g⟩ => ?_⟩
  simp only [evE] at g
  refine wpAny_Call_Name_kw (ld_blt I hg hm (by decide +kernel : bootBuiltins "list" = some (.type "list")) ?_)
  refine PyProof.Rows.callWith_type1 (Calls.spliced_cons (wpAny_Call_Name_kw (ld_blt I hg2 hm2 boot_range ?_))) rfl rfl
  refine PyProof.Rows.callWith_type1 (thn (hA.run pos2 pins s σ H (fun vs H1 => ∃ (ι1 : List Addr) (st1 : Store) (j : Int), RS M.K M.ga ι1 H1 st1 ∧ vs = [.int j] ∧ 0 ≤ j ∧ j ≤ SL ∧ Good M (rD M) (wAt W σ) ι1 H1 (alloc (.lst ((List.range j.toNat).map fun i => .int (i : Nat))) st1) Q) I
    (tXs_then rs re g fun vs H1 ι1 st1 ds ed e1 p1 rs1 re1 r1 g1 => ?_)) fun us s1 ⟨vs, H1, I1, rv, ι1, st1, j, rs1, ev, hj0, hj1, g1⟩ => ?_) (star_cons h1) rfl
  · unfold lrngO at g1
    split at g1
    · split at g1
      · rename_i j hj
        obtain ⟨v, ev, rd⟩ := one_of r1
        cases rd
        exact ⟨ι1, st1, j, rs1, ev, hj.1, hj.2, g1⟩
      · exact g1.elim
    · exact g1.elim
  · subst ev
    obtain ⟨u, eu, t, rfl⟩ := vals_one rv
    subst eu
    have hs : SL = 16777216 := rfl
    refine call_range_1 (Calls.spliced_nil ?_)
    have sz : Builtin.Range.rangeSize 0 j 1 = (j.toNat : Nat) := by rw [rangeSize_one]; split <;> omega
    have I2 : Inv X pins σ H1 { s1 with heap := s1.heap.push { cls := .type "range", data := .fields #[.int 0 s1.toks, .int j t, .int 1 (s1.toks + 1)] }, toks := s1.toks + 1 + 1 } := I1.kept fun b o e => Heap.get?_push_of_some _ e
    refine call_list_range (I1.ok.hd hc) (IsRange.new _ 0 j 1 s1.toks t (s1.toks + 1)) (small_one (by decide) (by decide) (by omega) (by omega)) sz (by omega) fun h' tk acc c hk hD hI => ?_
    have rl : Vals ((List.range j.toNat).map fun i => V.int (i : Nat)) acc.toList := by
      rw [List.range_eq_range']
      refine range_vals (by rw [Array.length_toList]; exact hI.1) fun i v hv => ?_
      obtain ⟨t', e⟩ := hI.2 i v (by simpa using hv)
      exact ⟨t', by rw [e]; congr 1; omega⟩
    refine ⟨.ref _, _, I2.laid (o := .lst ((List.range j.toNat).map fun i => V.int (i : Nat))) hk (Nat.le_refl _) ?_, rfl, ?_⟩
    · refine ⟨by simp; rw [sizeLine_eq]; omega, acc.toList, c, rl, ?_⟩
      simpa using hD
    · exact alloc_lst rs1 (rds_ints _) g1 _ (I2.hok.fresh (Nat.le_refl _))
end
end RX

namespace RX
open PySem PySem.Spec PyProof.Rows L2
theorem wipe_same : ∀ (vs : List Nat) (σ : L2.St), (∀ i ∈ vs, ∀ x, σ[i]? ≠ some (some x)) → L2.wipe σ vs = σ := by
  intro vs
  induction vs with
  | nil => intro σ _; rfl
  | cons u us ih =>
    intro σ hσ
    unfold L2.wipe
    rw [ih σ fun i hi => hσ i (List.mem_cons_of_mem _ hi)]
    apply List.ext_getElem?
    intro j
    by_cases hj : j = u
    · subst hj
      by_cases hlt : j < σ.length
      · rw [List.getElem?_set_self hlt]
        have := hσ j List.mem_cons_self
        cases q : σ[j]? with
        | none =>
          have := List.getElem?_eq_none_iff.mp q
          omega
        | some o =>
          cases o with
          | none => rfl
          | some x => exact absurd q (this x)
      · rw [List.getElem?_eq_none_iff.mpr (by simpa using Nat.le_of_not_lt hlt), List.getElem?_eq_none_iff.mpr (Nat.le_of_not_lt hlt)]
    · rw [List.getElem?_set_ne (Ne.symm hj)]
theorem wipe_twice (vs : List Nat) (σ : L2.St) : L2.wipe (L2.wipe σ vs) vs = L2.wipe σ vs := wipe_same vs _ fun i hi x h => (L2.wipe_some h).2 hi
section
variable {X : Cx} {M : Mo} {W : WX} {Γ : Sem} {pos : Pos}
theorem lc2_read {src src1 : List E} {t t1 : Tg} {own : List Nat} {ie : E} (htg : (tgIx t).all (fun i => own.contains i) = true) {σ : L2.St} {H : Hp} {Q : VK} (h : tX M W (evE Γ (.lc2 src t src1 t1 own ie)) σ H Q) :
    tLc2 (tI M W Γ .val src) (tG M t) (tCs M W0 Γ []) (tI M W0 Γ .val src1) (tG M t1) (tCs M W0 Γ []) (tX M W0 (evE Γ ie)) own (tgIx t1) σ H Q := by
  obtain ⟨ι, st, env, rs, re, g⟩ := h
  simp only [evE] at g
  refine ⟨ι, st, env, rs, re, (Good.seq (R := rW M) g).mono fun J H1 ⟨ι1, st1, p, _, e1, p1, rs1, rw1, g1⟩ => ?_⟩
  intro D0 hD
  have re1 := re.mono e1 p1
  have hx : Ext H1 (upd H1 D0 (.lst [])) := .new hD
  have hp : Pre ι1 (ι1 ++ [D0]) := ⟨[D0], rfl⟩
  have rs2 : RS M.K M.ga (ι1 ++ [D0]) (upd H1 D0 (.lst [])) (st1 ++ [.lst []]) := rs1.new hD ⟨[], upd_same, .nil⟩
  have hD1 : (ι1 ++ [D0])[st1.length]? = some D0 := by rw [← rs1.len]; simp
  have g2 := Good.later (ι' := ι1 ++ [D0]) g1 hx hp
  generalize hturn1 : (fun (env' : EnvD) (d1 : D) (st4 : Store) => (match put t1 d1 (wipeE env' (tgIx t1)) with
              | some env'' => evE Γ ie env'' st4
              | none => .stuck : Out D)) = turn1 at g2
  generalize hturn : (fun (d : D) (st2 : Store) => (match put t d (wipeE env own) with
          | some env' => (srcO .val (evEs Γ src1 env' st2)).bind fun p1 st3 => lcIn st1.length p1.1 (fun d1 st4 => match put t1 d1 (wipeE env' (tgIx t1)) with
              | some env'' => evE Γ ie env'' st4
              | none => .stuck) (p1.2 + 1) 0 st3
          | none => .stuck : Out Unit)) = turn at g2
  refine ⟨fun i m H => ∃ (ι' : List Addr) (st' : Store), RS M.K M.ga ι' H st' ∧ Ext (upd H1 D0 (.lst [])) H ∧ Pre (ι1 ++ [D0]) ι' ∧ Good M (rD M) (wAt W σ) ι' H (lcOut st1.length p.1 turn m i st') Q,
    ⟨p.2 + 1, ι1 ++ [D0], st1 ++ [.lst []], rs2, .refl _, .refl _, g2⟩, ?_⟩
  rintro i m H3 ⟨ι3, st3, rs3, e3, p3, g3⟩
  have hD3 : ι3[st1.length]? = some D0 := p3.get hD1
  cases m with
  | zero => exact g3.elim
  | succ m =>
    unfold lcOut at g3
    cases hf : fetch p.1 i st3 with
    | none => rw [hf] at g3; exact g3.elim
    | some o =>
      rw [hf] at g3
      have wk := rw1 ι3 H3 st3 i o (hx.trans e3) (hp.trans p3) rs3 hf
      cases o with
      | none => exact .inl ⟨wk, Good.ok (R := rD M) g3 rs3 (.ref hD3)⟩
      | some d =>
        simp only at g3
        refine .inr ⟨wk.1, fun H' => ∃ (ι' : List Addr) (st' : Store), RS M.K M.ga ι' H' st' ∧ Ext (upd H1 D0 (.lst [])) H' ∧ Pre (ι1 ++ [D0]) ι' ∧ Good M (rD M) (wAt W σ) ι' H' (lcOut st1.length p.1 turn m (i + 1) st') Q, fun H' hn => ⟨m, Nat.lt_succ_self m, hn⟩, fun x H4 hy => ?_⟩
        obtain ⟨e4, rs4, rd4⟩ := wk.2 x H4 hy
        have re4 : RE M.K M.ga ι3 H4 (wipeE env own) (L2.wipe σ own) := (re1.mono ((hx.trans e3).trans e4) (hp.trans p3)).wipe own
        cases hput : put t d (wipeE env own) with
        | none =>
          exfalso
          have : turn d st3 = .stuck := by rw [← hturn]; simp only [hput]
          rw [this] at g3; exact g3
        | some env' =>
          have ht : turn d st3 = (srcO .val (evEs Γ src1 env' st3)).bind fun p1 st3 => lcIn st1.length p1.1 (fun d1 st4 => match put t1 d1 (wipeE env' (tgIx t1)) with
              | some env'' => evE Γ ie env'' st4
              | none => .stuck) (p1.2 + 1) 0 st3 := by rw [← hturn]; simp only [hput]
          refine ⟨ι3, st3, _, env', d, rs4, re4, rd4, hput, fun σ2 re5 hw => ⟨?_, ?_⟩⟩
          · rw [hw own fun i hi => by
              have := List.all_eq_true.mp htg i hi
              simpa using this, wipe_twice]
          · rw [ht] at g3
            refine ⟨ι3, st3, env', rs4, re5, ?_⟩
            intro ι5 H5 b e5 p5 rs5 r5
            obtain rfl : true = b := r5
            rw [if_pos rfl]
            have re6 := re5.mono e5 p5
            refine ⟨ι5, st3, env', rs5, re6, ?_⟩
            cases hs : srcO .val (evEs Γ src1 env' st3) with
            | stuck => rw [hs] at g3; exact g3.elim
            | exc _ _ _ => rw [hs] at g3; exact g3.elim
            | ok q st5 =>
              rw [hs] at g3
              simp only [Out.bind] at g3
              intro ι6 H6 J1 e6 p6 rs6 rw6
              have re7 := re6.mono e6 p6
              have g6 := Good.later g3 (e4.trans (e5.trans e6)) (p5.trans p6)
              have hD6 : ι6[st1.length]? = some D0 := (p5.trans p6).get hD3
              have eb : Ext (upd H1 D0 (.lst [])) H6 := e3.trans (e4.trans (e5.trans e6))
              have pb : Pre (ι1 ++ [D0]) ι6 := p3.trans (p5.trans p6)
              generalize hti : (fun (d1 : D) (st4 : Store) => (match put t1 d1 (wipeE env' (tgIx t1)) with
                  | some env'' => evE Γ ie env'' st4
                  | none => .stuck : Out D)) = ti at g6
              refine ⟨fun j k H => ∃ (ι' : List Addr) (st' : Store), RS M.K M.ga ι' H st' ∧ Ext H6 H ∧ Pre ι6 ι' ∧ Good M (rD M) (wAt W σ) ι' H (match lcIn st1.length q.1 ti k j st' with | .ok _ st1' => lcOut st1.length p.1 turn m (i + 1) st1' | _ => .stuck) Q,
                ⟨q.2 + 1, ι6, st5, rs6, .refl _, .refl _, g6⟩, ?_⟩
              rintro j k H7 ⟨ι7, st7, rs7, e7, p7, g7⟩
              have hD7 : ι7[st1.length]? = some D0 := p7.get hD6
              cases k with
              | zero => exact g7.elim
              | succ k =>
                unfold lcIn at g7
                cases hf7 : fetch q.1 j st7 with
                | none => rw [hf7] at g7; exact g7.elim
                | some o =>
                  rw [hf7] at g7
                  have wk7 := rw6 ι7 H7 st7 j o e7 p7 rs7 hf7
                  cases o with
                  | none => exact .inl ⟨wk7, ι7, st7, rs7, eb.trans e7, pb.trans p7, g7⟩
                  | some d1 =>
                    simp only at g7
                    refine .inr ⟨wk7.1, fun H' => ∃ (ι' : List Addr) (st' : Store), RS M.K M.ga ι' H' st' ∧ Ext H6 H' ∧ Pre ι6 ι' ∧ Good M (rD M) (wAt W σ) ι' H' (match lcIn st1.length q.1 ti k (j + 1) st' with | .ok _ st1' => lcOut st1.length p.1 turn m (i + 1) st1' | _ => .stuck) Q, fun H' hn => ⟨k, Nat.lt_succ_self k, hn⟩, fun x8 H8 hy8 => ?_⟩
                    obtain ⟨e8, rs8, rd8⟩ := wk7.2 x8 H8 hy8
                    have re8 : RE M.K M.ga ι7 H8 (wipeE env' (tgIx t1)) (L2.wipe σ2 (tgIx t1)) := (re7.mono (e7.trans e8) p7).wipe _
                    cases hp8 : put t1 d1 (wipeE env' (tgIx t1)) with
                    | none =>
                      exfalso
                      have : ti d1 st7 = .stuck := by rw [← hti]; simp only [hp8]
                      rw [this] at g7; exact g7
                    | some env8 =>
                      have ht8 : ti d1 st7 = evE Γ ie env8 st7 := by rw [← hti]; simp only [hp8]
                      refine ⟨ι7, st7, _, env8, d1, rs8, re8, rd8, hp8, fun σ3 re9 hw9 => ⟨?_, ?_⟩⟩
                      · rw [hw9 (tgIx t1) fun i hi => hi, wipe_twice]
                      · rw [ht8] at g7
                        refine ⟨ι7, st7, env8, rs8, re9, ?_⟩
                        intro ι9 H9 b9 e9 p9 rs9 r9
                        obtain rfl : true = b9 := r9
                        rw [if_pos rfl]
                        refine ⟨ι9, st7, env8, rs9, re9.mono e9 p9, ?_⟩
                        cases he : evE Γ ie env8 st7 with
                        | stuck => rw [he] at g7; exact g7.elim
                        | exc _ _ _ => rw [he] at g7; exact g7.elim
                        | ok y st10 =>
                          rw [he] at g7
                          simp only at g7
                          intro ιa Ha v ea pa rsa ra
                          have hDa : ιa[st1.length]? = some D0 := (p9.trans pa).get hD7
                          cases hcell : st10[st1.length]? with
                          | none => rw [hcell] at g7; exact g7.elim
                          | some cl =>
                            rw [hcell] at g7
                            cases cl with
                            | lst acc =>
                              simp only at g7
                              by_cases hl : acc.length < SL
                              · rw [if_pos hl] at g7
                                obtain ⟨vs, hHa, rl⟩ := rsa.at_ _ _ _ hcell hDa
                                have ex : Ext Ha (upd Ha D0 (.lst (vs ++ [v]))) := .set (by rw [hHa]; trivial)
                                refine ⟨vs, hHa, by rw [← rl.length, ← SL_eq]; exact hl, ιa, _, rsa.write (c' := .lst (acc ++ [y])) hcell hDa rfl rfl ⟨_, upd_same, (rl.append (.cons ra .nil)).mono ex (.refl _)⟩, e7.trans (e8.trans (e9.trans (ea.trans ex))), p7.trans (p9.trans pa), ?_⟩
                                exact Good.later g7 (e8.trans (e9.trans (ea.trans ex))) (p9.trans pa)
                              · rw [if_neg hl] at g7; exact g7.elim
                            | _ => exact g7.elim
end
end RX

namespace RX
open PySem PySem.Spec PyProof.Rows L2
def freeNm (x : Str) : Bool := (bltOf x).isSome || (tyOf x).isSome || x == ("range" : Str) || x == ("enumerate" : Str) || x == ("zip" : Str)
structure GOk (g : G) (M : Mo) (P : Program) (w : World) (mg : Str → Option Value) (base : Heap) (k : Nat) (call : Nat → List D → Store → Out D) : Prop where
  fn : ∀ (x : Str) (i ps : Nat), gIx g x 0 = some (i, .fn ps) → ∃ (fd : FuncData) (pn : List Str), mg x = some (.ref (M.ga i)) ∧ FnOk P w M.K mg base (L2.CX P w) k (M.ga i) fd pn (spD M call i pn.length) ∧ PySem.W.keepIn M.K (.ref (M.ga i)) = true ∧ Binds M.K fd pn [] ∧ pn.length = ps
  cst : ∀ (x : Str) (i : Nat) (d : D), gIx g x 0 = some (i, .cst d) → ∃ (v : V) (u : Value), mg x = some u ∧ RelV v u ∧ ∀ ι H, RD M.K M.ga ι H d v
  free : ∀ x : Str, gIx g x 0 = none → freeNm x = true → mg x = none
  fj : FnJ M P w mg base k call
  clN : ∀ (x : Str) (c : Nat) (ci : ClsI), gIx g x 0 = some (c, .cls ci) → mg x = some (.ref (M.ga c))
  cl : ∀ (c : Nat) (x : Str) (ci : ClsI), g[c]? = some (x, .cls ci) → ClsOk M c ci
theorem look_mem {α : Type} {i : Nat} {p : α} : ∀ {l : List (Nat × α)}, l.lookup i = some p → (i, p) ∈ l
  | [], h => by cases h
  | (j, q) :: l, h => by
    rw [List.lookup_cons] at h
    split at h
    · rename_i e
      cases h
      have : i = j := by simpa using e
      rw [this]; exact List.mem_cons_self
    · exact List.mem_cons_of_mem _ (look_mem h)
theorem clses_get : ∀ {g : G} {b : Nat} {p : Nat × ClsI}, p ∈ clsesFrom g b → b ≤ p.1 ∧ ∃ x, g[p.1 - b]? = some (x, .cls p.2)
  | [], _, _, h => by cases h
  | (y, kd) :: r, b, p, h => by
    have rest : p ∈ clsesFrom r (b + 1) → b ≤ p.1 ∧ ∃ x, ((y, kd) :: r)[p.1 - b]? = some (x, .cls p.2) := fun h => by
      obtain ⟨h1, x, h2⟩ := clses_get h
      refine ⟨by omega, x, ?_⟩
      have : p.1 - b = (p.1 - (b + 1)) + 1 := by omega
      rw [this, List.getElem?_cons_succ]
      exact h2
    cases kd with
    | cls ci =>
      unfold clsesFrom at h
      rcases List.mem_cons.mp h with rfl | h
      · exact ⟨Nat.le_refl _, y, by simp⟩
      · exact rest h
    | _ => exact rest h
theorem clses_at {g : G} {p : Nat × ClsI} (h : p ∈ clsesOf g) : ∃ x, g[p.1]? = some (x, .cls p.2) := by
  obtain ⟨_, x, h⟩ := clses_get h
  exact ⟨x, by simpa using h⟩
theorem props_at {g : G} {f : Str} {c j : Nat} (h : (propsOf g f).lookup c = some j) : ∃ x ci, g[c]? = some (x, .cls ci) ∧ ci.pr.lookup f = some j := by
  obtain ⟨p, hp, e⟩ := List.mem_filterMap.mp (look_mem h)
  obtain ⟨x, hx⟩ := clses_at hp
  split at e
  · rename_i j' q
    cases e
    exact ⟨x, p.2, hx, q⟩
  · cases e
theorem flds_at {g : G} {f : Str} {c : Nat} (h : (fldsOf g f).contains c = true) : ∃ x ci, g[c]? = some (x, .cls ci) ∧ ci.fl.contains f = true := by
  obtain ⟨p, hp, e⟩ := List.mem_filterMap.mp (List.contains_iff_mem.mp h)
  obtain ⟨x, hx⟩ := clses_at hp
  split at e
  · rename_i q
    cases e
    exact ⟨x, p.2, hx, q⟩
  · cases e
theorem meths_at {g : G} {m : Str} {n c j : Nat} (h : (methsOf g m n).lookup c = some j) : ∃ x ci, g[c]? = some (x, .cls ci) ∧ ci.ms.lookup m = some (j, n + 1) := by
  obtain ⟨p, hp, e⟩ := List.mem_filterMap.mp (look_mem h)
  obtain ⟨x, hx⟩ := clses_at hp
  split at e
  · rename_i j' ps q
    split at e
    · rename_i hps
      cases e
      exact ⟨x, p.2, hx, by rw [q, hps]⟩
    · cases e
  · cases e
theorem clsB_at {g : G} {c : Nat} (h : clsB g c = true) : ∃ x ci, g[c]? = some (x, .cls ci) := by
  unfold clsB at h
  split at h
  · rename_i x ci q; exact ⟨x, ci, q⟩
  · cases h
theorem gIx_at : ∀ {g : G} {x : Str} {b i : Nat} {k : GK}, gIx g x b = some (i, k) → b ≤ i ∧ g[i - b]? = some (x, k)
  | [], _, _, _, _, h => by cases h
  | (y, k') :: r, x, b, i, k, h => by
    unfold gIx at h
    split at h
    · rename_i e
      cases h
      subst e
      simp
    · obtain ⟨h1, h2⟩ := gIx_at (g := r) h
      refine ⟨by omega, ?_⟩
      have : i - b = (i - (b + 1)) + 1 := by omega
      rw [this, List.getElem?_cons_succ]
      exact h2
structure CxO (g : G) (M : Mo) (Γ : Sem) (k : Nat) (cs : CS) (X : Cx) (W : WX) : Prop where
  K : X.K = M.K
  N : X.N = cs.N
  nd : X.N.Nodup
  sc : X.env.scope = cs.sc
  fn : ∀ x, cs.fnc x = true → X.fn x = true
  calm : X.calm = true
  room : Room (k + 1) X.A
  takes : Takes X W
  gok : GOk g M X.prog X.w X.mg X.base k Γ.call
theorem ixOf_get : ∀ {N : List Str} {x : Str} {b i : Nat}, ixOf N x b = some i → b ≤ i ∧ N[i - b]? = some x
  | [], _, _, _, h => by simp [ixOf] at h
  | y :: r, x, b, i, h => by
    unfold ixOf at h
    split at h
    · rename_i e
      cases h
      subst e
      simp
    · obtain ⟨h1, h2⟩ := ixOf_get (N := r) h
      refine ⟨by omega, ?_⟩
      have : i - b = (i - (b + 1)) + 1 := by omega
      rw [this, List.getElem?_cons_succ]
      exact h2
theorem ixOf_get0 {N : List Str} {x : Str} {i : Nat} (h : ixOf N x 0 = some i) : N[i]? = some x := by
  have := (ixOf_get h).2
  simpa using this
section
variable {g : G} {M : Mo} {Γ : Sem} {k : Nat} {cs : CS} {X : Cx} {W : WX} {a b c e tg : Expr} {es : List Expr} {pos : Pos}
theorem CxO.rm (O : CxO g M Γ k cs X W) : Room k X.A := O.room.mono (Nat.le_succ k)
theorem CxO.vis (O : CxO g M Γ k cs X W) {x : Str} (h : visB cs.sc x = true) : Vis X.env.scope x := by
  rw [O.sc]
  unfold visB at h
  unfold Vis
  split at h <;> first | (rename_i q; first | exact .inl q | exact .inr (.inl q) | exact .inr (.inr q)) | cases h
theorem CxO.gl (O : CxO g M Γ k cs X W) {x : Str} (h : globB cs.sc x = true) : Gl X x := by
  have e : X.env.kindOf x = X.env.scope.names.lookup x := rfl
  unfold Gl
  rw [e, O.sc]
  unfold globB at h
  split at h
  · rename_i q; exact q
  · cases h
theorem odd_parts {x : Str} (h : oddName x = false) : (x == ("__debug__" : Str)) = false ∧ (x == ("__classdict__" : Str)) = false ∧ x ≠ "__name__" := by
  unfold oddName at h
  rw [Bool.or_eq_false_iff, Bool.or_eq_false_iff] at h
  exact ⟨h.1.1, h.1.2, fun z => by rw [z] at h; exact absurd h.2 (by decide)⟩
theorem tyOf_boot {x : Str} {t : String} (h : tyOf x = some t) : bootBuiltins x = some (.type t) := by
  unfold tyOf at h
  rcases ite_some h with ⟨rfl, rfl⟩ | h
  · decide +kernel
  rcases ite_some h with ⟨rfl, rfl⟩ | h
  · decide +kernel
  rcases ite_some h with ⟨rfl, rfl⟩ | h
  · decide +kernel
  rcases ite_some h with ⟨rfl, rfl⟩ | h
  · decide +kernel
  rcases ite_some h with ⟨rfl, rfl⟩ | h
  · decide +kernel
  rcases ite_some h with ⟨rfl, rfl⟩ | h
  · decide +kernel
  cases h
theorem pe_tyN {x : Str} {t : String} (hg : Gl X x) (hm : X.mg x = none) (hv : bootBuiltins x = some (.type t)) (hn : x ≠ "__name__") (hd : (x == ("__debug__" : Str)) = false) : PE X (.Name x pos) (tC (.ty t)) :=
  ⟨fun pins s σ H Q I h => ld_blt I hg hm hv ⟨.ty t, H, I, rfl, h⟩ hn hd⟩
theorem free_blt {x : Str} {b : Blt} (h : bltOf x = some b) : freeNm x = true := by unfold freeNm; simp [h]
theorem free_ty {x : Str} {t : String} (h : tyOf x = some t) : freeNm x = true := by unfold freeNm; simp [h]
theorem px_name (O : CxO g M Γ k cs X W) {x : Str} : PE X (.Name x pos) (tX M W (evE Γ (cName g cs x))) := by
  unfold cName
  cases ho : oddName x with
  | true => exact pe_nev
  | false =>
    obtain ⟨o1, o2, o3⟩ := odd_parts ho
    rw [if_neg Bool.false_ne_true]
    cases hv : visB cs.sc x with
    | true =>
      rw [if_pos rfl]
      cases q : ixOf cs.N x 0 with
      | none => exact pe_nev
      | some i => exact px_var (by rw [O.N]; exact ixOf_get0 q) (O.vis hv) o1 o2
    | false =>
      rw [if_neg Bool.false_ne_true]
      cases hg : globB cs.sc x with
      | false => exact pe_nev
      | true =>
        rw [if_pos rfl]
        have G := O.gl hg
        cases q : gIx g x 0 with
        | none =>
          cases qt : tyOf x with
          | none => exact pe_nev
          | some t => exact px_cst (pe_tyN G (O.gok.free x q (free_ty qt)) (tyOf_boot qt) o3 o1) fun _ _ => .ty t
        | some p =>
          obtain ⟨i, gk⟩ := p
          cases gk with
          | fn ps =>
            obtain ⟨fd, pn, hm, _⟩ := O.gok.fn x i ps q
            exact px_cst (pe_glob (v := .ref (M.ga i)) G hm rfl o1) fun _ _ => .gl i
          | cst d =>
            obtain ⟨v, u, hm, rv, rd⟩ := O.gok.cst x i d q
            exact px_cst (pe_glob G hm rv o1) rd
          | cls ci => exact px_cst (pe_glob (v := .ref (M.ga i)) G (O.gok.clN x i ci q) rfl o1) fun _ _ => .gl i
          | _ => exact pe_nev
theorem px_cBlt (O : CxO g M Γ k cs X W) {x : Str} {p : Pos} {f : Expr → E} {b : Blt} (h : ∀ e, PE X e (tX M W (evE Γ (f e)))) (hs : (e :: es).any starB = false) (G : Gl X x) (hm : X.mg x = none) (ho : oddName x = false) (hb : bltOf x = some b)
    (ha : PA X (e :: es) (tXs M W (evEs Γ ((e :: es).map f)))) : PE X (.Call (.Name x p) (e :: es) [] pos) (tX M W (evE Γ (cBlt g b ((e :: es).map f)))) := by
  unfold cBlt
  split
  · rename_i b' ie hie
    split
    · rw [← hie]; exact px_blt O.K O.calm O.rm hb G hm ho ha hs
    · have hx : x = "len" := by
        unfold bltOf at hb
        repeat (rcases ite_some hb with ⟨rfl, z⟩ | hb; · first | rfl | cases z)
        cases hb
      subst hx
      cases es with
      | cons _ _ => simp at hie
      | nil =>
        have : ie = f e := by simpa using hie.symm
        subst this
        rw [List.any_cons, Bool.or_eq_false_iff] at hs
        exact px_lenO O.K O.calm O.gok.fj O.room (fun c j hl => by
          obtain ⟨y, ci, h1, h2⟩ := meths_at hl
          exact (O.gok.cl c y ci h1).ms _ _ _ h2) G hm (h e) hs.1
  · rename_i b' ia c hie
    split
    · rename_i hc
      have hx : x = "isinstance" := by
        unfold bltOf at hb
        repeat (rcases ite_some hb with ⟨rfl, z⟩ | hb; · first | rfl | cases z)
        cases hb
      subst hx
      obtain ⟨y, ci, hy⟩ := clsB_at hc
      match es, hie, ha, hs with
      | [e2], hie, ha, hs =>
        have e1 : f e = ia ∧ f e2 = .cst (.gl c) := by simpa using hie
        rw [List.any_cons, List.any_cons, Bool.or_eq_false_iff, Bool.or_eq_false_iff] at hs
        have ha : PA X [e, e2] (tXs M W (evEs Γ [f e, f e2])) := ha
        rw [e1.1, e1.2] at ha
        exact px_isO O.K (O.gok.cl c y ci hy) G hm ha hs.1 hs.2.1
      | [], hie, _, _ => simp at hie
      | _ :: _ :: _, hie, _, _ => simp at hie
    · exact pe_nev
  · exact px_blt O.K O.calm O.rm hb G hm ho ha hs
theorem px_callN (O : CxO g M Γ k cs X W) {x : Str} {p : Pos} {f : Expr → E} (h : ∀ e, PE X e (tX M W (evE Γ (f e)))) (ha : PA X es (tXs M W (evEs Γ (es.map f)))) (hs : es.any starB = false) : PE X (.Call (.Name x p) es [] pos) (tX M W (evE Γ (cCallN g cs x (es.map f)))) := by
  have hl : es.length = (es.map f).length := by simp
  unfold cCallN
  cases ho : oddName x with
  | true => exact pe_nev
  | false =>
    rw [if_neg Bool.false_ne_true]
    obtain ⟨o1, o2, o3⟩ := odd_parts ho
    cases hv : visB cs.sc x with
    | true =>
      rw [if_pos rfl]
      cases q : ixOf cs.N x 0 with
      | none => exact pe_nev
      | some i =>
        simp only
        cases es with
        | nil => exact pe_nev
        | cons e es => exact px_callv O.K O.gok.fj O.rm O.takes (by rw [O.N]; exact ixOf_get0 q) (O.vis hv) o1 o2 ha hs
    | false =>
      rw [if_neg Bool.false_ne_true]
      cases hg : globB cs.sc x with
      | false => exact pe_nev
      | true =>
        rw [if_neg (by simp)]
        have G := O.gl hg
        cases q : gIx g x 0 with
        | some pr =>
          obtain ⟨i, gk⟩ := pr
          cases gk with
          | fn ps =>
            simp only
            by_cases hp : (es.map f).length = ps
            · rw [if_pos hp]
              obtain ⟨fd, pn, hm, F, hk, hb, hpn⟩ := O.gok.fn x i ps q
              have F' : FnOk X.prog X.w X.K X.mg X.base (L2.CX X.prog X.w) k (M.ga i) fd pn (spD M Γ.call i pn.length) := by rw [O.K]; exact F
              exact px_call F' O.rm G hm (by rw [O.K]; exact hk) (by rw [O.K]; exact hb) O.takes ha (by rw [hpn]; exact hp) hl o1 hs
            · rw [if_neg hp]; exact pe_nev
          | cls ci =>
            simp only
            cases qi : ci.ms.lookup ("__init__" : Str) with
            | none => exact pe_nev
            | some jp =>
              obtain ⟨j, ps⟩ := jp
              simp only
              split
              · rename_i hc
                cases es with
                | nil => exact absurd hc.2 (by simp)
                | cons e es =>
                  have hx := (gIx_at q).2
                  rw [Nat.sub_zero] at hx
                  exact px_make O.K O.gok.fj O.room O.takes ((O.gok.cl i x ci hx).mkr j ps qi) G (O.gok.clN x i ci q) ha o1 hs
              · exact pe_nev
          | _ => exact pe_nev
        | none =>
          cases es with
          | nil => exact pe_nev
          | cons e es =>
            cases qb : bltOf x with
            | none => exact pe_nev
            | some b => exact px_cBlt O h hs G (O.gok.free x q (free_blt qb)) ho qb ha
theorem px_callM (O : CxO g M Γ k cs X W) {m : Str} {o : Expr} {io : E} {apos : Pos} {ies : List E} (ho : PE X o (tX M W (evE Γ io))) (ha : PA X es (tXs M W (evEs Γ ies))) (hl : es.length = ies.length) (hs : es.any starB = false) :
    PE X (.Call (.Attribute o m apos) es [] pos) (tX M W (evE Γ (cCallM g m apos pos o io ies))) := by
  unfold cCallM
  cases hc : (superB o || !(apos.endLine == pos.line) || !decide (ies.length < 20)) with
  | true => exact pe_nev
  | false =>
    rw [if_neg Bool.false_ne_true]
    rw [Bool.or_eq_false_iff, Bool.or_eq_false_iff] at hc
    obtain ⟨⟨h1, h3⟩, h4⟩ := hc
    split
    · cases ies with
      | nil => exact pe_nev
      | cons ie ies =>
        cases q : metOf m with
        | none => exact pe_nev
        | some k' =>
          obtain ⟨rfl, hd⟩ := metOf_nm q
          cases es with
          | nil => cases hl
          | cons e es => exact px_met O.K hd ho ha h1 hs (by rw [hl]; simpa using h4) (by simpa using h3)
    · split
      · exact pe_nev
      · exact px_meth O.K O.gok.fj O.rm O.takes ho ha h1 rfl (fun c j hj => by
          obtain ⟨y, ci, e1, e2⟩ := meths_at hj
          have ck := O.gok.cl c y ci e1
          exact ⟨ck.cls, ck.ms _ _ _ e2⟩) hs (by rw [hl]; simpa using h4) hl (by simpa using h3)
theorem px_cAttr (O : CxO g M Γ k cs X W) {f : Str} {o : Expr} {io : E} (ho : PE X o (tX M W (evE Γ io))) : PE X (.Attribute o f pos) (tX M W (evE Γ (cAttr g f o io))) := by
  unfold cAttr
  cases hc : (superB o || !decide (nmS (encS f) = f)) with
  | true => exact pe_nev
  | false =>
    rw [if_neg Bool.false_ne_true]
    rw [Bool.or_eq_false_iff] at hc
    refine px_attr O.K O.gok.fj O.room ho hc.1 (by simpa using hc.2) (fun c j hj => ?_) fun c hj => ?_
    · obtain ⟨y, ci, e1, e2⟩ := props_at hj
      have ck := O.gok.cl c y ci e1
      exact ⟨ck.cls, ck.pr _ _ e2⟩
    · obtain ⟨y, ci, e1, e2⟩ := flds_at hj
      have ck := O.gok.cl c y ci e1
      exact ⟨ck.cls, ck.fl _ e2⟩
theorem px_tg (O : CxO g M Γ k cs X W) : ∀ (n : Nat) (e : Expr) (t : Tg), cTg n cs e = some t → PG X e (tG M t)
  | 0, _, _, h => by unfold cTg at h; cases h
  | n + 1, e, t, h => by
    unfold cTg at h
    cases e with
    | Name x p =>
      simp only at h
      cases q : lookS cs.sc x with
      | none => rw [q] at h; cases h
      | some kd =>
        rw [q] at h
        have ql : X.env.scope.names.lookup x = some kd := by rw [O.sc]; exact q
        cases kd with
        | «local» =>
          simp only at h
          cases qi : ixOf cs.N x 0 with
          | none => rw [qi] at h; cases h
          | some i =>
            rw [qi] at h; cases h
            exact px_nm O.nd (by rw [O.N]; exact ixOf_get0 qi) (.inl ql) (.inr ql)
        | cell =>
          simp only at h
          split at h
          · rename_i hf
            cases qi : ixOf cs.N x 0 with
            | none => rw [qi] at h; cases h
            | some i =>
              rw [qi] at h; cases h
              exact px_nm O.nd (by rw [O.N]; exact ixOf_get0 qi) (.inr ql) (.inl (O.fn x hf))
          · cases h
        | _ => cases h
    | Tuple es kk p =>
      simp only at h
      split at h
      · cases h
      · rename_i hs
        have hs : es.any starB = false := by simpa using hs
        cases q : cTg.cTgs (cTg n cs) es with
        | none => rw [q] at h; cases h
        | some ts =>
          rw [q] at h; cases h
          have key : ∀ (es : List Expr) (ts : List Tg), es.any starB = false → cTg.cTgs (cTg n cs) es = some ts → ts.length = es.length ∧ PGs X es (tGs M ts) := by
            intro es
            induction es with
            | nil => intro ts _ h; unfold cTg.cTgs at h; cases h; exact ⟨rfl, pxs_gnil⟩
            | cons e es ih =>
              intro ts hs h
              rw [List.any_cons, Bool.or_eq_false_iff] at hs
              unfold cTg.cTgs at h
              cases q1 : cTg n cs e with
              | none => rw [q1] at h; cases h
              | some t =>
                rw [q1] at h
                simp only at h
                cases q2 : cTg.cTgs (cTg n cs) es with
                | none => rw [q2] at h; cases h
                | some ts' =>
                  rw [q2] at h; cases h
                  obtain ⟨hl, hp⟩ := ih ts' hs.2 q2
                  exact ⟨by simp [hl], pxs_gcons hs.1 (px_tg O n e t q1) hp⟩
          obtain ⟨hl, hp⟩ := key es ts hs q
          exact px_tp O.K O.calm hs hl hp
    | _ => cases h
def tGS (M : Mo) (t : Tg) : TG := fun v σ H Q => ∃ (ι : List Addr) (st : Store) (env env' : EnvD) (d : D), RS M.K M.ga ι H st ∧ RE M.K M.ga ι H env σ ∧ RD M.K M.ga ι H d v ∧ putS st t d env = some env' ∧
  ∀ σ', RE M.K M.ga ι H env' σ' → Q σ' H
theorem putS_ne {st : Store} {t : Tg} {d : D} {env : EnvD} (h : ∀ ts n, t = .tp ts → d = .ref n → False) : putS st t d env = put t d env := by
  unfold putS
  split
  · exact (h _ _ rfl rfl).elim
  · rfl
theorem px_tgS (O : CxO g M Γ k cs X W) (n : Nat) (e : Expr) (t : Tg) (h : cTg n cs e = some t) : PG X e (tGS M t) := by
  have base := px_tg O n e t h
  refine ⟨fun pins s σ H v u Q I r ⟨ι, st, env, env', d, rs, re, rd, hp, kk⟩ => ?_⟩
  by_cases hc : ∃ ts m, t = .tp ts ∧ d = .ref m
  · obtain ⟨ts, m, rfl, rfl⟩ := hc
    cases n with
    | zero => unfold cTg at h; cases h
    | succ n =>
      unfold cTg at h
      cases e with
      | Name x p =>
        simp only at h
        split at h
        · split at h <;> cases h
        · split at h
          · split at h <;> cases h
          · cases h
        · cases h
      | Tuple es kd p =>
        simp only at h
        split at h
        · cases h
        · rename_i hs
          have hs : es.any starB = false := by simpa using hs
          cases q : cTg.cTgs (cTg n cs) es with
          | none => rw [q] at h; cases h
          | some ts' =>
            rw [q] at h; cases h
            have key : ∀ (es : List Expr) (ts : List Tg), es.any starB = false → cTg.cTgs (cTg n cs) es = some ts → ts.length = es.length ∧ PGs X es (tGs M ts) := by
              intro es
              induction es with
              | nil => intro ts _ h; unfold cTg.cTgs at h; cases h; exact ⟨rfl, pxs_gnil⟩
              | cons e es ih =>
                intro ts hs h
                rw [List.any_cons, Bool.or_eq_false_iff] at hs
                unfold cTg.cTgs at h
                cases q1 : cTg n cs e with
                | none => rw [q1] at h; cases h
                | some t =>
                  rw [q1] at h
                  simp only at h
                  cases q2 : cTg.cTgs (cTg n cs) es with
                  | none => rw [q2] at h; cases h
                  | some ts' =>
                    rw [q2] at h; cases h
                    obtain ⟨hl, hp⟩ := ih ts' hs.2 q2
                    exact ⟨by simp [hl], pxs_gcons hs.1 (px_tg O n e t q1) hp⟩
            obtain ⟨hl, hpg⟩ := key es ts hs q
            simp only [putS] at hp
            cases hi : itemsOf st (.ref m) with
            | none => rw [hi] at hp; cases hp
            | some ds =>
              rw [hi] at hp
              obtain ⟨a, vs, rfl, _, hq, rl⟩ := itemsL_ok rs rd hi
              refine (pg_lst O.calm hpg rfl (assign_find hs)).run pins s σ H _ u Q I r ⟨a, vs, rfl, by rw [O.K]; exact hq, ?_, ι, st, env, env', ds, rs, re, rl, hp, fun σ' re' _ => kk σ' re'⟩
              rw [assign_len, ← hl, ← putAll_len hp, rl.length]
      | _ => cases h
  · rw [putS_ne fun ts m e1 e2 => hc ⟨ts, m, e1, e2⟩] at hp
    exact base.run pins s σ H v u Q I r ⟨ι, st, env, env', d, rs, re, rd, hp, fun σ' re' _ => kk σ' re'⟩
def Both (M : Mo) (W : WX) (Γ : Sem) (X : Cx) (e : Expr) (i : E) : Prop := PE X e (tX M W (evE Γ i)) ∧ PT X e (tXb M W fun env st => truthO (evE Γ i env st))
theorem Both.nev : Both M W Γ X e .nev := ⟨pe_nev, pt_nev⟩
theorem Both.plain {i : E} (O : CxO g M Γ k cs X W) (h : PE X e (tX M W (evE Γ i))) (he : ∀ whole, isTrue e X.env whole = (do let v ← whole; standAt e.pos; holding [v] (truthy v))) : Both M W Γ X e i := ⟨h, px_truth O.K h he⟩
theorem pxs_all {f : Expr → E} (h : ∀ e ∈ es, PE X e (tX M W (evE Γ (f e)))) (hs : es.any starB = false) : PA X es (tXs M W (evEs Γ (es.map f))) := by
  induction es with
  | nil => exact pxs_nil
  | cons e es ih =>
    rw [List.any_cons, Bool.or_eq_false_iff] at hs
    exact pxs_cons hs.1 (h e List.mem_cons_self) (ih (fun e' he' => h e' (List.mem_cons_of_mem _ he')) hs.2)
theorem px_bool (O : CxO g M Γ k cs X W) {op : BoolOp} {f : Expr → E} : ∀ {vs : List Expr}, (∀ e ∈ vs, Both M W Γ X e (f e)) → PE X (.BoolOp op vs pos) (tX M W (evE Γ (cBool op (vs.map f)))) ∧ (vs ≠ [] → PW X (.BoolOp op vs pos) (tXb M W fun env st => truthO (evE Γ (cBool op (vs.map f)) env st)))
  | [], _ => ⟨pe_nev, fun z => absurd rfl z⟩
  | [a], h => by
    have q := h a List.mem_cons_self
    refine ⟨pe_one q.1, fun _ => ?_⟩
    cases op with
    | And => exact pw_and1 q.2
    | Or => exact pw_or1 q.2
  | a :: b :: vs, h => by
    have q := h a List.mem_cons_self
    cases op with
    | And =>
      obtain ⟨r1, r2⟩ := px_bool O (op := .And) (vs := b :: vs) fun e he => h e (List.mem_cons_of_mem _ he)
      exact ⟨px_and O.K q.1 r1, fun _ => pw_and' q.2 (r2 (by simp))⟩
    | Or =>
      obtain ⟨r1, r2⟩ := px_bool O (op := .Or) (vs := b :: vs) fun e he => h e (List.mem_cons_of_mem _ he)
      exact ⟨px_or O.K q.1 r1, fun _ => pw_or' q.2 (r2 (by simp))⟩
theorem Both.bool (O : CxO g M Γ k cs X W) {op : BoolOp} {f : Expr → E} {vs : List Expr} (h : ∀ e ∈ vs, Both M W Γ X e (f e)) : Both M W Γ X (.BoolOp op vs pos) (cBool op (vs.map f)) := by
  obtain ⟨h1, h2⟩ := px_bool (pos := pos) (op := op) O h
  refine ⟨h1, ?_⟩
  cases vs with
  | nil => exact pt_nev
  | cons v vs => exact ⟨fun pins s σ H Q I q => (h2 (by simp)).run _ pins s σ H Q I q⟩
theorem px_iter (O : CxO g M Γ k cs X W) {f : Expr → E} {src : List Expr} {kd : ItK} {it : Expr} (h : ∀ e, PE X e (tX M W (evE Γ (f e)))) (hc : cIt g cs tg it = some (kd, src)) : PI X tg it (tI M W Γ kd (src.map f)) := by
  have fr : ∀ x : Str, x = "range" ∨ x = "enumerate" ∨ x = "zip" → freeNm x = true := by
    rintro x (rfl | rfl | rfl) <;> (unfold freeNm; simp)
  have a1 : ∀ {a : Expr}, starB a = false → PA X [a] (tXs M W (evEs Γ [f a])) := fun hs => pxs_cons hs (h _) pxs_nil
  have a2 : ∀ {a b : Expr}, starB a = false → starB b = false → PA X [a, b] (tXs M W (evEs Γ [f a, f b])) := fun hs hs2 => pxs_cons hs (h _) (pxs_cons hs2 (h _) pxs_nil)
  unfold cIt at hc
  split at hc
  · rename_i x p args p2
    split at hc
    · cases hc
    · rename_i hv
      have hg : globB cs.sc x = true := by
        cases q : globB cs.sc x with
        | true => rfl
        | false => exact absurd (by simp [q]) hv
      have G := O.gl hg
      split at hc
      · cases hc; exact px_it O.K (h _)
      · rename_i hq
        split at hc
        · rename_i hx
          subst hx
          have hm := O.gok.free _ hq (fr _ (.inl rfl))
          split at hc
          · split at hc
            · cases hc
            · rename_i hs; cases hc; exact px_rng1 G hm (a1 (by simpa using hs)) (by simpa using hs)
          · split at hc
            · cases hc
            · rename_i hs
              cases hc
              rw [Bool.or_eq_true, not_or] at hs
              have h1 := Bool.not_eq_true _ ▸ hs.1
              have h2 := Bool.not_eq_true _ ▸ hs.2
              exact px_rng2 G hm (a2 (by simpa using hs.1) (by simpa using hs.2)) (by simpa using hs.1) (by simpa using hs.2)
          · split at hc
            · cases hc
            · rename_i hs
              cases hc
              rw [Bool.or_eq_true, Bool.or_eq_true, not_or, not_or] at hs
              have s1 := (Bool.not_eq_true _).mp hs.1.1
              have s2 := (Bool.not_eq_true _).mp hs.1.2
              have s3 := (Bool.not_eq_true _).mp hs.2
              exact px_rng3 G hm (pxs_cons s1 (h _) (pxs_cons s2 (h _) (pxs_cons s3 (h _) pxs_nil))) s1 s2 s3
          · cases hc
        · split at hc
          · rename_i hx
            subst hx
            have hm := O.gok.free _ hq (fr _ (.inr (.inl rfl)))
            split at hc
            · split at hc
              · cases hc
              · rename_i hs
                cases hc
                rw [Bool.or_eq_true, not_or] at hs
                have hs1 := (Bool.not_eq_true _).mp hs.1
                cases tg with
                | Tuple el kk tp => exact px_enum O.K G hm (a1 hs1) hs1
                | _ => exact absurd rfl hs.2
            · cases hc
          · split at hc
            · rename_i hx
              subst hx
              have hm := O.gok.free _ hq (fr _ (.inr (.inr rfl)))
              split at hc
              · split at hc
                · cases hc
                · rename_i hs
                  cases hc
                  rw [Bool.or_eq_true, Bool.or_eq_true, not_or, not_or] at hs
                  have hs1 := (Bool.not_eq_true _).mp hs.1.1
                  have hs2 := (Bool.not_eq_true _).mp hs.1.2
                  cases tg with
                  | Tuple el kk tp => exact px_zip O.K G hm (a2 hs1 hs2) hs1 hs2
                  | _ => exact absurd rfl hs.2
              · cases hc
            · cases hc; exact px_it O.K (h _)
  · cases hc
  · cases hc; exact px_it O.K (h _)
theorem setB_fold {it : Expr} {en : Env} (h : setB it = false) : ∀ x, foldedSetIterable it en x = pure x := by
  intro x
  cases it <;> first | rfl | cases h
theorem cIt_set {cs : CS} {it : Expr} {p : ItK × List Expr} (h : cIt g cs tg it = some p) : setB it = false := by
  cases it <;> first | rfl | (unfold cIt at h; cases h)
theorem plain_ix {i : Expr} (h : sliceB i = false) : PlainIx i := by
  intro o j
  cases i <;> first | rfl | cases h
theorem CxO.blk (O : CxO g M Γ k cs X W) (scope : Scope) (s : Shared) (H : Hp) (C : Addr) (cl : List (Str × Addr)) (fp : List Addr) :
    CxO g M Γ k ⟨cs.N, relS scope cs.sc, fun x => scope.names.lookup x == some .cell⟩ (X.blk s H scope (compEnvC scope cl C X.env) fp) W0 :=
  ⟨O.K, O.N, O.nd, (by rw [← O.sc]; rfl : relabel scope X.env = relS scope cs.sc), fun x h => h, O.calm, O.room, LamX.takes0, O.gok⟩
theorem px_lit1 {n : Nat} (h : litB e = true) : PE1 X e (tX M W (evE Γ (cE g n cs e))) := by
  have nev : PE1 X e (tX M W (evE Γ .nev)) := ⟨fun pins s σ H Q I ⟨ι, st, env, rs, re, g⟩ => by
    simp only [evE] at g
    exact g.elim⟩
  cases n with
  | zero => unfold cE; exact nev
  | succ n =>
    unfold cE
    cases e with
    | Constant c j p =>
      cases c with
      | int i =>
        refine pe1_weak pe1_int fun σ H Q ⟨ι, st, env, rs, re, g⟩ => ?_
        simp only [cConst, evE] at g
        exact Good.ok (R := rD M) g rs (.int i)
      | str s =>
        refine pe1_weak pe1_str fun σ H Q ⟨ι, st, env, rs, re, g⟩ => ?_
        simp only [cConst, evE] at g
        have q : RD M.K M.ga ι H (.str s.cps.toList) (.str ⟨s.cps.toList.toArray⟩) := .str _
        have q : RD M.K M.ga ι H (.str s.cps.toList) (.str s) := by simpa using q
        exact Good.ok (R := rD M) g rs q
      | _ => cases h
    | _ => cases h
theorem px_one (O : CxO g M Γ k cs X W) (n : Nat) {o : Expr} (h : ∀ (m : Nat) e, m < n → PE X e (tX M W (evE Γ (cE g m cs e)))) (ho : oneB g cs o = true) : PE1 X o (tX M W (evE Γ (cE g n cs o))) := by
  have nev : ∀ {e : Expr}, PE1 X e (tX M W (evE Γ .nev)) := ⟨fun pins s σ H Q I ⟨ι, st, env, rs, re, g⟩ => by
    simp only [evE] at g
    exact g.elim⟩
  cases n with
  | zero => unfold cE; exact nev
  | succ n =>
    unfold oneB at ho
    split at ho
    · rename_i x p args p2
      rw [Bool.and_eq_true, Bool.and_eq_true, Bool.and_eq_true] at ho
      obtain ⟨⟨⟨hl, hs⟩, hvis⟩, hf⟩ := ho
      have hs : args.any starB = false := by simpa using hs
      have hvis : visB cs.sc x = false := by simpa using hvis
      unfold cE
      simp only [List.isEmpty_nil, Bool.not_true, Bool.false_or, hs, if_neg Bool.false_ne_true]
      have ql : lzipB g cs x args = none := by
        cases ql : lzipB g cs x args with
        | none => rfl
        | some ab =>
          exfalso
          unfold lzipB at ql
          split at ql
          · cases hl
          · cases ql
      simp only [ql]
      have qr : lrngB g cs x args = none := by
        cases qr : lrngB g cs x args with
        | none => rfl
        | some ab =>
          exfalso
          unfold lrngB at qr
          split at qr
          · cases hl
          · cases qr
      simp only [qr]
      have ha : PA1 X args (tXs M W (evEs Γ (args.map (cE g n cs)))) := pxs1_all (fun e => h n e (Nat.lt_succ_self n)) (fun e he => px_lit1 he) (fun es hes => pxs_all (fun e _ => h n e (Nat.lt_succ_self n)) hes) hs hl
      unfold cCallN
      cases ho : oddName x with
      | true => exact nev
      | false =>
       rw [if_neg Bool.false_ne_true, hvis, if_neg Bool.false_ne_true]
       cases hg : globB cs.sc x with
       | false => exact nev
       | true =>
        rw [if_neg (by simp)]
        have G := O.gl hg
        obtain ⟨o1, o2, o3⟩ := odd_parts ho
        cases q : gIx g x 0 with
        | none => rw [q] at hf; cases hf
        | some pr =>
          obtain ⟨i, gk⟩ := pr
          cases gk with
          | fn ps =>
            simp only
            split
            · rename_i hp
              obtain ⟨fd, pn, hm, F, hk, hb, hpn⟩ := O.gok.fn x i ps q
              have F' : FnOk X.prog X.w X.K X.mg X.base (L2.CX X.prog X.w) k (M.ga i) fd pn (spD M Γ.call i pn.length) := by rw [O.K]; exact F
              cases args with
              | nil => cases hl
              | cons e es => exact px_call1 F' O.rm G hm (by rw [O.K]; exact hk) (by rw [O.K]; exact hb) O.takes ha (by rw [hpn]; exact hp) o1 hs
            · exact nev
          | _ => (rw [q] at hf; cases hf)
    · cases ho
theorem px_replO (O : CxO g M Γ k cs X W) (n : Nat) (h : ∀ (m : Nat) e, m ≤ n → PE X e (tX M W (evE Γ (cE g m cs e)))) {o : Expr} {y z : Str} {j l : Nat} {c0 c1 apos : Pos} (ho : oneB g cs o = true) :
    PE X (.Call (.Attribute o "replace" apos) [.Constant (.str y) j c0, .Constant (.str z) l c1] [] pos) (tX M W (evE Γ (cRepl apos pos y z o (cE g n cs o)))) := by
  unfold cRepl
  split
  · rename_i c hy
    split
    · exact pe_nev
    · rename_i hc
      have hc := (Bool.not_eq_true _).mp hc
      rw [Bool.or_eq_false_iff, Bool.or_eq_false_iff] at hc
      exact px_repl (px_one O n (fun m e hm => h m e (Nat.le_of_lt hm)) ho) hy hc.1.1 hc.1.2 (by simpa using hc.2)
  · exact pe_nev
theorem both_all (g : G) (M : Mo) (Γ : Sem) (k : Nat) : ∀ (n : Nat) (cs : CS) (X : Cx) (W : WX) (e : Expr), CxO g M Γ k cs X W → Both M W Γ X e (cE g n cs e)
  | 0, _, _, _, _, _ => Both.nev
  | n + 1, cs, X, W, e, O => by
    have ih : ∀ e, Both M W Γ X e (cE g n cs e) := fun e => both_all g M Γ k n cs X W e O
    have as : ∀ {es : List Expr}, es.any starB = false → PA X es (tXs M W (evEs Γ (es.map (cE g n cs)))) := fun hs => pxs_all (fun e _ => (ih e).1) hs
    unfold cE
    cases e with
    | Name x p => exact .plain O (px_name O) fun _ => rfl
    | Constant c j p => exact .plain O px_const fun _ => rfl
    | BinOp a op b p => exact .plain O (px_op2 O.K (ih a).1 (ih b).1) fun _ => rfl
    | UnaryOp op a p =>
      cases op with
      | USub => exact .plain O (px_neg (ih a).1) fun _ => rfl
      | Not => exact ⟨px_not O.K (ih a).1, pt_not' (ih a).2⟩
      | _ => exact .nev
    | BoolOp op vs p => exact .bool O fun e _ => ih e
    | Compare a ops bs p =>
      simp only
      cases ops with
      | nil => exact .nev
      | cons o1 ops =>
        cases ops with
        | nil =>
          cases bs with
          | nil => exact .nev
          | cons b bs =>
            cases bs with
            | nil =>
              show Both M W Γ X _ (if setB b then .nev else .cmp o1 (cE g n cs a) (cE g n cs b))
              split
              · exact .nev
              · rename_i hs
                have hs := (Bool.not_eq_true _).mp hs
                exact ⟨px_cmp O.K O.rm (ih a).1 (ih b).1 hs, pt_cmp' O.K O.rm (ih a).1 (ih b).1 hs⟩
            | cons _ _ => exact .nev
        | cons o2 ops =>
          cases ops with
          | cons _ _ => exact .nev
          | nil =>
            cases bs with
            | nil => exact .nev
            | cons b bs =>
              cases bs with
              | nil => exact .nev
              | cons c bs =>
                cases bs with
                | cons _ _ => exact .nev
                | nil =>
                  show Both M W Γ X _ (if setB b || setB c then .nev else .cmp2 o1 o2 (cE g n cs a) (cE g n cs b) (cE g n cs c))
                  split
                  · exact .nev
                  · rename_i hs
                    have hs := (Bool.not_eq_true _).mp hs
                    rw [Bool.or_eq_false_iff] at hs
                    exact ⟨px_cmp2 O.K O.rm (ih a).1 (ih b).1 (ih c).1 hs.2, pt_cmp2 O.K O.rm (ih a).1 (ih b).1 (ih c).1 hs.2⟩
    | IfExp c a b p => exact ⟨px_ite (ih c).2 (ih a).1 (ih b).1, pt_ite (ih c).2 (ih a).2 (ih b).2⟩
    | Tuple es j p =>
      simp only
      split
      · exact .plain O (px_tupX (pxs_X O.K fun e => (ih e).1)) fun _ => rfl
      · rename_i hs
        exact .plain O (px_tup (as (by simpa using hs))) fun _ => rfl
    | List es p =>
      simp only
      split
      · exact .plain O (px_lstX (pxs_X O.K fun e => (ih e).1)) fun _ => rfl
      · rename_i hs
        exact .plain O (px_lst (as (by simpa using hs))) fun _ => rfl
    | Subscript a i p =>
      cases i with
      | Slice lo hi st p2 =>
        cases st with
        | some s =>
          cases lo with
          | some _ => cases hi <;> exact .nev
          | none =>
            cases hi with
            | some _ => exact .nev
            | none =>
              show Both M W Γ X _ (if rev1 (some s) then .rev (cE g n cs a) else .nev)
              split
              · rename_i hr
                exact .plain O (px_rev O.K hr (ih a).1) fun _ => rfl
              · exact .nev
        | none =>
          refine .plain O (px_slc O.K (ih a).1 ?_ ?_) fun _ => rfl
          · cases lo with
            | none => rfl
            | some l => exact (ih l).1
          · cases hi with
            | none => rfl
            | some h => exact (ih h).1
      | _ => exact .plain O (px_sub O.K (plain_ix rfl) (ih a).1 (ih _).1) fun _ => rfl
    | Call f args kws p =>
      simp only
      split
      · exact .nev
      · rename_i hs
        have hs := (Bool.not_eq_true _).mp hs
        rw [Bool.or_eq_false_iff] at hs
        cases kws with
        | cons _ _ => exact absurd hs.1 (by simp)
        | nil =>
          cases f with
          | Name x p2 =>
            simp only
            cases q : lzipB g cs x args with
            | none =>
              simp only
              cases q2 : lrngB g cs x args with
              | none => exact .plain O (px_callN O (fun e => (ih e).1) (as hs.2) hs.2) fun _ => rfl
              | some a =>
                simp only
                unfold lrngB at q2
                split at q2
                · rename_i y py a' pz
                  split at q2
                  · rename_i hc
                    cases q2
                    obtain ⟨rfl, rfl, hc⟩ := hc
                    simp only [Bool.or_eq_false_iff, Bool.not_eq_false'] at hc
                    obtain ⟨⟨⟨⟨⟨⟨v1, g1⟩, v2⟩, g2⟩, m1⟩, m2⟩, s1⟩ := hc
                    exact .plain O (px_lrng O.calm (O.gl g1) (O.gok.free _ (by simpa using m1) (by decide +kernel)) (O.gl g2) (O.gok.free _ (by simpa using m2) (by decide +kernel)) (ih _).1 s1) fun _ => rfl
                  · cases q2
                · cases q2
            | some ab =>
              obtain ⟨a, b⟩ := ab
              simp only
              unfold lzipB at q
              split at q
              · rename_i y py a' b' pz
                split at q
                · rename_i hc
                  cases q
                  obtain ⟨rfl, rfl, hc⟩ := hc
                  simp only [Bool.or_eq_false_iff, Bool.not_eq_false'] at hc
                  obtain ⟨⟨⟨⟨⟨⟨⟨v1, g1⟩, v2⟩, g2⟩, m1⟩, m2⟩, s1⟩, s2⟩ := hc
                  exact .plain O (px_lzip O.K O.calm (O.gl g1) (O.gok.free _ (by simpa using m1) (by decide +kernel)) (O.gl g2) (O.gok.free _ (by simpa using m2) (by decide +kernel)) (as (es := [a, b]) (by simp [s1, s2])) s1 s2) fun _ => rfl
                · cases q
              · cases q
          | Attribute o m apos =>
            simp only
            split
            · split
              · split
                · rename_i hm ho
                  subst hm
                  exact .plain O (px_replO O n (fun m e hm => (both_all g M Γ k m cs X W e O).1) ho) fun _ => rfl
                · exact .nev
              · exact .plain O (px_callM O (ih o).1 (as hs.2) (by simp) hs.2) fun _ => rfl
            · exact .plain O (px_callM O (ih o).1 (as hs.2) (by simp) hs.2) fun _ => rfl
          | _ => exact .nev
    | Attribute o f p => exact .plain O (px_cAttr O (ih o).1) fun _ => rfl
    | ListComp elt gens scope p =>
      cases gens with
      | nil => exact .nev
      | cons gn gens =>
        obtain ⟨tg, it, ifs, as'⟩ := gn
        cases gens with
        | cons gn1 gens =>
          obtain ⟨tg1, it1, ifs1, as1⟩ := gn1
          cases gens with
          | cons _ _ => exact .nev
          | nil =>
            simp only
            split
            · rename_i hc
              obtain ⟨h0, h1, hi0, hi1, hb⟩ := hc
              subst h0; subst h1
              have ei : ifs = [] := List.isEmpty_iff.mp hi0
              have ei1 : ifs1 = [] := List.isEmpty_iff.mp hi1
              subst ei; subst ei1
              split
              · rename_i src src1 q q1
                split
                · rename_i t t1 qt qt1
                  split
                  · rename_i ht
                    rw [Bool.and_eq_true] at ht
                    refine .plain O ?_ fun _ => rfl
                    have Ob := fun s H C cl fp => O.blk scope s H C cl fp
                    have ihb := fun (s : Shared) (H : Hp) (C : Addr) (cl : List (Str × Addr)) (fp : List Addr) e => both_all g M Γ k n _ _ _ e (Ob s H C cl fp)
                    refine pe_weak (pe_lc2 O.calm O.nd (px_iter O (fun e => (ih e).1) q) (blkOk_by (own := ownOf cs.N scope.names) (by rw [O.N, O.sc]; exact hb)) (vs1 := tgIx t1) (fun i hi => by
                        have := List.all_eq_true.mp ht.2 i hi
                        simpa using this) (fun s H C cl fp => px_tg (Ob s H C cl fp) n tg t qt) (tt := tCs M W0 Γ []) (fun s H C cl fp => pxs_cs0)
                      (fun s H C cl fp => px_iter (Ob s H C cl fp) (fun e => (ihb s H C cl fp e).1) q1) (fun s H C cl fp => px_tg (Ob s H C cl fp) n tg1 t1 qt1) (tt1 := tCs M W0 Γ []) (fun s H C cl fp => pxs_cs0)
                      (fun s H C cl fp => (ihb s H C cl fp elt).1) (setB_fold (cIt_set q)) (fun env => setB_fold (cIt_set q1))) fun σ H Q h => lc2_read ht.1 h
                  · exact .nev
                · exact .nev
              · exact .nev
            · exact .nev
        | nil =>
          simp only
          split
          · rename_i hc
            obtain ⟨h0, hl, hb⟩ := hc
            subst h0
            cases q : cIt g cs tg it with
            | none => exact .nev
            | some pr =>
              obtain ⟨kd, src⟩ := pr
              simp only
              cases q2 : cTg n ⟨cs.N, relS scope cs.sc, fun x => scope.names.lookup x == some .cell⟩ tg with
              | none => exact .nev
              | some t =>
                simp only
                split
                · rename_i ht
                  refine .plain O ?_ fun _ => rfl
                  have Ob := fun s H C cl fp => O.blk scope s H C cl fp
                  have ihb := fun (s : Shared) (H : Hp) (C : Addr) (cl : List (Str × Addr)) (fp : List Addr) e => both_all g M Γ k n _ _ _ e (Ob s H C cl fp)
                  refine pe_weak (pe_lc O.calm O.nd (px_iter O (fun e => (ih e).1) q) (blkOk_by (own := ownOf cs.N scope.names) (by rw [O.N, O.sc]; exact hb)) (fun s H C cl fp => px_tg (Ob s H C cl fp) n tg t q2) (tt := tCs M W0 Γ (ifs.map _)) (fun s H C cl fp => ?_) (fun s H C cl fp => (ihb s H C cl fp elt).1) (setB_fold (cIt_set q))) fun σ H Q h => lc_read ht h
                  cases ifs with
                  | nil => exact pxs_cs0
                  | cons c ifs =>
                    cases ifs with
                    | nil => exact pxs_cs1 (ihb s H C cl fp c).2
                    | cons _ _ => simp at hl
                · exact .nev
          · exact .nev
    | _ => exact .nev
end
end RX

namespace RX
open PySem PySem.Spec PyProof.Rows L2
def GoodS (M : Mo) (W : WX) (ι : List Addr) (H : Hp) (x : OS) (D : Ends) : Prop := match x with
  | .next env' st' => ∀ (ι' : List Addr) (H' : Hp) (σ' : L2.St), Ext H H' → Pre ι ι' → RS M.K M.ga ι' H' st' → RE M.K M.ga ι' H' env' σ' → D.nx σ' H'
  | .brk env' st' => ∀ (ι' : List Addr) (H' : Hp) (σ' : L2.St), Ext H H' → Pre ι ι' → RS M.K M.ga ι' H' st' → RE M.K M.ga ι' H' env' σ' → D.bk σ' H'
  | .cont env' st' => ∀ (ι' : List Addr) (H' : Hp) (σ' : L2.St), Ext H H' → Pre ι ι' → RS M.K M.ga ι' H' st' → RE M.K M.ga ι' H' env' σ' → D.ct σ' H'
  | .ret d st' => ∀ (ι' : List Addr) (H' : Hp) (v : V), Ext H H' → Pre ι ι' → RS M.K M.ga ι' H' st' → RD M.K M.ga ι' H' d v → D.rt v H'
  | .exc c p env' st' => ∀ (ι' : List Addr) (H' : Hp) (σ' : L2.St) (cls : Value) (dd : Option Addr), Ext H H' → Pre ι ι' → RS M.K M.ga ι' H' st' → RE M.K M.ga ι' H' env' σ' → XOk M c p ι' H' cls dd → W cls dd σ' H'
  | .stuck => False
section
variable {M : Mo} {W : WX} {ι ι' : List Addr} {H H' : Hp} {x : OS} {D D' : Ends} {α β : Type} {R : List Addr → Hp → α → β → Prop}
theorem GoodS.later (g : GoodS M W ι H x D) (e : Ext H H') (p : Pre ι ι') : GoodS M W ι' H' x D := by
  cases x with
  | next env st => exact fun ι2 H2 σ e2 p2 => g ι2 H2 σ (e.trans e2) (p.trans p2)
  | brk env st => exact fun ι2 H2 σ e2 p2 => g ι2 H2 σ (e.trans e2) (p.trans p2)
  | cont env st => exact fun ι2 H2 σ e2 p2 => g ι2 H2 σ (e.trans e2) (p.trans p2)
  | ret d st => exact fun ι2 H2 v e2 p2 => g ι2 H2 v (e.trans e2) (p.trans p2)
  | exc c q env st => exact fun ι2 H2 σ cls dd e2 p2 => g ι2 H2 σ cls dd (e.trans e2) (p.trans p2)
  | stuck => exact g
theorem GoodS.seq {o : Out α} {env : EnvD} {σ : L2.St} {f : α → Store → OS} (re : RE M.K M.ga ι H env σ) (g : GoodS M W ι H (OS.of o env f) D) :
    Good M R (wAt W σ) ι H o fun b H1 => ∃ (ι1 : List Addr) (st1 : Store) (a : α), o = .ok a st1 ∧ Ext H H1 ∧ Pre ι ι1 ∧ RS M.K M.ga ι1 H1 st1 ∧ RE M.K M.ga ι1 H1 env σ ∧ R ι1 H1 a b ∧ GoodS M W ι1 H1 (f a st1) D := by
  cases o with
  | ok a st => exact fun ι2 H2 b e2 p2 r q => ⟨ι2, st, a, rfl, e2, p2, r, re.mono e2 p2, q, GoodS.later (x := f a st) g e2 p2⟩
  | exc c q st => exact fun ι2 H2 cls dd e2 p2 r xo => g ι2 H2 σ cls dd e2 p2 r (re.mono e2 p2) xo
  | stuck => exact g
end
def tS (M : Mo) (W : WX) (f : EnvD → Store → OS) : TS := fun D σ H => ∃ (ι : List Addr) (st : Store) (env : EnvD), RS M.K M.ga ι H st ∧ RE M.K M.ga ι H env σ ∧ GoodS M W ι H (f env st) D
section
variable {g : G} {M : Mo} {Γ : Sem} {k : Nat} {cs : CS} {X : Cx} {W : WX} {a b c e tg : Expr} {es : List Expr} {pos : Pos} {ia ib ic : E} {sa sb : List S} {s : Stmt} {ss : List Stmt}
theorem ps_weak {t t' : TS} (h : PS X s t) (w : ∀ D σ H, t' D σ H → t D σ H) : PS X s t' := ⟨fun pins s σ H D I q => h.run pins s σ H D I (w D σ H q)⟩
theorem pss_weak {t t' : TS} (h : PSs X ss t) (w : ∀ D σ H, t' D σ H → t D σ H) : PSs X ss t' := ⟨fun pins s σ H D I q => h.run pins s σ H D I (w D σ H q)⟩
theorem sx_nev : PS X s (tS M W (evS Γ .nev)) := ⟨fun pins s σ H D I ⟨ι, st, env, rs, re, q⟩ => by
  simp only [evS] at q
  exact q.elim⟩
theorem sX_then {f : EnvD → Store → Out D} {kk : D → Store → OS} {σ : L2.St} {H : Hp} {ι : List Addr} {st : Store} {env : EnvD} {E : Ends} {Q' : VK}
    (rs : RS M.K M.ga ι H st) (re : RE M.K M.ga ι H env σ) (g : GoodS M W ι H (OS.of (f env st) env kk) E)
    (h : ∀ (v : V) (H1 : Hp) (ι1 : List Addr) (st1 : Store) (d : D), Ext H H1 → Pre ι ι1 → RS M.K M.ga ι1 H1 st1 → RE M.K M.ga ι1 H1 env σ → RD M.K M.ga ι1 H1 d v → GoodS M W ι1 H1 (kk d st1) E → Q' v H1) : tX M W f σ H Q' :=
  ⟨ι, st, env, rs, re, (GoodS.seq (R := rD M) re g).mono fun v H1 ⟨ι1, st1, d, ed, e1, p1, rs1, re1, r1, g1⟩ => h v H1 ι1 st1 d e1 p1 rs1 re1 r1 g1⟩
theorem sXs_then {f : EnvD → Store → Out (List D)} {kk : List D → Store → OS} {σ : L2.St} {H : Hp} {ι : List Addr} {st : Store} {env : EnvD} {E : Ends} {Q' : List V → Hp → Prop}
    (rs : RS M.K M.ga ι H st) (re : RE M.K M.ga ι H env σ) (g : GoodS M W ι H (OS.of (f env st) env kk) E)
    (h : ∀ (v : List V) (H1 : Hp) (ι1 : List Addr) (st1 : Store) (d : List D), f env st = .ok d st1 → Ext H H1 → Pre ι ι1 → RS M.K M.ga ι1 H1 st1 → RE M.K M.ga ι1 H1 env σ → RDs M.K M.ga ι1 H1 d v → GoodS M W ι1 H1 (kk d st1) E → Q' v H1) : tXs M W f σ H Q' :=
  ⟨ι, st, env, rs, re, (GoodS.seq (R := rDs M) re g).mono fun v H1 ⟨ι1, st1, d, ed, e1, p1, rs1, re1, r1, g1⟩ => h v H1 ι1 st1 d ed e1 p1 rs1 re1 r1 g1⟩
theorem sXb_then {f : EnvD → Store → Out Bool} {kk : Bool → Store → OS} {σ : L2.St} {H : Hp} {ι : List Addr} {st : Store} {env : EnvD} {E : Ends} {Q' : Bool → Hp → Prop}
    (rs : RS M.K M.ga ι H st) (re : RE M.K M.ga ι H env σ) (g : GoodS M W ι H (OS.of (f env st) env kk) E)
    (h : ∀ (v : Bool) (H1 : Hp) (ι1 : List Addr) (st1 : Store), Ext H H1 → Pre ι ι1 → RS M.K M.ga ι1 H1 st1 → RE M.K M.ga ι1 H1 env σ → GoodS M W ι1 H1 (kk v st1) E → Q' v H1) : tXb M W f σ H Q' :=
  ⟨ι, st, env, rs, re, (GoodS.seq (R := rEq) re g).mono fun v H1 ⟨ι1, st1, d, ed, e1, p1, rs1, re1, r1, g1⟩ => by
    have r1 : d = v := r1
    subst r1
    exact h d H1 ι1 st1 e1 p1 rs1 re1 g1⟩
theorem sx_asg {t : Tg} (he : PE X e (tX M W (evE Γ ia))) (hg : PG X tg (tGS M t)) (hs : swapsWithSole [tg] e pos.line X.env = pure false) (hw : swappedStores [tg] e X.env = pure none) (h1 : (assignEach [tg] X.env).map (·.2) = [assign tg X.env]) :
    PS X (.Assign [tg] e pos) (tS M W (evS Γ (.asg t ia))) := by
  refine ps_weak (ps_asg he hg hs hw h1) fun D σ H ⟨ι, st, env, rs, re, q⟩ => ?_
  simp only [evS] at q
  refine sX_then rs re q fun v H1 ι1 st1 d e1 p1 rs1 re1 r1 g1 => ?_
  cases hp : putS st1 t d env with
  | none => rw [hp] at g1; exact g1.elim
  | some env1 =>
    rw [hp] at g1
    exact ⟨ι1, st1, env, env1, d, rs1, re1, r1, hp, fun σ' re' => g1 ι1 H1 σ' (.refl _) (.refl _) rs1 re'⟩
theorem sx_asgS {o i : Expr} {p2 : Pos} (he : PE X e (tX M W (evE Γ ia))) (ho : PE X o (tX M W (evE Γ ib))) (hi : PE X i (tX M W (evE Γ ic))) (hs : swapsWithSole [.Subscript o i p2] e pos.line X.env = pure false) (hsl : sliceB i = false) :
    PS X (.Assign [.Subscript o i p2] e pos) (tS M W (evS Γ (.asgS ib ic ia))) := by
  refine ps_weak (ps_asg he (pg_sub ho hi set_list (by cases i <;> first | (intro _; rfl) | cases hsl)) hs rfl rfl) fun D σ H ⟨ι, st, env, rs, re, q⟩ => ?_
  simp only [evS] at q
  refine sX_then rs re q fun v H1 ι1 st1 d e1 p1 rs1 re1 r1 g1 => ?_
  refine sX_then rs1 re1 g1 fun v2 H2 ι2 st2 d2 e2 p2 rs2 re2 r2 g2 => ?_
  refine sX_then rs2 re2 g2 fun v3 H3 ι3 st3 d3 e3 p3 rs3 re3 r3 g3 => ?_
  cases hp : setD d2 d3 d st3 with
  | none => rw [hp] at g3; exact g3.elim
  | some st4 =>
    rw [hp] at g3
    unfold setD at hp
    split at hp
    · rename_i n kk
      split at hp
      · rename_i xs hc
        split at hp
        · rename_i j hj
          cases hp
          obtain ⟨a, vs, ea, ha, hH, rl⟩ := lst_of rs3 hc (r2.mono e3 p3)
          cases r3
          subst ea
          have rv := (r1.mono e2 p2).mono e3 p3
          refine ⟨a, vs, kk, j, rfl, rfl, hH, by rw [← rl.length]; exact hj, ?_⟩
          have ex : Ext H3 (upd H3 a (.lst (vs.set j v))) := .set (by rw [hH]; trivial)
          exact g3 ι3 _ σ ex (.refl _) (rs3.write (c' := .lst (xs.set j d)) hc ha rfl rfl ⟨_, upd_same, (rl.set j rv).mono ex (.refl _)⟩) (re3.mono ex (.refl _))
        · cases hp
      · cases hp
    · cases hp
theorem sx_setF (hK : X.K = M.K) {o : Expr} {f : Str} {fi : Nat} {cl : List Nat} {p2 : Pos} (he : PE X e (tX M W (evE Γ ia))) (ho : PE X o (tX M W (evE Γ ib))) (hs : swapsWith e (some (.Attribute o f p2)) pos.line X.env = pure false) (hf : nmS fi = f) (hfi : encS f = fi)
    (hc : ∀ c, cl.contains c = true → Cls M.K (M.ga c) ∧ NoAttr M.K (M.ga c) f) : PS X (.Assign [.Attribute o f p2] e pos) (tS M W (evS Γ (.setF cl fi ib ia))) := by
  refine ps_weak (ps_fld ho he hs) fun D σ H ⟨ι, st, env, rs, re, q⟩ => ?_
  simp only [evS] at q
  refine sX_then rs re q fun v H1 ι1 st1 d e1 p1 rs1 re1 r1 g1 => ?_
  refine sX_then rs1 re1 g1 fun v2 H2 ι2 st2 d2 e2 p2 rs2 re2 r2 g2 => ?_
  cases hp : setFO cl fi d2 d st2 with
  | none => rw [hp] at g2; exact g2.elim
  | some st3 =>
    rw [hp] at g2
    unfold setFO at hp
    split at hp
    · rename_i n
      split at hp
      · rename_i c fs hcell
        split at hp
        · rename_i hcc
          cases hp
          rw [Bool.and_eq_true] at hcc
          obtain ⟨k1, k2⟩ := hc c hcc.1
          have hl : fs.length < 1000 := of_decide_eq_true hcc.2
          cases r2 with
          | ref ea =>
            rename_i a
            obtain ⟨dx, gs, hH, rf⟩ := rs2.at_ n _ _ hcell ea
            refine ⟨a, M.ga c, dx, gs, rfl, hH, by rw [hK]; exact k1, by rw [hK]; exact k2, by rw [← rf.length]; exact hl, ?_⟩
            have ex : Ext H2 (upd H2 a (.ins (M.ga c) dx (putF f v gs))) := .set (by rw [hH]; trivial)
            have rv := r1.mono e2 p2
            refine g2 ι2 _ σ ex (.refl _) (rs2.write (c' := .ins c (putN fi d fs)) hcell ea rfl rfl ⟨dx, _, upd_same, ?_⟩) (re2.mono ex (.refl _))
            rw [← hf]
            exact (rf.put (by rw [hf, hfi]) rv).mono (by rw [hf]; exact ex) (.refl _)
        · cases hp
      · cases hp
    · cases hp
theorem sx_expr (he : PE X e (tX M W (evE Γ ia))) (hs : swapsWith e none pos.line X.env = pure false) : PS X (.Expr e pos) (tS M W (evS Γ (.expr ia))) := by
  refine ps_weak (ps_expr he hs) fun D σ H ⟨ι, st, env, rs, re, q⟩ => ?_
  simp only [evS] at q
  exact sX_then rs re q fun v H1 ι1 st1 d e1 p1 rs1 re1 r1 g1 => g1 ι1 H1 σ (.refl _) (.refl _) rs1 re1
theorem sx_ret (he : PE X e (tX M W (evE Γ ia))) : PS X (.Return (some e) pos) (tS M W (evS Γ (.ret ia))) := by
  refine ps_weak (ps_ret he) fun D σ H ⟨ι, st, env, rs, re, q⟩ => ?_
  simp only [evS] at q
  exact sX_then rs re q fun v H1 ι1 st1 d e1 p1 rs1 re1 r1 g1 => g1 ι1 H1 v (.refl _) (.refl _) rs1 r1
theorem sx_retN : PS X (.Return none pos) (tS M W (evS Γ .retN)) := by
  refine ps_weak ps_retN fun D σ H ⟨ι, st, env, rs, re, q⟩ => ?_
  simp only [evS] at q
  exact q ι H .non (.refl _) (.refl _) rs .non
theorem sx_pass : PS X (.Pass pos) (tS M W (evS Γ .pass)) := by
  refine ps_weak ps_pass fun D σ H ⟨ι, st, env, rs, re, q⟩ => ?_
  simp only [evS] at q
  exact q ι H σ (.refl _) (.refl _) rs re
theorem sx_brk : PS X (.Break pos) (tS M W (evS Γ .brk)) := by
  refine ps_weak ps_break fun D σ H ⟨ι, st, env, rs, re, q⟩ => ?_
  simp only [evS] at q
  exact q ι H σ (.refl _) (.refl _) rs re
theorem sx_cont : PS X (.Continue pos) (tS M W (evS Γ .cont)) := by
  refine ps_weak ps_continue fun D σ H ⟨ι, st, env, rs, re, q⟩ => ?_
  simp only [evS] at q
  exact q ι H σ (.refl _) (.refl _) rs re
theorem sx_if {p1 p2 : List Stmt} (hc : PT X c (tXb M W fun env st => truthO (evE Γ ic env st))) (ha : PSs X p1 (tS M W (evSs Γ sa))) (hb : PSs X p2 (tS M W (evSs Γ sb))) : PS X (.If c p1 p2 pos) (tS M W (evS Γ (.ifs ic sa sb))) := by
  refine ps_weak (ps_if hc ha hb) fun D σ H ⟨ι, st, env, rs, re, q⟩ => ?_
  simp only [evS] at q
  refine sXb_then (f := fun env st => truthO (evE Γ ic env st)) rs re q fun t H1 ι1 st1 e1 p1 rs1 re1 g1 => ?_
  cases t with
  | true => exact ⟨ι1, st1, env, rs1, re1, g1⟩
  | false => exact ⟨ι1, st1, env, rs1, re1, g1⟩
theorem sxs_nil : PSs X [] (tS M W (evSs Γ [])) := by
  refine pss_weak pss_nil fun D σ H ⟨ι, st, env, rs, re, q⟩ => ?_
  simp only [evSs] at q
  exact q ι H σ (.refl _) (.refl _) rs re
theorem sxs_cons {i : S} {is : List S} (h : PS X s (tS M W (evS Γ i))) (hr : PSs X ss (tS M W (evSs Γ is))) : PSs X (s :: ss) (tS M W (evSs Γ (i :: is))) := by
  refine pss_weak (pss_cons h hr) fun D σ H ⟨ι, st, env, rs, re, q⟩ => ?_
  simp only [evSs] at q
  refine ⟨ι, st, env, rs, re, ?_⟩
  cases hx : evS Γ i env st with
  | next env1 st1 =>
    rw [hx] at q
    intro ι1 H1 σ1 e1 p1 rs1 re1
    exact ⟨ι1, st1, env1, rs1, re1, GoodS.later (x := evSs Γ is env1 st1) q e1 p1⟩
  | _ => rw [hx] at q; exact q
theorem sx_while {p1 : List Stmt} (hp : PassesOwn (model X.prog X.w) X.A X.env X.xe) (hc : PT X c (tXb M W fun env st => truthO (evE Γ ic env st))) (ha : PSs X p1 (tS M W (evSs Γ sa))) : PS X (.While c p1 [] pos) (tS M W (evS Γ (.whil ic sa))) := by
  refine ps_weak (ps_while hp hc ha) fun D σ H ⟨ι, st, env, rs, re, q⟩ => ?_
  simp only [evS] at q
  refine ⟨fun m σ H => ∃ (ι : List Addr) (st : Store) (env : EnvD), RS M.K M.ga ι H st ∧ RE M.K M.ga ι H env σ ∧ GoodS M W ι H (whileLoop (fun env st => truthO (evE Γ ic env st)) (evSs Γ sa) m env st) D, ⟨WL, ι, st, env, rs, re, q⟩, ?_⟩
  rintro m σ1 H1 ⟨ι1, st1, env1, rs1, re1, q1⟩
  cases m with
  | zero => exact q1.elim
  | succ m =>
    unfold whileLoop at q1
    refine sXb_then (f := fun env st => truthO (evE Γ ic env st)) rs1 re1 q1 fun t H2 ι2 st2 e2 p2 rs2 re2 g2 => ?_
    cases t with
    | false => exact g2 ι2 H2 σ1 (.refl _) (.refl _) rs2 re2
    | true =>
      rw [if_pos rfl] at g2
      rw [if_pos rfl]
      refine ⟨_, fun σ' H' h => ⟨m, Nat.lt_succ_self m, h⟩, ι2, st2, env1, rs2, re2, ?_⟩
      cases hx : evSs Γ sa env1 st2 with
      | next env3 st3 =>
        rw [hx] at g2
        exact fun ι3 H3 σ3 e3 p3 rs3 re3 => ⟨ι3, st3, env3, rs3, re3, GoodS.later (x := whileLoop _ _ m env3 st3) g2 e3 p3⟩
      | cont env3 st3 =>
        rw [hx] at g2
        exact fun ι3 H3 σ3 e3 p3 rs3 re3 => ⟨ι3, st3, env3, rs3, re3, GoodS.later (x := whileLoop _ _ m env3 st3) g2 e3 p3⟩
      | brk env3 st3 => rw [hx] at g2; exact g2
      | ret d st3 => rw [hx] at g2; exact g2
      | exc c p env3 st3 => rw [hx] at g2; exact g2
      | stuck => rw [hx] at g2; exact g2
theorem sx_for {it : Expr} {p1 : List Stmt} {kd : ItK} {src : List E} {t : Tg} (hp : PassesOwn (model X.prog X.w) X.A X.env X.xe) (hc : X.calm = true) (hi : PI X tg it (tI M W Γ kd src)) (hg : PG X tg (tG M t)) (hb : PSs X p1 (tS M W (evSs Γ sa)))
    (hs : ∀ x, foldedSetIterable it X.env x = pure x) : PS X (.For tg it p1 [] pos) (tS M W (evS Γ (.for_ kd src t sa))) := by
  refine ps_weak (ps_for hp hc hi hg hb hs) fun D σ H ⟨ι, st, env, rs, re, q⟩ => ?_
  simp only [evS] at q
  refine ⟨ι, st, env, rs, re, (GoodS.seq (R := rW M) re q).mono fun J H1 ⟨ι1, st1, p, _, e1, p1, rs1, re1, rw1, g1⟩ => ?_⟩
  refine ⟨fun i m σ H => ∃ (ι : List Addr) (st : Store) (env : EnvD), RS M.K M.ga ι H st ∧ RE M.K M.ga ι H env σ ∧ Ext H1 H ∧ Pre ι1 ι ∧ GoodS M W ι H (forLoop p.1 t (evSs Γ sa) m i env st) D, ⟨p.2 + 1, ι1, st1, env, rs1, re1, .refl _, .refl _, g1⟩, ?_⟩
  rintro i m σ2 H2 ⟨ι2, st2, env2, rs2, re2, e2, p2, g2⟩
  cases m with
  | zero => exact g2.elim
  | succ m =>
    unfold forLoop at g2
    cases hf : fetch p.1 i st2 with
    | none => rw [hf] at g2; exact g2.elim
    | some o =>
      rw [hf] at g2
      have wk := rw1 ι2 H2 st2 i o e2 p2 rs2 hf
      cases o with
      | none => exact .inl ⟨wk, g2 ι2 H2 σ2 (.refl _) (.refl _) rs2 re2⟩
      | some d =>
        simp only at g2
        refine .inr ⟨wk.1, _, fun σ' H' h => ⟨m, Nat.lt_succ_self m, h⟩, fun x H3 hy => ?_⟩
        obtain ⟨e3, rs3, rd3⟩ := wk.2 x H3 hy
        cases hput : put t d env2 with
        | none => rw [hput] at g2; exact g2.elim
        | some env3 =>
          rw [hput] at g2
          simp only at g2
          refine ⟨ι2, st2, env2, env3, d, rs3, re2.mono e3 (.refl _), rd3, hput, fun σ4 re4 _ => ?_⟩
          refine ⟨ι2, st2, env3, rs3, re4, ?_⟩
          have g2 := GoodS.later g2 e3 (.refl ι2)
          cases hx : evSs Γ sa env3 st2 with
          | next env5 st5 =>
            rw [hx] at g2
            exact fun ι5 H5 σ5 e5 p5 rs5 re5 => ⟨ι5, st5, env5, rs5, re5, (e2.trans e3).trans e5, p2.trans p5, GoodS.later (x := forLoop _ _ _ m (i + 1) env5 st5) g2 e5 p5⟩
          | cont env5 st5 =>
            rw [hx] at g2
            exact fun ι5 H5 σ5 e5 p5 rs5 re5 => ⟨ι5, st5, env5, rs5, re5, (e2.trans e3).trans e5, p2.trans p5, GoodS.later (x := forLoop _ _ _ m (i + 1) env5 st5) g2 e5 p5⟩
          | brk env5 st5 => rw [hx] at g2; exact g2
          | ret d st5 => rw [hx] at g2; exact g2
          | exc c p env5 st5 => rw [hx] at g2; exact g2
          | stuck => rw [hx] at g2; exact g2
end
end RX

namespace RX
open PySem PySem.Spec PyProof.Rows L2
structure CxS (g : G) (M : Mo) (Γ : Sem) (k : Nat) (cs : CS) (X : Cx) (W : WX) : Prop extends CxO g M Γ k cs X W where
  own : PassesOwn (model X.prog X.w) X.A X.env X.xe
section
variable {g : G} {M : Mo} {Γ : Sem} {k : Nat} {cs : CS} {X : Cx} {W : WX} {a b c e tg : Expr} {es : List Expr} {pos : Pos} {ia ib ic : E} {sa sb : List S} {s : Stmt} {ss : List Stmt}
theorem ite_both {α β : Type} {p : Prop} [Decidable p] {a b : α} {c d : β} (R : α → β → Prop) (h1 : p → R a c) (h2 : ¬p → R b d) : R (if p then a else b) (if p then c else d) := by
  by_cases h : p
  · rw [if_pos h, if_pos h]; exact h1 h
  · rw [if_neg h, if_neg h]; exact h2 h
def swEq (r : Option (List Str)) (o : Option (Option (List Str))) (m : PySem.Sem (Option (List Str))) : Prop := o = some r → m = pure r
theorem swR_ok {ts vs : List Expr} {k1 k2 : Nat} {p1 p2 : Pos} {r : Option (List Str)} (h : swR X.env.scope ts vs = some r) : swappedStores [.Tuple ts k1 p1] (.Tuple vs k2 p2) X.env = pure r := by
  have key : swEq r (swR X.env.scope ts vs) (swappedStores [.Tuple ts k1 p1] (.Tuple vs k2 p2) X.env) := by
    unfold swR swappedStores
    refine ite_both (swEq r) (fun _ h => by cases h; rfl) fun _ => ?_
    refine ite_both (swEq r) (fun _ h => by cases h; rfl) fun _ => ?_
    refine ite_both (swEq r) (fun _ h => by cases h; rfl) fun _ => ?_
    refine ite_both (swEq r) (fun _ h => by cases h; rfl) fun _ => ?_
    refine ite_both (swEq r) (fun _ h => by cases h) fun _ h => by cases h; rfl
  exact key h
theorem locS_ok (O : CxO g M Γ k cs X W) {x : Str} (h : locS cs.sc x = true) : X.env.scope.names.lookup x = some .local := by
  rw [O.sc]
  unfold locS lookS at h
  split at h
  · rename_i q; exact q
  · cases h
theorem set_all2 {i j : Nat} {ds : List D} {env env' : EnvD} (h : putAll [Tg.nm i, Tg.nm j] ds env = some env') : ∃ d1 d2, ds = [d1, d2] ∧ env' = (env.set i (some d1)).set j (some d2) := by
  match ds, h with
  | [d1, d2], h =>
    simp only [putAll, put] at h
    split at h
    · rename_i e q
      split at q
      · cases q
        split at h
        · rename_i e2 q2
          split at q2
          · cases q2; cases h; exact ⟨d1, d2, rfl, rfl⟩
          · cases q2
        · cases h
      · cases q
    · cases h
  | [], h => simp only [putAll] at h; cases h
  | [d], h =>
    simp only [putAll] at h
    split at h
    · cases h
    · cases h
  | d1 :: d2 :: d3 :: r, h =>
    simp only [putAll] at h
    split at h
    · split at h
      · cases h
      · cases h
    · cases h
theorem sx_par2 (O : CxO g M Γ k cs X W) {i j : Nat} {x y : Str} {px py pt : Pos} {kt k2 : Nat} {pt2 : Pos} (hi : cs.N[i]? = some x) (hj : cs.N[j]? = some y) (hij : i ≠ j) (hx : locS cs.sc x = true) (hy : locS cs.sc y = true)
    (ha : PA X [a, b] (tXs M W (evEs Γ [ia, ib]))) (hw : swR cs.sc [.Name x px, .Name y py] [a, b] = some (some [x, y])) :
    PS X (.Assign [.Tuple [.Name x px, .Name y py] kt pt] (.Tuple [a, b] k2 pt2) pos) (tS M W (evS Γ (.par [i, j] [ia, ib]))) := by
  refine ps_weak (ps_par O.calm O.nd (by rw [O.N]; exact hi) (by rw [O.N]; exact hj) hij (locS_ok O hx) (locS_ok O hy) ha (swR_ok (by rw [O.sc]; exact hw)) rfl) fun D σ H ⟨ι, st, env, rs, re, q⟩ => ?_
  simp only [evS] at q
  refine sXs_then rs re q fun vs H1 ι1 st1 ds ed e1 p1 rs1 re1 r1 g1 => ?_
  cases hp : putAll ([i, j].map Tg.nm) ds env with
  | none => rw [hp] at g1; exact g1.elim
  | some env1 =>
    rw [hp] at g1
    obtain ⟨d1, d2, rfl, rfl⟩ := set_all2 hp
    obtain ⟨v, w, rfl, r2, r3⟩ := two_of r1
    exact ⟨v, w, rfl, g1 ι1 H1 _ (.refl _) (.refl _) rs1 ((re1.set r2).set r3)⟩
theorem set_all3 {i j l : Nat} {ds : List D} {env env' : EnvD} (h : putAll [Tg.nm i, Tg.nm j, Tg.nm l] ds env = some env') : ∃ d1 d2 d3, ds = [d1, d2, d3] ∧ env' = ((env.set i (some d1)).set j (some d2)).set l (some d3) := by
  match ds, h with
  | [], h => simp only [putAll] at h; cases h
  | d :: ds, h =>
    simp only [putAll] at h
    split at h
    · rename_i e q
      simp only [put] at q
      split at q
      · cases q
        obtain ⟨d1, d2, rfl, rfl⟩ := set_all2 (by simpa only [putAll] using h : putAll [Tg.nm j, Tg.nm l] ds (env.set i (some d)) = some env')
        exact ⟨d, d1, d2, rfl, rfl⟩
      · cases q
    · cases h
theorem sx_par3 (O : CxO g M Γ k cs X W) {i j l : Nat} {x y z : Str} {px py pz pt : Pos} {kt k2 : Nat} {pt2 : Pos} (hi : cs.N[i]? = some x) (hj : cs.N[j]? = some y) (hl : cs.N[l]? = some z) (hij : i ≠ j) (hil : i ≠ l) (hjl : j ≠ l) (hx : locS cs.sc x = true) (hy : locS cs.sc y = true) (hz : locS cs.sc z = true)
    (ha : PA X [a, b, c] (tXs M W (evEs Γ [ia, ib, ic]))) (hw : swR cs.sc [.Name x px, .Name y py, .Name z pz] [a, b, c] = some (some [x, y, z])) :
    PS X (.Assign [.Tuple [.Name x px, .Name y py, .Name z pz] kt pt] (.Tuple [a, b, c] k2 pt2) pos) (tS M W (evS Γ (.par [i, j, l] [ia, ib, ic]))) := by
  refine ps_weak (ps_par3 O.calm O.nd (by rw [O.N]; exact hi) (by rw [O.N]; exact hj) (by rw [O.N]; exact hl) hij hil hjl (locS_ok O hx) (locS_ok O hy) (locS_ok O hz) ha (swR_ok (by rw [O.sc]; exact hw)) rfl) fun D σ H ⟨ι, st, env, rs, re, q⟩ => ?_
  simp only [evS] at q
  refine sXs_then rs re q fun vs H1 ι1 st1 ds ed e1 p1 rs1 re1 r1 g1 => ?_
  cases hp : putAll ([i, j, l].map Tg.nm) ds env with
  | none => rw [hp] at g1; exact g1.elim
  | some env1 =>
    rw [hp] at g1
    obtain ⟨d1, d2, d3, rfl, rfl⟩ := set_all3 hp
    cases r1 with
    | cons r2 t =>
      obtain ⟨v, w, rfl, r3, r4⟩ := two_of t
      exact ⟨_, v, w, rfl, g1 ι1 H1 _ (.refl _) (.refl _) rs1 (((re1.set r2).set r3).set r4)⟩
theorem sx_aug (O : CxO g M Γ k cs X W) {op : Operator} {i : Nat} {x : Str} {px : Pos} (hi : cs.N[i]? = some x) (hx : locS cs.sc x = true) (hop : augB op = true) (he : PE X e (tX M W (evE Γ ia))) :
    PS X (.AugAssign (.Name x px) op e pos) (tS M W (evS Γ (.aug op i ia))) := by
  have hl := locS_ok O hx
  have key : ∀ {ti : TIp}, PIp X op ti → (∀ (d y : D) (v w : V) (z : D) (ι : List Addr) (H : Hp) (Q : VK), ipI2 op d y = some z → RD M.K M.ga ι H d v → RD M.K M.ga ι H y w → (∀ u, RD M.K M.ga ι H z u → Q u H) → ti v w H Q) → PS X (.AugAssign (.Name x px) op e pos) (tS M W (evS Γ (.aug op i ia))) := by
    intro ti hti h
    refine ps_weak (ps_aug O.nd (by rw [O.N]; exact hi) (.inl hl) he hti (.inr hl)) fun D σ H ⟨ι, st, env, rs, re, q⟩ => ?_
    simp only [evS] at q
    cases hx : env[i]? with
    | none => rw [hx] at q; exact q.elim
    | some o =>
      cases o with
      | none => rw [hx] at q; exact q.elim
      | some d =>
        rw [hx] at q
        obtain ⟨v, h1, h2⟩ := re.2 i d hx
        refine ⟨v, h1, ?_⟩
        refine sX_then rs re q fun w H1 ι1 st1 y e1 p1 rs1 re1 r1 g1 => ?_
        cases hz : ipI2 op d y with
        | none => rw [hz] at g1; exact g1.elim
        | some z =>
          rw [hz] at g1
          exact h d y v w z ι1 H1 _ hz (h2.mono e1 p1) r1 fun u ru => g1 ι1 H1 _ (.refl _) (.refl _) rs1 (re1.set ru)
  cases op with
  | Add =>
    refine key ip_add fun d y v w z ι H Q hz r1 r2 hq => ?_
    cases d <;> simp only [ipI2] at hz <;> try cases hz
    cases y <;> simp only [ipI2] at hz <;> cases hz
    cases r1; cases r2
    exact ⟨_, _, rfl, rfl, hq _ (.int _)⟩
  | Sub =>
    refine key ip_sub fun d y v w z ι H Q hz r1 r2 hq => ?_
    cases d <;> simp only [ipI2] at hz <;> try cases hz
    cases y <;> simp only [ipI2] at hz <;> cases hz
    cases r1; cases r2
    exact ⟨_, _, rfl, rfl, hq _ (.int _)⟩
  | _ => cases hop
theorem swaps_none {t : Option Expr} {l : Nat} {en : Env} (h : compB e = false) : swapsWith e t l en = pure false := by
  cases e <;> first | rfl | cases h
theorem swaps_sole {t : Expr} {l : Nat} {en : Env} (h : compB e = false) : swapsWithSole [t] e l en = pure false := by
  show swapsWith e (some t) l en = _
  exact swaps_none h
theorem asgO_ok (O : CxO g M Γ k cs X W) {n : Nat} (he : PE X e (tX M W (evE Γ ia))) (hs : swapsWithSole [tg] e pos.line X.env = pure false) (hw : swappedStores [tg] e X.env = pure none) (h1 : (assignEach [tg] X.env).map (·.2) = [assign tg X.env]) :
    PS X (.Assign [tg] e pos) (tS M W (evS Γ (asgO (cTg n cs tg) ia))) := by
  unfold asgO
  cases q : cTg n cs tg with
  | none => exact sx_nev
  | some t => exact sx_asg he (px_tgS O n tg t q) hs hw h1
theorem parS_ok (O : CxO g M Γ k cs X W) {f : Expr → E} (h : ∀ e, PE X e (tX M W (evE Γ (f e)))) {ts vs : List Expr} {xs : List Str} {kt k2 : Nat} {pt pt2 : Pos} (hw : swR cs.sc ts vs = some (some xs)) :
    PS X (.Assign [.Tuple ts kt pt] (.Tuple vs k2 pt2) pos) (tS M W (evS Γ (parS cs f ts vs xs))) := by
  unfold parS
  split
  · split
    · rename_i hc
      obtain ⟨rfl, hc⟩ := hc
      rw [Bool.and_eq_true, Bool.and_eq_true, Bool.and_eq_true] at hc
      split
      · rename_i i j hi hj
        split
        · rename_i hij
          have s1 := hc.1.2
          have s2 := hc.2
          exact sx_par2 O (ixOf_get0 hi) (ixOf_get0 hj) hij hc.1.1.1 hc.1.1.2 (pxs_cons (by simpa using s1) (h _) (pxs_cons (by simpa using s2) (h _) pxs_nil)) hw
        · exact sx_nev
      · exact sx_nev
    · exact sx_nev
  · split
    · rename_i hc
      obtain ⟨rfl, hc⟩ := hc
      rw [Bool.and_eq_true, Bool.and_eq_true, Bool.and_eq_true, Bool.and_eq_true, Bool.and_eq_true] at hc
      split
      · rename_i i j l hi hj hl
        split
        · rename_i hij
          have s1 := hc.1.1.2
          have s2 := hc.1.2
          have s3 := hc.2
          exact sx_par3 O (ixOf_get0 hi) (ixOf_get0 hj) (ixOf_get0 hl) hij.1 hij.2.1 hij.2.2 hc.1.1.1.1.1 hc.1.1.1.1.2 hc.1.1.1.2 (pxs_cons (by simpa using s1) (h _) (pxs_cons (by simpa using s2) (h _) (pxs_cons (by simpa using s3) (h _) pxs_nil))) hw
        · exact sx_nev
      · exact sx_nev
    · exact sx_nev
  · exact sx_nev
theorem setLc_ok (O : CxO g M Γ k cs X W) {n : Nat} {x : Str} {tp : Pos} (hc : compB e = true) (hl : lcNm cs.sc x tp e = true) : PS X (.Assign [.Name x tp] e pos) (tS M W (evS Γ (asgO (cTg n cs (.Name x tp)) (cE g n cs e)))) := by
  unfold asgO
  cases qx : cTg n cs (.Name x tp) with
  | none => exact sx_nev
  | some t0 =>
    cases e with
    | ListComp elt gens scope p =>
      have hc0 := hl
      clear hl
      have hl : ((tp.line == p.line) && (match lookS cs.sc x with | some .local => true | _ => false) && !(scope.names.any fun (n, k) => n == x && (k == .local || k == .cell)) && isFunK cs.sc.kind) = true := by
        unfold lcNm at hc0
        rcases gens with _ | ⟨gn, _ | ⟨_, _⟩⟩ <;> first | exact hc0 | cases hc0
      have hg1 : ∃ gn, gens = [gn] := by
        unfold lcNm at hc0
        rcases gens with _ | ⟨gn, _ | ⟨_, _⟩⟩
        · cases hc0
        · exact ⟨gn, rfl⟩
        · cases hc0
      clear hc0
      rw [Bool.and_eq_true, Bool.and_eq_true, Bool.and_eq_true] at hl
      obtain ⟨⟨⟨hl1, hl2⟩, hl3⟩, hl4⟩ := hl
      rw [Bool.not_eq_true'] at hl3
      have hxl : X.env.scope.names.lookup x = some .local := locS_ok O hl2
      have hk : X.env.scope.kind = .function := by
        rw [O.sc]
        cases q : cs.sc.kind <;> rw [q] at hl4 <;> first | rfl | cases hl4
      cases n with
      | zero => unfold cTg at qx; cases qx
      | succ n =>
        have qt : ∃ i, t0 = .nm i ∧ cs.N[i]? = some x := by
          unfold cTg at qx
          have ql : lookS cs.sc x = some .local := by
            split at hl2
            · rename_i q; exact q
            · cases hl2
          simp only [ql] at qx
          cases qi : ixOf cs.N x 0 with
          | none => rw [qi] at qx; cases qx
          | some i => rw [qi] at qx; cases qx; exact ⟨i, rfl, ixOf_get0 qi⟩
        obtain ⟨i, rfl, hix⟩ := qt
        have nev : PS X (.Assign [.Name x tp] (.ListComp elt gens scope p) pos) (tS M W (evS Γ (.asg (.nm i) .nev))) := ⟨fun pins s σ H D I ⟨ι, st, env, rs, re, q⟩ => by
          simp only [evS, evE, OS.of] at q
          exact q.elim⟩
        unfold cE
        cases gens with
        | nil => exact nev
        | cons gn gens =>
          obtain ⟨tg, it, ifs, as'⟩ := gn
          cases gens with
          | cons _ _ =>
            obtain ⟨_, z⟩ := hg1
            cases z
          | nil =>
            simp only
            split
            · rename_i hc
              obtain ⟨h0, hl, hb⟩ := hc
              subst h0
              cases q : cIt g cs tg it with
              | none => exact nev
              | some pr =>
                obtain ⟨kd, src⟩ := pr
                simp only
                cases q2 : cTg n ⟨cs.N, relS scope cs.sc, fun x => scope.names.lookup x == some .cell⟩ tg with
                | none => exact nev
                | some t =>
                  simp only
                  split
                  · rename_i ht
                    have Ob := fun s H C cl fp => O.blk scope s H C cl fp
                    have ihb := fun (s : Shared) (H : Hp) (C : Addr) (cl : List (Str × Addr)) (fp : List Addr) e => both_all g M Γ k n _ _ _ e (Ob s H C cl fp)
                    have ih := fun e => both_all g M Γ k n cs X W e O
                    refine ps_weak (ps_setLc O.calm O.nd (by rw [O.N]; exact hix) hxl (sw_true hk hxl hl1 hl3) (px_iter O (fun e => (ih e).1) q) (blkOk_by (own := ownOf cs.N scope.names) (by rw [O.N, O.sc]; exact hb)) (fun s H C cl fp => px_tg (Ob s H C cl fp) n tg t q2) (tt := tCs M W0 Γ (ifs.map (cE g n ⟨cs.N, relS scope cs.sc, fun x => scope.names.lookup x == some .cell⟩))) (fun s H C cl fp => ?_) (fun s H C cl fp => (ihb s H C cl fp elt).1) (setB_fold (cIt_set q))) fun D σ H ⟨ι, st, env, rs, re, g⟩ => ?_
                    · cases ifs with
                      | nil => exact pxs_cs0
                      | cons c ifs =>
                        cases ifs with
                        | nil => exact pxs_cs1 (ihb s H C cl fp c).2
                        | cons _ _ => simp at hl
                    · simp only [evS] at g
                      refine lc_read (Q := fun v H1 => gName i v σ H1 D.nx) ht (sX_then rs re g fun v H1 ι1 st1 d e1 p1 rs1 re1 r1 g1 => ?_)
                      simp only [putS] at g1
                      cases hp : put (.nm i) d env with
                      | none => rw [hp] at g1; exact g1.elim
                      | some env1 =>
                        rw [hp] at g1
                        simp only [put] at hp
                        split at hp
                        · cases hp
                          exact g1 ι1 H1 _ (.refl _) (.refl _) rs1 (re1.set r1)
                        · cases hp
                  · exact nev
            · exact nev
    | _ => cases hl
theorem assign_one {t : Expr} {en : Env} (h : starB t = false) : (assignEach [t] en).map (·.2) = [assign t en] := by
  rw [assign_cons h]; rfl
theorem stmt_all (g : G) (M : Mo) (Γ : Sem) (k : Nat) (cs : CS) (X : Cx) (W : WX) (O : CxS g M Γ k cs X W) : ∀ (n : Nat) (s : Stmt), PS X s (tS M W (evS Γ (cS g n cs s)))
  | 0, _ => sx_nev
  | n + 1, s => by
    have O' := O.toCxO
    have ih : ∀ e, Both M W Γ X e (cE g n cs e) := fun e => both_all g M Γ k n cs X W e O'
    have is : ∀ ss : List Stmt, PSs X ss (tS M W (evSs Γ (ss.map (cS g n cs)))) := by
      intro ss
      induction ss with
      | nil => exact sxs_nil
      | cons s ss ih2 => exact sxs_cons (stmt_all g M Γ k cs X W O n s) ih2
    unfold cS
    cases s with
    | Assign ts e p =>
      cases ts with
      | nil => exact sx_nev
      | cons t ts =>
        cases ts with
        | cons _ _ => exact sx_nev
        | nil =>
          cases t with
          | Subscript o i p2 =>
            simp only
            split
            · exact sx_nev
            · rename_i hc
              have hc := (Bool.not_eq_true _).mp hc
              rw [Bool.or_eq_false_iff] at hc
              exact sx_asgS (ih e).1 (ih o).1 (ih i).1 (swaps_sole hc.1) hc.2
          | Attribute o f p2 =>
            simp only
            split
            · exact sx_nev
            · rename_i hc
              have hc := (Bool.not_eq_true _).mp hc
              rw [Bool.or_eq_false_iff, Bool.or_eq_false_iff] at hc
              exact sx_setF O'.K (ih e).1 (ih o).1 (swaps_none hc.1.1) (by simpa using hc.2) rfl fun c hj => by
                obtain ⟨y, ci, e1, e2⟩ := flds_at hj
                have ck := O'.gok.cl c y ci e1
                exact ⟨ck.cls, ck.fl _ e2⟩
          | Name x tp =>
            simp only
            split
            · rename_i hc
              split
              · rename_i hl; exact setLc_ok O' hc hl
              · exact sx_nev
            · rename_i hc
              exact asgO_ok O' (ih e).1 (swaps_sole ((Bool.not_eq_true _).mp hc)) rfl rfl
          | Tuple ts kk p2 =>
            simp only
            split
            · exact sx_nev
            · rename_i hc
              have hc := (Bool.not_eq_true _).mp hc
              have sw : swapsWithSole [.Tuple ts kk p2] e p.line X.env = pure false := swaps_sole hc
              cases e with
              | Tuple vs k2 p3 =>
                simp only
                cases q : swR cs.sc ts vs with
                | none => exact sx_nev
                | some o =>
                  cases o with
                  | none => exact asgO_ok O' (ih _).1 sw (swR_ok (by rw [O'.sc]; exact q)) rfl
                  | some xs => exact parS_ok O' (fun e => (ih e).1) q
              | _ => exact asgO_ok O' (ih _).1 sw rfl rfl
          | _ => exact sx_nev
    | AugAssign t op e p =>
      cases t with
      | Name x tp =>
        simp only
        split
        · rename_i hc
          rw [Bool.and_eq_true] at hc
          cases qi : ixOf cs.N x 0 with
          | none => exact sx_nev
          | some i => exact sx_aug O' (ixOf_get0 qi) hc.1 hc.2 (ih e).1
        · exact sx_nev
      | _ => exact sx_nev
    | Expr e p =>
      simp only
      split
      · exact sx_nev
      · rename_i hc
        exact sx_expr (ih e).1 (swaps_none ((Bool.not_eq_true _).mp hc))
    | Return v p =>
      cases v with
      | none => exact sx_retN
      | some e => exact sx_ret (ih e).1
    | If c a b p => exact sx_if (ih c).2 (is a) (is b)
    | While c b o p =>
      cases o with
      | nil => exact sx_while O.own (ih c).2 (is b)
      | cons _ _ => exact sx_nev
    | For tg it b o p =>
      cases o with
      | cons _ _ => exact sx_nev
      | nil =>
        simp only
        cases q : cIt g cs tg it with
        | none => exact sx_nev
        | some pr =>
          obtain ⟨kd, src⟩ := pr
          simp only
          cases q2 : cTg n cs tg with
          | none => exact sx_nev
          | some t => exact sx_for O.own O'.calm (px_iter O' (fun e => (ih e).1) q) (px_tg O' n tg t q2) (is b) (setB_fold (cIt_set q))
    | Break p => exact sx_brk
    | Continue p => exact sx_cont
    | Pass p => exact sx_pass
    | _ => exact sx_nev
end
end RX

namespace RX
open PySem PySem.Spec PyProof.Rows L2
theorem GoodS.ofEnd {M : Mo} {W : Value → Option Addr → Hp → Prop} {ι : List Addr} {H : Hp} {x : OS} {Q : VK} (g : Good M (rD M) W ι H (endOf x) Q) : GoodS M (fun c d _ H' => W c d H') ι H x { nx := fun _ H' => Q .non H', rt := Q } := by
  cases x with
  | next env st => exact fun ι' H' σ' e p rs re => g ι' H' .non e p rs .non
  | ret d st => exact fun ι' H' v e p rs r => g ι' H' v e p rs r
  | exc c q env st => exact fun ι' H' σ' cls dd e p rs re xo => g ι' H' cls dd e p rs xo
  | brk env st => exact g.elim
  | cont env st => exact g.elim
  | stuck => exact g.elim
theorem RDs.opt {K : PySem.W.Frag} {ga : GA} {ι : List Addr} {H : Hp} {ds : List D} {vs : List V} (r : RDs K ga ι H ds vs) {N : List Str} : RE K ga ι H (ds.map some ++ List.replicate (N.length - ds.length) none) (L2.start N vs) := by
  refine ⟨by simp [L2.start, r.length], fun i d h => ?_⟩
  have hl := r.length
  by_cases hi : i < ds.length
  · rw [List.getElem?_append_left (by simpa using hi), List.getElem?_map] at h
    cases q : ds[i]? with
    | none => rw [q] at h; cases h
    | some d' =>
      rw [q] at h
      cases h
      obtain ⟨v, h1, h2⟩ := r.get q
      refine ⟨v, ?_, h2⟩
      unfold L2.start
      rw [List.getElem?_append_left (by simpa [← hl] using hi), List.getElem?_map, h1]
      rfl
  · rw [List.getElem?_append_right (by simpa using hi)] at h
    rw [List.getElem?_replicate] at h
    split at h <;> cases h
structure DefOk (g : G) (K : PySem.W.Frag) (fns : Nat → Option Fn) (f : Addr) (i : Nat) (d : DefI) (fd : FuncData) (pn : List Str) : Prop where
  at_ : fns i = some (fnI g d)
  scope : FnScope d.N pn d.scope
  len : pn.length = d.ps
  fn : ∃ (x q : Str) (params : Arguments) (dvs : List V), FunD K x q params d.body d.scope dvs [] f fd
  binds : Binds K fd pn []
structure ModOk (g : G) (M : Mo) (mg : Str → Option Value) (fns : Nat → Option Fn) : Prop where
  fn : ∀ (i : Nat) (f : Fn), fns i = some f → ∃ (d : DefI) (fd : FuncData) (pn : List Str), DefOk g M.K fns (M.ga i) i d fd pn
  nm : ∀ (x : Str) (i ps : Nat), gIx g x 0 = some (i, .fn ps) → mg x = some (.ref (M.ga i)) ∧ ∃ f, fns i = some f ∧ f.ps = ps
  cst : ∀ (x : Str) (i : Nat) (d : D), gIx g x 0 = some (i, .cst d) → ∃ (v : V) (u : Value), mg x = some u ∧ RelV v u ∧ ∀ ι H, RD M.K M.ga ι H d v
  free : ∀ x : Str, gIx g x 0 = none → freeNm x = true → mg x = none
  clN : ∀ (x : Str) (c : Nat) (ci : ClsI), gIx g x 0 = some (c, .cls ci) → mg x = some (.ref (M.ga c))
  cl : ∀ (c : Nat) (x : Str) (ci : ClsI), g[c]? = some (x, .cls ci) → ClsOk M c ci
section
variable {g : G} {M : Mo} {P : Program} {w : World} {mg : Str → Option Value} {base : Heap} {fns : Nat → Option Fn}
theorem callN_some {k j : Nat} {ds : List D} {st : Store} (h : callN fns k j ds st ≠ .stuck) : ∃ f, fns j = some f ∧ ds.length = f.ps := by
  cases k with
  | zero => exact absurd rfl h
  | succ k =>
    unfold callN at h
    cases q : fns j with
    | none => rw [q] at h; exact absurd rfl h
    | some f =>
      rw [q] at h
      by_cases hl : ds.length = f.ps
      · exact ⟨f, rfl, hl⟩
      · simp only [if_neg hl] at h
        exact absurd rfl h
theorem def_ok (m : ModOk g M mg fns) : ∀ (k : Nat) (i : Nat) (d : DefI) (fd : FuncData) (pn : List Str), DefOk g M.K fns (M.ga i) i d fd pn → FnOk P w M.K mg base (L2.CX P w) (2 * k) (M.ga i) fd pn (spD M (callN fns k) i pn.length)
  | 0, i, d, fd, pn, _ => by
    refine ⟨spD_len, fun A outer s H args us vs Q E _ _ _ _ h => ?_⟩
    obtain ⟨ι, st, ds, rs, rd, hl, q⟩ := h
    unfold callN at q
    exact q.elim
  | k + 1, i, d, fd, pn, o => by
    obtain ⟨x, q, params, dvs, F⟩ := o.fn
    have all : FnOk P w M.K mg base (L2.CX P w) ((2 * k + 1) + 1) (M.ga i) fd pn (spD M (callN fns (k + 1)) i pn.length) := by
      refine F.ok o.scope spD_len fun cdv A outer s H vs Q E hr h => ?_
      obtain ⟨ι, st, ds, rs, rd, hl, qq⟩ := h
      unfold callN at qq
      rw [o.at_] at qq
      have hps : ds.length = (fnI g d).ps := hl.trans o.len
      simp only at qq
      rw [if_pos hps] at qq
      have fj : FnJ M P w mg base (2 * k) (callN fns k) := fun j ds st hne => by
        obtain ⟨f, hf, hlen⟩ := callN_some hne
        obtain ⟨d', fd', pn', o'⟩ := m.fn j f hf
        obtain ⟨_, _, _, _, F'⟩ := o'.fn
        have hfe := o'.at_
        rw [hf] at hfe
        cases hfe
        exact ⟨fd', pn', def_ok m k j d' fd' pn' o', F'.kp, o'.binds, by rw [o'.len, hlen]; rfl⟩
      have G : GOk g M P w mg base (2 * k) (callN fns k) := ⟨fun y j ps hy => by
          obtain ⟨hm, f, hf, hfp⟩ := m.nm y j ps hy
          obtain ⟨d', fd', pn', o'⟩ := m.fn j f hf
          obtain ⟨_, _, _, _, F'⟩ := o'.fn
          have hfe := o'.at_
          rw [hf] at hfe
          cases hfe
          exact ⟨fd', pn', hm, def_ok m k j d' fd' pn' o', F'.kp, o'.binds, by rw [o'.len, ← hfp]; rfl⟩, m.cst, m.free, fj, m.clN, m.cl⟩
      let X := cxOf (L2.CX P w) P w M.K mg base d.N q d.scope (M.ga i) cdv A outer s H E
      have tk : Takes X (fun cls d _ H => E cls d H) := takes_of (X := X) (E := E) rfl rfl rfl rfl
      have O : CxS g M ⟨callN fns k⟩ (2 * k) ⟨d.N, d.scope, fun _ => true⟩ X (fun cls d _ H => E cls d H) :=
        ⟨⟨rfl, rfl, o.scope.nd, rfl, fun _ _ => rfl, rfl, hr, tk, G⟩, passes_of (X := X) rfl⟩
      refine ⟨tS M (fun cls d _ H => E cls d H) (evSs ⟨callN fns k⟩ (d.body.map (cS g 40 ⟨d.N, d.scope, fun _ => true⟩))), ?_, ι, st, _, rs, rd.opt (N := d.N), GoodS.ofEnd qq⟩
      have all : ∀ ss : List Stmt, PSs X ss (tS M (fun cls d _ H => E cls d H) (evSs ⟨callN fns k⟩ (ss.map (cS g 40 ⟨d.N, d.scope, fun _ => true⟩)))) := by
        intro ss
        induction ss with
        | nil => exact sxs_nil
        | cons s ss ih => exact sxs_cons (stmt_all g M _ (2 * k) _ X _ O 40 s) ih
      exact all d.body
    exact all
end
mutual
def dB (K : PySem.W.Frag) : D → Value → Bool
  | .non, .none => true
  | .bl b, .bool c => b == c
  | .int i, .int j _ => decide (i = j)
  | .str s, .str x _ => decide (s = x.cps.toList)
  | .tup ds, .ref a => match K.lookup a with
    | some ⟨.type c, _, .seq its _, _⟩ => decide (c = "tuple") && decide (its.size ≤ sizeLine) && dBs K ds its.toList
    | _ => false
  | _, _ => false
def dBs (K : PySem.W.Frag) : List D → List Value → Bool
  | [], [] => true
  | d :: ds, u :: us => dB K d u && dBs K ds us
  | _, _ => false
end
section
variable {K : PySem.W.Frag} {ga : GA}
mutual
theorem dB_ok : ∀ {d : D} {u : Value}, dB K d u = true → ∃ v, RelV v u ∧ ∀ ι H, RD K ga ι H d v
  | .non, u, h => by
    cases u <;> first | exact ⟨.non, rfl, fun _ _ => .non⟩ | (unfold dB at h; cases h)
  | .bl b, u, h => by
    cases u <;> first | (unfold dB at h; cases h; done) | skip
    rename_i c
    unfold dB at h
    have e : b = c := eq_of_beq h
    subst e
    exact ⟨.bl b, rfl, fun _ _ => .bl b⟩
  | .int i, u, h => by
    cases u <;> first | (unfold dB at h; cases h; done) | skip
    rename_i j t
    unfold dB at h
    have e : i = j := of_decide_eq_true h
    subst e
    exact ⟨.int i, ⟨t, rfl⟩, fun _ _ => .int i⟩
  | .str s, u, h => by
    cases u <;> first | (unfold dB at h; cases h; done) | skip
    rename_i x t
    unfold dB at h
    have e : s = x.cps.toList := of_decide_eq_true h
    subst e
    exact ⟨.str x, ⟨t, rfl⟩, fun ι H => by
      have q : RD K ga ι H (.str x.cps.toList) (.str ⟨x.cps.toList.toArray⟩) := .str _
      simpa using q⟩
  | .tup ds, u, h => by
    cases u <;> first | (unfold dB at h; cases h; done) | skip
    rename_i a
    unfold dB at h
    cases q : K.lookup a with
    | none => rw [q] at h; cases h
    | some o =>
      obtain ⟨oc, od, dt, osl⟩ := o
      rw [q] at h
      cases oc <;> first | (cases h; done) | skip
      cases dt <;> first | (cases h; done) | skip
      rename_i c its n
      simp only [Bool.and_eq_true] at h
      obtain ⟨⟨h1, h2⟩, h3⟩ := h
      have e : c = "tuple" := of_decide_eq_true h1
      subst e
      obtain ⟨vs, rv, rd⟩ := dBs_ok h3
      exact ⟨.ref a, rfl, fun ι H => .tup (.inr ⟨_, its, n, q, rfl, rfl, of_decide_eq_true h2, rv⟩) (rd ι H)⟩
  | .ref _, u, h => by cases u <;> (unfold dB at h; cases h)
  | .gl _, u, h => by cases u <;> (unfold dB at h; cases h)
  | .ty _, u, h => by cases u <;> (unfold dB at h; cases h)
theorem dBs_ok : ∀ {ds : List D} {us : List Value}, dBs K ds us = true → ∃ vs, Vals vs us ∧ ∀ ι H, RDs K ga ι H ds vs
  | [], [], _ => ⟨[], .nil, fun _ _ => .nil⟩
  | [], _ :: _, h => by unfold dBs at h; cases h
  | _ :: _, [], h => by unfold dBs at h; cases h
  | d :: ds, u :: us, h => by
    unfold dBs at h
    rw [Bool.and_eq_true] at h
    obtain ⟨v, r1, d1⟩ := dB_ok h.1
    obtain ⟨vs, r2, d2⟩ := dBs_ok h.2
    exact ⟨v :: vs, .cons r1 r2, fun ι H => .cons (d1 ι H) (d2 ι H)⟩
end
end
theorem gIx_get : ∀ {g : G} {x : Str} {b i : Nat} {k : GK}, gIx g x b = some (i, k) → b ≤ i ∧ g[i - b]? = some (x, k)
  | [], _, _, _, _, h => by cases h
  | (y, k') :: r, x, b, i, k, h => by
    unfold gIx at h
    split at h
    · rename_i e
      cases h
      subst e
      simp
    · obtain ⟨h1, h2⟩ := gIx_get (g := r) h
      refine ⟨by omega, ?_⟩
      have : i - b = (i - (b + 1)) + 1 := by omega
      rw [this, List.getElem?_cons_succ]
      exact h2
def freeL : List Str := ["len", "abs", "int", "str", "repr", "max", "min", "sum", "ord", "tuple", "list", "all", "any", "isinstance", "bool", "dict", "range", "enumerate", "zip"]
theorem free_in {x : Str} (h : freeNm x = true) : x ∈ freeL := by
  unfold freeNm at h
  simp only [Bool.or_eq_true] at h
  have mem : ∀ y : Str, freeL.contains y = true → y ∈ freeL := fun y hy => by simpa using hy
  rcases h with (((h | h) | h) | h) | h
  · obtain ⟨b, hb⟩ := Option.isSome_iff_exists.mp h
    have := bltOf_boot hb
    unfold bltOf at hb
    repeat (rcases ite_some hb with ⟨rfl, _⟩ | hb; · exact mem _ (by decide +kernel))
    cases hb
  · obtain ⟨b, hb⟩ := Option.isSome_iff_exists.mp h
    unfold tyOf at hb
    repeat (rcases ite_some hb with ⟨rfl, _⟩ | hb; · exact mem _ (by decide +kernel))
    cases hb
  · have e := eq_of_beq h; subst e; exact mem _ (by decide +kernel)
  · have e := eq_of_beq h; subst e; exact mem _ (by decide +kernel)
  · have e := eq_of_beq h; subst e; exact mem _ (by decide +kernel)
def prA (K : PySem.W.Frag) (C : Addr) (f : Str) : Addr := match PySem.W.recIn K (He.ma K C f) "property" with
  | some (.ref a :: _) => a
  | _ => 0
def propX (K : PySem.W.Frag) (C : Addr) (f : Str) : Bool := He.eqO (PySem.W.findIn K (.ref C) f) (some (some (.ref (He.ma K C f)))) && (He.eqO (PySem.W.specialIn K (.ref (He.ma K C f)) "__get__") (some (some (.builtin "property.__get__"))) &&
  (decide (PySem.W.takesIn K (.ref (He.ma K C f)) = some true) && (match PySem.W.recIn K (He.ma K C f) "property" with | some (.ref _ :: _) => true | _ => false)))
theorem propX_ok {K : PySem.W.Frag} {C : Addr} {f : Str} (h : propX K C f = true) : PropOf K C f (He.ma K C f) (prA K C f) := by
  unfold propX at h
  simp only [Bool.and_eq_true] at h
  obtain ⟨h1, h2, h3, h4⟩ := h
  refine ⟨He.eqO_ok h1, He.eqO_ok h2, of_decide_eq_true h3, ?_⟩
  split at h4
  · rename_i a rest q
    exact ⟨rest, by rw [q]; unfold prA; rw [q]⟩
  · cases h4
def isaX (K : PySem.W.Frag) (C : Addr) : Bool := He.eqO (PySem.W.findIn K (.ref C) "__class__") (some (some (.builtin "object.__class__"))) && (He.eqO (PySem.W.specialIn K (.builtin "object.__class__") "__get__") (some (some (.builtin "getset_descriptor.__get__"))) &&
  (decide (PySem.W.takesIn K (.builtin "object.__class__") = some true) && (decide (PySem.W.mroIn K C (.type "object") = some true) && knownNms.all fun y => decide (PySem.W.kitOne K (.type y) (.ref C) = some false))))
def faOf (g : G) : List He.Fa := (g.flatMap fun p => match p.2 with
  | .fn _ => [He.Fa.glo p.1]
  | .cls ci => [He.Fa.glo p.1, He.Fa.cls p.1] ++ ci.fl.map (He.Fa.noat p.1) ++ ci.ms.map (fun q => He.Fa.meth p.1 q.1) ++ (if (ci.ms.lookup ("__init__" : Str)).isSome then [He.Fa.mkr p.1] else [])
  | _ => []) ++ (freeL.filter fun x => (gIx g x 0).isNone).map He.Fa.free
def exOf (g : G) (K : PySem.W.Frag) : Bool := g.all fun p => match p.2 with
  | .cst d => (match PySem.W.nsIn K mainGlobals p.1 with
    | some (some u) => dB K d u
    | _ => false)
  | .cls ci => isaX K (He.ga K p.1) && ci.pr.all fun q => propX K (He.ga K p.1) q.1
  | _ => true
abbrev Tab := List (Nat × DefI × Arguments)
def fnOf (g : G) (tab : Tab) (i : Nat) : Option Fn := (tab.lookup i).map fun p => fnI g p.1
def atD (d : DefI) : Str × Option Str := match d.own with
  | none => (d.name, none)
  | some c => (c, some d.name)
def dvOf (a : Str × Option Str) (i : Nat) : D → He.Dv
  | .non => .non
  | .bl b => .bl b
  | .int i => .int i
  | .str s => .str ⟨s.toArray⟩
  | _ => .adr (He.dflAt a i)
def dvsOf (a : Str × Option Str) : List D → Nat → List He.Dv
  | [], _ => []
  | d :: r, i => dvOf a i d :: dvsOf a r (i + 1)
def ddOf (p : Nat × DefI × Arguments) : He.DefD := ⟨atD p.2.1, p.2.1.name, p.2.1.qual, p.2.2, p.2.1.body, p.2.1.scope, dvsOf (atD p.2.1) p.2.1.dfl 0, []⟩
def tabD (tab : Tab) : List He.DefD := (tab.filter fun p => !p.2.1.prp).map ddOf
def tabP (tab : Tab) : Tab := tab.filter fun p => p.2.1.prp
def fnA (K : PySem.W.Frag) (a : Addr) : He.FnW := match K.lookup a with
  | some o => (match o.data with
    | .func fd => some (fd.name, fd.qualname, fd.params, fd.body, fd.scope, fd.globals, fd.closure, fd.builtins)
    | _ => none)
  | none => none
def okA (K : PySem.W.Frag) (a : Addr) (q : Str) : Bool := PySem.W.keepIn K (.ref a) && (match K.lookup a with
  | some o => (match o.data with
    | .func fd => PySem.W.codeIn K fd.code q && He.dflB K fd.defaults []
    | _ => false)
  | none => false)
def adP (K : PySem.W.Frag) (d : DefI) : Addr := prA K (He.ga K (atD d).1) d.name
def valA (p : Nat × DefI × Arguments) : He.FnW := some (p.2.1.name, p.2.1.qual, p.2.2, .stmts p.2.1.body, p.2.1.scope, mainGlobals, [], builtinsNs)
theorem funA {K : PySem.W.Frag} {a : Addr} {p : Nat × DefI × Arguments} (e : fnA K a = valA p) (c : okA K a p.2.1.qual = true) : ∃ fd, FunD K p.2.1.name p.2.1.qual p.2.2 p.2.1.body p.2.1.scope [] [] a fd := by
  unfold okA at c
  unfold fnA valA at e
  rw [Bool.and_eq_true] at c
  obtain ⟨kp, c⟩ := c
  cases q : K.lookup a with
  | none => rw [q] at c; cases c
  | some o =>
    rw [q] at c e
    obtain ⟨oc, od, dt, osl⟩ := o
    cases dt with
    | func fd =>
      obtain ⟨b1, b2, b3, b4, b5, b6, b7, b8, b9, bA, bB, bC, bD, bE, bF⟩ := fd
      simp only [Option.some.injEq, Prod.mk.injEq] at e
      obtain ⟨rfl, rfl, rfl, rfl, rfl, rfl, rfl, rfl⟩ := e
      simp only [Bool.and_eq_true] at c
      exact ⟨_, ⟨oc, od, b8, b9, bA, bB, bC, bD, bE, osl, rfl, q, c.1, He.dflB_ok c.2, .inl rfl⟩, kp⟩
    | _ => cases c
def obsA (tab : Tab) (K : PySem.W.Frag) : Bool × List He.FnW := ((tabP tab).all fun p => okA K (adP K p.2.1) p.2.1.qual, (tabP tab).map fun p => fnA K (adP K p.2.1))
def valsA (tab : Tab) : Bool × List He.FnW := (true, (tabP tab).map valA)
theorem obsA_at {tab : Tab} {K : PySem.W.Frag} (e : obsA tab K = valsA tab) {p : Nat × DefI × Arguments} (hp : p ∈ tabP tab) : ∃ fd, FunD K p.2.1.name p.2.1.qual p.2.2 p.2.1.body p.2.1.scope [] [] (adP K p.2.1) fd := by
  have e1 : ((tabP tab).all fun p => okA K (adP K p.2.1) p.2.1.qual) = true := congrArg Prod.fst e
  have e2 : ((tabP tab).map fun p => fnA K (adP K p.2.1)) = (tabP tab).map valA := congrArg Prod.snd e
  obtain ⟨i, hi, hq⟩ := List.mem_iff_getElem.mp hp
  have e3 : ((tabP tab).map fun p => fnA K (adP K p.2.1))[i]? = ((tabP tab).map valA)[i]? := by rw [e2]
  rw [List.getElem?_map, List.getElem?_map, List.getElem?_eq_getElem hi, hq] at e3
  exact funA (Option.some.inj e3) (List.all_eq_true.mp e1 p hp)
def obsR (n : Nat) (g : G) (tab : Tab) (h : Addr → Option Obj) : He.AlX × (Bool × List He.FnW) := (He.obsX n (faOf g) (tabD tab) [] [] (exOf g) h, obsA tab (He.frT h (He.asD h n)))
structure SaysR (g : G) (tab : Tab) (w : World) (h : Heap) (K : PySem.W.Frag) : Prop where
  x : He.SaysX (faOf g) (tabD tab) [] [] (exOf g) w h K
  a : obsA tab K = valsA tab
def hookR (n : Nat) (g : G) (tab : Tab) : PySem.W.Hook where
  α := He.AlX × (Bool × List He.FnW)
  obs := fun s => obsR n g tab s.heap.get?
  val := fun w => (He.valX (tabD tab) [] w, valsA tab)
  says := fun w h => ∃ K : PySem.W.Frag, K.In h ∧ SaysR g tab w h K
  of := fun _ _ e => ⟨_, He.frT_in, He.saysX_of (congrArg Prod.fst e), congrArg Prod.snd e⟩
  keeps := fun _ _ _ ⟨K, hK, c⟩ k => ⟨K, PySem.W.Frag.In.keeps hK k, ⟨c.x.t, c.x.more, c.x.hd, c.x.out, fun _ hp => nomatch hp⟩, c.a⟩
theorem obsR_eq {n : Nat} {g : G} {tab : Tab} {h : Addr → Option Obj} {s : Shared} (e : ∀ a, h a = s.heap.get? a) : obsR n g tab h = (hookR n g tab).obs s := by
  have e : h = s.heap.get? := funext e
  rw [e]; rfl
def pnOf (d : DefI) : List Str := d.N.take d.ps
def rowC (g : G) (p : Nat × DefI × Arguments) : Bool := decide (p.2.1.ps ≤ p.2.1.N.length) && C8.scC p.2.1.N (pnOf p.2.1) p.2.1.scope && (match g[p.1]? with
  | some (x, .fn _) => decide (atD p.2.1 = (x, none)) && !p.2.1.prp
  | some (_, .mth c m) => decide (atD p.2.1 = (c, some m)) && !p.2.1.prp
  | some (_, .prp c f) => decide (atD p.2.1 = (c, some f)) && p.2.1.prp && decide (p.2.1.name = f) && decide (p.2.1.dfl.length = 0)
  | _ => false)
def tabC (g : G) (tab : Tab) : Bool := (tab.all (rowC g)) && ((List.range g.length).all fun i => match g[i]? with
  | some (_, .fn ps) => (match tab.lookup i with
    | some (d, _) => decide (d.ps = ps)
    | none => false)
  | some (x, .cls ci) => ci.ms.all (fun q => match g[q.2.1]? with | some (_, .mth c m) => decide (c = x) && decide (m = q.1) | _ => false) && ci.pr.all (fun q => match g[q.2]? with | some (_, .prp c f) => decide (c = x) && decide (f = q.1) | _ => false) && decide ((gIx g x 0).map (·.1) = some i)
  | _ => true)
def BindP (p : Nat × DefI × Arguments) : Prop := match p.2.1.dfl with
  | [] => ∀ (kV doc pm : Value) (an : Option Addr) (cdv ct : Value) (us : List Value), us.length = (pnOf p.2.1).length →
    bindArgs (PySem.W.fnOf p.2.1.name p.2.1.qual p.2.2 p.2.1.body p.2.1.scope .none kV doc pm an cdv ct) ⟨us, []⟩ = pure ((pnOf p.2.1).zip us)
  | ds => ∀ (T : Addr) (kV doc pm : Value) (an : Option Addr) (cdv ct : Value) (us its : List Value), us.length = (pnOf p.2.1).length → its.length = ds.length →
    ∃ k, bindArgs (PySem.W.fnOf p.2.1.name p.2.1.qual p.2.2 p.2.1.body p.2.1.scope (.ref T) kV doc pm an cdv ct) ⟨us, []⟩ = seqItems? (.ref T) >>= k ∧ k (some its.toArray) = pure ((pnOf p.2.1).zip (us ++ its.drop ds.length))
def gaAt (g : G) (K : PySem.W.Frag) (i : Nat) : Addr := match g[i]? with
  | some (_, .mth c m) => He.ma K (He.ga K c) m
  | some (_, .prp c f) => prA K (He.ga K c) f
  | some (x, _) => He.ga K x
  | none => 0
def moOf (g : G) (K : PySem.W.Frag) : Mo := ⟨K, gaAt g K, fun _ => Str.empty⟩
section
variable {g : G} {tab : Tab} {K : PySem.W.Frag} {h : Heap} {mg : Str → Option Value} {w : World} {ts : List He.Tab} {tf : List He.Defn}
theorem lookup_mem' {α : Type} {i : Nat} {p : α} : ∀ {l : List (Nat × α)}, l.lookup i = some p → (i, p) ∈ l := look_mem
theorem dvsOf_len {a : Str × Option Str} : ∀ {ds : List D} {i : Nat}, (dvsOf a ds i).length = ds.length
  | [], _ => rfl
  | _ :: r, i => by simp [dvsOf, dvsOf_len (ds := r)]
theorem bind_of {p : Nat × DefI × Arguments} {dvs : List V} {f : Addr} {fd : FuncData} (F : FunD K p.2.1.name p.2.1.qual p.2.2 p.2.1.body p.2.1.scope dvs [] f fd) (hl : dvs.length = p.2.1.dfl.length) (hb : BindP p) : Binds K fd (pnOf p.2.1) [] := by
  unfold BindP at hb
  cases q : p.2.1.dfl with
  | nil =>
    rw [q] at hb hl
    cases dvs with
    | cons _ _ => cases hl
    | nil => exact F.bindsN hb
  | cons d ds =>
    rw [q] at hb hl
    have hne : dvs ≠ [] := fun z => by rw [z] at hl; cases hl
    obtain ⟨zs, hv, hB⟩ := F.binds1 (ps := pnOf p.2.1) (pnOf p.2.1).length dvs.length hne (by omega) fun T kV doc pm an cdv ct us its h1 h2 => by
      have := hb T kV doc pm an cdv ct us its h1 (by rw [h2, hl])
      rw [← hl] at this
      exact this
    have hv0 : Vals [] zs := by simpa using hv
    cases hv0
    exact hB
theorem row_ok (c : SaysR g tab w h K) (hc : tabC g tab = true) (hb : ∀ p ∈ tab, BindP p) {p : Nat × DefI × Arguments} (hp : p ∈ tab) (hl : tab.lookup p.1 = some p.2) : ∃ fd, DefOk g K (fnOf g tab) (gaAt g K p.1) p.1 p.2.1 fd (pnOf p.2.1) ∧ ∃ dvs, FunD K p.2.1.name p.2.1.qual p.2.2 p.2.1.body p.2.1.scope dvs [] (gaAt g K p.1) fd ∧ dvs.length = p.2.1.dfl.length := by
  unfold tabC at hc
  rw [Bool.and_eq_true] at hc
  have hr := List.all_eq_true.mp hc.1 p hp
  unfold rowC at hr
  rw [Bool.and_eq_true, Bool.and_eq_true] at hr
  obtain ⟨⟨h1, h2⟩, h3⟩ := hr
  have h1 : p.2.1.ps ≤ p.2.1.N.length := of_decide_eq_true h1
  have fin : ∀ {f : Addr} {fd : FuncData} {dvs : List V}, FunD K p.2.1.name p.2.1.qual p.2.2 p.2.1.body p.2.1.scope dvs [] f fd → dvs.length = p.2.1.dfl.length → f = gaAt g K p.1 → ∃ fd, DefOk g K (fnOf g tab) (gaAt g K p.1) p.1 p.2.1 fd (pnOf p.2.1) ∧ ∃ dvs, FunD K p.2.1.name p.2.1.qual p.2.2 p.2.1.body p.2.1.scope dvs [] (gaAt g K p.1) fd ∧ dvs.length = p.2.1.dfl.length := by
    intro f fd dvs F hd hf
    subst hf
    exact ⟨fd, ⟨by unfold fnOf; rw [hl]; rfl, C8.fnScope_by h2, by unfold pnOf; rw [List.length_take]; omega, ⟨_, _, _, _, F⟩, bind_of F hd (hb p hp)⟩, dvs, F, hd⟩
  have plain : p.2.1.prp = false → ∀ a : Addr, He.fAd K (atD p.2.1) = a → a = gaAt g K p.1 → ∃ fd, DefOk g K (fnOf g tab) (gaAt g K p.1) p.1 p.2.1 fd (pnOf p.2.1) ∧ ∃ dvs, FunD K p.2.1.name p.2.1.qual p.2.2 p.2.1.body p.2.1.scope dvs [] (gaAt g K p.1) fd ∧ dvs.length = p.2.1.dfl.length := by
    intro hpr a ha hg
    obtain ⟨fd, F⟩ := c.x.t.d.defs (d := ddOf p) (List.mem_map.mpr ⟨p, List.mem_filter.mpr ⟨hp, by rw [hpr]; rfl⟩, rfl⟩)
    exact fin (dvs := (ddOf p).dvs K) F (by show ((dvsOf _ p.2.1.dfl 0).map _).length = _; rw [List.length_map, dvsOf_len]) (ha.trans hg)
  split at h3
  · rename_i x ps q
    rw [Bool.and_eq_true] at h3
    have ea : atD p.2.1 = (x, none) := of_decide_eq_true h3.1
    exact plain (by simpa using h3.2) _ rfl (by rw [ea]; unfold gaAt; rw [q]; rfl)
  · rename_i x cc m q
    rw [Bool.and_eq_true] at h3
    have ea : atD p.2.1 = (cc, some m) := of_decide_eq_true h3.1
    exact plain (by simpa using h3.2) _ rfl (by rw [ea]; unfold gaAt; rw [q]; rfl)
  · rename_i x cc f q
    rw [Bool.and_eq_true, Bool.and_eq_true, Bool.and_eq_true] at h3
    obtain ⟨⟨⟨h4, h5⟩, h6⟩, h7⟩ := h3
    have ea : atD p.2.1 = (cc, some f) := of_decide_eq_true h4
    have en : p.2.1.name = f := of_decide_eq_true h6
    obtain ⟨fd, F⟩ := obsA_at c.a (List.mem_filter.mpr ⟨hp, h5⟩)
    exact fin F (of_decide_eq_true h7).symm (by unfold adP gaAt; rw [ea, en, q])
  · cases h3
theorem mod_ok (X : K.In h) (G : h.Ns mainGlobals mg) (c : SaysR g tab w h K) (hc : tabC g tab = true) (hb : ∀ p ∈ tab, BindP p) : ModOk g (moOf g K) mg (fnOf g tab) := by
  have hcc := hc
  unfold tabC at hcc
  rw [Bool.and_eq_true] at hcc
  have col := fun i (hi : i < g.length) => List.all_eq_true.mp hcc.2 i (List.mem_range.mpr hi)
  have fact : ∀ {f : He.Fa} {p : Str × GK}, p ∈ g → f ∈ (match p.2 with
      | .fn _ => [He.Fa.glo p.1]
      | .cls ci => [He.Fa.glo p.1, He.Fa.cls p.1] ++ ci.fl.map (He.Fa.noat p.1) ++ ci.ms.map (fun q => He.Fa.meth p.1 q.1) ++ (if (ci.ms.lookup ("__init__" : Str)).isSome then [He.Fa.mkr p.1] else [])
      | _ => [] : List He.Fa) → f.ok K = true := fun hp hf => c.x.t.d.facts (List.mem_append_left _ (List.mem_flatMap.mpr ⟨_, hp, hf⟩))
  refine ⟨fun i f hf => ?_, fun x i ps hx => ?_, fun x i d hx => ?_, fun x hx hf => ?_, fun x cc ci hx => ?_, fun cc x ci hx => ?_⟩
  · unfold fnOf at hf
    cases q : tab.lookup i with
    | none => rw [q] at hf; cases hf
    | some p =>
      obtain ⟨fd, o, _⟩ := row_ok c hc hb (p := (i, p)) (look_mem q) q
      exact ⟨p.1, fd, pnOf p.1, o⟩
  · have hg := (gIx_get hx).2
    rw [Nat.sub_zero] at hg
    have hi : i < g.length := (List.getElem?_eq_some_iff.mp hg).1
    refine ⟨?_, ?_⟩
    · have e : (moOf g K).ga i = He.ga K x := by show gaAt g K i = _; unfold gaAt; rw [hg]
      rw [e]
      exact He.glo_ok X G (fact (List.mem_of_getElem? hg) (List.mem_singleton.mpr rfl))
    · have hci := col i hi
      rw [hg] at hci
      simp only at hci
      cases q : tab.lookup i with
      | none => rw [q] at hci; cases hci
      | some p =>
        rw [q] at hci
        exact ⟨fnI g p.1, by unfold fnOf; rw [q]; rfl, of_decide_eq_true hci⟩
  · have hg := (gIx_get hx).2
    rw [Nat.sub_zero] at hg
    have q := List.all_eq_true.mp (show exOf g K = true from c.x.more) _ (List.mem_of_getElem? hg)
    simp only at q
    split at q
    · rename_i u hu
      obtain ⟨v, rv, rd⟩ := dB_ok (ga := (moOf g K).ga) q
      exact ⟨v, u, PySem.W.mg_of X G hu, rv, rd⟩
    · cases q
  · exact He.free_ok X G (c.x.t.d.facts (List.mem_append_right _ (List.mem_map.mpr ⟨x, List.mem_filter.mpr ⟨free_in hf, by simp [hx]⟩, rfl⟩)))
  · have hg := (gIx_get hx).2
    rw [Nat.sub_zero] at hg
    have e : (moOf g K).ga cc = He.ga K x := by show gaAt g K cc = _; unfold gaAt; rw [hg]
    rw [e]
    exact He.glo_ok X G (fact (List.mem_of_getElem? hg) (by simp))
  · have hi : cc < g.length := (List.getElem?_eq_some_iff.mp hx).1
    have e : (moOf g K).ga cc = He.ga K x := by show gaAt g K cc = _; unfold gaAt; rw [hx]
    have ex := List.all_eq_true.mp (show exOf g K = true from c.x.more) _ (List.mem_of_getElem? hx)
    simp only at ex
    rw [Bool.and_eq_true] at ex
    have hci := col cc hi
    rw [hx] at hci
    simp only at hci
    rw [Bool.and_eq_true, Bool.and_eq_true] at hci
    obtain ⟨⟨hms, hpr⟩, _⟩ := hci
    have mem : ∀ {α : Type} {m : Str} {v : α} {l : List (Str × α)}, l.lookup m = some v → (m, v) ∈ l := by
      intro α m v l
      induction l with
      | nil => intro h; cases h
      | cons p l ih =>
        obtain ⟨m', v'⟩ := p
        intro h
        rw [List.lookup_cons] at h
        split at h
        · rename_i hb
          cases h
          rw [beq_iff_eq.mp hb]
          exact List.mem_cons_self
        · exact List.mem_cons_of_mem _ (ih h)
    have msGa : ∀ {m : Str} {j ps : Nat}, ci.ms.lookup m = some (j, ps) → (moOf g K).ga j = He.ma K (He.ga K x) m ∧ (m, j, ps) ∈ ci.ms := by
      intro m j ps hm
      have hmm := mem hm
      have q := List.all_eq_true.mp hms _ hmm
      simp only at q
      split at q
      · rename_i y c2 m2 hj
        rw [Bool.and_eq_true] at q
        have e1 : c2 = x := of_decide_eq_true q.1
        have e2 : m2 = m := of_decide_eq_true q.2
        refine ⟨?_, hmm⟩
        show gaAt g K j = _
        unfold gaAt
        rw [hj, e1, e2]
      · cases q
    have hin := List.mem_of_getElem? hx
    have isa := ex.1
    unfold isaX at isa
    simp only [Bool.and_eq_true] at isa
    obtain ⟨i1, i2, i3, i4, i5⟩ := isa
    refine ⟨?_, fun f hf => ?_, fun m j ps hm => ?_, fun j ps hm => ?_, fun f j hf => ?_, ?_, fun y hy => ?_⟩
    · rw [e]; exact He.cls_ok (fact hin (by simp))
    · rw [e]
      refine He.noat_ok (fact hin ?_)
      have hf : f ∈ ci.fl := by simpa using hf
      simp only [List.mem_append, List.mem_map]
      exact .inl (.inl (.inr ⟨f, hf, rfl⟩))
    · obtain ⟨e1, hmm⟩ := msGa hm
      rw [e, e1]
      refine He.meth_ok (fact hin ?_)
      simp only [List.mem_append, List.mem_map]
      exact .inl (.inr ⟨_, hmm, rfl⟩)
    · obtain ⟨e1, hmm⟩ := msGa hm
      rw [e, e1]
      refine He.mkr_ok (fact hin ?_)
      simp only [List.mem_append]
      refine .inr ?_
      rw [hm]
      simp
    · have hmm := mem hf
      have q := List.all_eq_true.mp hpr _ hmm
      simp only at q
      split at q
      · rename_i y c2 f2 hj
        rw [Bool.and_eq_true] at q
        have e1 : c2 = x := of_decide_eq_true q.1
        have e2 : f2 = f := of_decide_eq_true q.2
        have e3 : (moOf g K).ga j = prA K (He.ga K x) f := by
          show gaAt g K j = _
          unfold gaAt
          rw [hj, e1, e2]
        rw [e, e3]
        exact ⟨_, propX_ok (List.all_eq_true.mp ex.2 _ hmm)⟩
      · cases q
    · rw [e]
      exact ⟨He.eqO_ok i1, He.eqO_ok i2, of_decide_eq_true i3, of_decide_eq_true i4⟩
    · rw [e]
      exact of_decide_eq_true (List.all_eq_true.mp i5 y hy)
end
def CXu : CXT := fun outer H s E e s' => ∃ P w, L2.CX P w outer H s E e s'
theorem cxu_no {H : Hp} {s : Shared} {e : Value} {s' : Shared} (h : CXu [] H s (fun _ _ _ => False) e s') : False := by
  obtain ⟨P, w, a, B, H', cls, d, _, _, _, _, _, _, _, z⟩ := h
  exact z
theorem fnU {P : Program} {w : World} {K : PySem.W.Frag} {mg : Str → Option Value} {base : Heap} {k : Nat} {f : Addr} {fd : FuncData} {ps : List Str} {sp sp' : Sp} (F : FnOk P w K mg base (L2.CX P w) k f fd ps sp) (h : ∀ vs H Q E, sp' vs H Q E → sp vs H Q E) : FnOk P w K mg base CXu k f fd ps sp' := by
  refine ⟨fun vs H Q E q => F.len vs H Q E (h vs H Q E q), fun A outer s H args us vs Q E hr e0 hb r q => ?_⟩
  refine codeAny_mono (F.run A outer s H args us vs Q E hr e0 hb r (h vs H Q E q)) fun x s' hq => ?_
  cases x with
  | error e => exact ⟨P, w, hq⟩
  | ok fl => cases fl <;> exact hq
theorem fro_of {K : PySem.W.Frag} {H : Hp} {a : Addr} {xs : List V} (o : Only H) (h : SqL K H a xs) : FroAt K H a xs := by
  rcases h with (h | h) | h
  · rcases o a with z | ⟨ob, ys, z⟩
    · rw [h] at z; cases z
    · rw [h] at z; cases z
  · exact .inl h
  · exact .inr h
theorem ints_rd {K : PySem.W.Frag} {ga : GA} {ι : List Addr} {H : Hp} : ∀ ns : List Int, RDs K ga ι H (ns.map D.int) (ns.map V.int)
  | [] => .nil
  | n :: ns => .cons (.int n) (ints_rd ns)
theorem sp_law {M : Mo} {call : Nat → List D → Store → Out D} {i : Nat} {H : Hp} {a : Addr} {ns : List Int} (o : Only H) (hS : SqL M.K H a (ns.map V.int)) (h : ∃ st', call i [.ref 0] [.fro (ns.map D.int)] = .ok (.bl true) st') :
    spD M call i 1 [.ref a] H (fun v _ => v = .bl true) fun _ _ _ => False := by
  obtain ⟨st', h⟩ := h
  have rs : RS M.K M.ga [a] H [.fro (ns.map D.int)] := by
    refine ⟨rfl, fun n c b h1 h2 => ?_, fun n m b c c' h1 h2 h3 h4 f1 f2 => ?_⟩
    · cases n with
      | zero =>
        simp at h1 h2
        subst h1; subst h2
        exact ⟨_, fro_of o hS, ints_rd ns⟩
      | succ n => simp at h1
    · cases n with
      | zero => simp at h3; subst h3; cases f1
      | succ n => simp at h3
  refine ⟨[a], [.fro (ns.map D.int)], [.ref 0], rs, .cons (.ref rfl) .nil, rfl, ?_⟩
  rw [h]
  intro ι' H' v e p rs' r
  cases r
  rfl
theorem law_facts {g : G} {tab : Tab} {i : Nat} {d : DefI} {ar : Arguments} {n k : Nat} {P : Program} {w : World} {K : PySem.W.Frag} {h : Heap} {mg : Str → Option Value} {f : Addr} {y x : Str}
    (hc : tabC g tab = true) (hb : ∀ p ∈ tab, BindP p) (hi : gIx g y 0 = some (i, .fn 1)) (hd : tab.lookup i = some (d, ar)) (hx : pnOf d = [x]) (h0 : d.dfl = []) (true_ : ∀ ns : List Int, ns.length ≤ n → ∃ st', callN (fnOf g tab) k i [.ref 0] [.fro (ns.map D.int)] = .ok (.bl true) st')
    (X : K.In h) (G : h.Ns mainGlobals mg) (hfa : mg y = some (.ref f)) (c : SaysR g tab w h K) :
    ∃ (fd : FuncData) (sp : Sp), (∀ (s : Shared) (v : Value), BindsTo s fd ⟨[v], []⟩ [(x, v)]) ∧ (∀ (H : Hp) (a : Addr) (ns : List Int), ns.length ≤ n → Only H → SqL K H a (ns.map V.int) → sp [.ref a] H (fun v _ => v = .bl true) fun _ _ _ => False) ∧
      ∀ base : Heap, K.In base → base.Ns mainGlobals mg → FnOk P w K mg base CXu (2 * k) f fd [x] sp := by
  have m := mod_ok X G c hc hb
  obtain ⟨hm, _⟩ := m.nm y i 1 hi
  have ef : gaAt g K i = f := by
    have : mg y = some (.ref (gaAt g K i)) := hm
    rw [hfa] at this
    cases this
    rfl
  obtain ⟨fd2, o, dvs, F, hdl⟩ := row_ok c hc hb (p := (i, d, ar)) (look_mem hd) hd
  have hdl : dvs.length = d.dfl.length := hdl
  rw [h0] at hdl
  have e0 : dvs = [] := List.length_eq_zero_iff.mp hdl
  subst e0
  have bp := hb _ (look_mem hd)
  unfold BindP at bp
  simp only [h0] at bp
  have hx' : pnOf d = [x] := hx
  have bA := FunD.bindsA (ps := [x]) F (by rw [← hx']; exact bp)
  refine ⟨fd2, spD (moOf g K) (callN (fnOf g tab) k) i 1, fun s v => bA s [v] rfl, fun H a ns hl ho hS => sp_law ho hS (true_ ns hl), fun base _ _ => ?_⟩
  have o : DefOk g K (fnOf g tab) (gaAt g K i) i d fd2 [x] := by rw [← hx']; exact o
  have q := def_ok (P := P) (w := w) (base := base) m k i d fd2 [x] o
  have q : FnOk P w K mg base (L2.CX P w) (2 * k) (gaAt g K i) fd2 [x] (spD (moOf g K) (callN (fnOf g tab) k) i 1) := q
  rw [ef] at q
  exact fnU q fun _ _ _ _ z => z
end RX

namespace RX
open PySem
inductive Out.W {α : Type} : Out α → (α → Store → Prop) → Prop
  | ok {a : α} {st : Store} {P : α → Store → Prop} : P a st → Out.W (.ok a st) P
  | no {x : Out α} {P : α → Store → Prop} : False → Out.W x P
inductive OS.W : OS → (EnvD → Store → Prop) → (D → Store → Prop) → Prop
  | next {e : EnvD} {st : Store} {N : EnvD → Store → Prop} {R : D → Store → Prop} : N e st → OS.W (.next e st) N R
  | ret {d : D} {st : Store} {N : EnvD → Store → Prop} {R : D → Store → Prop} : R d st → OS.W (.ret d st) N R
  | no {x : OS} {N : EnvD → Store → Prop} {R : D → Store → Prop} : False → OS.W x N R
section
variable {α β : Type} {P : α → Store → Prop} {Q : β → Store → Prop} {N N' : EnvD → Store → Prop} {R R' : D → Store → Prop} {x : Out α} {y : OS} {st : Store} {env : EnvD} {Γ : Sem}
theorem W_ok (a : α) (st : Store) : (Out.ok a st).W P = P a st := propext ⟨fun h => by
  cases h with
  | ok q => exact q
  | no f => exact f.elim, .ok⟩
theorem W_exc {c : Nat} {p : Option D} (h : (Out.exc c p st : Out α).W P) : False := by
  cases h with
  | no f => exact f
theorem W_stuck (h : (Out.stuck : Out α).W P) : False := by
  cases h with
  | no f => exact f
theorem W_out (h : x.W P) : ∃ a st, x = .ok a st ∧ P a st := by
  cases x with
  | ok a st => rw [W_ok] at h; exact ⟨a, st, rfl, h⟩
  | exc _ _ _ => exact (W_exc h).elim
  | stuck => exact (W_stuck h).elim
theorem W_bind (x : Out α) (f : α → Store → Out β) : (x.bind f).W Q = x.W fun a st => (f a st).W Q := by
  cases x with
  | ok a st => rw [W_ok]; rfl
  | exc _ _ _ => exact propext ⟨fun h => (W_exc h).elim, fun h => (W_exc h).elim⟩
  | stuck => exact propext ⟨fun h => (W_stuck h).elim, fun h => (W_stuck h).elim⟩
theorem W_mono {P' : α → Store → Prop} (h : x.W P) (k : ∀ a st, P a st → P' a st) : x.W P' := by
  obtain ⟨a, st, rfl, q⟩ := W_out h
  exact .ok (k a st q)
theorem WS_next : (OS.next env st).W N R = N env st := propext ⟨fun h => by
  cases h with
  | next q => exact q
  | no f => exact f.elim, .next⟩
theorem WS_ret (d : D) : (OS.ret d st).W N R = R d st := propext ⟨fun h => by
  cases h with
  | ret q => exact q
  | no f => exact f.elim, .ret⟩
theorem WS_out (h : y.W N R) : (∃ e s, y = .next e s ∧ N e s) ∨ ∃ d s, y = .ret d s ∧ R d s := by
  cases h with
  | next q => exact .inl ⟨_, _, rfl, q⟩
  | ret q => exact .inr ⟨_, _, rfl, q⟩
  | no f => exact f.elim
theorem WS_no (h : y.W N R) (h1 : ∀ e s, y ≠ .next e s) (h2 : ∀ d s, y ≠ .ret d s) : False := by
  rcases WS_out h with ⟨e, s, q, _⟩ | ⟨d, s, q, _⟩
  · exact h1 e s q
  · exact h2 d s q
theorem WS_of (x : Out α) (env : EnvD) (f : α → Store → OS) : (OS.of x env f).W N R = x.W fun a st => (f a st).W N R := by
  cases x with
  | ok a st => rw [W_ok]; rfl
  | exc _ _ _ => exact propext ⟨fun h => (WS_no h (fun _ _ => nofun) fun _ _ => nofun).elim, fun h => (W_exc h).elim⟩
  | stuck => exact propext ⟨fun h => (WS_no h (fun _ _ => nofun) fun _ _ => nofun).elim, fun h => (W_stuck h).elim⟩
theorem WS_mono (h : y.W N R) (k : ∀ e s, N e s → N' e s) (k2 : ∀ d s, R d s → R' d s) : y.W N' R' := by
  rcases WS_out h with ⟨e, s, rfl, q⟩ | ⟨d, s, rfl, q⟩
  · exact .next (k e s q)
  · exact .ret (k2 d s q)
theorem WS_nil : (evSs Γ [] env st).W N R = N env st := by simp only [evSs]; exact WS_next
theorem WS_cons (s : S) (r : List S) : (evSs Γ (s :: r) env st).W N R = (evS Γ s env st).W (fun e s' => (evSs Γ r e s').W N R) R := by
  simp only [evSs]
  cases evS Γ s env st with
  | next e s' => rw [WS_next]
  | ret d s' => rw [WS_ret, WS_ret]
  | _ => exact propext ⟨fun h => (WS_no h (fun _ _ => nofun) fun _ _ => nofun).elim, fun h => (WS_no h (fun _ _ => nofun) fun _ _ => nofun).elim⟩
theorem W_end (y : OS) : (endOf y).W R = y.W (fun _ s => R .non s) R := by
  cases y with
  | next e s' => rw [WS_next]; exact W_ok _ _
  | ret d s' => rw [WS_ret]; exact W_ok _ _
  | exc c p _ s' => exact propext ⟨fun h => (W_exc h).elim, fun h => (WS_no h (fun _ _ => nofun) fun _ _ => nofun).elim⟩
  | _ => exact propext ⟨fun h => (W_stuck h).elim, fun h => (WS_no h (fun _ _ => nofun) fun _ _ => nofun).elim⟩
theorem W_call {F : Nat → Option Fn} {k f : Nat} {fn : Fn} {ds : List D} (h : F f = some fn) (hl : ds.length = fn.ps) :
    (callN F (k + 1) f ds st).W R = (evSs ⟨callN F k⟩ fn.body (ds.map some ++ List.replicate (fn.n - ds.length) none) st).W (fun _ s => R .non s) R := by
  rw [← W_end]
  show (match F f with | some fn => if ds.length = fn.ps then endOf (evSs ⟨callN F k⟩ fn.body (ds.map some ++ List.replicate (fn.n - ds.length) none) st) else .stuck | none => .stuck : Out D).W R = _
  rw [h]
  simp only [if_pos hl]
theorem for_W {s : Src} {tg : Tg} {b : EnvD → Store → OS} {n : Nat} (I : Nat → EnvD → Store → Prop) (h0 : I 0 env st)
    (step : ∀ i env st, i < n → I i env st → ∃ d env1, fetch s i st = some (some d) ∧ put tg d env = some env1 ∧ (b env1 st).W (I (i + 1)) R) (fin : ∀ env st, I n env st → fetch s n st = some none ∧ N env st) :
    (forLoop s tg b (n + 1) 0 env st).W N R := by
  have key : ∀ (m i : Nat) (env : EnvD) (st : Store), i + m = n → I i env st → (forLoop s tg b (m + 1) i env st).W N R := by
    intro m
    induction m with
    | zero =>
      intro i env st hi hI
      have : i = n := by omega
      subst this
      obtain ⟨h1, h2⟩ := fin env st hI
      unfold forLoop
      rw [h1]
      exact .next h2
    | succ m ih =>
      intro i env st hi hI
      obtain ⟨d, env1, h1, h2, h3⟩ := step i env st (by omega) hI
      unfold forLoop
      rw [h1]
      simp only [h2]
      rcases WS_out h3 with ⟨e, s', q, h3⟩ | ⟨d, s', q, h3⟩
      · rw [q]; exact ih (i + 1) e s' (by omega) h3
      · rw [q]; exact .ret h3
  exact key n 0 env st (by omega) h0
def lcN (I : Nat → List D → Store → Prop) (m i : Nat) (acc : List D) (o : Option D) (st1 : Store) : Prop := st1[m]? = some (.lst acc) ∧ match o with
  | none => I (i + 1) acc st1
  | some y => acc.length < SL ∧ I (i + 1) (acc ++ [y]) (st1.set m (.lst (acc ++ [y])))
theorem lc_W {m n : Nat} {s : Src} {turn : D → Store → Out (Option D)} (I : Nat → List D → Store → Prop) (h0 : I 0 [] st) (hc0 : st[m]? = some (.lst []))
    (step : ∀ i acc st, i < n → I i acc st → st[m]? = some (.lst acc) → ∃ d, fetch s i st = some (some d) ∧ (turn d st).W (lcN I m i acc))
    (fin : ∀ acc st, I n acc st → st[m]? = some (.lst acc) → fetch s n st = some none ∧ R (.ref m) st) : (lcLoop m s turn (n + 1) 0 st).W R := by
  have key : ∀ (j i : Nat) (acc : List D) (st : Store), i + j = n → I i acc st → st[m]? = some (.lst acc) → (lcLoop m s turn (j + 1) i st).W R := by
    intro j
    induction j with
    | zero =>
      intro i acc st hi hI hc
      have : i = n := by omega
      subst this
      obtain ⟨h1, h2⟩ := fin acc st hI hc
      unfold lcLoop
      rw [h1]
      exact .ok h2
    | succ j ih =>
      intro i acc st hi hI hc
      obtain ⟨d, h1, h3⟩ := step i acc st (by omega) hI hc
      unfold lcLoop
      rw [h1]
      simp only
      obtain ⟨o, st1, q, h3⟩ := W_out h3
      rw [q]
      unfold lcN at h3
      cases o with
      | none => exact ih (i + 1) acc st1 (by omega) h3.2 h3.1
      | some y =>
        simp only at h3
        simp only [h3.1, if_pos h3.2.1]
        have hm : m < st1.length := (List.getElem?_eq_some_iff.mp h3.1).1
        exact ih (i + 1) (acc ++ [y]) _ (by omega) h3.2.2 (by rw [List.getElem?_set_self hm])
  exact key n 0 [] st (by omega) h0 hc0
end
def Ap (st st' : Store) : Prop := st.length ≤ st'.length ∧ ∀ j, j < st.length → st'[j]? = st[j]?
def Kp (n : Nat) (st st' : Store) : Prop := st.length ≤ st'.length ∧ ∀ j, j < st.length → j ≠ n → st'[j]? = st[j]?
theorem Ap.refl (st : Store) : Ap st st := ⟨Nat.le_refl _, fun _ _ => rfl⟩
theorem Ap.trans {a b c : Store} (x : Ap a b) (y : Ap b c) : Ap a c := ⟨Nat.le_trans x.1 y.1, fun j h => (y.2 j (Nat.lt_of_lt_of_le h x.1)).trans (x.2 j h)⟩
theorem Ap.get {a b : Store} (x : Ap a b) {j : Nat} {c : Cell} (h : a[j]? = some c) : b[j]? = some c := (x.2 j (List.getElem?_eq_some_iff.mp h).1).trans h
theorem get_app (st : Store) (c : Cell) : (st ++ [c])[st.length]? = some c := by simp
theorem get_app2 (st : Store) (c d : Cell) : (st ++ [c] ++ [d])[st.length]? = some c := by simp
theorem Ap.app (st g : Store) : Ap st (st ++ g) := ⟨by simp, fun j h => by rw [List.getElem?_append_left h]⟩
theorem Ap.set {a b : Store} (x : Ap a b) {m : Nat} {c : Cell} (h : a.length ≤ m) : Ap a (b.set m c) := ⟨by simpa using x.1, fun j hj => by rw [List.getElem?_set_ne (by omega)]; exact x.2 j hj⟩
theorem Ap.kp {n : Nat} {a b : Store} (x : Ap a b) : Kp n a b := ⟨x.1, fun j h _ => x.2 j h⟩
theorem Kp.refl (n : Nat) (st : Store) : Kp n st st := ⟨Nat.le_refl _, fun _ _ _ => rfl⟩
theorem Kp.trans {n : Nat} {a b c : Store} (x : Kp n a b) (y : Kp n b c) : Kp n a c := ⟨Nat.le_trans x.1 y.1, fun j h hn => (y.2 j (Nat.lt_of_lt_of_le h x.1) hn).trans (x.2 j h hn)⟩
theorem Kp.get {n : Nat} {a b : Store} (x : Kp n a b) {j : Nat} {c : Cell} (h : a[j]? = some c) (hn : j ≠ n) : b[j]? = some c := (x.2 j (List.getElem?_eq_some_iff.mp h).1 hn).trans h
theorem Kp.set {n : Nat} {a b : Store} (x : Kp n a b) {m : Nat} {c : Cell} (h : a.length ≤ m) : Kp n a (b.set m c) := ⟨by simpa using x.1, fun j hj hn => by rw [List.getElem?_set_ne (by omega)]; exact x.2 j hj hn⟩
theorem Kp.own (n : Nat) (st : Store) (c : Cell) : Kp n st (st.set n c) := ⟨by simp, fun j hj hn => by rw [List.getElem?_set_ne (Ne.symm hn)]⟩
theorem lt_of_get {st : Store} {n : Nat} {c : Cell} (h : st[n]? = some c) : n < st.length := (List.getElem?_eq_some_iff.mp h).1
theorem f_str {s : List Nat} {i c : Nat} {st : Store} (h : s[i]? = some c) : fetch (.str s) i st = some (some (.str [c])) := by simp only [fetch, h]
theorem f_strE {s : List Nat} {st : Store} : fetch (.str s) s.length st = some none := by simp [fetch]
theorem f_enumS {s : List Nat} {i c : Nat} {st : Store} (h : s[i]? = some c) : fetch (.enumS s) i st = some (some (.tup [.int i, .str [c]])) := by
  have := (List.getElem?_eq_some_iff.mp h).1
  simp only [fetch, h, if_pos (Nat.le_of_lt this)]
theorem f_enumSE {s : List Nat} {st : Store} : fetch (.enumS s) s.length st = some none := by simp [fetch]
theorem f_rng {lo : Int} {n i : Nat} {st : Store} (h : i < n) : fetch (.rng lo n) i st = some (some (.int (lo + i))) := by simp only [fetch, if_pos h]
theorem f_rngE {lo : Int} {n : Nat} {st : Store} : fetch (.rng lo n) n st = some none := by simp [fetch]
theorem f_lst {m i : Nat} {ds : List D} {d : D} {st : Store} (h : st[m]? = some (.lst ds)) (hi : ds[i]? = some d) : fetch (.lst m) i st = some (some d) := by simp only [fetch, itemsOf, h, hi]
theorem f_lstE {m : Nat} {ds : List D} {st : Store} (h : st[m]? = some (.lst ds)) : fetch (.lst m) ds.length st = some none := by simp [fetch, itemsOf, h]
theorem bools_map (l : List Bool) : boolsOf (l.map D.bl) = some l := by
  induction l with
  | nil => rfl
  | cons b l ih => simp [boolsOf, ih]
theorem ints_map (l : List Int) : intsOf (l.map D.int) = some l := by
  induction l with
  | nil => rfl
  | cons b l ih => simp [intsOf, ih]
theorem strs_map (l : List (List Nat)) : strsOf (l.map D.str) = some l := by
  induction l with
  | nil => rfl
  | cons b l ih => simp [strsOf, ih]
theorem ltS1 (a b : Nat) : ltS [a] [b] = decide (a < b) := by
  unfold ltS
  rw [decide_eq_decide]
  constructor
  · intro h
    rcases List.cons_lt_cons_iff.mp h with h | ⟨_, h⟩
    · exact h
    · exact absurd h (by simp)
  · intro h
    exact List.cons_lt_cons_iff.mpr (.inl h)
theorem cut_to {s : List Nat} {i : Int} (h : 0 ≤ i) : cut s none (some i) = s.take i.toNat := by
  unfold cut HT.sIx
  simp only [if_neg (by omega : ¬ i < 0), List.drop_zero, Nat.sub_zero]
  rw [← List.take_take, List.take_length]
theorem cut_from {s : List Nat} {i : Int} (h : 0 ≤ i) : cut s (some i) none = s.drop i.toNat := by
  unfold cut HT.sIx
  simp only [if_neg (by omega : ¬ i < 0)]
  rw [List.take_of_length_le (by simp)]
  by_cases q : i.toNat ≤ s.length
  · rw [Nat.min_eq_left q]
  · rw [Nat.min_eq_right (by omega), List.drop_length, List.drop_eq_nil_of_le (by omega)]
theorem cut_mid {s : List Nat} {i j : Int} (h : 0 ≤ i) (h2 : i ≤ j) (h3 : j ≤ s.length) : cut s (some i) (some j) = (s.drop i.toNat).take (j.toNat - i.toNat) := by
  unfold cut HT.sIx
  simp only [if_neg (by omega : ¬ i < 0), if_neg (by omega : ¬ j < 0)]
  rw [Nat.min_eq_left (by omega), Nat.min_eq_left (by omega)]
theorem log_lt {a : Nat} (h : a < 1267650600228229401496703205376) : a.log2 < 100 := by
  by_cases h0 : a = 0
  · subst h0; decide
  · exact (Nat.log2_lt h0).mpr (by simpa using h)
theorem mul_ok {a b : Int} (ha : a.natAbs < 1267650600228229401496703205376) (hb : b.natAbs < 1267650600228229401496703205376) : a.natAbs.log2 + b.natAbs.log2 < 1000000 := by
  have := log_lt ha
  have := log_lt hb
  omega
theorem div_ok {b : Int} (h : 0 < b) (hb : b.natAbs < 1267650600228229401496703205376) : 0 < b ∧ b.natAbs.log2 < 9000 := ⟨h, by have := log_lt hb; omega⟩
theorem eqv_int (i j : Int) : PyData.eqv (.int i) (.int j) = (i == j) := by
  simp [PyData.eqv]
theorem eqD_int (st : Store) (i j : Int) : eqD st (.int i) (.int j) = some (decide (i = j)) := by
  simp only [eqD, toPy, pyF]
  rw [if_pos (by rfl), eqv_int]
  rfl
theorem shaped_str {s : List Nat} (h : ∀ c ∈ s, c < 1114112) : SeqAt.shaped (.str ⟨s.toArray⟩) = true := by
  simp [SeqAt.shaped, PyData.canLay0, PyData.depth, PyData.strOk]
  exact h
theorem eqD_same {st : Store} {a b : D} {p : PyData} (ha : toPy st a = some p) (hb : toPy st b = some p) (hs : SeqAt.shaped p = true) (he : PyData.eqv p p = true) : eqD st a b = some true := by
  simp only [eqD, ha, hb, hs, Bool.and_self, if_true, he]
theorem eqD_str (st : Store) {s t : List Nat} (hs : ∀ c ∈ s, c < 1114112) (ht : ∀ c ∈ t, c < 1114112) : eqD st (.str s) (.str t) = some (decide (s = t)) := by
  simp only [eqD, toPy, pyF]
  rw [if_pos (by rw [shaped_str hs, shaped_str ht]; rfl)]
  have e : PyData.eqv (.str ⟨s.toArray⟩) (.str ⟨t.toArray⟩) = ((⟨s.toArray⟩ : Str) == ⟨t.toArray⟩) := by simp [PyData.eqv]
  rw [e]
  by_cases h : s = t
  · subst h; simp
  · have : (⟨s.toArray⟩ : Str) ≠ ⟨t.toArray⟩ := fun q => h (by injection q with q; simpa using congrArg Array.toList q)
    rw [decide_eq_false h]
    exact congrArg some (beq_eq_false_iff_ne.mpr this)
theorem eqD_bl (st : Store) (a b : Bool) : eqD st (.bl a) (.bl b) = some (a == b) := by
  simp only [eqD, toPy, pyF]
  rw [if_pos (by rfl)]
  cases a <;> cases b <;> rfl
def DS (st : Store) (n b : Nat) : Prop := ∃ l m c : Int, st[n]? = some (.lst [.int l, .int m, .int c]) ∧ 0 ≤ l ∧ 0 ≤ m ∧ m < 2147482801 ∧ 0 ≤ c ∧ c ≤ b
section
variable {st : Store}
theorem DS.app {n b : Nat} (h : DS st n b) (g : Store) : DS (st ++ g) n b := by
  obtain ⟨l, m, c, h1, h2⟩ := h
  exact ⟨l, m, c, by rw [List.getElem?_append_left (lt_of_get h1)]; exact h1, h2⟩
theorem DS.lt {n b : Nat} (h : DS st n b) : n < st.length := by
  obtain ⟨l, m, c, h1, h2⟩ := h
  exact lt_of_get h1
theorem DS.mono {n b b' : Nat} (h : DS st n b) (hb : b ≤ b') : DS st n b' := by
  obtain ⟨l, m, c, h1, h2, h3, h4, h5, h6⟩ := h
  exact ⟨l, m, c, h1, h2, h3, h4, h5, by omega⟩
theorem DS.ap {n b : Nat} {st' : Store} (h : DS st n b) (a : Ap st st') : DS st' n b := by
  obtain ⟨l, x, y, h1, h2⟩ := h
  exact ⟨l, x, y, a.get h1, h2⟩
theorem DS.set {n b m : Nat} {c : Cell} (h : DS st n b) (hm : m ≠ n) : DS (st.set m c) n b := by
  obtain ⟨l, x, y, h1, h2⟩ := h
  exact ⟨l, x, y, by rw [List.getElem?_set_ne hm]; exact h1, h2⟩
end
def rollT : Fn := ⟨6, 2, [
  (.asg (.nm 2) (.blt .int [(.var 1)])),
  (.ifs (.cmp .Gt (.sub (.var 0) (.cst (.int (0)))) (.cst (.int (0)))) [(.asg (.nm 3) (.op2 .Mod (.sub (.var 0) (.cst (.int (0)))) (.var 2))), (.asgS (.var 0) (.cst (.int (0))) (.op2 .FloorDiv (.sub (.var 0) (.cst (.int (0)))) (.var 2))), (.ret (.blt .int [(.var 3)]))] []),
  (.asgS (.var 0) (.cst (.int (2))) (.op2 .Add (.sub (.var 0) (.cst (.int (2)))) (.cst (.int (1))))),
  (.asg (.nm 4) (.op2 .Mod (.op2 .Add (.sub (.var 0) (.cst (.int (1)))) (.op2 .Mult (.cst (.int (1000333))) (.sub (.var 0) (.cst (.int (2)))))) (.cst (.int (2305843009213693951))))),
  (.asg (.nm 5) (.op2 .Add (.op2 .Mult (.op2 .Mod (.op2 .Mult (.var 4) (.var 4)) (.cst (.int (2305843009213693921)))) (.var 4)) (.op2 .Mult (.cst (.int (9479))) (.sub (.var 0) (.cst (.int (2))))))),
  (.asg (.nm 5) (.op2 .Mod (.var 5) (.cst (.int (2305843009213693907))))),
  (.ret (.blt .int [(.op2 .Mod (.op2 .FloorDiv (.var 5) (.cst (.int (4096)))) (.var 2))]))]⟩

section
variable {α β : Type} {P : D → Store → Prop} {PB : Bool → Store → Prop} {PL : List D → Store → Prop} {N : EnvD → Store → Prop} {R : D → Store → Prop} {st : Store} {env : EnvD} {Γ : Sem} {a b c e o : E} {es : List E} {sa sb ss : List S} {s : S} {d x y : D}
theorem wE_var {i : Nat} (h : env[i]? = some (some d)) (q : P d st) : (evE Γ (.var i) env st).W P := by
  simp only [evE, h]; exact .ok q
theorem wE_cst (q : P d st) : (evE Γ (.cst d) env st).W P := by simp only [evE]; exact .ok q
theorem wE_op2 {op : Operator} (h : (evE Γ a env st).W fun x s1 => (evE Γ b env s1).W fun y s2 => (op2 op x y s2).W P) : (evE Γ (.op2 op a b) env st).W P := by
  simp only [evE, W_bind]; exact h
theorem wE_cmp {op : CmpOp} (h : (evE Γ a env st).W fun x s1 => (evE Γ b env s1).W fun y s2 => (cmpO op x y s2).W P) : (evE Γ (.cmp op a b) env st).W P := by
  simp only [evE, W_bind]; exact h
theorem wE_cmp2 {o1 o2 : CmpOp} (h : (evE Γ a env st).W fun x s1 => (evE Γ b env s1).W fun y s2 => ∃ t, cmpD o1 x y s2 = some t ∧ (t = true → (evE Γ c env s2).W fun z s3 => (cmpO o2 y z s3).W P) ∧ (t = false → P (.bl false) s2)) : (evE Γ (.cmp2 o1 o2 a b c) env st).W P := by
  simp only [evE, W_bind]
  refine W_mono h fun x s1 h => W_mono h fun y s2 ⟨t, h1, h2, h3⟩ => ?_
  simp only [h1]
  cases t with
  | true => simp only [W_bind]; exact h2 rfl
  | false => exact .ok (h3 rfl)
theorem wE_and (h : (evE Γ a env st).W fun x s1 => ∃ t, truth s1 x = some t ∧ (t = true → (evE Γ b env s1).W P) ∧ (t = false → P x s1)) : (evE Γ (.and a b) env st).W P := by
  simp only [evE, W_bind]
  refine W_mono h fun x s1 ⟨t, h1, h2, h3⟩ => ?_
  simp only [h1]
  cases t with
  | true => exact h2 rfl
  | false => exact .ok (h3 rfl)
theorem wE_or (h : (evE Γ a env st).W fun x s1 => ∃ t, truth s1 x = some t ∧ (t = true → P x s1) ∧ (t = false → (evE Γ b env s1).W P)) : (evE Γ (.or a b) env st).W P := by
  simp only [evE, W_bind]
  refine W_mono h fun x s1 ⟨t, h1, h2, h3⟩ => ?_
  simp only [h1]
  cases t with
  | true => exact .ok (h2 rfl)
  | false => exact h3 rfl
theorem wT (h : (evE Γ a env st).W fun x s1 => ∃ t, truth s1 x = some t ∧ PB t s1) : (truthO (evE Γ a env st)).W PB := by
  simp only [truthO, W_bind]
  refine W_mono h fun x s1 ⟨t, h1, h2⟩ => ?_
  simp only [h1, ofOpt]
  exact .ok h2
theorem wE_not (h : (truthO (evE Γ a env st)).W fun t s1 => P (.bl (!t)) s1) : (evE Γ (.not a) env st).W P := by
  simp only [evE, W_bind, W_ok]; exact h
theorem wE_ite (h : (truthO (evE Γ c env st)).W fun t s1 => (t = true → (evE Γ a env s1).W P) ∧ (t = false → (evE Γ b env s1).W P)) : (evE Γ (.ite c a b) env st).W P := by
  simp only [evE, W_bind]
  refine W_mono h fun t s1 ⟨h1, h2⟩ => ?_
  cases t with
  | true => exact h1 rfl
  | false => exact h2 rfl
theorem wE_tup (h : (evEs Γ es env st).W fun ds s1 => ds.length ≤ SL ∧ P (.tup ds) s1) : (evE Γ (.tup es) env st).W P := by
  simp only [evE, W_bind]
  refine W_mono h fun ds s1 ⟨h1, h2⟩ => ?_
  rw [if_pos h1]; exact .ok h2
theorem wE_lst (h : (evEs Γ es env st).W fun ds s1 => ds.length ≤ SL ∧ P (.ref s1.length) (s1 ++ [.lst ds])) : (evE Γ (.lst es) env st).W P := by
  simp only [evE, W_bind]
  refine W_mono h fun ds s1 ⟨h1, h2⟩ => ?_
  rw [if_pos h1]; exact .ok h2
theorem wE_sub (h : (evE Γ a env st).W fun x s1 => (evE Γ b env s1).W fun y s2 => ∃ d, subD x y s2 = some d ∧ P d s2) : (evE Γ (.sub a b) env st).W P := by
  simp only [evE, W_bind]
  refine W_mono h fun x s1 h => W_mono h fun y s2 ⟨d, h1, h2⟩ => ?_
  simp only [h1, ofOpt]; exact .ok h2
theorem wE_slc (h : (evE Γ a env st).W fun x s1 => (evE Γ b env s1).W fun y s2 => ∃ l, bndOf y = some l ∧ (evE Γ c env s2).W fun z s3 => ∃ u, bndOf z = some u ∧ (slcB x l u s3).W P) : (evE Γ (.slc a b c) env st).W P := by
  simp only [evE, W_bind, bndO]
  refine W_mono h fun x s1 h => W_mono h fun y s2 ⟨l, h1, h⟩ => ?_
  simp only [h1, ofOpt, W_ok, W_bind]
  refine W_mono h fun z s3 ⟨u, h2, h⟩ => ?_
  simp only [h2, W_ok]; exact h
theorem wE_call {f : Nat} (h : (evEs Γ es env st).W fun ds s1 => (Γ.call f ds s1).W P) : (evE Γ (.call f es) env st).W P := by
  simp only [evE, W_bind]; exact h
theorem wE_blt {f : Blt} (h : (evEs Γ es env st).W fun ds s1 => (blt f ds s1).W P) : (evE Γ (.blt f es) env st).W P := by
  simp only [evE, W_bind]; exact h
theorem wE_met {m : Met} (h : (evE Γ o env st).W fun x s1 => metIs m x s1 = true ∧ (evEs Γ es env s1).W fun ds s2 => (met m x ds s2).W P) : (evE Γ (.met m o es) env st).W P := by
  simp only [evE, W_bind]
  refine W_mono h fun x s1 ⟨h1, h2⟩ => ?_
  rw [if_pos h1, W_bind]; exact h2
theorem wE_repl {k : Nat} {z : List Nat} (h : (evE Γ o env st).W fun x s1 => ∃ s, x = .str s ∧ s.length + (s.length + 1) * z.length ≤ SL ∧ P (.str (replC k z s)) s1) : (evE Γ (.repl k z o) env st).W P := by
  simp only [evE, W_bind]
  refine W_mono h fun x s1 ⟨s, h1, h2, h3⟩ => ?_
  subst h1
  simp only [if_pos h2]; exact .ok h3
def lcT (Γ : Sem) (tg : Tg) (own : List Nat) (cs : List E) (e : E) (env : EnvD) : D → Store → Out (Option D) := fun d st2 => match put tg d (wipeE env own) with
  | some env' => (evCs Γ cs env' st2).bind fun t st3 => match t with
    | true => (evE Γ e env' st3).bind fun y st4 => .ok (some y) st4
    | false => .ok none st3
  | none => .stuck
theorem wE_lc {k : ItK} {src cs : List E} {tg : Tg} {own : List Nat} (h : (evEs Γ src env st).W fun ds s1 => ∃ p, srcOf k ds s1 = some p ∧ (lcLoop s1.length p.1 (lcT Γ tg own cs e env) (p.2 + 1) 0 (s1 ++ [.lst []])).W P) : (evE Γ (.lc k src tg own cs e) env st).W P := by
  simp only [evE, W_bind, srcO]
  refine W_mono h fun ds s1 ⟨p, h1, h2⟩ => ?_
  simp only [h1, ofOpt, W_ok]
  exact h2
theorem lcT_W {tg : Tg} {own : List Nat} {env' : EnvD} {Q : Option D → Store → Prop} (hp : put tg d (wipeE env own) = some env') (h : (evE Γ e env' st).W fun y s1 => Q (some y) s1) : (lcT Γ tg own [] e env d st).W Q := by
  unfold lcT
  simp only [hp, evCs, W_bind, W_ok]
  exact h
theorem lcT_W1 {tg : Tg} {own : List Nat} {env' : EnvD} {Q : Option D → Store → Prop} (hp : put tg d (wipeE env own) = some env') (h : (truthO (evE Γ c env' st)).W fun t s1 => (t = true → (evE Γ e env' s1).W fun y s2 => Q (some y) s2) ∧ (t = false → Q none s1)) : (lcT Γ tg own [c] e env d st).W Q := by
  unfold lcT
  simp only [hp, evCs, W_bind]
  refine W_mono h fun t s1 ⟨h1, h2⟩ => ?_
  cases t with
  | true => simp only [W_bind, W_ok]; exact h1 rfl
  | false => exact .ok (h2 rfl)
theorem wEs_nil (h : PL [] st) : (evEs Γ [] env st).W PL := by simp only [evEs]; exact .ok h
theorem wEs_cons (h : (evE Γ e env st).W fun d s1 => (evEs Γ es env s1).W fun ds s2 => PL (d :: ds) s2) : (evEs Γ (e :: es) env st).W PL := by
  simp only [evEs, W_bind, W_ok]; exact h
theorem wS_asg {i : Nat} (h : (evE Γ e env st).W fun d s1 => i < env.length ∧ N (env.set i (some d)) s1) : (evS Γ (.asg (.nm i) e) env st).W N R := by
  simp only [evS, WS_of]
  refine W_mono h fun d s1 ⟨h1, h2⟩ => ?_
  simp only [putS, put, if_pos h1]; exact .next h2
theorem wS_asgT {ts : List Tg} (h : (evE Γ e env st).W fun d s1 => ∃ env', putS s1 (.tp ts) d env = some env' ∧ N env' s1) : (evS Γ (.asg (.tp ts) e) env st).W N R := by
  simp only [evS, WS_of]
  refine W_mono h fun d s1 ⟨env', h1, h2⟩ => ?_
  simp only [h1]; exact .next h2
theorem wS_par {is : List Nat} (h : (evEs Γ es env st).W fun ds s1 => ∃ env', putAll (is.map Tg.nm) ds env = some env' ∧ N env' s1) : (evS Γ (.par is es) env st).W N R := by
  simp only [evS, WS_of]
  refine W_mono h fun d s1 ⟨env', h1, h2⟩ => ?_
  simp only [h1]; exact .next h2
theorem wS_asgS (h : (evE Γ e env st).W fun d s1 => (evE Γ o env s1).W fun x s2 => (evE Γ b env s2).W fun y s3 => ∃ s4, setD x y d s3 = some s4 ∧ N env s4) : (evS Γ (.asgS o b e) env st).W N R := by
  simp only [evS, WS_of]
  refine W_mono h fun d s1 h => W_mono h fun x s2 h => W_mono h fun y s3 ⟨s4, h1, h2⟩ => ?_
  simp only [h1]; exact .next h2
theorem wS_expr (h : (evE Γ e env st).W fun _ s1 => N env s1) : (evS Γ (.expr e) env st).W N R := by
  simp only [evS, WS_of, WS_next, WS_ret]; exact h
theorem wS_ret (h : (evE Γ e env st).W R) : (evS Γ (.ret e) env st).W N R := by
  simp only [evS, WS_of, WS_next, WS_ret]; exact h
theorem wS_if (h : (truthO (evE Γ c env st)).W fun t s1 => (t = true → (evSs Γ sa env s1).W N R) ∧ (t = false → (evSs Γ sb env s1).W N R)) : (evS Γ (.ifs c sa sb) env st).W N R := by
  simp only [evS, WS_of]
  refine W_mono h fun t s1 ⟨h1, h2⟩ => ?_
  cases t with
  | true => exact h1 rfl
  | false => exact h2 rfl
theorem wS_for {k : ItK} {src : List E} {tg : Tg} (h : (evEs Γ src env st).W fun ds s1 => ∃ p, srcOf k ds s1 = some p ∧ (forLoop p.1 tg (evSs Γ sb) (p.2 + 1) 0 env s1).W N R) : (evS Γ (.for_ k src tg sb) env st).W N R := by
  simp only [evS, WS_of, srcO, W_bind]
  refine W_mono h fun ds s1 ⟨p, h1, h2⟩ => ?_
  simp only [h1, ofOpt, W_ok]; exact h2
theorem wSs_nil (h : N env st) : (evSs Γ [] env st).W N R := by rw [WS_nil]; exact h
theorem wSs_cons (h : (evS Γ s env st).W (fun e s' => (evSs Γ ss e s').W N R) R) : (evSs Γ (s :: ss) env st).W N R := by rw [WS_cons]; exact h
theorem w_add {i j : Int} (q : P (.int (i + j)) st) : (op2 .Add (.int i) (.int j) st).W P := .ok q
theorem w_sub {i j : Int} (q : P (.int (i - j)) st) : (op2 .Sub (.int i) (.int j) st).W P := .ok q
theorem w_mul {i j : Int} (h : i.natAbs.log2 + j.natAbs.log2 < 1000000) (q : P (.int (i * j)) st) : (op2 .Mult (.int i) (.int j) st).W P := by
  simp only [op2, if_pos h]; exact .ok q
theorem w_div {i j : Int} (h : 0 < j ∧ j.natAbs.log2 < 9000) (q : P (.int (i / j)) st) : (op2 .FloorDiv (.int i) (.int j) st).W P := by
  simp only [op2, if_pos h]; exact .ok q
theorem w_mod {i j : Int} (h : 0 < j) (q : P (.int (i % j)) st) : (op2 .Mod (.int i) (.int j) st).W P := by
  simp only [op2, if_pos h]; exact .ok q
theorem w_pow {i j : Int} (h : powOk i j = true) (q : P (.int (i ^ j.toNat)) st) : (op2 .Pow (.int i) (.int j) st).W P := by
  simp only [op2, if_pos h]; exact .ok q
theorem w_shl {i j : Int} (h : 0 ≤ j ∧ j ≤ 1000000 ∧ i.natAbs < 2 ^ 64) (q : P (.int (i * 2 ^ j.toNat)) st) : (op2 .LShift (.int i) (.int j) st).W P := by
  simp only [op2, if_pos h]; exact .ok q
theorem w_shr {i j : Int} (h : 0 ≤ j) (q : P (.int (i / 2 ^ j.toNat)) st) : (op2 .RShift (.int i) (.int j) st).W P := by
  simp only [op2, if_pos h]; exact .ok q
theorem w_cat {s t : List Nat} (h : s.length + t.length ≤ SL) (q : P (.str (s ++ t)) st) : (op2 .Add (.str s) (.str t) st).W P := by
  simp only [op2, catOk, decide_eq_true_eq, if_pos h]; exact .ok q
theorem w_catL {m n : Nat} {xs ys : List D} (h1 : st[m]? = some (.lst xs)) (h2 : st[n]? = some (.lst ys)) (hl : xs.length + ys.length ≤ SL) (q : P (.ref st.length) (st ++ [.lst (xs ++ ys)])) : (op2 .Add (.ref m) (.ref n) st).W P := by
  simp only [op2, h1, h2, catOk, decide_eq_true_eq, if_pos hl, alloc]; exact .ok q
theorem w_rep {k : Nat} {n : Int} (h : 0 ≤ n ∧ n ≤ SL) (q : P (.str (List.replicate n.toNat k)) st) : (op2 .Mult (.str [k]) (.int n) st).W P := by
  simp only [op2, if_pos h]; exact .ok q
theorem w_lt {i j : Int} (q : P (.bl (decide (i < j))) st) : (cmpO .Lt (.int i) (.int j) st).W P := .ok q
theorem w_le {i j : Int} (q : P (.bl (decide (i ≤ j))) st) : (cmpO .LtE (.int i) (.int j) st).W P := .ok q
theorem w_gt {i j : Int} (q : P (.bl (decide (j < i))) st) : (cmpO .Gt (.int i) (.int j) st).W P := .ok q
theorem w_ge {i j : Int} (q : P (.bl (decide (j ≤ i))) st) : (cmpO .GtE (.int i) (.int j) st).W P := .ok q
theorem w_eq {t : Bool} (h : eqD st x y = some t) (q : P (.bl t) st) : (cmpO .Eq x y st).W P := by
  simp only [cmpO, cmpD, h]; exact .ok q
theorem w_ne {t : Bool} (h : eqD st x y = some t) (q : P (.bl (!t)) st) : (cmpO .NotEq x y st).W P := by
  simp only [cmpO, cmpD, h, notO]; exact .ok q
theorem w_leS {s t : List Nat} (q : P (.bl (!ltS t s)) st) : (cmpO .LtE (.str s) (.str t) st).W P := .ok q
theorem w_int {i : Int} (q : P (.int i) st) : (blt .int [.int i] st).W P := .ok q
theorem w_intB {b : Bool} (q : P (.int (if b then 1 else 0)) st) : (blt .int [.bl b] st).W P := .ok q
theorem w_abs {i : Int} (q : P (.int (if i < 0 then -i else i)) st) : (blt .abs [.int i] st).W P := .ok q
theorem w_ord {k : Nat} (q : P (.int k) st) : (blt .ord [.str [k]] st).W P := .ok q
theorem w_min {i j : Int} (q : P (.int (if j < i then j else i)) st) : (blt .min [.int i, .int j] st).W P := .ok q
theorem w_max {i j : Int} (q : P (.int (if j > i then j else i)) st) : (blt .max [.int i, .int j] st).W P := .ok q
theorem w_str {i : Int} (h : i.natAbs.log2 < 1920) (q : P (.str (strOfInt i)) st) : (blt .str [.int i] st).W P := by
  simp only [blt, if_pos h]; exact .ok q
theorem w_lenS {s : List Nat} (h : s.length ≤ SL) (q : P (.int s.length) st) : (blt .len [.str s] st).W P := by
  simp only [blt, if_pos h]; exact .ok q
theorem w_lenT {ds : List D} (q : P (.int ds.length) st) : (blt .len [.tup ds] st).W P := .ok q
theorem w_lenL {n : Nat} {ds : List D} (h : st[n]? = some (.lst ds)) (q : P (.int ds.length) st) : (blt .len [.ref n] st).W P := by
  simp only [blt, h]; exact .ok q
theorem w_lenF {n : Nat} {ds : List D} (h : st[n]? = some (.fro ds)) (q : P (.int ds.length) st) : (blt .len [.ref n] st).W P := by
  simp only [blt, h]; exact .ok q
theorem w_isI_int {i : Int} (q : P (.bl true) st) : (blt .isinst [.int i, .ty "int"] st).W P := by
  have h : (blt .isinst [.int i, .ty "int"] st : Out D) = .ok (.bl true) st := by
    simp only [blt, isA, tyName]
    rfl
  rw [h]; exact .ok q
theorem w_isI_bool {i : Int} (q : P (.bl false) st) : (blt .isinst [.int i, .ty "bool"] st).W P := by
  have h : (blt .isinst [.int i, .ty "bool"] st : Out D) = .ok (.bl false) st := by
    simp only [blt, isA, tyName]
    rfl
  rw [h]; exact .ok q
theorem w_isI_str {i : Int} (q : P (.bl false) st) : (blt .isinst [.int i, .ty "str"] st).W P := by
  have h : (blt .isinst [.int i, .ty "str"] st : Out D) = .ok (.bl false) st := by
    simp only [blt, isA, tyName]
    rfl
  rw [h]; exact .ok q
theorem w_isI_tuple {i : Int} (q : P (.bl false) st) : (blt .isinst [.int i, .ty "tuple"] st).W P := by
  have h : (blt .isinst [.int i, .ty "tuple"] st : Out D) = .ok (.bl false) st := by
    simp only [blt, isA, tyName]
    rfl
  rw [h]; exact .ok q
theorem w_isI_list {i : Int} (q : P (.bl false) st) : (blt .isinst [.int i, .ty "list"] st).W P := by
  have h : (blt .isinst [.int i, .ty "list"] st : Out D) = .ok (.bl false) st := by
    simp only [blt, isA, tyName]
    rfl
  rw [h]; exact .ok q
theorem w_isS_int {s : List Nat} (q : P (.bl false) st) : (blt .isinst [.str s, .ty "int"] st).W P := by
  have h : (blt .isinst [.str s, .ty "int"] st : Out D) = .ok (.bl false) st := by
    simp only [blt, isA, tyName]
    rfl
  rw [h]; exact .ok q
theorem w_isS_bool {s : List Nat} (q : P (.bl false) st) : (blt .isinst [.str s, .ty "bool"] st).W P := by
  have h : (blt .isinst [.str s, .ty "bool"] st : Out D) = .ok (.bl false) st := by
    simp only [blt, isA, tyName]
    rfl
  rw [h]; exact .ok q
theorem w_isS_str {s : List Nat} (q : P (.bl true) st) : (blt .isinst [.str s, .ty "str"] st).W P := by
  have h : (blt .isinst [.str s, .ty "str"] st : Out D) = .ok (.bl true) st := by
    simp only [blt, isA, tyName]
    rfl
  rw [h]; exact .ok q
theorem w_isS_tuple {s : List Nat} (q : P (.bl false) st) : (blt .isinst [.str s, .ty "tuple"] st).W P := by
  have h : (blt .isinst [.str s, .ty "tuple"] st : Out D) = .ok (.bl false) st := by
    simp only [blt, isA, tyName]
    rfl
  rw [h]; exact .ok q
theorem w_isS_list {s : List Nat} (q : P (.bl false) st) : (blt .isinst [.str s, .ty "list"] st).W P := by
  have h : (blt .isinst [.str s, .ty "list"] st : Out D) = .ok (.bl false) st := by
    simp only [blt, isA, tyName]
    rfl
  rw [h]; exact .ok q
theorem w_isB_int {b : Bool} (q : P (.bl true) st) : (blt .isinst [.bl b, .ty "int"] st).W P := by
  have h : (blt .isinst [.bl b, .ty "int"] st : Out D) = .ok (.bl true) st := by
    simp only [blt, isA, tyName]
    rfl
  rw [h]; exact .ok q
theorem w_isB_bool {b : Bool} (q : P (.bl true) st) : (blt .isinst [.bl b, .ty "bool"] st).W P := by
  have h : (blt .isinst [.bl b, .ty "bool"] st : Out D) = .ok (.bl true) st := by
    simp only [blt, isA, tyName]
    rfl
  rw [h]; exact .ok q
theorem w_isB_str {b : Bool} (q : P (.bl false) st) : (blt .isinst [.bl b, .ty "str"] st).W P := by
  have h : (blt .isinst [.bl b, .ty "str"] st : Out D) = .ok (.bl false) st := by
    simp only [blt, isA, tyName]
    rfl
  rw [h]; exact .ok q
theorem w_isB_tuple {b : Bool} (q : P (.bl false) st) : (blt .isinst [.bl b, .ty "tuple"] st).W P := by
  have h : (blt .isinst [.bl b, .ty "tuple"] st : Out D) = .ok (.bl false) st := by
    simp only [blt, isA, tyName]
    rfl
  rw [h]; exact .ok q
theorem w_isB_list {b : Bool} (q : P (.bl false) st) : (blt .isinst [.bl b, .ty "list"] st).W P := by
  have h : (blt .isinst [.bl b, .ty "list"] st : Out D) = .ok (.bl false) st := by
    simp only [blt, isA, tyName]
    rfl
  rw [h]; exact .ok q
theorem w_isN_int  (q : P (.bl false) st) : (blt .isinst [.non, .ty "int"] st).W P := by
  have h : (blt .isinst [.non, .ty "int"] st : Out D) = .ok (.bl false) st := by
    simp only [blt, isA, tyName]
    rfl
  rw [h]; exact .ok q
theorem w_isN_bool  (q : P (.bl false) st) : (blt .isinst [.non, .ty "bool"] st).W P := by
  have h : (blt .isinst [.non, .ty "bool"] st : Out D) = .ok (.bl false) st := by
    simp only [blt, isA, tyName]
    rfl
  rw [h]; exact .ok q
theorem w_isN_str  (q : P (.bl false) st) : (blt .isinst [.non, .ty "str"] st).W P := by
  have h : (blt .isinst [.non, .ty "str"] st : Out D) = .ok (.bl false) st := by
    simp only [blt, isA, tyName]
    rfl
  rw [h]; exact .ok q
theorem w_isN_tuple  (q : P (.bl false) st) : (blt .isinst [.non, .ty "tuple"] st).W P := by
  have h : (blt .isinst [.non, .ty "tuple"] st : Out D) = .ok (.bl false) st := by
    simp only [blt, isA, tyName]
    rfl
  rw [h]; exact .ok q
theorem w_isN_list  (q : P (.bl false) st) : (blt .isinst [.non, .ty "list"] st).W P := by
  have h : (blt .isinst [.non, .ty "list"] st : Out D) = .ok (.bl false) st := by
    simp only [blt, isA, tyName]
    rfl
  rw [h]; exact .ok q
theorem w_isT_int {ds : List D} (q : P (.bl false) st) : (blt .isinst [.tup ds, .ty "int"] st).W P := by
  have h : (blt .isinst [.tup ds, .ty "int"] st : Out D) = .ok (.bl false) st := by
    simp only [blt, isA, tyName]
    rfl
  rw [h]; exact .ok q
theorem w_isT_bool {ds : List D} (q : P (.bl false) st) : (blt .isinst [.tup ds, .ty "bool"] st).W P := by
  have h : (blt .isinst [.tup ds, .ty "bool"] st : Out D) = .ok (.bl false) st := by
    simp only [blt, isA, tyName]
    rfl
  rw [h]; exact .ok q
theorem w_isT_str {ds : List D} (q : P (.bl false) st) : (blt .isinst [.tup ds, .ty "str"] st).W P := by
  have h : (blt .isinst [.tup ds, .ty "str"] st : Out D) = .ok (.bl false) st := by
    simp only [blt, isA, tyName]
    rfl
  rw [h]; exact .ok q
theorem w_isT_tuple {ds : List D} (q : P (.bl true) st) : (blt .isinst [.tup ds, .ty "tuple"] st).W P := by
  have h : (blt .isinst [.tup ds, .ty "tuple"] st : Out D) = .ok (.bl true) st := by
    simp only [blt, isA, tyName]
    rfl
  rw [h]; exact .ok q
theorem w_isT_list {ds : List D} (q : P (.bl false) st) : (blt .isinst [.tup ds, .ty "list"] st).W P := by
  have h : (blt .isinst [.tup ds, .ty "list"] st : Out D) = .ok (.bl false) st := by
    simp only [blt, isA, tyName]
    rfl
  rw [h]; exact .ok q
theorem w_all {n : Nat} {bs : List Bool} (h : st[n]? = some (.lst (bs.map D.bl))) (q : P (.bl (bs.all id)) st) : (blt .all [.ref n] st).W P := by
  simp only [blt, itemsOf, h, bools_map]; exact .ok q
theorem w_any {n : Nat} {bs : List Bool} (h : st[n]? = some (.lst (bs.map D.bl))) (q : P (.bl (bs.any id)) st) : (blt .any [.ref n] st).W P := by
  simp only [blt, itemsOf, h, bools_map]; exact .ok q
theorem w_sum {n : Nat} {is : List Int} (h : st[n]? = some (.lst (is.map D.int))) (q : P (.int is.sum) st) : (blt .sum [.ref n] st).W P := by
  simp only [blt, itemsOf, h, ints_map]; exact .ok q
theorem w_listS {s : List Nat} (h : s.length ≤ SL) (q : P (.ref st.length) (st ++ [.lst (s.map fun c => .str [c])])) : (blt .list [.str s] st).W P := by
  simp only [blt, if_pos h]; exact .ok q
theorem w_append {n : Nat} {xs : List D} (h : st[n]? = some (.lst xs)) (h2 : xs.length < SL) (q : P .non (st.set n (.lst (xs ++ [d])))) : (met .append (.ref n) [d] st).W P := by
  simp only [met, h, if_pos h2]; exact .ok q
theorem w_join {s : List Nat} {n : Nat} {ss : List (List Nat)} (h : st[n]? = some (.lst (ss.map D.str))) (h2 : (ss.map (·.length)).sum + ss.length * s.length ≤ SL) (q : P (.str (joinL s ss)) st) : (met .join (.str s) [.ref n] st).W P := by
  simp only [met, itemsOf, h, strs_map, if_pos h2]; exact .ok q
theorem w_slcS {s : List Nat} {l u : Option Int} (h : s.length ≤ SL) (q : P (.str (cut s l u)) st) : (slcB (.str s) l u st).W P := by
  simp only [slcB, if_pos h]; exact .ok q
theorem g_srcS {s : List Nat} : srcOf .val [.str s] st = some (.str s, s.length) := rfl
theorem g_srcT {ds : List D} : srcOf .val [.tup ds] st = some (.tup ds, ds.length) := rfl
theorem g_srcE {s : List Nat} : srcOf .enum [.str s] st = some (.enumS s, s.length) := rfl
theorem g_srcL {n : Nat} {ds : List D} (h : st[n]? = some (.lst ds)) : srcOf .val [.ref n] st = some (.lst n, ds.length) := by simp only [srcOf, h]
theorem g_rng {j : Int} (h : -1000000 ≤ j ∧ j ≤ 1000000) : srcOf .rng [.int j] st = some (.rng 0 j.toNat, j.toNat) := by
  have h62 : (2 : Int) ^ 62 = 4611686018427387904 := by decide +kernel
  simp only [srcOf]
  rw [if_pos (by rw [h62]; omega)]
theorem g_subL {n : Nat} {ds : List D} {k : Int} (h : st[n]? = some (.lst ds)) (h2 : itemAt ds k = some d) : subD (.ref n) (.int k) st = some d := by
  simp only [subD, itemsOf, h]; exact h2
theorem g_subF {n : Nat} {ds : List D} {k : Int} (h : st[n]? = some (.fro ds)) (h2 : itemAt ds k = some d) : subD (.ref n) (.int k) st = some d := by
  simp only [subD, itemsOf, h]; exact h2
theorem g_subT {ds : List D} {k : Int} (h2 : itemAt ds k = some d) : subD (.tup ds) (.int k) st = some d := by
  simp only [subD, itemsOf]; exact h2
theorem g_subS {s : List Nat} {k : Int} {c : Nat} (h : s.length ≤ SL) (h2 : itemAt s k = some c) : subD (.str s) (.int k) st = some (.str [c]) := by
  simp only [subD, if_pos h, h2]
theorem g_set {n : Nat} {ds : List D} {k : Int} {j : Nat} (h : st[n]? = some (.lst ds)) (h2 : L2.ixN ds.length k = some j) : setD (.ref n) (.int k) d st = some (st.set n (.lst (ds.set j d))) := by
  simp only [setD, h, h2]
theorem get_set {n : Nat} {c : Cell} (h : n < st.length) : (st.set n c)[n]? = some c := by rw [List.getElem?_set_self h]
end
theorem w_eqS {i : Int} {st : Store} {P : D → Store → Prop} (q : P (.bl true) st) : (cmpO .Eq (.int i) (.int i) st).W P := w_eq (eqD_int _ _ _) (by rw [decide_eq_true rfl]; exact q)
theorem w_neS {i : Int} {st : Store} {P : D → Store → Prop} (q : P (.bl false) st) : (cmpO .NotEq (.int i) (.int i) st).W P := w_ne (eqD_int _ _ _) (by rw [decide_eq_true rfl]; exact q)
theorem w_eqI {i j : Int} {b : Bool} {st : Store} {P : D → Store → Prop} (h : decide (i = j) = b) (q : P (.bl b) st) : (cmpO .Eq (.int i) (.int j) st).W P := w_eq (eqD_int _ _ _) (by rw [h]; exact q)
theorem w_neI {i j : Int} {b : Bool} {st : Store} {P : D → Store → Prop} (h : decide (i = j) = b) (q : P (.bl (!b)) st) : (cmpO .NotEq (.int i) (.int j) st).W P := w_ne (eqD_int _ _ _) (by rw [h]; exact q)
theorem g_eqI {i j : Int} {b : Bool} {st : Store} (h : decide (i = j) = b) : cmpD .Eq (.int i) (.int j) st = some b := by
  simp only [cmpD, eqD_int, h]
theorem ints_py (g : Nat → Option PyData) : ∀ is : List Int, pyFs g (is.map D.int) = some (is.map PyData.int)
  | [] => rfl
  | i :: is => by simp [pyFs, pyF, ints_py g is]
theorem ints_eqv : ∀ is js : List Int, PyData.eqvAll (is.map PyData.int) (js.map PyData.int) = decide (is = js)
  | [], [] => by simp [PyData.eqvAll]
  | [], _ :: _ => by simp [PyData.eqvAll]
  | _ :: _, [] => by simp [PyData.eqvAll]
  | i :: is, j :: js => by
    rw [List.map_cons, List.map_cons]
    simp only [PyData.eqvAll, eqv_int, ints_eqv is js]
    by_cases h : i = j <;> by_cases h2 : is = js <;> simp [h, h2]
theorem ints_shaped (is : List Int) : SeqAt.shaped (.list (is.map PyData.int)) = true := by
  have h1 : PyData.canLayAll0 (is.map PyData.int) = true := by
    induction is with
    | nil => simp [PyData.canLayAll0]
    | cons i is ih => simp [PyData.canLayAll0, PyData.canLay0, ih]
  have h2 : PyData.depthAll (is.map PyData.int) = 0 := by
    clear h1
    induction is with
    | nil => simp [PyData.depthAll]
    | cons i is ih => simp [PyData.depthAll, PyData.depth, ih]
  simp [SeqAt.shaped, PyData.canLay0, PyData.depth, h1, h2]
theorem w_eqL {m n : Nat} {is js : List Int} {st : Store} {P : D → Store → Prop} (h1 : st[m]? = some (.lst (is.map D.int))) (h2 : st[n]? = some (.lst (js.map D.int))) (q : P (.bl (decide (is = js))) st) : (cmpO .Eq (.ref m) (.ref n) st).W P := by
  refine w_eq (t := decide (is = js)) ?_ q
  have e1 : toPy st (.ref m) = some (.list (is.map PyData.int)) := by simp only [toPy, pyF, pyN, h1, pyL, ints_py]
  have e2 : toPy st (.ref n) = some (.list (js.map PyData.int)) := by simp only [toPy, pyF, pyN, h2, pyL, ints_py]
  simp only [eqD, e1, e2, ints_shaped, Bool.and_self, if_true]
  simp [PyData.eqv, ints_eqv]
theorem roll_W {F : Nat → Option Fn} {r k n b : Nat} {st : Store} {t : Int} (hF : F r = some rollT) (D0 : DS st n b) (hb : b < 1152921504606846976) (h1 : 1 ≤ t) (h2 : t < 1152921504606846976) :
    (callN F (k + 1) r [.ref n, .int t] st).W fun v st' => ∃ x : Int, v = .int x ∧ 0 ≤ x ∧ x < t ∧ Kp n st st' ∧ DS st' n (b + 1) := by
  obtain ⟨l, m, c, hc, l0, m0, m1, c0, c1⟩ := D0
  have hn := lt_of_get hc
  rw [W_call hF rfl]
  simp only [List.map_cons, List.map_nil, List.cons_append, List.nil_append, List.length_cons, List.length_nil, List.replicate_succ, List.replicate_zero, Nat.reduceAdd, Nat.reduceSub, rollT]
  (repeat' (first
    | (with_reducible refine wSs_cons ?_; try simp only [List.set_cons_zero, List.set_cons_succ]) | with_reducible refine wS_asg ?_ | with_reducible refine wS_if ?_ | with_reducible refine wS_ret ?_ | with_reducible refine wS_expr ?_ | with_reducible refine wS_asgS ?_ | with_reducible refine wS_par ?_ | with_reducible refine wS_asgT ?_ | with_reducible refine wS_for ?_ | (with_reducible refine wSs_nil ?_; try simp only [List.set_cons_zero, List.set_cons_succ])
    | with_reducible refine wE_cst ?_ | with_reducible refine wE_op2 ?_ | with_reducible refine wE_cmp ?_ | with_reducible refine wE_sub ?_ | with_reducible refine wE_call ?_ | with_reducible refine wE_blt ?_ | with_reducible refine wEs_cons ?_ | with_reducible refine wEs_nil ?_ | with_reducible refine wT ?_ | with_reducible refine wE_not ?_ | with_reducible refine wE_lst ?_ | with_reducible refine wE_tup ?_ | with_reducible refine wE_and ?_ | with_reducible refine wE_or ?_ | with_reducible refine wE_ite ?_ | with_reducible refine wE_cmp2 ?_ | with_reducible refine wE_lc ?_
    | with_reducible refine ⟨(_ : Option Int), by rfl, ?_⟩ | with_reducible refine ⟨(_ : Src × Nat), g_srcS, ?_⟩ | with_reducible refine ⟨(_ : Src × Nat), g_srcE, ?_⟩ | with_reducible refine ⟨(_ : Src × Nat), g_srcT, ?_⟩ | with_reducible refine ⟨(_ : Src × Nat), g_srcL (by assumption), ?_⟩
    | with_reducible refine w_add ?_ | with_reducible refine w_sub ?_ | with_reducible refine w_leS ?_ | with_reducible refine w_lt ?_ | with_reducible refine w_le ?_ | with_reducible refine w_gt ?_ | with_reducible refine w_ge ?_ | with_reducible refine w_int ?_ | with_reducible refine w_intB ?_ | with_reducible refine w_abs ?_ | with_reducible refine w_ord ?_ | with_reducible refine w_min ?_ | with_reducible refine w_max ?_
    | refine wE_var rfl ?_
    | with_reducible refine w_eqS ?_ | with_reducible refine w_neS ?_ | with_reducible refine w_eq (eqD_bl _ _ _) ?_ | with_reducible refine w_ne (eqD_bl _ _ _) ?_
    | (with_reducible refine w_eqI (b := true) ?_ ?_; exact decide_eq_true (by omega)) | (with_reducible refine w_eqI (b := false) ?_ ?_; exact decide_eq_false (by omega)) | (with_reducible refine w_neI (b := true) ?_ ?_; exact decide_eq_true (by omega)) | (with_reducible refine w_neI (b := false) ?_ ?_; exact decide_eq_false (by omega))
    | with_reducible refine w_eq (eqD_int _ _ _) ?_ | with_reducible refine w_ne (eqD_int _ _ _) ?_
    | (with_reducible refine w_mod ?_ ?_; (first | omega | decide +kernel)) | (with_reducible refine w_mul ?_ ?_; exact mul_ok (by omega) (by first | omega | (split <;> omega))) | (with_reducible refine w_div ?_ ?_; (first | exact div_ok (by omega) (by omega) | decide +kernel)) | (with_reducible refine w_pow ?_ ?_; decide +kernel)
    | with_reducible refine ⟨(_ : Bool), g_eqI (b := true) (decide_eq_true (by omega)), ?_⟩ | with_reducible refine ⟨(_ : Bool), g_eqI (b := false) (decide_eq_false (by omega)), ?_⟩ | refine ⟨(_ : Bool), rfl, ?_⟩ | with_reducible refine w_isI_int ?_ | with_reducible refine w_isI_bool ?_ | with_reducible refine w_isI_str ?_ | with_reducible refine w_isI_tuple ?_ | with_reducible refine w_isI_list ?_ | with_reducible refine w_isS_int ?_ | with_reducible refine w_isS_bool ?_ | with_reducible refine w_isS_str ?_ | with_reducible refine w_isS_tuple ?_ | with_reducible refine w_isS_list ?_ | with_reducible refine w_isB_int ?_ | with_reducible refine w_isB_bool ?_ | with_reducible refine w_isB_str ?_ | with_reducible refine w_isB_tuple ?_ | with_reducible refine w_isB_list ?_ | with_reducible refine w_isN_int ?_ | with_reducible refine w_isN_bool ?_ | with_reducible refine w_isN_str ?_ | with_reducible refine w_isN_tuple ?_ | with_reducible refine w_isN_list ?_ | with_reducible refine w_isT_int ?_ | with_reducible refine w_isT_bool ?_ | with_reducible refine w_isT_str ?_ | with_reducible refine w_isT_tuple ?_ | with_reducible refine w_isT_list ?_
    | refine ⟨(_ : Option Int), rfl, ?_⟩ | refine ⟨(_ : D), g_subT rfl, ?_⟩ | refine ⟨(_ : D), g_subL (get_app _ _) rfl, ?_⟩ | refine ⟨(_ : D), g_subL (get_app2 _ _ _) rfl, ?_⟩ | refine ⟨(_ : D), g_subL (by assumption) rfl, ?_⟩ | refine ⟨(_ : D), g_subL (get_set (by assumption)) rfl, ?_⟩ | refine ⟨(_ : Store), g_set (by assumption) rfl, ?_⟩ | refine ⟨(_ : Store), g_set (get_set (by assumption)) rfl, ?_⟩
    | (with_reducible refine ⟨fun hh => ?_, fun hh => ?_⟩ <;> try exact absurd hh (by decide)) | refine ⟨by simp only [List.length_cons, List.length_nil]; decide, ?_⟩
    | simp only [List.set_cons_zero, List.set_cons_succ] | simp only [List.set_set]))
  · refine ⟨_, rfl, Int.emod_nonneg _ (by omega), Int.emod_lt_of_pos _ (by omega), .own n st _, l / t, m, c, ?_, Int.ediv_nonneg l0 (by omega), m0, m1, c0, by omega⟩
    rw [get_set hn]; rfl
  · refine ⟨_, rfl, Int.emod_nonneg _ (by omega), Int.emod_lt_of_pos _ (by omega), .own n st _, l, m, c + 1, ?_, l0, m0, m1, by omega, by omega⟩
    rw [get_set hn]; rfl
def diceT : Fn := ⟨6, 2, [
  (.asg (.nm 2) (.op2 .Add (.op2 .Mult (.cst (.int (83))) (.var 1)) (.cst (.int (59))))),
  (.ifs (.cmp .Lt (.var 1) (.blt .len [(.var 0)])) [(.asg (.nm 2) (.sub (.var 0) (.var 1)))] []),
  (.asg (.nm 3) (.op2 .Mod (.blt .int [(.blt .abs [(.var 2)])]) (.op2 .Pow (.op2 .Pow (.cst (.int (10))) (.cst (.int (60)))) (.cst (.int (10)))))),
  (.asg (.nm 4) (.op2 .FloorDiv (.var 3) (.op2 .Pow (.cst (.int (10))) (.cst (.int (18)))))),
  (.asg (.nm 5) (.op2 .Add (.op2 .Add (.op2 .Add (.op2 .Mult (.op2 .Mod (.var 3) (.cst (.int (2147482811)))) (.cst (.int (60509)))) (.op2 .Mult (.cst (.int (3499))) (.var 1))) (.op2 .Mult (.cst (.int (73))) (.blt .int [(.cmp .Lt (.var 2) (.cst (.int (0))))]))) (.cst (.int (101))))),
  (.ret (.lst [(.var 4), (.op2 .Mod (.var 5) (.cst (.int (2147482801)))), (.cst (.int (0)))]))]⟩
theorem dice_end {Γ : Sem} {ns : List Int} {a cell : Int} {x3 x4 x5 : Option D} {st : Store} (ha : 0 ≤ a) (ha2 : a < 1000000) :
    (evSs Γ (diceT.body.drop 2) [some (.ref 0), some (.int a), some (.int cell), x3, x4, x5] st).W (fun _ _ => False) fun v st' => ∃ n, v = .ref n ∧ n = st.length ∧ Ap st st' ∧ DS st' n 0 := by
  simp only [diceT, List.drop_succ_cons, List.drop_zero]
  (repeat' (first
    | (with_reducible refine wSs_cons ?_; try simp only [List.set_cons_zero, List.set_cons_succ]) | with_reducible refine wS_asg ?_ | with_reducible refine wS_if ?_ | with_reducible refine wS_ret ?_ | with_reducible refine wS_expr ?_ | with_reducible refine wS_asgS ?_ | with_reducible refine wS_par ?_ | with_reducible refine wS_asgT ?_ | with_reducible refine wS_for ?_ | (with_reducible refine wSs_nil ?_; try simp only [List.set_cons_zero, List.set_cons_succ])
    | with_reducible refine wE_cst ?_ | with_reducible refine wE_op2 ?_ | with_reducible refine wE_cmp ?_ | with_reducible refine wE_sub ?_ | with_reducible refine wE_call ?_ | with_reducible refine wE_blt ?_ | with_reducible refine wEs_cons ?_ | with_reducible refine wEs_nil ?_ | with_reducible refine wT ?_ | with_reducible refine wE_not ?_ | with_reducible refine wE_lst ?_ | with_reducible refine wE_tup ?_ | with_reducible refine wE_and ?_ | with_reducible refine wE_or ?_ | with_reducible refine wE_ite ?_ | with_reducible refine wE_cmp2 ?_ | with_reducible refine wE_lc ?_
    | with_reducible refine ⟨(_ : Option Int), by rfl, ?_⟩ | with_reducible refine ⟨(_ : Src × Nat), g_srcS, ?_⟩ | with_reducible refine ⟨(_ : Src × Nat), g_srcE, ?_⟩ | with_reducible refine ⟨(_ : Src × Nat), g_srcT, ?_⟩ | with_reducible refine ⟨(_ : Src × Nat), g_srcL (by assumption), ?_⟩
    | with_reducible refine w_add ?_ | with_reducible refine w_sub ?_ | with_reducible refine w_leS ?_ | with_reducible refine w_lt ?_ | with_reducible refine w_le ?_ | with_reducible refine w_gt ?_ | with_reducible refine w_ge ?_ | with_reducible refine w_int ?_ | with_reducible refine w_intB ?_ | with_reducible refine w_abs ?_ | with_reducible refine w_ord ?_ | with_reducible refine w_min ?_ | with_reducible refine w_max ?_
    | refine wE_var rfl ?_
    | with_reducible refine w_eqS ?_ | with_reducible refine w_neS ?_ | with_reducible refine w_eq (eqD_bl _ _ _) ?_ | with_reducible refine w_ne (eqD_bl _ _ _) ?_
    | (with_reducible refine w_eqI (b := true) ?_ ?_; exact decide_eq_true (by omega)) | (with_reducible refine w_eqI (b := false) ?_ ?_; exact decide_eq_false (by omega)) | (with_reducible refine w_neI (b := true) ?_ ?_; exact decide_eq_true (by omega)) | (with_reducible refine w_neI (b := false) ?_ ?_; exact decide_eq_false (by omega))
    | with_reducible refine w_eq (eqD_int _ _ _) ?_ | with_reducible refine w_ne (eqD_int _ _ _) ?_
    | (with_reducible refine w_mod ?_ ?_; (first | omega | decide +kernel)) | (with_reducible refine w_mul ?_ ?_; exact mul_ok (by omega) (by first | omega | (split <;> omega))) | (with_reducible refine w_div ?_ ?_; (first | exact div_ok (by omega) (by omega) | decide +kernel)) | (with_reducible refine w_pow ?_ ?_; decide +kernel)
    | with_reducible refine ⟨(_ : Bool), g_eqI (b := true) (decide_eq_true (by omega)), ?_⟩ | with_reducible refine ⟨(_ : Bool), g_eqI (b := false) (decide_eq_false (by omega)), ?_⟩ | refine ⟨(_ : Bool), rfl, ?_⟩ | with_reducible refine w_isI_int ?_ | with_reducible refine w_isI_bool ?_ | with_reducible refine w_isI_str ?_ | with_reducible refine w_isI_tuple ?_ | with_reducible refine w_isI_list ?_ | with_reducible refine w_isS_int ?_ | with_reducible refine w_isS_bool ?_ | with_reducible refine w_isS_str ?_ | with_reducible refine w_isS_tuple ?_ | with_reducible refine w_isS_list ?_ | with_reducible refine w_isB_int ?_ | with_reducible refine w_isB_bool ?_ | with_reducible refine w_isB_str ?_ | with_reducible refine w_isB_tuple ?_ | with_reducible refine w_isB_list ?_ | with_reducible refine w_isN_int ?_ | with_reducible refine w_isN_bool ?_ | with_reducible refine w_isN_str ?_ | with_reducible refine w_isN_tuple ?_ | with_reducible refine w_isN_list ?_ | with_reducible refine w_isT_int ?_ | with_reducible refine w_isT_bool ?_ | with_reducible refine w_isT_str ?_ | with_reducible refine w_isT_tuple ?_ | with_reducible refine w_isT_list ?_
    | refine ⟨(_ : Option Int), rfl, ?_⟩ | refine ⟨(_ : D), g_subT rfl, ?_⟩ | refine ⟨(_ : D), g_subL (get_app _ _) rfl, ?_⟩ | refine ⟨(_ : D), g_subL (get_app2 _ _ _) rfl, ?_⟩ | refine ⟨(_ : D), g_subL (by assumption) rfl, ?_⟩ | refine ⟨(_ : D), g_subL (get_set (by assumption)) rfl, ?_⟩ | refine ⟨(_ : Store), g_set (by assumption) rfl, ?_⟩ | refine ⟨(_ : Store), g_set (get_set (by assumption)) rfl, ?_⟩
    | (with_reducible refine ⟨fun hh => ?_, fun hh => ?_⟩ <;> try exact absurd hh (by decide)) | refine ⟨by simp only [List.length_cons, List.length_nil]; decide, ?_⟩
    | simp only [List.set_cons_zero, List.set_cons_succ] | simp only [List.set_set]))
  refine ⟨_, rfl, rfl, Ap.app _ _, _, _, _, List.getElem?_concat_length .., Int.ediv_nonneg (Int.emod_nonneg _ (by decide +kernel)) (by decide +kernel), Int.emod_nonneg _ (by omega), Int.emod_lt_of_pos _ (by omega), by omega, by omega⟩
theorem dice_W {F : Nat → Option Fn} {r k : Nat} {st : Store} {ns : List Int} {a : Int} (hF : F r = some diceT) (hs : st[0]? = some (.fro (ns.map D.int))) (ha : 0 ≤ a) (ha2 : a < 1000000) :
    (callN F (k + 1) r [.ref 0, .int a] st).W fun v st' => ∃ n, v = .ref n ∧ n = st.length ∧ Ap st st' ∧ DS st' n 0 := by
  rw [W_call hF rfl]
  simp only [List.map_cons, List.map_nil, List.cons_append, List.nil_append, List.length_cons, List.length_nil, List.replicate_succ, List.replicate_zero, Nat.reduceAdd, Nat.reduceSub, diceT]
  refine wSs_cons (wS_asg (wE_op2 (wE_op2 (wE_cst (wE_var rfl (w_mul (mul_ok (by omega) (by omega)) (wE_cst (w_add ⟨by simp only [List.length_cons, List.length_nil]; decide, ?_⟩))))))))
  simp only [List.set_cons_zero, List.set_cons_succ]
  refine wSs_cons (wS_if (wT (wE_cmp (wE_var rfl (wE_blt (wEs_cons (wE_var rfl (wEs_nil (w_lenF hs (w_lt ⟨_, rfl, fun hh => ?_, fun hh => ?_⟩)))))))))) 
  · have hh : a < (ns.map D.int).length := of_decide_eq_true hh
    have hl : a.toNat < (ns.map D.int).length := by omega
    have hi : itemAt (ns.map D.int) a = some (.int (ns[a.toNat]'(by simpa using hl))) := by
      show L2.atI (ns.map D.int) a = _
      unfold L2.atI L2.ixN
      rw [if_pos ha, if_pos hh]
      have : a.toNat < ns.length := by simpa using hl
      simp [this]
    refine wSs_cons (wS_asg (wE_sub (wE_var rfl (wE_var rfl ⟨_, g_subF hs hi, by simp only [List.length_cons, List.length_nil]; decide, ?_⟩))))
    simp only [List.set_cons_zero, List.set_cons_succ]
    refine wSs_nil ?_
    exact WS_mono (dice_end (ns := ns) ha ha2) (fun _ _ h => h.elim) fun _ _ h => h
  · refine wSs_nil ?_
    exact WS_mono (dice_end (ns := ns) ha ha2) (fun _ _ h => h.elim) fun _ _ h => h
def oneT (r : Nat) : Fn := ⟨2, 2, [(.ret (.sub (.var 1) (.call r [(.var 0), (.blt .len [(.var 1)])])))]⟩
theorem one_W {F : Nat → Option Fn} {q r k n m b : Nat} {st : Store} {ds : List D} (hF : F q = some (oneT r)) (hR : F r = some rollT) (D0 : DS st n b) (hb : b < 1152921504606846976) (hm : st[m]? = some (.lst ds)) (hmn : m ≠ n) (h1 : 1 ≤ ds.length) (h2 : ds.length < 1000000) :
    (callN F (k + 2) q [.ref n, .ref m] st).W fun v st' => v ∈ ds ∧ Kp n st st' ∧ DS st' n (b + 1) := by
  rw [W_call hF rfl]
  simp only [List.map_cons, List.map_nil, List.cons_append, List.nil_append, List.length_cons, List.length_nil, List.replicate_succ, List.replicate_zero, Nat.reduceAdd, Nat.reduceSub, oneT]
  (repeat' (first
    | (with_reducible refine wSs_cons ?_; try simp only [List.set_cons_zero, List.set_cons_succ]) | with_reducible refine wS_asg ?_ | with_reducible refine wS_if ?_ | with_reducible refine wS_ret ?_ | with_reducible refine wS_expr ?_ | with_reducible refine wS_asgS ?_ | with_reducible refine wS_par ?_ | with_reducible refine wS_asgT ?_ | with_reducible refine wS_for ?_ | (with_reducible refine wSs_nil ?_; try simp only [List.set_cons_zero, List.set_cons_succ])
    | with_reducible refine wE_cst ?_ | with_reducible refine wE_op2 ?_ | with_reducible refine wE_cmp ?_ | with_reducible refine wE_sub ?_ | with_reducible refine wE_call ?_ | with_reducible refine wE_blt ?_ | with_reducible refine wEs_cons ?_ | with_reducible refine wEs_nil ?_ | with_reducible refine wT ?_ | with_reducible refine wE_not ?_ | with_reducible refine wE_lst ?_ | with_reducible refine wE_tup ?_ | with_reducible refine wE_and ?_ | with_reducible refine wE_or ?_ | with_reducible refine wE_ite ?_ | with_reducible refine wE_cmp2 ?_ | with_reducible refine wE_lc ?_
    | with_reducible refine ⟨(_ : Option Int), by rfl, ?_⟩ | with_reducible refine ⟨(_ : Src × Nat), g_srcS, ?_⟩ | with_reducible refine ⟨(_ : Src × Nat), g_srcE, ?_⟩ | with_reducible refine ⟨(_ : Src × Nat), g_srcT, ?_⟩ | with_reducible refine ⟨(_ : Src × Nat), g_srcL (by assumption), ?_⟩
    | with_reducible refine w_add ?_ | with_reducible refine w_sub ?_ | with_reducible refine w_leS ?_ | with_reducible refine w_lt ?_ | with_reducible refine w_le ?_ | with_reducible refine w_gt ?_ | with_reducible refine w_ge ?_ | with_reducible refine w_int ?_ | with_reducible refine w_intB ?_ | with_reducible refine w_abs ?_ | with_reducible refine w_ord ?_ | with_reducible refine w_min ?_ | with_reducible refine w_max ?_
    | refine wE_var rfl ?_
    | with_reducible refine w_eqS ?_ | with_reducible refine w_neS ?_ | with_reducible refine w_eq (eqD_bl _ _ _) ?_ | with_reducible refine w_ne (eqD_bl _ _ _) ?_
    | (with_reducible refine w_eqI (b := true) ?_ ?_; exact decide_eq_true (by omega)) | (with_reducible refine w_eqI (b := false) ?_ ?_; exact decide_eq_false (by omega)) | (with_reducible refine w_neI (b := true) ?_ ?_; exact decide_eq_true (by omega)) | (with_reducible refine w_neI (b := false) ?_ ?_; exact decide_eq_false (by omega))
    | with_reducible refine w_eq (eqD_int _ _ _) ?_ | with_reducible refine w_ne (eqD_int _ _ _) ?_
    | (with_reducible refine w_mod ?_ ?_; (first | omega | decide +kernel)) | (with_reducible refine w_mul ?_ ?_; exact mul_ok (by omega) (by first | omega | (split <;> omega))) | (with_reducible refine w_div ?_ ?_; (first | exact div_ok (by omega) (by omega) | decide +kernel)) | (with_reducible refine w_pow ?_ ?_; decide +kernel)
    | with_reducible refine ⟨(_ : Bool), g_eqI (b := true) (decide_eq_true (by omega)), ?_⟩ | with_reducible refine ⟨(_ : Bool), g_eqI (b := false) (decide_eq_false (by omega)), ?_⟩ | refine ⟨(_ : Bool), rfl, ?_⟩ | with_reducible refine w_isI_int ?_ | with_reducible refine w_isI_bool ?_ | with_reducible refine w_isI_str ?_ | with_reducible refine w_isI_tuple ?_ | with_reducible refine w_isI_list ?_ | with_reducible refine w_isS_int ?_ | with_reducible refine w_isS_bool ?_ | with_reducible refine w_isS_str ?_ | with_reducible refine w_isS_tuple ?_ | with_reducible refine w_isS_list ?_ | with_reducible refine w_isB_int ?_ | with_reducible refine w_isB_bool ?_ | with_reducible refine w_isB_str ?_ | with_reducible refine w_isB_tuple ?_ | with_reducible refine w_isB_list ?_ | with_reducible refine w_isN_int ?_ | with_reducible refine w_isN_bool ?_ | with_reducible refine w_isN_str ?_ | with_reducible refine w_isN_tuple ?_ | with_reducible refine w_isN_list ?_ | with_reducible refine w_isT_int ?_ | with_reducible refine w_isT_bool ?_ | with_reducible refine w_isT_str ?_ | with_reducible refine w_isT_tuple ?_ | with_reducible refine w_isT_list ?_
    | refine ⟨(_ : Option Int), rfl, ?_⟩ | refine ⟨(_ : D), g_subT rfl, ?_⟩ | refine ⟨(_ : D), g_subL (get_app _ _) rfl, ?_⟩ | refine ⟨(_ : D), g_subL (get_app2 _ _ _) rfl, ?_⟩ | refine ⟨(_ : D), g_subL (by assumption) rfl, ?_⟩ | refine ⟨(_ : D), g_subL (get_set (by assumption)) rfl, ?_⟩ | refine ⟨(_ : Store), g_set (by assumption) rfl, ?_⟩ | refine ⟨(_ : Store), g_set (get_set (by assumption)) rfl, ?_⟩
    | (with_reducible refine ⟨fun hh => ?_, fun hh => ?_⟩ <;> try exact absurd hh (by decide)) | refine ⟨by simp only [List.length_cons, List.length_nil]; decide, ?_⟩
    | simp only [List.set_cons_zero, List.set_cons_succ] | simp only [List.set_set]))
  refine w_lenL hm ?_
  (repeat' (first
    | (with_reducible refine wSs_cons ?_; try simp only [List.set_cons_zero, List.set_cons_succ]) | with_reducible refine wS_asg ?_ | with_reducible refine wS_if ?_ | with_reducible refine wS_ret ?_ | with_reducible refine wS_expr ?_ | with_reducible refine wS_asgS ?_ | with_reducible refine wS_par ?_ | with_reducible refine wS_asgT ?_ | with_reducible refine wS_for ?_ | (with_reducible refine wSs_nil ?_; try simp only [List.set_cons_zero, List.set_cons_succ])
    | with_reducible refine wE_cst ?_ | with_reducible refine wE_op2 ?_ | with_reducible refine wE_cmp ?_ | with_reducible refine wE_sub ?_ | with_reducible refine wE_call ?_ | with_reducible refine wE_blt ?_ | with_reducible refine wEs_cons ?_ | with_reducible refine wEs_nil ?_ | with_reducible refine wT ?_ | with_reducible refine wE_not ?_ | with_reducible refine wE_lst ?_ | with_reducible refine wE_tup ?_ | with_reducible refine wE_and ?_ | with_reducible refine wE_or ?_ | with_reducible refine wE_ite ?_ | with_reducible refine wE_cmp2 ?_ | with_reducible refine wE_lc ?_
    | with_reducible refine ⟨(_ : Option Int), by rfl, ?_⟩ | with_reducible refine ⟨(_ : Src × Nat), g_srcS, ?_⟩ | with_reducible refine ⟨(_ : Src × Nat), g_srcE, ?_⟩ | with_reducible refine ⟨(_ : Src × Nat), g_srcT, ?_⟩ | with_reducible refine ⟨(_ : Src × Nat), g_srcL (by assumption), ?_⟩
    | with_reducible refine w_add ?_ | with_reducible refine w_sub ?_ | with_reducible refine w_leS ?_ | with_reducible refine w_lt ?_ | with_reducible refine w_le ?_ | with_reducible refine w_gt ?_ | with_reducible refine w_ge ?_ | with_reducible refine w_int ?_ | with_reducible refine w_intB ?_ | with_reducible refine w_abs ?_ | with_reducible refine w_ord ?_ | with_reducible refine w_min ?_ | with_reducible refine w_max ?_
    | refine wE_var rfl ?_
    | with_reducible refine w_eqS ?_ | with_reducible refine w_neS ?_ | with_reducible refine w_eq (eqD_bl _ _ _) ?_ | with_reducible refine w_ne (eqD_bl _ _ _) ?_
    | (with_reducible refine w_eqI (b := true) ?_ ?_; exact decide_eq_true (by omega)) | (with_reducible refine w_eqI (b := false) ?_ ?_; exact decide_eq_false (by omega)) | (with_reducible refine w_neI (b := true) ?_ ?_; exact decide_eq_true (by omega)) | (with_reducible refine w_neI (b := false) ?_ ?_; exact decide_eq_false (by omega))
    | with_reducible refine w_eq (eqD_int _ _ _) ?_ | with_reducible refine w_ne (eqD_int _ _ _) ?_
    | (with_reducible refine w_mod ?_ ?_; (first | omega | decide +kernel)) | (with_reducible refine w_mul ?_ ?_; exact mul_ok (by omega) (by first | omega | (split <;> omega))) | (with_reducible refine w_div ?_ ?_; (first | exact div_ok (by omega) (by omega) | decide +kernel)) | (with_reducible refine w_pow ?_ ?_; decide +kernel)
    | with_reducible refine ⟨(_ : Bool), g_eqI (b := true) (decide_eq_true (by omega)), ?_⟩ | with_reducible refine ⟨(_ : Bool), g_eqI (b := false) (decide_eq_false (by omega)), ?_⟩ | refine ⟨(_ : Bool), rfl, ?_⟩ | with_reducible refine w_isI_int ?_ | with_reducible refine w_isI_bool ?_ | with_reducible refine w_isI_str ?_ | with_reducible refine w_isI_tuple ?_ | with_reducible refine w_isI_list ?_ | with_reducible refine w_isS_int ?_ | with_reducible refine w_isS_bool ?_ | with_reducible refine w_isS_str ?_ | with_reducible refine w_isS_tuple ?_ | with_reducible refine w_isS_list ?_ | with_reducible refine w_isB_int ?_ | with_reducible refine w_isB_bool ?_ | with_reducible refine w_isB_str ?_ | with_reducible refine w_isB_tuple ?_ | with_reducible refine w_isB_list ?_ | with_reducible refine w_isN_int ?_ | with_reducible refine w_isN_bool ?_ | with_reducible refine w_isN_str ?_ | with_reducible refine w_isN_tuple ?_ | with_reducible refine w_isN_list ?_ | with_reducible refine w_isT_int ?_ | with_reducible refine w_isT_bool ?_ | with_reducible refine w_isT_str ?_ | with_reducible refine w_isT_tuple ?_ | with_reducible refine w_isT_list ?_
    | refine ⟨(_ : Option Int), rfl, ?_⟩ | refine ⟨(_ : D), g_subT rfl, ?_⟩ | refine ⟨(_ : D), g_subL (get_app _ _) rfl, ?_⟩ | refine ⟨(_ : D), g_subL (get_app2 _ _ _) rfl, ?_⟩ | refine ⟨(_ : D), g_subL (by assumption) rfl, ?_⟩ | refine ⟨(_ : D), g_subL (get_set (by assumption)) rfl, ?_⟩ | refine ⟨(_ : Store), g_set (by assumption) rfl, ?_⟩ | refine ⟨(_ : Store), g_set (get_set (by assumption)) rfl, ?_⟩
    | (with_reducible refine ⟨fun hh => ?_, fun hh => ?_⟩ <;> try exact absurd hh (by decide)) | refine ⟨by simp only [List.length_cons, List.length_nil]; decide, ?_⟩
    | simp only [List.set_cons_zero, List.set_cons_succ] | simp only [List.set_set]))
  refine W_mono (roll_W hR D0 hb (by omega) (by omega)) fun v st' ⟨x, hv, x0, x1, hk, D1⟩ => ?_
  subst hv
  have hi : x.toNat < ds.length := by omega
  refine ⟨ds[x.toNat], g_subL (hk.get hm hmn) ?_, ?_⟩
  · show L2.atI ds x = _
    unfold L2.atI L2.ixN
    rw [if_pos x0, if_pos (by omega)]
    simp [hi]
  · exact ⟨List.getElem_mem hi, hk, D1⟩
end RX

namespace RX
open PySem
theorem ltS_cps (s t : List Nat) : True := trivial
mutual
def plD : Nat → D → Bool
  | _, .non => true
  | _, .int _ => true
  | _, .str s => s.all fun c => decide (c < 1114112)
  | 0, .tup _ => false
  | k + 1, .tup ds => plDs k ds
  | _, .bl _ => false
  | _, .ref _ => false
  | _, .gl _ => false
  | _, .ty _ => false
def plDs : Nat → List D → Bool
  | _, [] => true
  | k, d :: ds => plD k d && plDs k ds
end
mutual
def datD : D → PyData
  | .non => .none
  | .int i => .int i
  | .str s => .str ⟨s.toArray⟩
  | .tup ds => .tuple (datDs ds)
  | .bl b => .bool b
  | .ref _ => .none
  | .gl _ => .none
  | .ty _ => .none
def datDs : List D → List PyData
  | [] => []
  | d :: ds => datD d :: datDs ds
end
mutual
theorem pl_py (g : Nat → Option PyData) : ∀ {k : Nat} {d : D}, plD k d = true → pyF g d = some (datD d)
  | _, .non, _ => rfl
  | _, .int _, _ => rfl
  | _, .str s, _ => rfl
  | 0, .tup ds, h => by simp [plD] at h
  | k + 1, .tup ds, h => by
    have h : plDs k ds = true := by simpa [plD] using h
    simp only [pyF, pls_py g h, datD]
  | _, .bl _, h => by simp [plD] at h
  | _, .ref _, h => by simp [plD] at h
  | _, .gl _, h => by simp [plD] at h
  | _, .ty _, h => by simp [plD] at h
theorem pls_py (g : Nat → Option PyData) : ∀ {k : Nat} {ds : List D}, plDs k ds = true → pyFs g ds = some (datDs ds)
  | _, [], _ => rfl
  | k, d :: ds, h => by
    simp only [plDs, Bool.and_eq_true] at h
    simp only [pyFs, pl_py g h.1, pls_py g h.2, datDs]
end
mutual
theorem pl_lay : ∀ {k : Nat} {d : D}, plD k d = true → PyData.canLay0 (datD d) = true ∧ PyData.depth (datD d) ≤ k
  | _, .non, _ => by simp [datD, PyData.canLay0, PyData.depth]
  | _, .int _, _ => by simp [datD, PyData.canLay0, PyData.depth]
  | _, .str s, h => by
    simp only [plD, List.all_eq_true, decide_eq_true_eq] at h
    simp [datD, PyData.canLay0, PyData.depth, PyData.strOk]
    exact h
  | 0, .tup ds, h => by simp [plD] at h
  | k + 1, .tup ds, h => by
    have h : plDs k ds = true := by simpa [plD] using h
    obtain ⟨h1, h2⟩ := pls_lay h
    simp only [datD, PyData.canLay0, PyData.depth]
    exact ⟨h1, by omega⟩
  | _, .bl _, h => by simp [plD] at h
  | _, .ref _, h => by simp [plD] at h
  | _, .gl _, h => by simp [plD] at h
  | _, .ty _, h => by simp [plD] at h
theorem pls_lay : ∀ {k : Nat} {ds : List D}, plDs k ds = true → PyData.canLayAll0 (datDs ds) = true ∧ PyData.depthAll (datDs ds) ≤ k
  | _, [], _ => by simp [datDs, PyData.canLayAll0, PyData.depthAll]
  | k, d :: ds, h => by
    simp only [plDs, Bool.and_eq_true] at h
    obtain ⟨h1, h2⟩ := pl_lay h.1
    obtain ⟨h3, h4⟩ := pls_lay h.2
    simp only [datDs, PyData.canLayAll0, PyData.depthAll, h1, h3, Bool.and_self, true_and]
    omega
end
mutual
theorem pl_eqv : ∀ {k : Nat} {a b : D}, plD k a = true → plD k b = true → (PyData.eqv (datD a) (datD b) = true ↔ a = b)
  | k, .tup as, b, ha, hb => by
    cases k with
    | zero => simp [plD] at ha
    | succ k =>
      have ha : plDs k as = true := by simpa [plD] using ha
      cases b with
      | tup bs =>
        have hb : plDs k bs = true := by simpa [plD] using hb
        have := pls_eqv ha hb
        simpa [datD, PyData.eqv] using this
      | _ => simp [plD, datD, PyData.eqv] at hb ⊢
  | k, .non, b, ha, hb => by cases b <;> simp [plD, datD, PyData.eqv] at hb ⊢
  | k, .int i, b, ha, hb => by cases b <;> simp [plD, datD, PyData.eqv] at hb ⊢
  | k, .str s, b, ha, hb => by
    cases b <;> simp [plD, datD, PyData.eqv] at hb ⊢
  | _, .bl _, _, h, _ => by simp [plD] at h
  | _, .ref _, _, h, _ => by simp [plD] at h
  | _, .gl _, _, h, _ => by simp [plD] at h
  | _, .ty _, _, h, _ => by simp [plD] at h
theorem pls_eqv : ∀ {k : Nat} {as bs : List D}, plDs k as = true → plDs k bs = true → (PyData.eqvAll (datDs as) (datDs bs) = true ↔ as = bs)
  | _, [], [], _, _ => by simp [datDs, PyData.eqvAll]
  | _, [], _ :: _, _, _ => by simp [datDs, PyData.eqvAll]
  | _, _ :: _, [], _, _ => by simp [datDs, PyData.eqvAll]
  | k, a :: as, b :: bs, ha, hb => by
    simp only [plDs, Bool.and_eq_true] at ha hb
    have h1 := pl_eqv ha.1 hb.1
    have h2 := pls_eqv ha.2 hb.2
    simp only [datDs, PyData.eqvAll, Bool.and_eq_true, h1, h2, List.cons.injEq]
end
theorem eq_pl {k : Nat} {st : Store} {a b : D} (ha : plD k a = true) (hb : plD k b = true) (hk : k ≤ 64) : ∃ t, eqD st a b = some t ∧ (t = true ↔ a = b) := by
  obtain ⟨a1, a2⟩ := pl_lay ha
  obtain ⟨b1, b2⟩ := pl_lay hb
  refine ⟨PyData.eqv (datD a) (datD b), ?_, pl_eqv ha hb⟩
  simp only [eqD, toPy, pl_py _ ha, pl_py _ hb]
  rw [if_pos]
  simp only [SeqAt.shaped, a1, b1, Bool.true_and, Bool.and_eq_true, decide_eq_true_eq]
  omega
theorem eq_plL {k m n : Nat} {st : Store} {as bs : List D} (h1 : st[m]? = some (.lst as)) (h2 : st[n]? = some (.lst bs)) (ha : plDs k as = true) (hb : plDs k bs = true) (hk : k ≤ 63) : ∃ t, eqD st (.ref m) (.ref n) = some t ∧ (t = true ↔ as = bs) := by
  obtain ⟨a1, a2⟩ := pls_lay ha
  obtain ⟨b1, b2⟩ := pls_lay hb
  refine ⟨PyData.eqvAll (datDs as) (datDs bs), ?_, pls_eqv ha hb⟩
  simp only [eqD, toPy, pyF, pyN, h1, h2, pyL, pls_py _ ha, pls_py _ hb]
  rw [if_pos]
  · simp [PyData.eqv]
  simp only [SeqAt.shaped, PyData.canLay0, PyData.depth, a1, b1, Bool.true_and, Bool.and_eq_true, decide_eq_true_eq]
  exact ⟨decide_eq_true (by omega), decide_eq_true (by omega)⟩
section
variable {st : Store} {P : D → Store → Prop} {a b : D}
theorem w_eqP (k : Nat) (ha : plD k a = true) (hb : plD k b = true) (hk : k ≤ 64) (q : ∀ t, (t = true ↔ a = b) → P (.bl t) st) : (cmpO .Eq a b st).W P := by
  obtain ⟨t, h1, h2⟩ := eq_pl (st := st) ha hb hk
  exact w_eq h1 (q t h2)
theorem w_neP (k : Nat) (ha : plD k a = true) (hb : plD k b = true) (hk : k ≤ 64) (q : ∀ t, (t = true ↔ a = b) → P (.bl (!t)) st) : (cmpO .NotEq a b st).W P := by
  obtain ⟨t, h1, h2⟩ := eq_pl (st := st) ha hb hk
  exact w_ne h1 (q t h2)
theorem w_eqPL {m n : Nat} {as bs : List D} (k : Nat) (h1 : st[m]? = some (.lst as)) (h2 : st[n]? = some (.lst bs)) (ha : plDs k as = true) (hb : plDs k bs = true) (hk : k ≤ 63) (q : ∀ t, (t = true ↔ as = bs) → P (.bl t) st) : (cmpO .Eq (.ref m) (.ref n) st).W P := by
  obtain ⟨t, h3, h4⟩ := eq_plL h1 h2 ha hb hk
  exact w_eq h3 (q t h4)
theorem w_nePL {m n : Nat} {as bs : List D} (k : Nat) (h1 : st[m]? = some (.lst as)) (h2 : st[n]? = some (.lst bs)) (ha : plDs k as = true) (hb : plDs k bs = true) (hk : k ≤ 63) (q : ∀ t, (t = true ↔ as = bs) → P (.bl (!t)) st) : (cmpO .NotEq (.ref m) (.ref n) st).W P := by
  obtain ⟨t, h3, h4⟩ := eq_plL h1 h2 ha hb hk
  exact w_ne h3 (q t h4)
theorem bool_of {t : Bool} {p : Prop} [Decidable p] (h : t = true ↔ p) : t = decide p := by
  cases t with
  | true => exact (decide_eq_true (h.mp rfl)).symm
  | false => exact (decide_eq_false fun q => nomatch h.mpr q).symm
def SrcIs (s : Src) (ds : List D) (st : Store) : Prop := ∀ st', Ap st st' → ∀ i, i ≤ ds.length → fetch s i st' = some ds[i]?
theorem SrcIs.ap {s : Src} {ds : List D} {st st' : Store} (h : SrcIs s ds st) (a : Ap st st') : SrcIs s ds st' := fun st2 a2 => h st2 (a.trans a2)
theorem srcIs_tup (ds : List D) (st : Store) : SrcIs (.tup ds) ds st := fun _ _ _ _ => rfl
theorem srcIs_lst {m : Nat} {ds : List D} (h : st[m]? = some (.lst ds)) : SrcIs (.lst m) ds st := fun st' a i _ => by simp only [fetch, itemsOf, a.get h]
theorem srcIs_rng (lo : Int) (n : Nat) (st : Store) : SrcIs (.rng lo n) ((List.range n).map fun i => D.int (lo + (i : Nat))) st := fun st' a i hi => by
  simp only [fetch]
  by_cases h : i < n
  · rw [if_pos h]; simp [h]
  · have : i = n := by simp at hi; omega
    subst this
    rw [if_neg h]; simp
theorem srcIs_str (s : List Nat) (st : Store) : SrcIs (.str s) (s.map fun c => D.str [c]) st := fun st' a i hi => by
  simp only [fetch, List.getElem?_map]
  cases s[i]? <;> rfl
theorem lc_ap {Γ : Sem} {tg : Tg} {own : List Nat} {cs : List E} {e : E} {env : EnvD} {s : Src} {ds : List D} {n : Nat} {R : D → Store → Prop} (hs : SrcIs s ds st) (hn : n = ds.length) (hl : ds.length ≤ SL) (f : D → Option D)
    (h : ∀ d ∈ ds, ∀ st', Ap st st' → (lcT Γ tg own cs e env d st').W fun o s1 => o = f d ∧ Ap st' s1) (fin : ∀ st', Ap st st' → st'[st.length]? = some (.lst (ds.filterMap f)) → R (.ref st.length) st') :
    (lcLoop st.length s (lcT Γ tg own cs e env) (n + 1) 0 (st ++ [.lst []])).W R := by
  subst hn
  refine lc_W (n := ds.length) (fun i acc st' => acc = (ds.take i).filterMap f ∧ Ap st st') ⟨rfl, Ap.app _ _⟩ (get_app _ _) ?_ ?_
  · rintro i acc st' hi ⟨rfl, ha⟩ hc
    have hx : ds[i]? = some ds[i] := by simp [hi]
    refine ⟨ds[i], by rw [hs st' ha i (by omega), hx], ?_⟩
    refine W_mono (h ds[i] (List.getElem_mem hi) st' ha) fun o s1 ⟨ho, h1⟩ => ?_
    have hm : st.length < st'.length := lt_of_get hc
    refine ⟨h1.get hc, ?_⟩
    subst ho
    have e : ds.take (i + 1) = ds.take i ++ [ds[i]] := by rw [List.take_succ, hx]; rfl
    cases hf : f ds[i] with
    | none => exact ⟨by rw [e, List.filterMap_append]; simp [hf], ha.trans h1⟩
    | some y =>
      refine ⟨?_, by rw [e, List.filterMap_append]; simp [hf], (ha.trans h1).set (Nat.le_refl _)⟩
      have := List.length_filterMap_le f (ds.take i)
      rw [List.length_take] at this
      omega
  · rintro acc st' ⟨rfl, ha⟩ hc
    refine ⟨by rw [hs st' ha _ (Nat.le_refl _)]; simp, fin st' ha ?_⟩
    rw [hc, List.take_length]
theorem for_ap {s : Src} {ds : List D} {tg : Tg} {b : EnvD → Store → OS} {env : EnvD} {n : Nat} {N : EnvD → Store → Prop} {R : D → Store → Prop} (hs : SrcIs s ds st) (hn : n = ds.length) (I : Nat → EnvD → Prop) (h0 : I 0 env)
    (step : ∀ i d env st', i < ds.length → ds[i]? = some d → I i env → Ap st st' → ∃ env1, put tg d env = some env1 ∧ (b env1 st').W (fun e s' => I (i + 1) e ∧ Ap st' s') R) (fin : ∀ env st', I ds.length env → Ap st st' → N env st') :
    (forLoop s tg b (n + 1) 0 env st).W N R := by
  subst hn
  refine for_W (n := ds.length) (fun i env st' => I i env ∧ Ap st st') ⟨h0, Ap.refl _⟩ ?_ ?_
  · rintro i env st' hi ⟨hI, ha⟩
    have hx : ds[i]? = some ds[i] := by simp [hi]
    obtain ⟨env1, h1, h2⟩ := step i ds[i] env st' hi hx hI ha
    exact ⟨ds[i], env1, by rw [hs st' ha i (by omega), hx], h1, WS_mono h2 (fun e s' ⟨q1, q2⟩ => ⟨q1, ha.trans q2⟩) fun _ _ q => q⟩
  · rintro env st' ⟨hI, ha⟩
    exact ⟨by rw [hs st' ha _ (Nat.le_refl _)]; simp, fin env st' hI ha⟩
theorem w_tupT {ds : List D} (q : P (.tup ds) st) : (blt .tuple [.tup ds] st).W P := by simp only [blt, itemsOf]; exact .ok q
theorem w_tupL {n : Nat} {ds : List D} (h : st[n]? = some (.lst ds)) (q : P (.tup ds) st) : (blt .tuple [.ref n] st).W P := by simp only [blt, itemsOf, h]; exact .ok q
theorem w_listT {ds : List D} (q : P (.ref st.length) (st ++ [.lst ds])) : (blt .list [.tup ds] st).W P := by simp only [blt, itemsOf, alloc]; exact .ok q
theorem w_listL {n : Nat} {ds : List D} (h : st[n]? = some (.lst ds)) (q : P (.ref st.length) (st ++ [.lst ds])) : (blt .list [.ref n] st).W P := by simp only [blt, itemsOf, h, alloc]; exact .ok q
theorem w_catT {xs ys : List D} (hl : xs.length + ys.length ≤ SL) (q : P (.tup (xs ++ ys)) st) : (op2 .Add (.tup xs) (.tup ys) st).W P := by
  simp only [op2, catOk, decide_eq_true_eq, if_pos hl]; exact .ok q
theorem w_slcT {ds : List D} {l u : Option Int} (q : P (.tup (cut ds l u)) st) : (slcB (.tup ds) l u st).W P := by simp only [slcB]; exact .ok q
theorem w_minL {n : Nat} {i : Int} {is : List Int} (h : st[n]? = some (.lst ((i :: is).map D.int))) (q : P (.int (minI is i)) st) : (blt .min [.ref n] st).W P := by
  simp only [blt, itemsOf, h, ints_map]; exact .ok q
theorem w_gtT {s t : List D} {x y : List Int} (h1 : s = x.map D.int) (h2 : t = y.map D.int) (q : P (.bl (HT.lexLt y x)) st) : (cmpO .Gt (.tup s) (.tup t) st).W P := by
  subst h1; subst h2
  simp only [cmpO, cmpD, ints_map]; exact .ok q
theorem w_reprB {b : Bool} (q : P (.str (if b then [84, 114, 117, 101] else [70, 97, 108, 115, 101])) st) : (blt .repr [.bl b] st).W P := .ok q
def isD (a : D) (t : String) : Bool := match a with
  | .non => "NoneType" == t
  | .bl _ => "bool" == t || t == "int"
  | .int _ => "int" == t
  | .str _ => "str" == t
  | .tup _ => "tuple" == t
  | _ => false
def vD : D → Bool
  | .ref _ => false
  | .gl _ => false
  | .ty _ => false
  | _ => true
theorem w_isV {a : D} {t : String} (h : vD a = true) (hk : tyKnown t = true) (q : P (.bl (isD a t)) st) : (blt .isinst [a, .ty t] st).W P := by
  have e : isA st a t = some (isD a t) := by
    cases a <;> first | (cases h; done) | skip
    all_goals simp only [isA, tyName, hk, if_true, isD]
    all_goals simp
  simp only [blt, e]; exact .ok q
theorem w_isL {n : Nat} {ds : List D} {t : String} (h : st[n]? = some (.lst ds)) (hk : tyKnown t = true) (q : P (.bl ("list" == t)) st) : (blt .isinst [.ref n, .ty t] st).W P := by
  have e : isA st (.ref n) t = some ("list" == t) := by
    simp only [isA, tyName, h, hk, if_true]
    simp
  simp only [blt, e]; exact .ok q
theorem cut_all {α : Type} {xs : List α} {i : Int} (h : 0 ≤ i) : cut xs (some i) none = xs.drop i.toNat := by
  unfold cut HT.sIx
  simp only [if_neg (by omega : ¬ i < 0)]
  rw [List.take_of_length_le (by simp)]
  by_cases q : i.toNat ≤ xs.length
  · rw [Nat.min_eq_left q]
  · rw [Nat.min_eq_right (by omega), List.drop_length, List.drop_eq_nil_of_le (by omega)]
theorem cut_take {α : Type} {xs : List α} {i : Int} (h : 0 ≤ i) : cut xs none (some i) = xs.take i.toNat := by
  unfold cut HT.sIx
  simp only [if_neg (by omega : ¬ i < 0), List.drop_zero, Nat.sub_zero]
  rw [← List.take_take, List.take_length]
theorem cut_one {α : Type} {xs : List α} {i : Nat} : cut xs (some (i : Int)) (some ((i : Int) + 1)) = (xs.drop i).take 1 := by
  unfold cut HT.sIx
  simp only [if_neg (by omega : ¬ (i : Int) < 0), if_neg (by omega : ¬ (i : Int) + 1 < 0)]
  have e1 : ((i : Int)).toNat = i := by omega
  have e2 : ((i : Int) + 1).toNat = i + 1 := by omega
  rw [e1, e2]
  by_cases q : i < xs.length
  · rw [Nat.min_eq_left (by omega), Nat.min_eq_left (by omega)]
    congr 1
    omega
  · rw [Nat.min_eq_right (by omega), Nat.min_eq_right (by omega), List.drop_length, List.drop_eq_nil_of_le (by omega)]
    simp
theorem atI_nat {α : Type} {xs : List α} {i : Nat} {a : α} (h : xs[i]? = some a) : itemAt xs (i : Int) = some a := by
  have hl := (List.getElem?_eq_some_iff.mp h).1
  show L2.atI xs i = _
  unfold L2.atI L2.ixN
  rw [if_pos (by omega), if_pos (by omega)]
  simpa using h
theorem atI_last {α : Type} {xs : List α} {a : α} (h : xs.getLast? = some a) : itemAt xs (-1) = some a := by
  have hn : xs ≠ [] := fun z => by rw [z] at h; cases h
  have hp : 0 < xs.length := List.length_pos_iff.mpr hn
  show L2.atI xs (-1) = _
  unfold L2.atI L2.ixN
  rw [if_neg (by omega), if_pos (by omega)]
  rw [List.getLast?_eq_getElem?] at h
  have e : ((xs.length : Int) + -1).toNat = xs.length - 1 := by omega
  show xs[((-1 : Int) + xs.length).toNat]? = some a
  have e : ((-1 : Int) + xs.length).toNat = xs.length - 1 := by omega
  rw [e]; exact h
end
section
variable {P : D → Store → Prop} {PL : List D → Store → Prop} {N : EnvD → Store → Prop} {R : D → Store → Prop} {st : Store} {env : EnvD} {Γ : Sem} {a b c e o : E} {es : List E} {sa sb ss : List S} {s : S} {d x y : D}
theorem wE_neg (h : (evE Γ a env st).W fun x s1 => ∃ i, x = .int i ∧ P (.int (-i)) s1) : (evE Γ (.neg a) env st).W P := by
  simp only [evE, W_bind]
  refine W_mono h fun x s1 ⟨i, h1, h2⟩ => ?_
  subst h1
  exact .ok h2
theorem wE_lzip (h : (evEs Γ es env st).W fun ds s1 => (lzipO ds s1).W P) : (evE Γ (.lzip es) env st).W P := by
  simp only [evE, W_bind]; exact h
theorem w_lzipT {xs ys : List D} (q : P (.ref st.length) (st ++ [.lst (List.zipWith (fun x y => .tup [x, y]) xs ys)])) : (lzipO [.tup xs, .tup ys] st).W P := by
  simp only [lzipO, alloc]; exact .ok q
theorem wE_lstX {bs : List Bool} (h : (evXs Γ es bs env st).W fun ds s1 => ds.length ≤ SL ∧ P (.ref s1.length) (s1 ++ [.lst ds])) : (evE Γ (.lstX es bs) env st).W P := by
  simp only [evE, W_bind]
  refine W_mono h fun ds s1 ⟨h1, h2⟩ => ?_
  rw [if_pos h1]; exact .ok h2
theorem wE_tupX {bs : List Bool} (h : (evXs Γ es bs env st).W fun ds s1 => ds.length ≤ SL ∧ P (.tup ds) s1) : (evE Γ (.tupX es bs) env st).W P := by
  simp only [evE, W_bind]
  refine W_mono h fun ds s1 ⟨h1, h2⟩ => ?_
  rw [if_pos h1]; exact .ok h2
theorem wXs_nil (h : PL [] st) : (evXs Γ [] [] env st).W PL := by simp only [evXs]; exact .ok h
theorem wXs_cons {bs : List Bool} (h : (evE Γ e env st).W fun d s1 => (evXs Γ es bs env s1).W fun ds s2 => PL (d :: ds) s2) : (evXs Γ (e :: es) (false :: bs) env st).W PL := by
  simp only [evXs, W_bind]
  refine W_mono h fun d s1 h => ?_
  simp only [spl, Bool.false_eq_true, if_false, W_bind, W_ok]
  exact h
theorem wXs_star {bs : List Bool} (h : (evE Γ e env st).W fun d s1 => ∃ xs, itemsOf s1 d = some xs ∧ (evXs Γ es bs env s1).W fun ds s2 => PL (xs ++ ds) s2) : (evXs Γ (e :: es) (true :: bs) env st).W PL := by
  simp only [evXs, W_bind]
  refine W_mono h fun d s1 ⟨xs, h1, h⟩ => ?_
  simp only [spl, if_true, h1, W_bind, W_ok]
  exact h
theorem wS_whil (h : (whileLoop (fun env st => truthO (evE Γ c env st)) (evSs Γ sb) WL env st).W N R) : (evS Γ (.whil c sb) env st).W N R := by
  simp only [evS]; exact h
theorem while_W {cc : EnvD → Store → Out Bool} {bb : EnvD → Store → OS} (I : EnvD → Store → Prop) (μ : EnvD → Nat) (h0 : I env st) (hm : μ env < 1000000)
    (step : ∀ env st, I env st → (cc env st).W fun t s1 => (t = true → (bb env s1).W (fun e s2 => I e s2 ∧ μ e < μ env) R) ∧ (t = false → N env s1)) :
    (whileLoop cc bb WL env st).W N R := by
  have key : ∀ (m : Nat) (env : EnvD) (st : Store), I env st → μ env < m → (whileLoop cc bb m env st).W N R := by
    intro m
    induction m with
    | zero => intro env st _ h; omega
    | succ m ih =>
      intro env st hI hμ
      unfold whileLoop
      rw [WS_of]
      refine W_mono (step env st hI) fun t s1 ⟨h1, h2⟩ => ?_
      cases t with
      | false => rw [if_neg Bool.false_ne_true]; exact .next (h2 rfl)
      | true =>
        rw [if_pos rfl]
        rcases WS_out (h1 rfl) with ⟨e, s', q, h3, h4⟩ | ⟨d, s', q, h3⟩
        · rw [q]; exact ih e s' h3 (by omega)
        · rw [q]; exact .ret h3
  exact key WL env st h0 hm
theorem wSs_if (B : Bool) (hc : (truthO (evE Γ c env st)).W fun t s1 => t = B ∧ s1 = st) (h1 : B = true → (evSs Γ sa env st).W (fun e s' => (evSs Γ ss e s').W N R) R) (h2 : B = false → (evSs Γ sb env st).W (fun e s' => (evSs Γ ss e s').W N R) R) :
    (evSs Γ (.ifs c sa sb :: ss) env st).W N R := by
  refine wSs_cons (wS_if (W_mono hc fun t s1 ⟨ht, hs⟩ => ?_))
  subst ht; subst hs
  exact ⟨h1, h2⟩
theorem wSs_ifA (B : Bool) (hc : (truthO (evE Γ c env st)).W fun t s1 => t = B ∧ Ap st s1) (h1 : ∀ s1, Ap st s1 → B = true → (evSs Γ sa env s1).W (fun e s' => (evSs Γ ss e s').W N R) R) (h2 : ∀ s1, Ap st s1 → B = false → (evSs Γ sb env s1).W (fun e s' => (evSs Γ ss e s').W N R) R) :
    (evSs Γ (.ifs c sa sb :: ss) env st).W N R := by
  refine wSs_cons (wS_if (W_mono hc fun t s1 ⟨ht, hs⟩ => ?_))
  subst ht
  exact ⟨h1 s1 hs, h2 s1 hs⟩
theorem wSs_guard (B : Bool) (hc : (truthO (evE Γ c env st)).W fun t s1 => t = B ∧ s1 = st) (h1 : B = true → (evE Γ e env st).W R) (h2 : B = false → (evSs Γ ss env st).W N R) :
    (evSs Γ (.ifs c [.ret e] [] :: ss) env st).W N R :=
  wSs_if B hc (fun h => wSs_cons (wS_ret (h1 h))) fun h => wSs_nil (h2 h)
theorem wSs_guardA (B : Bool) (hc : (truthO (evE Γ c env st)).W fun t s1 => t = B ∧ Ap st s1) (h1 : ∀ s1, Ap st s1 → B = true → (evE Γ e env s1).W R) (h2 : ∀ s1, Ap st s1 → B = false → (evSs Γ ss env s1).W N R) :
    (evSs Γ (.ifs c [.ret e] [] :: ss) env st).W N R :=
  wSs_ifA B hc (fun s1 a h => wSs_cons (wS_ret (h1 s1 a h))) fun s1 a h => wSs_nil (h2 s1 a h)
end
def ibD : D → Bool
  | .int _ => true
  | .bl _ => true
  | _ => false
theorem ib_py (g : Nat → Option PyData) : ∀ {ds : List D}, (∀ d ∈ ds, ibD d = true) → ∃ ps, pyFs g ds = some ps ∧ ps.length = ds.length ∧ PyData.canLayAll0 ps = true ∧ PyData.depthAll ps = 0
  | [], _ => ⟨[], rfl, rfl, by simp [PyData.canLayAll0], by simp [PyData.depthAll]⟩
  | d :: ds, h => by
    obtain ⟨ps, h1, h2, h3, h4⟩ := ib_py g fun d hd => h d (List.mem_cons_of_mem _ hd)
    have hd := h d List.mem_cons_self
    cases d <;> simp [ibD] at hd
    · exact ⟨_, by simp only [pyFs, pyF, h1]; rfl, by simp [h2], by simp [PyData.canLayAll0, PyData.canLay0, h3], by simp [PyData.depthAll, PyData.depth, h4]⟩
    · exact ⟨_, by simp only [pyFs, pyF, h1]; rfl, by simp [h2], by simp [PyData.canLayAll0, PyData.canLay0, h3], by simp [PyData.depthAll, PyData.depth, h4]⟩
theorem eq_nil {m n : Nat} {st : Store} {xs : List D} (h1 : st[m]? = some (.lst xs)) (h2 : st[n]? = some (.lst [])) (h : ∀ d ∈ xs, ibD d = true) : eqD st (.ref m) (.ref n) = some (decide (xs = [])) := by
  obtain ⟨ps, e1, e2, e3, e4⟩ := ib_py (pyN st 7) h
  have e5 : pyFs (pyN st 7) [] = some [] := rfl
  have t1 : toPy st (.ref m) = some (.list ps) := by
    show (match st[m]? with | some (.lst ds) => pyL (pyN st 7) ds | some (.fro ds) => pyL (pyN st 7) ds | _ => none) = _
    rw [h1]
    simp only [pyL, e1]
  have t2 : toPy st (.ref n) = some (.list []) := by
    show (match st[n]? with | some (.lst ds) => pyL (pyN st 7) ds | some (.fro ds) => pyL (pyN st 7) ds | _ => none) = _
    rw [h2]
    simp only [pyL, e5]
  simp only [eqD, t1, t2]
  rw [if_pos]
  · have : PyData.eqv (.list ps) (.list []) = decide (xs = []) := by
      cases xs with
      | nil =>
        have : ps = [] := by simpa using e2
        subst this
        simp [PyData.eqv, PyData.eqvAll]
      | cons x xs =>
        cases ps with
        | nil => simp at e2
        | cons p ps => simp [PyData.eqv, PyData.eqvAll]
    rw [this]
  · simp [SeqAt.shaped, PyData.canLay0, PyData.depth, e3, e4, PyData.canLayAll0, PyData.depthAll]
theorem w_neNil {m n : Nat} {st : Store} {P : D → Store → Prop} {xs : List D} (h1 : st[m]? = some (.lst xs)) (h2 : st[n]? = some (.lst [])) (h : ∀ d ∈ xs, ibD d = true) (q : P (.bl (!decide (xs = []))) st) : (cmpO .NotEq (.ref m) (.ref n) st).W P := w_ne (eq_nil h1 h2 h) q
theorem w_eqNil {m n : Nat} {st : Store} {P : D → Store → Prop} {xs : List D} (h1 : st[m]? = some (.lst xs)) (h2 : st[n]? = some (.lst [])) (h : ∀ d ∈ xs, ibD d = true) (q : P (.bl (decide (xs = []))) st) : (cmpO .Eq (.ref m) (.ref n) st).W P := w_eq (eq_nil h1 h2 h) q
theorem g_items {st : Store} {n : Nat} {ds : List D} (h : st[n]? = some (.lst ds)) : itemsOf st (.ref n) = some ds := by simp only [itemsOf, h]
theorem rng_item {lo : Int} {n i : Nat} {d : D} (h : ((List.range n).map fun i => D.int (lo + (i : Nat)))[i]? = some d) : d = .int (lo + i) ∧ i < n := by
  rw [List.getElem?_map] at h
  by_cases hi : i < n
  · rw [List.getElem?_eq_getElem (by simpa using hi)] at h
    simp at h
    exact ⟨h.symm, hi⟩
  · rw [List.getElem?_eq_none (by simpa using hi)] at h
    cases h
theorem w_appendE {Γ : Sem} {o e : E} {env : EnvD} {st : Store} {P : D → Store → Prop} (h : (evE Γ o env st).W fun x s1 => ∃ n xs, x = .ref n ∧ s1[n]? = some (.lst xs) ∧ (evE Γ e env s1).W fun d s2 => ∃ ys, s2[n]? = some (.lst ys) ∧ ys.length < SL ∧ P .non (s2.set n (.lst (ys ++ [d])))) : (evE Γ (.met .append o [e]) env st).W P := by
  refine wE_met (W_mono h fun x s1 ⟨n, xs, hx, hc, h⟩ => ?_)
  subst hx
  refine ⟨by simp only [metIs, hc], wEs_cons (W_mono h fun d s2 ⟨ys, hc2, hl, q⟩ => wEs_nil ?_)⟩
  exact w_append hc2 hl q
end RX

namespace RX
section
variable {Γ : Sem} {a b c e o : E} {es src src1 : List E} {env : EnvD} {st : Store} {P : D → Store → Prop} {PL : List D → Store → Prop} {N : EnvD → Store → Prop} {R : D → Store → Prop} {d x y : D} {ws : List (Nat × Nat)} {cs : List Nat}
theorem W_calm {α : Type} {x : Out α} {P : α → Store → Prop} (h : x.W P) : x.calm.W P := by
  obtain ⟨a, s, rfl, hp⟩ := W_out h
  exact .ok hp
theorem g_ins {n k : Nat} {fs : List (Nat × D)} (h : st[n]? = some (.ins k fs)) : insAt st (.ref n) = some (k, fs) := by simp only [insAt, h]
theorem g_insN {n : Nat} {ds : List D} (h : st[n]? = some (.lst ds)) : insAt st (.ref n) = none := by simp only [insAt, h]
theorem g_insF {n : Nat} {ds : List D} (h : st[n]? = some (.fro ds)) : insAt st (.ref n) = none := by simp only [insAt, h]
theorem wE_attrF {f : Nat} (h : (evE Γ o env st).W fun x s1 => ∃ k fs d, insAt s1 x = some (k, fs) ∧ ws.lookup k = none ∧ cs.contains k = true ∧ fs.lookup f = some d ∧ P d s1) : (evE Γ (.attr ws cs f o) env st).W P := by
  simp only [evE, W_bind]
  refine W_mono h fun x s1 ⟨k, fs, d, h1, h2, h3, h4, q⟩ => ?_
  simp only [attrO, h1, h2, h3, h4, if_true, ofOpt]
  exact .ok q
theorem wE_attrP {f : Nat} (h : (evE Γ o env st).W fun x s1 => ∃ k fs j, insAt s1 x = some (k, fs) ∧ ws.lookup k = some j ∧ (Γ.call j [x] s1).W P) : (evE Γ (.attr ws cs f o) env st).W P := by
  simp only [evE, W_bind]
  refine W_mono h fun x s1 ⟨k, fs, j, h1, h2, q⟩ => ?_
  simp only [attrO, h1, h2]
  exact W_calm q
theorem g_meth {m n k j : Nat} {fs : List (Nat × D)} (h : st[n]? = some (.ins k fs)) (h2 : fs.lookup m = none) (h3 : ws.lookup k = some j) : methO ws m (.ref n) st = some j := by
  simp only [methO, g_ins h, h2, h3]
theorem wE_meth {m : Nat} (h : (evE Γ o env st).W fun x s1 => ∃ j, methO ws m x s1 = some j ∧ (evEs Γ es env s1).W fun ds s2 => (Γ.call j (x :: ds) s2).W P) : (evE Γ (.meth ws m o es) env st).W P := by
  simp only [evE, W_bind]
  refine W_mono h fun x s1 ⟨j, h1, q⟩ => ?_
  simp only [h1, W_bind]
  exact q
theorem wE_make {k j : Nat} (h : (evEs Γ es env st).W fun ds s1 => (Γ.call j (.ref s1.length :: ds) (s1 ++ [.ins k []])).W fun d s2 => d = .non ∧ P (.ref s1.length) s2) : (evE Γ (.make k j es) env st).W P := by
  simp only [evE, W_bind]
  refine W_mono h fun ds s1 q => ?_
  unfold madeO
  rw [W_bind]
  refine W_mono q fun d s2 ⟨e, q⟩ => ?_
  subst e
  exact .ok q
theorem wE_callv {i j : Nat} (hj : env[i]? = some (some (.gl j))) (h : (evEs Γ es env st).W fun ds s1 => (Γ.call j ds s1).W P) : (evE Γ (.callv i es) env st).W P := by
  simp only [evE, hj, W_bind]
  exact W_calm h
theorem wE_rev (h : (evE Γ a env st).W fun x s1 => ∃ n ds, x = .ref n ∧ itemsOf s1 (.ref n) = some ds ∧ P (.ref s1.length) (s1 ++ [.lst ds.reverse])) : (evE Γ (.rev a) env st).W P := by
  simp only [evE, W_bind]
  refine W_mono h fun x s1 ⟨n, ds, e, h1, q⟩ => ?_
  subst e
  simp only [revO, h1, alloc]
  exact .ok q
theorem wE_lenO (h : (evE Γ a env st).W fun x s1 => (lenOO Γ.call ws x s1).W P) : (evE Γ (.lenO ws a) env st).W P := by
  simp only [evE, W_bind]; exact h
variable {call : Nat → List D → Store → Out D}
theorem w_lenOS {s : List Nat} (h : s.length ≤ SL) (q : P (.int s.length) st) : (lenOO call ws (.str s) st).W P := w_lenS h q
theorem w_lenOT {ds : List D} (q : P (.int ds.length) st) : (lenOO call ws (.tup ds) st).W P := w_lenT q
theorem w_lenOL {n : Nat} {ds : List D} (h : st[n]? = some (.lst ds)) (q : P (.int ds.length) st) : (lenOO call ws (.ref n) st).W P := by
  simp only [lenOO, g_insN h]; exact w_lenL h q
theorem w_lenOF {n : Nat} {ds : List D} (h : st[n]? = some (.fro ds)) (q : P (.int ds.length) st) : (lenOO call ws (.ref n) st).W P := by
  simp only [lenOO, g_insF h]; exact w_lenF h q
theorem w_lenOI {n k j : Nat} {fs : List (Nat × D)} (h : st[n]? = some (.ins k fs)) (h2 : ws.lookup k = some j) (q : (call j [.ref n] st).W fun d s => ∃ i, d = .int i ∧ 0 ≤ i ∧ i < 2 ^ 63 ∧ P (.int i) s) : (lenOO call ws (.ref n) st).W P := by
  simp only [lenOO, g_ins h, h2, lenI, W_bind]
  refine W_mono (W_calm q) fun d s ⟨i, e, h0, h1, q⟩ => ?_
  subst e
  simp only [if_pos (And.intro h0 h1)]
  exact .ok q
theorem wE_lrng (h : (evEs Γ es env st).W fun ds s1 => ∃ j : Int, ds = [.int j] ∧ 0 ≤ j ∧ j ≤ SL ∧ P (.ref s1.length) (s1 ++ [.lst ((List.range j.toNat).map fun i => .int (i : Nat))])) : (evE Γ (.lrng es) env st).W P := by
  simp only [evE, W_bind]
  refine W_mono h fun ds s1 ⟨j, e, h0, h1, q⟩ => ?_
  subst e
  simp only [lrngO, if_pos (And.intro h0 h1), alloc]
  exact .ok q
theorem wE_isO {k : Nat} (h : (evE Γ a env st).W fun x s1 => ∃ fs, insAt s1 x = some (k, fs) ∧ P (.bl true) s1) : (evE Γ (.isO a k) env st).W P := by
  simp only [evE, W_bind]
  refine W_mono h fun x s1 ⟨fs, h1, q⟩ => ?_
  simp only [isOO, h1, if_true]
  exact .ok q
theorem g_setF {f n k : Nat} {fs : List (Nat × D)} (h : st[n]? = some (.ins k fs)) (h2 : cs.contains k = true) (h3 : fs.length < 1000) : setFO cs f (.ref n) d st = some (st.set n (.ins k (putN f d fs))) := by
  simp only [setFO, h, h2, Bool.true_and, decide_eq_true h3, if_true]
theorem wS_setF {f : Nat} (h : (evE Γ e env st).W fun d s1 => (evE Γ o env s1).W fun x s2 => ∃ s3, setFO cs f x d s2 = some s3 ∧ N env s3) : (evS Γ (.setF cs f o e) env st).W N R := by
  simp only [evS, WS_of]
  refine W_mono h fun d s1 h1 => ?_
  refine W_mono h1 fun x s2 ⟨s3, h2, q⟩ => ?_
  simp only [h2]
  exact .next q
theorem w_extend {n m : Nat} {xs ys : List D} (h : st[n]? = some (.lst xs)) (h2 : st[m]? = some (.lst ys)) (hl : xs.length + ys.length ≤ SL) (q : P .non (st.set n (.lst (xs ++ ys)))) : (met .extend (.ref n) [.ref m] st).W P := by
  simp only [met, h, h2, if_pos hl]; exact .ok q
theorem wE_metE (h : (evE Γ o env st).W fun x s1 => ∃ n xs, x = .ref n ∧ s1[n]? = some (.lst xs) ∧ (evE Γ e env s1).W fun d s2 => ∃ m ys zs, d = .ref m ∧ s2[n]? = some (.lst ys) ∧ s2[m]? = some (.lst zs) ∧ ys.length + zs.length ≤ SL ∧ P .non (s2.set n (.lst (ys ++ zs)))) : (evE Γ (.met .extend o [e]) env st).W P := by
  refine wE_met (W_mono h fun x s1 ⟨n, xs, e1, h1, q⟩ => ?_)
  subst e1
  refine ⟨by simp only [metIs, h1], wEs_cons (W_mono q fun d s2 ⟨m, ys, zs, e2, h2, h3, hl, q2⟩ => wEs_nil ?_)⟩
  subst e2
  exact w_extend h2 h3 hl q2
theorem g_rngD {i j : Int} (h : -1000000 ≤ i ∧ i ≤ 1000000) (h2 : -1000000 ≤ j ∧ j ≤ 1000000) : srcOf .rng [.int i, .int j, .int (-1)] st = some (.rngD i (i - j).toNat, (i - j).toNat) := by
  have : -(2 ^ 62) ≤ i ∧ i < 2 ^ 62 ∧ -(2 ^ 62) ≤ j ∧ j < 2 ^ 62 ∧ True := by refine ⟨?_, ?_, ?_, ?_, trivial⟩ <;> omega
  simp only [srcOf, if_pos this]
theorem f_rngD {lo : Int} {n i : Nat} (h : i < n) : fetch (.rngD lo n) i st = some (some (.int (lo - i))) := by
  simp only [fetch, if_pos h]
  congr 3
  omega
theorem f_rngDE {lo : Int} {n : Nat} : fetch (.rngD lo n) n st = some none := by simp [fetch]
theorem lcIn_tup {n : Nat} {ds acc : List D} {turn : D → Store → Out D} {P : Unit → Store → Prop} : ∀ (k i : Nat) (acc : List D) (st : Store), (∀ d st, turn d st = .ok d st) → k = ds.length - i → i ≤ ds.length → st[n]? = some (.lst acc) → acc.length + (ds.length - i) ≤ SL → P () (st.set n (.lst (acc ++ ds.drop i))) → (lcIn n (.tup ds) turn (k + 1) i st).W P := by
  intro k
  induction k with
  | zero =>
    intro i acc st ht hk hi hc hl q
    have : ds.drop i = [] := List.drop_eq_nil_of_le (by omega)
    have hn : ds[i]? = none := List.getElem?_eq_none (by omega)
    unfold lcIn
    simp only [fetch, hn]
    rw [this, List.append_nil] at q
    have e : st.set n (.lst acc) = st := by
      apply List.ext_getElem?
      intro j
      by_cases hj : j = n
      · subst hj
        rw [List.getElem?_set_self (List.getElem?_eq_some_iff.mp hc).1, hc]
      · rw [List.getElem?_set_ne (Ne.symm hj)]
    rw [e] at q
    exact .ok q
  | succ k ih =>
    intro i acc st ht hk hi hc hl q
    have hlt : i < ds.length := by omega
    have hn : ds[i]? = some ds[i] := List.getElem?_eq_getElem hlt
    unfold lcIn
    simp only [fetch, hn, ht, hc, if_pos (show acc.length < SL by omega)]
    have hnl := (List.getElem?_eq_some_iff.mp hc).1
    refine ih (i + 1) (acc ++ [ds[i]]) _ ht (by omega) (by omega) (by rw [List.getElem?_set_self hnl]) (by simp; omega) ?_
    rw [List.set_set, List.append_assoc]
    rw [List.drop_eq_getElem_cons hlt] at q
    exact q
theorem lcOut_tup {n : Nat} {dss : List (List D)} {turn : D → Store → Out Unit} {P : D → Store → Prop} : ∀ (k i : Nat) (acc : List D) (st : Store), (∀ (ds : List D) (acc : List D) st (Q : Unit → Store → Prop), st[n]? = some (.lst acc) → acc.length + ds.length ≤ SL → Q () (st.set n (.lst (acc ++ ds))) → (turn (.tup ds) st).W Q) → k = dss.length - i → i ≤ dss.length → st[n]? = some (.lst acc) → acc.length + (dss.drop i).flatten.length ≤ SL → P (.ref n) (st.set n (.lst (acc ++ (dss.drop i).flatten))) →
    (lcOut n (.tup (dss.map D.tup)) turn (k + 1) i st).W P := by
  intro k
  induction k with
  | zero =>
    intro i acc st ht hk hi hc hl q
    have h0 : dss.drop i = [] := List.drop_eq_nil_of_le (by omega)
    have hn : (dss.map D.tup)[i]? = none := List.getElem?_eq_none (by simp; omega)
    unfold lcOut
    simp only [fetch, hn]
    rw [h0, List.flatten_nil, List.append_nil] at q
    have e : st.set n (.lst acc) = st := by
      apply List.ext_getElem?
      intro j
      by_cases hj : j = n
      · subst hj
        rw [List.getElem?_set_self (List.getElem?_eq_some_iff.mp hc).1, hc]
      · rw [List.getElem?_set_ne (Ne.symm hj)]
    rw [e] at q
    exact .ok q
  | succ k ih =>
    intro i acc st ht hk hi hc hl q
    have hlt : i < dss.length := by omega
    have hn : (dss.map D.tup)[i]? = some (.tup dss[i]) := by rw [List.getElem?_map, List.getElem?_eq_getElem hlt]; rfl
    have hnl := (List.getElem?_eq_some_iff.mp hc).1
    rw [List.drop_eq_getElem_cons hlt, List.flatten_cons] at q hl
    rw [List.length_append] at hl
    unfold lcOut
    simp only [fetch, hn]
    have step := ht dss[i] acc st (fun _ s => s = st.set n (.lst (acc ++ dss[i]))) hc (by omega) rfl
    obtain ⟨u, s1, e1, e2⟩ := W_out step
    rw [e1]
    simp only
    subst e2
    refine ih (i + 1) (acc ++ dss[i]) _ ht (by omega) (by omega) (by rw [List.getElem?_set_self hnl]) (by rw [List.length_append]; omega) ?_
    rw [List.set_set, List.append_assoc]
    exact q
theorem wE_flat {u v : Nat} {own : List Nat} (huv : (u == v) = false) (hn : v < env.length) (hu : u < env.length) (h : (evE Γ a env st).W fun x s1 => ∃ dss : List (List D), x = .tup (dss.map D.tup) ∧ dss.flatten.length ≤ SL ∧ P (.ref s1.length) (s1 ++ [.lst dss.flatten])) :
    (evE Γ (.lc2 [a] (.nm u) [.var u] (.nm v) own (.var v)) env st).W P := by
  simp only [evE, srcO, evEs, W_bind, W_ok]
  refine W_mono h fun x s1 ⟨dss, e, hl, q⟩ => ?_
  subst e
  simp only [srcOf, ofOpt, W_ok]
  have huv' : u ≠ v := by simpa using huv
  have lenW : ∀ (own : List Nat) (env : EnvD), (wipeE env own).length = env.length := by
    intro own
    induction own with
    | nil => intro env; rfl
    | cons i r ih => intro env; simp [wipeE, ih]
  refine lcOut_tup (dss := dss) (dss.map D.tup).length 0 [] _ (fun ds acc st Q hc hl2 hq => ?_) (by simp) (Nat.zero_le _) (by simp) (by simpa using hl) ?_
  · have h1 : u < (wipeE env own).length := by rw [lenW]; exact hu
    simp only [put, if_pos h1, evE, List.getElem?_set_self h1, Out.bind, srcOf, ofOpt]
    refine lcIn_tup (acc := acc) ds.length 0 acc st (fun d st => ?_) (by omega) (Nat.zero_le _) hc (by omega) (by simpa using hq)
    have h2 : v < (wipeE ((wipeE env own).set u (some (D.tup ds))) (tgIx (.nm v))).length := by rw [lenW]; simp [lenW, hn]
    simp only [if_pos h2, List.getElem?_set_self h2]
  · have : (s1 ++ [Cell.lst []]).set s1.length (.lst ([] ++ (dss.drop 0).flatten)) = s1 ++ [.lst dss.flatten] := by simp
    rw [this]
    exact q
def oneO (r : Nat) (ws : List (Nat × Nat)) : Fn := ⟨2, 2, [(.ret (.sub (.var 1) (.call r [(.var 0), (.lenO ws (.var 1))])))]⟩
theorem oneO_W {F : Nat → Option Fn} {q r k n m b : Nat} {st : Store} {ds : List D} (hF : F q = some (oneO r ws)) (hR : F r = some rollT) (D0 : DS st n b) (hb : b < 1152921504606846976) (hm : st[m]? = some (.lst ds)) (hmn : m ≠ n) (h1 : 1 ≤ ds.length) (h2 : ds.length < 1000000) :
    (callN F (k + 2) q [.ref n, .ref m] st).W fun v st' => v ∈ ds ∧ Kp n st st' ∧ DS st' n (b + 1) := by
  rw [W_call hF rfl]
  simp only [List.map_cons, List.map_nil, List.cons_append, List.nil_append, List.length_cons, List.length_nil, List.replicate_succ, List.replicate_zero, Nat.reduceAdd, Nat.reduceSub, oneO]
  refine wSs_cons (wS_ret (wE_sub (wE_var rfl (wE_call (wEs_cons (wE_var rfl (wEs_cons (wE_lenO (wE_var rfl (w_lenOL hm (wEs_nil ?_)))))))))))
  refine W_mono (roll_W hR D0 hb (by omega) (by omega)) fun v st' ⟨x, hv, x0, x1, hk, D1⟩ => ?_
  subst hv
  have hi : x.toNat < ds.length := by omega
  refine ⟨ds[x.toNat], g_subL (hk.get hm hmn) ?_, ?_⟩
  · show L2.atI ds x = _
    unfold L2.atI L2.ixN
    rw [if_pos x0, if_pos (by omega)]
    simp [hi]
  · exact ⟨List.getElem_mem hi, hk, D1⟩
def diceO (ws : List (Nat × Nat)) : Fn := ⟨6, 2, [
  (.asg (.nm 2) (.op2 .Add (.op2 .Mult (.cst (.int (83))) (.var 1)) (.cst (.int (59))))),
  (.ifs (.cmp .Lt (.var 1) (.lenO ws (.var 0))) [(.asg (.nm 2) (.sub (.var 0) (.var 1)))] []),
  (.asg (.nm 3) (.op2 .Mod (.blt .int [(.blt .abs [(.var 2)])]) (.op2 .Pow (.op2 .Pow (.cst (.int (10))) (.cst (.int (60)))) (.cst (.int (10)))))),
  (.asg (.nm 4) (.op2 .FloorDiv (.var 3) (.op2 .Pow (.cst (.int (10))) (.cst (.int (18)))))),
  (.asg (.nm 5) (.op2 .Add (.op2 .Add (.op2 .Add (.op2 .Mult (.op2 .Mod (.var 3) (.cst (.int (2147482811)))) (.cst (.int (60509)))) (.op2 .Mult (.cst (.int (3499))) (.var 1))) (.op2 .Mult (.cst (.int (73))) (.blt .int [(.cmp .Lt (.var 2) (.cst (.int (0))))]))) (.cst (.int (101))))),
  (.ret (.lst [(.var 4), (.op2 .Mod (.var 5) (.cst (.int (2147482801)))), (.cst (.int (0)))]))]⟩
theorem diceO_W {F : Nat → Option Fn} {r k : Nat} {st : Store} {ns : List Int} {a : Int} (hF : F r = some (diceO ws)) (hs : st[0]? = some (.fro (ns.map D.int))) (ha : 0 ≤ a) (ha2 : a < 1000000) :
    (callN F (k + 1) r [.ref 0, .int a] st).W fun v st' => ∃ n, v = .ref n ∧ n = st.length ∧ Ap st st' ∧ DS st' n 0 := by
  rw [W_call hF rfl]
  simp only [List.map_cons, List.map_nil, List.cons_append, List.nil_append, List.length_cons, List.length_nil, List.replicate_succ, List.replicate_zero, Nat.reduceAdd, Nat.reduceSub, diceO]
  refine wSs_cons (wS_asg (wE_op2 (wE_op2 (wE_cst (wE_var rfl (w_mul (mul_ok (by omega) (by omega)) (wE_cst (w_add ⟨by simp only [List.length_cons, List.length_nil]; decide, ?_⟩))))))))
  simp only [List.set_cons_zero, List.set_cons_succ]
  refine wSs_cons (wS_if (wT (wE_cmp (wE_var rfl (wE_lenO (wE_var rfl (w_lenOF hs (w_lt ⟨_, rfl, fun hh => ?_, fun hh => ?_⟩))))))))
  · have hh : a < (ns.map D.int).length := of_decide_eq_true hh
    have hl : a.toNat < (ns.map D.int).length := by omega
    have hi : itemAt (ns.map D.int) a = some (.int (ns[a.toNat]'(by simpa using hl))) := by
      show L2.atI (ns.map D.int) a = _
      unfold L2.atI L2.ixN
      rw [if_pos ha, if_pos hh]
      have : a.toNat < ns.length := by simpa using hl
      simp [this]
    refine wSs_cons (wS_asg (wE_sub (wE_var rfl (wE_var rfl ⟨_, g_subF hs hi, by simp only [List.length_cons, List.length_nil]; decide, ?_⟩))))
    simp only [List.set_cons_zero, List.set_cons_succ]
    refine wSs_nil ?_
    exact WS_mono (dice_end (ns := ns) ha ha2) (fun _ _ h => h.elim) fun _ _ h => h
  · refine wSs_nil ?_
    exact WS_mono (dice_end (ns := ns) ha ha2) (fun _ _ h => h.elim) fun _ _ h => h
theorem wE_at {f : Nat} (h : (evE Γ o env st).W fun x s1 => ∃ k fs d, insAt s1 x = some (k, fs) ∧ cs.contains k = true ∧ fs.lookup f = some d ∧ P d s1) : (evE Γ (.attr [] cs f o) env st).W P :=
  wE_attrF (W_mono h fun x s1 ⟨k, fs, d, h1, h2, h3, q⟩ => ⟨k, fs, d, h1, rfl, h2, h3, q⟩)
theorem wE_prop {f : Nat} {w : Nat × Nat} (h : (evE Γ o env st).W fun x s1 => ∃ k fs j, insAt s1 x = some (k, fs) ∧ (w :: ws).lookup k = some j ∧ (Γ.call j [x] s1).W P) : (evE Γ (.attr (w :: ws) cs f o) env st).W P := wE_attrP h
theorem wE_lenT {ds : List D} (h : (evE Γ a env st).W fun x s1 => ∃ ds, x = .tup ds ∧ P (.int ds.length) s1) : (evE Γ (.lenO ws a) env st).W P :=
  wE_lenO (W_mono h fun x s1 ⟨ds, e, q⟩ => by subst e; exact w_lenOT q)
end
end RX

namespace Law
abbrev Tx := List Nat
abbrev Nd := List Tx
def signs (n : Nd) : Nat := (n.map List.length).sum
def fit (T S : Nat) (n : Nd) : Bool := n.length == 1 || (decide (n.length ≤ T) && decide (signs n ≤ S))
def addN (T S : Nat) (f : List Nd) (n : Nd) : List Nd := match f.getLast? with
  | some l => if fit T S (l ++ n) then f.dropLast ++ [l ++ n] else f ++ [n]
  | none => [n]
def joinF (T S : Nat) (ns : List Nd) : List Nd := ns.foldl (addN T S) []
def partF (T S : Nat) (ts : List Tx) : List Nd := joinF T S (ts.map fun t => [t])
def withF (T S : Nat) (ns : List Nd) (at_ : Nat) (ts : List Tx) : List Nd :=
  ns.take (at_ - 1) ++ joinF T S (((ns.drop (at_ - 1)).take (at_ - (at_ - 1)) ++ partF T S ts) ++ (ns.drop (at_ + 1)).take 1) ++ ns.drop (at_ + 2)
def joinP (T S : Nat) : List Nd → Nat → Nat → List Nd → List Nd
  | f, _, _, [] => f
  | f, i, w, n :: r => joinP T S (if 0 < i ∧ i ≤ w then addN T S f n else f ++ [n]) (i + 1) w r
def settleP (T S : Nat) (ns : List Nd) (at_ : Nat) (ts : List Tx) : List Nd :=
  let fresh := partF T S ts
  let all := ns.take at_ ++ fresh ++ ns.drop (at_ + 1)
  let first := if fresh = [] then at_ - 2 else at_ - 1
  let last := if fresh = [] then at_ + 1 else at_ + fresh.length
  joinP T S (all.take first) 0 (last - first) (all.drop first)
def Chain (T S : Nat) : List Nd → Prop
  | [] => True
  | [a] => a ≠ []
  | a :: b :: r => a ≠ [] ∧ fit T S (a ++ b) = false ∧ Chain T S (b :: r)
section
variable {T S : Nat}
theorem signs_append (a b : Nd) : signs (a ++ b) = signs a + signs b := by simp [signs]
theorem fit_mono {a b c : Nd} (ha : a ≠ []) (hb : b ≠ []) (h : fit T S (a ++ b) = false) : fit T S ((a ++ b) ++ c) = false ∧ fit T S (c ++ (a ++ b)) = false := by
  have la : 1 ≤ a.length := List.length_pos_iff.mpr ha
  have lb : 1 ≤ b.length := List.length_pos_iff.mpr hb
  simp only [fit, Bool.or_eq_false_iff, Bool.and_eq_false_iff, beq_eq_false_iff_ne, decide_eq_false_iff_not, List.length_append, signs_append] at *
  omega
theorem fit_grow {a b c d : Nd} (ha : a ≠ []) (hb : b ≠ []) (h : fit T S (a ++ b) = false) : fit T S ((c ++ a) ++ (b ++ d)) = false := by
  have la : 1 ≤ a.length := List.length_pos_iff.mpr ha
  have lb : 1 ≤ b.length := List.length_pos_iff.mpr hb
  simp only [fit, Bool.or_eq_false_iff, Bool.and_eq_false_iff, beq_eq_false_iff_ne, decide_eq_false_iff_not, List.length_append, signs_append] at *
  omega
theorem addN_nil (n : Nd) : addN T S [] n = [n] := rfl
theorem addN_snoc (f : List Nd) (l n : Nd) : addN T S (f ++ [l]) n = if fit T S (l ++ n) then f ++ [l ++ n] else f ++ [l, n] := by
  simp only [addN, List.getLast?_concat, List.dropLast_concat]
  split <;> simp
theorem addN_pre (p : List Nd) {f : List Nd} (hf : f ≠ []) (n : Nd) : addN T S (p ++ f) n = p ++ addN T S f n := by
  obtain ⟨g, l, rfl⟩ : ∃ g l, f = g ++ [l] := ⟨f.dropLast, f.getLast hf, (List.dropLast_concat_getLast hf).symm⟩
  rw [← List.append_assoc, addN_snoc, addN_snoc]
  split <;> simp
theorem addN_ne (f : List Nd) (n : Nd) : addN T S f n ≠ [] := by
  rcases List.eq_nil_or_concat f with rfl | ⟨g, l, rfl⟩
  · simp [addN_nil]
  · rw [List.concat_eq_append, addN_snoc]; split <;> simp
theorem foldl_pre (p : List Nd) : ∀ (ns : List Nd) {f : List Nd}, f ≠ [] → ns.foldl (addN T S) (p ++ f) = p ++ ns.foldl (addN T S) f
  | [], _, _ => rfl
  | n :: ns, f, hf => by
    rw [List.foldl_cons, List.foldl_cons, addN_pre p hf, foldl_pre p ns (addN_ne f n)]
theorem joinF_cons (a : Nd) (ns : List Nd) : joinF T S (a :: ns) = ns.foldl (addN T S) [a] := rfl
theorem joinP_over : ∀ (r : List Nd) (f : List Nd) (i w : Nat), w < i → joinP T S f i w r = f ++ r
  | [], f, _, _, _ => by simp [joinP]
  | n :: r, f, i, w, h => by
    unfold joinP
    rw [if_neg (by omega), joinP_over r _ _ _ (by omega)]
    simp
theorem joinP_in : ∀ (m : List Nd) (r f : List Nd) (i w : Nat), 0 < i → i + m.length = w + 1 → joinP T S f i w (m ++ r) = m.foldl (addN T S) f ++ r
  | [], r, f, i, w, h0, h => by
    rw [List.nil_append, joinP_over r f i w (by simp at h; omega)]; rfl
  | n :: m, r, f, i, w, h0, h => by
    rw [List.cons_append]
    unfold joinP
    simp only [List.length_cons] at h
    rw [if_pos ⟨h0, by omega⟩, joinP_in m r _ (i + 1) w (by omega) (by omega), List.foldl_cons]
theorem joinP_all {p m r : List Nd} {a : Nd} {w : Nat} (h : m.length = w) : joinP T S p 0 w (a :: (m ++ r)) = p ++ joinF T S (a :: m) ++ r := by
  unfold joinP
  rw [if_neg (by omega), joinP_in m r _ 1 w (by omega) (by omega), joinF_cons, foldl_pre p m (by simp)]
theorem joinP_short : ∀ (m f : List Nd) (i w : Nat), 0 < i → i + m.length ≤ w + 1 → joinP T S f i w m = m.foldl (addN T S) f
  | [], f, i, w, h0, h => by simp [joinP]
  | n :: m, f, i, w, h0, h => by
    unfold joinP
    simp only [List.length_cons] at h
    rw [if_pos ⟨h0, by omega⟩, joinP_short m _ (i + 1) w (by omega) (by omega), List.foldl_cons]
theorem joinP_all' {p m : List Nd} {a : Nd} {w : Nat} (h : m.length ≤ w) : joinP T S p 0 w (a :: m) = p ++ joinF T S (a :: m) := by
  unfold joinP
  rw [if_neg (by omega), joinP_short m _ 1 w (by omega) (by omega), joinF_cons, foldl_pre p m (by simp)]
end
end Law

namespace Law
section
variable {T S : Nat}
theorem chain_cons {a : Nd} {l : List Nd} : Chain T S (a :: l) ↔ a ≠ [] ∧ (∀ h ∈ l.head?, fit T S (a ++ h) = false) ∧ Chain T S l := by
  cases l with
  | nil => simp [Chain]
  | cons b r => simp [Chain]
theorem chain_app : ∀ {x y : List Nd}, Chain T S (x ++ y) ↔ Chain T S x ∧ Chain T S y ∧ ∀ l ∈ x.getLast?, ∀ h ∈ y.head?, fit T S (l ++ h) = false
  | [], y => by simp [Chain]
  | a :: x, y => by
    rw [List.cons_append, chain_cons, chain_cons, chain_app (x := x)]
    cases x with
    | nil =>
      simp only [List.nil_append, List.getLast?_singleton, List.head?_nil, Option.mem_def, Option.some.injEq, List.getLast?_nil, reduceCtorEq, false_implies, implies_true, and_true, true_and, forall_eq', Chain]
      constructor
      · rintro ⟨h1, h2, h3⟩; exact ⟨h1, h3, h2⟩
      · rintro ⟨h1, h3, h2⟩; exact ⟨h1, h2, h3⟩
    | cons b x =>
      simp only [List.cons_append, List.head?_cons, List.getLast?_cons_cons]
      constructor
      · rintro ⟨h1, h2, h3, h4, h5⟩; exact ⟨⟨h1, h2, h3⟩, h4, h5⟩
      · rintro ⟨⟨h1, h2, h3⟩, h4, h5⟩; exact ⟨h1, h2, h3, h4, h5⟩
theorem chain_ne {l : List Nd} (h : Chain T S l) : ∀ n ∈ l, n ≠ [] := by
  induction l with
  | nil => intro n hn; cases hn
  | cons a l ih =>
    rw [chain_cons] at h
    intro n hn
    rcases List.mem_cons.mp hn with rfl | hn
    · exact h.1
    · exact ih h.2.2 n hn
theorem chain_add {f : List Nd} {n : Nd} (hf : Chain T S f) (hn : n ≠ []) : Chain T S (addN T S f n) := by
  rcases List.eq_nil_or_concat f with rfl | ⟨g, l, rfl⟩
  · simp [addN_nil, Chain, hn]
  · rw [List.concat_eq_append] at hf ⊢
    rw [addN_snoc]
    rw [chain_app] at hf
    obtain ⟨h1, h2, h3⟩ := hf
    have hl : l ≠ [] := by simpa [Chain] using h2
    split
    · rename_i hfit
      rw [chain_app]
      refine ⟨h1, by simp [Chain, hl], fun x hx h hh => ?_⟩
      simp only [List.head?_cons, Option.mem_def, Option.some.injEq] at hh
      subst hh
      have hx' : x ≠ [] := chain_ne h1 x (List.mem_of_getLast? hx)
      have := fit_grow (c := []) (d := n) hx' hl (h3 x hx l (by simp))
      simpa using this
    · rename_i hfit
      rw [chain_app]
      refine ⟨h1, ?_, fun x hx h hh => ?_⟩
      · rw [chain_cons]
        refine ⟨hl, fun h hh => ?_, by simp [Chain, hn]⟩
        simp only [List.head?_cons, Option.mem_def, Option.some.injEq] at hh
        subst hh
        simpa using hfit
      · simp only [List.head?_cons, Option.mem_def, Option.some.injEq] at hh
        subst hh
        exact h3 x hx l (by simp)
theorem chain_fold : ∀ {ns f : List Nd}, Chain T S f → (∀ n ∈ ns, n ≠ []) → Chain T S (ns.foldl (addN T S) f)
  | [], _, hf, _ => hf
  | n :: ns, f, hf, h => chain_fold (ns := ns) (chain_add hf (h n List.mem_cons_self)) fun m hm => h m (List.mem_cons_of_mem _ hm)
theorem chain_join {ns : List Nd} (h : ∀ n ∈ ns, n ≠ []) : Chain T S (joinF T S ns) := chain_fold (by simp [Chain]) h
theorem chain_part (ts : List Tx) : Chain T S (partF T S ts) := chain_join fun n hn => by
  obtain ⟨t, _, rfl⟩ := List.mem_map.mp hn
  simp
theorem fold_last : ∀ {ns f : List Nd} {l : Nd}, (∃ c, f.getLast? = some (c ++ l)) → ∃ c, (ns.foldl (addN T S) f).getLast? = some (c ++ ((l :: ns).getLast (by simp)))
  | [], f, l, ⟨c, h⟩ => ⟨c, by simpa using h⟩
  | n :: ns, f, l, ⟨c, h⟩ => by
    rw [List.foldl_cons, List.getLast_cons (by simp)]
    refine fold_last ?_
    rcases List.eq_nil_or_concat f with rfl | ⟨g, m, rfl⟩
    · exact ⟨[], by simp [addN_nil]⟩
    · rw [List.concat_eq_append, addN_snoc]
      split
      · exact ⟨m, by simp⟩
      · exact ⟨[], by simp⟩
theorem join_last {a : Nd} {m : List Nd} : ∃ c, (joinF T S (a :: m)).getLast? = some (c ++ ((a :: m).getLast (by simp))) := by
  rw [joinF_cons]
  exact fold_last ⟨[], by simp⟩
theorem fold_first : ∀ {ns f : List Nd} {l : Nd}, (∃ c, f.head? = some (l ++ c)) → ∃ c, (ns.foldl (addN T S) f).head? = some (l ++ c)
  | [], f, l, h => h
  | n :: ns, f, l, ⟨c, h⟩ => by
    rw [List.foldl_cons]
    refine fold_first ?_
    cases f with
    | nil => simp at h
    | cons a f =>
      simp only [List.head?_cons, Option.some.injEq] at h
      subst h
      cases f with
      | nil =>
        have := addN_snoc (T := T) (S := S) [] (l ++ c) n
        simp only [List.nil_append] at this
        rw [this]
        split
        · exact ⟨c ++ n, by simp⟩
        · exact ⟨c, by simp⟩
      | cons b f =>
        have := addN_pre (T := T) (S := S) [l ++ c] (f := b :: f) (by simp) n
        simp only [List.singleton_append] at this
        rw [this]
        exact ⟨c, by simp⟩
theorem join_first {a : Nd} {m : List Nd} : ∃ c, (joinF T S (a :: m)).head? = some (a ++ c) := by
  rw [joinF_cons]
  exact fold_first ⟨[], by simp⟩
theorem flat_add (f : List Nd) (n : Nd) : (addN T S f n).flatten = f.flatten ++ n := by
  rcases List.eq_nil_or_concat f with rfl | ⟨g, l, rfl⟩
  · simp [addN_nil]
  · rw [List.concat_eq_append, addN_snoc]
    split <;> simp
theorem flat_fold : ∀ {ns f : List Nd}, (ns.foldl (addN T S) f).flatten = f.flatten ++ ns.flatten
  | [], f => by simp
  | n :: ns, f => by rw [List.foldl_cons, flat_fold, flat_add]; simp
theorem flat_join (ns : List Nd) : (joinF T S ns).flatten = ns.flatten := by unfold joinF; rw [flat_fold]; simp
theorem flat_part (ts : List Tx) : (partF T S ts).flatten = ts := by
  unfold partF
  rw [flat_join]
  induction ts with
  | nil => rfl
  | cons t ts ih => simp [ih]
theorem part_nil : partF T S [] = [] := rfl
theorem part_ne {ts : List Tx} (h : ts ≠ []) : partF T S ts ≠ [] := fun z => h (by have := flat_part (T := T) (S := S) ts; rw [z] at this; simpa using this.symm)
theorem flat_with {ns : List Nd} {i : Nat} {ts : List Tx} : (withF T S ns i ts).flatten = (ns.take i).flatten ++ ts ++ (ns.drop (i + 1)).flatten := by
  unfold withF
  simp only [List.flatten_append, flat_join, flat_part]
  have e1 : (ns.take (i - 1)).flatten ++ ((ns.drop (i - 1)).take (i - (i - 1))).flatten = (ns.take i).flatten := by
    rw [← List.flatten_append, ← List.take_add]
    congr 2; omega
  have e2 : ((ns.drop (i + 1)).take 1).flatten ++ (ns.drop (i + 2)).flatten = (ns.drop (i + 1)).flatten := by
    rw [← List.flatten_append]
    have : ns.drop (i + 2) = (ns.drop (i + 1)).drop 1 := by rw [List.drop_drop]
    rw [this, List.take_append_drop]
  rw [← e1, ← e2]
  simp [List.append_assoc]
theorem joinP_win {p W q : List Nd} {w : Nat} (hW : W ≠ []) (h : W.length = w + 1 ∨ (W.length ≤ w + 1 ∧ q = [])) : joinP T S p 0 w (W ++ q) = p ++ joinF T S W ++ q := by
  cases W with
  | nil => exact absurd rfl hW
  | cons a m =>
    rw [List.cons_append]
    rcases h with h | ⟨h, rfl⟩
    · exact joinP_all (by simpa using h)
    · rw [List.append_nil, List.append_nil]
      exact joinP_all' (by simpa using h)
theorem settle_some {ns : List Nd} {i : Nat} {ts : List Tx} (hi : i ≤ ns.length) (hts : ts ≠ []) : settleP T S ns i ts = withF T S ns i ts := by
  have hf := part_ne (T := T) (S := S) hts
  unfold settleP withF
  simp only [if_neg hf]
  have e1 : (ns.take i ++ partF T S ts ++ ns.drop (i + 1)).take (i - 1) = ns.take (i - 1) := by
    rw [List.append_assoc, List.take_append_of_le_length (by rw [List.length_take]; omega), List.take_take]
    congr 1; omega
  have e2 : (ns.take i ++ partF T S ts ++ ns.drop (i + 1)).drop (i - 1) = (((ns.drop (i - 1)).take (i - (i - 1)) ++ partF T S ts) ++ (ns.drop (i + 1)).take 1) ++ ns.drop (i + 2) := by
    rw [List.append_assoc, List.drop_append_of_le_length (by rw [List.length_take]; omega), List.drop_take]
    have : ns.drop (i + 2) = (ns.drop (i + 1)).drop 1 := by rw [List.drop_drop]
    rw [this]
    simp only [List.append_assoc, List.take_append_drop]
  rw [e1, e2]
  have hl : ((ns.drop (i - 1)).take (i - (i - 1))).length = i - (i - 1) := by rw [List.length_take, List.length_drop]; omega
  refine joinP_win (by simp [hf]) ?_
  have hpos : 1 ≤ (partF T S ts).length := List.length_pos_iff.mpr hf
  simp only [List.length_append, hl, List.length_take, List.length_drop]
  by_cases hk : i + 1 < ns.length
  · left; omega
  · right
    refine ⟨by omega, ?_⟩
    exact List.drop_eq_nil_of_le (by omega)
theorem addN_no {f : List Nd} {l n : Nd} (h : fit T S (l ++ n) = false) : addN T S (f ++ [l]) n = f ++ [l, n] := by rw [addN_snoc, h]; simp
theorem add_stop {f : List Nd} {c b n : Nd} (hl : f.getLast? = some (c ++ b)) (hb : b ≠ []) (hn : n ≠ []) (h : fit T S (b ++ n) = false) : addN T S f n = f ++ [n] := by
  unfold addN
  rw [hl]
  have : fit T S ((c ++ b) ++ n) = false := by
    have := fit_grow (c := c) (d := []) hb hn h
    simpa using this
  simp only [this, Bool.false_eq_true, if_false]
theorem tailJ {P q : List Nd} {a : Nd} {i : Nat} (h0 : 0 < i) (hq : Chain T S q) : joinP T S (P ++ [a]) i (i + 1) q = P ++ joinF T S ([a] ++ q.take 1) ++ q.drop 1 := by
  cases q with
  | nil => simp [joinP, joinF_cons]
  | cons b0 q =>
    have e0 : addN T S (P ++ [a]) b0 = P ++ addN T S [a] b0 := addN_pre P (by simp) b0
    cases q with
    | nil =>
      simp only [joinP, if_pos (⟨h0, by omega⟩ : 0 < i ∧ i ≤ i + 1), e0]
      simp [joinF_cons]
    | cons b1 r =>
      rw [chain_cons] at hq
      have nf := hq.2.1 b1 (by simp)
      have hb1 : b1 ≠ [] := chain_ne hq.2.2 b1 List.mem_cons_self
      obtain ⟨c, hc⟩ := join_last (T := T) (S := S) (a := a) (m := [b0])
      simp only [joinF_cons, List.foldl_cons, List.foldl_nil, List.getLast_cons_cons, List.getLast_singleton] at hc
      have hl : (P ++ addN T S [a] b0).getLast? = some (c ++ b0) := by
        rw [List.getLast?_append, hc]; rfl
      simp only [joinP, if_pos (⟨h0, by omega⟩ : 0 < i ∧ i ≤ i + 1), if_pos (⟨by omega, by omega⟩ : 0 < i + 1 ∧ i + 1 ≤ i + 1), e0]
      rw [add_stop hl hq.1 hb1 nf, joinP_over _ _ _ _ (by omega)]
      simp [joinF_cons, List.append_assoc]
theorem settle_none {ns : List Nd} {i : Nat} (hi : i < ns.length) (hc : Chain T S ns) : settleP T S ns i [] = withF T S ns i [] := by
  unfold settleP withF
  simp only [part_nil, if_pos, List.append_nil]
  obtain ⟨p, x, q, rfl, hp⟩ : ∃ p x q, ns = p ++ x :: q ∧ p.length = i := ⟨ns.take i, ns[i], ns.drop (i + 1), by rw [List.getElem_cons_drop, List.take_append_drop], by rw [List.length_take]; omega⟩
  have ht : (p ++ x :: q).take i = p := by rw [← hp]; simp
  have hd : (p ++ x :: q).drop (i + 1) = q := by rw [← hp]; simp [List.drop_append]
  have hd2 : (p ++ x :: q).drop (i + 2) = q.drop 1 := by rw [← hp]; simp [List.drop_append]
  rw [ht, hd, hd2]
  obtain ⟨c1, c2, c3⟩ := chain_app.mp hc
  rw [chain_cons] at c2
  obtain ⟨cx, cxq, cq⟩ := c2
  rcases List.eq_nil_or_concat p with rfl | ⟨p1, a, rfl⟩
  · simp only [List.length_nil] at hp
    subst hp
    simp only [List.nil_append, Nat.zero_sub, List.take_zero, List.drop_zero, Nat.zero_add, Nat.sub_zero, Nat.sub_self]
    cases q with
    | nil => rfl
    | cons b0 q =>
      cases q with
      | nil => rfl
      | cons b1 r =>
        rw [chain_cons] at cq
        have nf := cq.2.1 b1 (by simp)
        simp only [joinP, List.take_succ_cons, List.take_zero, List.drop_succ_cons, List.drop_zero, joinF_cons, List.foldl_nil]
        have := addN_no (T := T) (S := S) (f := []) nf
        simp only [List.nil_append] at this ⊢
        simp only [if_neg (by omega : ¬(0 < 0 ∧ 0 ≤ 1)), if_pos (by omega : 0 < 0 + 1 ∧ 0 + 1 ≤ 1), this]
        rw [joinP_over _ _ _ _ (by omega)]
        simp
  · rw [List.concat_eq_append] at *
    rcases List.eq_nil_or_concat p1 with rfl | ⟨p2, z, rfl⟩
    · simp only [List.nil_append, List.length_singleton] at hp
      subst hp
      have e : joinP T S [] 0 2 (a :: q) = joinP T S ([] ++ [a]) 1 (1 + 1) q := by
        show joinP T S (if 0 < 0 ∧ 0 ≤ 2 then _ else _) 1 2 q = _
        rw [if_neg (by omega)]
      simp only [List.nil_append, Nat.sub_self, List.take_zero, List.drop_zero, Nat.sub_zero, List.cons_append, List.take_succ_cons]
      show joinP T S [] 0 2 (a :: q) = _
      rw [e, tailJ (by omega) cq]
      simp
    · rw [List.concat_eq_append] at *
      have hp2 : p2.length = i - 2 ∧ 2 ≤ i := by simp at hp; omega
      obtain ⟨hp2, h2⟩ := hp2
      obtain ⟨d1, d2, d3⟩ := chain_app.mp c1
      have nf : fit T S (z ++ a) = false := d3 z (by simp) a (by simp)
      have e1 : (p2 ++ [z] ++ [a] ++ q).take (i - 2) = p2 := by rw [← hp2]; simp
      have e2 : (p2 ++ [z] ++ [a] ++ q).drop (i - 2) = z :: a :: q := by rw [← hp2]; simp
      have e3 : (p2 ++ [z] ++ [a] ++ x :: q).take (i - 1) = p2 ++ [z] := by
        have : i - 1 = (p2 ++ [z]).length := by simp; omega
        rw [this, List.append_assoc (p2 ++ [z]), List.take_left]
      have e4 : ((p2 ++ [z] ++ [a] ++ x :: q).drop (i - 1)).take (i - (i - 1)) = [a] := by
        have h1 : i - (i - 1) = 1 := by omega
        have : i - 1 = (p2 ++ [z]).length := by simp; omega
        rw [h1, this, List.append_assoc (p2 ++ [z]), List.drop_left]
        simp
      have hw : i + 1 - (i - 2) = 3 := by omega
      rw [e1, e2, e3, e4, hw]
      have e : joinP T S p2 0 3 (z :: a :: q) = joinP T S ((p2 ++ [z]) ++ [a]) 2 (2 + 1) q := by
        show joinP T S (if 0 < 0 ∧ 0 ≤ 3 then _ else _) 1 3 (a :: q) = _
        rw [if_neg (by omega)]
        show joinP T S (if 0 < 1 ∧ 1 ≤ 3 then _ else _) 2 3 q = _
        rw [if_pos ⟨by omega, by omega⟩, addN_no nf]
        simp
      rw [e, tailJ (by omega) cq]
theorem chain_with {ns : List Nd} {i : Nat} {ts : List Tx} (hc : Chain T S ns) (hi : i < ns.length ∨ (ns = [] ∧ i = 0)) : Chain T S (withF T S ns i ts) := by
  rcases hi with hi | ⟨rfl, rfl⟩
  rotate_left
  · have : withF T S [] 0 ts = joinF T S (partF T S ts) := by simp [withF]
    rw [this]
    exact chain_join (chain_ne (chain_part ts))
  obtain ⟨p, x, q, rfl, hp⟩ : ∃ p x q, ns = p ++ x :: q ∧ p.length = i := ⟨ns.take i, ns[i], ns.drop (i + 1), by rw [List.getElem_cons_drop, List.take_append_drop], by rw [List.length_take]; omega⟩
  have hd : (p ++ x :: q).drop (i + 1) = q := by rw [← hp]; simp [List.drop_append]
  have hd2 : (p ++ x :: q).drop (i + 2) = q.drop 1 := by rw [← hp]; simp [List.drop_append]
  obtain ⟨c1, c2, c3⟩ := chain_app.mp hc
  rw [chain_cons] at c2
  obtain ⟨cx, cxq, cq⟩ := c2
  have allne : ∀ n ∈ p ++ x :: q, n ≠ [] := chain_ne hc
  -- what is joined, and the two sides
  have key : ∀ (P : List Nd) (U : List Nd), P ++ U = p → U.length ≤ 1 → (U = [] → P = []) → Chain T S (P ++ joinF T S ((U ++ partF T S ts) ++ q.take 1) ++ q.drop 1) := by
    intro P U hPU hU hUP
    subst hPU
    obtain ⟨k1, k2, k3⟩ := chain_app.mp c1
    have Wne : ∀ n ∈ (U ++ partF T S ts) ++ q.take 1, n ≠ [] := by
      intro n hn
      rcases List.mem_append.mp hn with hn | hn
      · rcases List.mem_append.mp hn with hn | hn
        · exact allne n (by simp [hn])
        · exact chain_ne (chain_part ts) n hn
      · exact allne n (by simp [List.mem_of_mem_take hn])
    have qsplit : Chain T S (q.take 1 ++ q.drop 1) := by rw [List.take_append_drop]; exact cq
    obtain ⟨q1, q2, q3⟩ := chain_app.mp qsplit
    -- the left side
    have left : Chain T S (P ++ joinF T S ((U ++ partF T S ts) ++ q.take 1)) := by
      rw [chain_app]
      refine ⟨k1, chain_join Wne, fun l hl h hh => ?_⟩
      cases U with
      | nil => rw [hUP rfl] at hl; simp at hl
      | cons u U =>
        have : U = [] := by simpa using hU
        subst this
        obtain ⟨c, hcc⟩ := join_first (T := T) (S := S) (a := u) (m := partF T S ts ++ q.take 1)
        have eW : ([u] ++ partF T S ts) ++ q.take 1 = u :: (partF T S ts ++ q.take 1) := by simp
        rw [eW, hcc] at hh
        simp only [Option.mem_def, Option.some.injEq] at hh
        subst hh
        have hu : u ≠ [] := allne u (by simp)
        have := fit_grow (c := []) (d := c) (chain_ne k1 l (List.mem_of_getLast? hl)) hu (k3 l hl u (by simp))
        simpa using this
    rw [chain_app]
    refine ⟨left, q2, fun l hl h hh => ?_⟩
    cases q with
    | nil => simp at hh
    | cons b0 q =>
      simp only [List.drop_succ_cons, List.drop_zero] at hh
      have h1 : (b0 :: q).take 1 = [b0] := by simp
      rw [h1] at hl
      have hlast : ((U ++ partF T S ts) ++ [b0]).getLast? = some b0 := List.getLast?_concat
      have eW : ∃ c, (joinF T S ((U ++ partF T S ts) ++ [b0])).getLast? = some (c ++ b0) := by
        cases hW : (U ++ partF T S ts) ++ [b0] with
        | nil => simp at hW
        | cons a m =>
          obtain ⟨c, hcc⟩ := join_last (T := T) (S := S) (a := a) (m := m)
          rw [hW, List.getLast?_eq_some_getLast (by simp)] at hlast
          rw [Option.some.inj hlast] at hcc
          exact ⟨c, hcc⟩
      obtain ⟨c, hcc⟩ := eW
      rw [List.getLast?_append, hcc] at hl
      simp only [Option.some_or, Option.mem_def, Option.some.injEq] at hl
      subst hl
      rw [chain_cons] at cq
      have hh2 : h ≠ [] := chain_ne cq.2.2 h (List.mem_of_mem_head? hh)
      have := fit_grow (c := c) (d := []) cq.1 hh2 (cq.2.1 h hh)
      simpa using this
  unfold withF
  rw [hd, hd2]
  rcases List.eq_nil_or_concat p with rfl | ⟨p1, a, rfl⟩
  · simp only [List.length_nil] at hp
    subst hp
    have := key [] [] rfl (by simp) (fun _ => rfl)
    simpa using this
  · rw [List.concat_eq_append] at *
    have e3 : (p1 ++ [a] ++ x :: q).take (i - 1) = p1 := by
      have : i - 1 = p1.length := by simp at hp; omega
      rw [this, List.append_assoc]
      simp
    have e4 : ((p1 ++ [a] ++ x :: q).drop (i - 1)).take (i - (i - 1)) = [a] := by
      have h1 : i - (i - 1) = 1 := by simp at hp; omega
      have : i - 1 = p1.length := by simp at hp; omega
      rw [h1, this, List.append_assoc]
      simp
    rw [e3, e4]
    exact key p1 [a] rfl (by simp) (by simp)
end
end Law

namespace Law
def spotF : List Nd → Nat → Nat × Nat
  | [], p => (0, p)
  | n :: r, p => if p < n.length then (0, p) else ((spotF r (p - n.length)).1 + 1, (spotF r (p - n.length)).2)
theorem spot_ok : ∀ {ns : List Nd} {p : Nat}, p < ns.flatten.length → ∃ x, ns[(spotF ns p).1]? = some x ∧ (spotF ns p).2 < x.length ∧ (ns.take (spotF ns p).1).flatten.length + (spotF ns p).2 = p
  | [], p, h => by simp at h
  | n :: r, p, h => by
    unfold spotF
    by_cases hp : p < n.length
    · rw [if_pos hp]
      exact ⟨n, rfl, hp, by simp⟩
    · rw [if_neg hp]
      rw [List.flatten_cons, List.length_append] at h
      obtain ⟨x, h1, h2, h3⟩ := spot_ok (ns := r) (p := p - n.length) (by omega)
      refine ⟨x, by simpa using h1, h2, ?_⟩
      rw [List.take_succ_cons, List.flatten_cons, List.length_append]
      simp only at h3 ⊢
      omega
def nodeAt (ns : List Nd) (i : Nat) : Nd := ns.getD i []
def spotL (ns : List Nd) (p : Nat) : Nat × Nat := if p < ns.flatten.length then spotF ns p else (ns.length - 1, (nodeAt ns (ns.length - 1)).length)
section
variable (T S : Nat)
def lessF (ns : List Nd) (p : Nat) : List Nd := withF T S ns (spotF ns p).1 ((nodeAt ns (spotF ns p).1).take (spotF ns p).2 ++ (nodeAt ns (spotF ns p).1).drop ((spotF ns p).2 + 1))
def chgF (ns : List Nd) (p : Nat) (t : Tx) : List Nd := withF T S ns (spotF ns p).1 ((nodeAt ns (spotF ns p).1).take (spotF ns p).2 ++ [t] ++ (nodeAt ns (spotF ns p).1).drop ((spotF ns p).2 + 1))
def putF' (ns : List Nd) (p : Nat) (t : Tx) : List Nd := if ns = [] then [[t]] else withF T S ns (spotL ns p).1 ((nodeAt ns (spotL ns p).1).take (spotL ns p).2 ++ [t] ++ (nodeAt ns (spotL ns p).1).drop (spotL ns p).2)
end
structure GoodN (T S N : Nat) (ns : List Nd) : Prop where
  ch : Chain T S ns
  len : ns.flatten.length ≤ N
  tx : ∀ t ∈ ns.flatten, t.length ≤ 40 ∧ ∀ c ∈ t, 32 ≤ c ∧ c ≤ 126
variable {T S N : Nat} {ns : List Nd} {p : Nat} {t : Tx}
theorem len_le_flat : ∀ {ns : List Nd}, (∀ n ∈ ns, n ≠ []) → ns.length ≤ ns.flatten.length
  | [], _ => Nat.le_refl _
  | n :: ns, h => by
    have h1 := List.length_pos_iff.mpr (h n List.mem_cons_self)
    have h2 := len_le_flat (ns := ns) fun m hm => h m (List.mem_cons_of_mem _ hm)
    rw [List.flatten_cons, List.length_append, List.length_cons]
    omega
theorem GoodN.short (g : GoodN T S N ns) : ns.length ≤ N := Nat.le_trans (len_le_flat (chain_ne g.ch)) g.len
theorem GoodN.mono {N' : Nat} (g : GoodN T S N ns) (h : N ≤ N') : GoodN T S N' ns := ⟨g.ch, Nat.le_trans g.len h, g.tx⟩
theorem good_nil : GoodN T S N [] := ⟨by simp [Chain], by simp, by simp⟩
theorem flat_at {i : Nat} {x : Nd} (h : ns[i]? = some x) : ns.flatten = (ns.take i).flatten ++ x ++ (ns.drop (i + 1)).flatten := by
  have hi := (List.getElem?_eq_some_iff.mp h).1
  have e : ns = ns.take i ++ x :: ns.drop (i + 1) := by
    have := (List.getElem?_eq_some_iff.mp h).2
    rw [← this, List.getElem_cons_drop, List.take_append_drop]
  conv => lhs; rw [e]
  simp [List.append_assoc]
theorem good_with {i : Nat} {x : Nd} {ts : List Tx} {M : Nat} (g : GoodN T S N ns) (hx : ns[i]? = some x) (hl : ts.length + N ≤ M + x.length) (ht : ∀ t ∈ ts, t.length ≤ 40 ∧ ∀ c ∈ t, 32 ≤ c ∧ c ≤ 126) : GoodN T S M (withF T S ns i ts) := by
  have hi := (List.getElem?_eq_some_iff.mp hx).1
  have hf := flat_at hx
  refine ⟨chain_with g.ch (.inl hi), ?_, ?_⟩
  · rw [flat_with]
    have := congrArg List.length hf
    have := g.len
    simp only [List.length_append] at *
    omega
  · rw [flat_with]
    intro u hu
    rcases List.mem_append.mp hu with hu | hu
    · rcases List.mem_append.mp hu with hu | hu
      · exact g.tx u (by rw [hf]; simp [hu])
      · exact ht u hu
    · exact g.tx u (by rw [hf]; simp [hu])
theorem nodeAt_eq {i : Nat} {x : Nd} (h : ns[i]? = some x) : nodeAt ns i = x := by
  unfold nodeAt
  rw [List.getD_eq_getElem?_getD, h]; rfl
theorem GoodN.node (g : GoodN T S N ns) {i : Nat} {x : Nd} (h : ns[i]? = some x) : ∀ t ∈ x, t.length ≤ 40 ∧ ∀ c ∈ t, 32 ≤ c ∧ c ≤ 126 := fun t ht => g.tx t (List.mem_flatten.mpr ⟨x, List.mem_of_getElem? h, ht⟩)
theorem good_less {L : Nat} (g : GoodN T S (L + 1) ns) (hp : p < ns.flatten.length) : GoodN T S L (lessF T S ns p) := by
  obtain ⟨x, h1, h2, h3⟩ := spot_ok hp
  unfold lessF
  rw [nodeAt_eq h1]
  refine good_with g h1 ?_ fun t ht => ?_
  · rw [List.length_append, List.length_take, List.length_drop]; omega
  · rcases List.mem_append.mp ht with ht | ht
    · exact g.node h1 t (List.mem_of_mem_take ht)
    · exact g.node h1 t (List.mem_of_mem_drop ht)
theorem good_chg (g : GoodN T S N ns) (hp : p < ns.flatten.length) (ht : t.length ≤ 40 ∧ ∀ c ∈ t, 32 ≤ c ∧ c ≤ 126) : GoodN T S N (chgF T S ns p t) := by
  obtain ⟨x, h1, h2, h3⟩ := spot_ok hp
  unfold chgF
  rw [nodeAt_eq h1]
  refine good_with g h1 ?_ fun u hu => ?_
  · simp only [List.length_append, List.length_take, List.length_drop, List.length_singleton]; omega
  · rcases List.mem_append.mp hu with hu | hu
    · rcases List.mem_append.mp hu with hu | hu
      · exact g.node h1 u (List.mem_of_mem_take hu)
      · rw [List.mem_singleton.mp hu]; exact ht
    · exact g.node h1 u (List.mem_of_mem_drop hu)
theorem spotL_at (hne : ns ≠ []) : ∃ x, ns[(spotL ns p).1]? = some x ∧ (spotL ns p).2 ≤ x.length := by
  unfold spotL
  split
  · rename_i h
    obtain ⟨x, h1, h2, h3⟩ := spot_ok h
    exact ⟨x, h1, Nat.le_of_lt h2⟩
  · have hl := List.length_pos_iff.mpr hne
    have : ns[ns.length - 1]? = some (ns[ns.length - 1]'(by omega)) := by simp
    exact ⟨_, this, by rw [nodeAt_eq this]; exact Nat.le_refl _⟩
theorem good_put {L : Nat} (g : GoodN T S L ns) (ht : t.length ≤ 40 ∧ ∀ c ∈ t, 32 ≤ c ∧ c ≤ 126) : GoodN T S (L + 1) (putF' T S ns p t) := by
  unfold putF'
  split
  · refine ⟨by simp [Chain], by simp, fun u hu => ?_⟩
    have : u = t := by simpa using hu
    rw [this]; exact ht
  · rename_i hne
    obtain ⟨x, h1, h2⟩ := spotL_at (p := p) hne
    rw [nodeAt_eq h1]
    refine good_with g h1 ?_ fun u hu => ?_
    · simp only [List.length_append, List.length_take, List.length_drop, List.length_singleton]; omega
    · rcases List.mem_append.mp hu with hu | hu
      · rcases List.mem_append.mp hu with hu | hu
        · exact g.node h1 u (List.mem_of_mem_take hu)
        · rw [List.mem_singleton.mp hu]; exact ht
      · exact g.node h1 u (List.mem_of_mem_drop hu)
theorem settle_eq {i : Nat} {ts : List Tx} (hc : Chain T S ns) (hi : i < ns.length ∨ (ts ≠ [] ∧ i ≤ ns.length)) : settleP T S ns i ts = withF T S ns i ts := by
  by_cases ht : ts = []
  · subst ht
    rcases hi with hi | hi
    · exact settle_none hi hc
    · exact absurd rfl hi.1
  · exact settle_some (by rcases hi with hi | hi <;> omega) ht
theorem put_end (h : ¬ p < ns.flatten.length) : putF' T S ns p t = withF T S ns (ns.length - 1) (nodeAt ns (ns.length - 1) ++ [t]) := by
  unfold putF' spotL
  rw [if_neg h]
  split
  · rename_i hn
    subst hn
    simp [withF, nodeAt, partF, joinF, addN_nil, addN]
  · simp
theorem put_in (h : p < ns.flatten.length) : putF' T S ns p t = withF T S ns (spotF ns p).1 ((nodeAt ns (spotF ns p).1).take (spotF ns p).2 ++ [t] ++ (nodeAt ns (spotF ns p).1).drop (spotF ns p).2) := by
  unfold putF' spotL
  rw [if_pos h, if_neg (fun z => by rw [z] at h; simp at h)]
end Law

namespace Law
variable {T S N : Nat} {ns : List Nd} {p : Nat} {t : Tx}
theorem len_less (hp : p < ns.flatten.length) : (lessF T S ns p).flatten.length + 1 = ns.flatten.length := by
  obtain ⟨x, h1, h2, h3⟩ := spot_ok hp
  have hf := congrArg List.length (flat_at h1)
  unfold lessF
  rw [nodeAt_eq h1, flat_with]
  simp only [List.length_append, List.length_take, List.length_drop] at *
  omega
def kpF (T S L lo hi : Nat) (ns : List Nd) : Nat → List Nd
  | 0 => ns
  | i + 1 => if L - 1 - i < lo ∨ hi ≤ L - 1 - i then lessF T S (kpF T S L lo hi ns i) (L - 1 - i) else kpF T S L lo hi ns i
theorem kpF_ok {L lo hi : Nat} (g : GoodN T S N ns) (hL : ns.flatten.length = L) : ∀ i, i ≤ L → GoodN T S N (kpF T S L lo hi ns i) ∧ L - i ≤ (kpF T S L lo hi ns i).flatten.length
  | 0, _ => ⟨g, by simp [kpF, hL]⟩
  | i + 1, h => by
    obtain ⟨g1, l1⟩ := kpF_ok (lo := lo) (hi := hi) g hL i (by omega)
    unfold kpF
    split
    · have hp : L - 1 - i < (kpF T S L lo hi ns i).flatten.length := by omega
      have hl := len_less (T := T) (S := S) hp
      have hN : N = (N - 1) + 1 := by have := g1.len; omega
      have g2 : GoodN T S ((N - 1) + 1) (kpF T S L lo hi ns i) := by rw [← hN]; exact g1
      exact ⟨(good_less g2 hp).mono (by omega), by omega⟩
    · exact ⟨g1, by omega⟩
end Law

namespace Law
open PySem PySem.Spec PyProof.Rows L2 RX
def top (i : Nat) : Stmt := PySem.Challenge.pw_deedline_k08_whole_packed_lists_node_by.main.body.getD i (.Pass ⟨0, 0, 0, 0⟩)
def gk (x : Str) (k : GK) : Str × GK := (x, k)
def gl : G := [gk "_wall" (.fn 1),
  gk "DeedError" (.oth),
  gk "InvalidText" (.oth),
  gk "InvalidOperation" (.oth),
  gk "InvalidNumber" (.oth),
  gk "TooMany" (.oth),
  gk "MAX_TEXT" (.cst (.int (200))),
  gk "is_integer" (.fn 1),
  gk "is_within" (.fn 3),
  gk "is_text" (.fn 1),
  gk "require_text" (.fn 1),
  gk "MAX_MEMBERS" (.cst (.int (200))),
  gk "MOST_TEXTS" (.cst (.int (64))),
  gk "MOST_SIGNS" (.cst (.int (1000))),
  gk "Bounds" (.cls ⟨[("__init__", 15, 5)], [], ["own_texts", "own_signs", "own_members", "own_wide"]⟩),
  gk "Bounds.__init__" (.mth "Bounds" "__init__"),
  gk "require_bounds" (.fn 1),
  gk "require_first_texts" (.fn 1),
  gk "does_node_fit" (.fn 2),
  gk "parted_node" (.fn 2),
  gk "joined_nodes" (.fn 4),
  gk "require_place_below" (.fn 2),
  gk "require_stop" (.fn 2),
  gk "Pack" (.cls ⟨[("__init__", 24, 3), ("last_node", 25, 1), ("settle", 26, 3), ("spot_in_nodes", 27, 2), ("put", 28, 3), ("take", 29, 2), ("change", 30, 3), ("keep", 31, 3), ("at", 32, 2), ("part", 33, 3), ("__len__", 34, 1)], [("nodes", 35), ("plain", 36)], ["own_bounds", "own_nodes", "own_line"]⟩),
  gk "Pack.__init__" (.mth "Pack" "__init__"),
  gk "Pack.last_node" (.mth "Pack" "last_node"),
  gk "Pack.settle" (.mth "Pack" "settle"),
  gk "Pack.spot_in_nodes" (.mth "Pack" "spot_in_nodes"),
  gk "Pack.put" (.mth "Pack" "put"),
  gk "Pack.take" (.mth "Pack" "take"),
  gk "Pack.change" (.mth "Pack" "change"),
  gk "Pack.keep" (.mth "Pack" "keep"),
  gk "Pack.at" (.mth "Pack" "at"),
  gk "Pack.part" (.mth "Pack" "part"),
  gk "Pack.__len__" (.mth "Pack" "__len__"),
  gk "Pack.nodes" (.prp "Pack" "nodes"),
  gk "Pack.plain" (.prp "Pack" "plain"),
  gk "_law_dice" (.fn 2),
  gk "_law_roll" (.fn 2),
  gk "_law_one_of" (.fn 2),
  gk "_law_text" (.fn 1),
  gk "_law_number" (.fn 1),
  gk "_law_some" (.fn 3),
  gk "_law_fits" (.fn 2),
  gk "_law_drawn_numbers" (.fn 1),
  gk "_law_parted" (.fn 2),
  gk "_law_joined" (.fn 2),
  gk "_law_spot" (.fn 2),
  gk "_law_with" (.fn 4),
  gk "_law_put" (.fn 4),
  gk "_law_less" (.fn 3),
  gk "_law_step" (.fn 4),
  gk "_law_is_as" (.fn 2),
  gk "_law_right" (.fn 1),
  gk "law" (.fn 1)]
def inn (i j : Nat) : Stmt := (C8.clsBody (top i)).getD j (.Pass ⟨0, 0, 0, 0⟩)
def dI (i : Nat) (x : Str) (N : List Str) (ps : Nat) (dfl : List D) : DefI := ⟨x, N, defBody (top i), defScope (top i), ps, x, none, false, dfl⟩
def dM (i j : Nat) (x q c : Str) (N : List Str) (ps : Nat) (prp : Bool) (dfl : List D) : DefI := ⟨x, N, defBody (inn i j), defScope (inn i j), ps, q, some c, prp, dfl⟩
def tab : RX.Tab := [(0, dI 0 "_wall" ["k"] 1 [], defArgs (top 0)),
  (7, dI 9 "is_integer" ["value"] 1 [], defArgs (top 9)),
  (8, dI 10 "is_within" ["value", "least", "most"] 3 [], defArgs (top 10)),
  (9, dI 11 "is_text" ["value", "sign"] 1 [], defArgs (top 11)),
  (10, dI 12 "require_text" ["value"] 1 [], defArgs (top 12)),
  (15, dM 17 0 "__init__" "Bounds.__init__" "Bounds" ["self", "texts", "signs", "members", "wide", "rows", "number", "least", "most"] 5 false [], defArgs (inn 17 0)),
  (16, dI 18 "require_bounds" ["value"] 1 [], defArgs (top 18)),
  (17, dI 19 "require_first_texts" ["value", "text"] 1 [], defArgs (top 19)),
  (18, dI 20 "does_node_fit" ["bounds", "node", "text"] 2 [], defArgs (top 20)),
  (19, dI 21 "parted_node" ["bounds", "texts", "found", "text"] 2 [], defArgs (top 21)),
  (20, dI 22 "joined_nodes" ["bounds", "nodes", "first", "last", "found", "at", "node"] 4 [], defArgs (top 22)),
  (21, dI 23 "require_place_below" ["value", "total"] 2 [], defArgs (top 23)),
  (22, dI 24 "require_stop" ["value", "total"] 2 [], defArgs (top 24)),
  (24, dM 25 0 "__init__" "Pack.__init__" "Pack" ["self", "bounds", "texts", "text"] 3 false [(.tup [])], defArgs (inn 25 0)),
  (25, dM 25 1 "last_node" "Pack.last_node" "Pack" ["self"] 1 false [], defArgs (inn 25 1)),
  (26, dM 25 2 "settle" "Pack.settle" "Pack" ["self", "at", "texts", "fresh", "nodes", "first", "last", "node", "text"] 3 false [], defArgs (inn 25 2)),
  (27, dM 25 3 "spot_in_nodes" "Pack.spot_in_nodes" "Pack" ["self", "place", "at", "left"] 2 false [], defArgs (inn 25 3)),
  (28, dM 25 4 "put" "Pack.put" "Pack" ["self", "place", "text", "at", "spot", "node"] 3 false [], defArgs (inn 25 4)),
  (29, dM 25 5 "take" "Pack.take" "Pack" ["self", "place", "text", "at", "spot", "node"] 2 false [], defArgs (inn 25 5)),
  (30, dM 25 6 "change" "Pack.change" "Pack" ["self", "place", "text", "at", "spot", "node"] 3 false [], defArgs (inn 25 6)),
  (31, dM 25 7 "keep" "Pack.keep" "Pack" ["self", "start", "end", "place"] 3 false [], defArgs (inn 25 7)),
  (32, dM 25 8 "at" "Pack.at" "Pack" ["self", "place"] 2 false [], defArgs (inn 25 8)),
  (33, dM 25 9 "part" "Pack.part" "Pack" ["self", "start", "end"] 3 false [], defArgs (inn 25 9)),
  (35, dM 25 13 "nodes" "Pack.nodes" "Pack" ["self"] 1 true [], defArgs (inn 25 13)),
  (36, dM 25 14 "plain" "Pack.plain" "Pack" ["self"] 1 true [], defArgs (inn 25 14)),
  (34, dM 25 15 "__len__" "Pack.__len__" "Pack" ["self"] 1 false [], defArgs (inn 25 15)),
  (37, dI 27 "_law_dice" ["script", "at", "cell", "great", "left", "mixed"] 2 [], defArgs (top 27)),
  (38, dI 28 "_law_roll" ["dice", "total", "size", "drawn", "one", "two"] 2 [], defArgs (top 28)),
  (39, dI 29 "_law_one_of" ["dice", "items"] 2 [], defArgs (top 29)),
  (40, dI 30 "_law_text" ["dice", "some"] 1 [], defArgs (top 30)),
  (41, dI 31 "_law_number" ["dice"] 1 [], defArgs (top 31)),
  (42, dI 32 "_law_some" ["dice", "call", "most", "turn"] 3 [], defArgs (top 32)),
  (43, dI 33 "_law_fits" ["numbers", "node", "text"] 2 [], defArgs (top 33)),
  (44, dI 34 "_law_drawn_numbers" ["dice"] 1 [], defArgs (top 34)),
  (45, dI 35 "_law_parted" ["numbers", "texts", "found", "text"] 2 [], defArgs (top 35)),
  (46, dI 36 "_law_joined" ["numbers", "nodes", "found", "node"] 2 [], defArgs (top 36)),
  (47, dI 37 "_law_spot" ["nodes", "place", "left", "at", "node"] 2 [], defArgs (top 37)),
  (48, dI 38 "_law_with" ["numbers", "nodes", "at", "texts", "new", "low", "high"] 4 [], defArgs (top 38)),
  (49, dI 39 "_law_put" ["numbers", "nodes", "place", "text", "at", "inner"] 4 [], defArgs (top 39)),
  (50, dI 40 "_law_less" ["numbers", "nodes", "place", "at", "inner"] 3 [], defArgs (top 40)),
  (51, dI 41 "_law_step" ["dice", "numbers", "pack", "nodes", "plain", "node", "way", "text", "place", "at", "inner", "told", "texts", "start", "end", "far"] 4 [], defArgs (top 41)),
  (52, dI 42 "_law_is_as" ["pack", "nodes", "plain", "node", "low", "high", "at", "text"] 2 [], defArgs (top 42)),
  (53, dI 43 "_law_right" ["dice", "numbers", "nodes", "texts", "pack", "text", "turn", "node"] 1 [], defArgs (top 43)),
  (54, dI 44 "law" ["script", "at", "pack", "told"] 1 [], defArgs (top 44))]
def lawIx : Nat := 54
end Law

namespace Law
open RX
def T._wall : Fn := ⟨1, 1, [
  (.whil (.cst (.bl true)) [.pass])]⟩
theorem at__wall : RX.fnOf gl tab 0 = some T._wall := by kernel_rfl
def T.is_integer : Fn := ⟨1, 1, [
  (.ret (.and (.blt .isinst [(.var 0), (.cst (.ty "int"))]) (.not (.blt .isinst [(.var 0), (.cst (.ty "bool"))]))))]⟩
theorem at_is_integer : RX.fnOf gl tab 7 = some T.is_integer := by kernel_rfl
def T.is_within : Fn := ⟨3, 3, [
  (.ret (.and (.call 7 [(.var 0)]) (.cmp2 .LtE .LtE (.var 1) (.var 0) (.var 2))))]⟩
theorem at_is_within : RX.fnOf gl tab 8 = some T.is_within := by kernel_rfl
def T.is_text : Fn := ⟨2, 1, [
  (.ret (.and (.blt .isinst [(.var 0), (.cst (.ty "str"))]) (.and (.cmp .LtE (.lenO [(23, 34)] (.var 0)) (.cst (.int (200)))) (.blt .all [(.lc .val [(.var 0)] (.nm 1) [1] [] (.cmp2 .LtE .LtE (.cst (.str [32])) (.var 1) (.cst (.str [126]))))]))))]⟩
theorem at_is_text : RX.fnOf gl tab 9 = some T.is_text := by kernel_rfl
def T.require_text : Fn := ⟨1, 1, [
  (.ifs (.not (.call 9 [(.var 0)])) [.nev] [])]⟩
theorem at_require_text : RX.fnOf gl tab 10 = some T.require_text := by kernel_rfl
def T.Bounds___init__ : Fn := ⟨9, 5, [
  (.asg (.nm 5) (.lst [(.tup [(.var 1), (.cst (.int (1))), (.cst (.int (64)))]), (.tup [(.var 2), (.cst (.int (1))), (.cst (.int (1000)))]), (.tup [(.var 3), (.cst (.int (0))), (.cst (.int (200)))]), (.tup [(.var 4), (.cst (.int (0))), (.cst (.int (200)))])])),
  (.for_ .val [(.var 5)] (.tp [(.nm 6), (.nm 7), (.nm 8)]) [(.ifs (.not (.call 8 [(.var 6), (.var 7), (.var 8)])) [.nev] [])]),
  (.setF [14] 8425081752881200240 (.var 0) (.var 1)),
  (.setF [14] 8421629423540501616 (.var 0) (.var 2)),
  (.setF [14] 138016721881414808370288 (.var 0) (.var 3)),
  (.setF [14] 57868772494277744 (.var 0) (.var 4))]⟩
theorem at_Bounds___init__ : RX.fnOf gl tab 15 = some T.Bounds___init__ := by kernel_rfl
def T.require_bounds : Fn := ⟨1, 1, [
  (.ifs (.not (.isO (.var 0) 14)) [.nev] [])]⟩
theorem at_require_bounds : RX.fnOf gl tab 16 = some T.require_bounds := by kernel_rfl
def T.require_first_texts : Fn := ⟨2, 1, [
  (.ifs (.not (.blt .isinst [(.var 0), (.cst (.ty "tuple"))])) [.nev] []),
  (.for_ .val [(.var 0)] (.nm 1) [(.ifs (.not (.call 9 [(.var 1)])) [.nev] [])])]⟩
theorem at_require_first_texts : RX.fnOf gl tab 17 = some T.require_first_texts := by kernel_rfl
def T.does_node_fit : Fn := ⟨3, 2, [
  (.ifs (.cmp .Eq (.lenO [(23, 34)] (.var 1)) (.cst (.int (1)))) [(.ret (.cst (.bl true)))] []),
  (.ret (.and (.cmp .LtE (.lenO [(23, 34)] (.var 1)) (.attr [] [14] 8425081752881200240 (.var 0))) (.cmp .LtE (.blt .sum [(.lc .val [(.var 1)] (.nm 2) [2] [] (.lenO [(23, 34)] (.var 2)))]) (.attr [] [14] 8421629423540501616 (.var 0)))))]⟩
theorem at_does_node_fit : RX.fnOf gl tab 18 = some T.does_node_fit := by kernel_rfl
def T.parted_node : Fn := ⟨4, 2, [
  (.asg (.nm 2) (.lst [])),
  (.for_ .val [(.var 1)] (.nm 3) [(.ifs (.and (.cmp .NotEq (.var 2) (.lst [])) (.call 18 [(.var 0), (.tupX [(.sub (.var 2) (.neg (.cst (.int (1))))), (.var 3)] [true, false])])) [(.asgS (.var 2) (.neg (.cst (.int (1)))) (.tupX [(.sub (.var 2) (.neg (.cst (.int (1))))), (.var 3)] [true, false]))] [(.expr (.met .append (.var 2) [(.tup [(.var 3)])]))])]),
  (.ret (.var 2))]⟩
theorem at_parted_node : RX.fnOf gl tab 19 = some T.parted_node := by kernel_rfl
def T.joined_nodes : Fn := ⟨7, 4, [
  (.asg (.nm 4) (.blt .list [(.slc (.var 1) (.cst .non) (.var 2))])),
  (.for_ .enum [(.slc (.var 1) (.var 2) (.cst .non))] (.tp [(.nm 5), (.nm 6)]) [(.ifs (.and (.cmp2 .Lt .LtE (.cst (.int (0))) (.var 5) (.op2 .Sub (.var 3) (.var 2))) (.call 18 [(.var 0), (.tupX [(.sub (.var 4) (.neg (.cst (.int (1))))), (.var 6)] [true, true])])) [(.asgS (.var 4) (.neg (.cst (.int (1)))) (.tupX [(.sub (.var 4) (.neg (.cst (.int (1))))), (.var 6)] [true, true]))] [(.expr (.met .append (.var 4) [(.var 6)]))])]),
  (.ret (.var 4))]⟩
theorem at_joined_nodes : RX.fnOf gl tab 20 = some T.joined_nodes := by kernel_rfl
def T.require_place_below : Fn := ⟨2, 2, [
  (.ifs (.not (.call 8 [(.var 0), (.cst (.int (0))), (.op2 .Sub (.var 1) (.cst (.int (1))))])) [.nev] [])]⟩
theorem at_require_place_below : RX.fnOf gl tab 21 = some T.require_place_below := by kernel_rfl
def T.require_stop : Fn := ⟨2, 2, [
  (.ifs (.not (.call 8 [(.var 0), (.cst (.int (0))), (.var 1)])) [.nev] [])]⟩
theorem at_require_stop : RX.fnOf gl tab 22 = some T.require_stop := by kernel_rfl
def T.Pack___init__ : Fn := ⟨4, 3, [
  (.expr (.call 16 [(.var 1)])),
  (.expr (.call 17 [(.var 2)])),
  (.ifs (.cmp .Gt (.lenO [(23, 34)] (.var 2)) (.cst (.int (200)))) [.nev] []),
  (.setF [23] 1077251983562371759216 (.var 0) (.var 1)),
  (.setF [23] 8416549884636429424 (.var 0) (.tup [])),
  (.setF [23] 57912750006598768 (.var 0) (.tup [])),
  (.for_ .val [(.var 2)] (.nm 3) [(.expr (.meth [(23, 26)] 3534200075124 (.var 0) [(.blt .max [(.cst (.int (0))), (.op2 .Sub (.lenO [(23, 34)] (.attr [] [23] 8416549884636429424 (.var 0))) (.cst (.int (1))))]), (.lstX [(.meth [(23, 25)] 7407228958321488237 (.var 0) []), (.var 3)] [true, false])]))])]⟩
theorem at_Pack___init__ : RX.fnOf gl tab 24 = some T.Pack___init__ := by kernel_rfl
def T.Pack_last_node : Fn := ⟨1, 1, [
  (.ret (.ite (.cmp .NotEq (.attr [] [23] 8416549884636429424 (.var 0)) (.tup [])) (.sub (.attr [] [23] 8416549884636429424 (.var 0)) (.neg (.cst (.int (1))))) (.tup [])))]⟩
theorem at_Pack_last_node : RX.fnOf gl tab 25 = some T.Pack_last_node := by kernel_rfl
def T.Pack_settle : Fn := ⟨9, 3, [
  (.asg (.nm 3) (.call 19 [(.attr [] [23] 1077251983562371759216 (.var 0)), (.var 2)])),
  (.asg (.nm 4) (.lstX [(.slc (.attr [] [23] 8416549884636429424 (.var 0)) (.cst .non) (.var 1)), (.var 3), (.slc (.attr [] [23] 8416549884636429424 (.var 0)) (.op2 .Add (.var 1) (.cst (.int (1)))) (.cst .non))] [true, true, true])),
  (.asg (.nm 5) (.ite (.cmp .NotEq (.var 3) (.lst [])) (.op2 .Sub (.var 1) (.cst (.int (1)))) (.op2 .Sub (.var 1) (.cst (.int (2)))))),
  (.asg (.nm 6) (.ite (.cmp .NotEq (.var 3) (.lst [])) (.op2 .Add (.var 1) (.lenO [(23, 34)] (.var 3))) (.op2 .Add (.var 1) (.cst (.int (1)))))),
  (.setF [23] 8416549884636429424 (.var 0) (.blt .tuple [(.call 20 [(.attr [] [23] 1077251983562371759216 (.var 0)), (.var 4), (.blt .max [(.cst (.int (0))), (.var 5)]), (.var 6)])])),
  (.setF [23] 57912750006598768 (.var 0) (.blt .tuple [(.lc2 [(.attr [] [23] 8416549884636429424 (.var 0))] (.nm 7) [(.var 7)] (.nm 8) [7, 8] (.var 8))]))]⟩
theorem at_Pack_settle : RX.fnOf gl tab 26 = some T.Pack_settle := by kernel_rfl
def T.Pack_spot_in_nodes : Fn := ⟨4, 2, [
  (.par [2, 3] [(.cst (.int (0))), (.var 1)]),
  (.whil (.cmp .GtE (.var 3) (.lenO [(23, 34)] (.sub (.attr [] [23] 8416549884636429424 (.var 0)) (.var 2)))) [(.asg (.nm 3) (.op2 .Sub (.var 3) (.lenO [(23, 34)] (.sub (.attr [] [23] 8416549884636429424 (.var 0)) (.var 2))))), (.asg (.nm 2) (.op2 .Add (.var 2) (.cst (.int (1)))))]),
  (.ret (.tup [(.var 2), (.var 3)]))]⟩
theorem at_Pack_spot_in_nodes : RX.fnOf gl tab 27 = some T.Pack_spot_in_nodes := by kernel_rfl
def T.Pack_put : Fn := ⟨6, 3, [
  (.expr (.call 22 [(.var 1), (.lenO [(23, 34)] (.attr [] [23] 57912750006598768 (.var 0)))])),
  (.expr (.call 10 [(.var 2)])),
  (.ifs (.cmp .GtE (.lenO [(23, 34)] (.attr [] [23] 57912750006598768 (.var 0))) (.cst (.int (200)))) [.nev] []),
  (.ifs (.cmp .Eq (.var 1) (.lenO [(23, 34)] (.attr [] [23] 57912750006598768 (.var 0)))) [(.expr (.meth [(23, 26)] 3534200075124 (.var 0) [(.blt .max [(.cst (.int (0))), (.op2 .Sub (.lenO [(23, 34)] (.attr [] [23] 8416549884636429424 (.var 0))) (.cst (.int (1))))]), (.lstX [(.meth [(23, 25)] 7407228958321488237 (.var 0) []), (.var 2)] [true, false])]))] [(.asg (.tp [(.nm 3), (.nm 4)]) (.meth [(23, 27)] 2259300406229126841559169268 (.var 0) [(.var 1)])), (.asg (.nm 5) (.sub (.attr [] [23] 8416549884636429424 (.var 0)) (.var 3))), (.expr (.meth [(23, 26)] 3534200075124 (.var 0) [(.var 3), (.lstX [(.slc (.var 5) (.cst .non) (.var 4)), (.var 2), (.slc (.var 5) (.var 4) (.cst .non))] [true, false, true])]))])]⟩
theorem at_Pack_put : RX.fnOf gl tab 28 = some T.Pack_put := by kernel_rfl
def T.Pack_take : Fn := ⟨6, 2, [
  (.expr (.call 21 [(.var 1), (.lenO [(23, 34)] (.attr [] [23] 57912750006598768 (.var 0)))])),
  (.asg (.nm 2) (.sub (.attr [] [23] 57912750006598768 (.var 0)) (.var 1))),
  (.asg (.tp [(.nm 3), (.nm 4)]) (.meth [(23, 27)] 2259300406229126841559169268 (.var 0) [(.var 1)])),
  (.asg (.nm 5) (.sub (.attr [] [23] 8416549884636429424 (.var 0)) (.var 3))),
  (.expr (.meth [(23, 26)] 3534200075124 (.var 0) [(.var 3), (.lstX [(.slc (.var 5) (.cst .non) (.var 4)), (.slc (.var 5) (.op2 .Add (.var 4) (.cst (.int (1)))) (.cst .non))] [true, true])])),
  (.ret (.var 2))]⟩
theorem at_Pack_take : RX.fnOf gl tab 29 = some T.Pack_take := by kernel_rfl
def T.Pack_change : Fn := ⟨6, 3, [
  (.expr (.call 21 [(.var 1), (.lenO [(23, 34)] (.attr [] [23] 57912750006598768 (.var 0)))])),
  (.expr (.call 10 [(.var 2)])),
  (.asg (.tp [(.nm 3), (.nm 4)]) (.meth [(23, 27)] 2259300406229126841559169268 (.var 0) [(.var 1)])),
  (.asg (.nm 5) (.sub (.attr [] [23] 8416549884636429424 (.var 0)) (.var 3))),
  (.expr (.meth [(23, 26)] 3534200075124 (.var 0) [(.var 3), (.lstX [(.slc (.var 5) (.cst .non) (.var 4)), (.var 2), (.slc (.var 5) (.op2 .Add (.var 4) (.cst (.int (1)))) (.cst .non))] [true, false, true])]))]⟩
theorem at_Pack_change : RX.fnOf gl tab 30 = some T.Pack_change := by kernel_rfl
def T.Pack_keep : Fn := ⟨4, 3, [
  (.expr (.call 22 [(.var 1), (.lenO [(23, 34)] (.attr [] [23] 57912750006598768 (.var 0)))])),
  (.expr (.call 22 [(.var 2), (.lenO [(23, 34)] (.attr [] [23] 57912750006598768 (.var 0)))])),
  (.for_ .val [(.rev (.lrng [(.lenO [(23, 34)] (.attr [] [23] 57912750006598768 (.var 0)))]))] (.nm 3) [(.ifs (.or (.cmp .Lt (.var 3) (.var 1)) (.cmp .GtE (.var 3) (.var 2))) [(.expr (.meth [(23, 29)] 215691637 (.var 0) [(.var 3)]))] [])])]⟩
theorem at_Pack_keep : RX.fnOf gl tab 31 = some T.Pack_keep := by kernel_rfl
def T.Pack_at : Fn := ⟨2, 2, [
  (.expr (.call 21 [(.var 1), (.lenO [(23, 34)] (.attr [] [23] 57912750006598768 (.var 0)))])),
  (.ret (.sub (.attr [] [23] 57912750006598768 (.var 0)) (.var 1)))]⟩
theorem at_Pack_at : RX.fnOf gl tab 32 = some T.Pack_at := by kernel_rfl
def T.Pack_part : Fn := ⟨3, 3, [
  (.expr (.call 22 [(.var 1), (.lenO [(23, 34)] (.attr [] [23] 57912750006598768 (.var 0)))])),
  (.expr (.call 22 [(.var 2), (.lenO [(23, 34)] (.attr [] [23] 57912750006598768 (.var 0)))])),
  (.ret (.slc (.attr [] [23] 57912750006598768 (.var 0)) (.var 1) (.var 2)))]⟩
theorem at_Pack_part : RX.fnOf gl tab 33 = some T.Pack_part := by kernel_rfl
def T.Pack_nodes : Fn := ⟨1, 1, [
  (.ret (.attr [] [23] 8416549884636429424 (.var 0)))]⟩
theorem at_Pack_nodes : RX.fnOf gl tab 35 = some T.Pack_nodes := by kernel_rfl
def T.Pack_plain : Fn := ⟨1, 1, [
  (.ret (.attr [] [23] 57912750006598768 (.var 0)))]⟩
theorem at_Pack_plain : RX.fnOf gl tab 36 = some T.Pack_plain := by kernel_rfl
def T.Pack___len__ : Fn := ⟨1, 1, [
  (.ret (.lenO [(23, 34)] (.attr [] [23] 57912750006598768 (.var 0))))]⟩
theorem at_Pack___len__ : RX.fnOf gl tab 34 = some T.Pack___len__ := by kernel_rfl
def T._law_dice : Fn := ⟨6, 2, [
  (.asg (.nm 2) (.op2 .Add (.op2 .Mult (.cst (.int (83))) (.var 1)) (.cst (.int (59))))),
  (.ifs (.cmp .Lt (.var 1) (.lenO [(23, 34)] (.var 0))) [(.asg (.nm 2) (.sub (.var 0) (.var 1)))] []),
  (.asg (.nm 3) (.op2 .Mod (.blt .int [(.blt .abs [(.var 2)])]) (.op2 .Pow (.op2 .Pow (.cst (.int (10))) (.cst (.int (60)))) (.cst (.int (10)))))),
  (.asg (.nm 4) (.op2 .FloorDiv (.var 3) (.op2 .Pow (.cst (.int (10))) (.cst (.int (18)))))),
  (.asg (.nm 5) (.op2 .Add (.op2 .Add (.op2 .Add (.op2 .Mult (.op2 .Mod (.var 3) (.cst (.int (2147482811)))) (.cst (.int (60509)))) (.op2 .Mult (.cst (.int (3499))) (.var 1))) (.op2 .Mult (.cst (.int (73))) (.blt .int [(.cmp .Lt (.var 2) (.cst (.int (0))))]))) (.cst (.int (101))))),
  (.ret (.lst [(.var 4), (.op2 .Mod (.var 5) (.cst (.int (2147482801)))), (.cst (.int (0)))]))]⟩
theorem at__law_dice : RX.fnOf gl tab 37 = some T._law_dice := by kernel_rfl
def T._law_roll : Fn := ⟨6, 2, [
  (.asg (.nm 2) (.blt .int [(.var 1)])),
  (.ifs (.cmp .Gt (.sub (.var 0) (.cst (.int (0)))) (.cst (.int (0)))) [(.asg (.nm 3) (.op2 .Mod (.sub (.var 0) (.cst (.int (0)))) (.var 2))), (.asgS (.var 0) (.cst (.int (0))) (.op2 .FloorDiv (.sub (.var 0) (.cst (.int (0)))) (.var 2))), (.ret (.blt .int [(.var 3)]))] []),
  (.asgS (.var 0) (.cst (.int (2))) (.op2 .Add (.sub (.var 0) (.cst (.int (2)))) (.cst (.int (1))))),
  (.asg (.nm 4) (.op2 .Mod (.op2 .Add (.sub (.var 0) (.cst (.int (1)))) (.op2 .Mult (.cst (.int (1000333))) (.sub (.var 0) (.cst (.int (2)))))) (.cst (.int (2305843009213693951))))),
  (.asg (.nm 5) (.op2 .Add (.op2 .Mult (.op2 .Mod (.op2 .Mult (.var 4) (.var 4)) (.cst (.int (2305843009213693921)))) (.var 4)) (.op2 .Mult (.cst (.int (9479))) (.sub (.var 0) (.cst (.int (2))))))),
  (.asg (.nm 5) (.op2 .Mod (.var 5) (.cst (.int (2305843009213693907))))),
  (.ret (.blt .int [(.op2 .Mod (.op2 .FloorDiv (.var 5) (.cst (.int (4096)))) (.var 2))]))]⟩
theorem at__law_roll : RX.fnOf gl tab 38 = some T._law_roll := by kernel_rfl
def T._law_one_of : Fn := ⟨2, 2, [
  (.ret (.sub (.var 1) (.call 38 [(.var 0), (.lenO [(23, 34)] (.var 1))])))]⟩
theorem at__law_one_of : RX.fnOf gl tab 39 = some T._law_one_of := by kernel_rfl
def T._law_text : Fn := ⟨2, 1, [
  (.asg (.nm 1) (.lst [(.cst (.str [])), (.cst (.str [120])), (.cst (.str [97, 32, 98])), (.cst (.str [107, 59, 58])), (.cst (.str [55, 32, 56])), (.cst (.str [108, 111, 110, 103, 101, 114, 32, 116, 104, 97, 110, 32, 97, 108, 108, 32, 111, 102, 32, 116, 104, 101, 32, 111, 116, 104, 101, 114, 115]))])),
  (.ret (.ite (.cmp .Eq (.call 38 [(.var 0), (.cst (.int (2)))]) (.cst (.int (0)))) (.call 39 [(.var 0), (.var 1)]) (.call 41 [(.var 0)])))]⟩
theorem at__law_text : RX.fnOf gl tab 40 = some T._law_text := by kernel_rfl
def T._law_number : Fn := ⟨1, 1, [
  (.ifs (.cmp .Eq (.call 38 [(.var 0), (.cst (.int (12)))]) (.cst (.int (0)))) [(.ret (.blt .str [(.call 39 [(.var 0), (.lst [(.op2 .Sub (.op2 .Pow (.cst (.int (2))) (.cst (.int (63)))) (.cst (.int (1)))), (.op2 .Sub (.op2 .Sub (.cst (.int (1))) (.op2 .Pow (.cst (.int (2))) (.cst (.int (63))))) (.cst (.int (1)))), (.op2 .Pow (.cst (.int (2))) (.cst (.int (62)))), (.op2 .Pow (.cst (.int (10))) (.cst (.int (18))))])])]))] []),
  (.ret (.blt .str [(.op2 .Sub (.call 38 [(.var 0), (.cst (.int (9)))]) (.cst (.int (4))))]))]⟩
theorem at__law_number : RX.fnOf gl tab 41 = some T._law_number := by kernel_rfl
def T._law_some : Fn := ⟨4, 3, [
  (.ret (.lc .rng [(.op2 .Add (.cst (.int (1))) (.call 38 [(.var 0), (.var 2)]))] (.nm 3) [3] [] (.callv 1 [(.var 0)])))]⟩
theorem at__law_some : RX.fnOf gl tab 42 = some T._law_some := by kernel_rfl
def T._law_fits : Fn := ⟨3, 2, [
  (.ret (.or (.cmp .Eq (.lenO [(23, 34)] (.var 1)) (.cst (.int (1)))) (.and (.cmp .LtE (.lenO [(23, 34)] (.var 1)) (.sub (.var 0) (.cst (.int (0))))) (.cmp .LtE (.blt .sum [(.lc .val [(.var 1)] (.nm 2) [2] [] (.lenO [(23, 34)] (.var 2)))]) (.sub (.var 0) (.cst (.int (1))))))))]⟩
theorem at__law_fits : RX.fnOf gl tab 43 = some T._law_fits := by kernel_rfl
def T._law_drawn_numbers : Fn := ⟨1, 1, [
  (.ret (.lst [(.call 39 [(.var 0), (.lst [(.cst (.int (1))), (.cst (.int (2))), (.cst (.int (2))), (.cst (.int (3))), (.cst (.int (4))), (.cst (.int (8)))])]), (.call 39 [(.var 0), (.lst [(.cst (.int (1))), (.cst (.int (4))), (.cst (.int (6))), (.cst (.int (9))), (.cst (.int (30))), (.cst (.int (64)))])])]))]⟩
theorem at__law_drawn_numbers : RX.fnOf gl tab 44 = some T._law_drawn_numbers := by kernel_rfl
def T._law_parted : Fn := ⟨4, 2, [
  (.asg (.nm 2) (.lst [])),
  (.for_ .val [(.var 1)] (.nm 3) [(.ifs (.and (.cmp .NotEq (.var 2) (.lst [])) (.call 43 [(.var 0), (.op2 .Add (.sub (.var 2) (.neg (.cst (.int (1))))) (.tup [(.var 3)]))])) [(.asgS (.var 2) (.neg (.cst (.int (1)))) (.op2 .Add (.sub (.var 2) (.neg (.cst (.int (1))))) (.tup [(.var 3)])))] [(.expr (.met .append (.var 2) [(.tup [(.var 3)])]))])]),
  (.ret (.var 2))]⟩
theorem at__law_parted : RX.fnOf gl tab 45 = some T._law_parted := by kernel_rfl
def T._law_joined : Fn := ⟨4, 2, [
  (.asg (.nm 2) (.lst [])),
  (.for_ .val [(.var 1)] (.nm 3) [(.ifs (.and (.cmp .NotEq (.var 2) (.lst [])) (.call 43 [(.var 0), (.op2 .Add (.sub (.var 2) (.neg (.cst (.int (1))))) (.var 3))])) [(.asgS (.var 2) (.neg (.cst (.int (1)))) (.op2 .Add (.sub (.var 2) (.neg (.cst (.int (1))))) (.var 3)))] [(.expr (.met .append (.var 2) [(.var 3)]))])]),
  (.ret (.var 2))]⟩
theorem at__law_joined : RX.fnOf gl tab 46 = some T._law_joined := by kernel_rfl
def T._law_spot : Fn := ⟨5, 2, [
  (.asg (.nm 2) (.var 1)),
  (.for_ .enum [(.var 0)] (.tp [(.nm 3), (.nm 4)]) [(.ifs (.cmp .Lt (.var 2) (.lenO [(23, 34)] (.var 4))) [(.ret (.lst [(.var 3), (.var 2)]))] []), (.asg (.nm 2) (.op2 .Sub (.var 2) (.lenO [(23, 34)] (.var 4))))]),
  (.ret (.lst [(.op2 .Sub (.lenO [(23, 34)] (.var 0)) (.cst (.int (1)))), (.lenO [(23, 34)] (.sub (.var 0) (.neg (.cst (.int (1))))))]))]⟩
theorem at__law_spot : RX.fnOf gl tab 47 = some T._law_spot := by kernel_rfl
def T._law_with : Fn := ⟨7, 4, [
  (.asg (.nm 4) (.call 45 [(.var 0), (.var 3)])),
  (.par [5, 6] [(.blt .max [(.cst (.int (0))), (.op2 .Sub (.var 2) (.cst (.int (1))))]), (.op2 .Add (.var 2) (.cst (.int (2))))]),
  (.ret (.op2 .Add (.op2 .Add (.slc (.var 1) (.cst .non) (.var 5)) (.call 46 [(.var 0), (.op2 .Add (.op2 .Add (.slc (.var 1) (.var 5) (.var 2)) (.var 4)) (.slc (.var 1) (.op2 .Add (.var 2) (.cst (.int (1)))) (.var 6)))])) (.slc (.var 1) (.var 6) (.cst .non))))]⟩
theorem at__law_with : RX.fnOf gl tab 48 = some T._law_with := by kernel_rfl
def T._law_put : Fn := ⟨6, 4, [
  (.ifs (.cmp .Eq (.var 1) (.lst [])) [(.ret (.lst [(.tup [(.var 3)])]))] []),
  (.asg (.tp [(.nm 4), (.nm 5)]) (.call 47 [(.var 1), (.var 2)])),
  (.ret (.call 48 [(.var 0), (.var 1), (.var 4), (.op2 .Add (.op2 .Add (.slc (.sub (.var 1) (.var 4)) (.cst .non) (.var 5)) (.tup [(.var 3)])) (.slc (.sub (.var 1) (.var 4)) (.var 5) (.cst .non)))]))]⟩
theorem at__law_put : RX.fnOf gl tab 49 = some T._law_put := by kernel_rfl
def T._law_less : Fn := ⟨5, 3, [
  (.asg (.tp [(.nm 3), (.nm 4)]) (.call 47 [(.var 1), (.var 2)])),
  (.ret (.call 48 [(.var 0), (.var 1), (.var 3), (.op2 .Add (.slc (.sub (.var 1) (.var 3)) (.cst .non) (.var 4)) (.slc (.sub (.var 1) (.var 3)) (.op2 .Add (.var 4) (.cst (.int (1)))) (.cst .non)))]))]⟩
theorem at__law_less : RX.fnOf gl tab 50 = some T._law_less := by kernel_rfl
def T._law_step : Fn := ⟨16, 4, [
  (.asg (.nm 4) (.lst [])),
  (.for_ .val [(.var 3)] (.nm 5) [(.expr (.met .extend (.var 4) [(.blt .list [(.var 5)])]))]),
  (.par [6, 7, 8] [(.call 38 [(.var 0), (.cst (.int (10)))]), (.call 40 [(.var 0)]), (.call 38 [(.var 0), (.op2 .Add (.lenO [(23, 34)] (.var 4)) (.cst (.int (1))))])]),
  (.ifs (.or (.cmp .Lt (.var 6) (.cst (.int (5)))) (.cmp .Eq (.var 4) (.lst []))) [(.asg (.nm 8) (.call 39 [(.var 0), (.lst [(.var 8), (.var 8), (.cst (.int (0))), (.lenO [(23, 34)] (.var 4))])])), (.ret (.ite (.cmp .Is (.meth [(23, 28)] 1932145 (.var 2) [(.var 8), (.var 7)]) (.cst .non)) (.call 49 [(.var 1), (.var 3), (.var 8), (.var 7)]) (.cst .non)))] []),
  (.asg (.nm 8) (.call 38 [(.var 0), (.lenO [(23, 34)] (.var 4))])),
  (.ifs (.cmp .Lt (.var 6) (.cst (.int (7)))) [(.ret (.ite (.cmp .Eq (.meth [(23, 29)] 215691637 (.var 2) [(.var 8)]) (.sub (.var 4) (.var 8))) (.call 50 [(.var 1), (.var 3), (.var 8)]) (.cst .non)))] []),
  (.ifs (.cmp .Lt (.var 6) (.cst (.int (9)))) [(.asg (.tp [(.nm 9), (.nm 10)]) (.call 47 [(.var 3), (.var 8)])), (.asg (.nm 11) (.meth [(23, 30)] 3532845004004 (.var 2) [(.var 8), (.var 7)])), (.asg (.nm 12) (.op2 .Add (.op2 .Add (.slc (.sub (.var 3) (.var 9)) (.cst .non) (.var 10)) (.tup [(.var 7)])) (.slc (.sub (.var 3) (.var 9)) (.op2 .Add (.var 10) (.cst (.int (1)))) (.cst .non)))), (.ret (.ite (.cmp .Is (.var 11) (.cst .non)) (.call 48 [(.var 1), (.var 3), (.var 9), (.var 12)]) (.cst .non)))] []),
  (.asg (.nm 13) (.call 38 [(.var 0), (.lenO [(23, 34)] (.var 4))])),
  (.asg (.nm 14) (.op2 .Add (.var 13) (.call 38 [(.var 0), (.op2 .Sub (.op2 .Add (.lenO [(23, 34)] (.var 4)) (.cst (.int (1)))) (.var 13))]))),
  (.ifs (.cmp .IsNot (.meth [(23, 31)] 238662508 (.var 2) [(.var 13), (.var 14)]) (.cst .non)) [(.ret (.cst .non))] []),
  (.for_ .rng [(.op2 .Sub (.lenO [(23, 34)] (.var 4)) (.cst (.int (1)))), (.neg (.cst (.int (1)))), (.neg (.cst (.int (1))))] (.nm 15) [(.ifs (.not (.cmp2 .LtE .Lt (.var 13) (.var 15) (.var 14))) [(.asg (.nm 3) (.call 50 [(.var 1), (.var 3), (.var 15)]))] [])]),
  (.ret (.var 3))]⟩
theorem at__law_step : RX.fnOf gl tab 51 = some T._law_step := by kernel_rfl
def T._law_is_as : Fn := ⟨8, 2, [
  (.asg (.nm 2) (.lst [])),
  (.for_ .val [(.var 1)] (.nm 3) [(.expr (.met .extend (.var 2) [(.blt .list [(.var 3)])]))]),
  (.ifs (.or (.cmp .NotEq (.attr [(23, 35)] [] 31354091631 (.var 0)) (.blt .tuple [(.var 1)])) (.or (.cmp .NotEq (.attr [(23, 36)] [] 30020253425 (.var 0)) (.blt .tuple [(.var 2)])) (.cmp .NotEq (.lenO [(23, 34)] (.var 0)) (.lenO [(23, 34)] (.var 2))))) [(.ret (.cst (.bl false)))] []),
  (.ifs (.cmp .NotEq (.lc .enum [(.var 2)] (.tp [(.nm 6), (.nm 7)]) [6, 7] [(.cmp .NotEq (.meth [(23, 32)] 15074 (.var 0) [(.var 6)]) (.var 7))] (.var 6)) (.lst [])) [(.ret (.cst (.bl false)))] []),
  (.par [4, 5] [(.op2 .FloorDiv (.lenO [(23, 34)] (.var 2)) (.cst (.int (3)))), (.op2 .Mult (.op2 .FloorDiv (.lenO [(23, 34)] (.var 2)) (.cst (.int (3)))) (.cst (.int (2))))]),
  (.ret (.and (.cmp .Eq (.meth [(23, 33)] 247263601 (.var 0) [(.var 4), (.var 5)]) (.blt .tuple [(.slc (.var 2) (.var 4) (.var 5))])) (.cmp .Eq (.meth [(23, 33)] 247263601 (.var 0) [(.cst (.int (0))), (.lenO [(23, 34)] (.var 2))]) (.blt .tuple [(.var 2)]))))]⟩
theorem at__law_is_as : RX.fnOf gl tab 52 = some T._law_is_as := by kernel_rfl
def T._law_right : Fn := ⟨8, 1, [
  (.par [1, 2] [(.call 44 [(.var 0)]), (.lst [])]),
  (.asg (.nm 3) (.call 42 [(.var 0), (.cst (.gl 40)), (.cst (.int (4)))])),
  (.asg (.nm 4) (.make 23 24 [(.make 14 15 [(.sub (.var 1) (.cst (.int (0)))), (.sub (.var 1) (.cst (.int (1)))), (.cst (.int (3))), (.cst (.int (8)))]), (.blt .tuple [(.var 3)])])),
  (.for_ .val [(.var 3)] (.nm 5) [(.asg (.nm 2) (.call 49 [(.var 1), (.var 2), (.blt .sum [(.lc .val [(.var 2)] (.nm 7) [7] [] (.lenO [(23, 34)] (.var 7)))]), (.var 5)]))]),
  (.for_ .rng [(.cst (.int (16)))] (.nm 6) [(.ifs (.or (.cmp .Is (.var 2) (.cst .non)) (.not (.call 52 [(.var 4), (.var 2)]))) [(.ret (.cst (.bl false)))] []), (.asg (.nm 2) (.call 51 [(.var 0), (.var 1), (.var 4), (.var 2)]))]),
  (.ret (.and (.cmp .IsNot (.var 2) (.cst .non)) (.call 52 [(.var 4), (.var 2)])))]⟩
theorem at__law_right : RX.fnOf gl tab 53 = some T._law_right := by kernel_rfl
def T.law_ : Fn := ⟨4, 1, [
  (.for_ .rng [(.blt .max [(.cst (.int (1))), (.blt .min [(.cst (.int (3))), (.lenO [(23, 34)] (.var 0))])])] (.nm 1) [(.ifs (.not (.call 53 [(.call 37 [(.var 0), (.var 1)])])) [(.ret (.cst (.bl false)))] [])]),
  (.asg (.nm 2) (.make 23 24 [(.make 14 15 [(.cst (.int (2))), (.cst (.int (6))), (.cst (.int (3))), (.cst (.int (8)))]), (.tup [(.cst (.str [97])), (.cst (.str [98])), (.cst (.str [99]))])])),
  (.asg (.nm 3) (.lst [(.attr [(23, 35)] [] 31354091631 (.var 2)), (.meth [(23, 28)] 1932145 (.var 2) [(.cst (.int (1))), (.cst (.str [120]))]), (.attr [(23, 35)] [] 31354091631 (.var 2)), (.meth [(23, 29)] 215691637 (.var 2) [(.cst (.int (0)))]), (.attr [(23, 35)] [] 31354091631 (.var 2))])),
  (.ret (.cmp .Eq (.var 3) (.lst [(.tup [(.tup [(.cst (.str [97])), (.cst (.str [98]))]), (.tup [(.cst (.str [99]))])]), (.cst .non), (.tup [(.tup [(.cst (.str [97])), (.cst (.str [120]))]), (.tup [(.cst (.str [98])), (.cst (.str [99]))])]), (.cst (.str [97])), (.tup [(.tup [(.cst (.str [120]))]), (.tup [(.cst (.str [98])), (.cst (.str [99]))])])])))]⟩
theorem at_law_ : RX.fnOf gl tab 54 = some T.law_ := by kernel_rfl
structure At (F : Nat → Option Fn) : Prop where
  _wall : F 0 = some T._wall
  is_integer : F 7 = some T.is_integer
  is_within : F 8 = some T.is_within
  is_text : F 9 = some T.is_text
  require_text : F 10 = some T.require_text
  Bounds___init__ : F 15 = some T.Bounds___init__
  require_bounds : F 16 = some T.require_bounds
  require_first_texts : F 17 = some T.require_first_texts
  does_node_fit : F 18 = some T.does_node_fit
  parted_node : F 19 = some T.parted_node
  joined_nodes : F 20 = some T.joined_nodes
  require_place_below : F 21 = some T.require_place_below
  require_stop : F 22 = some T.require_stop
  Pack___init__ : F 24 = some T.Pack___init__
  Pack_last_node : F 25 = some T.Pack_last_node
  Pack_settle : F 26 = some T.Pack_settle
  Pack_spot_in_nodes : F 27 = some T.Pack_spot_in_nodes
  Pack_put : F 28 = some T.Pack_put
  Pack_take : F 29 = some T.Pack_take
  Pack_change : F 30 = some T.Pack_change
  Pack_keep : F 31 = some T.Pack_keep
  Pack_at : F 32 = some T.Pack_at
  Pack_part : F 33 = some T.Pack_part
  Pack_nodes : F 35 = some T.Pack_nodes
  Pack_plain : F 36 = some T.Pack_plain
  Pack___len__ : F 34 = some T.Pack___len__
  _law_dice : F 37 = some T._law_dice
  _law_roll : F 38 = some T._law_roll
  _law_one_of : F 39 = some T._law_one_of
  _law_text : F 40 = some T._law_text
  _law_number : F 41 = some T._law_number
  _law_some : F 42 = some T._law_some
  _law_fits : F 43 = some T._law_fits
  _law_drawn_numbers : F 44 = some T._law_drawn_numbers
  _law_parted : F 45 = some T._law_parted
  _law_joined : F 46 = some T._law_joined
  _law_spot : F 47 = some T._law_spot
  _law_with : F 48 = some T._law_with
  _law_put : F 49 = some T._law_put
  _law_less : F 50 = some T._law_less
  _law_step : F 51 = some T._law_step
  _law_is_as : F 52 = some T._law_is_as
  _law_right : F 53 = some T._law_right
  law_ : F 54 = some T.law_
theorem at_all : At (RX.fnOf gl tab) := ⟨at__wall, at_is_integer, at_is_within, at_is_text, at_require_text, at_Bounds___init__, at_require_bounds, at_require_first_texts, at_does_node_fit, at_parted_node, at_joined_nodes, at_require_place_below, at_require_stop, at_Pack___init__, at_Pack_last_node, at_Pack_settle, at_Pack_spot_in_nodes, at_Pack_put, at_Pack_take, at_Pack_change, at_Pack_keep, at_Pack_at, at_Pack_part, at_Pack_nodes, at_Pack_plain, at_Pack___len__, at__law_dice, at__law_roll, at__law_one_of, at__law_text, at__law_number, at__law_some, at__law_fits, at__law_drawn_numbers, at__law_parted, at__law_joined, at__law_spot, at__law_with, at__law_put, at__law_less, at__law_step, at__law_is_as, at__law_right, at_law_⟩
end Law

namespace Law
open RX PySem
def deep : Nat := 20
abbrev ndD (n : Nd) : D := .tup (n.map D.str)
abbrev nsD (ns : List Nd) : List D := ns.map ndD
abbrev bndC (mT mS : Nat) : Cell := .ins 14 [(8425081752881200240, .int mT), (8421629423540501616, .int mS), (138016721881414808370288, .int 3), (57868772494277744, .int 8)]
abbrev pkC (b : Nat) (ns : List Nd) : Cell := .ins 23 [(1077251983562371759216, .ref b), (8416549884636429424, .tup (nsD ns)), (57912750006598768, .tup (ns.flatten.map D.str))]
def gT (t : Tx) : Prop := t.length ≤ 40 ∧ ∀ c ∈ t, 32 ≤ c ∧ c ≤ 126
def gTs (ts : List Tx) : Prop := ∀ t ∈ ts, gT t
theorem SLv : SL = 16777216 := rfl
theorem gT_sl {t : Tx} (h : gT t) : t.length ≤ SL := by have := h.1; rw [SLv]; omega
theorem all_true : ∀ t : Tx, (t.map fun c => D.str [c]).filterMap (fun _ => some (D.bl true)) = (t.map fun _ => true).map D.bl
  | [] => rfl
  | c :: t => by simp only [List.map_cons, List.filterMap_cons, all_true t]
section
variable {F : Nat → Option Fn} (A : At F) {k : Nat} {st : Store} {P : D → Store → Prop}
include A
theorem is_integer {i : Int} (q : P (.bl true) st) : (callN F (k + 1) 7 [.int i] st).W P := by
  rw [W_call A.is_integer rfl]
  simp only [List.map_cons, List.map_nil, List.cons_append, List.nil_append, List.length_cons, List.length_nil, List.replicate_succ, List.replicate_zero, Nat.reduceAdd, Nat.reduceSub, T.is_integer]
  (repeat' (first
    | (with_reducible refine wSs_cons ?_; try simp only [List.set_cons_zero, List.set_cons_succ]) | with_reducible refine wS_asg ?_ | with_reducible refine wS_if ?_ | with_reducible refine wS_ret ?_ | with_reducible refine wS_expr ?_ | with_reducible refine wS_asgS ?_ | with_reducible refine wS_par ?_ | with_reducible refine wS_asgT ?_ | with_reducible refine wS_for ?_ | (with_reducible refine wSs_nil ?_; try simp only [List.set_cons_zero, List.set_cons_succ])
    | with_reducible refine wE_cst ?_ | with_reducible refine wE_op2 ?_ | with_reducible refine wE_cmp ?_ | with_reducible refine wE_sub ?_ | with_reducible refine wE_call ?_ | with_reducible refine wE_blt ?_ | with_reducible refine wEs_cons ?_ | with_reducible refine wEs_nil ?_ | with_reducible refine wT ?_ | with_reducible refine wE_not ?_ | with_reducible refine wE_lst ?_ | with_reducible refine wE_tup ?_ | with_reducible refine wE_and ?_ | with_reducible refine wE_or ?_ | with_reducible refine wE_ite ?_ | with_reducible refine wE_cmp2 ?_ | with_reducible refine wE_lc ?_ | with_reducible refine wE_slc ?_ | with_reducible refine wE_neg ?_ | with_reducible refine wE_lzip ?_ | with_reducible refine wE_lstX ?_ | with_reducible refine wE_tupX ?_ | with_reducible refine wXs_nil ?_ | with_reducible refine wXs_cons ?_ | with_reducible refine wXs_star ?_ | with_reducible refine wS_whil ?_ | with_reducible refine w_lenT ?_ | with_reducible refine w_slcT ?_ | with_reducible refine w_tupT ?_ | with_reducible refine ⟨(_ : Int), rfl, ?_⟩
    | with_reducible refine ⟨(_ : Option Int), by rfl, ?_⟩ | with_reducible refine ⟨(_ : Src × Nat), g_srcS, ?_⟩ | with_reducible refine ⟨(_ : Src × Nat), g_srcE, ?_⟩ | with_reducible refine ⟨(_ : Src × Nat), g_srcT, ?_⟩ | with_reducible refine ⟨(_ : Src × Nat), g_srcL (by assumption), ?_⟩
     | with_reducible refine wE_at ?_ | with_reducible refine wE_prop ?_ | with_reducible refine wE_meth ?_ | with_reducible refine wE_lenO ?_ | with_reducible refine w_lenOT ?_ | with_reducible refine wS_setF ?_ | refine ⟨(_ : Nat), (_ : List (Nat × D)), (_ : D), g_ins (by assumption), rfl, rfl, ?_⟩ | refine ⟨(_ : Nat), (_ : List (Nat × D)), (_ : Nat), g_ins (by assumption), rfl, ?_⟩ | refine ⟨(_ : Nat), g_meth (by assumption) rfl rfl, ?_⟩ | with_reducible refine w_add ?_ | with_reducible refine w_sub ?_ | with_reducible refine w_leS ?_ | with_reducible refine w_lt ?_ | with_reducible refine w_le ?_ | with_reducible refine w_gt ?_ | with_reducible refine w_ge ?_ | with_reducible refine w_int ?_ | with_reducible refine w_intB ?_ | with_reducible refine w_abs ?_ | with_reducible refine w_ord ?_ | with_reducible refine w_min ?_ | with_reducible refine w_max ?_
    | refine wE_var rfl ?_
    | with_reducible refine w_eqS ?_ | with_reducible refine w_neS ?_ | with_reducible refine w_eq (eqD_bl _ _ _) ?_ | with_reducible refine w_ne (eqD_bl _ _ _) ?_
    | (with_reducible refine w_eqI (b := true) ?_ ?_; exact decide_eq_true (by omega)) | (with_reducible refine w_eqI (b := false) ?_ ?_; exact decide_eq_false (by omega)) | (with_reducible refine w_neI (b := true) ?_ ?_; exact decide_eq_true (by omega)) | (with_reducible refine w_neI (b := false) ?_ ?_; exact decide_eq_false (by omega))
    | with_reducible refine w_eq (eqD_int _ _ _) ?_ | with_reducible refine w_ne (eqD_int _ _ _) ?_
    | (with_reducible refine w_mod ?_ ?_; (first | omega | decide +kernel)) | (with_reducible refine w_mul ?_ ?_; exact mul_ok (by omega) (by first | omega | (split <;> omega))) | (with_reducible refine w_div ?_ ?_; (first | exact div_ok (by omega) (by omega) | decide +kernel)) | (with_reducible refine w_pow ?_ ?_; decide +kernel)
    | with_reducible refine ⟨(_ : Bool), g_eqI (b := true) (decide_eq_true (by omega)), ?_⟩ | with_reducible refine ⟨(_ : Bool), g_eqI (b := false) (decide_eq_false (by omega)), ?_⟩ | refine ⟨(_ : Bool), rfl, ?_⟩ | with_reducible refine w_isI_int ?_ | with_reducible refine w_isI_bool ?_ | with_reducible refine w_isI_str ?_ | with_reducible refine w_isI_tuple ?_ | with_reducible refine w_isI_list ?_ | with_reducible refine w_isS_int ?_ | with_reducible refine w_isS_bool ?_ | with_reducible refine w_isS_str ?_ | with_reducible refine w_isS_tuple ?_ | with_reducible refine w_isS_list ?_ | with_reducible refine w_isB_int ?_ | with_reducible refine w_isB_bool ?_ | with_reducible refine w_isB_str ?_ | with_reducible refine w_isB_tuple ?_ | with_reducible refine w_isB_list ?_ | with_reducible refine w_isN_int ?_ | with_reducible refine w_isN_bool ?_ | with_reducible refine w_isN_str ?_ | with_reducible refine w_isN_tuple ?_ | with_reducible refine w_isN_list ?_ | with_reducible refine w_isT_int ?_ | with_reducible refine w_isT_bool ?_ | with_reducible refine w_isT_str ?_ | with_reducible refine w_isT_tuple ?_ | with_reducible refine w_isT_list ?_
    | refine ⟨(_ : Option Int), rfl, ?_⟩ | refine ⟨(_ : D), g_subT rfl, ?_⟩ | refine ⟨(_ : D), g_subL (get_app _ _) rfl, ?_⟩ | refine ⟨(_ : D), g_subL (get_app2 _ _ _) rfl, ?_⟩ | refine ⟨(_ : D), g_subL (by assumption) rfl, ?_⟩ | refine ⟨(_ : D), g_subL (get_set (by assumption)) rfl, ?_⟩ | refine ⟨(_ : Store), g_set (by assumption) rfl, ?_⟩ | refine ⟨(_ : Store), g_set (get_set (by assumption)) rfl, ?_⟩
    | (with_reducible refine ⟨fun hh => ?_, fun hh => ?_⟩ <;> try exact absurd hh (by decide)) | refine ⟨by simp only [List.length_cons, List.length_nil]; decide, ?_⟩
    | simp only [List.set_cons_zero, List.set_cons_succ] | simp only [List.set_set]))
  exact q
theorem is_within {i lo hi : Int} (h : lo ≤ i ∧ i ≤ hi) (q : P (.bl true) st) : (callN F (k + 2) 8 [.int i, .int lo, .int hi] st).W P := by
  rw [W_call A.is_within rfl]
  simp only [List.map_cons, List.map_nil, List.cons_append, List.nil_append, List.length_cons, List.length_nil, List.replicate_succ, List.replicate_zero, Nat.reduceAdd, Nat.reduceSub, T.is_within]
  (repeat' (first
    | (with_reducible refine wSs_cons ?_; try simp only [List.set_cons_zero, List.set_cons_succ]) | with_reducible refine wS_asg ?_ | with_reducible refine wS_if ?_ | with_reducible refine wS_ret ?_ | with_reducible refine wS_expr ?_ | with_reducible refine wS_asgS ?_ | with_reducible refine wS_par ?_ | with_reducible refine wS_asgT ?_ | with_reducible refine wS_for ?_ | (with_reducible refine wSs_nil ?_; try simp only [List.set_cons_zero, List.set_cons_succ])
    | with_reducible refine wE_cst ?_ | with_reducible refine wE_op2 ?_ | with_reducible refine wE_cmp ?_ | with_reducible refine wE_sub ?_ | with_reducible refine wE_call ?_ | with_reducible refine wE_blt ?_ | with_reducible refine wEs_cons ?_ | with_reducible refine wEs_nil ?_ | with_reducible refine wT ?_ | with_reducible refine wE_not ?_ | with_reducible refine wE_lst ?_ | with_reducible refine wE_tup ?_ | with_reducible refine wE_and ?_ | with_reducible refine wE_or ?_ | with_reducible refine wE_ite ?_ | with_reducible refine wE_cmp2 ?_ | with_reducible refine wE_lc ?_ | with_reducible refine wE_slc ?_ | with_reducible refine wE_neg ?_ | with_reducible refine wE_lzip ?_ | with_reducible refine wE_lstX ?_ | with_reducible refine wE_tupX ?_ | with_reducible refine wXs_nil ?_ | with_reducible refine wXs_cons ?_ | with_reducible refine wXs_star ?_ | with_reducible refine wS_whil ?_ | with_reducible refine w_lenT ?_ | with_reducible refine w_slcT ?_ | with_reducible refine w_tupT ?_ | with_reducible refine ⟨(_ : Int), rfl, ?_⟩
    | with_reducible refine ⟨(_ : Option Int), by rfl, ?_⟩ | with_reducible refine ⟨(_ : Src × Nat), g_srcS, ?_⟩ | with_reducible refine ⟨(_ : Src × Nat), g_srcE, ?_⟩ | with_reducible refine ⟨(_ : Src × Nat), g_srcT, ?_⟩ | with_reducible refine ⟨(_ : Src × Nat), g_srcL (by assumption), ?_⟩
     | with_reducible refine wE_at ?_ | with_reducible refine wE_prop ?_ | with_reducible refine wE_meth ?_ | with_reducible refine wE_lenO ?_ | with_reducible refine w_lenOT ?_ | with_reducible refine wS_setF ?_ | refine ⟨(_ : Nat), (_ : List (Nat × D)), (_ : D), g_ins (by assumption), rfl, rfl, ?_⟩ | refine ⟨(_ : Nat), (_ : List (Nat × D)), (_ : Nat), g_ins (by assumption), rfl, ?_⟩ | refine ⟨(_ : Nat), g_meth (by assumption) rfl rfl, ?_⟩ | with_reducible refine w_add ?_ | with_reducible refine w_sub ?_ | with_reducible refine w_leS ?_ | with_reducible refine w_lt ?_ | with_reducible refine w_le ?_ | with_reducible refine w_gt ?_ | with_reducible refine w_ge ?_ | with_reducible refine w_int ?_ | with_reducible refine w_intB ?_ | with_reducible refine w_abs ?_ | with_reducible refine w_ord ?_ | with_reducible refine w_min ?_ | with_reducible refine w_max ?_
    | refine wE_var rfl ?_
    | with_reducible refine w_eqS ?_ | with_reducible refine w_neS ?_ | with_reducible refine w_eq (eqD_bl _ _ _) ?_ | with_reducible refine w_ne (eqD_bl _ _ _) ?_
    | (with_reducible refine w_eqI (b := true) ?_ ?_; exact decide_eq_true (by omega)) | (with_reducible refine w_eqI (b := false) ?_ ?_; exact decide_eq_false (by omega)) | (with_reducible refine w_neI (b := true) ?_ ?_; exact decide_eq_true (by omega)) | (with_reducible refine w_neI (b := false) ?_ ?_; exact decide_eq_false (by omega))
    | with_reducible refine w_eq (eqD_int _ _ _) ?_ | with_reducible refine w_ne (eqD_int _ _ _) ?_
    | (with_reducible refine w_mod ?_ ?_; (first | omega | decide +kernel)) | (with_reducible refine w_mul ?_ ?_; exact mul_ok (by omega) (by first | omega | (split <;> omega))) | (with_reducible refine w_div ?_ ?_; (first | exact div_ok (by omega) (by omega) | decide +kernel)) | (with_reducible refine w_pow ?_ ?_; decide +kernel)
    | with_reducible refine ⟨(_ : Bool), g_eqI (b := true) (decide_eq_true (by omega)), ?_⟩ | with_reducible refine ⟨(_ : Bool), g_eqI (b := false) (decide_eq_false (by omega)), ?_⟩ | refine ⟨(_ : Bool), rfl, ?_⟩ | with_reducible refine w_isI_int ?_ | with_reducible refine w_isI_bool ?_ | with_reducible refine w_isI_str ?_ | with_reducible refine w_isI_tuple ?_ | with_reducible refine w_isI_list ?_ | with_reducible refine w_isS_int ?_ | with_reducible refine w_isS_bool ?_ | with_reducible refine w_isS_str ?_ | with_reducible refine w_isS_tuple ?_ | with_reducible refine w_isS_list ?_ | with_reducible refine w_isB_int ?_ | with_reducible refine w_isB_bool ?_ | with_reducible refine w_isB_str ?_ | with_reducible refine w_isB_tuple ?_ | with_reducible refine w_isB_list ?_ | with_reducible refine w_isN_int ?_ | with_reducible refine w_isN_bool ?_ | with_reducible refine w_isN_str ?_ | with_reducible refine w_isN_tuple ?_ | with_reducible refine w_isN_list ?_ | with_reducible refine w_isT_int ?_ | with_reducible refine w_isT_bool ?_ | with_reducible refine w_isT_str ?_ | with_reducible refine w_isT_tuple ?_ | with_reducible refine w_isT_list ?_
    | refine ⟨(_ : Option Int), rfl, ?_⟩ | refine ⟨(_ : D), g_subT rfl, ?_⟩ | refine ⟨(_ : D), g_subL (get_app _ _) rfl, ?_⟩ | refine ⟨(_ : D), g_subL (get_app2 _ _ _) rfl, ?_⟩ | refine ⟨(_ : D), g_subL (by assumption) rfl, ?_⟩ | refine ⟨(_ : D), g_subL (get_set (by assumption)) rfl, ?_⟩ | refine ⟨(_ : Store), g_set (by assumption) rfl, ?_⟩ | refine ⟨(_ : Store), g_set (get_set (by assumption)) rfl, ?_⟩
    | (with_reducible refine ⟨fun hh => ?_, fun hh => ?_⟩ <;> try exact absurd hh (by decide)) | refine ⟨by simp only [List.length_cons, List.length_nil]; decide, ?_⟩
    | simp only [List.set_cons_zero, List.set_cons_succ] | simp only [List.set_set]))
  refine is_integer A ?_
  (repeat' (first
    | (with_reducible refine wSs_cons ?_; try simp only [List.set_cons_zero, List.set_cons_succ]) | with_reducible refine wS_asg ?_ | with_reducible refine wS_if ?_ | with_reducible refine wS_ret ?_ | with_reducible refine wS_expr ?_ | with_reducible refine wS_asgS ?_ | with_reducible refine wS_par ?_ | with_reducible refine wS_asgT ?_ | with_reducible refine wS_for ?_ | (with_reducible refine wSs_nil ?_; try simp only [List.set_cons_zero, List.set_cons_succ])
    | with_reducible refine wE_cst ?_ | with_reducible refine wE_op2 ?_ | with_reducible refine wE_cmp ?_ | with_reducible refine wE_sub ?_ | with_reducible refine wE_call ?_ | with_reducible refine wE_blt ?_ | with_reducible refine wEs_cons ?_ | with_reducible refine wEs_nil ?_ | with_reducible refine wT ?_ | with_reducible refine wE_not ?_ | with_reducible refine wE_lst ?_ | with_reducible refine wE_tup ?_ | with_reducible refine wE_and ?_ | with_reducible refine wE_or ?_ | with_reducible refine wE_ite ?_ | with_reducible refine wE_cmp2 ?_ | with_reducible refine wE_lc ?_ | with_reducible refine wE_slc ?_ | with_reducible refine wE_neg ?_ | with_reducible refine wE_lzip ?_ | with_reducible refine wE_lstX ?_ | with_reducible refine wE_tupX ?_ | with_reducible refine wXs_nil ?_ | with_reducible refine wXs_cons ?_ | with_reducible refine wXs_star ?_ | with_reducible refine wS_whil ?_ | with_reducible refine w_lenT ?_ | with_reducible refine w_slcT ?_ | with_reducible refine w_tupT ?_ | with_reducible refine ⟨(_ : Int), rfl, ?_⟩
    | with_reducible refine ⟨(_ : Option Int), by rfl, ?_⟩ | with_reducible refine ⟨(_ : Src × Nat), g_srcS, ?_⟩ | with_reducible refine ⟨(_ : Src × Nat), g_srcE, ?_⟩ | with_reducible refine ⟨(_ : Src × Nat), g_srcT, ?_⟩ | with_reducible refine ⟨(_ : Src × Nat), g_srcL (by assumption), ?_⟩
     | with_reducible refine wE_at ?_ | with_reducible refine wE_prop ?_ | with_reducible refine wE_meth ?_ | with_reducible refine wE_lenO ?_ | with_reducible refine w_lenOT ?_ | with_reducible refine wS_setF ?_ | refine ⟨(_ : Nat), (_ : List (Nat × D)), (_ : D), g_ins (by assumption), rfl, rfl, ?_⟩ | refine ⟨(_ : Nat), (_ : List (Nat × D)), (_ : Nat), g_ins (by assumption), rfl, ?_⟩ | refine ⟨(_ : Nat), g_meth (by assumption) rfl rfl, ?_⟩ | with_reducible refine w_add ?_ | with_reducible refine w_sub ?_ | with_reducible refine w_leS ?_ | with_reducible refine w_lt ?_ | with_reducible refine w_le ?_ | with_reducible refine w_gt ?_ | with_reducible refine w_ge ?_ | with_reducible refine w_int ?_ | with_reducible refine w_intB ?_ | with_reducible refine w_abs ?_ | with_reducible refine w_ord ?_ | with_reducible refine w_min ?_ | with_reducible refine w_max ?_
    | refine wE_var rfl ?_
    | with_reducible refine w_eqS ?_ | with_reducible refine w_neS ?_ | with_reducible refine w_eq (eqD_bl _ _ _) ?_ | with_reducible refine w_ne (eqD_bl _ _ _) ?_
    | (with_reducible refine w_eqI (b := true) ?_ ?_; exact decide_eq_true (by omega)) | (with_reducible refine w_eqI (b := false) ?_ ?_; exact decide_eq_false (by omega)) | (with_reducible refine w_neI (b := true) ?_ ?_; exact decide_eq_true (by omega)) | (with_reducible refine w_neI (b := false) ?_ ?_; exact decide_eq_false (by omega))
    | with_reducible refine w_eq (eqD_int _ _ _) ?_ | with_reducible refine w_ne (eqD_int _ _ _) ?_
    | (with_reducible refine w_mod ?_ ?_; (first | omega | decide +kernel)) | (with_reducible refine w_mul ?_ ?_; exact mul_ok (by omega) (by first | omega | (split <;> omega))) | (with_reducible refine w_div ?_ ?_; (first | exact div_ok (by omega) (by omega) | decide +kernel)) | (with_reducible refine w_pow ?_ ?_; decide +kernel)
    | with_reducible refine ⟨(_ : Bool), g_eqI (b := true) (decide_eq_true (by omega)), ?_⟩ | with_reducible refine ⟨(_ : Bool), g_eqI (b := false) (decide_eq_false (by omega)), ?_⟩ | refine ⟨(_ : Bool), rfl, ?_⟩ | with_reducible refine w_isI_int ?_ | with_reducible refine w_isI_bool ?_ | with_reducible refine w_isI_str ?_ | with_reducible refine w_isI_tuple ?_ | with_reducible refine w_isI_list ?_ | with_reducible refine w_isS_int ?_ | with_reducible refine w_isS_bool ?_ | with_reducible refine w_isS_str ?_ | with_reducible refine w_isS_tuple ?_ | with_reducible refine w_isS_list ?_ | with_reducible refine w_isB_int ?_ | with_reducible refine w_isB_bool ?_ | with_reducible refine w_isB_str ?_ | with_reducible refine w_isB_tuple ?_ | with_reducible refine w_isB_list ?_ | with_reducible refine w_isN_int ?_ | with_reducible refine w_isN_bool ?_ | with_reducible refine w_isN_str ?_ | with_reducible refine w_isN_tuple ?_ | with_reducible refine w_isN_list ?_ | with_reducible refine w_isT_int ?_ | with_reducible refine w_isT_bool ?_ | with_reducible refine w_isT_str ?_ | with_reducible refine w_isT_tuple ?_ | with_reducible refine w_isT_list ?_
    | refine ⟨(_ : Option Int), rfl, ?_⟩ | refine ⟨(_ : D), g_subT rfl, ?_⟩ | refine ⟨(_ : D), g_subL (get_app _ _) rfl, ?_⟩ | refine ⟨(_ : D), g_subL (get_app2 _ _ _) rfl, ?_⟩ | refine ⟨(_ : D), g_subL (by assumption) rfl, ?_⟩ | refine ⟨(_ : D), g_subL (get_set (by assumption)) rfl, ?_⟩ | refine ⟨(_ : Store), g_set (by assumption) rfl, ?_⟩ | refine ⟨(_ : Store), g_set (get_set (by assumption)) rfl, ?_⟩
    | (with_reducible refine ⟨fun hh => ?_, fun hh => ?_⟩ <;> try exact absurd hh (by decide)) | refine ⟨by simp only [List.length_cons, List.length_nil]; decide, ?_⟩
    | simp only [List.set_cons_zero, List.set_cons_succ] | simp only [List.set_set]))
  · have : decide (i ≤ hi) = true := decide_eq_true h.2
    rw [this]; exact q
  · exact absurd h.1 (by simpa using hh)
theorem is_text {t : Tx} (ht : gT t) (q : ∀ st', Ap st st' → P (.bl true) st') : (callN F (k + 1) 9 [.str t] st).W P := by
  rw [W_call A.is_text rfl]
  simp only [List.map_cons, List.map_nil, List.cons_append, List.nil_append, List.length_cons, List.length_nil, List.replicate_succ, List.replicate_zero, Nat.reduceAdd, Nat.reduceSub, T.is_text]
  (repeat' (first
    | (with_reducible refine wSs_cons ?_; try simp only [List.set_cons_zero, List.set_cons_succ]) | with_reducible refine wS_asg ?_ | with_reducible refine wS_if ?_ | with_reducible refine wS_ret ?_ | with_reducible refine wS_expr ?_ | with_reducible refine wS_asgS ?_ | with_reducible refine wS_par ?_ | with_reducible refine wS_asgT ?_ | with_reducible refine wS_for ?_ | (with_reducible refine wSs_nil ?_; try simp only [List.set_cons_zero, List.set_cons_succ])
    | with_reducible refine wE_cst ?_ | with_reducible refine wE_op2 ?_ | with_reducible refine wE_cmp ?_ | with_reducible refine wE_sub ?_ | with_reducible refine wE_call ?_ | with_reducible refine wE_blt ?_ | with_reducible refine wEs_cons ?_ | with_reducible refine wEs_nil ?_ | with_reducible refine wT ?_ | with_reducible refine wE_not ?_ | with_reducible refine wE_lst ?_ | with_reducible refine wE_tup ?_ | with_reducible refine wE_and ?_ | with_reducible refine wE_or ?_ | with_reducible refine wE_ite ?_ | with_reducible refine wE_cmp2 ?_ | with_reducible refine wE_lc ?_ | with_reducible refine wE_slc ?_ | with_reducible refine wE_neg ?_ | with_reducible refine wE_lzip ?_ | with_reducible refine wE_lstX ?_ | with_reducible refine wE_tupX ?_ | with_reducible refine wXs_nil ?_ | with_reducible refine wXs_cons ?_ | with_reducible refine wXs_star ?_ | with_reducible refine wS_whil ?_ | with_reducible refine w_lenT ?_ | with_reducible refine w_slcT ?_ | with_reducible refine w_tupT ?_ | with_reducible refine ⟨(_ : Int), rfl, ?_⟩
    | with_reducible refine ⟨(_ : Option Int), by rfl, ?_⟩ | with_reducible refine ⟨(_ : Src × Nat), g_srcS, ?_⟩ | with_reducible refine ⟨(_ : Src × Nat), g_srcE, ?_⟩ | with_reducible refine ⟨(_ : Src × Nat), g_srcT, ?_⟩ | with_reducible refine ⟨(_ : Src × Nat), g_srcL (by assumption), ?_⟩
     | with_reducible refine wE_at ?_ | with_reducible refine wE_prop ?_ | with_reducible refine wE_meth ?_ | with_reducible refine wE_lenO ?_ | with_reducible refine w_lenOT ?_ | with_reducible refine wS_setF ?_ | refine ⟨(_ : Nat), (_ : List (Nat × D)), (_ : D), g_ins (by assumption), rfl, rfl, ?_⟩ | refine ⟨(_ : Nat), (_ : List (Nat × D)), (_ : Nat), g_ins (by assumption), rfl, ?_⟩ | refine ⟨(_ : Nat), g_meth (by assumption) rfl rfl, ?_⟩ | with_reducible refine w_add ?_ | with_reducible refine w_sub ?_ | with_reducible refine w_leS ?_ | with_reducible refine w_lt ?_ | with_reducible refine w_le ?_ | with_reducible refine w_gt ?_ | with_reducible refine w_ge ?_ | with_reducible refine w_int ?_ | with_reducible refine w_intB ?_ | with_reducible refine w_abs ?_ | with_reducible refine w_ord ?_ | with_reducible refine w_min ?_ | with_reducible refine w_max ?_
    | refine wE_var rfl ?_
    | with_reducible refine w_eqS ?_ | with_reducible refine w_neS ?_ | with_reducible refine w_eq (eqD_bl _ _ _) ?_ | with_reducible refine w_ne (eqD_bl _ _ _) ?_
    | (with_reducible refine w_eqI (b := true) ?_ ?_; exact decide_eq_true (by omega)) | (with_reducible refine w_eqI (b := false) ?_ ?_; exact decide_eq_false (by omega)) | (with_reducible refine w_neI (b := true) ?_ ?_; exact decide_eq_true (by omega)) | (with_reducible refine w_neI (b := false) ?_ ?_; exact decide_eq_false (by omega))
    | with_reducible refine w_eq (eqD_int _ _ _) ?_ | with_reducible refine w_ne (eqD_int _ _ _) ?_
    | (with_reducible refine w_mod ?_ ?_; (first | omega | decide +kernel)) | (with_reducible refine w_mul ?_ ?_; exact mul_ok (by omega) (by first | omega | (split <;> omega))) | (with_reducible refine w_div ?_ ?_; (first | exact div_ok (by omega) (by omega) | decide +kernel)) | (with_reducible refine w_pow ?_ ?_; decide +kernel)
    | with_reducible refine ⟨(_ : Bool), g_eqI (b := true) (decide_eq_true (by omega)), ?_⟩ | with_reducible refine ⟨(_ : Bool), g_eqI (b := false) (decide_eq_false (by omega)), ?_⟩ | refine ⟨(_ : Bool), rfl, ?_⟩ | with_reducible refine w_isI_int ?_ | with_reducible refine w_isI_bool ?_ | with_reducible refine w_isI_str ?_ | with_reducible refine w_isI_tuple ?_ | with_reducible refine w_isI_list ?_ | with_reducible refine w_isS_int ?_ | with_reducible refine w_isS_bool ?_ | with_reducible refine w_isS_str ?_ | with_reducible refine w_isS_tuple ?_ | with_reducible refine w_isS_list ?_ | with_reducible refine w_isB_int ?_ | with_reducible refine w_isB_bool ?_ | with_reducible refine w_isB_str ?_ | with_reducible refine w_isB_tuple ?_ | with_reducible refine w_isB_list ?_ | with_reducible refine w_isN_int ?_ | with_reducible refine w_isN_bool ?_ | with_reducible refine w_isN_str ?_ | with_reducible refine w_isN_tuple ?_ | with_reducible refine w_isN_list ?_ | with_reducible refine w_isT_int ?_ | with_reducible refine w_isT_bool ?_ | with_reducible refine w_isT_str ?_ | with_reducible refine w_isT_tuple ?_ | with_reducible refine w_isT_list ?_
    | refine ⟨(_ : Option Int), rfl, ?_⟩ | refine ⟨(_ : D), g_subT rfl, ?_⟩ | refine ⟨(_ : D), g_subL (get_app _ _) rfl, ?_⟩ | refine ⟨(_ : D), g_subL (get_app2 _ _ _) rfl, ?_⟩ | refine ⟨(_ : D), g_subL (by assumption) rfl, ?_⟩ | refine ⟨(_ : D), g_subL (get_set (by assumption)) rfl, ?_⟩ | refine ⟨(_ : Store), g_set (by assumption) rfl, ?_⟩ | refine ⟨(_ : Store), g_set (get_set (by assumption)) rfl, ?_⟩
    | (with_reducible refine ⟨fun hh => ?_, fun hh => ?_⟩ <;> try exact absurd hh (by decide)) | refine ⟨by simp only [List.length_cons, List.length_nil]; decide, ?_⟩
    | simp only [List.set_cons_zero, List.set_cons_succ] | simp only [List.set_set]))
  refine w_lenOS (gT_sl ht) ?_
  (repeat' (first
    | (with_reducible refine wSs_cons ?_; try simp only [List.set_cons_zero, List.set_cons_succ]) | with_reducible refine wS_asg ?_ | with_reducible refine wS_if ?_ | with_reducible refine wS_ret ?_ | with_reducible refine wS_expr ?_ | with_reducible refine wS_asgS ?_ | with_reducible refine wS_par ?_ | with_reducible refine wS_asgT ?_ | with_reducible refine wS_for ?_ | (with_reducible refine wSs_nil ?_; try simp only [List.set_cons_zero, List.set_cons_succ])
    | with_reducible refine wE_cst ?_ | with_reducible refine wE_op2 ?_ | with_reducible refine wE_cmp ?_ | with_reducible refine wE_sub ?_ | with_reducible refine wE_call ?_ | with_reducible refine wE_blt ?_ | with_reducible refine wEs_cons ?_ | with_reducible refine wEs_nil ?_ | with_reducible refine wT ?_ | with_reducible refine wE_not ?_ | with_reducible refine wE_lst ?_ | with_reducible refine wE_tup ?_ | with_reducible refine wE_and ?_ | with_reducible refine wE_or ?_ | with_reducible refine wE_ite ?_ | with_reducible refine wE_cmp2 ?_ | with_reducible refine wE_lc ?_ | with_reducible refine wE_slc ?_ | with_reducible refine wE_neg ?_ | with_reducible refine wE_lzip ?_ | with_reducible refine wE_lstX ?_ | with_reducible refine wE_tupX ?_ | with_reducible refine wXs_nil ?_ | with_reducible refine wXs_cons ?_ | with_reducible refine wXs_star ?_ | with_reducible refine wS_whil ?_ | with_reducible refine w_lenT ?_ | with_reducible refine w_slcT ?_ | with_reducible refine w_tupT ?_ | with_reducible refine ⟨(_ : Int), rfl, ?_⟩
    | with_reducible refine ⟨(_ : Option Int), by rfl, ?_⟩ | with_reducible refine ⟨(_ : Src × Nat), g_srcS, ?_⟩ | with_reducible refine ⟨(_ : Src × Nat), g_srcE, ?_⟩ | with_reducible refine ⟨(_ : Src × Nat), g_srcT, ?_⟩ | with_reducible refine ⟨(_ : Src × Nat), g_srcL (by assumption), ?_⟩
     | with_reducible refine wE_at ?_ | with_reducible refine wE_prop ?_ | with_reducible refine wE_meth ?_ | with_reducible refine wE_lenO ?_ | with_reducible refine w_lenOT ?_ | with_reducible refine wS_setF ?_ | refine ⟨(_ : Nat), (_ : List (Nat × D)), (_ : D), g_ins (by assumption), rfl, rfl, ?_⟩ | refine ⟨(_ : Nat), (_ : List (Nat × D)), (_ : Nat), g_ins (by assumption), rfl, ?_⟩ | refine ⟨(_ : Nat), g_meth (by assumption) rfl rfl, ?_⟩ | with_reducible refine w_add ?_ | with_reducible refine w_sub ?_ | with_reducible refine w_leS ?_ | with_reducible refine w_lt ?_ | with_reducible refine w_le ?_ | with_reducible refine w_gt ?_ | with_reducible refine w_ge ?_ | with_reducible refine w_int ?_ | with_reducible refine w_intB ?_ | with_reducible refine w_abs ?_ | with_reducible refine w_ord ?_ | with_reducible refine w_min ?_ | with_reducible refine w_max ?_
    | refine wE_var rfl ?_
    | with_reducible refine w_eqS ?_ | with_reducible refine w_neS ?_ | with_reducible refine w_eq (eqD_bl _ _ _) ?_ | with_reducible refine w_ne (eqD_bl _ _ _) ?_
    | (with_reducible refine w_eqI (b := true) ?_ ?_; exact decide_eq_true (by omega)) | (with_reducible refine w_eqI (b := false) ?_ ?_; exact decide_eq_false (by omega)) | (with_reducible refine w_neI (b := true) ?_ ?_; exact decide_eq_true (by omega)) | (with_reducible refine w_neI (b := false) ?_ ?_; exact decide_eq_false (by omega))
    | with_reducible refine w_eq (eqD_int _ _ _) ?_ | with_reducible refine w_ne (eqD_int _ _ _) ?_
    | (with_reducible refine w_mod ?_ ?_; (first | omega | decide +kernel)) | (with_reducible refine w_mul ?_ ?_; exact mul_ok (by omega) (by first | omega | (split <;> omega))) | (with_reducible refine w_div ?_ ?_; (first | exact div_ok (by omega) (by omega) | decide +kernel)) | (with_reducible refine w_pow ?_ ?_; decide +kernel)
    | with_reducible refine ⟨(_ : Bool), g_eqI (b := true) (decide_eq_true (by omega)), ?_⟩ | with_reducible refine ⟨(_ : Bool), g_eqI (b := false) (decide_eq_false (by omega)), ?_⟩ | refine ⟨(_ : Bool), rfl, ?_⟩ | with_reducible refine w_isI_int ?_ | with_reducible refine w_isI_bool ?_ | with_reducible refine w_isI_str ?_ | with_reducible refine w_isI_tuple ?_ | with_reducible refine w_isI_list ?_ | with_reducible refine w_isS_int ?_ | with_reducible refine w_isS_bool ?_ | with_reducible refine w_isS_str ?_ | with_reducible refine w_isS_tuple ?_ | with_reducible refine w_isS_list ?_ | with_reducible refine w_isB_int ?_ | with_reducible refine w_isB_bool ?_ | with_reducible refine w_isB_str ?_ | with_reducible refine w_isB_tuple ?_ | with_reducible refine w_isB_list ?_ | with_reducible refine w_isN_int ?_ | with_reducible refine w_isN_bool ?_ | with_reducible refine w_isN_str ?_ | with_reducible refine w_isN_tuple ?_ | with_reducible refine w_isN_list ?_ | with_reducible refine w_isT_int ?_ | with_reducible refine w_isT_bool ?_ | with_reducible refine w_isT_str ?_ | with_reducible refine w_isT_tuple ?_ | with_reducible refine w_isT_list ?_
    | refine ⟨(_ : Option Int), rfl, ?_⟩ | refine ⟨(_ : D), g_subT rfl, ?_⟩ | refine ⟨(_ : D), g_subL (get_app _ _) rfl, ?_⟩ | refine ⟨(_ : D), g_subL (get_app2 _ _ _) rfl, ?_⟩ | refine ⟨(_ : D), g_subL (by assumption) rfl, ?_⟩ | refine ⟨(_ : D), g_subL (get_set (by assumption)) rfl, ?_⟩ | refine ⟨(_ : Store), g_set (by assumption) rfl, ?_⟩ | refine ⟨(_ : Store), g_set (get_set (by assumption)) rfl, ?_⟩
    | (with_reducible refine ⟨fun hh => ?_, fun hh => ?_⟩ <;> try exact absurd hh (by decide)) | refine ⟨by simp only [List.length_cons, List.length_nil]; decide, ?_⟩
    | simp only [List.set_cons_zero, List.set_cons_succ] | simp only [List.set_set]))
  · refine lc_ap (srcIs_str t _) (by simp) (by simp; exact gT_sl ht) (fun _ => some (.bl true)) ?_ ?_
    · intro d hd st' a
      obtain ⟨c, hc, rfl⟩ := List.mem_map.mp hd
      have hc := ht.2 c hc
      refine lcT_W (by rfl) ?_
      (repeat' (first
    | (with_reducible refine wSs_cons ?_; try simp only [List.set_cons_zero, List.set_cons_succ]) | with_reducible refine wS_asg ?_ | with_reducible refine wS_if ?_ | with_reducible refine wS_ret ?_ | with_reducible refine wS_expr ?_ | with_reducible refine wS_asgS ?_ | with_reducible refine wS_par ?_ | with_reducible refine wS_asgT ?_ | with_reducible refine wS_for ?_ | (with_reducible refine wSs_nil ?_; try simp only [List.set_cons_zero, List.set_cons_succ])
    | with_reducible refine wE_cst ?_ | with_reducible refine wE_op2 ?_ | with_reducible refine wE_cmp ?_ | with_reducible refine wE_sub ?_ | with_reducible refine wE_call ?_ | with_reducible refine wE_blt ?_ | with_reducible refine wEs_cons ?_ | with_reducible refine wEs_nil ?_ | with_reducible refine wT ?_ | with_reducible refine wE_not ?_ | with_reducible refine wE_lst ?_ | with_reducible refine wE_tup ?_ | with_reducible refine wE_and ?_ | with_reducible refine wE_or ?_ | with_reducible refine wE_ite ?_ | with_reducible refine wE_cmp2 ?_ | with_reducible refine wE_lc ?_ | with_reducible refine wE_slc ?_ | with_reducible refine wE_neg ?_ | with_reducible refine wE_lzip ?_ | with_reducible refine wE_lstX ?_ | with_reducible refine wE_tupX ?_ | with_reducible refine wXs_nil ?_ | with_reducible refine wXs_cons ?_ | with_reducible refine wXs_star ?_ | with_reducible refine wS_whil ?_ | with_reducible refine w_lenT ?_ | with_reducible refine w_slcT ?_ | with_reducible refine w_tupT ?_ | with_reducible refine ⟨(_ : Int), rfl, ?_⟩
    | with_reducible refine ⟨(_ : Option Int), by rfl, ?_⟩ | with_reducible refine ⟨(_ : Src × Nat), g_srcS, ?_⟩ | with_reducible refine ⟨(_ : Src × Nat), g_srcE, ?_⟩ | with_reducible refine ⟨(_ : Src × Nat), g_srcT, ?_⟩ | with_reducible refine ⟨(_ : Src × Nat), g_srcL (by assumption), ?_⟩
     | with_reducible refine wE_at ?_ | with_reducible refine wE_prop ?_ | with_reducible refine wE_meth ?_ | with_reducible refine wE_lenO ?_ | with_reducible refine w_lenOT ?_ | with_reducible refine wS_setF ?_ | refine ⟨(_ : Nat), (_ : List (Nat × D)), (_ : D), g_ins (by assumption), rfl, rfl, ?_⟩ | refine ⟨(_ : Nat), (_ : List (Nat × D)), (_ : Nat), g_ins (by assumption), rfl, ?_⟩ | refine ⟨(_ : Nat), g_meth (by assumption) rfl rfl, ?_⟩ | with_reducible refine w_add ?_ | with_reducible refine w_sub ?_ | with_reducible refine w_leS ?_ | with_reducible refine w_lt ?_ | with_reducible refine w_le ?_ | with_reducible refine w_gt ?_ | with_reducible refine w_ge ?_ | with_reducible refine w_int ?_ | with_reducible refine w_intB ?_ | with_reducible refine w_abs ?_ | with_reducible refine w_ord ?_ | with_reducible refine w_min ?_ | with_reducible refine w_max ?_
    | refine wE_var rfl ?_
    | with_reducible refine w_eqS ?_ | with_reducible refine w_neS ?_ | with_reducible refine w_eq (eqD_bl _ _ _) ?_ | with_reducible refine w_ne (eqD_bl _ _ _) ?_
    | (with_reducible refine w_eqI (b := true) ?_ ?_; exact decide_eq_true (by omega)) | (with_reducible refine w_eqI (b := false) ?_ ?_; exact decide_eq_false (by omega)) | (with_reducible refine w_neI (b := true) ?_ ?_; exact decide_eq_true (by omega)) | (with_reducible refine w_neI (b := false) ?_ ?_; exact decide_eq_false (by omega))
    | with_reducible refine w_eq (eqD_int _ _ _) ?_ | with_reducible refine w_ne (eqD_int _ _ _) ?_
    | (with_reducible refine w_mod ?_ ?_; (first | omega | decide +kernel)) | (with_reducible refine w_mul ?_ ?_; exact mul_ok (by omega) (by first | omega | (split <;> omega))) | (with_reducible refine w_div ?_ ?_; (first | exact div_ok (by omega) (by omega) | decide +kernel)) | (with_reducible refine w_pow ?_ ?_; decide +kernel)
    | with_reducible refine ⟨(_ : Bool), g_eqI (b := true) (decide_eq_true (by omega)), ?_⟩ | with_reducible refine ⟨(_ : Bool), g_eqI (b := false) (decide_eq_false (by omega)), ?_⟩ | refine ⟨(_ : Bool), rfl, ?_⟩ | with_reducible refine w_isI_int ?_ | with_reducible refine w_isI_bool ?_ | with_reducible refine w_isI_str ?_ | with_reducible refine w_isI_tuple ?_ | with_reducible refine w_isI_list ?_ | with_reducible refine w_isS_int ?_ | with_reducible refine w_isS_bool ?_ | with_reducible refine w_isS_str ?_ | with_reducible refine w_isS_tuple ?_ | with_reducible refine w_isS_list ?_ | with_reducible refine w_isB_int ?_ | with_reducible refine w_isB_bool ?_ | with_reducible refine w_isB_str ?_ | with_reducible refine w_isB_tuple ?_ | with_reducible refine w_isB_list ?_ | with_reducible refine w_isN_int ?_ | with_reducible refine w_isN_bool ?_ | with_reducible refine w_isN_str ?_ | with_reducible refine w_isN_tuple ?_ | with_reducible refine w_isN_list ?_ | with_reducible refine w_isT_int ?_ | with_reducible refine w_isT_bool ?_ | with_reducible refine w_isT_str ?_ | with_reducible refine w_isT_tuple ?_ | with_reducible refine w_isT_list ?_
    | refine ⟨(_ : Option Int), rfl, ?_⟩ | refine ⟨(_ : D), g_subT rfl, ?_⟩ | refine ⟨(_ : D), g_subL (get_app _ _) rfl, ?_⟩ | refine ⟨(_ : D), g_subL (get_app2 _ _ _) rfl, ?_⟩ | refine ⟨(_ : D), g_subL (by assumption) rfl, ?_⟩ | refine ⟨(_ : D), g_subL (get_set (by assumption)) rfl, ?_⟩ | refine ⟨(_ : Store), g_set (by assumption) rfl, ?_⟩ | refine ⟨(_ : Store), g_set (get_set (by assumption)) rfl, ?_⟩
    | (with_reducible refine ⟨fun hh => ?_, fun hh => ?_⟩ <;> try exact absurd hh (by decide)) | refine ⟨by simp only [List.length_cons, List.length_nil]; decide, ?_⟩
    | simp only [List.set_cons_zero, List.set_cons_succ] | simp only [List.set_set]))
      · rw [ltS1]
        have : decide (126 < c) = false := decide_eq_false (by omega)
        rw [this]
        exact ⟨rfl, Ap.refl _⟩
      · rw [ltS1] at hh
        simp at hh; omega
    · intro st' a hc
      rw [all_true] at hc
      refine wEs_nil (w_all hc ?_)
      have : (t.map fun _ => true).all id = true := by simp
      rw [this]
      exact q st' a
  · exact absurd ht.1 (by simp at hh; omega)
theorem require_text {t : Tx} (ht : gT t) (q : ∀ st', Ap st st' → P .non st') : (callN F (k + 2) 10 [.str t] st).W P := by
  rw [W_call A.require_text rfl]
  simp only [List.map_cons, List.map_nil, List.cons_append, List.nil_append, List.length_cons, List.length_nil, List.replicate_succ, List.replicate_zero, Nat.reduceAdd, Nat.reduceSub, T.require_text]
  refine wSs_cons (wS_if (wT (wE_not (wT (wE_call (wEs_cons (wE_var rfl (wEs_nil (is_text A ht fun st' a => ?_)))))))))
  refine ⟨true, rfl, false, rfl, fun hh => (by cases hh), fun _ => wSs_nil (wSs_nil (q st' a))⟩
theorem require_bounds {n mT mS : Nat} (h : st[n]? = some (bndC mT mS)) (q : P .non st) : (callN F (k + 1) 16 [.ref n] st).W P := by
  rw [W_call A.require_bounds rfl]
  simp only [List.map_cons, List.map_nil, List.cons_append, List.nil_append, List.length_cons, List.length_nil, List.replicate_succ, List.replicate_zero, Nat.reduceAdd, Nat.reduceSub, T.require_bounds]
  refine wSs_cons (wS_if (wT (wE_not (wT (wE_isO (wE_var rfl ⟨_, g_ins h, ?_⟩))))))
  exact ⟨true, rfl, false, rfl, fun hh => (by cases hh), fun _ => wSs_nil (wSs_nil q)⟩
theorem require_first_texts {ts : List Tx} (ht : gTs ts) (q : ∀ st', Ap st st' → P .non st') : (callN F (k + 3) 17 [.tup (ts.map D.str)] st).W P := by
  rw [W_call A.require_first_texts rfl]
  simp only [List.map_cons, List.map_nil, List.cons_append, List.nil_append, List.length_cons, List.length_nil, List.replicate_succ, List.replicate_zero, Nat.reduceAdd, Nat.reduceSub, T.require_first_texts]
  (repeat' (first
    | (with_reducible refine wSs_cons ?_; try simp only [List.set_cons_zero, List.set_cons_succ]) | with_reducible refine wS_asg ?_ | with_reducible refine wS_if ?_ | with_reducible refine wS_ret ?_ | with_reducible refine wS_expr ?_ | with_reducible refine wS_asgS ?_ | with_reducible refine wS_par ?_ | with_reducible refine wS_asgT ?_ | with_reducible refine wS_for ?_ | (with_reducible refine wSs_nil ?_; try simp only [List.set_cons_zero, List.set_cons_succ])
    | with_reducible refine wE_cst ?_ | with_reducible refine wE_op2 ?_ | with_reducible refine wE_cmp ?_ | with_reducible refine wE_sub ?_ | with_reducible refine wE_call ?_ | with_reducible refine wE_blt ?_ | with_reducible refine wEs_cons ?_ | with_reducible refine wEs_nil ?_ | with_reducible refine wT ?_ | with_reducible refine wE_not ?_ | with_reducible refine wE_lst ?_ | with_reducible refine wE_tup ?_ | with_reducible refine wE_and ?_ | with_reducible refine wE_or ?_ | with_reducible refine wE_ite ?_ | with_reducible refine wE_cmp2 ?_ | with_reducible refine wE_lc ?_ | with_reducible refine wE_slc ?_ | with_reducible refine wE_neg ?_ | with_reducible refine wE_lzip ?_ | with_reducible refine wE_lstX ?_ | with_reducible refine wE_tupX ?_ | with_reducible refine wXs_nil ?_ | with_reducible refine wXs_cons ?_ | with_reducible refine wXs_star ?_ | with_reducible refine wS_whil ?_ | with_reducible refine w_lenT ?_ | with_reducible refine w_slcT ?_ | with_reducible refine w_tupT ?_ | with_reducible refine ⟨(_ : Int), rfl, ?_⟩
    | with_reducible refine ⟨(_ : Option Int), by rfl, ?_⟩ | with_reducible refine ⟨(_ : Src × Nat), g_srcS, ?_⟩ | with_reducible refine ⟨(_ : Src × Nat), g_srcE, ?_⟩ | with_reducible refine ⟨(_ : Src × Nat), g_srcT, ?_⟩ | with_reducible refine ⟨(_ : Src × Nat), g_srcL (by assumption), ?_⟩
     | with_reducible refine wE_at ?_ | with_reducible refine wE_prop ?_ | with_reducible refine wE_meth ?_ | with_reducible refine wE_lenO ?_ | with_reducible refine w_lenOT ?_ | with_reducible refine wS_setF ?_ | refine ⟨(_ : Nat), (_ : List (Nat × D)), (_ : D), g_ins (by assumption), rfl, rfl, ?_⟩ | refine ⟨(_ : Nat), (_ : List (Nat × D)), (_ : Nat), g_ins (by assumption), rfl, ?_⟩ | refine ⟨(_ : Nat), g_meth (by assumption) rfl rfl, ?_⟩ | with_reducible refine w_add ?_ | with_reducible refine w_sub ?_ | with_reducible refine w_leS ?_ | with_reducible refine w_lt ?_ | with_reducible refine w_le ?_ | with_reducible refine w_gt ?_ | with_reducible refine w_ge ?_ | with_reducible refine w_int ?_ | with_reducible refine w_intB ?_ | with_reducible refine w_abs ?_ | with_reducible refine w_ord ?_ | with_reducible refine w_min ?_ | with_reducible refine w_max ?_
    | refine wE_var rfl ?_
    | with_reducible refine w_eqS ?_ | with_reducible refine w_neS ?_ | with_reducible refine w_eq (eqD_bl _ _ _) ?_ | with_reducible refine w_ne (eqD_bl _ _ _) ?_
    | (with_reducible refine w_eqI (b := true) ?_ ?_; exact decide_eq_true (by omega)) | (with_reducible refine w_eqI (b := false) ?_ ?_; exact decide_eq_false (by omega)) | (with_reducible refine w_neI (b := true) ?_ ?_; exact decide_eq_true (by omega)) | (with_reducible refine w_neI (b := false) ?_ ?_; exact decide_eq_false (by omega))
    | with_reducible refine w_eq (eqD_int _ _ _) ?_ | with_reducible refine w_ne (eqD_int _ _ _) ?_
    | (with_reducible refine w_mod ?_ ?_; (first | omega | decide +kernel)) | (with_reducible refine w_mul ?_ ?_; exact mul_ok (by omega) (by first | omega | (split <;> omega))) | (with_reducible refine w_div ?_ ?_; (first | exact div_ok (by omega) (by omega) | decide +kernel)) | (with_reducible refine w_pow ?_ ?_; decide +kernel)
    | with_reducible refine ⟨(_ : Bool), g_eqI (b := true) (decide_eq_true (by omega)), ?_⟩ | with_reducible refine ⟨(_ : Bool), g_eqI (b := false) (decide_eq_false (by omega)), ?_⟩ | refine ⟨(_ : Bool), rfl, ?_⟩ | with_reducible refine w_isI_int ?_ | with_reducible refine w_isI_bool ?_ | with_reducible refine w_isI_str ?_ | with_reducible refine w_isI_tuple ?_ | with_reducible refine w_isI_list ?_ | with_reducible refine w_isS_int ?_ | with_reducible refine w_isS_bool ?_ | with_reducible refine w_isS_str ?_ | with_reducible refine w_isS_tuple ?_ | with_reducible refine w_isS_list ?_ | with_reducible refine w_isB_int ?_ | with_reducible refine w_isB_bool ?_ | with_reducible refine w_isB_str ?_ | with_reducible refine w_isB_tuple ?_ | with_reducible refine w_isB_list ?_ | with_reducible refine w_isN_int ?_ | with_reducible refine w_isN_bool ?_ | with_reducible refine w_isN_str ?_ | with_reducible refine w_isN_tuple ?_ | with_reducible refine w_isN_list ?_ | with_reducible refine w_isT_int ?_ | with_reducible refine w_isT_bool ?_ | with_reducible refine w_isT_str ?_ | with_reducible refine w_isT_tuple ?_ | with_reducible refine w_isT_list ?_
    | refine ⟨(_ : Option Int), rfl, ?_⟩ | refine ⟨(_ : D), g_subT rfl, ?_⟩ | refine ⟨(_ : D), g_subL (get_app _ _) rfl, ?_⟩ | refine ⟨(_ : D), g_subL (get_app2 _ _ _) rfl, ?_⟩ | refine ⟨(_ : D), g_subL (by assumption) rfl, ?_⟩ | refine ⟨(_ : D), g_subL (get_set (by assumption)) rfl, ?_⟩ | refine ⟨(_ : Store), g_set (by assumption) rfl, ?_⟩ | refine ⟨(_ : Store), g_set (get_set (by assumption)) rfl, ?_⟩
    | (with_reducible refine ⟨fun hh => ?_, fun hh => ?_⟩ <;> try exact absurd hh (by decide)) | refine ⟨by simp only [List.length_cons, List.length_nil]; decide, ?_⟩
    | simp only [List.set_cons_zero, List.set_cons_succ] | simp only [List.set_set]))
  refine for_ap (srcIs_tup _ _) (by rfl) (fun _ e => ∃ y, e = [some (D.tup (ts.map D.str)), y]) ⟨_, rfl⟩ ?_ ?_
  · rintro i d env st' hi hd ⟨y, rfl⟩ a
    rw [List.getElem?_map] at hd
    cases ht' : ts[i]? with
    | none => rw [ht'] at hd; cases hd
    | some t =>
      rw [ht'] at hd
      cases hd
      refine ⟨_, by rfl, ?_⟩
      refine wSs_cons (wS_if (wT (wE_not (wT (wE_call (wEs_cons (wE_var rfl (wEs_nil (is_text A (ht t (List.mem_of_getElem? ht')) fun st2 a2 => ?_)))))))))
      exact ⟨true, rfl, false, rfl, fun hh => (by cases hh), fun _ => wSs_nil (wSs_nil ⟨⟨_, rfl⟩, a2⟩)⟩
  · rintro env st' ⟨y, rfl⟩ a
    exact wSs_nil (q st' a)
omit A in
theorem signs_map (n : Nd) : ((n.map D.str).filterMap fun d => match d with | .str s => some (D.int s.length) | _ => none) = (n.map fun t => (t.length : Int)).map D.int := by
  induction n with
  | nil => rfl
  | cons t n ih => simp only [List.map_cons, List.filterMap_cons, ih]
omit A in
theorem signs_sum (n : Nd) : (n.map fun t => (t.length : Int)).sum = (signs n : Int) := by
  induction n with
  | nil => rfl
  | cons t n ih =>
    simp only [List.map_cons, List.sum_cons, ih, signs]
    omega
theorem sum_signs {ws : List (Nat × Nat)} {x : E} {env : EnvD} {v : Nat} {own : List Nat} {n : Nd} (hn : gTs n) (hl : n.length ≤ SL) (hv : v < env.length) (hx : (evE ⟨callN F k⟩ x env st).W fun d s => d = ndD n ∧ s = st) (q : ∀ st', Ap st st' → P (.int (signs n)) st') :
    (evE ⟨callN F k⟩ (.blt .sum [.lc .val [x] (.nm v) own [] (.lenO ws (.var v))]) env st).W P := by
  have lenW : ∀ (own : List Nat) (env : EnvD), (wipeE env own).length = env.length := by
    intro own
    induction own with
    | nil => intro env; rfl
    | cons i r ih => intro env; simp [wipeE, ih]
  refine wE_blt (wEs_cons (wE_lc (wEs_cons (W_mono hx fun d s ⟨e, e2⟩ => wEs_nil ?_))))
  subst e; subst e2
  refine ⟨_, g_srcT, lc_ap (srcIs_tup _ _) (by simp) (by simpa using hl) (fun d => match d with | .str s => some (D.int s.length) | _ => none) ?_ ?_⟩
  · intro d hd st' a
    obtain ⟨t, ht, rfl⟩ := List.mem_map.mp hd
    have h1 : v < (wipeE env own).length := by rw [lenW]; exact hv
    refine lcT_W (env' := (wipeE env own).set v (some (.str t))) (by simp only [put, if_pos h1]) ?_
    refine wE_lenO (wE_var (by rw [List.getElem?_set_self h1]) (w_lenOS (gT_sl (hn t ht)) ⟨rfl, Ap.refl _⟩))
  · intro st' a hc
    rw [signs_map] at hc
    refine wEs_nil (w_sum hc ?_)
    rw [signs_sum]
    exact q st' a
theorem does_node_fit {b mT mS : Nat} {n : Nd} (hb : st[b]? = some (bndC mT mS)) (hn : gTs n) (hl : n.length ≤ SL) (q : ∀ st', Ap st st' → P (.bl (fit mT mS n)) st') : (callN F (k + 1) 18 [.ref b, ndD n] st).W P := by
  rw [W_call A.does_node_fit rfl]
  simp only [List.map_cons, List.map_nil, List.cons_append, List.nil_append, List.length_cons, List.length_nil, List.replicate_succ, List.replicate_zero, Nat.reduceAdd, Nat.reduceSub, T.does_node_fit]
  refine wSs_cons (wS_if (wT (wE_cmp (wE_lenO (wE_var rfl (w_lenOT (wE_cst ?_)))))))
  refine w_eq (eqD_int _ _ _) ⟨_, rfl, fun hh => ?_, fun hh => ?_⟩
  · have h1 : n.length = 1 := by have := of_decide_eq_true hh; rw [List.length_map] at this; omega
    refine wSs_cons (wS_ret (wE_cst ?_))
    have : fit mT mS n = true := by simp [fit, h1]
    rw [← this]; exact q st (Ap.refl _)
  · have h1 : n.length ≠ 1 := by have := of_decide_eq_false hh; rw [List.length_map] at this; omega
    refine wSs_nil ?_
    refine wSs_cons (wS_ret (wE_and (wE_cmp (wE_lenO (wE_var rfl (w_lenOT (wE_at (wE_var rfl ⟨_, _, _, g_ins hb, rfl, rfl, w_le ⟨_, rfl, fun hh => ?_, fun hh => ?_⟩⟩))))))))
    · have h2 : n.length ≤ mT := by simpa using hh
      refine wE_cmp ?_
      refine sum_signs (n := n) A hn hl (by simp only [List.length_cons, List.length_nil]; decide) (wE_var (by rfl) ⟨rfl, rfl⟩) fun st' a => ?_
      have hb' := a.get hb
      (repeat' (first
    | (with_reducible refine wSs_cons ?_; try simp only [List.set_cons_zero, List.set_cons_succ]) | with_reducible refine wS_asg ?_ | with_reducible refine wS_if ?_ | with_reducible refine wS_ret ?_ | with_reducible refine wS_expr ?_ | with_reducible refine wS_asgS ?_ | with_reducible refine wS_par ?_ | with_reducible refine wS_asgT ?_ | with_reducible refine wS_for ?_ | (with_reducible refine wSs_nil ?_; try simp only [List.set_cons_zero, List.set_cons_succ])
    | with_reducible refine wE_cst ?_ | with_reducible refine wE_op2 ?_ | with_reducible refine wE_cmp ?_ | with_reducible refine wE_sub ?_ | with_reducible refine wE_call ?_ | with_reducible refine wE_blt ?_ | with_reducible refine wEs_cons ?_ | with_reducible refine wEs_nil ?_ | with_reducible refine wT ?_ | with_reducible refine wE_not ?_ | with_reducible refine wE_lst ?_ | with_reducible refine wE_tup ?_ | with_reducible refine wE_and ?_ | with_reducible refine wE_or ?_ | with_reducible refine wE_ite ?_ | with_reducible refine wE_cmp2 ?_ | with_reducible refine wE_lc ?_ | with_reducible refine wE_slc ?_ | with_reducible refine wE_neg ?_ | with_reducible refine wE_lzip ?_ | with_reducible refine wE_lstX ?_ | with_reducible refine wE_tupX ?_ | with_reducible refine wXs_nil ?_ | with_reducible refine wXs_cons ?_ | with_reducible refine wXs_star ?_ | with_reducible refine wS_whil ?_ | with_reducible refine w_lenT ?_ | with_reducible refine w_slcT ?_ | with_reducible refine w_tupT ?_ | with_reducible refine ⟨(_ : Int), rfl, ?_⟩
    | with_reducible refine ⟨(_ : Option Int), by rfl, ?_⟩ | with_reducible refine ⟨(_ : Src × Nat), g_srcS, ?_⟩ | with_reducible refine ⟨(_ : Src × Nat), g_srcE, ?_⟩ | with_reducible refine ⟨(_ : Src × Nat), g_srcT, ?_⟩ | with_reducible refine ⟨(_ : Src × Nat), g_srcL (by assumption), ?_⟩
     | with_reducible refine wE_at ?_ | with_reducible refine wE_prop ?_ | with_reducible refine wE_meth ?_ | with_reducible refine wE_lenO ?_ | with_reducible refine w_lenOT ?_ | with_reducible refine wS_setF ?_ | refine ⟨(_ : Nat), (_ : List (Nat × D)), (_ : D), g_ins (by assumption), rfl, rfl, ?_⟩ | refine ⟨(_ : Nat), (_ : List (Nat × D)), (_ : Nat), g_ins (by assumption), rfl, ?_⟩ | refine ⟨(_ : Nat), g_meth (by assumption) rfl rfl, ?_⟩ | with_reducible refine w_add ?_ | with_reducible refine w_sub ?_ | with_reducible refine w_leS ?_ | with_reducible refine w_lt ?_ | with_reducible refine w_le ?_ | with_reducible refine w_gt ?_ | with_reducible refine w_ge ?_ | with_reducible refine w_int ?_ | with_reducible refine w_intB ?_ | with_reducible refine w_abs ?_ | with_reducible refine w_ord ?_ | with_reducible refine w_min ?_ | with_reducible refine w_max ?_
    | refine wE_var rfl ?_
    | with_reducible refine w_eqS ?_ | with_reducible refine w_neS ?_ | with_reducible refine w_eq (eqD_bl _ _ _) ?_ | with_reducible refine w_ne (eqD_bl _ _ _) ?_
    | (with_reducible refine w_eqI (b := true) ?_ ?_; exact decide_eq_true (by omega)) | (with_reducible refine w_eqI (b := false) ?_ ?_; exact decide_eq_false (by omega)) | (with_reducible refine w_neI (b := true) ?_ ?_; exact decide_eq_true (by omega)) | (with_reducible refine w_neI (b := false) ?_ ?_; exact decide_eq_false (by omega))
    | with_reducible refine w_eq (eqD_int _ _ _) ?_ | with_reducible refine w_ne (eqD_int _ _ _) ?_
    | (with_reducible refine w_mod ?_ ?_; (first | omega | decide +kernel)) | (with_reducible refine w_mul ?_ ?_; exact mul_ok (by omega) (by first | omega | (split <;> omega))) | (with_reducible refine w_div ?_ ?_; (first | exact div_ok (by omega) (by omega) | decide +kernel)) | (with_reducible refine w_pow ?_ ?_; decide +kernel)
    | with_reducible refine ⟨(_ : Bool), g_eqI (b := true) (decide_eq_true (by omega)), ?_⟩ | with_reducible refine ⟨(_ : Bool), g_eqI (b := false) (decide_eq_false (by omega)), ?_⟩ | refine ⟨(_ : Bool), rfl, ?_⟩ | with_reducible refine w_isI_int ?_ | with_reducible refine w_isI_bool ?_ | with_reducible refine w_isI_str ?_ | with_reducible refine w_isI_tuple ?_ | with_reducible refine w_isI_list ?_ | with_reducible refine w_isS_int ?_ | with_reducible refine w_isS_bool ?_ | with_reducible refine w_isS_str ?_ | with_reducible refine w_isS_tuple ?_ | with_reducible refine w_isS_list ?_ | with_reducible refine w_isB_int ?_ | with_reducible refine w_isB_bool ?_ | with_reducible refine w_isB_str ?_ | with_reducible refine w_isB_tuple ?_ | with_reducible refine w_isB_list ?_ | with_reducible refine w_isN_int ?_ | with_reducible refine w_isN_bool ?_ | with_reducible refine w_isN_str ?_ | with_reducible refine w_isN_tuple ?_ | with_reducible refine w_isN_list ?_ | with_reducible refine w_isT_int ?_ | with_reducible refine w_isT_bool ?_ | with_reducible refine w_isT_str ?_ | with_reducible refine w_isT_tuple ?_ | with_reducible refine w_isT_list ?_
    | refine ⟨(_ : Option Int), rfl, ?_⟩ | refine ⟨(_ : D), g_subT rfl, ?_⟩ | refine ⟨(_ : D), g_subL (get_app _ _) rfl, ?_⟩ | refine ⟨(_ : D), g_subL (get_app2 _ _ _) rfl, ?_⟩ | refine ⟨(_ : D), g_subL (by assumption) rfl, ?_⟩ | refine ⟨(_ : D), g_subL (get_set (by assumption)) rfl, ?_⟩ | refine ⟨(_ : Store), g_set (by assumption) rfl, ?_⟩ | refine ⟨(_ : Store), g_set (get_set (by assumption)) rfl, ?_⟩
    | (with_reducible refine ⟨fun hh => ?_, fun hh => ?_⟩ <;> try exact absurd hh (by decide)) | refine ⟨by simp only [List.length_cons, List.length_nil]; decide, ?_⟩
    | simp only [List.set_cons_zero, List.set_cons_succ] | simp only [List.set_set]))
      have : fit mT mS n = decide ((signs n : Int) ≤ (mS : Int)) := by
        simp only [fit]
        rw [decide_eq_true h2]
        have : (n.length == 1) = false := by simpa using h1
        rw [this]
        simp
      rw [← this]
      exact q st' a
    · have h2 : ¬ n.length ≤ mT := by simpa using hh
      have : fit mT mS n = false := by simp [fit, h1, h2]
      have q := q st (Ap.refl _)
      rw [this] at q
      rw [hh]; exact q
theorem law_fits {b mT mS : Nat} {n : Nd} (hb : st[b]? = some (.lst [.int mT, .int mS])) (hn : gTs n) (hl : n.length ≤ SL) (q : ∀ st', Ap st st' → P (.bl (fit mT mS n)) st') : (callN F (k + 1) 43 [.ref b, ndD n] st).W P := by
  rw [W_call A._law_fits rfl]
  simp only [List.map_cons, List.map_nil, List.cons_append, List.nil_append, List.length_cons, List.length_nil, List.replicate_succ, List.replicate_zero, Nat.reduceAdd, Nat.reduceSub, T._law_fits]
  refine wSs_cons (wS_ret (wE_or (wE_cmp (wE_lenO (wE_var rfl (w_lenOT (wE_cst (w_eq (eqD_int _ _ _) ⟨_, rfl, fun hh => ?_, fun hh => ?_⟩))))))))
  · have h1 : n.length = 1 := by have := of_decide_eq_true hh; rw [List.length_map] at this; omega
    have : fit mT mS n = true := by simp [fit, h1]
    have q := q st (Ap.refl _)
    rw [this] at q
    rw [hh]; exact q
  · have h1 : n.length ≠ 1 := by have := of_decide_eq_false hh; rw [List.length_map] at this; omega
    refine wE_and (wE_cmp (wE_lenO (wE_var rfl (w_lenOT (wE_sub (wE_var rfl (wE_cst ⟨_, g_subL hb rfl, w_le ⟨_, rfl, fun hh => ?_, fun hh => ?_⟩⟩)))))))
    · have h2 : n.length ≤ mT := by simpa using hh
      refine wE_cmp ?_
      refine sum_signs (n := n) A hn hl (by simp only [List.length_cons, List.length_nil]; decide) (wE_var (by rfl) ⟨rfl, rfl⟩) fun st' a => ?_
      have hb' := a.get hb
      (repeat' (first
    | (with_reducible refine wSs_cons ?_; try simp only [List.set_cons_zero, List.set_cons_succ]) | with_reducible refine wS_asg ?_ | with_reducible refine wS_if ?_ | with_reducible refine wS_ret ?_ | with_reducible refine wS_expr ?_ | with_reducible refine wS_asgS ?_ | with_reducible refine wS_par ?_ | with_reducible refine wS_asgT ?_ | with_reducible refine wS_for ?_ | (with_reducible refine wSs_nil ?_; try simp only [List.set_cons_zero, List.set_cons_succ])
    | with_reducible refine wE_cst ?_ | with_reducible refine wE_op2 ?_ | with_reducible refine wE_cmp ?_ | with_reducible refine wE_sub ?_ | with_reducible refine wE_call ?_ | with_reducible refine wE_blt ?_ | with_reducible refine wEs_cons ?_ | with_reducible refine wEs_nil ?_ | with_reducible refine wT ?_ | with_reducible refine wE_not ?_ | with_reducible refine wE_lst ?_ | with_reducible refine wE_tup ?_ | with_reducible refine wE_and ?_ | with_reducible refine wE_or ?_ | with_reducible refine wE_ite ?_ | with_reducible refine wE_cmp2 ?_ | with_reducible refine wE_lc ?_ | with_reducible refine wE_slc ?_ | with_reducible refine wE_neg ?_ | with_reducible refine wE_lzip ?_ | with_reducible refine wE_lstX ?_ | with_reducible refine wE_tupX ?_ | with_reducible refine wXs_nil ?_ | with_reducible refine wXs_cons ?_ | with_reducible refine wXs_star ?_ | with_reducible refine wS_whil ?_ | with_reducible refine w_lenT ?_ | with_reducible refine w_slcT ?_ | with_reducible refine w_tupT ?_ | with_reducible refine ⟨(_ : Int), rfl, ?_⟩
    | with_reducible refine ⟨(_ : Option Int), by rfl, ?_⟩ | with_reducible refine ⟨(_ : Src × Nat), g_srcS, ?_⟩ | with_reducible refine ⟨(_ : Src × Nat), g_srcE, ?_⟩ | with_reducible refine ⟨(_ : Src × Nat), g_srcT, ?_⟩ | with_reducible refine ⟨(_ : Src × Nat), g_srcL (by assumption), ?_⟩
     | with_reducible refine wE_at ?_ | with_reducible refine wE_prop ?_ | with_reducible refine wE_meth ?_ | with_reducible refine wE_lenO ?_ | with_reducible refine w_lenOT ?_ | with_reducible refine wS_setF ?_ | refine ⟨(_ : Nat), (_ : List (Nat × D)), (_ : D), g_ins (by assumption), rfl, rfl, ?_⟩ | refine ⟨(_ : Nat), (_ : List (Nat × D)), (_ : Nat), g_ins (by assumption), rfl, ?_⟩ | refine ⟨(_ : Nat), g_meth (by assumption) rfl rfl, ?_⟩ | with_reducible refine w_add ?_ | with_reducible refine w_sub ?_ | with_reducible refine w_leS ?_ | with_reducible refine w_lt ?_ | with_reducible refine w_le ?_ | with_reducible refine w_gt ?_ | with_reducible refine w_ge ?_ | with_reducible refine w_int ?_ | with_reducible refine w_intB ?_ | with_reducible refine w_abs ?_ | with_reducible refine w_ord ?_ | with_reducible refine w_min ?_ | with_reducible refine w_max ?_
    | refine wE_var rfl ?_
    | with_reducible refine w_eqS ?_ | with_reducible refine w_neS ?_ | with_reducible refine w_eq (eqD_bl _ _ _) ?_ | with_reducible refine w_ne (eqD_bl _ _ _) ?_
    | (with_reducible refine w_eqI (b := true) ?_ ?_; exact decide_eq_true (by omega)) | (with_reducible refine w_eqI (b := false) ?_ ?_; exact decide_eq_false (by omega)) | (with_reducible refine w_neI (b := true) ?_ ?_; exact decide_eq_true (by omega)) | (with_reducible refine w_neI (b := false) ?_ ?_; exact decide_eq_false (by omega))
    | with_reducible refine w_eq (eqD_int _ _ _) ?_ | with_reducible refine w_ne (eqD_int _ _ _) ?_
    | (with_reducible refine w_mod ?_ ?_; (first | omega | decide +kernel)) | (with_reducible refine w_mul ?_ ?_; exact mul_ok (by omega) (by first | omega | (split <;> omega))) | (with_reducible refine w_div ?_ ?_; (first | exact div_ok (by omega) (by omega) | decide +kernel)) | (with_reducible refine w_pow ?_ ?_; decide +kernel)
    | with_reducible refine ⟨(_ : Bool), g_eqI (b := true) (decide_eq_true (by omega)), ?_⟩ | with_reducible refine ⟨(_ : Bool), g_eqI (b := false) (decide_eq_false (by omega)), ?_⟩ | refine ⟨(_ : Bool), rfl, ?_⟩ | with_reducible refine w_isI_int ?_ | with_reducible refine w_isI_bool ?_ | with_reducible refine w_isI_str ?_ | with_reducible refine w_isI_tuple ?_ | with_reducible refine w_isI_list ?_ | with_reducible refine w_isS_int ?_ | with_reducible refine w_isS_bool ?_ | with_reducible refine w_isS_str ?_ | with_reducible refine w_isS_tuple ?_ | with_reducible refine w_isS_list ?_ | with_reducible refine w_isB_int ?_ | with_reducible refine w_isB_bool ?_ | with_reducible refine w_isB_str ?_ | with_reducible refine w_isB_tuple ?_ | with_reducible refine w_isB_list ?_ | with_reducible refine w_isN_int ?_ | with_reducible refine w_isN_bool ?_ | with_reducible refine w_isN_str ?_ | with_reducible refine w_isN_tuple ?_ | with_reducible refine w_isN_list ?_ | with_reducible refine w_isT_int ?_ | with_reducible refine w_isT_bool ?_ | with_reducible refine w_isT_str ?_ | with_reducible refine w_isT_tuple ?_ | with_reducible refine w_isT_list ?_
    | refine ⟨(_ : Option Int), rfl, ?_⟩ | refine ⟨(_ : D), g_subT rfl, ?_⟩ | refine ⟨(_ : D), g_subL (get_app _ _) rfl, ?_⟩ | refine ⟨(_ : D), g_subL (get_app2 _ _ _) rfl, ?_⟩ | refine ⟨(_ : D), g_subL (by assumption) rfl, ?_⟩ | refine ⟨(_ : D), g_subL (get_set (by assumption)) rfl, ?_⟩ | refine ⟨(_ : Store), g_set (by assumption) rfl, ?_⟩ | refine ⟨(_ : Store), g_set (get_set (by assumption)) rfl, ?_⟩
    | (with_reducible refine ⟨fun hh => ?_, fun hh => ?_⟩ <;> try exact absurd hh (by decide)) | refine ⟨by simp only [List.length_cons, List.length_nil]; decide, ?_⟩
    | simp only [List.set_cons_zero, List.set_cons_succ] | simp only [List.set_set]))
      have : fit mT mS n = decide ((signs n : Int) ≤ (mS : Int)) := by
        simp only [fit]
        rw [decide_eq_true h2]
        have : (n.length == 1) = false := by simpa using h1
        rw [this]
        simp
      rw [← this]
      exact q st' a
    · have h2 : ¬ n.length ≤ mT := by simpa using hh
      have : fit mT mS n = false := by simp [fit, h1, h2]
      have q := q st (Ap.refl _)
      rw [this] at q
      rw [hh]; exact q
end
end Law

namespace Law
open RX PySem
theorem fold_K {m : Nat} {st : Store} {s : Src} {ds : List D} {tg : Tg} {b : EnvD → Store → OS} {env : EnvD} {n : Nat} {N : EnvD → Store → Prop} {R : D → Store → Prop} (hs : ∀ st', Kp m st st' → ∀ i, i ≤ ds.length → fetch s i st' = some ds[i]?) (hn : n = ds.length) (C : Nat → Cell) (I : Nat → EnvD → Prop)
    (h0 : I 0 env) (hc : st[m]? = some (C 0)) (step : ∀ i d env st', i < ds.length → ds[i]? = some d → I i env → Kp m st st' → st'[m]? = some (C i) → ∃ env1, put tg d env = some env1 ∧ (b env1 st').W (fun e s => I (i + 1) e ∧ Kp m st' s ∧ s[m]? = some (C (i + 1))) R)
    (fin : ∀ env st', I ds.length env → Kp m st st' → st'[m]? = some (C ds.length) → N env st') : (forLoop s tg b (n + 1) 0 env st).W N R := by
  subst hn
  refine for_W (n := ds.length) (fun i e s => I i e ∧ Kp m st s ∧ s[m]? = some (C i)) ⟨h0, Kp.refl _ _, hc⟩ ?_ ?_
  · rintro i e s' hi ⟨h1, h2, h3⟩
    have hx : ds[i]? = some ds[i] := by simp [hi]
    obtain ⟨env1, hp, hw⟩ := step i ds[i] e s' hi hx h1 h2 h3
    refine ⟨ds[i], env1, by rw [hs s' h2 i (by omega), hx], hp, ?_⟩
    exact WS_mono hw (fun e2 s2 ⟨q1, q2, q3⟩ => ⟨q1, h2.trans q2, q3⟩) fun _ _ q => q
  · rintro e s' ⟨h1, h2, h3⟩
    exact ⟨by rw [hs s' h2 _ (Nat.le_refl _)]; simp, fin e s' h1 h2 h3⟩
theorem pl_str {t : Tx} (h : gT t) (k : Nat) : plD k (.str t) = true := by
  have : t.all (fun c => decide (c < 1114112)) = true := List.all_eq_true.mpr fun c hc => by have := h.2 c hc; simp; omega
  cases k <;> simpa [plD] using this
theorem pl_strs {ts : List Tx} (h : gTs ts) (k : Nat) : plDs k (ts.map D.str) = true := by
  induction ts with
  | nil => simp [plDs]
  | cons t ts ih => simp [plDs, pl_str (h t List.mem_cons_self) k, ih fun x hx => h x (List.mem_cons_of_mem _ hx)]
theorem pl_nd {n : Nd} (h : gTs n) : plD 1 (ndD n) = true := by simpa [plD] using pl_strs h 0
theorem pl_ns {f : List Nd} (h : ∀ n ∈ f, gTs n) : plDs 1 (nsD f) = true := by
  induction f with
  | nil => simp [plDs]
  | cons n f ih =>
    have h1 := pl_nd (h n List.mem_cons_self)
    have h2 := ih fun x hx => h x (List.mem_cons_of_mem _ hx)
    simp only [nsD, List.map_cons, plDs, h1, Bool.true_and] at h2 ⊢
    exact h2
theorem str_inj {a b : List Tx} (h : a.map D.str = b.map D.str) : a = b := by
  induction a generalizing b with
  | nil => cases b <;> simp at h ⊢
  | cons x a ih =>
    cases b with
    | nil => simp at h
    | cons y b =>
      simp only [List.map_cons, List.cons.injEq, D.str.injEq] at h
      rw [h.1, ih h.2]
theorem ns_inj {a b : List Nd} (h : nsD a = nsD b) : a = b := by
  induction a generalizing b with
  | nil => cases b <;> simp at h ⊢
  | cons x a ih =>
    cases b with
    | nil => simp at h
    | cons y b =>
      simp only [nsD, List.map_cons, List.cons.injEq, D.tup.injEq] at h
      rw [str_inj h.1, ih h.2]
theorem ns_app (a b : List Nd) : nsD (a ++ b) = nsD a ++ nsD b := by simp
theorem ns_last {f : List Nd} {l : Nd} (h : f.getLast? = some l) : itemAt (nsD f) (-1) = some (ndD l) := atI_last (by rw [nsD, List.getLast?_map, h]; rfl)
theorem last_cat {f : List Nd} {l : Nd} (h : f.getLast? = some l) : f = f.dropLast ++ [l] := by
  rcases List.eq_nil_or_concat f with rfl | ⟨g, x, rfl⟩
  · simp at h
  · rw [List.concat_eq_append] at h ⊢
    simp at h
    subst h
    simp
theorem ixN_last {n : Nat} (h : 0 < n) : L2.ixN n (-1) = some (n - 1) := by
  unfold L2.ixN
  rw [if_neg (by omega)]
  split
  · congr 1; omega
  · omega
theorem set_last (f : List Nd) (l x : Nd) : (nsD (f ++ [l])).set (f.length + 1 - 1) (ndD x) = nsD (f ++ [x]) := by
  rw [ns_app, ns_app]
  have : f.length + 1 - 1 = (nsD f).length := by simp
  rw [this, List.set_append_right _ _ (Nat.le_refl _)]
  simp
theorem add_step {Γ : Sem} {m im c mT mS : Nat} {env : EnvD} {st : Store} {f : List Nd} {n : Nd} {ct ea e1 e2 : E} {B0 : Bool} {R : D → Store → Prop} (hvar : env[im]? = some (some (.ref m))) (hm : st[m]? = some (.lst (nsD f))) (hB : B0 = true → f ≠ []) (hsz : f.length < SL)
    (hct : (evE Γ ct env st).W fun d s => d = .bl B0 ∧ Ap st s)
    (he1 : ∀ l, f.getLast? = some l → ∀ st2, st2[m]? = some (.lst (nsD f)) → (evE Γ e1 env st2).W fun d s => d = ndD (l ++ n) ∧ s = st2)
    (he2 : ∀ st2, (evE Γ e2 env st2).W fun d s => d = ndD n ∧ s = st2)
    (hcall : ∀ l, f.getLast? = some l → ∀ st2, Ap st st2 → (evE Γ (.call c [ea, e1]) env st2).W fun d s => d = .bl (fit mT mS (l ++ n)) ∧ Ap st2 s) :
    (evSs Γ [.ifs (.and ct (.call c [ea, e1])) [.asgS (.var im) (.neg (.cst (.int 1))) e1] [.expr (.met .append (.var im) [e2])]] env st).W
      (fun e s => e = env ∧ Kp m st s ∧ s[m]? = some (.lst (nsD (if B0 then addN mT mS f n else f ++ [n])))) R := by
  have app : ∀ st2, Ap st st2 → (evSs Γ [.expr (.met .append (.var im) [e2])] env st2).W (fun e s => e = env ∧ Kp m st s ∧ s[m]? = some (.lst (nsD (f ++ [n])))) R := by
    intro st2 a
    have hm2 := a.get hm
    refine wSs_cons (wS_expr (wE_met (wE_var hvar ⟨by simp only [metIs, hm2], wEs_cons (W_mono (he2 st2) fun d s ⟨e, es⟩ => wEs_nil ?_)⟩)))
    subst e; subst es
    refine w_append hm2 (by simpa using hsz) (wSs_nil ⟨rfl, a.kp.trans (Kp.own _ _ _), ?_⟩)
    rw [List.getElem?_set_self (lt_of_get hm2), ns_app]
    rfl
  refine wSs_cons (wS_if (wT (wE_and (W_mono hct fun d s ⟨ed, a⟩ => ?_))))
  subst ed
  refine ⟨B0, rfl, fun hb => ?_, fun hb => ?_⟩
  · subst hb
    obtain ⟨l, hl⟩ : ∃ l, f.getLast? = some l := by
      cases q : f.getLast? with
      | none => exact absurd (List.getLast?_eq_none_iff.mp q) (hB rfl)
      | some l => exact ⟨l, rfl⟩
    have hfl := last_cat hl
    refine W_mono (hcall l hl s a) fun d s2 ⟨ed, a2⟩ => ?_
    subst ed
    refine ⟨_, rfl, fun hh => ?_, fun hh => ?_⟩
    · have hm2 := (a.trans a2).get hm
      refine wSs_cons (wS_asgS (W_mono (he1 l hl s2 hm2) fun d s3 ⟨ed, es⟩ => ?_))
      subst ed; subst es
      refine wE_var hvar (wE_neg (wE_cst ⟨1, rfl, ⟨_, g_set hm2 (ixN_last (by rw [hfl]; simp)), wSs_nil (wSs_nil ⟨rfl, (a.trans a2).kp.trans (Kp.own _ _ _), ?_⟩)⟩⟩))
      rw [List.getElem?_set_self (lt_of_get hm2)]
      have e0 : addN mT mS f n = f.dropLast ++ [l ++ n] := by
        have := addN_snoc (T := mT) (S := mS) f.dropLast l n
        rw [← hfl] at this
        rw [this, hh]; rfl
      rw [if_pos rfl, e0]
      have := set_last f.dropLast l (l ++ n)
      rw [← hfl] at this
      rw [← this]
      congr 4
      have : f.length = f.dropLast.length + 1 := by
        conv => lhs; rw [hfl]
        simp
      rw [List.length_map, this]
    · have e0 : addN mT mS f n = f ++ [n] := by
        have := addN_snoc (T := mT) (S := mS) f.dropLast l n
        rw [← hfl] at this
        rw [this, hh]
        simp only [Bool.false_eq_true, if_false]
        conv => rhs; rw [hfl]
        simp
      rw [if_pos rfl, e0]
      exact WS_mono (app s2 (a.trans a2)) (fun e s h => wSs_nil h) fun _ _ h => h
  · subst hb
    refine ⟨_, rfl, fun hh => absurd hh (by decide), fun _ => ?_⟩
    simp only [Bool.false_eq_true, if_false]
    exact WS_mono (app s a) (fun e s h => wSs_nil h) fun _ _ h => h
end Law

namespace Law
open RX PySem
theorem kp_new {st s : Store} {c : Cell} (h : Kp st.length (st ++ [c]) s) : Ap st s :=
  ⟨by have := h.1; simp at this; omega, fun j hj => (h.2 j (by simp; omega) (by omega)).trans (by rw [List.getElem?_append_left hj])⟩
def okL (ns : List Nd) : Prop := gTs ns.flatten ∧ ns.flatten.length ≤ 1000 ∧ ns.length ≤ 1000
theorem ok_mem {ns : List Nd} (h : gTs ns.flatten) {n : Nd} (hn : n ∈ ns) : gTs n := fun t ht => h t (List.mem_flatten.mpr ⟨n, hn, ht⟩)
theorem len_mem {ns : List Nd} {n : Nd} (hn : n ∈ ns) : n.length ≤ ns.flatten.length := by
  obtain ⟨a, b, rfl⟩ := List.append_of_mem hn
  simp; omega
theorem ct_ne {Γ : Sem} {im m : Nat} {env : EnvD} {st : Store} {f : List Nd} (hvar : env[im]? = some (some (.ref m))) (hm : st[m]? = some (.lst (nsD f))) (hg : gTs f.flatten) : (evE Γ (.cmp .NotEq (.var im) (.lst [])) env st).W fun d s => d = .bl (decide (f ≠ [])) ∧ Ap st s := by
  refine wE_cmp (wE_var hvar (wE_lst (wEs_nil ⟨by simp only [List.length_nil]; decide, ?_⟩)))
  refine w_nePL 1 ((Ap.app st _).get hm) (get_app _ _) (pl_ns fun n hn => ok_mem hg hn) (by simp [plDs]) (by decide) fun t ht => ⟨?_, Ap.app _ _⟩
  congr 1
  cases t with
  | true =>
    have : nsD f = [] := ht.mp rfl
    have : f = [] := by simpa using this
    simp [this]
  | false =>
    have : f ≠ [] := fun z => by have := ht.mpr (by simp [z]); cases this
    simp [this]
theorem add_any {T S : Nat} (f : List Nd) (n : Nd) : (if decide (f ≠ []) = true then addN T S f n else f ++ [n]) = addN T S f n := by
  cases f with
  | nil => simp [addN_nil]
  | cons a f => simp
theorem len_add {T S : Nat} (f : List Nd) (n : Nd) : (addN T S f n).length ≤ f.length + 1 := by
  rcases List.eq_nil_or_concat f with rfl | ⟨g, l, rfl⟩
  · simp [addN_nil]
  · rw [List.concat_eq_append, addN_snoc]
    split <;> simp
theorem len_fold {T S : Nat} : ∀ (ns f : List Nd), (ns.foldl (addN T S) f).length ≤ f.length + ns.length
  | [], f => by simp
  | n :: ns, f => by
    rw [List.foldl_cons]
    have := len_fold (T := T) (S := S) ns (addN T S f n)
    have := len_add (T := T) (S := S) f n
    simp only [List.length_cons]
    omega
theorem fold_snoc {T S : Nat} {ns : List Nd} {i : Nat} {n : Nd} (f : List Nd) (h : ns[i]? = some n) : (ns.take (i + 1)).foldl (addN T S) f = addN T S ((ns.take i).foldl (addN T S) f) n := by
  rw [List.take_succ, h, List.foldl_append]
  rfl
theorem gTs_sub {a b : List Tx} (h : gTs b) (hs : ∀ t ∈ a, t ∈ b) : gTs a := fun t ht => h t (hs t ht)
theorem flat_fold0 {T S : Nat} (ns : List Nd) (i : Nat) : ((ns.take i).foldl (addN T S) []).flatten = (ns.take i).flatten := by rw [flat_fold]; simp
theorem gTs_fold {T S : Nat} {ns : List Nd} (h : gTs ns.flatten) (i : Nat) : gTs ((ns.take i).foldl (addN T S) []).flatten := by
  rw [flat_fold0]
  exact gTs_sub h fun t ht => by
    obtain ⟨n, hn, ht⟩ := List.mem_flatten.mp ht
    exact List.mem_flatten.mpr ⟨n, List.mem_of_mem_take hn, ht⟩
theorem len_flat_take {ns : List Nd} (i : Nat) : (ns.take i).flatten.length ≤ ns.flatten.length := by
  conv => rhs; rw [← List.take_append_drop i ns]
  rw [List.flatten_append, List.length_append]; omega
theorem ok_join {T S : Nat} {ns : List Nd} (h : okL ns) {i : Nat} {l n : Nd} (hl : ((ns.take i).foldl (addN T S) []).getLast? = some l) (hn : ns[i]? = some n) : gTs (l ++ n) ∧ (l ++ n).length ≤ SL := by
  have h1 := List.mem_of_getLast? hl
  have g1 := gTs_fold (T := T) (S := S) h.1 i
  have g2 := ok_mem h.1 (List.mem_of_getElem? hn)
  have l1 := len_mem h1
  rw [flat_fold0] at l1
  have l2 := len_flat_take (ns := ns) i
  have l3 := len_mem (List.mem_of_getElem? hn)
  have := h.2.1
  refine ⟨fun t ht => ?_, by rw [List.length_append, SLv]; omega⟩
  rcases List.mem_append.mp ht with ht | ht
  · exact ok_mem g1 h1 t ht
  · exact g2 t ht
section
variable {F : Nat → Option Fn} (A : At F) {k : Nat} {st : Store}
include A
theorem law_joined {b q mT mS : Nat} {ns : List Nd} (hb : st[b]? = some (.lst [.int mT, .int mS])) (hq : st[q]? = some (.lst (nsD ns))) (ho : okL ns) :
    (callN F (k + 2) 46 [.ref b, .ref q] st).W fun d s => d = .ref st.length ∧ Ap st s ∧ s[st.length]? = some (.lst (nsD (joinF mT mS ns))) := by
  rw [W_call A._law_joined rfl]
  simp only [List.map_cons, List.map_nil, List.cons_append, List.nil_append, List.length_cons, List.length_nil, List.replicate_succ, List.replicate_zero, Nat.reduceAdd, Nat.reduceSub, T._law_joined]
  refine wSs_cons (wS_asg (wE_lst (wEs_nil ⟨by simp only [List.length_nil]; decide, by simp only [List.length_cons, List.length_nil]; decide, ?_⟩)))
  simp only [List.set_cons_zero, List.set_cons_succ]
  have hq1 := (Ap.app st [.lst []]).get hq
  have hb1 := (Ap.app st [.lst []]).get hb
  have hqn : q ≠ st.length := fun z => by have := lt_of_get hq; omega
  have hbn : b ≠ st.length := fun z => by have := lt_of_get hb; omega
  refine wSs_cons (wS_for (wEs_cons (wE_var rfl (wEs_nil ⟨_, g_srcL hq1, ?_⟩))))
  refine fold_K (m := st.length) (ds := nsD ns) (fun st' a i hi => by simp only [fetch, itemsOf, a.get hq1 hqn]) (by rfl) (fun i => .lst (nsD ((ns.take i).foldl (addN mT mS) []))) (fun _ e => ∃ y, e = [some (.ref b), some (.ref q), some (.ref st.length), y]) ⟨_, rfl⟩ (get_app _ _) ?_ ?_
  · rintro i d env st' hi hd ⟨y, rfl⟩ a hc
    rw [nsD, List.getElem?_map] at hd
    cases hn : ns[i]? with
    | none => rw [hn] at hd; cases hd
    | some n =>
      rw [hn] at hd
      cases hd
      refine ⟨_, by rfl, ?_⟩
      have hlen : ((ns.take i).foldl (addN mT mS) []).length < SL := by
        have := len_fold (T := mT) (S := mS) (ns.take i) []
        rw [List.length_take] at this
        have := ho.2.2
        simp at *
        rw [SLv]; omega
      have hb2 := a.get hb1 hbn
      refine WS_mono (add_step (B0 := decide ((ns.take i).foldl (addN mT mS) [] ≠ [])) (n := n) (mT := mT) (mS := mS) (by rfl) hc (fun h => by simpa using h) hlen (ct_ne (by rfl) hc (gTs_fold ho.1 i)) ?_ ?_ ?_) (fun e s h => ⟨⟨_, h.1⟩, h.2.1, ?_⟩) fun _ _ h => h
      · intro l hl st2 hm2
        refine wE_op2 (wE_sub (wE_var (by rfl) (wE_neg (wE_cst ⟨1, rfl, _, g_subL hm2 (ns_last hl), wE_var (by rfl) (w_catT ?_ ?_)⟩))))
        · have := (ok_join ho hl hn).2
          simpa using this
        · exact ⟨by simp, rfl⟩
      · exact fun st2 => wE_var (by rfl) ⟨rfl, rfl⟩
      · intro l hl st2 a2
        refine wE_call (wEs_cons (wE_var (by rfl) (wEs_cons (wE_op2 (wE_sub (wE_var (by rfl) (wE_neg (wE_cst ⟨1, rfl, _, g_subL (a2.get hc) (ns_last hl), wE_var (by rfl) (w_catT ?_ (wEs_nil ?_))⟩))))))))
        · have := (ok_join ho hl hn).2
          simpa using this
        · have e : D.tup (l.map D.str ++ n.map D.str) = ndD (l ++ n) := by simp
          rw [e]
          exact law_fits A (a2.get hb2) (ok_join ho hl hn).1 (ok_join ho hl hn).2 fun st3 a3 => ⟨rfl, a3⟩
      · rw [fold_snoc [] hn, ← add_any]
        exact h.2.2
  · rintro env st' ⟨y, rfl⟩ a hc
    refine wSs_cons (wS_ret (wE_var rfl ⟨rfl, kp_new a, ?_⟩))
    rw [hc]
    have : (nsD ns).length = ns.length := by simp
    rw [this, List.take_length]
    rfl
end
end Law

namespace Law
open RX PySem
theorem ok_ones {ts : List Tx} (h : gTs ts) (hl : ts.length ≤ 1000) : okL (ts.map fun t => [t]) := by
  have e : (ts.map fun t => [t]).flatten = ts := by
    have := flat_part (T := 0) (S := 0) ts
    unfold partF at this
    rwa [flat_join] at this
  exact ⟨by rw [e]; exact h, by rw [e]; exact hl, by simpa using hl⟩
theorem joinP_snoc {T S w : Nat} (n : Nd) : ∀ (l f : List Nd) (j : Nat), joinP T S f j w (l ++ [n]) = if 0 < j + l.length ∧ j + l.length ≤ w then addN T S (joinP T S f j w l) n else joinP T S f j w l ++ [n]
  | [], f, j => by
    simp only [List.nil_append, joinP, List.length_nil, Nat.add_zero]
  | a :: l, f, j => by
    rw [List.cons_append]
    unfold joinP
    rw [joinP_snoc n l]
    simp only [List.length_cons]
    have : j + 1 + l.length = j + (l.length + 1) := by omega
    rw [this]
theorem joinP_take {T S w i : Nat} {l f : List Nd} {n : Nd} (h : l[i]? = some n) : joinP T S f 0 w (l.take (i + 1)) = if 0 < i ∧ i ≤ w then addN T S (joinP T S f 0 w (l.take i)) n else joinP T S f 0 w (l.take i) ++ [n] := by
  have hl : i < l.length := (List.getElem?_eq_some_iff.mp h).1
  have e : l.take (i + 1) = l.take i ++ [n] := by rw [List.take_succ, h]; rfl
  have hlen : (l.take i).length = i := by rw [List.length_take]; omega
  rw [e, joinP_snoc, hlen, Nat.zero_add]
theorem flat_joinP {T S w : Nat} : ∀ (l f : List Nd) (j : Nat), (joinP T S f j w l).flatten = f.flatten ++ l.flatten
  | [], f, j => by simp [joinP]
  | n :: l, f, j => by
    unfold joinP
    rw [flat_joinP l]
    split
    · rw [flat_add]; simp
    · simp
theorem len_joinP {T S w : Nat} : ∀ (l f : List Nd) (j : Nat), (joinP T S f j w l).length ≤ f.length + l.length
  | [], f, j => by simp [joinP]
  | n :: l, f, j => by
    unfold joinP
    have := len_joinP (T := T) (S := S) (w := w) l (if 0 < j ∧ j ≤ w then addN T S f n else f ++ [n]) (j + 1)
    have h2 : (if 0 < j ∧ j ≤ w then addN T S f n else f ++ [n]).length ≤ f.length + 1 := by
      split
      · exact len_add f n
      · simp
    simp only [List.length_cons]
    omega
theorem joinP_ne {T S w : Nat} : ∀ (l f : List Nd) (j : Nat), f ≠ [] ∨ l ≠ [] → joinP T S f j w l ≠ []
  | [], f, j, h => by simpa [joinP] using h
  | n :: l, f, j, h => by
    unfold joinP
    refine joinP_ne l _ _ (.inl ?_)
    split
    · exact addN_ne f n
    · simp
theorem cat_map (a b : List Tx) : D.tup (a.map D.str ++ b.map D.str) = ndD (a ++ b) := by simp
section
variable {F : Nat → Option Fn} (A : At F) {k : Nat} {st : Store}
include A
theorem law_parted {b mT mS : Nat} {ts : List Tx} (hb : st[b]? = some (.lst [.int mT, .int mS])) (ht : gTs ts) (hlt : ts.length ≤ 1000) :
    (callN F (k + 2) 45 [.ref b, .tup (ts.map D.str)] st).W fun d s => d = .ref st.length ∧ Ap st s ∧ s[st.length]? = some (.lst (nsD (partF mT mS ts))) := by
  have ho := ok_ones ht hlt
  rw [W_call A._law_parted rfl]
  simp only [List.map_cons, List.map_nil, List.cons_append, List.nil_append, List.length_cons, List.length_nil, List.replicate_succ, List.replicate_zero, Nat.reduceAdd, Nat.reduceSub, T._law_parted]
  refine wSs_cons (wS_asg (wE_lst (wEs_nil ⟨by simp only [List.length_nil]; decide, by simp only [List.length_cons, List.length_nil]; decide, ?_⟩)))
  simp only [List.set_cons_zero, List.set_cons_succ]
  have hb1 := (Ap.app st [.lst []]).get hb
  have hbn : b ≠ st.length := fun z => by have := lt_of_get hb; omega
  refine wSs_cons (wS_for (wEs_cons (wE_var rfl (wEs_nil ⟨_, g_srcT, ?_⟩))))
  refine fold_K (m := st.length) (ds := ts.map D.str) (fun st' a i hi => by simp only [fetch]) (by rfl) (fun i => .lst (nsD (((ts.map fun t => [t]).take i).foldl (addN mT mS) []))) (fun _ e => ∃ y, e = [some (.ref b), some (.tup (ts.map D.str)), some (.ref st.length), y]) ⟨_, rfl⟩ (get_app _ _) ?_ ?_
  · rintro i d env st' hi hd ⟨y, rfl⟩ a hc
    rw [List.getElem?_map] at hd
    cases hn0 : ts[i]? with
    | none => rw [hn0] at hd; cases hd
    | some t =>
      rw [hn0] at hd
      cases hd
      have hn : (ts.map fun t => [t])[i]? = some [t] := by rw [List.getElem?_map, hn0]; rfl
      refine ⟨_, by rfl, ?_⟩
      have hlen : (((ts.map fun t => [t]).take i).foldl (addN mT mS) []).length < SL := by
        have := len_fold (T := mT) (S := mS) ((ts.map fun t => [t]).take i) []
        rw [List.length_take] at this
        simp at *
        rw [SLv]; omega
      have hb2 := a.get hb1 hbn
      refine WS_mono (add_step (B0 := decide (((ts.map fun t => [t]).take i).foldl (addN mT mS) [] ≠ [])) (n := [t]) (mT := mT) (mS := mS) (by rfl) hc (fun h => by simpa using h) hlen (ct_ne (by rfl) hc (gTs_fold ho.1 i)) ?_ ?_ ?_) (fun e s h => ⟨⟨_, h.1⟩, h.2.1, ?_⟩) fun _ _ h => h
      · intro l hl st2 hm2
        refine wE_op2 (wE_sub (wE_var (by rfl) (wE_neg (wE_cst ⟨1, rfl, _, g_subL hm2 (ns_last hl), wE_tup (wEs_cons (wE_var (by rfl) (wEs_nil ⟨by simp only [List.length_cons, List.length_nil]; decide, w_catT ?_ ?_⟩)))⟩))))
        · have := (ok_join ho hl hn).2
          simpa using this
        · exact ⟨by simp, rfl⟩
      · exact fun st2 => wE_tup (wEs_cons (wE_var (by rfl) (wEs_nil ⟨by simp only [List.length_cons, List.length_nil]; decide, rfl, rfl⟩)))
      · intro l hl st2 a2
        refine wE_call (wEs_cons (wE_var (by rfl) (wEs_cons (wE_op2 (wE_sub (wE_var (by rfl) (wE_neg (wE_cst ⟨1, rfl, _, g_subL (a2.get hc) (ns_last hl), wE_tup (wEs_cons (wE_var (by rfl) (wEs_nil ⟨by simp only [List.length_cons, List.length_nil]; decide, w_catT ?_ (wEs_nil ?_)⟩)))⟩))))))))
        · have := (ok_join ho hl hn).2
          simpa using this
        · have e : D.tup (l.map D.str ++ [D.str t]) = ndD (l ++ [t]) := by simp
          rw [e]
          exact law_fits A (a2.get hb2) (ok_join ho hl hn).1 (ok_join ho hl hn).2 fun st3 a3 => ⟨rfl, a3⟩
      · rw [fold_snoc [] hn, ← add_any]
        exact h.2.2
  · rintro env st' ⟨y, rfl⟩ a hc
    refine wSs_cons (wS_ret (wE_var rfl ⟨rfl, kp_new a, ?_⟩))
    rw [hc]
    have : (ts.map D.str).length = (ts.map fun t => [t]).length := by simp
    rw [this, List.take_length]
    rfl
theorem parted {b q mT mS : Nat} {ts : List Tx} (hb : st[b]? = some (bndC mT mS)) (hq : st[q]? = some (.lst (ts.map D.str))) (ht : gTs ts) (hlt : ts.length ≤ 1000) :
    (callN F (k + 2) 19 [.ref b, .ref q] st).W fun d s => d = .ref st.length ∧ Ap st s ∧ s[st.length]? = some (.lst (nsD (partF mT mS ts))) := by
  have ho := ok_ones ht hlt
  rw [W_call A.parted_node rfl]
  simp only [List.map_cons, List.map_nil, List.cons_append, List.nil_append, List.length_cons, List.length_nil, List.replicate_succ, List.replicate_zero, Nat.reduceAdd, Nat.reduceSub, T.parted_node]
  refine wSs_cons (wS_asg (wE_lst (wEs_nil ⟨by simp only [List.length_nil]; decide, by simp only [List.length_cons, List.length_nil]; decide, ?_⟩)))
  simp only [List.set_cons_zero, List.set_cons_succ]
  have hq1 := (Ap.app st [.lst []]).get hq
  have hqn : q ≠ st.length := fun z => by have := lt_of_get hq; omega
  have hb1 := (Ap.app st [.lst []]).get hb
  have hbn : b ≠ st.length := fun z => by have := lt_of_get hb; omega
  refine wSs_cons (wS_for (wEs_cons (wE_var rfl (wEs_nil ⟨_, g_srcL hq1, ?_⟩))))
  refine fold_K (m := st.length) (ds := ts.map D.str) (fun st' a i hi => by simp only [fetch, itemsOf, a.get hq1 hqn]) (by rfl) (fun i => .lst (nsD (((ts.map fun t => [t]).take i).foldl (addN mT mS) []))) (fun _ e => ∃ y, e = [some (.ref b), some (.ref q), some (.ref st.length), y]) ⟨_, rfl⟩ (get_app _ _) ?_ ?_
  · rintro i d env st' hi hd ⟨y, rfl⟩ a hc
    rw [List.getElem?_map] at hd
    cases hn0 : ts[i]? with
    | none => rw [hn0] at hd; cases hd
    | some t =>
      rw [hn0] at hd
      cases hd
      have hn : (ts.map fun t => [t])[i]? = some [t] := by rw [List.getElem?_map, hn0]; rfl
      refine ⟨_, by rfl, ?_⟩
      have hlen : (((ts.map fun t => [t]).take i).foldl (addN mT mS) []).length < SL := by
        have := len_fold (T := mT) (S := mS) ((ts.map fun t => [t]).take i) []
        rw [List.length_take] at this
        simp at *
        rw [SLv]; omega
      have hb2 := a.get hb1 hbn
      have hj := fun l hl => ok_join (T := mT) (S := mS) (l := l) ho hl hn
      refine WS_mono (add_step (B0 := decide (((ts.map fun t => [t]).take i).foldl (addN mT mS) [] ≠ [])) (n := [t]) (mT := mT) (mS := mS) (by rfl) hc (fun h => by simpa using h) hlen (ct_ne (by rfl) hc (gTs_fold ho.1 i)) ?_ ?_ ?_) (fun e s h => ⟨⟨_, h.1⟩, h.2.1, ?_⟩) fun _ _ h => h
      · intro l hl st2 hm2
        refine wE_tupX (wXs_star (wE_sub (wE_var (by rfl) (wE_neg (wE_cst ⟨1, rfl, _, g_subL hm2 (ns_last hl), _, rfl, wXs_cons (wE_var (by rfl) (wXs_nil ?_))⟩)))))
        have := (hj l hl).2
        exact ⟨by simpa using this, by simp, rfl⟩
      · exact fun st2 => wE_tup (wEs_cons (wE_var (by rfl) (wEs_nil ⟨by simp only [List.length_cons, List.length_nil]; decide, rfl, rfl⟩)))
      · intro l hl st2 a2
        refine wE_call (wEs_cons (wE_var (by rfl) (wEs_cons (wE_tupX (wXs_star (wE_sub (wE_var (by rfl) (wE_neg (wE_cst ⟨1, rfl, _, g_subL (a2.get hc) (ns_last hl), _, rfl, wXs_cons (wE_var (by rfl) (wXs_nil ⟨?_, wEs_nil ?_⟩))⟩)))))))))
        · have := (hj l hl).2
          simpa using this
        · have e : D.tup (l.map D.str ++ [D.str t]) = ndD (l ++ [t]) := by simp
          rw [e]
          exact does_node_fit A (a2.get hb2) (hj l hl).1 (hj l hl).2 fun st3 a3 => ⟨rfl, a3⟩
      · rw [fold_snoc [] hn, ← add_any]
        exact h.2.2
  · rintro env st' ⟨y, rfl⟩ a hc
    refine wSs_cons (wS_ret (wE_var rfl ⟨rfl, kp_new a, ?_⟩))
    rw [hc]
    have : (ts.map D.str).length = (ts.map fun t => [t]).length := by simp
    rw [this, List.take_length]
    rfl
omit A in
theorem w_slcLs {q : Nat} {P : D → Store → Prop} {ds : List D} {l u : Option Int} (h : st[q]? = some (.lst ds)) (p : P (.ref st.length) (st ++ [.lst (cut ds l u)])) : (slcB (.ref q) l u st).W P := by
  simp only [slcB, itemsOf, h, RX.alloc]
  exact .ok p
omit A in
theorem kp_ap {m : Nat} {st1 s : Store} (a : Ap st st1) (h : Kp m st1 s) (hm : st.length ≤ m) : Ap st s :=
  ⟨Nat.le_trans a.1 h.1, fun j hj => (h.2 j (Nat.lt_of_lt_of_le hj a.1) (by omega)).trans (a.2 j hj)⟩
omit A in
theorem g_srcEn {n : Nat} {ds : List D} (h : st[n]? = some (.lst ds)) : srcOf .enum [.ref n] st = some (.enum n, ds.length) := by simp only [srcOf, h]
omit A in
theorem f_enum {n i : Nat} {ds : List D} (h : st[n]? = some (.lst ds)) : fetch (.enum n) i st = some (ds.mapIdx fun i d => D.tup [.int (i : Nat), d])[i]? := by
  simp only [fetch, itemsOf, h, List.getElem?_mapIdx]
  cases ds[i]? <;> rfl
theorem joined {b q mT mS fi w : Nat} {ns : List Nd} (hb : st[b]? = some (bndC mT mS)) (hq : st[q]? = some (.lst (nsD ns))) (ho : okL ns) :
    (callN F (k + 2) 20 [.ref b, .ref q, .int fi, .int (fi + w : Nat)] st).W fun d s => ∃ r, d = .ref r ∧ Ap st s ∧ s[r]? = some (.lst (nsD (joinP mT mS (ns.take fi) 0 w (ns.drop fi)))) := by
  rw [W_call A.joined_nodes rfl]
  simp only [List.map_cons, List.map_nil, List.cons_append, List.nil_append, List.length_cons, List.length_nil, List.replicate_succ, List.replicate_zero, Nat.reduceAdd, Nat.reduceSub, T.joined_nodes]
  refine wSs_cons (wS_asg (wE_blt (wEs_cons (wE_slc (wE_var rfl (wE_cst ⟨none, rfl, wE_var rfl ⟨some (fi : Int), rfl, w_slcLs hq (wEs_nil (w_listL (get_app _ _) ⟨by simp only [List.length_cons, List.length_nil]; decide, ?_⟩))⟩⟩))))))
  simp only [List.set_cons_zero, List.set_cons_succ]
  rw [cut_take (by omega)]
  have a1 : Ap st (st ++ [.lst ((nsD ns).take (Int.toNat fi))] ++ [.lst ((nsD ns).take (Int.toNat fi))]) := (Ap.app _ _).trans (Ap.app _ _)
  have hm0 : (st ++ [.lst ((nsD ns).take (Int.toNat fi))] ++ [.lst ((nsD ns).take (Int.toNat fi))])[(st ++ [Cell.lst ((nsD ns).take (Int.toNat fi))]).length]? = some (.lst (nsD (ns.take fi))) := by
    rw [get_app]
    simp
  have hmm : st.length ≤ (st ++ [Cell.lst ((nsD ns).take (Int.toNat fi))]).length := by simp
  generalize (st ++ [.lst ((nsD ns).take (Int.toNat fi))] ++ [.lst ((nsD ns).take (Int.toNat fi))] : Store) = st2 at a1 hm0 ⊢
  generalize (st ++ [Cell.lst ((nsD ns).take (Int.toNat fi))]).length = m at hm0 hmm ⊢
  have hq2 := a1.get hq
  refine wSs_cons (wS_for (wEs_cons (wE_slc (wE_var rfl (wE_var rfl ⟨some (fi : Int), rfl, wE_cst ⟨none, rfl, w_slcLs hq2 (wEs_nil ⟨_, g_srcEn (get_app _ _), ?_⟩)⟩⟩)))))
  rw [cut_all (by omega)]
  have hr : (nsD ns).drop (Int.toNat fi) = nsD (ns.drop fi) := by simp
  rw [hr]
  have hm1 := (Ap.app st2 [.lst (nsD (ns.drop fi))]).get hm0
  have hq3 : (st2 ++ [Cell.lst (nsD (ns.drop fi))])[st2.length]? = some (.lst (nsD (ns.drop fi))) := get_app _ _
  have hqm : st2.length ≠ m := fun z => by have := lt_of_get hm0; omega
  have hbm : b ≠ m := fun z => by have := lt_of_get hb; omega
  have a3 : Ap st (st2 ++ [Cell.lst (nsD (ns.drop fi))]) := a1.trans (Ap.app _ _)
  have hb3 := a3.get hb
  generalize (st2 ++ [Cell.lst (nsD (ns.drop fi))] : Store) = st3 at hm1 hq3 a3 hb3 ⊢
  generalize st2.length = q3 at hq3 hqm ⊢
  have jo : ∀ i, okL (joinP mT mS (ns.take fi) 0 w ((ns.drop fi).take i)) := by
    intro i
    have e : (joinP mT mS (ns.take fi) 0 w ((ns.drop fi).take i)).flatten = (ns.take fi ++ (ns.drop fi).take i).flatten := by rw [flat_joinP, List.flatten_append]
    have e2 : ns.take fi ++ (ns.drop fi).take i = ns.take (fi + i) := by rw [List.take_add]
    rw [e2] at e
    refine ⟨by
      rw [e]
      exact gTs_sub ho.1 fun t ht => by
        obtain ⟨n, hn, ht⟩ := List.mem_flatten.mp ht
        exact List.mem_flatten.mpr ⟨n, List.mem_of_mem_take hn, ht⟩, by rw [e]; exact Nat.le_trans (len_flat_take _) ho.2.1, ?_⟩
    have := len_joinP (T := mT) (S := mS) (w := w) ((ns.drop fi).take i) (ns.take fi) 0
    have h3 : (ns.take fi).length + ((ns.drop fi).take i).length = (ns.take (fi + i)).length := by rw [← List.length_append, e2]
    rw [h3, List.length_take] at this
    have := ho.2.2
    omega
  refine fold_K (m := m) (ds := (nsD (ns.drop fi)).mapIdx fun i d => D.tup [.int (i : Nat), d]) (fun st' a i hi => by rw [f_enum (a.get hq3 hqm)]) (by simp) (fun i => .lst (nsD (joinP mT mS (ns.take fi) 0 w ((ns.drop fi).take i)))) (fun _ e => ∃ y z, e = [some (.ref b), some (.ref q), some (.int fi), some (.int (fi + w : Nat)), some (.ref m), y, z]) ⟨_, _, rfl⟩ (by rw [hm1]; rfl) ?_ ?_
  · rintro i d env st' hi hd ⟨y, z, rfl⟩ a hc
    rw [List.getElem?_mapIdx, nsD, List.getElem?_map] at hd
    cases hn : (ns.drop fi)[i]? with
    | none => rw [hn] at hd; cases hd
    | some n =>
      rw [hn] at hd
      cases hd
      refine ⟨_, by rfl, ?_⟩
      have hj := jo i
      have hlen : (joinP mT mS (ns.take fi) 0 w ((ns.drop fi).take i)).length < SL := by have := hj.2.2; rw [SLv]; omega
      have hb4 := a.get hb3 hbm
      have nok : gTs n ∧ n.length ≤ 1000 := by
        have hmem := List.mem_of_mem_drop (List.mem_of_getElem? hn)
        exact ⟨ok_mem ho.1 hmem, Nat.le_trans (len_mem hmem) ho.2.1⟩
      have hcat : ∀ l, (joinP mT mS (ns.take fi) 0 w ((ns.drop fi).take i)).getLast? = some l → gTs (l ++ n) ∧ (l ++ n).length ≤ SL := by
        intro l hl
        have h1 := List.mem_of_getLast? hl
        refine ⟨fun t ht => ?_, ?_⟩
        · rcases List.mem_append.mp ht with ht | ht
          · exact ok_mem hj.1 h1 t ht
          · exact nok.1 t ht
        · have := len_mem h1
          have := hj.2.1
          have := nok.2
          rw [List.length_append, SLv]; omega
      refine WS_mono (add_step (B0 := decide (0 < i ∧ i ≤ w)) (n := n) (mT := mT) (mS := mS) (by rfl) hc (fun h => ?_) hlen ?_ ?_ ?_ ?_) (fun e s h => ⟨⟨_, _, h.1⟩, h.2.1, ?_⟩) fun _ _ h => h
      · have h := of_decide_eq_true h
        refine joinP_ne _ _ _ (.inr ?_)
        intro z
        have := congrArg List.length z
        rw [List.length_take, List.length_nil] at this
        have := (List.getElem?_eq_some_iff.mp hn).1
        omega
      · refine wE_cmp2 (wE_cst (wE_var (by rfl) ⟨_, rfl, fun hh => ?_, fun hh => ?_⟩))
        · have hh : (0 : Int) < (i : Nat) := of_decide_eq_true hh
          refine wE_op2 (wE_var (by rfl) (wE_var (by rfl) (w_sub (w_le ⟨?_, Ap.refl _⟩))))
          congr 1
          by_cases hw : i ≤ w
          · rw [decide_eq_true (by omega), decide_eq_true ⟨by omega, hw⟩]
          · rw [decide_eq_false (by omega), decide_eq_false (by omega)]
        · have hh := of_decide_eq_false hh
          have : decide (0 < i ∧ i ≤ w) = false := decide_eq_false (by omega)
          rw [this]
          exact ⟨rfl, Ap.refl _⟩
      · intro l hl st5 hm5
        refine wE_tupX (wXs_star (wE_sub (wE_var (by rfl) (wE_neg (wE_cst ⟨1, rfl, _, g_subL hm5 (ns_last hl), _, rfl, wXs_star (wE_var (by rfl) ⟨_, rfl, wXs_nil ?_⟩)⟩)))))
        have := (hcat l hl).2
        exact ⟨by simpa using this, by simp, rfl⟩
      · exact fun st5 => wE_var (by rfl) ⟨rfl, rfl⟩
      · intro l hl st5 a5
        refine wE_call (wEs_cons (wE_var (by rfl) (wEs_cons (wE_tupX (wXs_star (wE_sub (wE_var (by rfl) (wE_neg (wE_cst ⟨1, rfl, _, g_subL (a5.get hc) (ns_last hl), _, rfl, wXs_star (wE_var (by rfl) ⟨_, rfl, wXs_nil ⟨?_, wEs_nil ?_⟩⟩)⟩)))))))))
        · have := (hcat l hl).2
          simpa using this
        · have e : D.tup (l.map D.str ++ (n.map D.str ++ [])) = ndD (l ++ n) := by simp
          rw [e]
          exact does_node_fit A (a5.get hb4) (hcat l hl).1 (hcat l hl).2 fun st6 a6 => ⟨rfl, a6⟩
      · rw [joinP_take hn]
        have h2 := h.2.2
        by_cases hc : 0 < i ∧ i ≤ w
        · rw [if_pos hc]; rw [decide_eq_true hc] at h2; exact h2
        · rw [if_neg hc]; rw [decide_eq_false hc] at h2; exact h2
  · rintro env st' ⟨y, z, rfl⟩ a hc
    refine wSs_cons (wS_ret (wE_var rfl ⟨_, rfl, kp_ap a3 a hmm, ?_⟩))
    rw [hc]
    have : ((nsD (ns.drop fi)).mapIdx fun i d => D.tup [.int (i : Nat), d]).length = (ns.drop fi).length := by simp
    rw [this, List.take_length]
end
end Law

namespace Law
open RX PySem
def okS (ns : List Nd) : Prop := gTs ns.flatten ∧ ns.flatten.length ≤ 300 ∧ ns.length ≤ 300
theorem pk_ne {st : Store} {n b mT mS : Nat} {ns : List Nd} (hn : st[n]? = some (pkC b ns)) (hb : st[b]? = some (bndC mT mS)) : b ≠ n := fun z => by
  rw [z, hn] at hb
  simp at hb
theorem lst_ne {st : Store} {n b q : Nat} {ns : List Nd} {ds : List D} (hn : st[n]? = some (pkC b ns)) (hq : st[q]? = some (.lst ds)) : q ≠ n := fun z => by
  rw [z, hn] at hq
  cases hq
theorem len_part {T S : Nat} (ts : List Tx) : (partF T S ts).length ≤ ts.length := by
  unfold partF joinF
  have := len_fold (T := T) (S := S) (ts.map fun t => [t]) []
  simpa using this
theorem ok_all {T S i : Nat} {ns : List Nd} {ts : List Tx} (h : okS ns) (ht : gTs ts) (hl : ts.length ≤ 300) : okL (ns.take i ++ partF T S ts ++ ns.drop (i + 1)) := by
  have e : (ns.take i ++ partF T S ts ++ ns.drop (i + 1)).flatten = (ns.take i).flatten ++ ts ++ (ns.drop (i + 1)).flatten := by
    rw [List.flatten_append, List.flatten_append, flat_part]
  have l1 := len_flat_take (ns := ns) i
  have l2 : (ns.drop (i + 1)).flatten.length ≤ ns.flatten.length := by
    conv => rhs; rw [← List.take_append_drop (i + 1) ns]
    rw [List.flatten_append, List.length_append]; omega
  have l3 := len_part (T := T) (S := S) ts
  refine ⟨?_, ?_, ?_⟩
  · rw [e]
    intro t htt
    rcases List.mem_append.mp htt with htt | htt
    · rcases List.mem_append.mp htt with htt | htt
      · obtain ⟨n, hn, hx⟩ := List.mem_flatten.mp htt
        exact h.1 t (List.mem_flatten.mpr ⟨n, List.mem_of_mem_take hn, hx⟩)
      · exact ht t htt
    · obtain ⟨n, hn, hx⟩ := List.mem_flatten.mp htt
      exact h.1 t (List.mem_flatten.mpr ⟨n, List.mem_of_mem_drop hn, hx⟩)
  · rw [e, List.length_append, List.length_append]
    have := h.2.1
    omega
  · rw [List.length_append, List.length_append, List.length_take, List.length_drop]
    have := h.2.2
    omega
theorem flat_map (ns : List Nd) : (ns.map fun n => n.map D.str).flatten = ns.flatten.map D.str := by
  rw [List.map_flatten]
section
variable {F : Nat → Option Fn} (A : At F) {k : Nat} {st : Store}
include A
theorem settle {n b q i mT mS : Nat} {ns : List Nd} {ts : List Tx} (hn : st[n]? = some (pkC b ns)) (hb : st[b]? = some (bndC mT mS)) (hq : st[q]? = some (.lst (ts.map D.str))) (ho : okS ns) (ht : gTs ts) (hlt : ts.length ≤ 300) (hi : i ≤ ns.length) :
    (callN F (k + 3) 26 [.ref n, .int i, .ref q] st).W fun d s => d = .non ∧ Kp n st s ∧ s[n]? = some (pkC b (settleP mT mS ns i ts)) := by
  have hall := ok_all (T := mT) (S := mS) (i := i) ho ht hlt
  have hbn := pk_ne hn hb
  rw [W_call A.Pack_settle rfl]
  simp only [List.map_cons, List.map_nil, List.cons_append, List.nil_append, List.length_cons, List.length_nil, List.replicate_succ, List.replicate_zero, Nat.reduceAdd, Nat.reduceSub, T.Pack_settle]
  refine wSs_cons (wS_asg (wE_call (wEs_cons (wE_at (wE_var rfl ⟨_, _, _, g_ins hn, rfl, rfl, wEs_cons (wE_var rfl (wEs_nil ?_))⟩)))))
  refine W_mono (parted A hb hq ht (by omega)) fun d s1 ⟨ed, a1, h1⟩ => ?_
  subst ed
  refine ⟨by simp only [List.length_cons, List.length_nil]; decide, ?_⟩
  simp only [List.set_cons_zero, List.set_cons_succ]
  have hn1 := a1.get hn
  have hb1 := a1.get hb
  refine wSs_cons (wS_asg (wE_lstX (wXs_star (wE_slc (wE_at (wE_var rfl ⟨_, _, _, g_ins hn1, rfl, rfl, wE_cst ⟨none, rfl, wE_var rfl ⟨some (i : Int), rfl, w_slcT ⟨_, rfl, ?_⟩⟩⟩⟩))))))
  refine wXs_star (wE_var rfl ⟨_, g_items h1, ?_⟩)
  refine wXs_star (wE_slc (wE_at (wE_var rfl ⟨_, _, _, g_ins hn1, rfl, rfl, wE_op2 (wE_var rfl (wE_cst (w_add ⟨some ((i : Int) + 1), rfl, wE_cst ⟨none, rfl, w_slcT ⟨_, rfl, wXs_nil ?_⟩⟩⟩)))⟩)))
  have eall : cut (nsD ns) none (some (i : Int)) ++ (nsD (partF mT mS ts) ++ (cut (nsD ns) (some ((i : Int) + 1)) none ++ [])) = nsD (ns.take i ++ partF mT mS ts ++ ns.drop (i + 1)) := by
    rw [cut_take (by omega), cut_all (by omega)]
    have : ((i : Int) + 1).toNat = i + 1 := by omega
    rw [this]
    simp
  rw [eall]
  refine ⟨by have := hall.2.2; rw [List.length_map, SLv]; omega, by simp only [List.length_cons, List.length_nil]; decide, ?_⟩
  simp only [List.set_cons_zero, List.set_cons_succ]
  have h2 : (s1 ++ [Cell.lst (nsD (ns.take i ++ partF mT mS ts ++ ns.drop (i + 1)))])[s1.length]? = some (.lst (nsD (ns.take i ++ partF mT mS ts ++ ns.drop (i + 1)))) := get_app _ _
  have a2 : Ap s1 (s1 ++ [Cell.lst (nsD (ns.take i ++ partF mT mS ts ++ ns.drop (i + 1)))]) := Ap.app _ _
  generalize (s1 ++ [Cell.lst (nsD (ns.take i ++ partF mT mS ts ++ ns.drop (i + 1)))] : Store) = s2 at h2 a2 ⊢
  generalize s1.length = q2 at h2 ⊢
  have h12 := a2.get h1
  have gf : gTs (partF mT mS ts).flatten := by rw [flat_part]; exact ht
  -- where the window begins
  have hf : ∀ {env : EnvD} {s : Store}, env[1]? = some (some (.int i)) → env[3]? = some (some (.ref st.length)) → s[st.length]? = some (.lst (nsD (partF mT mS ts))) →
      (evE ⟨callN F (k + 2)⟩ (.ite (.cmp .NotEq (.var 3) (.lst [])) (.op2 .Sub (.var 1) (.cst (.int 1))) (.op2 .Sub (.var 1) (.cst (.int 2)))) env s).W fun d s' => d = .int (if partF mT mS ts = [] then (i : Int) - 2 else (i : Int) - 1) ∧ Ap s s' := by
    intro env s e1 e3 hs
    refine wE_ite (wT (W_mono (ct_ne e3 hs gf) fun d s' ⟨ed, a⟩ => ?_))
    subst ed
    refine ⟨_, rfl, fun hh => wE_op2 (wE_var e1 (wE_cst (w_sub ⟨?_, a⟩))), fun hh => wE_op2 (wE_var e1 (wE_cst (w_sub ⟨?_, a⟩)))⟩
    · have := of_decide_eq_true hh
      rw [if_neg this]
    · have := of_decide_eq_false hh
      rw [if_pos (by simpa using this)]
  have hl : ∀ {env : EnvD} {s : Store}, env[1]? = some (some (.int i)) → env[3]? = some (some (.ref st.length)) → s[st.length]? = some (.lst (nsD (partF mT mS ts))) →
      (evE ⟨callN F (k + 2)⟩ (.ite (.cmp .NotEq (.var 3) (.lst [])) (.op2 .Add (.var 1) (.lenO [(23, 34)] (.var 3))) (.op2 .Add (.var 1) (.cst (.int 1)))) env s).W fun d s' => d = .int (if partF mT mS ts = [] then (i : Int) + 1 else (i : Int) + (partF mT mS ts).length) ∧ Ap s s' := by
    intro env s e1 e3 hs
    refine wE_ite (wT (W_mono (ct_ne e3 hs gf) fun d s' ⟨ed, a⟩ => ?_))
    subst ed
    refine ⟨_, rfl, fun hh => wE_op2 (wE_var e1 (wE_lenO (wE_var e3 (w_lenOL (a.get hs) (w_add ⟨?_, a⟩))))), fun hh => wE_op2 (wE_var e1 (wE_cst (w_add ⟨?_, a⟩)))⟩
    · have := of_decide_eq_true hh
      rw [if_neg this]
      simp
    · have := of_decide_eq_false hh
      rw [if_pos (by simpa using this)]
  refine wSs_cons (wS_asg (W_mono (hf rfl rfl h12) fun d s3 ⟨ed, a3⟩ => ?_))
  subst ed
  refine ⟨by simp only [List.length_cons, List.length_nil]; decide, ?_⟩
  simp only [List.set_cons_zero, List.set_cons_succ]
  refine wSs_cons (wS_asg (W_mono (hl rfl rfl (a3.get h12)) fun d s4 ⟨ed, a4⟩ => ?_))
  subst ed
  refine ⟨by simp only [List.length_cons, List.length_nil]; decide, ?_⟩
  simp only [List.set_cons_zero, List.set_cons_succ]
  have aa := ((a1.trans a2).trans a3).trans a4
  have hn4 := aa.get hn
  have hb4 := aa.get hb
  have h4 := a4.get (a3.get h2)
  obtain ⟨fi, w, hfi, hw, hset⟩ : ∃ fi w : Nat, (if (if partF mT mS ts = [] then (i : Int) - 2 else (i : Int) - 1) > 0 then (if partF mT mS ts = [] then (i : Int) - 2 else (i : Int) - 1) else 0) = (fi : Int) ∧ (if partF mT mS ts = [] then (i : Int) + 1 else (i : Int) + (partF mT mS ts).length) = ((fi + w : Nat) : Int) ∧
      settleP mT mS ns i ts = joinP mT mS ((ns.take i ++ partF mT mS ts ++ ns.drop (i + 1)).take fi) 0 w ((ns.take i ++ partF mT mS ts ++ ns.drop (i + 1)).drop fi) := by
    by_cases hp : partF mT mS ts = []
    · refine ⟨i - 2, (i + 1) - (i - 2), ?_, ?_, ?_⟩
      · simp only [if_pos hp]; split <;> omega
      · simp only [if_pos hp]; omega
      · simp only [settleP, if_pos hp]
    · have : 1 ≤ (partF mT mS ts).length := List.length_pos_iff.mpr hp
      refine ⟨i - 1, (i + (partF mT mS ts).length) - (i - 1), ?_, ?_, ?_⟩
      · simp only [if_neg hp]; split <;> omega
      · simp only [if_neg hp]; omega
      · simp only [settleP, if_neg hp]
  have hX : okL (settleP mT mS ns i ts) := by
    rw [hset]
    have e : (joinP mT mS ((ns.take i ++ partF mT mS ts ++ ns.drop (i + 1)).take fi) 0 w ((ns.take i ++ partF mT mS ts ++ ns.drop (i + 1)).drop fi)).flatten = (ns.take i ++ partF mT mS ts ++ ns.drop (i + 1)).flatten := by
      rw [flat_joinP, ← List.flatten_append, List.take_append_drop]
    refine ⟨by rw [e]; exact hall.1, by rw [e]; exact hall.2.1, ?_⟩
    have := len_joinP (T := mT) (S := mS) (w := w) ((ns.take i ++ partF mT mS ts ++ ns.drop (i + 1)).drop fi) ((ns.take i ++ partF mT mS ts ++ ns.drop (i + 1)).take fi) 0
    rw [← List.length_append, List.take_append_drop] at this
    exact Nat.le_trans this hall.2.2
  rw [hw]
  refine wSs_cons (wS_setF (wE_blt (wEs_cons (wE_call (wEs_cons (wE_at (wE_var rfl ⟨_, _, _, g_ins hn4, rfl, rfl, ?_⟩)))))))
  refine wEs_cons (wE_var rfl (wEs_cons (wE_blt (wEs_cons (wE_cst (wEs_cons (wE_var rfl (wEs_nil (w_max ?_)))))))))
  refine wEs_cons (wE_var rfl (wEs_nil ?_))
  rw [hfi]
  refine W_mono (joined A hb4 h4 hall) fun d s5 ⟨r, ed, a5, h5⟩ => ?_
  subst ed
  rw [← hset] at h5
  have hn5 := a5.get hn4
  refine wEs_nil (w_tupL h5 (wE_var rfl ⟨_, g_setF hn5 rfl (by simp), ?_⟩))
  have hlt5 := lt_of_get hn5
  have hn6 : (s5.set n (.ins 23 (putN 8416549884636429424 (.tup (nsD (settleP mT mS ns i ts))) [(1077251983562371759216, .ref b), (8416549884636429424, .tup (nsD ns)), (57912750006598768, .tup (ns.flatten.map D.str))])))[n]? = some (.ins 23 [(1077251983562371759216, .ref b), (8416549884636429424, .tup (nsD (settleP mT mS ns i ts))), (57912750006598768, .tup (ns.flatten.map D.str))]) := by
    rw [List.getElem?_set_self hlt5]
    rfl
  have k6 : Kp n st (s5.set n (.ins 23 (putN 8416549884636429424 (.tup (nsD (settleP mT mS ns i ts))) [(1077251983562371759216, .ref b), (8416549884636429424, .tup (nsD ns)), (57912750006598768, .tup (ns.flatten.map D.str))]))) := (aa.trans a5).kp.trans (Kp.own _ _ _)
  generalize (s5.set n (.ins 23 (putN 8416549884636429424 (.tup (nsD (settleP mT mS ns i ts))) [(1077251983562371759216, .ref b), (8416549884636429424, .tup (nsD ns)), (57912750006598768, .tup (ns.flatten.map D.str))])) : Store) = s6 at hn6 k6 ⊢
  refine wSs_cons (wS_setF (wE_blt (wEs_cons (wE_flat (by decide) (by simp only [List.length_cons, List.length_nil]; decide) (by simp only [List.length_cons, List.length_nil]; decide) (wE_at (wE_var rfl ⟨_, _, _, g_ins hn6, rfl, rfl, (settleP mT mS ns i ts).map (fun n => n.map D.str), by simp, ?_, wEs_nil (w_tupL (get_app _ _) (wE_var rfl ⟨_, g_setF ((Ap.app s6 _).get hn6) rfl (by simp), ?_⟩))⟩))))))
  · rw [flat_map, List.length_map, SLv]
    have := hX.2.1
    omega
  · refine wSs_nil ⟨by trivial, (k6.trans (Ap.app _ _).kp).trans (Kp.own _ _ _), ?_⟩
    rw [List.getElem?_set_self (by have := lt_of_get hn6; simp; omega), flat_map]
    rfl
end
end Law

namespace Law
open RX PySem
theorem okS_of {T S N : Nat} {ns : List Nd} (g : GoodN T S N ns) (h : N ≤ 300) : okS ns := ⟨g.tx, Nat.le_trans g.len h, Nat.le_trans g.short h⟩
theorem spotF_cons (n : Nd) (r : List Nd) (p : Nat) : spotF (n :: r) p = if p < n.length then (0, p) else ((spotF r (p - n.length)).1 + 1, (spotF r (p - n.length)).2) := rfl
theorem pl_tn {f : List Nd} (h : gTs f.flatten) : plD 2 (.tup (nsD f)) = true := by simpa [plD] using pl_ns fun n hn => ok_mem h hn
section
variable {F : Nat → Option Fn} (A : At F) {k : Nat} {st : Store} {P : D → Store → Prop}
include A
theorem require_stop {i t : Nat} (h : i ≤ t) (q : P .non st) : (callN F (k + 3) 22 [.int i, .int t] st).W P := by
  rw [W_call A.require_stop rfl]
  simp only [List.map_cons, List.map_nil, List.cons_append, List.nil_append, List.length_cons, List.length_nil, List.replicate_succ, List.replicate_zero, Nat.reduceAdd, Nat.reduceSub, T.require_stop]
  refine wSs_cons (wS_if (wT (wE_not (wT (wE_call (wEs_cons (wE_var rfl (wEs_cons (wE_cst (wEs_cons (wE_var rfl (wEs_nil (is_within A ⟨by omega, by omega⟩ ?_)))))))))))))
  exact ⟨true, rfl, false, rfl, fun hh => (by cases hh), fun _ => wSs_nil (wSs_nil q)⟩
theorem require_below {i t : Nat} (h : i < t) (q : P .non st) : (callN F (k + 3) 21 [.int i, .int t] st).W P := by
  rw [W_call A.require_place_below rfl]
  simp only [List.map_cons, List.map_nil, List.cons_append, List.nil_append, List.length_cons, List.length_nil, List.replicate_succ, List.replicate_zero, Nat.reduceAdd, Nat.reduceSub, T.require_place_below]
  refine wSs_cons (wS_if (wT (wE_not (wT (wE_call (wEs_cons (wE_var rfl (wEs_cons (wE_cst (wEs_cons (wE_op2 (wE_var rfl (wE_cst (w_sub (wEs_nil (is_within A ⟨by omega, by omega⟩ ?_))))))))))))))))
  exact ⟨true, rfl, false, rfl, fun hh => (by cases hh), fun _ => wSs_nil (wSs_nil q)⟩
theorem last_node {n b : Nat} {ns : List Nd} (hn : st[n]? = some (pkC b ns)) (hg : gTs ns.flatten) (q : P (ndD (nodeAt ns (ns.length - 1))) st) : (callN F (k + 1) 25 [.ref n] st).W P := by
  rw [W_call A.Pack_last_node rfl]
  simp only [List.map_cons, List.map_nil, List.cons_append, List.nil_append, List.length_cons, List.length_nil, List.replicate_succ, List.replicate_zero, Nat.reduceAdd, Nat.reduceSub, T.Pack_last_node]
  refine wSs_cons (wS_ret (wE_ite (wT (wE_cmp (wE_at (wE_var rfl ⟨_, _, _, g_ins hn, rfl, rfl, wE_tup (wEs_nil ⟨by simp only [List.length_nil]; decide, ?_⟩)⟩))))))
  refine w_neP 2 (pl_tn hg) (by simp [plD, plDs]) (by decide) fun t ht => ⟨_, rfl, fun hh => ?_, fun hh => ?_⟩
  · have hne : ns ≠ [] := fun z => by
      have : t = true := ht.mpr (by simp [z])
      rw [this] at hh; cases hh
    have hl := List.length_pos_iff.mpr hne
    have e : ns[ns.length - 1]? = some (ns[ns.length - 1]'(by omega)) := by simp
    refine wE_sub (wE_at (wE_var rfl ⟨_, _, _, g_ins hn, rfl, rfl, wE_neg (wE_cst ⟨1, rfl, _, g_subT (ns_last (l := ns[ns.length - 1]'(by omega)) (by rw [List.getLast?_eq_getElem?, e])), ?_⟩)⟩))
    rw [← nodeAt_eq e]
    exact q
  · have ht2 : t = true := by simpa using hh
    have : nsD ns = [] := by simpa using ht.mp ht2
    have hz : ns = [] := by simpa using this
    subst hz
    exact wE_tup (wEs_nil ⟨by simp only [List.length_nil]; decide, q⟩)
theorem spot_nodes {n b p : Nat} {ns : List Nd} (hn : st[n]? = some (pkC b ns)) (hp : p < ns.flatten.length) (hl : ns.length ≤ 1000) (q : P (.tup [.int (spotF ns p).1, .int (spotF ns p).2]) st) : (callN F (k + 1) 27 [.ref n, .int p] st).W P := by
  rw [W_call A.Pack_spot_in_nodes rfl]
  simp only [List.map_cons, List.map_nil, List.cons_append, List.nil_append, List.length_cons, List.length_nil, List.replicate_succ, List.replicate_zero, Nat.reduceAdd, Nat.reduceSub, T.Pack_spot_in_nodes]
  refine wSs_cons (wS_par (wEs_cons (wE_cst (wEs_cons (wE_var rfl (wEs_nil ⟨_, rfl, ?_⟩))))))
  refine wSs_cons (wS_whil (while_W (fun e s => s = st ∧ ∃ j l : Nat, e = [some (.ref n), some (.int p), some (.int j), some (.int l)] ∧ l < (ns.drop j).flatten.length ∧ (spotF ns p).1 = (spotF (ns.drop j) l).1 + j ∧ (spotF ns p).2 = (spotF (ns.drop j) l).2) (fun e => match e with
    | [_, _, some (.int j), _] => ns.length - j.toNat
    | _ => 0) ⟨rfl, 0, p, rfl, by simpa using hp, by simp, by simp⟩ ?_ ?_))
  · show ns.length - (Int.toNat 0) < 1000000
    omega
  · rintro env s ⟨rfl, j, l, rfl, h1, h2, h3⟩
    have hj : j < ns.length := by
      rcases Nat.lt_or_ge j ns.length with h | h
      · exact h
      · rw [List.drop_eq_nil_of_le h] at h1; simp at h1
    have hx : ns[j]? = some ns[j] := List.getElem?_eq_getElem hj
    have hd : ns.drop j = ns[j] :: ns.drop (j + 1) := List.drop_eq_getElem_cons hj
    have hs : itemAt (nsD ns) ((j : Nat) : Int) = some (ndD ns[j]) := atI_nat (by rw [nsD, List.getElem?_map, hx]; rfl)
    refine wT (wE_cmp (wE_var rfl (wE_lenO (wE_sub (wE_at (wE_var rfl ⟨_, _, _, g_ins hn, rfl, rfl, wE_var rfl ⟨_, g_subT hs, w_lenOT (w_ge ⟨_, rfl, fun hh => ?_, fun hh => ?_⟩)⟩⟩))))))
    · have hh : ((ns[j].map D.str).length : Int) ≤ (l : Nat) := of_decide_eq_true hh
      rw [List.length_map] at hh
      have hnl : ¬ l < ns[j].length := by omega
      rw [hd] at h1 h2 h3
      rw [List.flatten_cons, List.length_append] at h1
      rw [spotF_cons, if_neg hnl] at h2 h3
      refine wSs_cons (wS_asg (wE_op2 (wE_var rfl (wE_lenO (wE_sub (wE_at (wE_var rfl ⟨_, _, _, g_ins hn, rfl, rfl, wE_var rfl ⟨_, g_subT hs, w_lenOT (w_sub ⟨by simp only [List.length_cons, List.length_nil]; decide, ?_⟩)⟩⟩)))))))
      simp only [List.set_cons_zero, List.set_cons_succ]
      refine wSs_cons (wS_asg (wE_op2 (wE_var rfl (wE_cst (w_add ⟨by simp only [List.length_cons, List.length_nil]; decide, ?_⟩)))))
      simp only [List.set_cons_zero, List.set_cons_succ]
      refine wSs_nil ⟨⟨rfl, j + 1, l - ns[j].length, ?_, by omega, ?_, h3⟩, ?_⟩
      · have e1 : ((l : Nat) : Int) - ((ns[j].map D.str).length : Nat) = ((l - ns[j].length : Nat) : Int) := by rw [List.length_map]; omega
        have e2 : ((j : Nat) : Int) + 1 = ((j + 1 : Nat) : Int) := by omega
        rw [e1, e2]
      · rw [h2]; simp only; omega
      · show ns.length - (((j : Nat) : Int) + 1).toNat < ns.length - ((j : Nat) : Int).toNat
        omega
    · have hh : ¬ ((ns[j].map D.str).length : Int) ≤ (l : Nat) := of_decide_eq_false hh
      rw [List.length_map] at hh
      have hlt : l < ns[j].length := by omega
      rw [hd] at h2 h3
      rw [spotF_cons, if_pos hlt] at h2 h3
      refine wSs_cons (wS_ret (wE_tup (wEs_cons (wE_var rfl (wEs_cons (wE_var rfl (wEs_nil ⟨by simp only [List.length_cons, List.length_nil]; decide, ?_⟩)))))))
      simp only [Nat.zero_add] at h2
      rw [h2, h3] at q
      exact q
theorem pack_len {n b : Nat} {ns : List Nd} (hn : st[n]? = some (pkC b ns)) (q : P (.int ns.flatten.length) st) : (callN F (k + 1) 34 [.ref n] st).W P := by
  rw [W_call A.Pack___len__ rfl]
  simp only [List.map_cons, List.map_nil, List.cons_append, List.nil_append, List.length_cons, List.length_nil, List.replicate_succ, List.replicate_zero, Nat.reduceAdd, Nat.reduceSub, T.Pack___len__]
  refine wSs_cons (wS_ret (wE_lenO (wE_at (wE_var rfl ⟨_, _, _, g_ins hn, rfl, rfl, w_lenOT ?_⟩))))
  rw [List.length_map]; exact q
theorem pack_nodes {n b : Nat} {ns : List Nd} (hn : st[n]? = some (pkC b ns)) (q : P (.tup (nsD ns)) st) : (callN F (k + 1) 35 [.ref n] st).W P := by
  rw [W_call A.Pack_nodes rfl]
  simp only [List.map_cons, List.map_nil, List.cons_append, List.nil_append, List.length_cons, List.length_nil, List.replicate_succ, List.replicate_zero, Nat.reduceAdd, Nat.reduceSub, T.Pack_nodes]
  exact wSs_cons (wS_ret (wE_at (wE_var rfl ⟨_, _, _, g_ins hn, rfl, rfl, q⟩)))
theorem pack_plain {n b : Nat} {ns : List Nd} (hn : st[n]? = some (pkC b ns)) (q : P (.tup (ns.flatten.map D.str)) st) : (callN F (k + 1) 36 [.ref n] st).W P := by
  rw [W_call A.Pack_plain rfl]
  simp only [List.map_cons, List.map_nil, List.cons_append, List.nil_append, List.length_cons, List.length_nil, List.replicate_succ, List.replicate_zero, Nat.reduceAdd, Nat.reduceSub, T.Pack_plain]
  exact wSs_cons (wS_ret (wE_at (wE_var rfl ⟨_, _, _, g_ins hn, rfl, rfl, q⟩)))
theorem pack_at {n b p : Nat} {ns : List Nd} (hn : st[n]? = some (pkC b ns)) (hp : p < ns.flatten.length) (q : P (.str ns.flatten[p]) st) : (callN F (k + 4) 32 [.ref n, .int p] st).W P := by
  rw [W_call A.Pack_at rfl]
  simp only [List.map_cons, List.map_nil, List.cons_append, List.nil_append, List.length_cons, List.length_nil, List.replicate_succ, List.replicate_zero, Nat.reduceAdd, Nat.reduceSub, T.Pack_at]
  refine wSs_cons (wS_expr (wE_call (wEs_cons (wE_var rfl (wEs_cons (wE_lenO (wE_at (wE_var rfl ⟨_, _, _, g_ins hn, rfl, rfl, w_lenOT (wEs_nil ?_)⟩))))))))
  rw [List.length_map]
  refine require_below A hp ?_
  refine wSs_cons (wS_ret (wE_sub (wE_at (wE_var rfl ⟨_, _, _, g_ins hn, rfl, rfl, wE_var rfl ⟨_, g_subT (atI_nat (by rw [List.getElem?_map, List.getElem?_eq_getElem hp]; rfl)), q⟩⟩))))
theorem pack_part {n b i j : Nat} {ns : List Nd} (hn : st[n]? = some (pkC b ns)) (hi : i ≤ ns.flatten.length) (hj : j ≤ ns.flatten.length) (q : P (.tup (cut (ns.flatten.map D.str) (some (i : Int)) (some (j : Int)))) st) : (callN F (k + 4) 33 [.ref n, .int i, .int j] st).W P := by
  rw [W_call A.Pack_part rfl]
  simp only [List.map_cons, List.map_nil, List.cons_append, List.nil_append, List.length_cons, List.length_nil, List.replicate_succ, List.replicate_zero, Nat.reduceAdd, Nat.reduceSub, T.Pack_part]
  refine wSs_cons (wS_expr (wE_call (wEs_cons (wE_var rfl (wEs_cons (wE_lenO (wE_at (wE_var rfl ⟨_, _, _, g_ins hn, rfl, rfl, w_lenOT (wEs_nil ?_)⟩))))))))
  rw [List.length_map]
  refine require_stop A hi ?_
  refine wSs_cons (wS_expr (wE_call (wEs_cons (wE_var rfl (wEs_cons (wE_lenO (wE_at (wE_var rfl ⟨_, _, _, g_ins hn, rfl, rfl, w_lenOT (wEs_nil ?_)⟩))))))))
  rw [List.length_map]
  refine require_stop A hj ?_
  exact wSs_cons (wS_ret (wE_slc (wE_at (wE_var rfl ⟨_, _, _, g_ins hn, rfl, rfl, wE_var rfl ⟨_, rfl, wE_var rfl ⟨_, rfl, w_slcT q⟩⟩⟩))))
end
end Law

namespace Law
open RX PySem
theorem gTs_node {T S N : Nat} {ns : List Nd} (g : GoodN T S N ns) {i : Nat} {x : Nd} (h : ns[i]? = some x) : gTs x := g.node h
theorem node_len {T S N : Nat} {ns : List Nd} (g : GoodN T S N ns) {i : Nat} {x : Nd} (h : ns[i]? = some x) : x.length ≤ N := Nat.le_trans (len_mem (List.mem_of_getElem? h)) g.len
theorem last_g {T S N : Nat} {ns : List Nd} (g : GoodN T S N ns) : gTs (nodeAt ns (ns.length - 1)) ∧ (nodeAt ns (ns.length - 1)).length ≤ N := by
  cases ns with
  | nil => exact ⟨fun t ht => by simp [nodeAt] at ht, by simp [nodeAt]⟩
  | cons a l =>
    have e : (a :: l)[(a :: l).length - 1]? = some ((a :: l)[(a :: l).length - 1]'(by simp)) := by simp
    rw [nodeAt_eq e]
    exact ⟨gTs_node g e, node_len g e⟩
section
variable {F : Nat → Option Fn} (A : At F) {k : Nat} {st : Store} {P : D → Store → Prop}
include A
theorem put_W {n b p mT mS N : Nat} {ns : List Nd} {t : Tx} (hn : st[n]? = some (pkC b ns)) (hb : st[b]? = some (bndC mT mS)) (g : GoodN mT mS N ns) (hN : N ≤ 199) (ht : gT t) (hp : p ≤ ns.flatten.length) :
    (callN F (k + 6) 28 [.ref n, .int p, .str t] st).W fun d s => d = .non ∧ Kp n st s ∧ s[n]? = some (pkC b (putF' mT mS ns p t)) := by
  have ho := okS_of g (by omega)
  rw [W_call A.Pack_put rfl]
  simp only [List.map_cons, List.map_nil, List.cons_append, List.nil_append, List.length_cons, List.length_nil, List.replicate_succ, List.replicate_zero, Nat.reduceAdd, Nat.reduceSub, T.Pack_put]
  refine wSs_cons (wS_expr (wE_call (wEs_cons (wE_var rfl (wEs_cons (wE_lenO (wE_at (wE_var rfl ⟨_, _, _, g_ins hn, rfl, rfl, w_lenOT (wEs_nil ?_)⟩))))))))
  rw [List.length_map]
  refine require_stop A hp ?_
  refine wSs_cons (wS_expr (wE_call (wEs_cons (wE_var rfl (wEs_nil (require_text A ht fun s1 a1 => ?_))))))
  have hn1 := a1.get hn
  have hb1 := a1.get hb
  have gl := g.len
  refine wSs_cons (wS_if (wT (wE_cmp (wE_lenO (wE_at (wE_var rfl ⟨_, _, _, g_ins hn1, rfl, rfl, w_lenOT (wE_cst (w_ge ⟨_, rfl, fun hh => ?_, fun _ => ?_⟩))⟩))))))
  · exfalso
    have := of_decide_eq_true hh
    rw [List.length_map] at this
    omega
  refine wSs_nil (wSs_cons (wS_if (wT (wE_cmp (wE_var rfl (wE_lenO (wE_at (wE_var rfl ⟨_, _, _, g_ins hn1, rfl, rfl, w_lenOT (w_eq (eqD_int _ _ _) ⟨_, rfl, fun hh => ?_, fun hh => ?_⟩)⟩))))))))
  · have hh := of_decide_eq_true hh
    rw [List.length_map] at hh
    have hnp : ¬ p < ns.flatten.length := by omega
    rw [put_end hnp, ← settle_eq g.ch (.inr ⟨by simp, by omega⟩)]
    obtain ⟨lg, ll⟩ := last_g g
    refine wSs_cons (wS_expr (wE_meth (wE_var rfl ⟨_, g_meth hn1 rfl rfl, ?_⟩)))
    refine wEs_cons (wE_blt (wEs_cons (wE_cst (wEs_cons (wE_op2 (wE_lenO (wE_at (wE_var rfl ⟨_, _, _, g_ins hn1, rfl, rfl, w_lenOT (wE_cst (w_sub (wEs_nil (w_max ?_))))⟩))))))))
    refine wEs_cons (wE_lstX (wXs_star (wE_meth (wE_var rfl ⟨_, g_meth hn1 rfl rfl, wEs_nil (last_node A hn1 g.tx ⟨_, rfl, wXs_cons (wE_var rfl (wXs_nil ⟨?_, wEs_nil ?_⟩))⟩)⟩))))
    · rw [List.length_append, List.length_map, SLv]; simp; omega
    · have e1 : (if ((nsD ns).length : Int) - 1 > 0 then ((nsD ns).length : Int) - 1 else 0) = ((ns.length - 1 : Nat) : Int) := by rw [List.length_map]; split <;> omega
      have e2 : (nodeAt ns (ns.length - 1)).map D.str ++ [D.str t] = (nodeAt ns (ns.length - 1) ++ [t]).map D.str := by simp
      rw [e1, e2]
      refine W_mono (settle A ((Ap.app s1 _).get hn1) ((Ap.app s1 _).get hb1) (get_app _ _) ho (fun u hu => ?_) (by rw [List.length_append]; simp; omega) (by omega)) fun d s2 ⟨ed, k2, h2⟩ => ?_
      · rcases List.mem_append.mp hu with hu | hu
        · exact lg u hu
        · rw [List.mem_singleton.mp hu]; exact ht
      · exact wSs_nil (wSs_nil ⟨by trivial, (a1.trans (Ap.app _ _)).kp.trans k2, h2⟩)
  · have hh := of_decide_eq_false hh
    rw [List.length_map] at hh
    have hlt : p < ns.flatten.length := by omega
    obtain ⟨x, x1, x2, x3⟩ := spot_ok hlt
    have hx := nodeAt_eq x1
    have hi := (List.getElem?_eq_some_iff.mp x1).1
    rw [put_in hlt, ← settle_eq g.ch (.inl hi), hx]
    refine wSs_cons (wS_asgT (wE_meth (wE_var rfl ⟨_, g_meth hn1 rfl rfl, wEs_cons (wE_var rfl (wEs_nil (spot_nodes A hn1 hlt (by have := g.short; omega) ⟨[some (.ref n), some (.int p), some (.str t), some (.int (spotF ns p).1), some (.int (spotF ns p).2), none], rfl, ?_⟩)))⟩)))
    refine wSs_cons (wS_asg (wE_sub (wE_at (wE_var rfl ⟨_, _, _, g_ins hn1, rfl, rfl, wE_var rfl ⟨_, g_subT (d := ndD x) (atI_nat (by rw [nsD, List.getElem?_map, x1]; rfl)), by simp only [List.length_cons, List.length_nil]; decide, ?_⟩⟩))))
    simp only [List.set_cons_zero, List.set_cons_succ]
    refine wSs_cons (wS_expr (wE_meth (wE_var rfl ⟨_, g_meth hn1 rfl rfl, ?_⟩)))
    refine wEs_cons (wE_var rfl (wEs_cons (wE_lstX (wXs_star (wE_slc (wE_var rfl (wE_cst ⟨none, rfl, wE_var rfl ⟨_, rfl, w_slcT ⟨_, rfl, ?_⟩⟩⟩)))))))
    refine wXs_cons (wE_var rfl (wXs_star (wE_slc (wE_var rfl (wE_var rfl ⟨_, rfl, wE_cst ⟨none, rfl, w_slcT ⟨_, rfl, wXs_nil ?_⟩⟩⟩)))))
    have e2 : cut (x.map D.str) none (some (((spotF ns p).2 : Nat) : Int)) ++ D.str t :: (cut (x.map D.str) (some (((spotF ns p).2 : Nat) : Int)) none ++ []) = (x.take (spotF ns p).2 ++ [t] ++ x.drop (spotF ns p).2).map D.str := by
      rw [cut_take (by omega), cut_all (by omega)]
      simp
    rw [e2]
    have xl := node_len g x1
    have xg := gTs_node g x1
    refine ⟨?_, wEs_nil ?_⟩
    · simp only [List.length_map, List.length_append, List.length_take, List.length_drop, List.length_singleton, SLv]; omega
    · refine W_mono (settle A ((Ap.app s1 _).get hn1) ((Ap.app s1 _).get hb1) (get_app _ _) ho (fun u hu => ?_) ?_ (by omega)) fun d s2 ⟨ed, k2, h2⟩ => ?_
      · rcases List.mem_append.mp hu with hu | hu
        · rcases List.mem_append.mp hu with hu | hu
          · exact xg u (List.mem_of_mem_take hu)
          · rw [List.mem_singleton.mp hu]; exact ht
        · exact xg u (List.mem_of_mem_drop hu)
      · simp only [List.length_append, List.length_take, List.length_drop, List.length_singleton]; omega
      · exact wSs_nil (wSs_nil ⟨by trivial, (a1.trans (Ap.app _ _)).kp.trans k2, h2⟩)
theorem take_W {n b p mT mS N : Nat} {ns : List Nd} (hn : st[n]? = some (pkC b ns)) (hb : st[b]? = some (bndC mT mS)) (g : GoodN mT mS N ns) (hN : N ≤ 199) (hp : p < ns.flatten.length) :
    (callN F (k + 6) 29 [.ref n, .int p] st).W fun d s => d = .str ns.flatten[p] ∧ Kp n st s ∧ s[n]? = some (pkC b (lessF mT mS ns p)) := by
  have ho := okS_of g (by omega)
  rw [W_call A.Pack_take rfl]
  simp only [List.map_cons, List.map_nil, List.cons_append, List.nil_append, List.length_cons, List.length_nil, List.replicate_succ, List.replicate_zero, Nat.reduceAdd, Nat.reduceSub, T.Pack_take]
  refine wSs_cons (wS_expr (wE_call (wEs_cons (wE_var rfl (wEs_cons (wE_lenO (wE_at (wE_var rfl ⟨_, _, _, g_ins hn, rfl, rfl, w_lenOT (wEs_nil ?_)⟩))))))))
  rw [List.length_map]
  refine require_below A hp ?_
  refine wSs_cons (wS_asg (wE_sub (wE_at (wE_var rfl ⟨_, _, _, g_ins hn, rfl, rfl, wE_var rfl ⟨_, g_subT (atI_nat (by rw [List.getElem?_map, List.getElem?_eq_getElem hp]; rfl)), by simp only [List.length_cons, List.length_nil]; decide, ?_⟩⟩))))
  simp only [List.set_cons_zero, List.set_cons_succ]
  obtain ⟨x, x1, x2, x3⟩ := spot_ok hp
  have hx := nodeAt_eq x1
  have hi := (List.getElem?_eq_some_iff.mp x1).1
  have eless : lessF mT mS ns p = settleP mT mS ns (spotF ns p).1 (x.take (spotF ns p).2 ++ x.drop ((spotF ns p).2 + 1)) := by
    unfold lessF
    rw [hx, settle_eq g.ch (.inl hi)]
  rw [eless]
  refine wSs_cons (wS_asgT (wE_meth (wE_var rfl ⟨_, g_meth hn rfl rfl, wEs_cons (wE_var rfl (wEs_nil (spot_nodes A hn hp (by have := g.short; omega) ⟨[some (.ref n), some (.int p), some (.str ns.flatten[p]), some (.int (spotF ns p).1), some (.int (spotF ns p).2), none], rfl, ?_⟩)))⟩)))
  refine wSs_cons (wS_asg (wE_sub (wE_at (wE_var rfl ⟨_, _, _, g_ins hn, rfl, rfl, wE_var rfl ⟨_, g_subT (d := ndD x) (atI_nat (by rw [nsD, List.getElem?_map, x1]; rfl)), by simp only [List.length_cons, List.length_nil]; decide, ?_⟩⟩))))
  simp only [List.set_cons_zero, List.set_cons_succ]
  refine wSs_cons (wS_expr (wE_meth (wE_var rfl ⟨_, g_meth hn rfl rfl, ?_⟩)))
  refine wEs_cons (wE_var rfl (wEs_cons (wE_lstX (wXs_star (wE_slc (wE_var rfl (wE_cst ⟨none, rfl, wE_var rfl ⟨_, rfl, w_slcT ⟨_, rfl, ?_⟩⟩⟩)))))))
  refine wXs_star (wE_slc (wE_var rfl (wE_op2 (wE_var rfl (wE_cst (w_add ⟨_, rfl, wE_cst ⟨none, rfl, w_slcT ⟨_, rfl, wXs_nil ?_⟩⟩⟩))))))
  have e2 : cut (x.map D.str) none (some (((spotF ns p).2 : Nat) : Int)) ++ (cut (x.map D.str) (some ((((spotF ns p).2 : Nat) : Int) + 1)) none ++ []) = (x.take (spotF ns p).2 ++ x.drop ((spotF ns p).2 + 1)).map D.str := by
    rw [cut_take (by omega), cut_all (by omega)]
    have : ((((spotF ns p).2 : Nat) : Int) + 1).toNat = (spotF ns p).2 + 1 := by omega
    rw [this]
    simp
  rw [e2]
  have xl := node_len g x1
  have xg := gTs_node g x1
  refine ⟨?_, wEs_nil ?_⟩
  · simp only [List.length_map, List.length_append, List.length_take, List.length_drop, SLv]; omega
  · refine W_mono (settle A ((Ap.app st _).get hn) ((Ap.app st _).get hb) (get_app _ _) ho (fun u hu => ?_) ?_ (by omega)) fun d s2 ⟨ed, k2, h2⟩ => ?_
    · rcases List.mem_append.mp hu with hu | hu
      · exact xg u (List.mem_of_mem_take hu)
      · exact xg u (List.mem_of_mem_drop hu)
    · simp only [List.length_append, List.length_take, List.length_drop]; omega
    · exact wSs_cons (wS_ret (wE_var rfl ⟨rfl, (Ap.app _ _).kp.trans k2, h2⟩))
theorem change_W {n b p mT mS N : Nat} {ns : List Nd} {t : Tx} (hn : st[n]? = some (pkC b ns)) (hb : st[b]? = some (bndC mT mS)) (g : GoodN mT mS N ns) (hN : N ≤ 199) (ht : gT t) (hp : p < ns.flatten.length) :
    (callN F (k + 6) 30 [.ref n, .int p, .str t] st).W fun d s => d = .non ∧ Kp n st s ∧ s[n]? = some (pkC b (chgF mT mS ns p t)) := by
  have ho := okS_of g (by omega)
  rw [W_call A.Pack_change rfl]
  simp only [List.map_cons, List.map_nil, List.cons_append, List.nil_append, List.length_cons, List.length_nil, List.replicate_succ, List.replicate_zero, Nat.reduceAdd, Nat.reduceSub, T.Pack_change]
  refine wSs_cons (wS_expr (wE_call (wEs_cons (wE_var rfl (wEs_cons (wE_lenO (wE_at (wE_var rfl ⟨_, _, _, g_ins hn, rfl, rfl, w_lenOT (wEs_nil ?_)⟩))))))))
  rw [List.length_map]
  refine require_below A hp ?_
  refine wSs_cons (wS_expr (wE_call (wEs_cons (wE_var rfl (wEs_nil (require_text A ht fun s1 a1 => ?_))))))
  have hn1 := a1.get hn
  have hb1 := a1.get hb
  obtain ⟨x, x1, x2, x3⟩ := spot_ok hp
  have hx := nodeAt_eq x1
  have hi := (List.getElem?_eq_some_iff.mp x1).1
  have eless : chgF mT mS ns p t = settleP mT mS ns (spotF ns p).1 (x.take (spotF ns p).2 ++ [t] ++ x.drop ((spotF ns p).2 + 1)) := by
    unfold chgF
    rw [hx, settle_eq g.ch (.inl hi)]
  rw [eless]
  refine wSs_cons (wS_asgT (wE_meth (wE_var rfl ⟨_, g_meth hn1 rfl rfl, wEs_cons (wE_var rfl (wEs_nil (spot_nodes A hn1 hp (by have := g.short; omega) ⟨[some (.ref n), some (.int p), some (.str t), some (.int (spotF ns p).1), some (.int (spotF ns p).2), none], rfl, ?_⟩)))⟩)))
  refine wSs_cons (wS_asg (wE_sub (wE_at (wE_var rfl ⟨_, _, _, g_ins hn1, rfl, rfl, wE_var rfl ⟨_, g_subT (d := ndD x) (atI_nat (by rw [nsD, List.getElem?_map, x1]; rfl)), by simp only [List.length_cons, List.length_nil]; decide, ?_⟩⟩))))
  simp only [List.set_cons_zero, List.set_cons_succ]
  refine wSs_cons (wS_expr (wE_meth (wE_var rfl ⟨_, g_meth hn1 rfl rfl, ?_⟩)))
  refine wEs_cons (wE_var rfl (wEs_cons (wE_lstX (wXs_star (wE_slc (wE_var rfl (wE_cst ⟨none, rfl, wE_var rfl ⟨_, rfl, w_slcT ⟨_, rfl, ?_⟩⟩⟩)))))))
  refine wXs_cons (wE_var rfl (wXs_star (wE_slc (wE_var rfl (wE_op2 (wE_var rfl (wE_cst (w_add ⟨_, rfl, wE_cst ⟨none, rfl, w_slcT ⟨_, rfl, wXs_nil ?_⟩⟩⟩))))))))
  have e2 : cut (x.map D.str) none (some (((spotF ns p).2 : Nat) : Int)) ++ D.str t :: (cut (x.map D.str) (some ((((spotF ns p).2 : Nat) : Int) + 1)) none ++ []) = (x.take (spotF ns p).2 ++ [t] ++ x.drop ((spotF ns p).2 + 1)).map D.str := by
    rw [cut_take (by omega), cut_all (by omega)]
    have : ((((spotF ns p).2 : Nat) : Int) + 1).toNat = (spotF ns p).2 + 1 := by omega
    rw [this]
    simp
  rw [e2]
  have xl := node_len g x1
  have xg := gTs_node g x1
  refine ⟨?_, wEs_nil ?_⟩
  · simp only [List.length_map, List.length_append, List.length_take, List.length_drop, List.length_singleton, SLv]; omega
  · refine W_mono (settle A ((Ap.app s1 _).get hn1) ((Ap.app s1 _).get hb1) (get_app _ _) ho (fun u hu => ?_) ?_ (by omega)) fun d s2 ⟨ed, k2, h2⟩ => ?_
    · rcases List.mem_append.mp hu with hu | hu
      · rcases List.mem_append.mp hu with hu | hu
        · exact xg u (List.mem_of_mem_take hu)
        · rw [List.mem_singleton.mp hu]; exact ht
      · exact xg u (List.mem_of_mem_drop hu)
    · simp only [List.length_append, List.length_take, List.length_drop, List.length_singleton]; omega
    · exact wSs_nil ⟨by trivial, (a1.trans (Ap.app _ _)).kp.trans k2, h2⟩
end
end Law

namespace Law
open RX PySem
section
variable {F : Nat → Option Fn} (A : At F) {k : Nat} {st : Store} {P : D → Store → Prop}
include A
theorem keep_W {n b lo hi mT mS N : Nat} {ns : List Nd} (hn : st[n]? = some (pkC b ns)) (hb : st[b]? = some (bndC mT mS)) (g : GoodN mT mS N ns) (hN : N ≤ 199) (h1 : lo ≤ ns.flatten.length) (h2 : hi ≤ ns.flatten.length) :
    (callN F (k + 7) 31 [.ref n, .int lo, .int hi] st).W fun d s => d = .non ∧ Kp n st s ∧ s[n]? = some (pkC b (kpF mT mS ns.flatten.length lo hi ns ns.flatten.length)) := by
  have hbn := pk_ne hn hb
  have gl := g.len
  rw [W_call A.Pack_keep rfl]
  simp only [List.map_cons, List.map_nil, List.cons_append, List.nil_append, List.length_cons, List.length_nil, List.replicate_succ, List.replicate_zero, Nat.reduceAdd, Nat.reduceSub, T.Pack_keep]
  refine wSs_cons (wS_expr (wE_call (wEs_cons (wE_var rfl (wEs_cons (wE_lenO (wE_at (wE_var rfl ⟨_, _, _, g_ins hn, rfl, rfl, w_lenOT (wEs_nil ?_)⟩))))))))
  rw [List.length_map]
  refine require_stop A h1 ?_
  refine wSs_cons (wS_expr (wE_call (wEs_cons (wE_var rfl (wEs_cons (wE_lenO (wE_at (wE_var rfl ⟨_, _, _, g_ins hn, rfl, rfl, w_lenOT (wEs_nil ?_)⟩))))))))
  rw [List.length_map]
  refine require_stop A h2 ?_
  refine wSs_cons (wS_for (wEs_cons (wE_rev (wE_lrng (wEs_cons (wE_lenO (wE_at (wE_var rfl ⟨_, _, _, g_ins hn, rfl, rfl, w_lenOT (wEs_nil ⟨_, rfl, by omega, by rw [List.length_map, SLv]; omega, _, _, rfl, g_items (get_app _ _), wEs_nil ⟨_, g_srcL (get_app _ _), ?_⟩⟩)⟩))))))))
  have a1 : Ap st (st ++ [Cell.lst ((List.range (((ns.flatten.map D.str).length : Nat) : Int).toNat).map fun i => D.int (i : Nat))] ++ [Cell.lst ((List.range (((ns.flatten.map D.str).length : Nat) : Int).toNat).map fun i => D.int (i : Nat)).reverse]) := (Ap.app _ _).trans (Ap.app _ _)
  have hq := get_app (st ++ [Cell.lst ((List.range (((ns.flatten.map D.str).length : Nat) : Int).toNat).map fun i => D.int (i : Nat))]) (Cell.lst ((List.range (((ns.flatten.map D.str).length : Nat) : Int).toNat).map fun i => D.int (i : Nat)).reverse)
  have hqn : (st ++ [Cell.lst ((List.range (((ns.flatten.map D.str).length : Nat) : Int).toNat).map fun i => D.int (i : Nat))]).length ≠ n := fun z => by have := lt_of_get hn; simp at z; omega
  generalize (st ++ [Cell.lst ((List.range (((ns.flatten.map D.str).length : Nat) : Int).toNat).map fun i => D.int (i : Nat))] ++ [Cell.lst ((List.range (((ns.flatten.map D.str).length : Nat) : Int).toNat).map fun i => D.int (i : Nat)).reverse] : Store) = st1 at a1 hq ⊢
  generalize (st ++ [Cell.lst ((List.range (((ns.flatten.map D.str).length : Nat) : Int).toNat).map fun i => D.int (i : Nat))]).length = q at hq hqn ⊢
  have elen : (((List.range (((ns.flatten.map D.str).length : Nat) : Int).toNat).map fun i => D.int (i : Nat)).reverse).length = ns.flatten.length := by simp only [List.length_reverse, List.length_map, List.length_range, Int.toNat_natCast]
  refine fold_K (m := n) (ds := ((List.range (((ns.flatten.map D.str).length : Nat) : Int).toNat).map fun i => D.int (i : Nat)).reverse) (fun st' a i hi => by simp only [fetch, itemsOf, a.get hq hqn]) (by rfl) (fun i => pkC b (kpF mT mS ns.flatten.length lo hi ns i)) (fun _ e => ∃ y, e = [some (.ref n), some (.int lo), some (.int hi), y]) ⟨_, rfl⟩ (a1.get hn) ?_ ?_
  · rintro i d env st' hi' hd ⟨y, rfl⟩ a hc
    rw [elen] at hi'
    have hd' : d = .int ((ns.flatten.length - 1 - i : Nat) : Int) := by
      rw [List.getElem?_reverse (by simp only [List.length_reverse, List.length_map, List.length_range, Int.toNat_natCast]; exact hi')] at hd
      rw [List.getElem?_map, List.getElem?_range (by simp only [List.length_reverse, List.length_map, List.length_range, Int.toNat_natCast]; omega)] at hd
      simp only [Option.map_some, Option.some.injEq, List.length_reverse, List.length_map, List.length_range, Int.toNat_natCast] at hd
      rw [← hd]
    subst hd'
    obtain ⟨g1, l1⟩ := kpF_ok (lo := lo) (hi := hi) g rfl i (by omega)
    have hp : ns.flatten.length - 1 - i < (kpF mT mS ns.flatten.length lo hi ns i).flatten.length := by omega
    refine ⟨_, by rfl, ?_⟩
    have hb' := a.get (a1.get hb) hbn
    have estep : kpF mT mS ns.flatten.length lo hi ns (i + 1) = if ns.flatten.length - 1 - i < lo ∨ hi ≤ ns.flatten.length - 1 - i then lessF mT mS (kpF mT mS ns.flatten.length lo hi ns i) (ns.flatten.length - 1 - i) else kpF mT mS ns.flatten.length lo hi ns i := rfl
    have take : (evSs ⟨callN F (k + 6)⟩ [.expr (.meth [(23, 29)] 215691637 (.var 0) [.var 3])] [some (.ref n), some (.int lo), some (.int hi), some (.int ((ns.flatten.length - 1 - i : Nat) : Int))] st').W (fun e s => e = [some (.ref n), some (.int lo), some (.int hi), some (.int ((ns.flatten.length - 1 - i : Nat) : Int))] ∧ Kp n st' s ∧ s[n]? = some (pkC b (lessF mT mS (kpF mT mS ns.flatten.length lo hi ns i) (ns.flatten.length - 1 - i)))) (fun d s => d = .non ∧ Kp n st s ∧ s[n]? = some (pkC b (kpF mT mS ns.flatten.length lo hi ns ns.flatten.length))) := by
      refine wSs_cons (wS_expr (wE_meth (wE_var rfl ⟨_, g_meth hc rfl rfl, wEs_cons (wE_var rfl (wEs_nil ?_))⟩)))
      exact W_mono (take_W A hc hb' g1 hN hp) fun d s ⟨_, k2, h2⟩ => wSs_nil ⟨rfl, k2, h2⟩
    refine wSs_cons (wS_if (wT (wE_or (wE_cmp (wE_var rfl (wE_var rfl (w_lt ⟨_, rfl, fun hh => ?_, fun hh => ?_⟩)))))))
    · refine ⟨_, rfl, fun _ => ?_, fun z => ?_⟩
      · rw [estep, if_pos (.inl (by have := of_decide_eq_true hh; omega))]
        exact WS_mono take (fun e s h => wSs_nil ⟨⟨_, h.1⟩, h.2⟩) fun _ _ h => h
      · rw [hh] at z; cases z
    · have hh := of_decide_eq_false hh
      refine wE_cmp (wE_var rfl (wE_var rfl (w_ge ⟨_, rfl, fun h3 => ?_, fun h3 => ?_⟩)))
      · rw [estep, if_pos (.inr (by have := of_decide_eq_true h3; omega))]
        exact WS_mono take (fun e s h => wSs_nil ⟨⟨_, h.1⟩, h.2⟩) fun _ _ h => h
      · have h3 := of_decide_eq_false h3
        rw [estep, if_neg (by omega)]
        exact wSs_nil (wSs_nil ⟨⟨_, rfl⟩, Kp.refl _ _, hc⟩)
  · rintro env st' ⟨y, rfl⟩ a hc
    rw [elen] at hc
    exact wSs_nil ⟨by trivial, a1.kp.trans a, hc⟩
theorem bounds_W {n mT mS : Nat} (hn : st[n]? = some (.ins 14 [])) (h1 : 1 ≤ mT ∧ mT ≤ 64) (h2 : 1 ≤ mS ∧ mS ≤ 1000) :
    (callN F (k + 3) 15 [.ref n, .int mT, .int mS, .int 3, .int 8] st).W fun d s => d = .non ∧ Kp n st s ∧ s[n]? = some (bndC mT mS) := by
  rw [W_call A.Bounds___init__ rfl]
  simp only [List.map_cons, List.map_nil, List.cons_append, List.nil_append, List.length_cons, List.length_nil, List.replicate_succ, List.replicate_zero, Nat.reduceAdd, Nat.reduceSub, T.Bounds___init__]
  (repeat' (first
    | (with_reducible refine wSs_cons ?_; try simp only [List.set_cons_zero, List.set_cons_succ]) | with_reducible refine wS_asg ?_ | with_reducible refine wS_if ?_ | with_reducible refine wS_ret ?_ | with_reducible refine wS_expr ?_ | with_reducible refine wS_asgS ?_ | with_reducible refine wS_par ?_ | with_reducible refine wS_asgT ?_ | with_reducible refine wS_for ?_ | (with_reducible refine wSs_nil ?_; try simp only [List.set_cons_zero, List.set_cons_succ])
    | with_reducible refine wE_cst ?_ | with_reducible refine wE_op2 ?_ | with_reducible refine wE_cmp ?_ | with_reducible refine wE_sub ?_ | with_reducible refine wE_call ?_ | with_reducible refine wE_blt ?_ | with_reducible refine wEs_cons ?_ | with_reducible refine wEs_nil ?_ | with_reducible refine wT ?_ | with_reducible refine wE_not ?_ | with_reducible refine wE_lst ?_ | with_reducible refine wE_tup ?_ | with_reducible refine wE_and ?_ | with_reducible refine wE_or ?_ | with_reducible refine wE_ite ?_ | with_reducible refine wE_cmp2 ?_ | with_reducible refine wE_lc ?_ | with_reducible refine wE_slc ?_ | with_reducible refine wE_neg ?_ | with_reducible refine wE_lzip ?_ | with_reducible refine wE_lstX ?_ | with_reducible refine wE_tupX ?_ | with_reducible refine wXs_nil ?_ | with_reducible refine wXs_cons ?_ | with_reducible refine wXs_star ?_ | with_reducible refine wS_whil ?_ | with_reducible refine w_lenT ?_ | with_reducible refine w_slcT ?_ | with_reducible refine w_tupT ?_ | with_reducible refine ⟨(_ : Int), rfl, ?_⟩
    | with_reducible refine ⟨(_ : Option Int), by rfl, ?_⟩ | with_reducible refine ⟨(_ : Src × Nat), g_srcS, ?_⟩ | with_reducible refine ⟨(_ : Src × Nat), g_srcE, ?_⟩ | with_reducible refine ⟨(_ : Src × Nat), g_srcT, ?_⟩ | with_reducible refine ⟨(_ : Src × Nat), g_srcL (by assumption), ?_⟩
     | with_reducible refine wE_at ?_ | with_reducible refine wE_prop ?_ | with_reducible refine wE_meth ?_ | with_reducible refine wE_lenO ?_ | with_reducible refine w_lenOT ?_ | with_reducible refine wS_setF ?_ | refine ⟨(_ : Nat), (_ : List (Nat × D)), (_ : D), g_ins (by assumption), rfl, rfl, ?_⟩ | refine ⟨(_ : Nat), (_ : List (Nat × D)), (_ : Nat), g_ins (by assumption), rfl, ?_⟩ | refine ⟨(_ : Nat), g_meth (by assumption) rfl rfl, ?_⟩ | with_reducible refine w_add ?_ | with_reducible refine w_sub ?_ | with_reducible refine w_leS ?_ | with_reducible refine w_lt ?_ | with_reducible refine w_le ?_ | with_reducible refine w_gt ?_ | with_reducible refine w_ge ?_ | with_reducible refine w_int ?_ | with_reducible refine w_intB ?_ | with_reducible refine w_abs ?_ | with_reducible refine w_ord ?_ | with_reducible refine w_min ?_ | with_reducible refine w_max ?_
    | refine wE_var rfl ?_
    | with_reducible refine w_eqS ?_ | with_reducible refine w_neS ?_ | with_reducible refine w_eq (eqD_bl _ _ _) ?_ | with_reducible refine w_ne (eqD_bl _ _ _) ?_
    | (with_reducible refine w_eqI (b := true) ?_ ?_; exact decide_eq_true (by omega)) | (with_reducible refine w_eqI (b := false) ?_ ?_; exact decide_eq_false (by omega)) | (with_reducible refine w_neI (b := true) ?_ ?_; exact decide_eq_true (by omega)) | (with_reducible refine w_neI (b := false) ?_ ?_; exact decide_eq_false (by omega))
    | with_reducible refine w_eq (eqD_int _ _ _) ?_ | with_reducible refine w_ne (eqD_int _ _ _) ?_
    | (with_reducible refine w_mod ?_ ?_; (first | omega | decide +kernel)) | (with_reducible refine w_mul ?_ ?_; exact mul_ok (by omega) (by first | omega | (split <;> omega))) | (with_reducible refine w_div ?_ ?_; (first | exact div_ok (by omega) (by omega) | decide +kernel)) | (with_reducible refine w_pow ?_ ?_; decide +kernel)
    | with_reducible refine ⟨(_ : Bool), g_eqI (b := true) (decide_eq_true (by omega)), ?_⟩ | with_reducible refine ⟨(_ : Bool), g_eqI (b := false) (decide_eq_false (by omega)), ?_⟩ | refine ⟨(_ : Bool), rfl, ?_⟩ | with_reducible refine w_isI_int ?_ | with_reducible refine w_isI_bool ?_ | with_reducible refine w_isI_str ?_ | with_reducible refine w_isI_tuple ?_ | with_reducible refine w_isI_list ?_ | with_reducible refine w_isS_int ?_ | with_reducible refine w_isS_bool ?_ | with_reducible refine w_isS_str ?_ | with_reducible refine w_isS_tuple ?_ | with_reducible refine w_isS_list ?_ | with_reducible refine w_isB_int ?_ | with_reducible refine w_isB_bool ?_ | with_reducible refine w_isB_str ?_ | with_reducible refine w_isB_tuple ?_ | with_reducible refine w_isB_list ?_ | with_reducible refine w_isN_int ?_ | with_reducible refine w_isN_bool ?_ | with_reducible refine w_isN_str ?_ | with_reducible refine w_isN_tuple ?_ | with_reducible refine w_isN_list ?_ | with_reducible refine w_isT_int ?_ | with_reducible refine w_isT_bool ?_ | with_reducible refine w_isT_str ?_ | with_reducible refine w_isT_tuple ?_ | with_reducible refine w_isT_list ?_
    | refine ⟨(_ : Option Int), rfl, ?_⟩ | refine ⟨(_ : D), g_subT rfl, ?_⟩ | refine ⟨(_ : D), g_subL (get_app _ _) rfl, ?_⟩ | refine ⟨(_ : D), g_subL (get_app2 _ _ _) rfl, ?_⟩ | refine ⟨(_ : D), g_subL (by assumption) rfl, ?_⟩ | refine ⟨(_ : D), g_subL (get_set (by assumption)) rfl, ?_⟩ | refine ⟨(_ : Store), g_set (by assumption) rfl, ?_⟩ | refine ⟨(_ : Store), g_set (get_set (by assumption)) rfl, ?_⟩
    | (with_reducible refine ⟨fun hh => ?_, fun hh => ?_⟩ <;> try exact absurd hh (by decide)) | refine ⟨by simp only [List.length_cons, List.length_nil]; decide, ?_⟩
    | simp only [List.set_cons_zero, List.set_cons_succ] | simp only [List.set_set]))
  refine ⟨_, g_srcL (get_app _ _), ?_⟩
  refine for_ap (srcIs_lst (get_app _ _)) (by rfl) (fun _ e => ∃ x y z, e = [some (.ref n), some (.int mT), some (.int mS), some (.int 3), some (.int 8), some (.ref st.length), x, y, z]) ⟨_, _, _, rfl⟩ ?_ ?_
  · rintro i d env st' hi hd ⟨x, y, z, rfl⟩ a
    have hm := List.mem_of_getElem? hd
    simp only [List.mem_cons, List.not_mem_nil, or_false] at hm
    have body : ∀ {u v w : Int}, v ≤ u ∧ u ≤ w → (evSs ⟨callN F (k + 2)⟩ [.ifs (.not (.call 8 [.var 6, .var 7, .var 8])) [.nev] []] [some (.ref n), some (.int mT), some (.int mS), some (.int 3), some (.int 8), some (.ref st.length), some (.int u), some (.int v), some (.int w)] st').W
        (fun e s => (∃ x y z, e = [some (.ref n), some (.int mT), some (.int mS), some (.int 3), some (.int 8), some (.ref st.length), x, y, z]) ∧ Ap st' s) (fun d s => d = .non ∧ Kp n st s ∧ s[n]? = some (bndC mT mS)) := by
      intro u v w h
      refine wSs_cons (wS_if (wT (wE_not (wT (wE_call (wEs_cons (wE_var rfl (wEs_cons (wE_var rfl (wEs_cons (wE_var rfl (wEs_nil (is_within A h ?_)))))))))))))
      exact ⟨true, rfl, false, rfl, fun hh => (by cases hh), fun _ => wSs_nil (wSs_nil ⟨⟨_, _, _, rfl⟩, Ap.refl _⟩)⟩
    rcases hm with rfl | rfl | rfl | rfl
    · exact ⟨_, rfl, body ⟨by omega, by omega⟩⟩
    · exact ⟨_, rfl, body ⟨by omega, by omega⟩⟩
    · exact ⟨_, rfl, body ⟨by omega, by omega⟩⟩
    · exact ⟨_, rfl, body ⟨by omega, by omega⟩⟩
  · rintro env st' ⟨x, y, z, rfl⟩ a
    have a1 : Ap st st' := (Ap.app _ _).trans a
    have hn1 := a1.get hn
    have hlt := lt_of_get hn1
    refine wSs_cons (wS_setF (wE_var rfl (wE_var rfl ⟨_, g_setF hn1 rfl (by simp), ?_⟩)))
    have h2 : (st'.set n (.ins 14 (putN 8425081752881200240 (.int mT) [])))[n]? = some (.ins 14 [(8425081752881200240, .int mT)]) := by rw [List.getElem?_set_self hlt]; rfl
    refine wSs_cons (wS_setF (wE_var rfl (wE_var rfl ⟨_, g_setF h2 rfl (by simp), ?_⟩)))
    simp only [List.set_set]
    have h3 : (st'.set n (.ins 14 (putN 8421629423540501616 (.int mS) [(8425081752881200240, .int mT)])))[n]? = some (.ins 14 [(8425081752881200240, .int mT), (8421629423540501616, .int mS)]) := by rw [List.getElem?_set_self hlt]; rfl
    refine wSs_cons (wS_setF (wE_var rfl (wE_var rfl ⟨_, g_setF h3 rfl (by simp), ?_⟩)))
    simp only [List.set_set]
    have h4 : (st'.set n (.ins 14 (putN 138016721881414808370288 (.int 3) [(8425081752881200240, .int mT), (8421629423540501616, .int mS)])))[n]? = some (.ins 14 [(8425081752881200240, .int mT), (8421629423540501616, .int mS), (138016721881414808370288, .int 3)]) := by rw [List.getElem?_set_self hlt]; rfl
    refine wSs_cons (wS_setF (wE_var rfl (wE_var rfl ⟨_, g_setF h4 rfl (by simp), ?_⟩)))
    simp only [List.set_set]
    refine wSs_nil ⟨by trivial, a1.kp.trans (Kp.own _ _ _), ?_⟩
    rw [List.getElem?_set_self hlt]; rfl
end
def buildF (T S : Nat) (ts : List Tx) : List Nd := ts.foldl (fun ns t => putF' T S ns ns.flatten.length t) []
theorem build_snoc {T S i : Nat} {ts : List Tx} {t : Tx} (h : ts[i]? = some t) : buildF T S (ts.take (i + 1)) = putF' T S (buildF T S (ts.take i)) (buildF T S (ts.take i)).flatten.length t := by
  unfold buildF
  rw [List.take_succ, h, List.foldl_append]
  rfl
theorem good_build {T S : Nat} {ts : List Tx} (h : gTs ts) : ∀ i, i ≤ ts.length → GoodN T S i (buildF T S (ts.take i))
  | 0, _ => by simpa [buildF] using (good_nil (T := T) (S := S) (N := 0))
  | i + 1, hi => by
    have e : ts[i]? = some ts[i] := List.getElem?_eq_getElem (by omega)
    rw [build_snoc e]
    exact good_put (good_build h i (by omega)) (h _ (List.getElem_mem _))
section
variable {F : Nat → Option Fn} (A : At F) {k : Nat} {st : Store} {P : D → Store → Prop}
include A
theorem init_W {n b mT mS : Nat} {ts : List Tx} (hn : st[n]? = some (.ins 23 [])) (hb : st[b]? = some (bndC mT mS)) (ht : gTs ts) (hl : ts.length ≤ 100) :
    (callN F (k + 5) 24 [.ref n, .ref b, .tup (ts.map D.str)] st).W fun d s => d = .non ∧ Kp n st s ∧ s[n]? = some (pkC b (buildF mT mS ts)) := by
  have hbn : b ≠ n := fun z => by rw [z, hn] at hb; simp at hb
  rw [W_call A.Pack___init__ rfl]
  simp only [List.map_cons, List.map_nil, List.cons_append, List.nil_append, List.length_cons, List.length_nil, List.replicate_succ, List.replicate_zero, Nat.reduceAdd, Nat.reduceSub, T.Pack___init__]
  refine wSs_cons (wS_expr (wE_call (wEs_cons (wE_var rfl (wEs_nil (require_bounds A hb ?_))))))
  refine wSs_cons (wS_expr (wE_call (wEs_cons (wE_var rfl (wEs_nil (require_first_texts A ht fun s1 a1 => ?_))))))
  refine wSs_cons (wS_if (wT (wE_cmp (wE_lenO (wE_var rfl (w_lenOT (wE_cst (w_gt ⟨_, rfl, fun hh => ?_, fun _ => ?_⟩))))))))
  · exfalso
    have := of_decide_eq_true hh
    rw [List.length_map] at this
    omega
  have hn1 := a1.get hn
  have hlt := lt_of_get hn1
  refine wSs_nil ?_
  refine wSs_cons (wS_setF (wE_var rfl (wE_var rfl ⟨_, g_setF hn1 rfl (by simp), ?_⟩)))
  have h2 : (s1.set n (.ins 23 (putN 1077251983562371759216 (.ref b) [])))[n]? = some (.ins 23 [(1077251983562371759216, .ref b)]) := by rw [List.getElem?_set_self hlt]; rfl
  refine wSs_cons (wS_setF (wE_tup (wEs_nil ⟨by simp only [List.length_nil]; decide, wE_var rfl ⟨_, g_setF h2 rfl (by simp), ?_⟩⟩)))
  simp only [List.set_set]
  have h3 : (s1.set n (.ins 23 (putN 8416549884636429424 (.tup []) [(1077251983562371759216, .ref b)])))[n]? = some (.ins 23 [(1077251983562371759216, .ref b), (8416549884636429424, .tup [])]) := by rw [List.getElem?_set_self hlt]; rfl
  refine wSs_cons (wS_setF (wE_tup (wEs_nil ⟨by simp only [List.length_nil]; decide, wE_var rfl ⟨_, g_setF h3 rfl (by simp), ?_⟩⟩)))
  simp only [List.set_set]
  have h4 : (s1.set n (.ins 23 (putN 57912750006598768 (.tup []) [(1077251983562371759216, .ref b), (8416549884636429424, .tup [])])))[n]? = some (pkC b []) := by rw [List.getElem?_set_self hlt]; rfl
  have k4 : Kp n st (s1.set n (.ins 23 (putN 57912750006598768 (.tup []) [(1077251983562371759216, .ref b), (8416549884636429424, .tup [])]))) := a1.kp.trans (Kp.own _ _ _)
  generalize (s1.set n (.ins 23 (putN 57912750006598768 (.tup []) [(1077251983562371759216, .ref b), (8416549884636429424, .tup [])])) : Store) = s4 at h4 k4 ⊢
  refine wSs_cons (wS_for (wEs_cons (wE_var rfl (wEs_nil ⟨_, g_srcT, ?_⟩))))
  refine fold_K (m := n) (ds := ts.map D.str) (fun st' a i hi => by simp only [fetch]) (by rfl) (fun i => pkC b (buildF mT mS (ts.take i))) (fun _ e => ∃ y, e = [some (.ref n), some (.ref b), some (.tup (ts.map D.str)), y]) ⟨_, rfl⟩ h4 ?_ ?_
  · rintro i d env st' hi hd ⟨y, rfl⟩ a hc
    rw [List.getElem?_map] at hd
    cases hn0 : ts[i]? with
    | none => rw [hn0] at hd; cases hd
    | some t =>
      rw [hn0] at hd
      cases hd
      rw [List.length_map] at hi
      have g := good_build (T := mT) (S := mS) ht i (by omega)
      have htt := ht t (List.mem_of_getElem? hn0)
      have hb' := a.get (k4.get hb hbn) hbn
      refine ⟨_, by rfl, ?_⟩
      rw [build_snoc hn0, put_end (by omega), ← settle_eq g.ch (.inr ⟨by simp, by omega⟩)]
      generalize buildF mT mS (ts.take i) = ns at g hc ⊢
      obtain ⟨lg, ll⟩ := last_g g
      refine wSs_cons (wS_expr (wE_meth (wE_var rfl ⟨_, g_meth hc rfl rfl, ?_⟩)))
      refine wEs_cons (wE_blt (wEs_cons (wE_cst (wEs_cons (wE_op2 (wE_lenO (wE_at (wE_var rfl ⟨_, _, _, g_ins hc, rfl, rfl, w_lenOT (wE_cst (w_sub (wEs_nil (w_max ?_))))⟩))))))))
      refine wEs_cons (wE_lstX (wXs_star (wE_meth (wE_var rfl ⟨_, g_meth hc rfl rfl, wEs_nil (last_node A hc g.tx ⟨_, rfl, wXs_cons (wE_var rfl (wXs_nil ⟨?_, wEs_nil ?_⟩))⟩)⟩))))
      · rw [List.length_append, List.length_map, SLv]; simp; omega
      · have e1 : (if ((nsD ns).length : Int) - 1 > 0 then ((nsD ns).length : Int) - 1 else 0) = ((ns.length - 1 : Nat) : Int) := by rw [List.length_map]; split <;> omega
        have e2 : (nodeAt ns (ns.length - 1)).map D.str ++ [D.str t] = (nodeAt ns (ns.length - 1) ++ [t]).map D.str := by simp
        rw [e1, e2]
        refine W_mono (settle A ((Ap.app st' _).get hc) ((Ap.app st' _).get hb') (get_app _ _) (okS_of g (by omega)) (fun u hu => ?_) (by rw [List.length_append]; simp; omega) (by omega)) fun d s2 ⟨ed, k2, h2⟩ => ?_
        · rcases List.mem_append.mp hu with hu | hu
          · exact lg u hu
          · rw [List.mem_singleton.mp hu]; exact htt
        · exact wSs_nil ⟨⟨_, rfl⟩, (Ap.app _ _).kp.trans k2, h2⟩
  · rintro env st' ⟨y, rfl⟩ a hc
    rw [List.length_map, List.take_length] at hc
    exact wSs_nil ⟨by trivial, k4.trans a, hc⟩
end
end Law

namespace Law
open RX PySem
theorem cut_nn {α : Type} {xs : List α} {i j : Nat} (h : i ≤ j) : cut xs (some (i : Int)) (some (j : Int)) = (xs.drop i).take (j - i) := by
  have e : ∀ (d : Nat) (k : Nat), HT.sIx xs.length d (some (k : Int)) = min k xs.length := by
    intro d k
    unfold HT.sIx
    simp only
    first
      | (split <;> omega)
      | (repeat' split <;> omega)
      | omega
  unfold cut
  rw [e, e]
  by_cases h1 : i ≤ xs.length
  · rw [Nat.min_eq_left h1]
    by_cases h2 : j ≤ xs.length
    · rw [Nat.min_eq_left h2]
    · rw [Nat.min_eq_right (by omega)]
      rw [List.take_of_length_le (by rw [List.length_drop]; omega), List.take_of_length_le (by rw [List.length_drop]; omega)]
  · rw [List.drop_eq_nil_of_le (by omega), List.drop_eq_nil_of_le (by omega)]
    simp
theorem ok_win {T S i : Nat} {ns : List Nd} {ts : List Tx} (h : okS ns) (ht : gTs ts) (hl : ts.length ≤ 300) : okL (((ns.drop (i - 1)).take (i - (i - 1)) ++ partF T S ts) ++ (ns.drop (i + 1)).take 1) := by
  have sub : ∀ (j m : Nat), (∀ n ∈ (ns.drop j).take m, n ∈ ns) := fun j m n hn => List.mem_of_mem_drop (List.mem_of_mem_take hn)
  have one : ∀ (j m : Nat), m ≤ 1 → ((ns.drop j).take m).flatten.length ≤ 300 ∧ ((ns.drop j).take m).length ≤ 1 := by
    intro j m hm
    cases hq : (ns.drop j).take m with
    | nil => simp
    | cons a l =>
      have hl2 : ((ns.drop j).take m).length ≤ m := List.length_take_le _ _
      rw [hq] at hl2
      have : l = [] := by
        cases l with
        | nil => rfl
        | cons b l => simp at hl2; omega
      subst this
      have ha : a ∈ ns := sub j m a (by rw [hq]; simp)
      have := len_mem ha
      have := h.2.1
      simp; omega
  have l3 := len_part (T := T) (S := S) ts
  have o1 := one (i - 1) (i - (i - 1)) (by omega)
  have o2 := one (i + 1) 1 (by omega)
  refine ⟨?_, ?_, ?_⟩
  · rw [List.flatten_append, List.flatten_append, flat_part]
    intro t htt
    have inn : ∀ (j m : Nat), t ∈ ((ns.drop j).take m).flatten → gT t := fun j m hx => by
      obtain ⟨n, hn, hx⟩ := List.mem_flatten.mp hx
      exact h.1 t (List.mem_flatten.mpr ⟨n, sub j m n hn, hx⟩)
    rcases List.mem_append.mp htt with htt | htt
    · rcases List.mem_append.mp htt with htt | htt
      · exact inn _ _ htt
      · exact ht t htt
    · exact inn _ _ htt
  · rw [List.flatten_append, List.flatten_append, flat_part, List.length_append, List.length_append]
    omega
  · rw [List.length_append, List.length_append]
    omega
section
variable {F : Nat → Option Fn} (A : At F) {k : Nat} {st : Store} {P : D → Store → Prop}
include A
theorem law_spot {q p : Nat} {ns : List Nd} (hq : st[q]? = some (.lst (nsD ns))) (hne : ns ≠ []) (hp : p ≤ ns.flatten.length) :
    (callN F (k + 1) 47 [.ref q, .int p] st).W fun d s => d = .ref st.length ∧ s = st ++ [.lst [.int (spotL ns p).1, .int (spotL ns p).2]] := by
  rw [W_call A._law_spot rfl]
  simp only [List.map_cons, List.map_nil, List.cons_append, List.nil_append, List.length_cons, List.length_nil, List.replicate_succ, List.replicate_zero, Nat.reduceAdd, Nat.reduceSub, T._law_spot]
  refine wSs_cons (wS_asg (wE_var rfl ⟨by simp only [List.length_cons, List.length_nil]; decide, ?_⟩))
  simp only [List.set_cons_zero, List.set_cons_succ]
  refine wSs_cons (wS_for (wEs_cons (wE_var rfl (wEs_nil ⟨_, g_srcEn hq, ?_⟩))))
  refine for_W (n := (nsD ns).length) (fun i e s => s = st ∧ ∃ l y z, e = [some (.ref q), some (.int p), some (.int (l : Nat)), y, z] ∧ (ns.take i).flatten.length + l = p ∧ (p < ns.flatten.length → (spotF ns p).1 = (spotF (ns.drop i) l).1 + i ∧ (spotF ns p).2 = (spotF (ns.drop i) l).2)) ⟨rfl, p, none, none, rfl, by simp, fun _ => by simp⟩ ?_ ?_
  · rintro i e s hi ⟨rfl, l, y, z, rfl, h1, h2⟩
    rw [List.length_map] at hi
    have hx : ns[i]? = some ns[i] := List.getElem?_eq_getElem hi
    have hd : ns.drop i = ns[i] :: ns.drop (i + 1) := List.drop_eq_getElem_cons hi
    have hf := congrArg List.length (flat_at hx)
    rw [List.length_append, List.length_append] at hf
    refine ⟨.tup [.int (i : Nat), ndD ns[i]], [some (.ref q), some (.int p), some (.int (l : Nat)), some (.int (i : Nat)), some (ndD ns[i])], by rw [f_enum hq, List.getElem?_mapIdx, nsD, List.getElem?_map, hx]; rfl, by rfl, ?_⟩
    refine wSs_cons (wS_if (wT (wE_cmp (wE_var rfl (wE_lenO (wE_var rfl (w_lenOT (w_lt ⟨_, rfl, fun hh => ?_, fun hh => ?_⟩))))))))
    · have hh := of_decide_eq_true hh
      rw [List.length_map] at hh
      have hlt : l < ns[i].length := by omega
      obtain ⟨q1, q2⟩ := h2 (by omega)
      rw [hd, spotF_cons, if_pos hlt] at q1 q2
      refine wSs_cons (wS_ret (wE_lst (wEs_cons (wE_var rfl (wEs_cons (wE_var rfl (wEs_nil ⟨by simp only [List.length_cons, List.length_nil]; decide, rfl, ?_⟩)))))))
      unfold spotL
      rw [if_pos (by omega), q1, q2]
      simp
    · have hh := of_decide_eq_false hh
      rw [List.length_map] at hh
      have hnl : ¬ l < ns[i].length := by omega
      refine wSs_nil (wSs_cons (wS_asg (wE_op2 (wE_var rfl (wE_lenO (wE_var rfl (w_lenOT (w_sub ⟨by simp only [List.length_cons, List.length_nil]; decide, ?_⟩))))))))
      simp only [List.set_cons_zero, List.set_cons_succ]
      refine wSs_nil ⟨rfl, l - ns[i].length, some (.int (i : Nat)), some (ndD ns[i]), ?_, ?_, fun hlt => ?_⟩
      · have e1 : ((l : Nat) : Int) - ((ns[i].map D.str).length : Nat) = ((l - ns[i].length : Nat) : Int) := by rw [List.length_map]; omega
        rw [e1]
      · have : ns.take (i + 1) = ns.take i ++ [ns[i]] := by rw [List.take_succ, hx]; rfl
        rw [this, List.flatten_append, List.length_append]
        simp only [List.flatten_cons, List.flatten_nil, List.append_nil]
        omega
      · obtain ⟨q1, q2⟩ := h2 hlt
        rw [hd, spotF_cons, if_neg hnl] at q1 q2
        simp only at q1 q2
        exact ⟨by omega, q2⟩
  · rintro e s ⟨rfl, l, y, z, rfl, h1, h2⟩
    rw [List.length_map, List.take_length] at h1
    have hl := List.length_pos_iff.mpr hne
    have e : ns[ns.length - 1]? = some (ns[ns.length - 1]'(by omega)) := by simp
    refine ⟨by rw [f_enum hq]; simp, ?_⟩
    refine wSs_cons (wS_ret (wE_lst (wEs_cons (wE_op2 (wE_lenO (wE_var rfl (w_lenOL hq (wE_cst (w_sub ?_)))))))))
    refine wEs_cons (wE_lenO (wE_sub (wE_var rfl (wE_neg (wE_cst ⟨1, rfl, _, g_subL hq (ns_last (l := ns[ns.length - 1]'(by omega)) (by rw [List.getLast?_eq_getElem?, e])), w_lenOT (wEs_nil ?_)⟩)))))
    refine ⟨by simp only [List.length_cons, List.length_nil]; decide, rfl, ?_⟩
    unfold spotL
    rw [if_neg (by omega), nodeAt_eq e]
    have : (((nsD ns).length : Nat) : Int) - 1 = ((ns.length - 1 : Nat) : Int) := by rw [List.length_map]; omega
    rw [this, List.length_map]
theorem law_with {nb q i mT mS : Nat} {ns : List Nd} {ts : List Tx} (hb : st[nb]? = some (.lst [.int mT, .int mS])) (hq : st[q]? = some (.lst (nsD ns))) (ho : okS ns) (ht : gTs ts) (hl : ts.length ≤ 300) :
    (callN F (k + 3) 48 [.ref nb, .ref q, .int i, .tup (ts.map D.str)] st).W fun d s => ∃ r, d = .ref r ∧ Ap st s ∧ s[r]? = some (.lst (nsD (withF mT mS ns i ts))) := by
  rw [W_call A._law_with rfl]
  simp only [List.map_cons, List.map_nil, List.cons_append, List.nil_append, List.length_cons, List.length_nil, List.replicate_succ, List.replicate_zero, Nat.reduceAdd, Nat.reduceSub, T._law_with]
  refine wSs_cons (wS_asg (wE_call (wEs_cons (wE_var rfl (wEs_cons (wE_var rfl (wEs_nil ?_)))))))
  refine W_mono (law_parted A hb ht (by omega)) fun d s1 ⟨ed, a1, h1⟩ => ?_
  subst ed
  refine ⟨by simp only [List.length_cons, List.length_nil]; decide, ?_⟩
  simp only [List.set_cons_zero, List.set_cons_succ]
  refine wSs_cons (wS_par (wEs_cons (wE_blt (wEs_cons (wE_cst (wEs_cons (wE_op2 (wE_var rfl (wE_cst (w_sub (wEs_nil (w_max ?_))))))))))))
  refine wEs_cons (wE_op2 (wE_var rfl (wE_cst (w_add (wEs_nil ?_)))))
  have e1 : (if (i : Int) - 1 > 0 then (i : Int) - 1 else 0) = ((i - 1 : Nat) : Int) := by split <;> omega
  have e2 : (i : Int) + 2 = ((i + 2 : Nat) : Int) := by omega
  rw [e1, e2]
  refine ⟨[some (.ref nb), some (.ref q), some (.int i), some (.tup (ts.map D.str)), some (.ref st.length), some (.int ((i - 1 : Nat) : Int)), some (.int ((i + 2 : Nat) : Int))], rfl, ?_⟩
  have hw := ok_win (T := mT) (S := mS) (i := i) ho ht hl
  have hqq := a1.get hq
  -- the first part
  refine wSs_cons (wS_ret (wE_op2 (wE_op2 (wE_slc (wE_var rfl (wE_cst ⟨none, rfl, wE_var rfl ⟨_, rfl, w_slcLs hqq ?_⟩⟩))))))
  have f1 : cut (nsD ns) none (some ((i - 1 : Nat) : Int)) = nsD (ns.take (i - 1)) := by rw [cut_take (by omega)]; simp
  rw [f1]
  have b1 := Ap.app s1 [Cell.lst (nsD (ns.take (i - 1)))]
  have c1 := get_app s1 (Cell.lst (nsD (ns.take (i - 1))))
  generalize (s1 ++ [Cell.lst (nsD (ns.take (i - 1)))] : Store) = s2 at b1 c1 ⊢
  -- the window
  refine wE_call (wEs_cons (wE_var rfl (wEs_cons (wE_op2 (wE_op2 (wE_slc (wE_var rfl (wE_var rfl ⟨_, rfl, wE_var rfl ⟨_, rfl, w_slcLs (b1.get hqq) ?_⟩⟩))))))))
  have f2 : cut (nsD ns) (some ((i - 1 : Nat) : Int)) (some (i : Int)) = nsD ((ns.drop (i - 1)).take (i - (i - 1))) := by rw [cut_nn (by omega)]; simp
  rw [f2]
  have b2 := Ap.app s2 [Cell.lst (nsD ((ns.drop (i - 1)).take (i - (i - 1))))]
  have c2 := get_app s2 (Cell.lst (nsD ((ns.drop (i - 1)).take (i - (i - 1)))))
  generalize (s2 ++ [Cell.lst (nsD ((ns.drop (i - 1)).take (i - (i - 1))))] : Store) = s3 at b2 c2 ⊢
  have hsz : ∀ l : List Nd, l.length ≤ 1000 → (nsD l).length ≤ 1000 := fun l h => by rw [List.length_map]; exact h
  have w3 := hw.2.2
  rw [List.length_append, List.length_append] at w3
  have p1 := (b1.trans b2).get h1
  refine wE_var rfl (w_catL c2 p1 (by rw [List.length_map, List.length_map, SLv]; omega) ?_)
  rw [← ns_app]
  have b3 := Ap.app s3 [Cell.lst (nsD ((ns.drop (i - 1)).take (i - (i - 1)) ++ partF mT mS ts))]
  have c3 := get_app s3 (Cell.lst (nsD ((ns.drop (i - 1)).take (i - (i - 1)) ++ partF mT mS ts)))
  generalize (s3 ++ [Cell.lst (nsD ((ns.drop (i - 1)).take (i - (i - 1)) ++ partF mT mS ts))] : Store) = s4 at b3 c3 ⊢
  have hq4 := ((b1.trans b2).trans b3).get hqq
  refine wE_slc (wE_var rfl (wE_op2 (wE_var rfl (wE_cst (w_add ⟨_, rfl, wE_var rfl ⟨_, rfl, w_slcLs hq4 ?_⟩⟩)))))
  have f3 : cut (nsD ns) (some ((i : Int) + 1)) (some ((i + 2 : Nat) : Int)) = nsD ((ns.drop (i + 1)).take 1) := by
    have : (i : Int) + 1 = ((i + 1 : Nat) : Int) := by omega
    rw [this, cut_nn (by omega)]
    have : i + 2 - (i + 1) = 1 := by omega
    rw [this]
    simp
  rw [f3]
  have b4 := Ap.app s4 [Cell.lst (nsD ((ns.drop (i + 1)).take 1))]
  have c4 := get_app s4 (Cell.lst (nsD ((ns.drop (i + 1)).take 1)))
  generalize (s4 ++ [Cell.lst (nsD ((ns.drop (i + 1)).take 1))] : Store) = s5 at b4 c4 ⊢
  refine w_catL (b4.get c3) c4 (by rw [List.length_map, List.length_map, List.length_append, SLv]; omega) (wEs_nil ?_)
  rw [← ns_app]
  have b5 := Ap.app s5 [Cell.lst (nsD (((ns.drop (i - 1)).take (i - (i - 1)) ++ partF mT mS ts) ++ (ns.drop (i + 1)).take 1))]
  have c5 := get_app s5 (Cell.lst (nsD (((ns.drop (i - 1)).take (i - (i - 1)) ++ partF mT mS ts) ++ (ns.drop (i + 1)).take 1)))
  generalize (s5 ++ [Cell.lst (nsD (((ns.drop (i - 1)).take (i - (i - 1)) ++ partF mT mS ts) ++ (ns.drop (i + 1)).take 1))] : Store) = s6 at b5 c5 ⊢
  have bb := (((b1.trans b2).trans b3).trans b4).trans b5
  refine W_mono (law_joined A ((a1.trans bb).get hb) c5 hw) fun d s7 ⟨ed, a7, h7⟩ => ?_
  subst ed
  have ju : (joinF mT mS (((ns.drop (i - 1)).take (i - (i - 1)) ++ partF mT mS ts) ++ (ns.drop (i + 1)).take 1)).length ≤ 1000 := by
    unfold joinF
    have := len_fold (T := mT) (S := mS) (((ns.drop (i - 1)).take (i - (i - 1)) ++ partF mT mS ts) ++ (ns.drop (i + 1)).take 1) []
    have := hw.2.2
    simp only [List.length_nil] at *
    omega
  have hn3 := ho.2.2
  have c17 := ((((b2.trans b3).trans b4).trans b5).trans a7).get c1
  refine w_catL c17 h7 (by rw [List.length_map, List.length_map, List.length_take, SLv]; omega) ?_
  rw [← ns_app]
  have b8 := Ap.app s7 [Cell.lst (nsD (ns.take (i - 1) ++ joinF mT mS (((ns.drop (i - 1)).take (i - (i - 1)) ++ partF mT mS ts) ++ (ns.drop (i + 1)).take 1)))]
  have c8 := get_app s7 (Cell.lst (nsD (ns.take (i - 1) ++ joinF mT mS (((ns.drop (i - 1)).take (i - (i - 1)) ++ partF mT mS ts) ++ (ns.drop (i + 1)).take 1))))
  generalize (s7 ++ [Cell.lst (nsD (ns.take (i - 1) ++ joinF mT mS (((ns.drop (i - 1)).take (i - (i - 1)) ++ partF mT mS ts) ++ (ns.drop (i + 1)).take 1)))] : Store) = s8 at b8 c8 ⊢
  have hq8 := ((bb.trans a7).trans b8).get hqq
  refine wE_slc (wE_var rfl (wE_var rfl ⟨_, rfl, wE_cst ⟨none, rfl, w_slcLs hq8 ?_⟩⟩))
  have f4 : cut (nsD ns) (some ((i + 2 : Nat) : Int)) none = nsD (ns.drop (i + 2)) := by
    have : (((i + 2 : Nat) : Int)).toNat = i + 2 := by omega
    rw [cut_all (by omega), this, nsD, nsD, List.map_drop]
  rw [f4]
  have c9 := get_app s8 (Cell.lst (nsD (ns.drop (i + 2))))
  refine w_catL ((Ap.app s8 _).get c8) c9 (by rw [List.length_map, List.length_map, List.length_append, List.length_take, List.length_drop, SLv]; omega) ⟨_, rfl, ?_, ?_⟩
  · exact ((((a1.trans bb).trans a7).trans b8).trans (Ap.app _ _)).trans (Ap.app _ _)
  · rw [get_app, ← ns_app]
    rfl
end
end Law

namespace Law
open RX PySem
theorem ct_eq {Γ : Sem} {im m : Nat} {env : EnvD} {st : Store} {f : List Nd} (hvar : env[im]? = some (some (.ref m))) (hm : st[m]? = some (.lst (nsD f))) (hg : gTs f.flatten) : (evE Γ (.cmp .Eq (.var im) (.lst [])) env st).W fun d s => d = .bl (decide (f = [])) ∧ Ap st s := by
  refine wE_cmp (wE_var hvar (wE_lst (wEs_nil ⟨by simp only [List.length_nil]; decide, ?_⟩)))
  refine w_eqPL 1 ((Ap.app st _).get hm) (get_app _ _) (pl_ns fun n hn => ok_mem hg hn) (by simp [plDs]) (by decide) fun t ht => ⟨?_, Ap.app _ _⟩
  congr 1
  cases t with
  | true =>
    have : nsD f = [] := ht.mp rfl
    have : f = [] := by simpa using this
    simp [this]
  | false =>
    have : f ≠ [] := fun z => by have := ht.mpr (by simp [z]); cases this
    simp [this]
theorem ext_loop {Γ : Sem} {q m im iv : Nat} {env : EnvD} {st : Store} {ns : List Nd} {N : EnvD → Store → Prop} {R : D → Store → Prop} (hq : st[q]? = some (.lst (nsD ns))) (hm : st[m]? = some (.lst [])) (him : env[im]? = some (some (.ref m))) (hiv : iv < env.length) (hne : im ≠ iv) (hqm : q ≠ m) (h0 : env = env.set iv none)
    (hl : ns.flatten.length ≤ 1000) (fin : ∀ y s, Kp m st s → s[m]? = some (.lst (ns.flatten.map D.str)) → N (env.set iv y) s) : (forLoop (.lst q) (.nm iv) (evSs Γ [.expr (.met .extend (.var im) [.blt .list [.var iv]])]) ((nsD ns).length + 1) 0 env st).W N R := by
  refine fold_K (m := m) (ds := nsD ns) (fun st' a i hi => by simp only [fetch, itemsOf, a.get hq hqm]) rfl (fun i => .lst ((ns.take i).flatten.map D.str)) (fun _ e => ∃ y, e = env.set iv y) ⟨none, h0⟩ (by simpa using hm) ?_ ?_
  · rintro i d e st' hi hd ⟨y, rfl⟩ a hc
    rw [nsD, List.getElem?_map] at hd
    cases hn : ns[i]? with
    | none => rw [hn] at hd; cases hd
    | some n =>
      rw [hn] at hd
      cases hd
      have hlt : iv < (env.set iv y).length := by simpa using hiv
      refine ⟨env.set iv (some (ndD n)), by simp [put, hiv], ?_⟩
      have hf := congrArg List.length (flat_at hn)
      simp only [List.length_append] at hf
      refine wSs_cons (wS_expr (wE_metE (wE_var (by rw [List.getElem?_set_ne (Ne.symm hne)]; exact him) ⟨m, _, rfl, hc, wE_blt (wEs_cons (wE_var (by rw [List.getElem?_set_self hiv]) (wEs_nil (w_listT ⟨_, _, _, rfl, (Ap.app st' _).get hc, get_app _ _, ?_, ?_⟩))))⟩)))
      · rw [List.length_map, List.length_map, SLv]; omega
      · refine wSs_nil ⟨⟨_, rfl⟩, (Ap.app _ _).kp.trans (Kp.own _ _ _), ?_⟩
        rw [List.getElem?_set_self (by have := lt_of_get hc; simp; omega)]
        have : ns.take (i + 1) = ns.take i ++ [n] := by rw [List.take_succ, hn]; rfl
        rw [this, List.flatten_append, List.map_append]
        simp
  · rintro e s ⟨y, rfl⟩ a hc
    have : (nsD ns).length = ns.length := by simp
    rw [this, List.take_length] at hc
    exact fin y s a hc
section
variable {F : Nat → Option Fn} (A : At F) {k : Nat} {st : Store} {P : D → Store → Prop}
include A
theorem law_put {nb q p mT mS N : Nat} {ns : List Nd} {t : Tx} (hb : st[nb]? = some (.lst [.int mT, .int mS])) (hq : st[q]? = some (.lst (nsD ns))) (g : GoodN mT mS N ns) (hN : N ≤ 199) (ht : gT t) (hp : p ≤ ns.flatten.length) :
    (callN F (k + 4) 49 [.ref nb, .ref q, .int p, .str t] st).W fun d s => ∃ r, d = .ref r ∧ Ap st s ∧ s[r]? = some (.lst (nsD (putF' mT mS ns p t))) := by
  rw [W_call A._law_put rfl]
  simp only [List.map_cons, List.map_nil, List.cons_append, List.nil_append, List.length_cons, List.length_nil, List.replicate_succ, List.replicate_zero, Nat.reduceAdd, Nat.reduceSub, T._law_put]
  refine wSs_cons (wS_if (wT (W_mono (ct_eq rfl hq g.tx) fun d s1 ⟨ed, a1⟩ => ?_)))
  subst ed
  refine ⟨_, rfl, fun hh => ?_, fun hh => ?_⟩
  · have hz := of_decide_eq_true hh
    refine wSs_cons (wS_ret (wE_lst (wEs_cons (wE_tup (wEs_cons (wE_var rfl (wEs_nil ⟨by simp only [List.length_cons, List.length_nil]; decide, wEs_nil ⟨by simp only [List.length_cons, List.length_nil]; decide, _, rfl, a1.trans (Ap.app _ _), ?_⟩⟩)))))))
    rw [get_app]
    simp [putF', hz]
  · have hz := of_decide_eq_false hh
    obtain ⟨x, x1, x2⟩ := spotL_at (p := p) hz
    refine wSs_nil (wSs_cons (wS_asgT (wE_call (wEs_cons (wE_var rfl (wEs_cons (wE_var rfl (wEs_nil ?_))))))))
    refine W_mono (law_spot A (a1.get hq) hz hp) fun d s2 ⟨ed, es⟩ => ?_
    subst ed; subst es
    have a2 : Ap st (s1 ++ [Cell.lst [D.int ((spotL ns p).1 : Nat), D.int ((spotL ns p).2 : Nat)]]) := a1.trans (Ap.app _ _)
    have h2 := get_app s1 (Cell.lst [D.int ((spotL ns p).1 : Nat), D.int ((spotL ns p).2 : Nat)])
    generalize (s1 ++ [Cell.lst [D.int ((spotL ns p).1 : Nat), D.int ((spotL ns p).2 : Nat)]] : Store) = s2 at a2 h2 ⊢
    refine ⟨[some (.ref nb), some (.ref q), some (.int p), some (.str t), some (.int (spotL ns p).1), some (.int (spotL ns p).2)], by simp only [putS, itemsOf, h2]; rfl, ?_⟩
    have hq2 := a2.get hq
    have sub : ∀ {s : Store}, s[q]? = some (.lst (nsD ns)) → itemAt (nsD ns) (((spotL ns p).1 : Nat) : Int) = some (ndD x) := fun _ => atI_nat (by rw [nsD, List.getElem?_map, x1]; rfl)
    refine wSs_cons (wS_ret (wE_call (wEs_cons (wE_var rfl (wEs_cons (wE_var rfl (wEs_cons (wE_var rfl ?_))))))))
    refine wEs_cons (wE_op2 (wE_op2 (wE_slc (wE_sub (wE_var rfl (wE_var rfl ⟨_, g_subL hq2 (sub hq2), wE_cst ⟨none, rfl, wE_var rfl ⟨_, rfl, w_slcT ?_⟩⟩⟩))))))
    have xl := node_len g x1
    have xg := gTs_node g x1
    refine wE_tup (wEs_cons (wE_var rfl (wEs_nil ⟨by simp only [List.length_cons, List.length_nil]; decide, ?_⟩)))
    rw [cut_take (by omega)]
    refine w_catT (by simp only [List.length_take, List.length_map, List.length_cons, List.length_nil, SLv]; omega) ?_
    refine wE_slc (wE_sub (wE_var rfl (wE_var rfl ⟨_, g_subL hq2 (sub hq2), wE_var rfl ⟨_, rfl, wE_cst ⟨none, rfl, w_slcT ?_⟩⟩⟩)))
    rw [cut_all (by omega)]
    have e2 : (x.map D.str).take (((spotL ns p).2 : Nat) : Int).toNat ++ [D.str t] ++ (x.map D.str).drop (((spotL ns p).2 : Nat) : Int).toNat = (x.take (spotL ns p).2 ++ [t] ++ x.drop (spotL ns p).2).map D.str := by simp
    refine w_catT (by simp only [List.length_append, List.length_take, List.length_drop, List.length_map, List.length_cons, List.length_nil, SLv]; omega) (wEs_nil ?_)
    rw [e2]
    refine W_mono (law_with A (a2.get hb) hq2 (okS_of g (by omega)) (fun u hu => ?_) ?_) fun d s3 ⟨r, ed, a3, h3⟩ => ⟨r, ed, a2.trans a3, ?_⟩
    · rcases List.mem_append.mp hu with hu | hu
      · rcases List.mem_append.mp hu with hu | hu
        · exact xg u (List.mem_of_mem_take hu)
        · rw [List.mem_singleton.mp hu]; exact ht
      · exact xg u (List.mem_of_mem_drop hu)
    · simp only [List.length_append, List.length_take, List.length_drop, List.length_singleton]; omega
    · rw [h3]
      unfold putF'
      rw [if_neg hz, nodeAt_eq x1]
theorem law_less {nb q p mT mS N : Nat} {ns : List Nd} (hb : st[nb]? = some (.lst [.int mT, .int mS])) (hq : st[q]? = some (.lst (nsD ns))) (g : GoodN mT mS N ns) (hN : N ≤ 199) (hp : p < ns.flatten.length) :
    (callN F (k + 4) 50 [.ref nb, .ref q, .int p] st).W fun d s => ∃ r, d = .ref r ∧ Ap st s ∧ s[r]? = some (.lst (nsD (lessF mT mS ns p))) := by
  have hz : ns ≠ [] := fun z => by rw [z] at hp; simp at hp
  obtain ⟨x, x1, x2, x3⟩ := spot_ok hp
  have eL : spotL ns p = spotF ns p := by unfold spotL; rw [if_pos hp]
  rw [W_call A._law_less rfl]
  simp only [List.map_cons, List.map_nil, List.cons_append, List.nil_append, List.length_cons, List.length_nil, List.replicate_succ, List.replicate_zero, Nat.reduceAdd, Nat.reduceSub, T._law_less]
  refine wSs_cons (wS_asgT (wE_call (wEs_cons (wE_var rfl (wEs_cons (wE_var rfl (wEs_nil ?_)))))))
  refine W_mono (law_spot A hq hz (Nat.le_of_lt hp)) fun d s2 ⟨ed, es⟩ => ?_
  subst ed; subst es
  rw [eL]
  have a2 : Ap st (st ++ [Cell.lst [D.int ((spotF ns p).1 : Nat), D.int ((spotF ns p).2 : Nat)]]) := Ap.app _ _
  have h2 := get_app st (Cell.lst [D.int ((spotF ns p).1 : Nat), D.int ((spotF ns p).2 : Nat)])
  generalize (st ++ [Cell.lst [D.int ((spotF ns p).1 : Nat), D.int ((spotF ns p).2 : Nat)]] : Store) = s2 at a2 h2 ⊢
  refine ⟨[some (.ref nb), some (.ref q), some (.int p), some (.int (spotF ns p).1), some (.int (spotF ns p).2)], by simp only [putS, itemsOf, h2]; rfl, ?_⟩
  have hq2 := a2.get hq
  have sub : itemAt (nsD ns) (((spotF ns p).1 : Nat) : Int) = some (ndD x) := atI_nat (by rw [nsD, List.getElem?_map, x1]; rfl)
  have xl := node_len g x1
  have xg := gTs_node g x1
  refine wSs_cons (wS_ret (wE_call (wEs_cons (wE_var rfl (wEs_cons (wE_var rfl (wEs_cons (wE_var rfl ?_))))))))
  refine wEs_cons (wE_op2 (wE_slc (wE_sub (wE_var rfl (wE_var rfl ⟨_, g_subL hq2 sub, wE_cst ⟨none, rfl, wE_var rfl ⟨_, rfl, w_slcT ?_⟩⟩⟩)))))
  rw [cut_take (by omega)]
  refine wE_slc (wE_sub (wE_var rfl (wE_var rfl ⟨_, g_subL hq2 sub, wE_op2 (wE_var rfl (wE_cst (w_add ⟨_, rfl, wE_cst ⟨none, rfl, w_slcT ?_⟩⟩)))⟩)))
  rw [cut_all (by omega)]
  have e3 : ((((spotF ns p).2 : Nat) : Int) + 1).toNat = (spotF ns p).2 + 1 := by omega
  rw [e3]
  have e2 : (x.map D.str).take (((spotF ns p).2 : Nat) : Int).toNat ++ (x.map D.str).drop ((spotF ns p).2 + 1) = (x.take (spotF ns p).2 ++ x.drop ((spotF ns p).2 + 1)).map D.str := by simp
  refine w_catT (by simp only [List.length_take, List.length_drop, List.length_map, SLv]; omega) (wEs_nil ?_)
  rw [e2]
  refine W_mono (law_with A (a2.get hb) hq2 (okS_of g (by omega)) (fun u hu => ?_) ?_) fun d s3 ⟨r, ed, a3, h3⟩ => ⟨r, ed, a2.trans a3, ?_⟩
  · rcases List.mem_append.mp hu with hu | hu
    · exact xg u (List.mem_of_mem_take hu)
    · exact xg u (List.mem_of_mem_drop hu)
  · simp only [List.length_append, List.length_take, List.length_drop]; omega
  · rw [h3]
    unfold lessF
    rw [nodeAt_eq x1]
end
end Law

namespace Law
open RX PySem
theorem plDs_all (k : Nat) : ∀ l : List D, plDs k l = l.all (plD k)
  | [] => by simp [plDs]
  | d :: l => by simp [plDs, plDs_all k l]
theorem cut_mem {α : Type} {xs : List α} {l u : Option Int} {x : α} (h : x ∈ cut xs l u) : x ∈ xs := List.mem_of_mem_drop (List.mem_of_mem_take h)
theorem pl_cut {ts : List Tx} (h : gTs ts) (l u : Option Int) : plD 1 (.tup (cut (ts.map D.str) l u)) = true := by
  show plDs 0 _ = true
  rw [plDs_all]
  have := pl_strs h 0
  rw [plDs_all] at this
  exact List.all_eq_true.mpr fun d hd => List.all_eq_true.mp this d (cut_mem hd)
theorem w_neSame {k : Nat} {a : D} {st : Store} {P : D → Store → Prop} (h : plD k a = true) (hk : k ≤ 64) (q : P (.bl false) st) : (cmpO .NotEq a a st).W P :=
  w_neP k h h hk fun t ht => by rw [ht.mpr rfl]; exact q
theorem w_eqSame {k : Nat} {a : D} {st : Store} {P : D → Store → Prop} (h : plD k a = true) (hk : k ≤ 64) (q : P (.bl true) st) : (cmpO .Eq a a st).W P :=
  w_eqP k h h hk fun t ht => by rw [ht.mpr rfl]; exact q
theorem srcIs_enum {m : Nat} {ds : List D} {st : Store} (h : st[m]? = some (.lst ds)) : SrcIs (.enum m) (ds.mapIdx fun i d => D.tup [.int (i : Nat), d]) st := fun st' a i _ => f_enum (a.get h)
section
variable {F : Nat → Option Fn} (A : At F) {k : Nat} {st : Store} {P : D → Store → Prop}
include A
theorem is_as {n b q mT mS N : Nat} {ns : List Nd} (hn : st[n]? = some (pkC b ns)) (hq : st[q]? = some (.lst (nsD ns))) (g : GoodN mT mS N ns) (hN : N ≤ 199) :
    (callN F (k + 6) 52 [.ref n, .ref q] st).W fun d s => d = .bl true ∧ Ap st s := by
  have gl := g.len
  rw [W_call A._law_is_as rfl]
  simp only [List.map_cons, List.map_nil, List.cons_append, List.nil_append, List.length_cons, List.length_nil, List.replicate_succ, List.replicate_zero, Nat.reduceAdd, Nat.reduceSub, T._law_is_as]
  refine wSs_cons (wS_asg (wE_lst (wEs_nil ⟨by simp only [List.length_nil]; decide, by simp only [List.length_cons, List.length_nil]; decide, ?_⟩)))
  simp only [List.set_cons_zero, List.set_cons_succ]
  have hqm : q ≠ st.length := fun z => by have := lt_of_get hq; omega
  refine wSs_cons (wS_for (wEs_cons (wE_var rfl (wEs_nil ⟨_, g_srcL ((Ap.app st _).get hq), ?_⟩))))
  refine ext_loop ((Ap.app st _).get hq) (get_app _ _) (by rfl) (by simp only [List.length_cons, List.length_nil]; decide) (by decide) hqm (by rfl) (by omega) fun y s k1 hm => ?_
  have a := kp_new k1
  simp only [List.set_cons_zero, List.set_cons_succ]
  generalize st.length = m at hm hqm ⊢
  have hn1 := a.get hn
  have hq1 := a.get hq
  refine wSs_cons (wS_if (wT (wE_or (wE_cmp (wE_prop (wE_var rfl ⟨_, _, _, g_ins hn1, rfl, pack_nodes A hn1 ?_⟩))))))
  refine wE_blt (wEs_cons (wE_var rfl (wEs_nil (w_tupL hq1 (w_neSame (pl_tn g.tx) (by decide) ⟨_, rfl, fun z => (by cases z), fun _ => ?_⟩)))))
  refine wE_or (wE_cmp (wE_prop (wE_var rfl ⟨_, _, _, g_ins hn1, rfl, pack_plain A hn1 ?_⟩)))
  refine wE_blt (wEs_cons (wE_var rfl (wEs_nil (w_tupL hm (w_neSame (k := 1) (by simpa [plD] using pl_strs g.tx 0) (by decide) ⟨_, rfl, fun z => (by cases z), fun _ => ?_⟩)))))
  refine wE_cmp (wE_lenO (wE_var rfl (w_lenOI hn1 rfl (pack_len A hn1 ⟨_, rfl, by omega, by omega, wE_lenO (wE_var rfl (w_lenOL hm ?_))⟩))))
  rw [List.length_map]
  refine w_neS ⟨_, rfl, fun z => (by cases z), fun _ => wSs_nil ?_⟩
  -- each place
  have elen : ((ns.flatten.map D.str).mapIdx fun i d => D.tup [.int (i : Nat), d]).length ≤ SL := by simp only [List.length_mapIdx, List.length_map, SLv]; omega
  refine wSs_cons (wS_if (wT (wE_cmp (wE_lc (wEs_cons (wE_var rfl (wEs_nil ⟨_, g_srcEn hm, lc_ap (srcIs_enum hm) (by simp only [List.length_mapIdx]) elen (fun _ => none) (fun d hd st' a2 => ?_) (fun s2 a2 h2 => ?_)⟩)))))))
  · obtain ⟨i, hi, e⟩ := List.mem_iff_getElem.mp hd
    simp only [List.length_mapIdx, List.length_map] at hi
    simp only [List.getElem_mapIdx, List.getElem_map] at e
    subst e
    refine lcT_W1 (env' := [some (.ref n), some (.ref q), some (.ref m), y, none, none, some (.int (i : Nat)), some (.str ns.flatten[i])]) (by rfl) ?_
    have hn2 := a2.get hn1
    refine wT (wE_cmp (wE_meth (wE_var rfl ⟨_, g_meth hn2 rfl rfl, wEs_cons (wE_var rfl (wEs_nil (pack_at A hn2 hi (wE_var rfl ?_))))⟩)))
    exact w_neSame (k := 0) (pl_str (g.tx _ (List.getElem_mem _)) 0) (by decide) ⟨_, rfl, fun z => (by cases z), fun _ => ⟨rfl, Ap.refl _⟩⟩
  · have e0 : ∀ l : List D, l.filterMap (fun _ => (none : Option D)) = [] := by
      intro l
      induction l with
      | nil => rfl
      | cons a l ih => simpa using ih
    rw [e0] at h2
    refine wE_lst (wEs_nil ⟨by simp only [List.length_nil]; decide, w_nePL 1 ((Ap.app s2 _).get h2) (get_app _ _) (by simp [plDs]) (by simp [plDs]) (by decide) fun t ht => ⟨_, rfl, fun z => ?_, fun _ => wSs_nil ?_⟩⟩)
    · rw [ht.mpr rfl] at z; cases z
    have b2 : Ap s (s2 ++ [Cell.lst []]) := a2.trans (Ap.app _ _)
    generalize (s2 ++ [Cell.lst []] : Store) = s3 at b2 ⊢
    have hn3 := b2.get hn1
    have hm3 := b2.get hm
    refine wSs_cons (wS_par (wEs_cons (wE_op2 (wE_lenO (wE_var rfl (w_lenOL hm3 (wE_cst (w_div (by decide) ?_))))))))
    refine wEs_cons (wE_op2 (wE_op2 (wE_lenO (wE_var rfl (w_lenOL hm3 (wE_cst (w_div (by decide) (wE_cst (w_mul (mul_ok (by rw [List.length_map]; omega) (by decide)) (wEs_nil ?_))))))))))
    rw [List.length_map]
    have d1 : ((ns.flatten.length : Nat) : Int) / 3 = ((ns.flatten.length / 3 : Nat) : Int) := by omega
    have d2 : ((ns.flatten.length : Nat) : Int) / 3 * 2 = ((ns.flatten.length / 3 * 2 : Nat) : Int) := by omega
    rw [d2, d1]
    refine ⟨[some (.ref n), some (.ref q), some (.ref m), y, some (.int ((ns.flatten.length / 3 : Nat) : Int)), some (.int ((ns.flatten.length / 3 * 2 : Nat) : Int)), none, none], rfl, ?_⟩
    refine wSs_cons (wS_ret (wE_and (wE_cmp (wE_meth (wE_var rfl ⟨_, g_meth hn3 rfl rfl, wEs_cons (wE_var rfl (wEs_cons (wE_var rfl (wEs_nil (pack_part A hn3 (by omega) (by omega) ?_)))))⟩)))))
    refine wE_blt (wEs_cons (wE_slc (wE_var rfl (wE_var rfl ⟨_, rfl, wE_var rfl ⟨_, rfl, w_slcLs hm3 (wEs_nil (w_tupL (get_app _ _) ?_))⟩⟩))))
    refine w_eqSame (pl_cut g.tx _ _) (by decide) ⟨_, rfl, fun _ => ?_, fun z => (by cases z)⟩
    have b4 : Ap s (s3 ++ [Cell.lst (cut (ns.flatten.map D.str) (some ((ns.flatten.length / 3 : Nat) : Int)) (some ((ns.flatten.length / 3 * 2 : Nat) : Int)))]) := b2.trans (Ap.app _ _)
    generalize (s3 ++ [Cell.lst (cut (ns.flatten.map D.str) (some ((ns.flatten.length / 3 : Nat) : Int)) (some ((ns.flatten.length / 3 * 2 : Nat) : Int)))] : Store) = s4 at b4 ⊢
    have hn4 := b4.get hn1
    have hm4 := b4.get hm
    refine wE_cmp (wE_meth (wE_var rfl ⟨_, g_meth hn4 rfl rfl, wEs_cons (wE_cst (wEs_cons (wE_lenO (wE_var rfl (w_lenOL hm4 (wEs_nil ?_))))))⟩))
    rw [List.length_map]
    refine pack_part (i := 0) A hn4 (by omega) (Nat.le_refl _) ?_
    refine wE_blt (wEs_cons (wE_var rfl (wEs_nil (w_tupL hm4 ?_))))
    have ecut : cut (ns.flatten.map D.str) (some ((0 : Nat) : Int)) (some ((ns.flatten.length : Nat) : Int)) = ns.flatten.map D.str := by
      rw [cut_nn (by omega), List.drop_zero, List.take_of_length_le (by rw [List.length_map]; omega)]
    rw [ecut]
    exact w_eqSame (k := 1) (by simpa [plD] using pl_strs g.tx 0) (by decide) ⟨rfl, a.trans b4⟩
end
end Law

namespace Law
open RX PySem
instance (t : Tx) : Decidable (gT t) := by unfold gT; infer_instance
section
variable {F : Nat → Option Fn} (A : At F) {k : Nat} {st : Store} {P : D → Store → Prop}
include A
theorem aRoll : F 38 = some rollT := A._law_roll
theorem aOne : F 39 = some (oneO 38 [(23, 34)]) := A._law_one_of
theorem aDice : F 37 = some (diceO [(23, 34)]) := A._law_dice
def drawnT (st : Store) (n b c : Nat) (d : D) (s : Store) : Prop := (∃ t, d = .str t ∧ gT t) ∧ Kp n st s ∧ DS s n (b + c)
omit A in
theorem g4 : ∀ x : Int, 0 ≤ x → x < 9 → gT (strOfInt (x - 4)) := by
  intro x h0 h1
  have : x = 0 ∨ x = 1 ∨ x = 2 ∨ x = 3 ∨ x = 4 ∨ x = 5 ∨ x = 6 ∨ x = 7 ∨ x = 8 := by omega
  rcases this with rfl | rfl | rfl | rfl | rfl | rfl | rfl | rfl | rfl <;> decide +kernel
theorem law_number {n b : Nat} (D0 : DS st n b) (hb : b < 1000000) : (callN F (k + 4) 41 [.ref n] st).W (drawnT st n b 2) := by
  rw [W_call A._law_number rfl]
  simp only [List.map_cons, List.map_nil, List.cons_append, List.nil_append, List.length_cons, List.length_nil, List.replicate_succ, List.replicate_zero, Nat.reduceAdd, Nat.reduceSub, T._law_number]
  refine wSs_cons (wS_if (wT (wE_cmp (wE_call (wEs_cons (wE_var rfl (wEs_cons (wE_cst (wEs_nil ?_)))))))))
  refine W_mono (roll_W (aRoll A) D0 (by omega) (by omega) (by omega)) fun v s ⟨x, hv, x0, x1, hk, D1⟩ => ?_
  subst hv
  refine wE_cst (w_eq (eqD_int _ _ _) ⟨_, rfl, fun _ => ?_, fun _ => ?_⟩)
  · refine wSs_cons (wS_ret (wE_blt (wEs_cons (wE_call (wEs_cons (wE_var rfl ?_))))))
    (repeat' (first
    | (with_reducible refine wSs_cons ?_; try simp only [List.set_cons_zero, List.set_cons_succ]) | with_reducible refine wS_asg ?_ | with_reducible refine wS_if ?_ | with_reducible refine wS_ret ?_ | with_reducible refine wS_expr ?_ | with_reducible refine wS_asgS ?_ | with_reducible refine wS_par ?_ | with_reducible refine wS_asgT ?_ | with_reducible refine wS_for ?_ | (with_reducible refine wSs_nil ?_; try simp only [List.set_cons_zero, List.set_cons_succ])
    | with_reducible refine wE_cst ?_ | with_reducible refine wE_op2 ?_ | with_reducible refine wE_cmp ?_ | with_reducible refine wE_sub ?_ | with_reducible refine wE_call ?_ | with_reducible refine wE_blt ?_ | with_reducible refine wEs_cons ?_ | with_reducible refine wEs_nil ?_ | with_reducible refine wT ?_ | with_reducible refine wE_not ?_ | with_reducible refine wE_lst ?_ | with_reducible refine wE_tup ?_ | with_reducible refine wE_and ?_ | with_reducible refine wE_or ?_ | with_reducible refine wE_ite ?_ | with_reducible refine wE_cmp2 ?_ | with_reducible refine wE_lc ?_ | with_reducible refine wE_slc ?_ | with_reducible refine wE_neg ?_ | with_reducible refine wE_lzip ?_ | with_reducible refine wE_lstX ?_ | with_reducible refine wE_tupX ?_ | with_reducible refine wXs_nil ?_ | with_reducible refine wXs_cons ?_ | with_reducible refine wXs_star ?_ | with_reducible refine wS_whil ?_ | with_reducible refine w_lenT ?_ | with_reducible refine w_slcT ?_ | with_reducible refine w_tupT ?_ | with_reducible refine ⟨(_ : Int), rfl, ?_⟩
    | with_reducible refine ⟨(_ : Option Int), by rfl, ?_⟩ | with_reducible refine ⟨(_ : Src × Nat), g_srcS, ?_⟩ | with_reducible refine ⟨(_ : Src × Nat), g_srcE, ?_⟩ | with_reducible refine ⟨(_ : Src × Nat), g_srcT, ?_⟩ | with_reducible refine ⟨(_ : Src × Nat), g_srcL (by assumption), ?_⟩
     | with_reducible refine wE_at ?_ | with_reducible refine wE_prop ?_ | with_reducible refine wE_meth ?_ | with_reducible refine wE_lenO ?_ | with_reducible refine w_lenOT ?_ | with_reducible refine wS_setF ?_ | refine ⟨(_ : Nat), (_ : List (Nat × D)), (_ : D), g_ins (by assumption), rfl, rfl, ?_⟩ | refine ⟨(_ : Nat), (_ : List (Nat × D)), (_ : Nat), g_ins (by assumption), rfl, ?_⟩ | refine ⟨(_ : Nat), g_meth (by assumption) rfl rfl, ?_⟩ | with_reducible refine w_add ?_ | with_reducible refine w_sub ?_ | with_reducible refine w_leS ?_ | with_reducible refine w_lt ?_ | with_reducible refine w_le ?_ | with_reducible refine w_gt ?_ | with_reducible refine w_ge ?_ | with_reducible refine w_int ?_ | with_reducible refine w_intB ?_ | with_reducible refine w_abs ?_ | with_reducible refine w_ord ?_ | with_reducible refine w_min ?_ | with_reducible refine w_max ?_
    | refine wE_var rfl ?_
    | with_reducible refine w_eqS ?_ | with_reducible refine w_neS ?_ | with_reducible refine w_eq (eqD_bl _ _ _) ?_ | with_reducible refine w_ne (eqD_bl _ _ _) ?_
    | (with_reducible refine w_eqI (b := true) ?_ ?_; exact decide_eq_true (by omega)) | (with_reducible refine w_eqI (b := false) ?_ ?_; exact decide_eq_false (by omega)) | (with_reducible refine w_neI (b := true) ?_ ?_; exact decide_eq_true (by omega)) | (with_reducible refine w_neI (b := false) ?_ ?_; exact decide_eq_false (by omega))
    | with_reducible refine w_eq (eqD_int _ _ _) ?_ | with_reducible refine w_ne (eqD_int _ _ _) ?_
    | (with_reducible refine w_mod ?_ ?_; (first | omega | decide +kernel)) | (with_reducible refine w_mul ?_ ?_; exact mul_ok (by omega) (by first | omega | (split <;> omega))) | (with_reducible refine w_div ?_ ?_; (first | exact div_ok (by omega) (by omega) | decide +kernel)) | (with_reducible refine w_pow ?_ ?_; decide +kernel)
    | with_reducible refine ⟨(_ : Bool), g_eqI (b := true) (decide_eq_true (by omega)), ?_⟩ | with_reducible refine ⟨(_ : Bool), g_eqI (b := false) (decide_eq_false (by omega)), ?_⟩ | refine ⟨(_ : Bool), rfl, ?_⟩ | with_reducible refine w_isI_int ?_ | with_reducible refine w_isI_bool ?_ | with_reducible refine w_isI_str ?_ | with_reducible refine w_isI_tuple ?_ | with_reducible refine w_isI_list ?_ | with_reducible refine w_isS_int ?_ | with_reducible refine w_isS_bool ?_ | with_reducible refine w_isS_str ?_ | with_reducible refine w_isS_tuple ?_ | with_reducible refine w_isS_list ?_ | with_reducible refine w_isB_int ?_ | with_reducible refine w_isB_bool ?_ | with_reducible refine w_isB_str ?_ | with_reducible refine w_isB_tuple ?_ | with_reducible refine w_isB_list ?_ | with_reducible refine w_isN_int ?_ | with_reducible refine w_isN_bool ?_ | with_reducible refine w_isN_str ?_ | with_reducible refine w_isN_tuple ?_ | with_reducible refine w_isN_list ?_ | with_reducible refine w_isT_int ?_ | with_reducible refine w_isT_bool ?_ | with_reducible refine w_isT_str ?_ | with_reducible refine w_isT_tuple ?_ | with_reducible refine w_isT_list ?_
    | refine ⟨(_ : Option Int), rfl, ?_⟩ | refine ⟨(_ : D), g_subT rfl, ?_⟩ | refine ⟨(_ : D), g_subL (get_app _ _) rfl, ?_⟩ | refine ⟨(_ : D), g_subL (get_app2 _ _ _) rfl, ?_⟩ | refine ⟨(_ : D), g_subL (by assumption) rfl, ?_⟩ | refine ⟨(_ : D), g_subL (get_set (by assumption)) rfl, ?_⟩ | refine ⟨(_ : Store), g_set (by assumption) rfl, ?_⟩ | refine ⟨(_ : Store), g_set (get_set (by assumption)) rfl, ?_⟩
    | (with_reducible refine ⟨fun hh => ?_, fun hh => ?_⟩ <;> try exact absurd hh (by decide)) | refine ⟨by simp only [List.length_cons, List.length_nil]; decide, ?_⟩
    | simp only [List.set_cons_zero, List.set_cons_succ] | simp only [List.set_set]))
    have hne : s.length ≠ n := by have := D1.lt; omega
    refine W_mono (oneO_W (aOne A) (aRoll A) (D1.app _) (by omega) (get_app _ _) hne (by simp only [List.length_cons, List.length_nil]; decide) (by simp only [List.length_cons, List.length_nil]; decide)) fun v s2 ⟨hv, hk2, D2⟩ => ?_
    simp only [List.mem_cons, List.not_mem_nil, or_false] at hv
    have kk := hk.trans ((Ap.app s _).kp.trans hk2)
    rcases hv with rfl | rfl | rfl | rfl
    · exact wEs_nil (w_str (by decide +kernel) ⟨⟨_, rfl, by decide +kernel⟩, kk, D2⟩)
    · exact wEs_nil (w_str (by decide +kernel) ⟨⟨_, rfl, by decide +kernel⟩, kk, D2⟩)
    · exact wEs_nil (w_str (by decide +kernel) ⟨⟨_, rfl, by decide +kernel⟩, kk, D2⟩)
    · exact wEs_nil (w_str (by decide +kernel) ⟨⟨_, rfl, by decide +kernel⟩, kk, D2⟩)
  · refine wSs_nil (wSs_cons (wS_ret (wE_blt (wEs_cons (wE_op2 (wE_call (wEs_cons (wE_var rfl (wEs_cons (wE_cst (wEs_nil ?_)))))))))))
    refine W_mono (roll_W (aRoll A) D1 (by omega) (by omega) (by omega)) fun v s2 ⟨y, hv, y0, y1, hk2, D2⟩ => ?_
    subst hv
    refine wE_cst (w_sub (wEs_nil (w_str ?_ ⟨⟨_, rfl, g4 y y0 y1⟩, hk.trans hk2, D2⟩)))
    have : (y - 4).natAbs < 1267650600228229401496703205376 := by omega
    have := log_lt this
    omega
theorem law_text {n b : Nat} (D0 : DS st n b) (hb : b < 900000) : (callN F (k + 5) 40 [.ref n] st).W (drawnT st n b 3) := by
  rw [W_call A._law_text rfl]
  simp only [List.map_cons, List.map_nil, List.cons_append, List.nil_append, List.length_cons, List.length_nil, List.replicate_succ, List.replicate_zero, Nat.reduceAdd, Nat.reduceSub, T._law_text]
  (repeat' (first
    | (with_reducible refine wSs_cons ?_; try simp only [List.set_cons_zero, List.set_cons_succ]) | with_reducible refine wS_asg ?_ | with_reducible refine wS_if ?_ | with_reducible refine wS_ret ?_ | with_reducible refine wS_expr ?_ | with_reducible refine wS_asgS ?_ | with_reducible refine wS_par ?_ | with_reducible refine wS_asgT ?_ | with_reducible refine wS_for ?_ | (with_reducible refine wSs_nil ?_; try simp only [List.set_cons_zero, List.set_cons_succ])
    | with_reducible refine wE_cst ?_ | with_reducible refine wE_op2 ?_ | with_reducible refine wE_cmp ?_ | with_reducible refine wE_sub ?_ | with_reducible refine wE_call ?_ | with_reducible refine wE_blt ?_ | with_reducible refine wEs_cons ?_ | with_reducible refine wEs_nil ?_ | with_reducible refine wT ?_ | with_reducible refine wE_not ?_ | with_reducible refine wE_lst ?_ | with_reducible refine wE_tup ?_ | with_reducible refine wE_and ?_ | with_reducible refine wE_or ?_ | with_reducible refine wE_ite ?_ | with_reducible refine wE_cmp2 ?_ | with_reducible refine wE_lc ?_ | with_reducible refine wE_slc ?_ | with_reducible refine wE_neg ?_ | with_reducible refine wE_lzip ?_ | with_reducible refine wE_lstX ?_ | with_reducible refine wE_tupX ?_ | with_reducible refine wXs_nil ?_ | with_reducible refine wXs_cons ?_ | with_reducible refine wXs_star ?_ | with_reducible refine wS_whil ?_ | with_reducible refine w_lenT ?_ | with_reducible refine w_slcT ?_ | with_reducible refine w_tupT ?_ | with_reducible refine ⟨(_ : Int), rfl, ?_⟩
    | with_reducible refine ⟨(_ : Option Int), by rfl, ?_⟩ | with_reducible refine ⟨(_ : Src × Nat), g_srcS, ?_⟩ | with_reducible refine ⟨(_ : Src × Nat), g_srcE, ?_⟩ | with_reducible refine ⟨(_ : Src × Nat), g_srcT, ?_⟩ | with_reducible refine ⟨(_ : Src × Nat), g_srcL (by assumption), ?_⟩
     | with_reducible refine wE_at ?_ | with_reducible refine wE_prop ?_ | with_reducible refine wE_meth ?_ | with_reducible refine wE_lenO ?_ | with_reducible refine w_lenOT ?_ | with_reducible refine wS_setF ?_ | refine ⟨(_ : Nat), (_ : List (Nat × D)), (_ : D), g_ins (by assumption), rfl, rfl, ?_⟩ | refine ⟨(_ : Nat), (_ : List (Nat × D)), (_ : Nat), g_ins (by assumption), rfl, ?_⟩ | refine ⟨(_ : Nat), g_meth (by assumption) rfl rfl, ?_⟩ | with_reducible refine w_add ?_ | with_reducible refine w_sub ?_ | with_reducible refine w_leS ?_ | with_reducible refine w_lt ?_ | with_reducible refine w_le ?_ | with_reducible refine w_gt ?_ | with_reducible refine w_ge ?_ | with_reducible refine w_int ?_ | with_reducible refine w_intB ?_ | with_reducible refine w_abs ?_ | with_reducible refine w_ord ?_ | with_reducible refine w_min ?_ | with_reducible refine w_max ?_
    | refine wE_var rfl ?_
    | with_reducible refine w_eqS ?_ | with_reducible refine w_neS ?_ | with_reducible refine w_eq (eqD_bl _ _ _) ?_ | with_reducible refine w_ne (eqD_bl _ _ _) ?_
    | (with_reducible refine w_eqI (b := true) ?_ ?_; exact decide_eq_true (by omega)) | (with_reducible refine w_eqI (b := false) ?_ ?_; exact decide_eq_false (by omega)) | (with_reducible refine w_neI (b := true) ?_ ?_; exact decide_eq_true (by omega)) | (with_reducible refine w_neI (b := false) ?_ ?_; exact decide_eq_false (by omega))
    | with_reducible refine w_eq (eqD_int _ _ _) ?_ | with_reducible refine w_ne (eqD_int _ _ _) ?_
    | (with_reducible refine w_mod ?_ ?_; (first | omega | decide +kernel)) | (with_reducible refine w_mul ?_ ?_; exact mul_ok (by omega) (by first | omega | (split <;> omega))) | (with_reducible refine w_div ?_ ?_; (first | exact div_ok (by omega) (by omega) | decide +kernel)) | (with_reducible refine w_pow ?_ ?_; decide +kernel)
    | with_reducible refine ⟨(_ : Bool), g_eqI (b := true) (decide_eq_true (by omega)), ?_⟩ | with_reducible refine ⟨(_ : Bool), g_eqI (b := false) (decide_eq_false (by omega)), ?_⟩ | refine ⟨(_ : Bool), rfl, ?_⟩ | with_reducible refine w_isI_int ?_ | with_reducible refine w_isI_bool ?_ | with_reducible refine w_isI_str ?_ | with_reducible refine w_isI_tuple ?_ | with_reducible refine w_isI_list ?_ | with_reducible refine w_isS_int ?_ | with_reducible refine w_isS_bool ?_ | with_reducible refine w_isS_str ?_ | with_reducible refine w_isS_tuple ?_ | with_reducible refine w_isS_list ?_ | with_reducible refine w_isB_int ?_ | with_reducible refine w_isB_bool ?_ | with_reducible refine w_isB_str ?_ | with_reducible refine w_isB_tuple ?_ | with_reducible refine w_isB_list ?_ | with_reducible refine w_isN_int ?_ | with_reducible refine w_isN_bool ?_ | with_reducible refine w_isN_str ?_ | with_reducible refine w_isN_tuple ?_ | with_reducible refine w_isN_list ?_ | with_reducible refine w_isT_int ?_ | with_reducible refine w_isT_bool ?_ | with_reducible refine w_isT_str ?_ | with_reducible refine w_isT_tuple ?_ | with_reducible refine w_isT_list ?_
    | refine ⟨(_ : Option Int), rfl, ?_⟩ | refine ⟨(_ : D), g_subT rfl, ?_⟩ | refine ⟨(_ : D), g_subL (get_app _ _) rfl, ?_⟩ | refine ⟨(_ : D), g_subL (get_app2 _ _ _) rfl, ?_⟩ | refine ⟨(_ : D), g_subL (by assumption) rfl, ?_⟩ | refine ⟨(_ : D), g_subL (get_set (by assumption)) rfl, ?_⟩ | refine ⟨(_ : Store), g_set (by assumption) rfl, ?_⟩ | refine ⟨(_ : Store), g_set (get_set (by assumption)) rfl, ?_⟩
    | (with_reducible refine ⟨fun hh => ?_, fun hh => ?_⟩ <;> try exact absurd hh (by decide)) | refine ⟨by simp only [List.length_cons, List.length_nil]; decide, ?_⟩
    | simp only [List.set_cons_zero, List.set_cons_succ] | simp only [List.set_set]))
  have hne : st.length ≠ n := by have := D0.lt; omega
  refine W_mono (roll_W (aRoll A) (D0.app _) (by omega) (by omega) (by omega)) fun v s ⟨x, hv, x0, x1, hk, D1⟩ => ?_
  subst hv
  have hk0 := (Ap.app st [Cell.lst [D.str [], D.str [120], D.str [97, 32, 98], D.str [107, 59, 58], D.str [55, 32, 56], D.str [108, 111, 110, 103, 101, 114, 32, 116, 104, 97, 110, 32, 97, 108, 108, 32, 111, 102, 32, 116, 104, 101, 32, 111, 116, 104, 101, 114, 115]]]).kp (n := n)
  have hl := hk.get (get_app st _) hne
  refine wE_cst (w_eq (eqD_int _ _ _) ⟨_, rfl, fun _ => ?_, fun _ => ?_⟩)
  · refine wE_call (wEs_cons (wE_var rfl (wEs_cons (wE_var rfl (wEs_nil ?_)))))
    refine W_mono (oneO_W (aOne A) (aRoll A) D1 (by omega) hl hne (by simp only [List.length_cons, List.length_nil]; decide) (by simp only [List.length_cons, List.length_nil]; decide)) fun v s2 ⟨hv, hk2, D2⟩ => ?_
    simp only [List.mem_cons, List.not_mem_nil, or_false] at hv
    have kk := hk0.trans (hk.trans hk2)
    rcases hv with rfl | rfl | rfl | rfl | rfl | rfl
    all_goals exact ⟨⟨_, rfl, by decide +kernel⟩, kk, D2.mono (by omega)⟩
  · refine wE_call (wEs_cons (wE_var rfl (wEs_nil ?_)))
    exact W_mono (law_number A D1 (by omega)) fun d s2 ⟨ht, hk2, D2⟩ => ⟨ht, hk0.trans (hk.trans hk2), (show DS s2 n (b + 3) from DS.mono (b := b + 1 + 2) D2 (by omega))⟩
theorem law_some {n b : Nat} (D0 : DS st n b) (hb : b < 100000) : (callN F (k + 6) 42 [.ref n, .gl 40, .int 4] st).W fun d s => ∃ r ts, d = .ref r ∧ r ≠ n ∧ Kp n st s ∧ s[r]? = some (.lst (ts.map D.str)) ∧ gTs ts ∧ 1 ≤ ts.length ∧ ts.length ≤ 4 ∧ DS s n (b + 13) := by
  rw [W_call A._law_some rfl]
  simp only [List.map_cons, List.map_nil, List.cons_append, List.nil_append, List.length_cons, List.length_nil, List.replicate_succ, List.replicate_zero, Nat.reduceAdd, Nat.reduceSub, T._law_some]
  (repeat' (first
    | (with_reducible refine wSs_cons ?_; try simp only [List.set_cons_zero, List.set_cons_succ]) | with_reducible refine wS_asg ?_ | with_reducible refine wS_if ?_ | with_reducible refine wS_ret ?_ | with_reducible refine wS_expr ?_ | with_reducible refine wS_asgS ?_ | with_reducible refine wS_par ?_ | with_reducible refine wS_asgT ?_ | with_reducible refine wS_for ?_ | (with_reducible refine wSs_nil ?_; try simp only [List.set_cons_zero, List.set_cons_succ])
    | with_reducible refine wE_cst ?_ | with_reducible refine wE_op2 ?_ | with_reducible refine wE_cmp ?_ | with_reducible refine wE_sub ?_ | with_reducible refine wE_call ?_ | with_reducible refine wE_blt ?_ | with_reducible refine wEs_cons ?_ | with_reducible refine wEs_nil ?_ | with_reducible refine wT ?_ | with_reducible refine wE_not ?_ | with_reducible refine wE_lst ?_ | with_reducible refine wE_tup ?_ | with_reducible refine wE_and ?_ | with_reducible refine wE_or ?_ | with_reducible refine wE_ite ?_ | with_reducible refine wE_cmp2 ?_ | with_reducible refine wE_lc ?_ | with_reducible refine wE_slc ?_ | with_reducible refine wE_neg ?_ | with_reducible refine wE_lzip ?_ | with_reducible refine wE_lstX ?_ | with_reducible refine wE_tupX ?_ | with_reducible refine wXs_nil ?_ | with_reducible refine wXs_cons ?_ | with_reducible refine wXs_star ?_ | with_reducible refine wS_whil ?_ | with_reducible refine w_lenT ?_ | with_reducible refine w_slcT ?_ | with_reducible refine w_tupT ?_ | with_reducible refine ⟨(_ : Int), rfl, ?_⟩
    | with_reducible refine ⟨(_ : Option Int), by rfl, ?_⟩ | with_reducible refine ⟨(_ : Src × Nat), g_srcS, ?_⟩ | with_reducible refine ⟨(_ : Src × Nat), g_srcE, ?_⟩ | with_reducible refine ⟨(_ : Src × Nat), g_srcT, ?_⟩ | with_reducible refine ⟨(_ : Src × Nat), g_srcL (by assumption), ?_⟩
     | with_reducible refine wE_at ?_ | with_reducible refine wE_prop ?_ | with_reducible refine wE_meth ?_ | with_reducible refine wE_lenO ?_ | with_reducible refine w_lenOT ?_ | with_reducible refine wS_setF ?_ | refine ⟨(_ : Nat), (_ : List (Nat × D)), (_ : D), g_ins (by assumption), rfl, rfl, ?_⟩ | refine ⟨(_ : Nat), (_ : List (Nat × D)), (_ : Nat), g_ins (by assumption), rfl, ?_⟩ | refine ⟨(_ : Nat), g_meth (by assumption) rfl rfl, ?_⟩ | with_reducible refine w_add ?_ | with_reducible refine w_sub ?_ | with_reducible refine w_leS ?_ | with_reducible refine w_lt ?_ | with_reducible refine w_le ?_ | with_reducible refine w_gt ?_ | with_reducible refine w_ge ?_ | with_reducible refine w_int ?_ | with_reducible refine w_intB ?_ | with_reducible refine w_abs ?_ | with_reducible refine w_ord ?_ | with_reducible refine w_min ?_ | with_reducible refine w_max ?_
    | refine wE_var rfl ?_
    | with_reducible refine w_eqS ?_ | with_reducible refine w_neS ?_ | with_reducible refine w_eq (eqD_bl _ _ _) ?_ | with_reducible refine w_ne (eqD_bl _ _ _) ?_
    | (with_reducible refine w_eqI (b := true) ?_ ?_; exact decide_eq_true (by omega)) | (with_reducible refine w_eqI (b := false) ?_ ?_; exact decide_eq_false (by omega)) | (with_reducible refine w_neI (b := true) ?_ ?_; exact decide_eq_true (by omega)) | (with_reducible refine w_neI (b := false) ?_ ?_; exact decide_eq_false (by omega))
    | with_reducible refine w_eq (eqD_int _ _ _) ?_ | with_reducible refine w_ne (eqD_int _ _ _) ?_
    | (with_reducible refine w_mod ?_ ?_; (first | omega | decide +kernel)) | (with_reducible refine w_mul ?_ ?_; exact mul_ok (by omega) (by first | omega | (split <;> omega))) | (with_reducible refine w_div ?_ ?_; (first | exact div_ok (by omega) (by omega) | decide +kernel)) | (with_reducible refine w_pow ?_ ?_; decide +kernel)
    | with_reducible refine ⟨(_ : Bool), g_eqI (b := true) (decide_eq_true (by omega)), ?_⟩ | with_reducible refine ⟨(_ : Bool), g_eqI (b := false) (decide_eq_false (by omega)), ?_⟩ | refine ⟨(_ : Bool), rfl, ?_⟩ | with_reducible refine w_isI_int ?_ | with_reducible refine w_isI_bool ?_ | with_reducible refine w_isI_str ?_ | with_reducible refine w_isI_tuple ?_ | with_reducible refine w_isI_list ?_ | with_reducible refine w_isS_int ?_ | with_reducible refine w_isS_bool ?_ | with_reducible refine w_isS_str ?_ | with_reducible refine w_isS_tuple ?_ | with_reducible refine w_isS_list ?_ | with_reducible refine w_isB_int ?_ | with_reducible refine w_isB_bool ?_ | with_reducible refine w_isB_str ?_ | with_reducible refine w_isB_tuple ?_ | with_reducible refine w_isB_list ?_ | with_reducible refine w_isN_int ?_ | with_reducible refine w_isN_bool ?_ | with_reducible refine w_isN_str ?_ | with_reducible refine w_isN_tuple ?_ | with_reducible refine w_isN_list ?_ | with_reducible refine w_isT_int ?_ | with_reducible refine w_isT_bool ?_ | with_reducible refine w_isT_str ?_ | with_reducible refine w_isT_tuple ?_ | with_reducible refine w_isT_list ?_
    | refine ⟨(_ : Option Int), rfl, ?_⟩ | refine ⟨(_ : D), g_subT rfl, ?_⟩ | refine ⟨(_ : D), g_subL (get_app _ _) rfl, ?_⟩ | refine ⟨(_ : D), g_subL (get_app2 _ _ _) rfl, ?_⟩ | refine ⟨(_ : D), g_subL (by assumption) rfl, ?_⟩ | refine ⟨(_ : D), g_subL (get_set (by assumption)) rfl, ?_⟩ | refine ⟨(_ : Store), g_set (by assumption) rfl, ?_⟩ | refine ⟨(_ : Store), g_set (get_set (by assumption)) rfl, ?_⟩
    | (with_reducible refine ⟨fun hh => ?_, fun hh => ?_⟩ <;> try exact absurd hh (by decide)) | refine ⟨by simp only [List.length_cons, List.length_nil]; decide, ?_⟩
    | simp only [List.set_cons_zero, List.set_cons_succ] | simp only [List.set_set]))
  refine W_mono (roll_W (aRoll A) D0 (by omega) (by omega) (by omega)) fun v s ⟨x, hv, x0, x1, hk, D1⟩ => ?_
  subst hv
  refine w_add (wEs_nil ⟨_, g_rng (by omega), ?_⟩)
  have hne : s.length ≠ n := by have := D1.lt; omega
  refine lc_W (n := (1 + x).toNat) (fun i acc s' => ∃ ts : List Tx, acc = ts.map D.str ∧ gTs ts ∧ ts.length = i ∧ Kp n s s' ∧ DS s' n (b + 1 + 3 * i)) ⟨[], rfl, fun t ht => by simp at ht, rfl, (Ap.app _ _).kp, D1.app _⟩ (get_app _ _) ?_ ?_
  · rintro i acc s' hi ⟨ts, rfl, g, hlen, k1, D2⟩ hc
    refine ⟨_, f_rng hi, ?_⟩
    refine lcT_W (by rfl) (wE_callv rfl (wEs_cons (wE_var rfl (wEs_nil ?_))))
    refine W_mono (law_text A D2 (by omega)) fun d s2 ⟨⟨t, ed, gt⟩, k2, D3⟩ => ?_
    subst ed
    have hlt : s.length < s'.length := lt_of_get hc
    refine ⟨k2.get hc hne, by rw [List.length_map, SLv]; omega, ts ++ [t], by simp, fun u hu => ?_, by simp [hlen], (k1.trans k2).set (Nat.le_refl _), (D3.set hne).mono (by omega)⟩
    rcases List.mem_append.mp hu with hu | hu
    · exact g u hu
    · rw [List.mem_singleton.mp hu]; exact gt
  · rintro acc s' ⟨ts, rfl, g, hlen, k1, D2⟩ hc
    exact ⟨f_rngE, s.length, ts, rfl, hne, hk.trans k1, hc, g, by omega, by omega, D2.mono (by omega)⟩
theorem law_numbers {n b : Nat} (D0 : DS st n b) (hb : b < 100000) : (callN F (k + 3) 44 [.ref n] st).W fun d s => ∃ r mT mS : Nat, d = .ref r ∧ r ≠ n ∧ Kp n st s ∧ s[r]? = some (.lst [.int mT, .int mS]) ∧ 1 ≤ mT ∧ mT ≤ 64 ∧ 1 ≤ mS ∧ mS ≤ 1000 ∧ DS s n (b + 2) := by
  rw [W_call A._law_drawn_numbers rfl]
  simp only [List.map_cons, List.map_nil, List.cons_append, List.nil_append, List.length_cons, List.length_nil, List.replicate_succ, List.replicate_zero, Nat.reduceAdd, Nat.reduceSub, T._law_drawn_numbers]
  (repeat' (first
    | (with_reducible refine wSs_cons ?_; try simp only [List.set_cons_zero, List.set_cons_succ]) | with_reducible refine wS_asg ?_ | with_reducible refine wS_if ?_ | with_reducible refine wS_ret ?_ | with_reducible refine wS_expr ?_ | with_reducible refine wS_asgS ?_ | with_reducible refine wS_par ?_ | with_reducible refine wS_asgT ?_ | with_reducible refine wS_for ?_ | (with_reducible refine wSs_nil ?_; try simp only [List.set_cons_zero, List.set_cons_succ])
    | with_reducible refine wE_cst ?_ | with_reducible refine wE_op2 ?_ | with_reducible refine wE_cmp ?_ | with_reducible refine wE_sub ?_ | with_reducible refine wE_call ?_ | with_reducible refine wE_blt ?_ | with_reducible refine wEs_cons ?_ | with_reducible refine wEs_nil ?_ | with_reducible refine wT ?_ | with_reducible refine wE_not ?_ | with_reducible refine wE_lst ?_ | with_reducible refine wE_tup ?_ | with_reducible refine wE_and ?_ | with_reducible refine wE_or ?_ | with_reducible refine wE_ite ?_ | with_reducible refine wE_cmp2 ?_ | with_reducible refine wE_lc ?_ | with_reducible refine wE_slc ?_ | with_reducible refine wE_neg ?_ | with_reducible refine wE_lzip ?_ | with_reducible refine wE_lstX ?_ | with_reducible refine wE_tupX ?_ | with_reducible refine wXs_nil ?_ | with_reducible refine wXs_cons ?_ | with_reducible refine wXs_star ?_ | with_reducible refine wS_whil ?_ | with_reducible refine w_lenT ?_ | with_reducible refine w_slcT ?_ | with_reducible refine w_tupT ?_ | with_reducible refine ⟨(_ : Int), rfl, ?_⟩
    | with_reducible refine ⟨(_ : Option Int), by rfl, ?_⟩ | with_reducible refine ⟨(_ : Src × Nat), g_srcS, ?_⟩ | with_reducible refine ⟨(_ : Src × Nat), g_srcE, ?_⟩ | with_reducible refine ⟨(_ : Src × Nat), g_srcT, ?_⟩ | with_reducible refine ⟨(_ : Src × Nat), g_srcL (by assumption), ?_⟩
     | with_reducible refine wE_at ?_ | with_reducible refine wE_prop ?_ | with_reducible refine wE_meth ?_ | with_reducible refine wE_lenO ?_ | with_reducible refine w_lenOT ?_ | with_reducible refine wS_setF ?_ | refine ⟨(_ : Nat), (_ : List (Nat × D)), (_ : D), g_ins (by assumption), rfl, rfl, ?_⟩ | refine ⟨(_ : Nat), (_ : List (Nat × D)), (_ : Nat), g_ins (by assumption), rfl, ?_⟩ | refine ⟨(_ : Nat), g_meth (by assumption) rfl rfl, ?_⟩ | with_reducible refine w_add ?_ | with_reducible refine w_sub ?_ | with_reducible refine w_leS ?_ | with_reducible refine w_lt ?_ | with_reducible refine w_le ?_ | with_reducible refine w_gt ?_ | with_reducible refine w_ge ?_ | with_reducible refine w_int ?_ | with_reducible refine w_intB ?_ | with_reducible refine w_abs ?_ | with_reducible refine w_ord ?_ | with_reducible refine w_min ?_ | with_reducible refine w_max ?_
    | refine wE_var rfl ?_
    | with_reducible refine w_eqS ?_ | with_reducible refine w_neS ?_ | with_reducible refine w_eq (eqD_bl _ _ _) ?_ | with_reducible refine w_ne (eqD_bl _ _ _) ?_
    | (with_reducible refine w_eqI (b := true) ?_ ?_; exact decide_eq_true (by omega)) | (with_reducible refine w_eqI (b := false) ?_ ?_; exact decide_eq_false (by omega)) | (with_reducible refine w_neI (b := true) ?_ ?_; exact decide_eq_true (by omega)) | (with_reducible refine w_neI (b := false) ?_ ?_; exact decide_eq_false (by omega))
    | with_reducible refine w_eq (eqD_int _ _ _) ?_ | with_reducible refine w_ne (eqD_int _ _ _) ?_
    | (with_reducible refine w_mod ?_ ?_; (first | omega | decide +kernel)) | (with_reducible refine w_mul ?_ ?_; exact mul_ok (by omega) (by first | omega | (split <;> omega))) | (with_reducible refine w_div ?_ ?_; (first | exact div_ok (by omega) (by omega) | decide +kernel)) | (with_reducible refine w_pow ?_ ?_; decide +kernel)
    | with_reducible refine ⟨(_ : Bool), g_eqI (b := true) (decide_eq_true (by omega)), ?_⟩ | with_reducible refine ⟨(_ : Bool), g_eqI (b := false) (decide_eq_false (by omega)), ?_⟩ | refine ⟨(_ : Bool), rfl, ?_⟩ | with_reducible refine w_isI_int ?_ | with_reducible refine w_isI_bool ?_ | with_reducible refine w_isI_str ?_ | with_reducible refine w_isI_tuple ?_ | with_reducible refine w_isI_list ?_ | with_reducible refine w_isS_int ?_ | with_reducible refine w_isS_bool ?_ | with_reducible refine w_isS_str ?_ | with_reducible refine w_isS_tuple ?_ | with_reducible refine w_isS_list ?_ | with_reducible refine w_isB_int ?_ | with_reducible refine w_isB_bool ?_ | with_reducible refine w_isB_str ?_ | with_reducible refine w_isB_tuple ?_ | with_reducible refine w_isB_list ?_ | with_reducible refine w_isN_int ?_ | with_reducible refine w_isN_bool ?_ | with_reducible refine w_isN_str ?_ | with_reducible refine w_isN_tuple ?_ | with_reducible refine w_isN_list ?_ | with_reducible refine w_isT_int ?_ | with_reducible refine w_isT_bool ?_ | with_reducible refine w_isT_str ?_ | with_reducible refine w_isT_tuple ?_ | with_reducible refine w_isT_list ?_
    | refine ⟨(_ : Option Int), rfl, ?_⟩ | refine ⟨(_ : D), g_subT rfl, ?_⟩ | refine ⟨(_ : D), g_subL (get_app _ _) rfl, ?_⟩ | refine ⟨(_ : D), g_subL (get_app2 _ _ _) rfl, ?_⟩ | refine ⟨(_ : D), g_subL (by assumption) rfl, ?_⟩ | refine ⟨(_ : D), g_subL (get_set (by assumption)) rfl, ?_⟩ | refine ⟨(_ : Store), g_set (by assumption) rfl, ?_⟩ | refine ⟨(_ : Store), g_set (get_set (by assumption)) rfl, ?_⟩
    | (with_reducible refine ⟨fun hh => ?_, fun hh => ?_⟩ <;> try exact absurd hh (by decide)) | refine ⟨by simp only [List.length_cons, List.length_nil]; decide, ?_⟩
    | simp only [List.set_cons_zero, List.set_cons_succ] | simp only [List.set_set]))
  have hne : st.length ≠ n := by have := D0.lt; omega
  refine W_mono (oneO_W (aOne A) (aRoll A) (D0.app _) (by omega) (get_app _ _) hne (by simp only [List.length_cons, List.length_nil]; decide) (by simp only [List.length_cons, List.length_nil]; decide)) fun v s ⟨hv, k1, D1⟩ => ?_
  have h1 : ∃ mT : Nat, v = .int mT ∧ 1 ≤ mT ∧ mT ≤ 64 := by
    simp only [List.mem_cons, List.not_mem_nil, or_false] at hv
    rcases hv with rfl | rfl | rfl | rfl | rfl | rfl
    · exact ⟨1, rfl, by decide, by decide⟩
    · exact ⟨2, rfl, by decide, by decide⟩
    · exact ⟨2, rfl, by decide, by decide⟩
    · exact ⟨3, rfl, by decide, by decide⟩
    · exact ⟨4, rfl, by decide, by decide⟩
    · exact ⟨8, rfl, by decide, by decide⟩
  obtain ⟨mT, rfl, t1, t2⟩ := h1
  (repeat' (first
    | (with_reducible refine wSs_cons ?_; try simp only [List.set_cons_zero, List.set_cons_succ]) | with_reducible refine wS_asg ?_ | with_reducible refine wS_if ?_ | with_reducible refine wS_ret ?_ | with_reducible refine wS_expr ?_ | with_reducible refine wS_asgS ?_ | with_reducible refine wS_par ?_ | with_reducible refine wS_asgT ?_ | with_reducible refine wS_for ?_ | (with_reducible refine wSs_nil ?_; try simp only [List.set_cons_zero, List.set_cons_succ])
    | with_reducible refine wE_cst ?_ | with_reducible refine wE_op2 ?_ | with_reducible refine wE_cmp ?_ | with_reducible refine wE_sub ?_ | with_reducible refine wE_call ?_ | with_reducible refine wE_blt ?_ | with_reducible refine wEs_cons ?_ | with_reducible refine wEs_nil ?_ | with_reducible refine wT ?_ | with_reducible refine wE_not ?_ | with_reducible refine wE_lst ?_ | with_reducible refine wE_tup ?_ | with_reducible refine wE_and ?_ | with_reducible refine wE_or ?_ | with_reducible refine wE_ite ?_ | with_reducible refine wE_cmp2 ?_ | with_reducible refine wE_lc ?_ | with_reducible refine wE_slc ?_ | with_reducible refine wE_neg ?_ | with_reducible refine wE_lzip ?_ | with_reducible refine wE_lstX ?_ | with_reducible refine wE_tupX ?_ | with_reducible refine wXs_nil ?_ | with_reducible refine wXs_cons ?_ | with_reducible refine wXs_star ?_ | with_reducible refine wS_whil ?_ | with_reducible refine w_lenT ?_ | with_reducible refine w_slcT ?_ | with_reducible refine w_tupT ?_ | with_reducible refine ⟨(_ : Int), rfl, ?_⟩
    | with_reducible refine ⟨(_ : Option Int), by rfl, ?_⟩ | with_reducible refine ⟨(_ : Src × Nat), g_srcS, ?_⟩ | with_reducible refine ⟨(_ : Src × Nat), g_srcE, ?_⟩ | with_reducible refine ⟨(_ : Src × Nat), g_srcT, ?_⟩ | with_reducible refine ⟨(_ : Src × Nat), g_srcL (by assumption), ?_⟩
     | with_reducible refine wE_at ?_ | with_reducible refine wE_prop ?_ | with_reducible refine wE_meth ?_ | with_reducible refine wE_lenO ?_ | with_reducible refine w_lenOT ?_ | with_reducible refine wS_setF ?_ | refine ⟨(_ : Nat), (_ : List (Nat × D)), (_ : D), g_ins (by assumption), rfl, rfl, ?_⟩ | refine ⟨(_ : Nat), (_ : List (Nat × D)), (_ : Nat), g_ins (by assumption), rfl, ?_⟩ | refine ⟨(_ : Nat), g_meth (by assumption) rfl rfl, ?_⟩ | with_reducible refine w_add ?_ | with_reducible refine w_sub ?_ | with_reducible refine w_leS ?_ | with_reducible refine w_lt ?_ | with_reducible refine w_le ?_ | with_reducible refine w_gt ?_ | with_reducible refine w_ge ?_ | with_reducible refine w_int ?_ | with_reducible refine w_intB ?_ | with_reducible refine w_abs ?_ | with_reducible refine w_ord ?_ | with_reducible refine w_min ?_ | with_reducible refine w_max ?_
    | refine wE_var rfl ?_
    | with_reducible refine w_eqS ?_ | with_reducible refine w_neS ?_ | with_reducible refine w_eq (eqD_bl _ _ _) ?_ | with_reducible refine w_ne (eqD_bl _ _ _) ?_
    | (with_reducible refine w_eqI (b := true) ?_ ?_; exact decide_eq_true (by omega)) | (with_reducible refine w_eqI (b := false) ?_ ?_; exact decide_eq_false (by omega)) | (with_reducible refine w_neI (b := true) ?_ ?_; exact decide_eq_true (by omega)) | (with_reducible refine w_neI (b := false) ?_ ?_; exact decide_eq_false (by omega))
    | with_reducible refine w_eq (eqD_int _ _ _) ?_ | with_reducible refine w_ne (eqD_int _ _ _) ?_
    | (with_reducible refine w_mod ?_ ?_; (first | omega | decide +kernel)) | (with_reducible refine w_mul ?_ ?_; exact mul_ok (by omega) (by first | omega | (split <;> omega))) | (with_reducible refine w_div ?_ ?_; (first | exact div_ok (by omega) (by omega) | decide +kernel)) | (with_reducible refine w_pow ?_ ?_; decide +kernel)
    | with_reducible refine ⟨(_ : Bool), g_eqI (b := true) (decide_eq_true (by omega)), ?_⟩ | with_reducible refine ⟨(_ : Bool), g_eqI (b := false) (decide_eq_false (by omega)), ?_⟩ | refine ⟨(_ : Bool), rfl, ?_⟩ | with_reducible refine w_isI_int ?_ | with_reducible refine w_isI_bool ?_ | with_reducible refine w_isI_str ?_ | with_reducible refine w_isI_tuple ?_ | with_reducible refine w_isI_list ?_ | with_reducible refine w_isS_int ?_ | with_reducible refine w_isS_bool ?_ | with_reducible refine w_isS_str ?_ | with_reducible refine w_isS_tuple ?_ | with_reducible refine w_isS_list ?_ | with_reducible refine w_isB_int ?_ | with_reducible refine w_isB_bool ?_ | with_reducible refine w_isB_str ?_ | with_reducible refine w_isB_tuple ?_ | with_reducible refine w_isB_list ?_ | with_reducible refine w_isN_int ?_ | with_reducible refine w_isN_bool ?_ | with_reducible refine w_isN_str ?_ | with_reducible refine w_isN_tuple ?_ | with_reducible refine w_isN_list ?_ | with_reducible refine w_isT_int ?_ | with_reducible refine w_isT_bool ?_ | with_reducible refine w_isT_str ?_ | with_reducible refine w_isT_tuple ?_ | with_reducible refine w_isT_list ?_
    | refine ⟨(_ : Option Int), rfl, ?_⟩ | refine ⟨(_ : D), g_subT rfl, ?_⟩ | refine ⟨(_ : D), g_subL (get_app _ _) rfl, ?_⟩ | refine ⟨(_ : D), g_subL (get_app2 _ _ _) rfl, ?_⟩ | refine ⟨(_ : D), g_subL (by assumption) rfl, ?_⟩ | refine ⟨(_ : D), g_subL (get_set (by assumption)) rfl, ?_⟩ | refine ⟨(_ : Store), g_set (by assumption) rfl, ?_⟩ | refine ⟨(_ : Store), g_set (get_set (by assumption)) rfl, ?_⟩
    | (with_reducible refine ⟨fun hh => ?_, fun hh => ?_⟩ <;> try exact absurd hh (by decide)) | refine ⟨by simp only [List.length_cons, List.length_nil]; decide, ?_⟩
    | simp only [List.set_cons_zero, List.set_cons_succ] | simp only [List.set_set]))
  have hne2 : s.length ≠ n := by have := D1.lt; omega
  refine W_mono (oneO_W (aOne A) (aRoll A) (D1.app _) (by omega) (get_app _ _) hne2 (by simp only [List.length_cons, List.length_nil]; decide) (by simp only [List.length_cons, List.length_nil]; decide)) fun v s2 ⟨hv, k2, D2⟩ => ?_
  have h1 : ∃ mS : Nat, v = .int mS ∧ 1 ≤ mS ∧ mS ≤ 1000 := by
    simp only [List.mem_cons, List.not_mem_nil, or_false] at hv
    rcases hv with rfl | rfl | rfl | rfl | rfl | rfl
    · exact ⟨1, rfl, by decide, by decide⟩
    · exact ⟨4, rfl, by decide, by decide⟩
    · exact ⟨6, rfl, by decide, by decide⟩
    · exact ⟨9, rfl, by decide, by decide⟩
    · exact ⟨30, rfl, by decide, by decide⟩
    · exact ⟨64, rfl, by decide, by decide⟩
  obtain ⟨mS, rfl, u1, u2⟩ := h1
  refine wEs_nil ⟨by simp only [List.length_cons, List.length_nil]; decide, s2.length, mT, mS, rfl, by have := D2.lt; omega, ?_, get_app _ _, t1, t2, u1, u2, D2.app _⟩
  exact ((Ap.app _ _).kp.trans k1).trans (((Ap.app _ _).kp.trans k2).trans (Ap.app _ _).kp)
end
end Law

namespace Law
open RX PySem
def K2 (a b : Nat) (st s : Store) : Prop := st.length ≤ s.length ∧ ∀ j, j < st.length → j ≠ a → j ≠ b → s[j]? = st[j]?
theorem K2.trans {a b : Nat} {x y z : Store} (h : K2 a b x y) (h2 : K2 a b y z) : K2 a b x z := ⟨Nat.le_trans h.1 h2.1, fun j hj h3 h4 => (h2.2 j (Nat.lt_of_lt_of_le hj h.1) h3 h4).trans (h.2 j hj h3 h4)⟩
theorem K2.get {a b j : Nat} {x y : Store} {c : Cell} (h : K2 a b x y) (hc : x[j]? = some c) (h1 : j ≠ a) (h2 : j ≠ b) : y[j]? = some c := (h.2 j (lt_of_get hc) h1 h2).trans hc
theorem k2_ap {a b : Nat} {x y : Store} (h : Ap x y) : K2 a b x y := ⟨h.1, fun j hj _ _ => h.2 j hj⟩
theorem k2_l {a b : Nat} {x y : Store} (h : Kp a x y) : K2 a b x y := ⟨h.1, fun j hj h1 _ => h.2 j hj h1⟩
theorem k2_r {a b : Nat} {x y : Store} (h : Kp b x y) : K2 a b x y := ⟨h.1, fun j hj _ h2 => h.2 j hj h2⟩
theorem w_isNon {st : Store} {P : D → Store → Prop} (q : P (.bl true) st) : (cmpO .Is .non .non st).W P := by simp only [cmpO, cmpD]; exact .ok q
theorem w_isNotNon {st : Store} {P : D → Store → Prop} (q : P (.bl false) st) : (cmpO .IsNot .non .non st).W P := by simp only [cmpO, cmpD]; exact .ok q
structure Sit (st : Store) (dn nb n b q mT mS N B : Nat) (ns : List Nd) : Prop where
  d : DS st dn B
  nb : st[nb]? = some (.lst [.int mT, .int mS])
  n : st[n]? = some (pkC b ns)
  b : st[b]? = some (bndC mT mS)
  q : st[q]? = some (.lst (nsD ns))
  g : GoodN mT mS N ns
theorem ds_cell {st : Store} {n B j : Nat} {c : Cell} (h : DS st n B) (hc : st[j]? = some c) (hne : ∀ l m x, c ≠ .lst [.int l, .int m, .int x]) : j ≠ n := fun z => by
  obtain ⟨l, m, x, e, _⟩ := h
  rw [← z, hc] at e
  exact hne l m x (Option.some.inj e)
theorem Sit.ne {st : Store} {dn nb n b q mT mS N B : Nat} {ns : List Nd} (h : Sit st dn nb n b q mT mS N B ns) : nb ≠ dn ∧ n ≠ dn ∧ b ≠ dn ∧ q ≠ dn ∧ nb ≠ n ∧ b ≠ n ∧ q ≠ n :=
  ⟨ds_cell h.d h.nb (by simp), ds_cell h.d h.n (by simp), ds_cell h.d h.b (by simp), ds_cell h.d h.q (by
    intro l m x e
    cases ns with
    | nil => simp at e
    | cons a r => simp at e), lst_ne h.n h.nb, pk_ne h.n h.b, lst_ne h.n h.q⟩
theorem Sit.roll {st s : Store} {dn nb n b q mT mS N B B' : Nat} {ns : List Nd} (h : Sit st dn nb n b q mT mS N B ns) (k : Kp dn st s) (d : DS s dn B') : Sit s dn nb n b q mT mS N B' ns := by
  obtain ⟨h1, h2, h3, h4, _⟩ := h.ne
  exact ⟨d, k.get h.nb h1, k.get h.n h2, k.get h.b h3, k.get h.q h4, h.g⟩
theorem Sit.ap {st s : Store} {dn nb n b q mT mS N B : Nat} {ns : List Nd} (h : Sit st dn nb n b q mT mS N B ns) (a : Ap st s) : Sit s dn nb n b q mT mS N B ns := h.roll a.kp (h.d.ap a)
theorem DS.kp {st s : Store} {dn n B : Nat} (h : DS st dn B) (k : Kp n st s) (hne : dn ≠ n) : DS s dn B := by
  obtain ⟨l, m, c, e, r⟩ := h
  exact ⟨l, m, c, k.get e hne, r⟩
structure Half (st : Store) (dn nb n b q mT mS N B : Nat) (ns ns' : List Nd) : Prop where
  d : DS st dn B
  nb : st[nb]? = some (.lst [.int mT, .int mS])
  n : st[n]? = some (pkC b ns')
  b : st[b]? = some (bndC mT mS)
  q : st[q]? = some (.lst (nsD ns))
theorem Sit.pack {st s : Store} {dn nb n b q mT mS N B : Nat} {ns ns' : List Nd} (h : Sit st dn nb n b q mT mS N B ns) (k : Kp n st s) (hn : s[n]? = some (pkC b ns')) : Half s dn nb n b q mT mS N B ns ns' := by
  obtain ⟨h1, h2, h3, h4, h5, h6, h7⟩ := h.ne
  exact ⟨DS.kp h.d k (Ne.symm h2), k.get h.nb h5, hn, k.get h.b h6, k.get h.q h7⟩
theorem Half.done {st s : Store} {dn nb n b q r mT mS N N' B : Nat} {ns ns' : List Nd} (h : Half st dn nb n b q mT mS N B ns ns') (a : Ap st s) (hr : s[r]? = some (.lst (nsD ns'))) (g : GoodN mT mS N' ns') : Sit s dn nb n b r mT mS N' B ns' :=
  ⟨h.d.ap a, a.get h.nb, a.get h.n, a.get h.b, hr, g⟩
section
variable {F : Nat → Option Fn} (A : At F) {k : Nat} {st : Store} {P : D → Store → Prop}
include A
def stepP (st : Store) (dn nb n b mT mS N B : Nat) (d : D) (s : Store) : Prop := ∃ r ns', d = .ref r ∧ K2 dn n st s ∧ Sit s dn nb n b r mT mS N B ns'
theorem step_put {dn nb n b q m mT mS N B p : Nat} {ns : List Nd} {t : Tx} {x5 x6 x9 x10 x11 x12 x13 x14 x15 : Option D} {N0 : EnvD → Store → Prop} {st0 : Store} (S : Sit st dn nb n b q mT mS N B ns) (k0 : K2 dn n st0 st) (hN : N ≤ 100) (hB : B < 100000) (hm : st[m]? = some (.lst (ns.flatten.map D.str))) (hp : p ≤ ns.flatten.length) (ht : gT t) :
    (evSs ⟨callN F (k + 7)⟩ [(.asg (.nm 8) (.call 39 [(.var 0), (.lst [(.var 8), (.var 8), (.cst (.int (0))), (.lenO [(23, 34)] (.var 4))])])), (.ret (.ite (.cmp .Is (.meth [(23, 28)] 1932145 (.var 2) [(.var 8), (.var 7)]) (.cst .non)) (.call 49 [(.var 1), (.var 3), (.var 8), (.var 7)]) (.cst .non)))]
      [some (.ref dn), some (.ref nb), some (.ref n), some (.ref q), some (.ref m), x5, x6, some (.str t), some (.int p), x9, x10, x11, x12, x13, x14, x15] st).W N0 (stepP st0 dn nb n b mT mS (N + 1) (B + 1)) := by
  refine wSs_cons (wS_asg (wE_call (wEs_cons (wE_var rfl (wEs_cons (wE_lst ?_))))))
  refine wEs_cons (wE_var rfl (wEs_cons (wE_var rfl (wEs_cons (wE_cst (wEs_cons (wE_lenO (wE_var rfl (w_lenOL hm (wEs_nil ?_))))))))))
  refine ⟨by simp only [List.length_cons, List.length_nil]; decide, wEs_nil ?_⟩
  have hne : st.length ≠ dn := by have := S.d.lt; omega
  refine W_mono (oneO_W (aOne A) (aRoll A) (S.d.app _) (by omega) (get_app _ _) hne (by simp only [List.length_cons, List.length_nil]; decide) (by simp only [List.length_cons, List.length_nil]; decide)) fun v s ⟨hv, k1, D1⟩ => ?_
  have h1 : ∃ p' : Nat, v = .int p' ∧ p' ≤ ns.flatten.length := by
    simp only [List.mem_cons, List.not_mem_nil, or_false] at hv
    rcases hv with rfl | rfl | rfl | rfl
    · exact ⟨p, rfl, hp⟩
    · exact ⟨p, rfl, hp⟩
    · exact ⟨0, rfl, Nat.zero_le _⟩
    · exact ⟨ns.flatten.length, by rw [List.length_map], Nat.le_refl _⟩
  obtain ⟨p', rfl, hp'⟩ := h1
  have S1 := (S.ap (Ap.app st _)).roll k1 D1
  have k01 := (k0.trans (k2_ap (Ap.app st _))).trans (k2_l k1)
  refine ⟨by simp only [List.length_cons, List.length_nil]; decide, ?_⟩
  simp only [List.set_cons_zero, List.set_cons_succ]
  refine wSs_cons (wS_ret (wE_ite (wT (wE_cmp (wE_meth (wE_var rfl ⟨_, g_meth S1.n rfl rfl, wEs_cons (wE_var rfl (wEs_cons (wE_var rfl (wEs_nil ?_))))⟩))))))
  refine W_mono (put_W A S1.n S1.b S1.g (by omega) ht hp') fun d s2 ⟨ed, k2, h2⟩ => ?_
  subst ed
  refine wE_cst (w_isNon ⟨_, rfl, fun _ => ?_, fun z => (by cases z)⟩)
  have H := S1.pack k2 h2
  refine wE_call (wEs_cons (wE_var rfl (wEs_cons (wE_var rfl (wEs_cons (wE_var rfl (wEs_cons (wE_var rfl (wEs_nil ?_)))))))))
  refine W_mono (law_put (N := N) A H.nb H.q S.g (by omega) ht hp') fun d s3 ⟨r, ed, a3, h3⟩ => ?_
  exact ⟨r, _, ed, (k01.trans (k2_r k2)).trans (k2_ap a3), H.done a3 h3 (good_put S.g ht)⟩
theorem step_take {dn nb n b q m mT mS N B p : Nat} {ns : List Nd} {x5 x6 x7 x9 x10 x11 x12 x13 x14 x15 : Option D} {N0 : EnvD → Store → Prop} {st0 : Store} (S : Sit st dn nb n b q mT mS N B ns) (k0 : K2 dn n st0 st) (hN : N ≤ 100) (hm : st[m]? = some (.lst (ns.flatten.map D.str))) (hmn : m ≠ n) (hp : p < ns.flatten.length) :
    (evSs ⟨callN F (k + 7)⟩ [(.ret (.ite (.cmp .Eq (.meth [(23, 29)] 215691637 (.var 2) [(.var 8)]) (.sub (.var 4) (.var 8))) (.call 50 [(.var 1), (.var 3), (.var 8)]) (.cst .non)))]
      [some (.ref dn), some (.ref nb), some (.ref n), some (.ref q), some (.ref m), x5, x6, x7, some (.int p), x9, x10, x11, x12, x13, x14, x15] st).W N0 (stepP st0 dn nb n b mT mS (N + 1) B) := by
  refine wSs_cons (wS_ret (wE_ite (wT (wE_cmp (wE_meth (wE_var rfl ⟨_, g_meth S.n rfl rfl, wEs_cons (wE_var rfl (wEs_nil ?_))⟩))))))
  refine W_mono (take_W A S.n S.b S.g (by omega) hp) fun d s2 ⟨ed, k2, h2⟩ => ?_
  subst ed
  have H := S.pack k2 h2
  refine wE_sub (wE_var rfl (wE_var rfl ⟨_, g_subL (k2.get hm hmn) (atI_nat (by rw [List.getElem?_map, List.getElem?_eq_getElem hp]; rfl)), ?_⟩))
  refine w_eqSame (k := 0) (pl_str (S.g.tx _ (List.getElem_mem _)) 0) (by decide) ⟨_, rfl, fun _ => ?_, fun z => (by cases z)⟩
  refine wE_call (wEs_cons (wE_var rfl (wEs_cons (wE_var rfl (wEs_cons (wE_var rfl (wEs_nil ?_)))))))
  refine W_mono (law_less A H.nb H.q S.g (by omega) hp) fun d s3 ⟨r, ed, a3, h3⟩ => ?_
  have g1 : GoodN mT mS (N - 1 + 1) ns := S.g.mono (by omega)
  exact ⟨r, _, ed, (k0.trans (k2_r k2)).trans (k2_ap a3), H.done a3 h3 ((good_less g1 hp).mono (by omega))⟩
theorem step_chg {dn nb n b q m mT mS N B p : Nat} {ns : List Nd} {t : Tx} {x5 x6 x9 x10 x11 x12 x13 x14 x15 : Option D} {N0 : EnvD → Store → Prop} {st0 : Store} (S : Sit st dn nb n b q mT mS N B ns) (k0 : K2 dn n st0 st) (hN : N ≤ 100) (hp : p < ns.flatten.length) (ht : gT t) :
    (evSs ⟨callN F (k + 7)⟩ [(.asg (.tp [(.nm 9), (.nm 10)]) (.call 47 [(.var 3), (.var 8)])), (.asg (.nm 11) (.meth [(23, 30)] 3532845004004 (.var 2) [(.var 8), (.var 7)])), (.asg (.nm 12) (.op2 .Add (.op2 .Add (.slc (.sub (.var 3) (.var 9)) (.cst .non) (.var 10)) (.tup [(.var 7)])) (.slc (.sub (.var 3) (.var 9)) (.op2 .Add (.var 10) (.cst (.int (1)))) (.cst .non)))), (.ret (.ite (.cmp .Is (.var 11) (.cst .non)) (.call 48 [(.var 1), (.var 3), (.var 9), (.var 12)]) (.cst .non)))]
      [some (.ref dn), some (.ref nb), some (.ref n), some (.ref q), some (.ref m), x5, x6, some (.str t), some (.int p), x9, x10, x11, x12, x13, x14, x15] st).W N0 (stepP st0 dn nb n b mT mS (N + 1) B) := by
  have hz : ns ≠ [] := fun z => by rw [z] at hp; simp at hp
  obtain ⟨x, x1, x2, x3⟩ := spot_ok hp
  have eL : spotL ns p = spotF ns p := by unfold spotL; rw [if_pos hp]
  refine wSs_cons (wS_asgT (wE_call (wEs_cons (wE_var rfl (wEs_cons (wE_var rfl (wEs_nil ?_)))))))
  refine W_mono (law_spot A S.q hz (Nat.le_of_lt hp)) fun d s2 ⟨ed, es⟩ => ?_
  subst ed; subst es
  rw [eL]
  have a2 : Ap st (st ++ [Cell.lst [D.int ((spotF ns p).1 : Nat), D.int ((spotF ns p).2 : Nat)]]) := Ap.app _ _
  have h2 := get_app st (Cell.lst [D.int ((spotF ns p).1 : Nat), D.int ((spotF ns p).2 : Nat)])
  generalize (st ++ [Cell.lst [D.int ((spotF ns p).1 : Nat), D.int ((spotF ns p).2 : Nat)]] : Store) = s2 at a2 h2 ⊢
  have S2 := S.ap a2
  refine ⟨[some (.ref dn), some (.ref nb), some (.ref n), some (.ref q), some (.ref m), x5, x6, some (.str t), some (.int p), some (.int (spotF ns p).1), some (.int (spotF ns p).2), x11, x12, x13, x14, x15], by simp only [putS, itemsOf, h2]; rfl, ?_⟩
  refine wSs_cons (wS_asg (wE_meth (wE_var rfl ⟨_, g_meth S2.n rfl rfl, wEs_cons (wE_var rfl (wEs_cons (wE_var rfl (wEs_nil ?_))))⟩)))
  refine W_mono (change_W A S2.n S2.b S2.g (by omega) ht hp) fun d s3 ⟨ed, k3, h3⟩ => ?_
  subst ed
  have H := S2.pack k3 h3
  refine ⟨by simp only [List.length_cons, List.length_nil]; decide, ?_⟩
  simp only [List.set_cons_zero, List.set_cons_succ]
  have sub : itemAt (nsD ns) (((spotF ns p).1 : Nat) : Int) = some (ndD x) := atI_nat (by rw [nsD, List.getElem?_map, x1]; rfl)
  have xl := node_len S.g x1
  have xg := gTs_node S.g x1
  refine wSs_cons (wS_asg (wE_op2 (wE_op2 (wE_slc (wE_sub (wE_var rfl (wE_var rfl ⟨_, g_subL H.q sub, wE_cst ⟨none, rfl, wE_var rfl ⟨_, rfl, w_slcT ?_⟩⟩⟩)))))))
  rw [cut_take (by omega)]
  refine wE_tup (wEs_cons (wE_var rfl (wEs_nil ⟨by simp only [List.length_cons, List.length_nil]; decide, ?_⟩)))
  refine w_catT (by simp only [List.length_take, List.length_map, List.length_cons, List.length_nil, SLv]; omega) ?_
  refine wE_slc (wE_sub (wE_var rfl (wE_var rfl ⟨_, g_subL H.q sub, wE_op2 (wE_var rfl (wE_cst (w_add ⟨_, rfl, wE_cst ⟨none, rfl, w_slcT ?_⟩⟩)))⟩)))
  rw [cut_all (by omega)]
  have e3 : ((((spotF ns p).2 : Nat) : Int) + 1).toNat = (spotF ns p).2 + 1 := by omega
  rw [e3]
  have e2 : (x.map D.str).take (((spotF ns p).2 : Nat) : Int).toNat ++ [D.str t] ++ (x.map D.str).drop ((spotF ns p).2 + 1) = (x.take (spotF ns p).2 ++ [t] ++ x.drop ((spotF ns p).2 + 1)).map D.str := by simp
  refine w_catT (by simp only [List.length_append, List.length_take, List.length_drop, List.length_map, List.length_cons, List.length_nil, SLv]; omega) ⟨by simp only [List.length_cons, List.length_nil]; decide, ?_⟩
  rw [e2]
  simp only [List.set_cons_zero, List.set_cons_succ]
  refine wSs_cons (wS_ret (wE_ite (wT (wE_cmp (wE_var rfl (wE_cst (w_isNon ⟨_, rfl, fun _ => ?_, fun z => (by cases z)⟩)))))))
  refine wE_call (wEs_cons (wE_var rfl (wEs_cons (wE_var rfl (wEs_cons (wE_var rfl (wEs_cons (wE_var rfl (wEs_nil ?_)))))))))
  refine W_mono (law_with A H.nb H.q (okS_of S.g (by omega)) (fun u hu => ?_) ?_) fun d s4 ⟨r, ed, a4, h4⟩ => ?_
  · rcases List.mem_append.mp hu with hu | hu
    · rcases List.mem_append.mp hu with hu | hu
      · exact xg u (List.mem_of_mem_take hu)
      · rw [List.mem_singleton.mp hu]; exact ht
    · exact xg u (List.mem_of_mem_drop hu)
  · simp only [List.length_append, List.length_take, List.length_drop, List.length_singleton]; omega
  · have ec : withF mT mS ns (spotF ns p).1 (x.take (spotF ns p).2 ++ [t] ++ x.drop ((spotF ns p).2 + 1)) = chgF mT mS ns p t := by
      unfold chgF
      rw [nodeAt_eq x1]
    rw [ec] at h4
    exact ⟨r, _, ed, ((k0.trans (k2_ap a2)).trans (k2_r k3)).trans (k2_ap a4), H.done a4 h4 ((good_chg S.g hp ht).mono (by omega))⟩
end
end Law

namespace Law
open RX PySem
section
variable {F : Nat → Option Fn} (A : At F) {k : Nat} {st : Store} {P : D → Store → Prop}
include A
theorem step_keep {dn nb n b q m mT mS N B : Nat} {ns : List Nd} {x5 x6 x7 x8 x9 x10 x11 x12 x13 x14 x15 : Option D} {N0 : EnvD → Store → Prop} {st0 : Store} (S : Sit st dn nb n b q mT mS N B ns) (k0 : K2 dn n st0 st) (hN : N ≤ 100) (hB : B < 100000) (hm : st[m]? = some (.lst (ns.flatten.map D.str))) (hmd : m ≠ dn) (hmn : m ≠ n) (h1 : 1 ≤ ns.flatten.length) :
    (evSs ⟨callN F (k + 8)⟩ [(.asg (.nm 13) (.call 38 [(.var 0), (.lenO [(23, 34)] (.var 4))])),
  (.asg (.nm 14) (.op2 .Add (.var 13) (.call 38 [(.var 0), (.op2 .Sub (.op2 .Add (.lenO [(23, 34)] (.var 4)) (.cst (.int (1)))) (.var 13))]))),
  (.ifs (.cmp .IsNot (.meth [(23, 31)] 238662508 (.var 2) [(.var 13), (.var 14)]) (.cst .non)) [(.ret (.cst .non))] []),
  (.for_ .rng [(.op2 .Sub (.lenO [(23, 34)] (.var 4)) (.cst (.int (1)))), (.neg (.cst (.int (1)))), (.neg (.cst (.int (1))))] (.nm 15) [(.ifs (.not (.cmp2 .LtE .Lt (.var 13) (.var 15) (.var 14))) [(.asg (.nm 3) (.call 50 [(.var 1), (.var 3), (.var 15)]))] [])]),
  (.ret (.var 3))]
      [some (.ref dn), some (.ref nb), some (.ref n), some (.ref q), some (.ref m), x5, x6, x7, x8, x9, x10, x11, x12, x13, x14, x15] st).W N0 (stepP st0 dn nb n b mT mS (N + 1) (B + 2)) := by
  have gl := S.g.len
  refine wSs_cons (wS_asg (wE_call (wEs_cons (wE_var rfl (wEs_cons (wE_lenO (wE_var rfl (w_lenOL hm (wEs_nil ?_)))))))))
  rw [List.length_map]
  refine W_mono (roll_W (aRoll A) S.d (by omega) (by omega) (by omega)) fun v s1 ⟨lo, hv, l0, l1, k1, D1⟩ => ?_
  subst hv
  have S1 := S.roll k1 D1
  have hm1 := k1.get hm hmd
  obtain ⟨lo, rfl⟩ : ∃ z : Nat, lo = z := ⟨lo.toNat, by omega⟩
  refine ⟨by simp only [List.length_cons, List.length_nil]; decide, ?_⟩
  simp only [List.set_cons_zero, List.set_cons_succ]
  refine wSs_cons (wS_asg (wE_op2 (wE_var rfl (wE_call (wEs_cons (wE_var rfl (wEs_cons (wE_op2 (wE_op2 (wE_lenO (wE_var rfl (w_lenOL hm1 (wE_cst (w_add (wE_var rfl (w_sub (wEs_nil ?_)))))))))))))))))
  rw [List.length_map]
  refine W_mono (roll_W (aRoll A) D1 (by omega) (by omega) (by omega)) fun v s2 ⟨hi, hv, u0, u1, k2, D2⟩ => ?_
  subst hv
  have S2 := S1.roll k2 D2
  have hm2 := k2.get hm1 hmd
  obtain ⟨hi, rfl⟩ : ∃ z : Nat, hi = z := ⟨hi.toNat, by omega⟩
  have e1 : ((lo : Nat) : Int) + (hi : Nat) = ((lo + hi : Nat) : Int) := by omega
  refine w_add ⟨by simp only [List.length_cons, List.length_nil]; decide, ?_⟩
  simp only [List.set_cons_zero, List.set_cons_succ]
  rw [e1]
  refine wSs_cons (wS_if (wT (wE_cmp (wE_meth (wE_var rfl ⟨_, g_meth S2.n rfl rfl, wEs_cons (wE_var rfl (wEs_cons (wE_var rfl (wEs_nil ?_))))⟩)))))
  refine W_mono (keep_W A S2.n S2.b S2.g (by omega) (by omega) (by omega)) fun d s3 ⟨ed, k3, h3⟩ => ?_
  subst ed
  have H := S2.pack k3 h3
  have hm3 := k3.get hm2 hmn
  refine wE_cst (w_isNotNon ⟨_, rfl, fun z => (by cases z), fun _ => wSs_nil ?_⟩)
  have kk : K2 dn n st0 s3 := ((k0.trans (k2_l k1)).trans (k2_l k2)).trans (k2_r k3)
  refine wSs_cons (wS_for (wEs_cons (wE_op2 (wE_lenO (wE_var rfl (w_lenOL hm3 (wE_cst (w_sub ?_))))))))
  refine wEs_cons (wE_neg (wE_cst ⟨1, rfl, wEs_cons (wE_neg (wE_cst ⟨1, rfl, wEs_nil ?_⟩))⟩))
  rw [List.length_map]
  refine ⟨_, g_rngD (by omega) (by omega), ?_⟩
  have ecount : (((ns.flatten.length : Nat) : Int) - 1 - -1).toNat = ns.flatten.length := by omega
  rw [ecount]
  refine for_W (n := ns.flatten.length) (fun i e s => Ap s3 s ∧ ∃ r y, e = [some (.ref dn), some (.ref nb), some (.ref n), some (.ref r), some (.ref m), x5, x6, x7, x8, x9, x10, x11, x12, some (.int (lo : Nat)), some (.int ((lo + hi : Nat) : Int)), y] ∧ s[r]? = some (.lst (nsD (kpF mT mS ns.flatten.length lo (lo + hi) ns i)))) ⟨Ap.refl _, q, x15, rfl, H.q⟩ ?_ ?_
  · rintro i e s hi' ⟨a, r, y, rfl, hr⟩
    have hfi : ((ns.flatten.length : Nat) : Int) - 1 - (i : Nat) = ((ns.flatten.length - 1 - i : Nat) : Int) := by omega
    obtain ⟨g1, l1'⟩ := kpF_ok (T := mT) (S := mS) (lo := lo) (hi := lo + hi) S.g rfl i (by omega)
    have hp : ns.flatten.length - 1 - i < (kpF mT mS ns.flatten.length lo (lo + hi) ns i).flatten.length := by omega
    have estep : kpF mT mS ns.flatten.length lo (lo + hi) ns (i + 1) = if ns.flatten.length - 1 - i < lo ∨ lo + hi ≤ ns.flatten.length - 1 - i then lessF mT mS (kpF mT mS ns.flatten.length lo (lo + hi) ns i) (ns.flatten.length - 1 - i) else kpF mT mS ns.flatten.length lo (lo + hi) ns i := rfl
    refine ⟨_, _, by rw [f_rngD hi', hfi], by rfl, ?_⟩
    have less : (ns.flatten.length - 1 - i < lo ∨ lo + hi ≤ ns.flatten.length - 1 - i) → (evSs ⟨callN F (k + 8)⟩ [(.asg (.nm 3) (.call 50 [(.var 1), (.var 3), (.var 15)]))] [some (.ref dn), some (.ref nb), some (.ref n), some (.ref r), some (.ref m), x5, x6, x7, x8, x9, x10, x11, x12, some (.int (lo : Nat)), some (.int ((lo + hi : Nat) : Int)), some (.int ((ns.flatten.length - 1 - i : Nat) : Int))] s).W
        (fun e s' => Ap s3 s' ∧ ∃ r y, e = [some (.ref dn), some (.ref nb), some (.ref n), some (.ref r), some (.ref m), x5, x6, x7, x8, x9, x10, x11, x12, some (.int (lo : Nat)), some (.int ((lo + hi : Nat) : Int)), y] ∧ s'[r]? = some (.lst (nsD (kpF mT mS ns.flatten.length lo (lo + hi) ns (i + 1))))) (stepP st0 dn nb n b mT mS (N + 1) (B + 2)) := by
      intro hc
      refine wSs_cons (wS_asg (wE_call (wEs_cons (wE_var rfl (wEs_cons (wE_var rfl (wEs_cons (wE_var rfl (wEs_nil ?_)))))))))
      refine W_mono (law_less A (a.get H.nb) hr g1 (by omega) hp) fun d s4 ⟨r', ed, a4, h4⟩ => ?_
      subst ed
      refine ⟨by simp only [List.length_cons, List.length_nil]; decide, wSs_nil ⟨a.trans a4, r', _, rfl, ?_⟩⟩
      rw [estep, if_pos hc]
      exact h4
    refine wSs_cons (wS_if (wT (wE_not (wT (wE_cmp2 (wE_var rfl (wE_var rfl ⟨_, rfl, fun hh => ?_, fun hh => ?_⟩)))))))
    · have hh := of_decide_eq_true hh
      refine wE_var rfl (w_lt ⟨_, rfl, _, rfl, fun h3 => ?_, fun h3 => ?_⟩)
      · have h3' : ¬ (((ns.flatten.length - 1 - i : Nat) : Int) < ((lo + hi : Nat) : Int)) := fun z => by
          rw [decide_eq_true z] at h3; cases h3
        exact WS_mono (less (.inr (by omega))) (fun e s h => wSs_nil h) fun _ _ h => h
      · have h3' : ((ns.flatten.length - 1 - i : Nat) : Int) < ((lo + hi : Nat) : Int) := Decidable.byContradiction fun z => by
          rw [decide_eq_false z] at h3; cases h3
        refine wSs_nil (wSs_nil ⟨a, r, _, rfl, ?_⟩)
        rw [estep, if_neg (by omega)]
        exact hr
    · have hh := of_decide_eq_false hh
      refine ⟨_, rfl, _, rfl, fun _ => ?_, fun z => (by cases z)⟩
      exact WS_mono (less (.inl (by omega))) (fun e s h => wSs_nil h) fun _ _ h => h
  · rintro e s ⟨a, r, y, rfl, hr⟩
    refine ⟨f_rngDE, wSs_cons (wS_ret (wE_var rfl ?_))⟩
    obtain ⟨g1, _⟩ := kpF_ok (T := mT) (S := mS) (lo := lo) (hi := lo + hi) S.g rfl ns.flatten.length (Nat.le_refl _)
    exact ⟨r, _, rfl, kk.trans (k2_ap a), H.done a hr (g1.mono (by omega))⟩
omit A in
theorem Sit.bd {st : Store} {dn nb n b q mT mS N N' B B' : Nat} {ns : List Nd} (h : Sit st dn nb n b q mT mS N B ns) (h1 : N ≤ N') (h2 : B ≤ B') : Sit st dn nb n b q mT mS N' B' ns := ⟨h.d.mono h2, h.nb, h.n, h.b, h.q, h.g.mono h1⟩
omit A in
theorem stepP_mono {st : Store} {dn nb n b mT mS N B B' : Nat} {d : D} {s : Store} (h : stepP st dn nb n b mT mS N B d s) (hb : B ≤ B') : stepP st dn nb n b mT mS N B' d s := by
  obtain ⟨r, ns', e, k2, S⟩ := h
  exact ⟨r, ns', e, k2, S.bd (Nat.le_refl _) hb⟩
theorem law_step {dn nb n b q mT mS N B : Nat} {ns : List Nd} (S : Sit st dn nb n b q mT mS N B ns) (hN : N ≤ 100) (hB : B < 50000) :
    (callN F (k + 9) 51 [.ref dn, .ref nb, .ref n, .ref q] st).W (stepP st dn nb n b mT mS (N + 1) (B + 10)) := by
  have gl := S.g.len
  rw [W_call A._law_step rfl]
  simp only [List.map_cons, List.map_nil, List.cons_append, List.nil_append, List.length_cons, List.length_nil, List.replicate_succ, List.replicate_zero, Nat.reduceAdd, Nat.reduceSub, T._law_step]
  refine wSs_cons (wS_asg (wE_lst (wEs_nil ⟨by simp only [List.length_nil]; decide, by simp only [List.length_cons, List.length_nil]; decide, ?_⟩)))
  simp only [List.set_cons_zero, List.set_cons_succ]
  have hqm : q ≠ st.length := fun z => by have := lt_of_get S.q; omega
  have hmd : st.length ≠ dn := fun z => by have := S.d.lt; omega
  have hmn : st.length ≠ n := fun z => by have := lt_of_get S.n; omega
  refine wSs_cons (wS_for (wEs_cons (wE_var rfl (wEs_nil ⟨_, g_srcL ((Ap.app st _).get S.q), ?_⟩))))
  refine ext_loop ((Ap.app st _).get S.q) (get_app _ _) (by rfl) (by simp only [List.length_cons, List.length_nil]; decide) (by decide) hqm (by rfl) (by omega) fun y s k1 hm => ?_
  have a := kp_new k1
  simp only [List.set_cons_zero, List.set_cons_succ]
  generalize st.length = m at hm hqm hmd hmn ⊢
  have S1 := S.ap a
  refine wSs_cons (wS_par (wEs_cons (wE_call (wEs_cons (wE_var rfl (wEs_cons (wE_cst (wEs_nil ?_))))))))
  refine W_mono (roll_W (aRoll A) S1.d (by omega) (by omega) (by omega)) fun v s2 ⟨way, hv, w0, w1, k2, D2⟩ => ?_
  subst hv
  refine wEs_cons (wE_call (wEs_cons (wE_var rfl (wEs_nil ?_))))
  refine W_mono (law_text A D2 (by omega)) fun v s3 ⟨⟨t, hv, ht⟩, k3, D3⟩ => ?_
  subst hv
  have hm3 := k3.get (k2.get hm hmd) hmd
  refine wEs_cons (wE_call (wEs_cons (wE_var rfl (wEs_cons (wE_op2 (wE_lenO (wE_var rfl (w_lenOL hm3 (wE_cst (w_add (wEs_nil ?_)))))))))))
  rw [List.length_map]
  refine W_mono (roll_W (aRoll A) D3 (by omega) (by omega) (by omega)) fun v s4 ⟨pl, hv, p0, p1, k4, D4⟩ => ?_
  subst hv
  obtain ⟨pl, rfl⟩ : ∃ z : Nat, pl = z := ⟨pl.toNat, by omega⟩
  have S4 := S1.roll ((k2.trans k3).trans k4) D4
  have hm4 := k4.get hm3 hmd
  have kk : K2 dn n st s4 := (k2_ap a).trans (k2_l ((k2.trans k3).trans k4))
  refine wEs_nil ⟨[some (.ref dn), some (.ref nb), some (.ref n), some (.ref q), some (.ref m), y, some (.int way), some (.str t), some (.int (pl : Nat)), none, none, none, none, none, none, none], rfl, ?_⟩
  -- put, or not
  refine wSs_ifA (decide (way < 5) || decide (ns.flatten = [])) ?_ (fun s5 a5 _ => ?_) fun s5 a5 hh => ?_
  · refine wT (wE_or (wE_cmp (wE_var rfl (wE_cst (w_lt ⟨_, rfl, fun hh => ⟨_, rfl, ?_, Ap.refl _⟩, fun hh => ?_⟩)))))
    · rw [hh]; rfl
    · refine wE_cmp (wE_var rfl (wE_lst (wEs_nil ⟨by simp only [List.length_nil]; decide, w_eqPL 0 ((Ap.app s4 _).get hm4) (get_app _ _) (pl_strs S.g.tx 0) (by simp [plDs]) (by decide) fun t ht => ⟨_, rfl, ?_, Ap.app _ _⟩⟩)))
      rw [hh, Bool.false_or]
      cases t with
      | true =>
        have := ht.mp rfl
        rw [List.map_eq_nil_iff] at this
        exact (decide_eq_true this).symm
      | false =>
        refine (decide_eq_false fun z => ?_).symm
        have := ht.mpr (by rw [z]; rfl)
        cases this
  · exact WS_mono (step_put A (k := k + 1) (S4.ap a5) (kk.trans (k2_ap a5)) hN (by omega) (a5.get hm4) (by omega) ht) (fun _ _ h => h) fun _ _ h => stepP_mono h (by omega)
  · rw [Bool.or_eq_false_iff] at hh
    have hne : ns.flatten ≠ [] := of_decide_eq_false hh.2
    have hpos := List.length_pos_iff.mpr hne
    have S5 := S4.ap a5
    have hm5 := a5.get hm4
    have k5 := kk.trans (k2_ap (a := dn) (b := n) a5)
    refine wSs_nil (wSs_cons (wS_asg (wE_call (wEs_cons (wE_var rfl (wEs_cons (wE_lenO (wE_var rfl (w_lenOL hm5 (wEs_nil ?_))))))))))
    rw [List.length_map]
    refine W_mono (roll_W (aRoll A) S5.d (by omega) (by omega) (by omega)) fun v s6 ⟨p, hv, q0, q1, k6, D6⟩ => ?_
    subst hv
    obtain ⟨p, rfl⟩ : ∃ z : Nat, p = z := ⟨p.toNat, by omega⟩
    have S6 := S5.roll k6 D6
    have hm6 := k6.get hm5 hmd
    have k56 := k5.trans (k2_l k6)
    refine ⟨by simp only [List.length_cons, List.length_nil]; decide, ?_⟩
    simp only [List.set_cons_zero, List.set_cons_succ]
    refine wSs_if (decide (way < 7)) (wT (wE_cmp (wE_var rfl (wE_cst (w_lt ⟨_, rfl, rfl, rfl⟩))))) (fun _ => ?_) fun _ => ?_
    · exact WS_mono (step_take A (k := k + 1) S6 k56 hN hm6 hmn (by omega)) (fun _ _ h => h) fun _ _ h => stepP_mono h (by omega)
    refine wSs_nil (wSs_if (decide (way < 9)) (wT (wE_cmp (wE_var rfl (wE_cst (w_lt ⟨_, rfl, rfl, rfl⟩))))) (fun _ => ?_) fun _ => ?_)
    · exact WS_mono (step_chg A (k := k + 1) S6 k56 hN (by omega) ht) (fun _ _ h => h) fun _ _ h => stepP_mono h (by omega)
    refine wSs_nil ?_
    exact WS_mono (step_keep A S6 k56 hN (by omega) hm6 hmd hmn hpos) (fun _ _ h => h) fun _ _ h => stepP_mono h (by omega)
end
end Law

namespace Law
open RX PySem
theorem w_isRef {r : Nat} {st : Store} {P : D → Store → Prop} (q : P (.bl false) st) : (cmpO .Is (.ref r) .non st).W P := by simp only [cmpO, cmpD]; exact .ok q
theorem w_isNotRef {r : Nat} {st : Store} {P : D → Store → Prop} (q : P (.bl true) st) : (cmpO .IsNot (.ref r) .non st).W P := by simp only [cmpO, cmpD]; exact .ok q
theorem lens_map (ns : List Nd) : ((nsD ns).filterMap fun d => match d with | .tup ds => some (D.int ds.length) | _ => none) = (ns.map fun n => (n.length : Int)).map D.int := by
  induction ns with
  | nil => rfl
  | cons n ns ih =>
    simp only [nsD, List.map_cons, List.filterMap_cons, List.length_map] at ih ⊢
    rw [ih]
theorem lens_sum (ns : List Nd) : (ns.map fun n => (n.length : Int)).sum = (ns.flatten.length : Int) := by
  induction ns with
  | nil => rfl
  | cons n ns ih =>
    simp only [List.map_cons, List.sum_cons, ih, List.flatten_cons, List.length_append]
    omega
theorem k2_kp {a b : Nat} {x y : Store} (h : K2 a b x y) (hb : x.length ≤ b) : Kp a x y := ⟨h.1, fun j hj h1 => h.2 j hj h1 (by omega)⟩
section
variable {F : Nat → Option Fn} (A : At F) {k : Nat} {st : Store} {P : D → Store → Prop}
include A
theorem make_W {env : EnvD} {e1 e2 e3 : E} {mT mS : Nat} {ts : List Tx} (h1 : 1 ≤ mT ∧ mT ≤ 64) (h2 : 1 ≤ mS ∧ mS ≤ 1000) (ht : gTs ts) (hl : ts.length ≤ 100) (w1 : ∀ s, Ap st s → (evE ⟨callN F (k + 5)⟩ e1 env s).W fun d s' => d = .int mT ∧ s' = s) (w2 : ∀ s, Ap st s → (evE ⟨callN F (k + 5)⟩ e2 env s).W fun d s' => d = .int mS ∧ s' = s)
    (w3 : ∀ s, Ap st s → (evE ⟨callN F (k + 5)⟩ e3 env s).W fun d s' => d = .tup (ts.map D.str) ∧ Ap s s')
    (q : ∀ n b s, st.length ≤ n → Ap st s → s[n]? = some (pkC b (buildF mT mS ts)) → s[b]? = some (bndC mT mS) → P (.ref n) s) : (evE ⟨callN F (k + 5)⟩ (.make 23 24 [.make 14 15 [e1, e2, .cst (.int 3), .cst (.int 8)], e3]) env st).W P := by
  refine wE_make (wEs_cons (wE_make (wEs_cons (W_mono (w1 st (Ap.refl _)) fun d s ⟨ed, es⟩ => ?_))))
  subst ed; subst es
  refine wEs_cons (W_mono (w2 s (Ap.refl _)) fun d s' ⟨ed, es⟩ => ?_)
  subst ed; subst es
  refine wEs_cons (wE_cst (wEs_cons (wE_cst (wEs_nil ?_))))
  refine W_mono (bounds_W A (get_app _ _) h1 h2) fun d s2 ⟨ed, k1, hb⟩ => ⟨ed, ?_⟩
  have a1 : Ap s' s2 := kp_new k1
  refine wEs_cons (W_mono (w3 s2 a1) fun d s3 ⟨ed, a3⟩ => ?_)
  subst ed
  have hb3 := a3.get hb
  refine wEs_nil (W_mono (init_W A (get_app _ _) ((Ap.app s3 _).get hb3) ht hl) fun d s4 ⟨ed, k4, h4⟩ => ⟨ed, ?_⟩)
  have hne : s'.length ≠ s3.length := fun z => by have := lt_of_get hb3; omega
  have a4 : Ap s3 s4 := kp_new k4
  exact q _ _ _ (Nat.le_trans a1.1 a3.1) ((a1.trans a3).trans a4) h4 (a4.get hb3)
theorem law_right {dn : Nat} (D0 : DS st dn 0) : (callN F (k + 10) 53 [.ref dn] st).W fun d s => d = .bl true ∧ Kp dn st s := by
  rw [W_call A._law_right rfl]
  simp only [List.map_cons, List.map_nil, List.cons_append, List.nil_append, List.length_cons, List.length_nil, List.replicate_succ, List.replicate_zero, Nat.reduceAdd, Nat.reduceSub, T._law_right]
  refine wSs_cons (wS_par (wEs_cons (wE_call (wEs_cons (wE_var rfl (wEs_nil ?_))))))
  refine W_mono (law_numbers A D0 (by omega)) fun d s1 ⟨nb, mT, mS, ed, hnd, k1, hnb, t1, t2, u1, u2, D1⟩ => ?_
  subst ed
  refine wEs_cons (wE_lst (wEs_nil ⟨by simp only [List.length_nil]; decide, wEs_nil ?_⟩))
  refine ⟨[some (.ref dn), some (.ref nb), some (.ref s1.length), none, none, none, none, none], rfl, ?_⟩
  have hq := get_app s1 (Cell.lst [])
  have a1 : Ap s1 (s1 ++ [Cell.lst []]) := Ap.app _ _
  have hqd : s1.length ≠ dn := by have := D1.lt; omega
  generalize hs2 : (s1 ++ [Cell.lst []] : Store) = s2 at hq a1 ⊢
  generalize s1.length = q0 at hq hqd ⊢
  have D2 := D1.ap a1
  have hnb2 := a1.get hnb
  refine wSs_cons (wS_asg (wE_call (wEs_cons (wE_var rfl (wEs_cons (wE_cst (wEs_cons (wE_cst (wEs_nil ?_)))))))))
  refine W_mono (law_some A D2 (by omega)) fun d s3 ⟨tq, ts, ed, htd, k3, hts, gts, tl1, tl2, D3⟩ => ?_
  subst ed
  refine ⟨by simp only [List.length_cons, List.length_nil]; decide, ?_⟩
  simp only [List.set_cons_zero, List.set_cons_succ]
  have hnb3 := k3.get hnb2 hnd
  have hq3 := k3.get hq hqd
  refine wSs_cons (wS_asg (make_W A ⟨t1, t2⟩ ⟨u1, u2⟩ gts (by omega) (fun s a => wE_sub (wE_var rfl (wE_cst ⟨_, g_subL (a.get hnb3) rfl, rfl, rfl⟩))) (fun s a => wE_sub (wE_var rfl (wE_cst ⟨_, g_subL (a.get hnb3) rfl, rfl, rfl⟩))) (fun s a => wE_blt (wEs_cons (wE_var rfl (wEs_nil (w_tupL (a.get hts) ⟨rfl, Ap.refl _⟩))))) fun n b s4 hn4 a4 hn hb => ?_))
  refine ⟨by simp only [List.length_cons, List.length_nil]; decide, ?_⟩
  simp only [List.set_cons_zero, List.set_cons_succ]
  have k14 : Kp dn st s4 := ((k1.trans a1.kp).trans k3).trans a4.kp
  have D4 := D3.ap a4
  have hnb4 := a4.get hnb3
  have hq4 := a4.get hq3
  have hts4 := a4.get hts
  have hlen : st.length ≤ n := Nat.le_trans ((k1.trans a1.kp).trans k3).1 hn4
  -- the law's nodes
  refine wSs_cons (wS_for (wEs_cons (wE_var rfl (wEs_nil ⟨_, g_srcL hts4, ?_⟩))))
  refine for_W (n := (ts.map D.str).length) (fun i e s => Ap s4 s ∧ ∃ r y, e = [some (.ref dn), some (.ref nb), some (.ref r), some (.ref tq), some (.ref n), y, none, none] ∧ s[r]? = some (.lst (nsD (buildF mT mS (ts.take i))))) ⟨Ap.refl _, q0, none, rfl, by rw [hq4]; rfl⟩ ?_ ?_
  · rintro i e s hi ⟨a, r, y, rfl, hr⟩
    rw [List.length_map] at hi
    have hx : ts[i]? = some ts[i] := List.getElem?_eq_getElem hi
    have g := good_build (T := mT) (S := mS) gts i (by omega)
    have gl := g.len
    have gs := g.short
    refine ⟨_, [some (.ref dn), some (.ref nb), some (.ref r), some (.ref tq), some (.ref n), some (.str ts[i]), none, none], f_lst (a.get hts4) (by rw [List.getElem?_map, hx]; rfl), by rfl, ?_⟩
    refine wSs_cons (wS_asg (wE_call (wEs_cons (wE_var rfl (wEs_cons (wE_var rfl (wEs_cons (wE_blt (wEs_cons (wE_lc (wEs_cons (wE_var rfl (wEs_nil ⟨_, g_srcL hr, ?_⟩)))))))))))))
    refine lc_ap (srcIs_lst hr) (by rfl) (by rw [List.length_map, SLv]; omega) (fun d => match d with | .tup ds => some (D.int ds.length) | _ => none) (fun d hd st' a2 => ?_) (fun s5 a5 h5 => ?_)
    · obtain ⟨x, hx, rfl⟩ := List.mem_map.mp hd
      refine lcT_W (env' := [some (.ref dn), some (.ref nb), some (.ref r), some (.ref tq), some (.ref n), some (.str ts[i]), none, some (ndD x)]) (by rfl) (wE_lenO (wE_var rfl (w_lenOT ⟨rfl, Ap.refl _⟩)))
    · rw [lens_map] at h5
      refine wEs_nil (w_sum h5 (wEs_cons (wE_var rfl (wEs_nil ?_))))
      rw [lens_sum]
      have aa := a.trans a5
      refine W_mono (law_put A (aa.get hnb4) (a5.get hr) g (by omega) (gts _ (List.getElem_mem _)) (Nat.le_refl _)) fun d s6 ⟨r', ed, a6, h6⟩ => ?_
      subst ed
      refine ⟨by simp only [List.length_cons, List.length_nil]; decide, ?_⟩
      simp only [List.set_cons_zero, List.set_cons_succ]
      refine wSs_nil ⟨aa.trans a6, r', _, rfl, ?_⟩
      rw [build_snoc hx]
      exact h6
  · rintro e s ⟨a, r, y, rfl, hr⟩
    rw [List.length_map, List.take_length] at hr
    refine ⟨by rw [f_lstE (a.get hts4)], ?_⟩
    have g0 := good_build (T := mT) (S := mS) gts ts.length (Nat.le_refl _)
    rw [List.take_length] at g0
    have S0 : Sit s dn nb n b r mT mS 4 15 (buildF mT mS ts) := ⟨(D4.ap a).mono (by omega), a.get hnb4, a.get hn, a.get hb, hr, g0.mono tl2⟩
    refine wSs_cons (wS_for (wEs_cons (wE_cst (wEs_nil ⟨_, g_rng (by omega), ?_⟩))))
    refine for_W (n := Int.toNat 16) (fun i e s' => K2 dn n s s' ∧ ∃ r ns z, e = [some (.ref dn), some (.ref nb), some (.ref r), some (.ref tq), some (.ref n), y, z, none] ∧ Sit s' dn nb n b r mT mS (4 + i) (15 + 10 * i) ns) ⟨k2_ap (Ap.refl _), r, _, none, rfl, S0⟩ ?_ ?_
    · rintro i e s' hi ⟨kk, r', ns', z, rfl, S'⟩
      have hi : i < 16 := hi
      refine ⟨_, [some (.ref dn), some (.ref nb), some (.ref r'), some (.ref tq), some (.ref n), y, some (.int (0 + (i : Nat))), none], f_rng hi, by rfl, ?_⟩
      refine wSs_cons (wS_if (wT (wE_or (wE_cmp (wE_var rfl (wE_cst (w_isRef ⟨_, rfl, fun z => (by cases z), fun _ => wE_not (wT (wE_call (wEs_cons (wE_var rfl (wEs_cons (wE_var rfl (wEs_nil ?_)))))))⟩)))))))
      refine W_mono (is_as A S'.n S'.q S'.g (by omega)) fun d s5 ⟨ed, a5⟩ => ?_
      subst ed
      refine ⟨_, rfl, _, rfl, fun z => (by cases z), fun _ => wSs_nil ?_⟩
      have S5 := S'.ap a5
      refine wSs_cons (wS_asg (wE_call (wEs_cons (wE_var rfl (wEs_cons (wE_var rfl (wEs_cons (wE_var rfl (wEs_cons (wE_var rfl (wEs_nil ?_)))))))))))
      refine W_mono (law_step A S5 (by omega) (by omega)) fun d s6 ⟨r6, ns6, ed, k6, S6⟩ => ?_
      subst ed
      refine ⟨by simp only [List.length_cons, List.length_nil]; decide, ?_⟩
      simp only [List.set_cons_zero, List.set_cons_succ]
      exact wSs_nil ⟨(kk.trans (k2_ap a5)).trans k6, r6, ns6, _, rfl, S6.bd (by omega) (by omega)⟩
    · rintro e s' ⟨kk, r', ns', z, rfl, S'⟩
      refine ⟨f_rngE, ?_⟩
      refine wSs_cons (wS_ret (wE_and (wE_cmp (wE_var rfl (wE_cst (w_isNotRef ⟨_, rfl, fun _ => wE_call (wEs_cons (wE_var rfl (wEs_cons (wE_var rfl (wEs_nil ?_))))), fun z => (by cases z)⟩))))))
      refine W_mono (is_as A S'.n S'.q S'.g (by have : (Int.toNat 16) = 16 := rfl; omega)) fun d s5 ⟨ed, a5⟩ => ⟨ed, ?_⟩
      have kend : K2 dn n st s5 := ((k2_l (k14.trans a.kp)).trans kk).trans (k2_ap a5)
      exact k2_kp kend hlen
end
end Law

namespace Law
open RX PySem
theorem abc_g : gTs [[97], [98], [99]] := by
  intro t ht
  simp only [List.mem_cons, List.not_mem_nil, or_false] at ht
  rcases ht with rfl | rfl | rfl <;> decide
theorem abc_b : buildF 2 6 [[97], [98], [99]] = [[[97], [98]], [[99]]] := by decide +kernel
theorem abc_p : putF' 2 6 [[[97], [98]], [[99]]] 1 [120] = [[[97], [120]], [[98], [99]]] := by decide +kernel
theorem abc_l : lessF 2 6 [[[97], [120]], [[98], [99]]] 0 = [[[120]], [[98], [99]]] := by decide +kernel
section
variable {F : Nat → Option Fn} (A : At F) {k : Nat} {st : Store} {P : D → Store → Prop}
include A
theorem law_end {dn : Nat} {env : EnvD} {y : Option D} (he : env = [some (.ref 0), y, none, none]) :
    (evSs ⟨callN F (k + 10)⟩ (T.law_.body.drop 1) env st).W (fun _ _ => False) fun d s => d = .bl true := by
  subst he
  simp only [T.law_, List.drop_succ_cons, List.drop_zero]
  refine wSs_cons (wS_asg (make_W A (mT := 2) (mS := 6) (ts := [[97], [98], [99]]) (by decide) (by decide) abc_g (by decide) (fun s a => wE_cst ⟨rfl, rfl⟩) (fun s a => wE_cst ⟨rfl, rfl⟩) (fun s a => wE_tup (wEs_cons (wE_cst (wEs_cons (wE_cst (wEs_cons (wE_cst (wEs_nil ⟨by decide, rfl, Ap.refl _⟩)))))))) fun n b s hn4 a hn hb => ?_))
  refine ⟨by simp only [List.length_cons, List.length_nil]; decide, ?_⟩
  simp only [List.set_cons_zero, List.set_cons_succ]
  have g0 := good_build (T := 2) (S := 6) abc_g 3 (by decide)
  have e3 : ([[97], [98], [99]] : List Tx).take 3 = [[97], [98], [99]] := rfl
  rw [e3, abc_b] at g0
  rw [abc_b] at hn
  have gx : gT [120] := by decide
  have g1 := good_put (p := 1) g0 gx
  rw [abc_p] at g1
  refine wSs_cons (wS_asg (wE_lst (wEs_cons (wE_prop (wE_var rfl ⟨_, _, _, g_ins hn, rfl, pack_nodes A hn ?_⟩)))))
  refine wEs_cons (wE_meth (wE_var rfl ⟨_, g_meth hn rfl rfl, wEs_cons (wE_cst (wEs_cons (wE_cst (wEs_nil ?_))))⟩))
  refine W_mono (put_W (p := 1) A hn hb g0 (by decide) gx (by decide)) fun d s2 ⟨ed, k2, h2⟩ => ?_
  subst ed
  rw [abc_p] at h2
  have hb2 := k2.get hb (pk_ne hn hb)
  refine wEs_cons (wE_prop (wE_var rfl ⟨_, _, _, g_ins h2, rfl, pack_nodes A h2 ?_⟩))
  refine wEs_cons (wE_meth (wE_var rfl ⟨_, g_meth h2 rfl rfl, wEs_cons (wE_cst (wEs_nil ?_))⟩))
  refine W_mono (take_W (p := 0) A h2 hb2 g1 (by decide) (by decide)) fun d s3 ⟨ed, k3, h3⟩ => ?_
  subst ed
  rw [abc_l] at h3
  refine wEs_cons (wE_prop (wE_var rfl ⟨_, _, _, g_ins h3, rfl, pack_nodes A h3 ?_⟩))
  refine wEs_nil ⟨by decide, by simp only [List.length_cons, List.length_nil]; decide, ?_⟩
  simp only [List.set_cons_zero, List.set_cons_succ]
  refine wSs_cons (wS_ret (wE_cmp (wE_var rfl ?_)))
  (repeat' (first
    | (with_reducible refine wSs_cons ?_; try simp only [List.set_cons_zero, List.set_cons_succ]) | with_reducible refine wS_asg ?_ | with_reducible refine wS_if ?_ | with_reducible refine wS_ret ?_ | with_reducible refine wS_expr ?_ | with_reducible refine wS_asgS ?_ | with_reducible refine wS_par ?_ | with_reducible refine wS_asgT ?_ | with_reducible refine wS_for ?_ | (with_reducible refine wSs_nil ?_; try simp only [List.set_cons_zero, List.set_cons_succ])
    | with_reducible refine wE_cst ?_ | with_reducible refine wE_op2 ?_ | with_reducible refine wE_cmp ?_ | with_reducible refine wE_sub ?_ | with_reducible refine wE_call ?_ | with_reducible refine wE_blt ?_ | with_reducible refine wEs_cons ?_ | with_reducible refine wEs_nil ?_ | with_reducible refine wT ?_ | with_reducible refine wE_not ?_ | with_reducible refine wE_lst ?_ | with_reducible refine wE_tup ?_ | with_reducible refine wE_and ?_ | with_reducible refine wE_or ?_ | with_reducible refine wE_ite ?_ | with_reducible refine wE_cmp2 ?_ | with_reducible refine wE_lc ?_ | with_reducible refine wE_slc ?_ | with_reducible refine wE_neg ?_ | with_reducible refine wE_lzip ?_ | with_reducible refine wE_lstX ?_ | with_reducible refine wE_tupX ?_ | with_reducible refine wXs_nil ?_ | with_reducible refine wXs_cons ?_ | with_reducible refine wXs_star ?_ | with_reducible refine wS_whil ?_ | with_reducible refine w_lenT ?_ | with_reducible refine w_slcT ?_ | with_reducible refine w_tupT ?_ | with_reducible refine ⟨(_ : Int), rfl, ?_⟩
    | with_reducible refine ⟨(_ : Option Int), by rfl, ?_⟩ | with_reducible refine ⟨(_ : Src × Nat), g_srcS, ?_⟩ | with_reducible refine ⟨(_ : Src × Nat), g_srcE, ?_⟩ | with_reducible refine ⟨(_ : Src × Nat), g_srcT, ?_⟩ | with_reducible refine ⟨(_ : Src × Nat), g_srcL (by assumption), ?_⟩
     | with_reducible refine wE_at ?_ | with_reducible refine wE_prop ?_ | with_reducible refine wE_meth ?_ | with_reducible refine wE_lenO ?_ | with_reducible refine w_lenOT ?_ | with_reducible refine wS_setF ?_ | refine ⟨(_ : Nat), (_ : List (Nat × D)), (_ : D), g_ins (by assumption), rfl, rfl, ?_⟩ | refine ⟨(_ : Nat), (_ : List (Nat × D)), (_ : Nat), g_ins (by assumption), rfl, ?_⟩ | refine ⟨(_ : Nat), g_meth (by assumption) rfl rfl, ?_⟩ | with_reducible refine w_add ?_ | with_reducible refine w_sub ?_ | with_reducible refine w_leS ?_ | with_reducible refine w_lt ?_ | with_reducible refine w_le ?_ | with_reducible refine w_gt ?_ | with_reducible refine w_ge ?_ | with_reducible refine w_int ?_ | with_reducible refine w_intB ?_ | with_reducible refine w_abs ?_ | with_reducible refine w_ord ?_ | with_reducible refine w_min ?_ | with_reducible refine w_max ?_
    | refine wE_var rfl ?_
    | with_reducible refine w_eqS ?_ | with_reducible refine w_neS ?_ | with_reducible refine w_eq (eqD_bl _ _ _) ?_ | with_reducible refine w_ne (eqD_bl _ _ _) ?_
    | (with_reducible refine w_eqI (b := true) ?_ ?_; exact decide_eq_true (by omega)) | (with_reducible refine w_eqI (b := false) ?_ ?_; exact decide_eq_false (by omega)) | (with_reducible refine w_neI (b := true) ?_ ?_; exact decide_eq_true (by omega)) | (with_reducible refine w_neI (b := false) ?_ ?_; exact decide_eq_false (by omega))
    | with_reducible refine w_eq (eqD_int _ _ _) ?_ | with_reducible refine w_ne (eqD_int _ _ _) ?_
    | (with_reducible refine w_mod ?_ ?_; (first | omega | decide +kernel)) | (with_reducible refine w_mul ?_ ?_; exact mul_ok (by omega) (by first | omega | (split <;> omega))) | (with_reducible refine w_div ?_ ?_; (first | exact div_ok (by omega) (by omega) | decide +kernel)) | (with_reducible refine w_pow ?_ ?_; decide +kernel)
    | with_reducible refine ⟨(_ : Bool), g_eqI (b := true) (decide_eq_true (by omega)), ?_⟩ | with_reducible refine ⟨(_ : Bool), g_eqI (b := false) (decide_eq_false (by omega)), ?_⟩ | refine ⟨(_ : Bool), rfl, ?_⟩ | with_reducible refine w_isI_int ?_ | with_reducible refine w_isI_bool ?_ | with_reducible refine w_isI_str ?_ | with_reducible refine w_isI_tuple ?_ | with_reducible refine w_isI_list ?_ | with_reducible refine w_isS_int ?_ | with_reducible refine w_isS_bool ?_ | with_reducible refine w_isS_str ?_ | with_reducible refine w_isS_tuple ?_ | with_reducible refine w_isS_list ?_ | with_reducible refine w_isB_int ?_ | with_reducible refine w_isB_bool ?_ | with_reducible refine w_isB_str ?_ | with_reducible refine w_isB_tuple ?_ | with_reducible refine w_isB_list ?_ | with_reducible refine w_isN_int ?_ | with_reducible refine w_isN_bool ?_ | with_reducible refine w_isN_str ?_ | with_reducible refine w_isN_tuple ?_ | with_reducible refine w_isN_list ?_ | with_reducible refine w_isT_int ?_ | with_reducible refine w_isT_bool ?_ | with_reducible refine w_isT_str ?_ | with_reducible refine w_isT_tuple ?_ | with_reducible refine w_isT_list ?_
    | refine ⟨(_ : Option Int), rfl, ?_⟩ | refine ⟨(_ : D), g_subT rfl, ?_⟩ | refine ⟨(_ : D), g_subL (get_app _ _) rfl, ?_⟩ | refine ⟨(_ : D), g_subL (get_app2 _ _ _) rfl, ?_⟩ | refine ⟨(_ : D), g_subL (by assumption) rfl, ?_⟩ | refine ⟨(_ : D), g_subL (get_set (by assumption)) rfl, ?_⟩ | refine ⟨(_ : Store), g_set (by assumption) rfl, ?_⟩ | refine ⟨(_ : Store), g_set (get_set (by assumption)) rfl, ?_⟩
    | (with_reducible refine ⟨fun hh => ?_, fun hh => ?_⟩ <;> try exact absurd hh (by decide)) | refine ⟨by simp only [List.length_cons, List.length_nil]; decide, ?_⟩
    | simp only [List.set_cons_zero, List.set_cons_succ] | simp only [List.set_set]))
  refine w_eqPL 3 ((Ap.app _ _).get (get_app _ _)) (get_app _ _) (by decide +kernel) (by decide +kernel) (by decide) fun t ht => ?_
  rw [ht.mpr (by rfl)]
theorem law_W {ns : List Int} : (callN F (k + 11) 54 [.ref 0] [.fro (ns.map D.int)]).W fun d s => d = .bl true := by
  have hs0 : ([.fro (ns.map D.int)] : Store)[0]? = some (.fro (ns.map D.int)) := rfl
  rw [W_call A.law_ rfl]
  simp only [List.map_cons, List.map_nil, List.cons_append, List.nil_append, List.length_cons, List.length_nil, List.replicate_succ, List.replicate_zero, Nat.reduceAdd, Nat.reduceSub]
  have eb : T.law_.body = T.law_.body.take 1 ++ T.law_.body.drop 1 := (List.take_append_drop 1 _).symm
  have hfirst : T.law_.body = (T.law_.body.head (by simp [T.law_])) :: T.law_.body.drop 1 := rfl
  rw [hfirst]
  refine wSs_cons ?_
  simp only [T.law_, List.head_cons]
  refine wS_for (wEs_cons (wE_blt (wEs_cons (wE_cst (wEs_cons (wE_blt (wEs_cons (wE_cst (wEs_cons (wE_lenO (wE_var rfl (w_lenOF hs0 (wEs_nil (w_min (wEs_nil (w_max (wEs_nil ?_)))))))))))))))))
  generalize hj : (if (if (((ns.map D.int).length : Nat) : Int) < 3 then (((ns.map D.int).length : Nat) : Int) else 3) > 1 then (if (((ns.map D.int).length : Nat) : Int) < 3 then (((ns.map D.int).length : Nat) : Int) else 3) else 1) = j
  have hj2 : 1 ≤ j ∧ j ≤ 3 := by
    rw [← hj]
    split <;> split at * <;> omega
  refine ⟨_, g_rng (by omega), ?_⟩
  refine for_W (n := j.toNat) (fun i e s => (∃ y, e = [some (.ref 0), y, none, none]) ∧ s[0]? = some (.fro (ns.map D.int))) ⟨⟨none, rfl⟩, hs0⟩ ?_ ?_
  · rintro i e s hi ⟨⟨y, rfl⟩, hs⟩
    refine ⟨_, [some (.ref 0), some (.int (0 + (i : Nat))), none, none], f_rng hi, by rfl, ?_⟩
    refine wSs_cons (wS_if (wT (wE_not (wT (wE_call (wEs_cons (wE_call (wEs_cons (wE_var rfl (wEs_cons (wE_var rfl (wEs_nil ?_))))))))))))
    refine W_mono (diceO_W (aDice A) hs (by omega) (by omega)) fun d s1 ⟨dn, ed, en, a1, D1⟩ => ?_
    subst ed
    refine wEs_nil (W_mono (law_right A D1) fun d s2 ⟨ed, k2⟩ => ?_)
    subst ed
    refine ⟨_, rfl, _, rfl, fun z => (by cases z), fun _ => wSs_nil (wSs_nil ⟨⟨_, rfl⟩, k2.get (a1.get hs) ?_⟩)⟩
    have := lt_of_get hs
    omega
  · rintro e s ⟨⟨y, rfl⟩, hs⟩
    refine ⟨f_rngE, ?_⟩
    have := law_end (st := s) (k := k) (dn := 0) A (env := [some (.ref 0), y, none, none]) rfl
    simp only [T.law_] at this
    exact WS_mono this (fun _ _ h => h.elim) fun _ _ h => h
end
theorem law_true : ∀ ns : List Int, ns.length ≤ 63 → ∃ st', RX.callN (RX.fnOf gl tab) deep lawIx [.ref 0] [.fro (ns.map RX.D.int)] = .ok (.bl true) st' := by
  intro ns _
  obtain ⟨d, s, e, hd⟩ := W_out (law_W at_all (k := 9) (ns := ns))
  subst hd
  exact ⟨s, e⟩
end Law

namespace Law
open PySem PySem.W PySem.Calls PyProof.Rows L2
abbrev R : OpenRow := OpenLaw.row PySem.Challenge.rw_deedline_k08_whole_packed_lists_node_by
abbrev hk : Hook := RX.hookR 5 gl tab
def ob (s : SharedT) : He.AlX × (Bool × List He.FnW) := RX.obsR 5 gl tab (HandSHeadRun.getT s)
theorem ob_eq (s : SharedT) : ob s = hk.obs s.abs := RX.obsR_eq (HandSHeadRun.getT_eq s)
def names : List PySem.Str := (["_wall", "DeedError", "InvalidText", "InvalidOperation", "InvalidNumber", "TooMany", "MAX_TEXT", "is_integer", "is_within", "is_text", "require_text", "MAX_MEMBERS", "MOST_TEXTS", "MOST_SIGNS", "Bounds", "require_bounds", "require_first_texts", "does_node_fit", "parted_node", "joined_nodes", "require_place_below", "require_stop", "Pack", "_law_dice", "_law_roll", "_law_one_of", "_law_text", "_law_number", "_law_some", "_law_fits"] : List PySem.Str) ++ (["_law_drawn_numbers", "_law_parted", "_law_joined", "_law_spot", "_law_with", "_law_put", "_law_less", "_law_step", "_law_is_as", "_law_right"] : List PySem.Str)
theorem run (w : World) : HandSHeadRun.RunEq R (view R.prog [44]) hk ob 60000 names w := by
  intro os
  kernel_rfl
theorem tab_c : RX.tabC gl tab = true := by decide +kernel
theorem b0 : RX.BindP (0, dI 0 "_wall" ["k"] 1 [], defArgs (top 0)) := fun _ _ _ _ _ _ us hl => match us, hl with | [_], _ => rfl
theorem b1 : RX.BindP (7, dI 9 "is_integer" ["value"] 1 [], defArgs (top 9)) := fun _ _ _ _ _ _ us hl => match us, hl with | [_], _ => rfl
theorem b2 : RX.BindP (8, dI 10 "is_within" ["value", "least", "most"] 3 [], defArgs (top 10)) := fun _ _ _ _ _ _ us hl => match us, hl with | [_, _, _], _ => rfl
theorem b3 : RX.BindP (9, dI 11 "is_text" ["value", "sign"] 1 [], defArgs (top 11)) := fun _ _ _ _ _ _ us hl => match us, hl with | [_], _ => rfl
theorem b4 : RX.BindP (10, dI 12 "require_text" ["value"] 1 [], defArgs (top 12)) := fun _ _ _ _ _ _ us hl => match us, hl with | [_], _ => rfl
theorem b5 : RX.BindP (15, dM 17 0 "__init__" "Bounds.__init__" "Bounds" ["self", "texts", "signs", "members", "wide", "rows", "number", "least", "most"] 5 false [], defArgs (inn 17 0)) := fun _ _ _ _ _ _ us hl => match us, hl with | [_, _, _, _, _], _ => rfl
theorem b6 : RX.BindP (16, dI 18 "require_bounds" ["value"] 1 [], defArgs (top 18)) := fun _ _ _ _ _ _ us hl => match us, hl with | [_], _ => rfl
theorem b7 : RX.BindP (17, dI 19 "require_first_texts" ["value", "text"] 1 [], defArgs (top 19)) := fun _ _ _ _ _ _ us hl => match us, hl with | [_], _ => rfl
theorem b8 : RX.BindP (18, dI 20 "does_node_fit" ["bounds", "node", "text"] 2 [], defArgs (top 20)) := fun _ _ _ _ _ _ us hl => match us, hl with | [_, _], _ => rfl
theorem b9 : RX.BindP (19, dI 21 "parted_node" ["bounds", "texts", "found", "text"] 2 [], defArgs (top 21)) := fun _ _ _ _ _ _ us hl => match us, hl with | [_, _], _ => rfl
theorem b10 : RX.BindP (20, dI 22 "joined_nodes" ["bounds", "nodes", "first", "last", "found", "at", "node"] 4 [], defArgs (top 22)) := fun _ _ _ _ _ _ us hl => match us, hl with | [_, _, _, _], _ => rfl
theorem b11 : RX.BindP (21, dI 23 "require_place_below" ["value", "total"] 2 [], defArgs (top 23)) := fun _ _ _ _ _ _ us hl => match us, hl with | [_, _], _ => rfl
theorem b12 : RX.BindP (22, dI 24 "require_stop" ["value", "total"] 2 [], defArgs (top 24)) := fun _ _ _ _ _ _ us hl => match us, hl with | [_, _], _ => rfl
theorem b13 : RX.BindP (24, dM 25 0 "__init__" "Pack.__init__" "Pack" ["self", "bounds", "texts", "text"] 3 false [(.tup [])], defArgs (inn 25 0)) := fun _ _ _ _ _ _ _ us its hl hl2 => match us, hl, its, hl2 with | [_, _, _], _, [_], _ => ⟨_, rfl, rfl⟩
theorem b14 : RX.BindP (25, dM 25 1 "last_node" "Pack.last_node" "Pack" ["self"] 1 false [], defArgs (inn 25 1)) := fun _ _ _ _ _ _ us hl => match us, hl with | [_], _ => rfl
theorem b15 : RX.BindP (26, dM 25 2 "settle" "Pack.settle" "Pack" ["self", "at", "texts", "fresh", "nodes", "first", "last", "node", "text"] 3 false [], defArgs (inn 25 2)) := fun _ _ _ _ _ _ us hl => match us, hl with | [_, _, _], _ => rfl
theorem b16 : RX.BindP (27, dM 25 3 "spot_in_nodes" "Pack.spot_in_nodes" "Pack" ["self", "place", "at", "left"] 2 false [], defArgs (inn 25 3)) := fun _ _ _ _ _ _ us hl => match us, hl with | [_, _], _ => rfl
theorem b17 : RX.BindP (28, dM 25 4 "put" "Pack.put" "Pack" ["self", "place", "text", "at", "spot", "node"] 3 false [], defArgs (inn 25 4)) := fun _ _ _ _ _ _ us hl => match us, hl with | [_, _, _], _ => rfl
theorem b18 : RX.BindP (29, dM 25 5 "take" "Pack.take" "Pack" ["self", "place", "text", "at", "spot", "node"] 2 false [], defArgs (inn 25 5)) := fun _ _ _ _ _ _ us hl => match us, hl with | [_, _], _ => rfl
theorem b19 : RX.BindP (30, dM 25 6 "change" "Pack.change" "Pack" ["self", "place", "text", "at", "spot", "node"] 3 false [], defArgs (inn 25 6)) := fun _ _ _ _ _ _ us hl => match us, hl with | [_, _, _], _ => rfl
theorem b20 : RX.BindP (31, dM 25 7 "keep" "Pack.keep" "Pack" ["self", "start", "end", "place"] 3 false [], defArgs (inn 25 7)) := fun _ _ _ _ _ _ us hl => match us, hl with | [_, _, _], _ => rfl
theorem b21 : RX.BindP (32, dM 25 8 "at" "Pack.at" "Pack" ["self", "place"] 2 false [], defArgs (inn 25 8)) := fun _ _ _ _ _ _ us hl => match us, hl with | [_, _], _ => rfl
theorem b22 : RX.BindP (33, dM 25 9 "part" "Pack.part" "Pack" ["self", "start", "end"] 3 false [], defArgs (inn 25 9)) := fun _ _ _ _ _ _ us hl => match us, hl with | [_, _, _], _ => rfl
theorem b23 : RX.BindP (35, dM 25 13 "nodes" "Pack.nodes" "Pack" ["self"] 1 true [], defArgs (inn 25 13)) := fun _ _ _ _ _ _ us hl => match us, hl with | [_], _ => rfl
theorem b24 : RX.BindP (36, dM 25 14 "plain" "Pack.plain" "Pack" ["self"] 1 true [], defArgs (inn 25 14)) := fun _ _ _ _ _ _ us hl => match us, hl with | [_], _ => rfl
theorem b25 : RX.BindP (34, dM 25 15 "__len__" "Pack.__len__" "Pack" ["self"] 1 false [], defArgs (inn 25 15)) := fun _ _ _ _ _ _ us hl => match us, hl with | [_], _ => rfl
theorem b26 : RX.BindP (37, dI 27 "_law_dice" ["script", "at", "cell", "great", "left", "mixed"] 2 [], defArgs (top 27)) := fun _ _ _ _ _ _ us hl => match us, hl with | [_, _], _ => rfl
theorem b27 : RX.BindP (38, dI 28 "_law_roll" ["dice", "total", "size", "drawn", "one", "two"] 2 [], defArgs (top 28)) := fun _ _ _ _ _ _ us hl => match us, hl with | [_, _], _ => rfl
theorem b28 : RX.BindP (39, dI 29 "_law_one_of" ["dice", "items"] 2 [], defArgs (top 29)) := fun _ _ _ _ _ _ us hl => match us, hl with | [_, _], _ => rfl
theorem b29 : RX.BindP (40, dI 30 "_law_text" ["dice", "some"] 1 [], defArgs (top 30)) := fun _ _ _ _ _ _ us hl => match us, hl with | [_], _ => rfl
theorem b30 : RX.BindP (41, dI 31 "_law_number" ["dice"] 1 [], defArgs (top 31)) := fun _ _ _ _ _ _ us hl => match us, hl with | [_], _ => rfl
theorem b31 : RX.BindP (42, dI 32 "_law_some" ["dice", "call", "most", "turn"] 3 [], defArgs (top 32)) := fun _ _ _ _ _ _ us hl => match us, hl with | [_, _, _], _ => rfl
theorem b32 : RX.BindP (43, dI 33 "_law_fits" ["numbers", "node", "text"] 2 [], defArgs (top 33)) := fun _ _ _ _ _ _ us hl => match us, hl with | [_, _], _ => rfl
theorem b33 : RX.BindP (44, dI 34 "_law_drawn_numbers" ["dice"] 1 [], defArgs (top 34)) := fun _ _ _ _ _ _ us hl => match us, hl with | [_], _ => rfl
theorem b34 : RX.BindP (45, dI 35 "_law_parted" ["numbers", "texts", "found", "text"] 2 [], defArgs (top 35)) := fun _ _ _ _ _ _ us hl => match us, hl with | [_, _], _ => rfl
theorem b35 : RX.BindP (46, dI 36 "_law_joined" ["numbers", "nodes", "found", "node"] 2 [], defArgs (top 36)) := fun _ _ _ _ _ _ us hl => match us, hl with | [_, _], _ => rfl
theorem b36 : RX.BindP (47, dI 37 "_law_spot" ["nodes", "place", "left", "at", "node"] 2 [], defArgs (top 37)) := fun _ _ _ _ _ _ us hl => match us, hl with | [_, _], _ => rfl
theorem b37 : RX.BindP (48, dI 38 "_law_with" ["numbers", "nodes", "at", "texts", "new", "low", "high"] 4 [], defArgs (top 38)) := fun _ _ _ _ _ _ us hl => match us, hl with | [_, _, _, _], _ => rfl
theorem b38 : RX.BindP (49, dI 39 "_law_put" ["numbers", "nodes", "place", "text", "at", "inner"] 4 [], defArgs (top 39)) := fun _ _ _ _ _ _ us hl => match us, hl with | [_, _, _, _], _ => rfl
theorem b39 : RX.BindP (50, dI 40 "_law_less" ["numbers", "nodes", "place", "at", "inner"] 3 [], defArgs (top 40)) := fun _ _ _ _ _ _ us hl => match us, hl with | [_, _, _], _ => rfl
theorem b40 : RX.BindP (51, dI 41 "_law_step" ["dice", "numbers", "pack", "nodes", "plain", "node", "way", "text", "place", "at", "inner", "told", "texts", "start", "end", "far"] 4 [], defArgs (top 41)) := fun _ _ _ _ _ _ us hl => match us, hl with | [_, _, _, _], _ => rfl
theorem b41 : RX.BindP (52, dI 42 "_law_is_as" ["pack", "nodes", "plain", "node", "low", "high", "at", "text"] 2 [], defArgs (top 42)) := fun _ _ _ _ _ _ us hl => match us, hl with | [_, _], _ => rfl
theorem b42 : RX.BindP (53, dI 43 "_law_right" ["dice", "numbers", "nodes", "texts", "pack", "text", "turn", "node"] 1 [], defArgs (top 43)) := fun _ _ _ _ _ _ us hl => match us, hl with | [_], _ => rfl
theorem b43 : RX.BindP (54, dI 44 "law" ["script", "at", "pack", "told"] 1 [], defArgs (top 44)) := fun _ _ _ _ _ _ us hl => match us, hl with | [_], _ => rfl
theorem tab_b : ∀ p ∈ tab, RX.BindP p := by
  intro p hp
  unfold tab at hp
  simp only [List.mem_cons, List.not_mem_nil, or_false] at hp
  rcases hp with rfl | rfl | rfl | rfl | rfl | rfl | rfl | rfl | rfl | rfl | rfl | rfl | rfl | rfl | rfl | rfl | rfl | rfl | rfl | rfl | rfl | rfl | rfl | rfl | rfl | rfl | rfl | rfl | rfl | rfl | rfl | rfl | rfl | rfl | rfl | rfl | rfl | rfl | rfl | rfl | rfl | rfl | rfl | rfl
  · exact b0
  · exact b1
  · exact b2
  · exact b3
  · exact b4
  · exact b5
  · exact b6
  · exact b7
  · exact b8
  · exact b9
  · exact b10
  · exact b11
  · exact b12
  · exact b13
  · exact b14
  · exact b15
  · exact b16
  · exact b17
  · exact b18
  · exact b19
  · exact b20
  · exact b21
  · exact b22
  · exact b23
  · exact b24
  · exact b25
  · exact b26
  · exact b27
  · exact b28
  · exact b29
  · exact b30
  · exact b31
  · exact b32
  · exact b33
  · exact b34
  · exact b35
  · exact b36
  · exact b37
  · exact b38
  · exact b39
  · exact b40
  · exact b41
  · exact b42
  · exact b43
end Law

open PySem PySem.W PySem.Calls PyProof.Rows
theorem PySem.Challenge.cw_deedline_k08_whole_packed_lists_node_by_holds : PySem.Challenge.rw_deedline_k08_whole_packed_lists_node_by.Holds := by
  w_on; o_law
  refine HandSHeadRun.head_any (r := OpenLaw.row PySem.Challenge.rw_deedline_k08_whole_packed_lists_node_by) (q := view (OpenLaw.row PySem.Challenge.rw_deedline_k08_whole_packed_lists_node_by).prog [44]) (H := Law.hk) (ob := Law.ob) (M := 60000) (loose := Law.names) (d := HandSHeadRun.topDef (OpenLaw.row PySem.Challenge.rw_deedline_k08_whole_packed_lists_node_by).prog 44) (kwd := []) Law.ob_eq
    (by kernel_rfl) (fun s => by kernel_rfl) Law.run (by kernel_rfl) (by kernel_rfl) (by kernel_rfl) (by rfl) (by first | assumption | decide +kernel) (by decide +kernel) ⟨rfl, rfl, rfl, rfl, rfl, by decide +kernel⟩ ?hw ?hc
  case hw => w_witness2
  case hc =>
    refine L2.walk_ofE (l := PySem.Challenge.rw_deedline_k08_whole_packed_lists_node_by) (n := 63) (k := 2 * Law.deep) (x := "script") (CX := RX.CXu) rfl (by decide) (by kernel_rfl) ⟨rfl, by decide, by decide⟩ ?F (fun _ _ _ _ z => RX.cxu_no z)
    intro w mg fa h Y G hmg0
    obtain ⟨K, KX, c⟩ := Y
    have hmg : mg ("law" : PySem.Str) = some (.ref fa) := by
      have e : (HandSHeadRun.topDef (OpenLaw.row PySem.Challenge.rw_deedline_k08_whole_packed_lists_node_by).prog 44).name = ("law" : PySem.Str) := by kernel_rfl
      rw [← e]
      exact hmg0
    obtain ⟨fd, sp, hb, hsp, hF⟩ := RX.law_facts (P := (PySem.Challenge.rw_deedline_k08_whole_packed_lists_node_by).prog) (n := 63) (k := Law.deep) (i := Law.lawIx) (x := "script") Law.tab_c Law.tab_b (by rfl) (by rfl) (by rfl) (by rfl) Law.law_true KX G hmg c
    exact ⟨K, fd, sp, KX, hb, fun H a ns hl hO hS => hsp H a ns hl hO hS, hF⟩
