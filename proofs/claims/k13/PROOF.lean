import PyProof.Rows.All
import Wide.All
import OpenK.AllK
import Wide.FinOn
import KE.KDictKeyed
import KE.KEqNest
import KE.KSortTupG
import HandS.ForMost
import HandS.ForExc
import HandS.Wide
import HandS.Conv
import HandS.NoneIn
import HandS.IsInst
import HandS.Deep
import HandS.TupAny
import HandS.TupMul
import HandS.Style
import HandS.HeadHook2
import HandS.Head2
import HandS.HeadEnd
import HandS.Star
import HandS.ListItems
import HandS.TupLen
import KE.KRevSl
import KE.KDictDisplayH
import HandS.Head0
import HandS.Head1
import HandS.HeadHook1
import PySem.Challenge.RW_answerskept_k13_guards_and_facts
set_option Elab.async false
set_option linter.all false
set_option maxRecDepth 100000
namespace Z
open PySem

/-! ## data -/
inductive D where
  | non | bl (b : Bool) | int (i : Int) | str (x : Str)
  | tup (xs : List D) | lst (o : Bool) (xs : List D) | dic (o : Bool) (kvs : List (D × D)) | set (o : Bool) (xs : List D)
  | ins (o : Bool) (c : Nat) (fs : List D) | exn (c : Nat) (fs : List D) | clo (x : Str) (cs : List D)
  deriving Inhabited

mutual
def D.fz : D → Bool
  | .tup xs => D.fzs xs
  | .lst o xs => !o && D.fzs xs
  | .dic o kvs => !o && D.fzk kvs
  | .set o xs => !o && D.fzs xs
  | .ins o _ fs => !o && D.fzs fs
  | .exn _ fs => D.fzs fs
  | .clo _ cs => D.fzs cs
  | .non => true | .bl _ => true | .int _ => true | .str _ => true
def D.fzs : List D → Bool
  | [] => true
  | x :: r => x.fz && D.fzs r
def D.fzk : List (D × D) → Bool
  | [] => true
  | (a, b) :: r => a.fz && (b.fz && D.fzk r)
end
mutual
def D.frz : D → D
  | .tup xs => .tup (D.frzs xs)
  | .lst _ xs => .lst false (D.frzs xs)
  | .dic _ kvs => .dic false (D.frzk kvs)
  | .set _ xs => .set false (D.frzs xs)
  | .ins _ c fs => .ins false c (D.frzs fs)
  | .exn c fs => .exn c (D.frzs fs)
  | .clo f cs => .clo f (D.frzs cs)
  | .non => .non | .bl b => .bl b | .int i => .int i | .str x => .str x
def D.frzs : List D → List D
  | [] => []
  | x :: r => x.frz :: D.frzs r
def D.frzk : List (D × D) → List (D × D)
  | [] => []
  | (a, b) :: r => (a.frz, b.frz) :: D.frzk r
end
mutual
def D.imm : D → Bool
  | .tup xs => D.imms xs
  | .lst _ _ => false | .dic _ _ => false | .set _ _ => false | .ins _ _ _ => false | .exn _ _ => false | .clo _ _ => false
  | .non => true | .bl _ => true | .int _ => true | .str _ => true
def D.imms : List D → Bool
  | [] => true
  | x :: r => x.imm && D.imms r
end
/-! as the library's data (what == and repr speak of) -/
mutual
def D.py : D → Option PyData
  | .non => some .none
  | .bl b => some (.bool b)
  | .int i => some (.int i)
  | .str x => some (.str x)
  | .tup xs => (D.pys xs).map .tuple
  | .lst _ xs => (D.pys xs).map .list
  | .dic _ kvs => (D.pyk kvs).map .dict
  | .set _ _ => none | .ins _ _ _ => none | .exn _ _ => none | .clo _ _ => none
def D.pys : List D → Option (List PyData)
  | [] => some []
  | x :: r => match x.py, D.pys r with
    | some a, some b => some (a :: b)
    | _, _ => none
def D.pyk : List (D × D) → Option (List (PyData × PyData))
  | [] => some []
  | (k, v) :: r => match k.py, v.py, D.pyk r with
    | some a, some b, some c => some ((a, b) :: c)
    | _, _, _ => none
end
/-! as a key -/
mutual
def D.key : D → Option NestedKey
  | .non => some .none
  | .bl b => some (.num (if b then 1 else 0))
  | .int i => some (.num i)
  | .str x => some (.text x)
  | .tup xs => (D.keys xs).map .tup
  | .lst _ _ => none | .dic _ _ => none | .set _ _ => none | .ins _ _ _ => none | .exn _ _ => none | .clo _ _ => none
def D.keys : List D → Option (List NestedKey)
  | [] => some []
  | x :: r => match x.key, D.keys r with
    | some a, some b => some (a :: b)
    | _, _ => none
end
mutual
def D.depth : D → Nat
  | .tup xs => D.depths xs + 1
  | .lst _ xs => D.depths xs + 1
  | .dic _ kvs => D.depthk kvs + 1
  | .set _ xs => D.depths xs + 1
  | .ins _ _ fs => D.depths fs + 1
  | .exn _ fs => D.depths fs + 1
  | .clo _ cs => D.depths cs + 1
  | .non => 0 | .bl _ => 0 | .int _ => 0 | .str _ => 0
def D.depths : List D → Nat
  | [] => 0
  | x :: r => max x.depth (D.depths r)
def D.depthk : List (D × D) → Nat
  | [] => 0
  | (a, b) :: r => max a.depth (max b.depth (D.depthk r))
end

def D.ty : D → Option String
  | .non => some "NoneType" | .bl _ => some "bool" | .int _ => some "int" | .str _ => some "str" | .tup _ => some "tuple" | .lst _ _ => some "list" | .dic _ _ => some "dict" | _ => none
/-! equality and order, as Python has them -/
mutual
def D.eqv : D → D → Bool
  | .non, y => match y with | .non => true | _ => false
  | .bl b, y => match y with | .bl c => b == c | .int j => decide ((if b then 1 else 0) = j) | _ => false
  | .int i, y => match y with | .int j => decide (i = j) | .bl c => decide (i = (if c then 1 else 0)) | _ => false
  | .str x, y => match y with | .str z => decide (x = z) | _ => false
  | .tup xs, y => match y with | .tup ys => D.eqvs xs ys | _ => false
  | .lst _ xs, y => match y with | .lst _ ys => D.eqvs xs ys | _ => false
  | .dic _ xs, y => match y with | .dic _ ys => xs.length == ys.length && D.eqvk xs ys | _ => false
  | .set _ _, _ => false | .ins _ _ _, _ => false | .exn _ _, _ => false | .clo _ _, _ => false
def D.eqvs : List D → List D → Bool
  | [], ys => match ys with | [] => true | _ => false
  | x :: xs, ys => match ys with | y :: ys => D.eqv x y && D.eqvs xs ys | [] => false
def D.eqvk : List (D × D) → List (D × D) → Bool
  | [], _ => true
  | (k, v) :: r, ys => (match ys.find? (fun q => match k.key, q.1.key with | some a, some b => decide (a = b) | _, _ => false) with | some q => D.eqv v q.2 | none => false) && D.eqvk r ys
end
mutual
def D.lt : D → D → Option Bool
  | .int i, y => match y with | .int j => some (decide (i < j)) | _ => none
  | .str x, y => match y with | .str z => some (decide (x.cps.toList < z.cps.toList)) | _ => none
  | .tup xs, y => match y with | .tup ys => D.lts xs ys | _ => none
  | .lst _ xs, y => match y with | .lst _ ys => D.lts xs ys | _ => none
  | .non, _ => none | .bl _, _ => none | .dic _ _, _ => none | .set _ _, _ => none | .ins _ _ _, _ => none | .exn _ _, _ => none | .clo _ _, _ => none
def D.lts : List D → List D → Option Bool
  | [], ys => match ys with | [] => some false | _ => some true
  | x :: xs, ys => match ys with | [] => some false | y :: ys => if x.eqv y then D.lts xs ys else D.lt x y
end

/-! ## the text -/
inductive Bin where | add | sub | mul | mod | fdiv | pow | shl | shr | band
inductive Cmp where | eq | ne | lt | le | gt | ge | inn | nin
inductive Ty where | int | bool | str | tup | lst | dct | cls (c : Nat)
inductive Bi where | len | int | abs | tuple | list | sorted | repr | dict | max | min | sum | all | any | set | str
def Bi.copies : Bi → Bool | .tuple => true | .list => true | .sorted => true | .dict => true | .set => true | .max => true | .min => true | .sum => true | _ => false
inductive Met where | get | join | upper | split | index | count | partition | lstrip
inductive Mut where | append | insert | extend | setdefault | pop | update | clear | add
mutual
inductive Exp where
  | cst (d : D) | var (i : Nat) | glo (k : Nat)
  | bin (op : Bin) (a b : Exp) | neg (a : Exp) | not (a : Exp)
  | cmp (op : Cmp) (a b : Exp) | cmp2 (op1 op2 : Cmp) (a b c : Exp) | isN (n : Bool) (a : Exp) | isB (n v : Bool) (a : Exp)
  | and (a b : Exp) | or (a b : Exp) | ife (c a b : Exp)
  | tup (es : Exps) | lst (es : Exps) | dct (kvs : KVs) | set (es : Exps)
  | idx (a i : Exp) | sli (a lo hi : Exp) | rev (a : Exp)
  | call (f : Nat) (as : Exps) | bi (b : Bi) (as : Exps) | isi (a : Exp) (t : Ty) | met (m : Met) (a : Exp) (as : Exps)
  | itr (b : Bi) (it : Itr) | sky (a : Exp) (f : Nat)
  | lc (own : List Nat) (elt : Exp) (cs : Cls) | dc (own : List Nat) (k v : Exp) (cs : Cls) | sc (own : List Nat) (elt : Exp) (cs : Cls)
  | mut (m : Mut) (i : Nat) (p : Exps) (as : Exps)
  | attr (a : Exp) (k : Nat) | new (c : Nat) (as : Exps) | meth (m : Nat) (a : Exp) (as : Exps)
  | lam (f : Nat) (caps : List Nat) | app (a : Exp) (as : Exps)
inductive Exps where | nil | cons (e : Exp) (r : Exps) | star (e : Exp) (r : Exps)
inductive KVs where | nil | cons (k v : Exp) (r : KVs) | star (e : Exp) (r : KVs)
inductive Itr where | ex (e : Exp) | range (as : Exps) | enum (it : Itr) | zip (a b : Itr) | items (e : Exp) | vals (e : Exp) | keys (e : Exp)
inductive Cls where | nil | cons (t : Tgt) (it : Itr) (ifs : Exps) (r : Cls)
inductive Tgt where | var (i : Nat) | tup (ts : Tgts) | sub (i : Nat) (p : Exps) (k : Exp) | attr (i : Nat) (k : Nat)
inductive Tgts where | nil | cons (t : Tgt) (r : Tgts)
end
mutual
inductive Stm where
  | asg (t : Tgt) (e : Exp) | asg2 (t u : Tgt) (e : Exp) | aug (t : Tgt) (op : Bin) (e : Exp) | ex (e : Exp) | sda (i : Nat) (k e : Exp)
  | ifS (c : Exp) (a b : Stms) | forS (t : Tgt) (it : Itr) (b : Stms) | whileS (c : Exp) (b : Stms)
  | ret (e : Exp) | retN | brk | cnt | pass | raise (c : Nat) (as : Exps) | tryS (b : Stms) (hs : Hds)
inductive Stms where | nil | cons (s : Stm) (r : Stms)
inductive Hds where | nil | cons (c : Nat) (n : Option Nat) (b : Stms) (r : Hds)
end

def Exps.plain : Exps → Bool | .nil => true | .cons _ r => r.plain | .star _ _ => false
/-! ## results -/
/-- a local name: without a value, its value, or one that is lent for reading alone -/
inductive Sl where | no | v (d : D) | r (d : D) | q (d : D)
abbrev Env := List Sl
def Sl.get : Sl → Option D | .no => none | .v d => some d | .r d => some d | .q d => some d
def look (env : Env) (i : Nat) : Option D := (env.getD i .no).get
inductive R (α : Type) where | ok (a : α) | exc (x : D) (e : Env) | bad
def R.bind {α β : Type} (r : R α) (f : α → R β) : R β := match r with | .ok a => f a | .exc x e => .exc x e | .bad => .bad
def R.of {α : Type} (o : Option α) : R α := match o with | some a => .ok a | none => .bad
inductive C where | ok (r : D) (outs : List D) | exc (x : D) (outs : List D) | bad
/-- an operand: a value of its own, a local name, a display (its parts are looked at where it is used) -/
inductive Opd where | val (d : D) | pl (i : Nat) | dsp (t : Bool) (os : List Opd)
inductive Fl where | nx | rt (d : D) | bk | ct
/-- what lies within is frozen, the container itself is not -/
def D.kids : D → D
  | .tup xs => .tup (D.frzs xs) | .lst o xs => .lst o (D.frzs xs) | .dic o kvs => .dic o (D.frzk kvs) | .set o xs => .set o (D.frzs xs) | .ins o c fs => .ins o c (D.frzs fs) | d => d.frz
def D.kimm : D → Bool | .tup xs => D.imms xs | .lst _ xs => D.imms xs | .dic _ kvs => kvs.all fun q => q.1.imm && q.2.imm | .set _ xs => D.imms xs | .ins _ _ fs => D.imms fs | _ => true
def box (t : Bool) (ds : List D) : D := if t then .tup ds else .lst true ds
/-! read -/
mutual
def Opd.rd : Opd → Env → Option D
  | .val d, _ => some d
  | .pl i, env => look env i
  | .dsp t os, env => (rds os env).map (box t)
def rds : List Opd → Env → Option (List D)
  | [], _ => some []
  | o :: r, env => match Opd.rd o env, rds r env with | some d, some ds => some (d :: ds) | _, _ => none
end
/-! as a value that is handed on: what may be changed elsewhere is frozen -/
mutual
def Opd.take : Opd → Env → Option (D × Env)
  | .val d, env => some (d, env)
  | .pl i, env => (match env.getD i .no with | .v d => some (d.frz, env.set i (.v d.frz)) | .r d => if d.imm then some (d, env) else none | .q d => if d.imm then some (d, env) else none | .no => none)
  | .dsp t os, env => (match takes os env with | some (ds, e) => some (box t ds, e) | none => none)
def takes : List Opd → Env → Option (List D × Env)
  | [], env => some ([], env)
  | o :: r, env => match Opd.take o env with
    | some (d, env1) => (match takes r env1 with | some (ds, env2) => some (d :: ds, env2) | none => none)
    | none => none
end
/-- as a thing that stands still while it is walked -/
def Opd.fix (o : Opd) (env : Env) : Option (D × Env) := match o with
  | .pl i => (match env.getD i .no with | .v d => some (d.frz, env.set i (.v d.frz)) | .r d => some (d, env) | .q d => if d.kimm then some (d, env) else none | .no => none)
  | o => (match o.take env with | some (d, e) => some (d.frz, e) | none => none)
/-- read, what lies within being frozen (a copy of it is handed on) -/
def Opd.rdk (o : Opd) (env : Env) : Option (D × Env) := match o with
  | .pl i => (match env.getD i .no with | .v d => some (d.kids, env.set i (.v d.kids)) | .r d => some (d, env) | .q d => if d.kimm then some (d, env) else none | .no => none)
  | o => (match o.take env with | some (d, e) => some (d.kids, e) | none => none)
def rdks : List Opd → Env → Option (List D × Env)
  | [], env => some ([], env)
  | o :: r, env => match o.rdk env with
    | some (d, e1) => (match rdks r e1 with | some (ds, e2) => some (d :: ds, e2) | none => none)
    | none => none
def fixes : List Nat → Env → Option (List D × Env)
  | [], env => some ([], env)
  | i :: r, env => match (Opd.pl i).fix env with
    | some (d, e1) => (match fixes r e1 with | some (ds, e2) => some (d :: ds, e2) | none => none)
    | none => none
/-! ## operations on data -/
def deepest : Nat := 40
def D.flat (d : D) : Bool := decide (d.depth ≤ deepest)
def line : Nat := 1048576
def truth : D → Option Bool
  | .non => some false | .bl b => some b | .int i => some (i != 0) | .str x => if x.length ≤ line then some (x.length != 0) else none
  | .tup xs => some (!xs.isEmpty) | .lst _ xs => some (!xs.isEmpty)
  | _ => none
def big : Int := 2 ^ 64
def binD (op : Bin) (x y : D) : Option D := match op, x, y with
  | .add, .int i, .int j => some (.int (i + j))
  | .add, .str a, .str b => if a.length + b.length ≤ line then some (.str (a ++ b)) else none
  | .add, .lst _ a, .lst _ b => if D.fzs a && D.fzs b && decide (a.length + b.length ≤ line) then some (.lst true (a ++ b)) else none
  | .add, .tup a, .tup b => if D.fzs a && D.fzs b && decide (a.length + b.length ≤ line) then some (.tup (a ++ b)) else none
  | .add, .int i, .bl b => some (.int (i + if b then 1 else 0))
  | .sub, .int i, .int j => some (.int (i - j))
  | .mul, .int i, .int j => if (decide (-big < i) && decide (i < big)) || (decide (-big < j) && decide (j < big)) then some (.int (i * j)) else none
  | .mul, .lst _ a, .int j => if D.fzs a && decide (0 ≤ j) && decide (j ≤ line) && decide (a.length * j.toNat ≤ line) then some (.lst true (List.replicate j.toNat a).flatten) else none
  | .mod, .int i, .int j => if j = 0 then none else some (.int (i.fmod j))
  | .fdiv, .int i, .int j => if 0 < j ∧ j < 10 ^ 60 then some (.int (i / j)) else none
  | .pow, .int i, .int j => if 0 ≤ j ∧ j ≤ 1000 ∧ -1000 ≤ i ∧ i ≤ 1000 then some (.int (i ^ j.toNat)) else none
  | .shl, .int i, .int j => if 0 ≤ j ∧ j ≤ 1000 ∧ -big < i ∧ i < big then some (.int (i * 2 ^ j.toNat)) else none
  | .shr, .int i, .int j => if 0 ≤ j then some (.int (i / 2 ^ j.toNat)) else none
  | .band, .int i, .int j => some (.int (Builtin.bitAnd i j))
  | _, _, _ => none
def sub? (x y : Str) : Bool := !(Builtin.Str.occurrences y x 0 y.length 1).isEmpty
def lookK (kvs : List (D × D)) (k : NestedKey) : Option D := match kvs with
  | [] => none
  | (a, v) :: r => if a.key = some k then some v else lookK r k
def putK (kvs : List (D × D)) (kd : D) (k : NestedKey) (v : D) : List (D × D) := match kvs with
  | [] => [(kd, v)]
  | (a, u) :: r => if a.key = some k then (a, v) :: r else (a, u) :: putK r kd k v
def dropK (kvs : List (D × D)) (k : NestedKey) : List (D × D) := kvs.filter fun q => !decide (q.1.key = some k)
def isScal : D → Bool | .int _ => true | .str _ => true | _ => false
def isTup : D → Bool | .tup _ => true | _ => false
/-- a key fits a dict: ints and texts alone, or tuples alone -/
def keyFits (kvs : List (D × D)) (k : D) : Bool := decide (k.depth ≤ 8) && ((isScal k && kvs.all fun q => isScal q.1) || (isTup k && kvs.all fun q => isTup q.1))
/-- as data that == speaks of -/
def D.shp (d : D) : Option PyData := match d.py with | some p => if SeqAt.shaped p then some p else none | none => none
def eqD (x y : D) : Option Bool := match x, y with
  | .str a, .str b => some (a == b)
  | x, y => (match x.shp, y.shp with
    | some p, some q => some (PyData.eqv p q)
    | _, _ => (match x, y with | .tup xs, .tup [] => some xs.isEmpty | .lst _ xs, .lst _ [] => some xs.isEmpty | _, _ => none))
def neD (x y : D) : Option Bool := match x, y with
  | .str a, .str b => some (!(a == b))
  | x, y => (match x.shp, y.shp with
    | some p, some q => some (!PyData.eqv p q)
    | _, _ => (match x, y with | .tup xs, .tup [] => some (!xs.isEmpty) | _, _ => none))
def isFlat : D → Bool | .int _ => true | .str _ => true | .bl _ => true | .non => true | _ => false
def inD (x y : D) : Option Bool := match y with
  | .str b => (match x with | .str a => some (sub? a b) | _ => none)
  | .lst o ys => (match x.shp, (D.lst o ys).shp with | some p, some (.list qs) => some (qs.any fun z => PyData.eqv z p) | _, _ => none)
  | .tup ys => if isFlat x && ys.all isFlat then (match x.shp, (D.tup ys).shp with | some p, some (.tuple qs) => some (qs.any fun z => PyData.eqv z p) | _, _ => none) else none
  | _ => none
def cmpD (op : Cmp) (x y : D) : Option Bool := match op with
  | .eq => eqD x y
  | .ne => neD x y
  | .lt => (match x, y with | .int i, .int j => some (decide (i < j)) | .str a, .str b => some (decide (a.cps.toList < b.cps.toList)) | _, _ => none)
  | .le => (match x, y with | .int i, .int j => some (decide (i ≤ j)) | .str a, .str b => some (!decide (b.cps.toList < a.cps.toList)) | _, _ => none)
  | .gt => (match x, y with | .int i, .int j => some (decide (j < i)) | .str a, .str b => some (decide (b.cps.toList < a.cps.toList)) | _, _ => none)
  | .ge => (match x, y with | .int i, .int j => some (decide (j ≤ i)) | .str a, .str b => some (!decide (a.cps.toList < b.cps.toList)) | _, _ => none)
  | .inn => inD x y
  | .nin => (inD x y).map (!·)
def getD? (x k : D) : Option D := match x, k with
  | .lst _ xs, .int i => L2.atI xs i
  | .tup xs, .int i => L2.atI xs i
  | .str s, .int i => if s.length ≤ line then (L2.atI s.cps.toList i).map fun c => .str ⟨#[c]⟩ else none
  | _, _ => none
def optI : D → Option (Option Int) | .non => some none | .int i => some (some i) | _ => none
def cutD {α : Type} (xs : List α) (lo hi : Option Int) : List α := (xs.drop (HT.sIx xs.length 0 lo)).take (HT.sIx xs.length xs.length hi - HT.sIx xs.length 0 lo)
def sliC (x : D) (l h : Option Int) : Option D := match x with
    | .lst _ xs => if D.fzs xs then some (.lst true (cutD xs l h)) else none
    | .tup xs => if D.fzs xs then some (.tup (cutD xs l h)) else none
    | .str s => if s.length ≤ line then some (.str (L2.cutS s l h)) else none
    | _ => none
def sliD (x lo hi : D) : Option D := match optI lo, optI hi with
  | some l, some h => sliC x l h
  | _, _ => none
def revD : D → Option D
  | .lst _ xs => if D.fzs xs then some (.lst true xs.reverse) else none
  | .str s => if s.length ≤ line then some (.str ⟨s.cps.reverse⟩) else none
  | _ => none
def allLt (xs : List D) : Bool := xs.all fun x => xs.all fun y => (D.lt x y).isSome
def leD (x y : D) : Bool := !((D.lt y x).getD false)
def sortD (xs : List D) : Option (List D) := if allLt xs && D.fzs xs && xs.all D.flat then some (xs.mergeSort leD) else none
def dedupD : List D → List NestedKey → Option (List D)
  | [], _ => some []
  | x :: r, seen => match x.key with
    | some k => if k ∈ seen then dedupD r seen else (dedupD r (k :: seen)).map (x :: ·)
    | none => none
def intsOf : List D → Option (List Int)
  | [] => some []
  | .int i :: r => (intsOf r).map (i :: ·)
  | _ :: _ => none
def listsOf : List D → Option (List (List D))
  | [] => some []
  | .lst _ xs :: r => (listsOf r).map (xs :: ·)
  | _ :: _ => none
def boolsOf : List D → Option (List Bool)
  | [] => some []
  | .bl b :: r => (boolsOf r).map (b :: ·)
  | _ :: _ => none
def truths : List D → Option (List Bool)
  | [] => some []
  | x :: r => match truth x, truths r with | some b, some bs => some (b :: bs) | _, _ => none
def strs? : List D → Option (List Str)
  | [] => some []
  | .str i :: r => (strs? r).map (i :: ·)
  | _ :: _ => none
def pairs? : List D → Option (List (D × D))
  | [] => some []
  | .tup [a, b] :: r => (pairs? r).map ((a, b) :: ·)
  | _ :: _ => none
def putAll (kvs : List (D × D)) : List (D × D) → Option (List (D × D))
  | [] => some kvs
  | (k, v) :: r => match k.key with | some q => if keyFits kvs k then putAll (putK kvs k q v) r else none | none => none
def seqOf : D → Option (List D) | .lst _ xs => some xs | .tup xs => some xs | .dic _ kvs => some (kvs.map (·.1)) | .str s => some (s.cps.toList.map fun c => .str ⟨#[c]⟩) | _ => none
def seqLT : D → Option (List D) | .lst _ xs => some xs | .tup xs => some xs | _ => none
def leastI (m : Int) : List Int → Int | [] => m | x :: r => leastI (if x < m then x else m) r
def mostI (m : Int) : List Int → Int | [] => m | x :: r => mostI (if m < x then x else m) r
def leastD (m : D) : List D → Option D | [] => some m | x :: r => match D.lt x m with | some b => leastD (if b then x else m) r | none => none
def mostD (m : D) : List D → Option D | [] => some m | x :: r => match D.lt m x with | some b => mostD (if b then x else m) r | none => none
def strOf (s : D) : Option Str := match s with | .int i => some (toString i) | .str x => some x | _ => none
def biD (b : Bi) (xs : List D) : Option D := match b, xs with
  | .len, [.lst _ xs] => some (.int xs.length) | .len, [.tup xs] => some (.int xs.length) | .len, [.str s] => if s.length ≤ line then some (.int s.length) else none | .len, [.dic _ xs] => some (.int xs.length) | .len, [.set _ xs] => some (.int xs.length)
  | .int, [.int i] => some (.int i) | .int, [.bl b] => some (.int (if b then 1 else 0))
  | .abs, [.int i] => some (.int (if i < 0 then -i else i))
  | .tuple, [x] => (match seqLT x with | some ys => if D.fzs ys then some (.tup ys) else none | none => none)
  | .list, [x] => (match seqLT x with | some ys => if D.fzs ys then some (.lst true ys) else none | none => none)
  | .sorted, [.set _ ys] => (sortD ys).map (.lst true ·)
  | .sorted, [x] => (match seqOf x with | some ys => (sortD ys).map (.lst true ·) | none => none)
  | .repr, [x] => (match x.py with | some d => if d.showable && x.flat && decide (d.shown.length ≤ line) then some (.str d.shown) else none | none => none)
  | .dict, [.dic _ kvs] => if D.fzk kvs then some (.dic true kvs) else none
  | .dict, [.lst _ ys] => (match pairs? ys with | some kvs => if D.fzk kvs then (putAll [] kvs).map (.dic true ·) else none | none => none)
  | .dict, [] => some (.dic true [])
  | .max, [.int i, .int j] => some (.int (if j > i then j else i)) | .min, [.int i, .int j] => some (.int (if j < i then j else i))
  | .max, [x] => (match seqOf x with | some (y :: ys) => if D.fzs (y :: ys) then mostD y ys else none | _ => none)
  | .min, [x] => (match seqOf x with | some (y :: ys) => if D.fzs (y :: ys) then leastD y ys else none | _ => none)
  | .max, (.int i :: r) => (intsOf r).map fun is => .int (mostI i is)
  | .min, (.int i :: r) => (intsOf r).map fun is => .int (leastI i is)
  | .sum, [.lst _ ys, .lst _ zs] => (listsOf ys).map fun ls => .lst true (zs ++ ls.flatten)
  | .sum, [.lst _ ys] => (intsOf ys).map fun is => .int is.sum
  | .all, [.lst _ ys] => (boolsOf ys).map fun bs => .bl (bs.all id)
  | .any, [.lst _ ys] => (boolsOf ys).map fun bs => .bl (bs.any id)
  | .set, [x] => (match seqOf x with | some ys => if D.fzs ys then (dedupD ys []).map (.set true ·) else none | none => none)
  | .set, [] => some (.set true [])
  | .str, [x] => (strOf x).map .str
  | _, _ => none
def isiV (x : D) (t : Ty) : Bool := match t with
  | .int => (match x with | .int _ => true | .bl _ => true | _ => false)
  | .bool => (match x with | .bl _ => true | _ => false)
  | .str => (match x with | .str _ => true | _ => false)
  | .tup => (match x with | .tup _ => true | _ => false)
  | .lst => (match x with | .lst _ _ => true | _ => false)
  | .dct => (match x with | .dic _ _ => true | _ => false)
  | .cls c => (match x with | .ins _ d _ => c == d | .exn d _ => c == d | _ => false)
def isiD (x : D) (t : Ty) : Option Bool := match x with | .clo _ _ => none | _ => some (isiV x t)
def metD (m : Met) (x : D) (as : List D) : Option D := match m, x, as with
  | .get, .dic _ kvs, [k] => (match k.key with | some q => if keyFits kvs k then (match lookK kvs q with | some v => if v.fz then some v else none | none => some .non) else none | none => none)
  | .get, .dic _ kvs, [k, d] => (match k.key with | some q => if keyFits kvs k then (match lookK kvs q with | some v => if v.fz then some v else none | none => some d) else none | none => none)
  | .join, .str s, [.lst _ ys] => (match strs? ys with | some ts => if (ts.map (·.length)).sum + ts.length * s.length ≤ line then some (.str (Txt.join s ts)) else none | none => none)
  | .upper, .str s, [] => if s.length ≤ 100000 then some (.str (Txt.upper s)) else none
  | .index, .lst _ ys, [k] => (match k.shp, (D.lst false ys).shp with | some p, some (.list qs) => (match qs.findIdx? (fun z => PyData.eqv z p) with | some i => some (.int i) | none => none) | _, _ => none)
  | .index, .tup ys, [k] => (match k.shp, (D.lst false ys).shp with | some p, some (.list qs) => (match qs.findIdx? (fun z => PyData.eqv z p) with | some i => some (.int i) | none => none) | _, _ => none)
  | .count, .lst _ ys, [k] => (match k.shp, (D.lst false ys).shp with | some p, some (.list qs) => some (.int (qs.countP fun z => PyData.eqv z p)) | _, _ => none)
  | .count, .tup ys, [k] => (match k.shp, (D.lst false ys).shp with | some p, some (.list qs) => some (.int (qs.countP fun z => PyData.eqv z p)) | _, _ => none)
  | .split, .str s, [.str t] => if t.length = 0 then none else some (.lst true ((Txt.split s t).map .str))
  | .partition, .str s, [.str t] => if t.length = 0 then none else (let q := Txt.partition s t; some (.tup [.str q.1, .str q.2.1, .str q.2.2]))
  | .count, .str s, [.str t] => if t.length = 0 then none else some (.int (Builtin.Str.occurrences s t 0 s.length (2 ^ 60)).length)
  | _, _, _ => none
/-- a container that is changed in place: its new content, what is handed back -/
def mutD (m : Mut) (x : D) (as : List D) : Option (D × D) := match m, x, as with
  | .append, .lst true xs, [v] => if xs.length < line then some (.lst true (xs ++ [v]), .non) else none
  | .insert, .lst true xs, [.int i, v] => if xs.length < line ∧ 0 ≤ i ∧ i ≤ xs.length then some (.lst true (xs.take i.toNat ++ v :: xs.drop i.toNat), .non) else none
  | .extend, .lst true xs, [.lst _ ys] => if D.fzs ys && decide (xs.length + ys.length ≤ line) then some (.lst true (xs ++ ys), .non) else none
  | .pop, .lst true xs, [] => (match xs.getLast? with | some v => some (.lst true xs.dropLast, v) | none => none)
  | .pop, .lst true xs, [.int i] => (match L2.ixN xs.length i with | some j => (match xs[j]? with | some v => some (.lst true (xs.eraseIdx j), v) | none => none) | none => none)
  | .pop, .dic true kvs, [k] => (match k.key with | some q => if keyFits kvs k then (match lookK kvs q with | some v => some (.dic true (dropK kvs q), v) | none => none) else none | none => none)
  | .pop, .dic true kvs, [k, d] => (match k.key with | some q => if keyFits kvs k then (match lookK kvs q with | some v => some (.dic true (dropK kvs q), v) | none => some (.dic true kvs, d)) else none | none => none)
  | .setdefault, .dic true kvs, [k, d] => (match k.key with
    | some q => if keyFits kvs k && k.fz && d.fz then (match lookK kvs q with | some v => if v.fz then some (.dic true kvs, v) else none | none => some (.dic true (putK kvs k q d), d)) else none
    | none => none)
  | .update, .dic true kvs, [.dic _ more] => if D.fzk more then (putAll kvs more).map fun r => (.dic true r, .non) else none
  | .add, .set true xs, [v] => (match v.key with | some k => if xs.any (fun y => decide (y.key = some k)) then some (.set true xs, .non) else some (.set true (xs ++ [v]), .non) | none => none)
  | .clear, .lst true _, [] => some (.lst true [], .non)
  | .clear, .dic true _, [] => some (.dic true [], .non)
  | _, _, _ => none
def setD (x k v : D) : Option D := match x, k with
  | .lst true xs, .int i => (match L2.ixN xs.length i with | some j => some (.lst true (xs.set j v)) | none => none)
  | _, _ => none
/-- the container at a path within x, changed by f -/
def atP {α : Type} (x : D) : List D → (D → Option (D × α)) → Option (D × α)
  | [], f => f x
  | k :: r, f => match x with
    | .lst true xs => (match k with
      | .int i => (match L2.ixN xs.length i with
        | some j => (match xs[j]? with
          | some y => (match atP y r f with | some (z, a) => some (.lst true (xs.set j z), a) | none => none)
          | none => none)
        | none => none)
      | _ => none)
    | .dic true kvs => (match k.key with
      | some q => if keyFits kvs k then (match lookK kvs q with
        | some y => (match atP y r f with | some (z, a) => some (.dic true (putK kvs k q z), a) | none => none)
        | none => none) else none
      | none => none)
    | .ins true c fs => (match k with
      | .int i => (match fs[i.toNat]? with
        | some y => (match atP y r f with | some (z, a) => some (.ins true c (fs.set i.toNat z), a) | none => none)
        | none => none)
      | _ => none)
    | _ => none

/-! ## evaluation -/
structure Prog where
  glob : List D
  mode : List (List Nat)             -- by def, by parameter: 0 by value, 1 changed in place, 2 read alone
  meths : List (List (Option Nat))   -- by class, by method: the def
  inits : List (Option Nat)
  nfld : List Nat
  sub : List (List Nat)              -- by exception class: the classes above (itself too)
  fns : List Str                     -- the defs' names
def nmIx : List Str → Str → Option Nat
  | [], _ => none
  | y :: r, x => if y = x then some 0 else (nmIx r x).map (· + 1)

section
variable (P : Prog) (cf : Nat → List D → C) (io : List Nat)
def prep : List Nat → List Opd → Env → Option (List D × Env)
  | [], [], env => some ([], env)
  | m :: ms, o :: r, env => if m = 1 then (match o with
      | .pl i => (match env.getD i .no with
        | .v d => (match prep ms r (env.set i .no) with | some (ds, e) => some (d :: ds, e) | none => none)
        | _ => none)
      | o => (match o.take env with
        | some (d, e1) => (match prep ms r e1 with | some (ds, e) => some (d :: ds, e) | none => none)
        | none => none))
    else if m = 0 then (match o.take env with
      | some (d, e1) => (match prep ms r e1 with | some (ds, e) => some (d.frz :: ds, e) | none => none)
      | none => none)
    else none
  | _, _, _ => none
def back : List Nat → List Opd → List D → Env → Option Env
  | [], _, [], env => some env
  | m :: ms, o :: os, outs, env => if m = 1 then (match outs, o with
      | d :: outs, .pl i => back ms os outs (env.set i (.v d))
      | _ :: outs, _ => back ms os outs env
      | [], _ => none)
    else back ms os outs env
  | _, _, _, _ => none
def callF (f : Nat) (os : List Opd) (env : Env) : R (Opd × Env) := match prep (P.mode.getD f []) os env with
  | none => .bad
  | some (ds, env1) => (match cf f ds with
    | .bad => .bad
    | .ok r outs => (match back (P.mode.getD f []) os outs env1 with | some e => .ok (.val r, e) | none => .bad)
    | .exc x outs => (match back (P.mode.getD f []) os outs env1 with | some e => .exc x e | none => .bad))
def rangeD : List D → Option (List D)
  | [.int n] => if n < 2 ^ 62 ∧ -(2 ^ 62) ≤ n then some ((List.range n.toNat).map fun (i : Nat) => .int (i : Int)) else none
  | [.int a, .int b] => if (b < 2 ^ 62 ∧ -(2 ^ 62) ≤ b) ∧ (a < 2 ^ 62 ∧ -(2 ^ 62) ≤ a) then some ((List.range (b - a).toNat).map fun (i : Nat) => .int (a + (i : Int))) else none
  | _ => none
def wipe (env : Env) : List Nat → Env
  | [] => env
  | i :: r => (wipe env r).set i .no
def unwipe (old : Env) (env : Env) : List Nat → Env
  | [] => env
  | i :: r => (unwipe old env r).set i (old.getD i .no)
def forC (asg : D → Env → R Env) (leaf : List D → Env → R (List D × Env)) (test : Env → R (Bool × Env)) (own : List Nat) : List D → List D → Env → R (List D × Env)
  | [], acc, env => .ok (acc, env)
  | x :: r, acc, env => (asg x env).bind fun e1 => (test e1).bind fun p => if p.1 then (leaf acc p.2).bind fun q => forC asg leaf test own r q.1 (wipe q.2 own) else forC asg leaf test own r acc (wipe p.2 own)
def ownOk (env : Env) (own : List Nat) : Bool := own.all fun i => match env.getD i .no with | .v d => d.fz | _ => true
def spTake : List (Bool × Opd) → Env → Option (List D × Env)
  | [], env => some ([], env)
  | (false, o) :: r, env => (match o.take env with
    | some (d, e1) => (match spTake r e1 with | some (ds, e2) => some (d :: ds, e2) | none => none)
    | none => none)
  | (true, o) :: r, env => (match o.take env with
    | some (d, e1) => (match seqOf d.frz with
      | some xs => (match spTake r e1 with | some (ds, e2) => some (xs ++ ds, e2) | none => none)
      | none => none)
    | none => none)
def unflat : List D → Option (List (D × D))
  | [] => some []
  | k :: v :: r => (unflat r).map ((k, v) :: ·)
  | [_] => none
def okKV (kvs : List (D × D)) : Bool := (kvs.all fun q => q.1.fz && decide (q.1.depth ≤ 8)) && ((kvs.all fun q => isScal q.1) || (kvs.all fun q => isTup q.1)) && (match D.keys (kvs.map (·.1)) with | some ns => decide ns.Nodup | none => false)
def keysBy (f : Nat) : List D → Option (List D)
  | [] => some []
  | x :: r => match cf f [x], keysBy f r with | .ok d [], some ds => some (d.frz :: ds) | _, _ => none
def newF (c f : Nat) (os : List Opd) (env : Env) : R (Opd × Env) := match prep ((P.mode.getD f []).drop 1) os env with
  | none => .bad
  | some (ds, env1) => (match cf f (.ins true c [] :: ds) with
    | .ok .non (self :: outs) => (match back ((P.mode.getD f []).drop 1) os outs env1 with | some e => .ok (.val self, e) | none => .bad)
    | .exc x (_ :: outs) => (match back ((P.mode.getD f []).drop 1) os outs env1 with | some e => .exc x e | none => .bad)
    | _ => .bad)
def wfuel : Nat := 1000000
def forL (asg : D → Env → R Env) (body : Env → R (Fl × Env)) : List D → Env → R (Fl × Env)
  | [], env => .ok (.nx, env)
  | x :: r, env => (asg x env).bind fun e1 => (body e1).bind fun p => match p.1 with
    | .nx => forL asg body r p.2 | .ct => forL asg body r p.2 | .bk => .ok (.nx, p.2) | .rt d => .ok (.rt d, p.2)
def whL (test : Env → R (Bool × Env)) (body : Env → R (Fl × Env)) : Nat → Env → R (Fl × Env)
  | 0, _ => .bad
  | n + 1, env => (test env).bind fun q => if q.1 then (body q.2).bind fun p => match p.1 with
    | .nx => whL test body n p.2 | .ct => whL test body n p.2 | .bk => .ok (.nx, p.2) | .rt d => .ok (.rt d, p.2) else .ok (.nx, q.2)
abbrev Ev := Env → R (Opd × Env)
abbrev Evs := Env → R (List Opd × Env)
abbrev Eb := Env → R (Fl × Env)
def ofD (o : Option D) (env : Env) : R (Opd × Env) := match o with | some d => .ok (.val d, env) | none => .bad
def tst (A : Ev) : Env → R (Bool × Env) := fun env => (A env).bind fun p => match (p.1.rd p.2).bind truth with | some b => .ok (b, p.2) | none => .bad
def fVar (i : Nat) : Ev := fun env => if (look env i).isSome then .ok (.pl i, env) else .bad
def fGlo (k : Nat) : Ev := fun env => match P.glob[k]? with | some d => .ok (.val d, env) | none => .bad
def fBin (op : Bin) (A B : Ev) : Ev := fun env => (A env).bind fun p => (B p.2).bind fun q => match rdks [p.1, q.1] q.2 with
    | some ([x, y], e) => ofD (binD op x y) e
    | _ => .bad
def fNeg (A : Ev) : Ev := fun env => (A env).bind fun p => match p.1.rd p.2 with | some (.int i) => .ok (.val (.int (-i)), p.2) | _ => .bad
def fNot (A : Ev) : Ev := fun env => (tst A env).bind fun q => .ok (.val (.bl (!q.1)), q.2)
def fCmp (op : Cmp) (A B : Ev) : Ev := fun env => (A env).bind fun p => (B p.2).bind fun q => match p.1.rd q.2, q.1.rd q.2 with
    | some x, some y => ofD ((cmpD op x y).map .bl) q.2
    | _, _ => .bad
def fCmp2 (o1 o2 : Cmp) (A B C : Ev) : Ev := fun env => (A env).bind fun p => (B p.2).bind fun q => match p.1.rd q.2, q.1.rd q.2 with
    | some x, some y => (match cmpD o1 x y with
      | some false => .ok (.val (.bl false), q.2)
      | some true => (C q.2).bind fun r => (match q.1.rd r.2, r.1.rd r.2 with
        | some y, some z => ofD ((cmpD o2 y z).map .bl) r.2
        | _, _ => .bad)
      | none => .bad)
    | _, _ => .bad
def isNon : D → Bool | .non => true | _ => false
def isBl (v : Bool) : D → Bool | .bl b => b == v | _ => false
def fIsN (n : Bool) (A : Ev) : Ev := fun env => (A env).bind fun p => match p.1.rd p.2 with | some d => .ok (.val (.bl (n != isNon d)), p.2) | none => .bad
def fIsB (n v : Bool) (A : Ev) : Ev := fun env => (A env).bind fun p => match p.1.rd p.2 with | some d => .ok (.val (.bl (n != isBl v d)), p.2) | none => .bad
def fAnd (A B : Ev) : Ev := fun env => (A env).bind fun p => match (p.1.rd p.2).bind truth with | some true => B p.2 | some false => .ok p | none => .bad
def fOr (A B : Ev) : Ev := fun env => (A env).bind fun p => match (p.1.rd p.2).bind truth with | some false => B p.2 | some true => .ok p | none => .bad
def fIfe (C A B : Ev) : Ev := fun env => (tst C env).bind fun q => if q.1 then A q.2 else B q.2
def fDsp (t : Bool) (A : Evs) : Ev := fun env => (A env).bind fun p => if p.1.length ≤ line then .ok (.dsp t p.1, p.2) else .bad
def fSps (t : Bool) (A : Env → R (List (Bool × Opd) × Env)) : Ev := fun env => (A env).bind fun p => match spTake p.1 p.2 with | some (ds, e) => if ds.length ≤ line then .ok (.val (box t ds), e) else .bad | none => .bad
def fDct (A : Evs) : Ev := fun env => (A env).bind fun p => match takes p.1 p.2 with
    | some (ds, e) => (match unflat ds with | some kvs => if okKV kvs && decide (kvs.length ≤ 15) then .ok (.val (.dic true kvs), e) else .bad | none => .bad)
    | none => .bad
def fSet (A : Evs) : Ev := fun env => (A env).bind fun p => match rds p.1 p.2 with | some ds => ofD (biD .set [.lst false ds]) p.2 | none => .bad
def fIdx (A I : Ev) : Ev := fun env => (A env).bind fun p => (I p.2).bind fun q => match p.1.rdk q.2 with
    | some (x, e) => (match q.1.rd e with | some k => ofD (getD? x k) e | none => .bad)
    | none => .bad
def fSli (A L H : Ev) : Ev := fun env => (A env).bind fun p => (L p.2).bind fun q => (H q.2).bind fun r => match p.1.rdk r.2 with
    | some (x, e) => (match q.1.rd e, r.1.rd e with | some l, some h => ofD (sliD x l h) e | _, _ => .bad)
    | none => .bad
def fRev (A : Ev) : Ev := fun env => (A env).bind fun p => match p.1.rdk p.2 with | some (x, e) => ofD (revD x) e | none => .bad
def fBi (b : Bi) (A : Evs) : Ev := fun env => (A env).bind fun p => if b.copies then (match rdks p.1 p.2 with | some (ds, e) => ofD (biD b ds) e | none => .bad)
    else (match rds p.1 p.2 with | some ds => ofD (biD b ds) p.2 | none => .bad)
def fIsi (A : Ev) (t : Ty) : Ev := fun env => (A env).bind fun p => match p.1.rd p.2 with | some x => ofD ((isiD x t).map .bl) p.2 | none => .bad
def fMet (m : Met) (A : Ev) (B : Evs) : Ev := fun env => (A env).bind fun p => match p.1.rd p.2 with
    | some x0 => (B p.2).bind fun q => (match rdks (p.1 :: q.1) q.2 with
      | some (x :: ds, e) => if x.ty = x0.ty then ofD (metD m x ds) e else .bad
      | _ => .bad)
    | none => .bad
def fItr (b : Bi) (A : Env → R (List D × Env)) : Ev := fun env => (A env).bind fun p => ofD (biD b [.lst false p.1]) p.2
def fSky (A : Ev) (f : Nat) : Ev := fun env => (A env).bind fun p => match p.1.rd p.2 with
    | some x => (match seqOf x with
      | some ys => (match keysBy cf f (D.frzs ys) with
        | some ks => if D.fzs ys && allLt ks && ks.all D.flat then .ok (.val (.lst true (((ks.zip ys).mergeSort fun a b => leD a.1 b.1).map (·.2))), p.2) else .bad
        | none => .bad)
      | none => .bad)
    | none => .bad
abbrev Lf := List D → Env → R (List D × Env)
def leaf1 (A : Ev) : Lf := fun acc e => (A e).bind fun p => match p.1.take p.2 with | some (d, e2) => if acc.length < line then .ok (acc ++ [d], e2) else .bad | none => .bad
def leaf2 (A B : Ev) : Lf := fun acc e => (A e).bind fun p => (B p.2).bind fun q => match p.1.take q.2 with
      | some (dk, e2) => (match q.1.take e2 with | some (dv, e3) => if acc.length < line then .ok (acc ++ [.tup [dk, dv]], e3) else .bad | none => .bad)
      | none => .bad
def fLc (A : Env → R (List D × Env)) : Ev := fun env => (A env).bind fun p => .ok (.val (.lst true p.1), p.2)
def fDc (A : Env → R (List D × Env)) : Ev := fun env => (A env).bind fun p => match (pairs? p.1).bind (putAll []) with | some r => .ok (.val (.dic true r), p.2) | none => .bad
def fSc (A : Env → R (List D × Env)) : Ev := fun env => (A env).bind fun p => ofD (biD .set [.lst false p.1]) p.2
def fMut (m : Mut) (i : Nat) (A B : Evs) : Ev := fun env => (fVar i env).bind fun p => match p.1.rd p.2 with
    | some x0 => (A p.2).bind fun a => (match takes a.1 a.2 with
      | some (ks, e1) => (B e1).bind fun q => (match takes q.1 q.2 with
        | some (ds, e2) => (match e2.getD i .no with
          | .v x => if x.ty = x0.ty then (match atP x ks (fun y => mutD m y ds) with | some (z, r) => .ok (.val r, e2.set i (.v z)) | none => .bad) else .bad
          | _ => .bad)
        | none => .bad)
      | none => .bad)
    | none => .bad
def fAttr (A : Ev) (k : Nat) : Ev := fun env => (A env).bind fun p => match p.1.rdk p.2 with
    | some (.ins o c fs, e) => ofD fs[k]? e
    | some (.exn _ fs, e) => ofD fs[k]? e
    | _ => .bad
def fCall (f : Nat) (A : Evs) : Ev := fun env => (A env).bind fun p => callF P cf f p.1 p.2
def fNew (c : Nat) (A : Evs) : Ev := fun env => (A env).bind fun p => match P.inits.getD c none with
    | some f => newF P cf c f p.1 p.2
    | none => .bad
def fMeth (m : Nat) (A : Ev) (B : Evs) : Ev := fun env => (A env).bind fun p => (B p.2).bind fun q => match p.1.rd q.2 with
    | some (.ins _ c _) => (match (P.meths.getD c []).getD m none with | some f => callF P cf f (p.1 :: q.1) q.2 | none => .bad)
    | _ => .bad
def fLam (f : Nat) (caps : List Nat) : Ev := fun env => .bad
def fApp (A : Ev) (B : Evs) : Ev := fun env => (A env).bind fun p => match p.1.rd p.2 with
    | some (.clo x []) => (match nmIx P.fns x with | some f => fCall P cf f B p.2 | none => .bad)
    | _ => .bad
def fsCons (A : Ev) (B : Evs) : Evs := fun env => (A env).bind fun p => (B p.2).bind fun q => .ok (p.1 :: q.1, q.2)
def spCons (st : Bool) (A : Ev) (B : Env → R (List (Bool × Opd) × Env)) : Env → R (List (Bool × Opd) × Env) := fun env => (A env).bind fun p => (B p.2).bind fun q => .ok ((st, p.1) :: q.1, q.2)
abbrev Ei := Env → R (List D × Env)
def fixed (A : Ev) : Env → R (D × Env) := fun env => (A env).bind fun p => match p.1.fix p.2 with | some q => .ok q | none => .bad
/-- what a bare expression walks -/
def iterOf : D → Option (List D) | .lst _ xs => some xs | .tup xs => some xs | .str s => some (s.cps.toList.map fun c => .str ⟨#[c]⟩) | _ => none
def iEx (A : Ev) : Ei := fun env => (fixed A env).bind fun p => match iterOf p.1 with | some xs => .ok (xs, p.2) | none => .bad
def iRange (A : Evs) : Ei := fun env => (A env).bind fun p => match (rds p.1 p.2).bind rangeD with | some xs => .ok (xs, p.2) | none => .bad
def iEnum (A : Ei) : Ei := fun env => (A env).bind fun p => .ok ((p.1.zipIdx).map fun q => .tup [.int q.2, q.1], p.2)
def iZip (A B : Ei) : Ei := fun env => (A env).bind fun p => (B p.2).bind fun q => .ok ((p.1.zip q.1).map fun q => .tup [q.1, q.2], q.2)
def iItems (A : Ev) : Ei := fun env => (fixed A env).bind fun p => match p.1 with | .dic _ kvs => .ok (kvs.map fun q => .tup [q.1, q.2], p.2) | _ => .bad
def iVals (A : Ev) : Ei := fun env => (fixed A env).bind fun p => match p.1 with | .dic _ kvs => .ok (kvs.map (·.2), p.2) | _ => .bad
def iKeys (A : Ev) : Ei := fun env => (fixed A env).bind fun p => match p.1 with | .dic _ kvs => .ok (kvs.map (·.1), p.2) | _ => .bad
abbrev Et := D → Env → R Env
/-- the clauses of a comprehension: the first thing walked is looked at ahead of the block -/
def cCons (T : Et) (I : Ei) (F : Env → R (Bool × Env)) (own : List Nat) (leaf : Lf) : Lf := fun acc env => (I env).bind fun p =>
      if ownOk p.2 own then (forC T leaf F own p.1 acc (wipe p.2 own)).bind fun q => .ok (q.1, unwipe p.2 q.2 own)
      else .bad
def ifCons (A : Ev) (B : Env → R (Bool × Env)) : Env → R (Bool × Env) := fun env => (tst A env).bind fun q => if q.1 then B q.2 else .ok (false, q.2)
def gVar (i : Nat) : Et := fun d env => if i < env.length ∧ ¬ i ∈ io then .ok (env.set i (.v d)) else .bad
def gTup (ts : List D → Env → R Env) : Et := fun d env => match d with | .tup xs => ts xs env | _ => .bad
def gSub (i : Nat) (A : Evs) (K : Ev) : Et := fun d env => if (look env i).isSome then (A env).bind fun a => match takes a.1 a.2 with
    | some (ks, e1) => (K e1).bind fun q => (match q.1.take q.2 with
      | some (kd, e2) => (match e2.getD i .no with
        | .v x => (match atP x ks (fun y => (setD y kd d).map fun z => (z, ())) with | some (z, _) => .ok (e2.set i (.v z)) | none => .bad)
        | _ => .bad)
      | none => .bad)
    | none => .bad
  else .bad
def gAttr (i k : Nat) : Et := fun d env => match env.getD i .no with
    | .v (.ins true c fs) => .ok (env.set i (.v (.ins true c (if k < fs.length then fs.set k d else fs ++ [d]))))
    | _ => .bad
def gNil : List D → Env → R Env := fun ds env => match ds with | [] => .ok env | _ => .bad
def gCons (T : Et) (U : List D → Env → R Env) : List D → Env → R Env := fun ds env => match ds with | d :: ds => (T d env).bind fun e => U ds e | [] => .bad
mutual
def evO : Exp → Ev
  | .cst d => fun env => .ok (.val d, env)
  | .var i => fVar i
  | .glo k => fGlo P k
  | .bin op a b => fBin op (evO a) (evO b)
  | .neg a => fNeg (evO a)
  | .not a => fNot (evO a)
  | .cmp op a b => fCmp op (evO a) (evO b)
  | .cmp2 o1 o2 a b c => fCmp2 o1 o2 (evO a) (evO b) (evO c)
  | .isN n a => fIsN n (evO a)
  | .isB n v a => fIsB n v (evO a)
  | .and a b => fAnd (evO a) (evO b)
  | .or a b => fOr (evO a) (evO b)
  | .ife c a b => fIfe (evO c) (evO a) (evO b)
  | .tup es => if es.plain then fDsp true (evOs es) else fSps true (evSp es)
  | .lst es => if es.plain then fDsp false (evOs es) else fSps false (evSp es)
  | .dct kvs => fDct (evKV kvs)
  | .set es => fSet (evOs es)
  | .idx a i => fIdx (evO a) (evO i)
  | .sli a lo hi => fSli (evO a) (evO lo) (evO hi)
  | .rev a => fRev (evO a)
  | .call f as => fCall P cf f (evOs as)
  | .bi b as => fBi b (evOs as)
  | .isi a t => fIsi (evO a) t
  | .met m a as => fMet m (evO a) (evOs as)
  | .itr b it => fItr b (evI it)
  | .sky a f => fSky cf (evO a) f
  | .lc own elt cs => fLc (evC cs own (leaf1 (evO elt)) [])
  | .dc own k v cs => fDc (evC cs own (leaf2 (evO k) (evO v)) [])
  | .sc own elt cs => fSc (evC cs own (leaf1 (evO elt)) [])
  | .mut m i p as => fMut m i (evOs p) (evOs as)
  | .attr a k => fAttr (evO a) k
  | .new c as => fNew P cf c (evOs as)
  | .meth m a as => fMeth P cf m (evO a) (evOs as)
  | .lam f caps => fLam f caps
  | .app a as => fApp P cf (evO a) (evOs as)
def evOs : Exps → Evs
  | .nil => fun env => .ok ([], env)
  | .cons e r => fsCons (evO e) (evOs r)
  | .star _ _ => fun _ => .bad
def evSp : Exps → Env → R (List (Bool × Opd) × Env)
  | .nil => fun env => .ok ([], env)
  | .cons e r => spCons false (evO e) (evSp r)
  | .star e r => spCons true (evO e) (evSp r)
def evKV : KVs → Evs
  | .nil => fun env => .ok ([], env)
  | .cons k v r => fsCons (evO k) (fsCons (evO v) (evKV r))
  | .star _ _ => fun _ => .bad
def evI : Itr → Ei
  | .ex e => iEx (evO e)
  | .range as => iRange (evOs as)
  | .enum it => iEnum (evI it)
  | .zip a b => iZip (evI a) (evI b)
  | .items e => iItems (evO e)
  | .vals e => iVals (evO e)
  | .keys e => iKeys (evO e)
def evC : Cls → List Nat → Lf → Lf
  | .nil, _, leaf => leaf
  | .cons t it ifs r, own, leaf => cCons (asgT t) (evI it) (evIf ifs) own (evC r [] leaf)
def evIf : Exps → Env → R (Bool × Env)
  | .nil => fun env => .ok (true, env)
  | .cons e r => ifCons (evO e) (evIf r)
  | .star _ _ => fun _ => .bad
/-- a target's store of a value -/
def asgT : Tgt → Et
  | .var i => gVar io i
  | .tup ts => gTup (asgTs ts)
  | .sub i p k => gSub i (evOs p) (evO k)
  | .attr i k => gAttr i k
def asgTs : Tgts → List D → Env → R Env
  | .nil => gNil
  | .cons t r => gCons (asgT t) (asgTs r)
end
def taken (A : Ev) : Env → R (D × Env) := fun env => (A env).bind fun p => match p.1.take p.2 with | some q => .ok q | none => .bad
def sAsg (T : Et) (A : Ev) : Eb := fun env => (taken A env).bind fun p => (T p.1 p.2).bind fun e2 => .ok (.nx, e2)
def sAsg2 (T U : Et) (A : Ev) : Eb := fun env => (A env).bind fun p => match p.1.take p.2 with | some (d, e1) => if d.fz then (T d e1).bind fun e2 => (U d e2).bind fun e3 => .ok (.nx, e3) else .bad | none => .bad
/-- in place, of scalars -/
def augD (op : Bin) (x y : D) : Option D := match op, x, y with
  | .add, .int i, .int j => some (.int (i + j))
  | .add, .str a, .str b => if a.length + b.length ≤ line then some (.str (a ++ b)) else none
  | .sub, .int i, .int j => some (.int (i - j))
  | .mul, .int i, .int j => if (decide (-big < i) && decide (i < big)) || (decide (-big < j) && decide (j < big)) then some (.int (i * j)) else none
  | .mod, .int i, .int j => if 0 < j then some (.int (i % j)) else none
  | .fdiv, .int i, .int j => if 0 < j ∧ j < 1073741824 then some (.int (i / j)) else none
  | _, _, _ => none
def sAug (i : Nat) (op : Bin) (A : Ev) : Eb := fun env => match if i ∈ io then none else look env i with
      | some x => if isScal x then (A env).bind fun p => (match (p.1.rd p.2).bind (augD op x) with | some z => .ok (.nx, p.2.set i (.v z)) | none => .bad) else .bad
      | none => .bad
def sAugSub (i : Nat) (K : Ev) (op : Bin) (A : Ev) : Eb := fun env => if (look env i).isSome then (taken K env).bind fun q => match q.2.getD i .no with
      | .v (.lst true xs) => (match q.1 with
        | .int k => (match (L2.ixN xs.length k).bind fun j => xs[j]? with
          | some (.int n) => (A q.2).bind fun p => (match (p.1.rd p.2).bind (augD op (.int n)), p.2.getD i .no with
            | some z, .v x2 => (match setD x2 q.1 z with | some x3 => .ok (.nx, p.2.set i (.v x3)) | none => .bad)
            | _, _ => .bad)
          | _ => .bad)
        | _ => .bad)
      | _ => .bad
    else .bad
def sEx (A : Ev) : Eb := fun env => (A env).bind fun p => .ok (.nx, p.2)
def sSda (i : Nat) (K A : Ev) : Eb := fun env => (K env).bind fun q => match q.1.take q.2 with
    | some (kd, e1) => (A e1).bind fun p => match p.1.take p.2 with
      | some (d, e2) => (match e2.getD i .no, kd.key with
        | .v (.dic true kvs), some key => if keyFits kvs kd && decide (kvs.length < line) then (match lookK kvs key with
          | some (.lst true xs) => if xs.length < line then .ok (.nx, e2.set i (.v (.dic true (putK kvs kd key (.lst true (xs ++ [d])))))) else .bad
          | some _ => .bad
          | none => .ok (.nx, e2.set i (.v (.dic true (putK kvs kd key (.lst true [d])))))) else .bad
        | _, _ => .bad)
      | none => .bad
    | none => .bad
def sIf (C : Ev) (A B : Eb) : Eb := fun env => (tst C env).bind fun q => if q.1 then A q.2 else B q.2
def sFor (T : Et) (I : Ei) (B : Eb) : Eb := fun env => (I env).bind fun p => forL T B p.1 p.2
def sRet (A : Ev) : Eb := fun env => (A env).bind fun p => match p.1 with
    | .pl i => (match p.2.getD i .no with
      | .v d => if i ∈ io then .ok (.rt d.frz, p.2.set i (.v d.frz)) else .ok (.rt d, p.2.set i .no)
      | .r d => if d.imm then .ok (.rt d, p.2) else .bad
      | .q d => if d.imm then .ok (.rt d, p.2) else .bad
      | .no => .bad)
    | o => (match o.take p.2 with | some (d, e1) => .ok (.rt d, e1) | none => .bad)
def sRaise (c : Nat) (A : Evs) : Eb := fun env => (A env).bind fun p => match takes p.1 p.2 with | some (ds, e) => .exc (.exn c ds) e | none => .bad
def sTry (B : Eb) (H : D → Eb) : Eb := fun env => match B env with
    | .exc x e => H x e
    | r => r
def sSeq (A B : Eb) : Eb := fun env => (A env).bind fun p => match p.1 with | .nx => B p.2 | f => .ok (f, p.2)
def hCons (c : Nat) (n : Option Nat) (B : Eb) (H : D → Eb) : D → Eb := fun x env => match x with
    | .exn d _ => if (P.sub.getD d []).contains c then (match n with
      | none => B env
      | some i => (B (env.set i (.v x))).bind fun p => .ok (p.1, p.2.set i .no)) else H x env
    | _ => .bad
mutual
def evS : Stm → Eb
  | .asg t e => sAsg (asgT P cf io t) (evO P cf io e)
  | .asg2 t u e => sAsg2 (asgT P cf io t) (asgT P cf io u) (evO P cf io e)
  | .aug t op e => (match t with
    | .var i => sAug io i op (evO P cf io e)
    | .sub i .nil k => sAugSub i (evO P cf io k) op (evO P cf io e)
    | _ => fun _ => .bad)
  | .ex e => sEx (evO P cf io e)
  | .sda i k e => sSda i (evO P cf io k) (evO P cf io e)
  | .ifS c a b => sIf (evO P cf io c) (evSs a) (evSs b)
  | .forS t it b => sFor (asgT P cf io t) (evI P cf io it) (evSs b)
  | .whileS c b => whL (tst (evO P cf io c)) (evSs b) wfuel
  | .ret e => sRet io (evO P cf io e)
  | .retN => fun env => .ok (.rt .non, env)
  | .brk => fun env => .ok (.bk, env)
  | .cnt => fun env => .ok (.ct, env)
  | .pass => fun env => .ok (.nx, env)
  | .raise c as => sRaise c (evOs P cf io as)
  | .tryS b hs => sTry (evSs b) (evH hs)
def evSs : Stms → Eb
  | .nil => fun env => .ok (.nx, env)
  | .cons s r => sSeq (evS s) (evSs r)
def evH : Hds → D → Eb
  | .nil => fun x env => .exc x env
  | .cons c n b r => hCons P c n (evSs b) (evH r)
end
end
structure Fun where
  np : Nat
  ns : Nat
  io : List Nat
  body : Stms
def outsOf (io : List Nat) (env : Env) : Option (List D) := match io with
  | [] => some []
  | i :: r => match env.getD i .no, outsOf r env with | .v d, some ds => some (d :: ds) | _, _ => none
def runF (F : Fun) (r : R (Fl × Env)) : C := match r with
  | .ok (.nx, e) => (match outsOf F.io e with | some o => .ok .non o | none => .bad)
  | .ok (.rt d, e) => (match outsOf F.io e with | some o => .ok d o | none => .bad)
  | .ok _ => .bad
  | .exc x e => (match outsOf F.io e with | some o => .exc x o | none => .bad)
  | .bad => .bad
def enter : List Nat → List D → Env
  | m :: ms, d :: ds => (if m = 2 then .r d else if m = 3 then .q d else .v d) :: enter ms ds
  | _, _ => []
def callN (P : Prog) (fs : List Fun) : Nat → Nat → List D → C
  | 0, _, _ => .bad
  | n + 1, f, ds => match fs[f]? with
    | some F => if ds.length = F.np then runF F (evSs P (callN P fs n) F.io F.body (enter (P.mode.getD f []) ds ++ List.replicate (F.ns - F.np) .no)) else .bad
    | none => .bad
end Z

set_option Elab.async false
set_option linter.all false
set_option maxRecDepth 100000
set_option maxHeartbeats 1000000
namespace Z
open PySem L2

/-! ## how data lie in the heap -/
/-- a dict whose keys are tuples: its keys, their addresses, its values -/
def dtP (prog : Program) (w : World) (a : Addr) (es : List (NestedKey × Addr × V)) (h : Heap) : Prop :=
  es.length ≤ sizeLine ∧ (a == sysModules) = false ∧ (es.map (·.1)).Nodup ∧ ∃ xs : List (NestedKey × Addr × Value),
    Paired (fun (p : NestedKey × Addr × V) (q : NestedKey × Addr × Value) => p.1 = q.1 ∧ p.2.1 = q.2.1 ∧ RelV p.2.2 q.2.2) es xs ∧
    ∃ o des ep, h.get? a = some o ∧ o.ExactDict ∧ o.data = .dict des ep ∧ des.toList = xs.map (entryOfKey (nestedKind prog w))
def dtO (prog : Program) (w : World) (a : Addr) (es : List (NestedKey × Addr × V)) : HO := .ext (dtP prog w a es)
theorem dtP_ok {prog : Program} {w : World} {H : Hp} {h : Heap} {a : Addr} {es : List (NestedKey × Addr × V)} (x : dtP prog w a es h) : ObjOk prog w H h a (dtO prog w a es) := by
  obtain ⟨h1, h2, h3, xs, h4, o, des, ep, h5, h6⟩ := x
  refine ⟨⟨h1, h2, h3, xs, h4, o, des, ep, h5, h6⟩, ⟨o, h5⟩, ?_⟩
  rintro g g' ⟨a1, a2, a3, ys, a4, o', des', ep', a5, a6⟩ k
  exact ⟨a1, a2, a3, ys, a4, o', des', ep', k _ a5, a6⟩
/-- what may be changed in place -/
def Ow : HO → Bool
  | .lst _ => true | .dK _ => true | .ext _ => true | .ins _ _ _ => true | _ => false
/-- the heap's way of a dict: keys, the values that stand for them, the values -/
inductive DU (prog : Program) (w : World) (a : Addr) : HO → List NestedKey → List V → List V → Prop
  | k (es : List (Key × V)) : DU prog w a (.dK es) (es.map fun e => match e.1 with | .inl i => .num i | .inr x => .text x) (es.map fun e => kV e.1) (es.map (·.2))
  | t (es : List (NestedKey × Addr × V)) : DU prog w a (dtO prog w a es) (es.map (·.1)) (es.map fun e => .ref e.2.1) (es.map fun e => e.2.2)
def Fz (H : Hp) (a : Addr) (u : HO) : Prop := ∃ o, H a = some (.frz o u)
def Dis (A B : List Addr) : Prop := ∀ a ∈ A, a ∉ B
section
variable (prog : Program) (w : World) (K : PySem.W.Frag) (H : Hp)
mutual
/-- a value stands for data; the addresses of what may be changed in place -/
inductive Rz : D → V → List Addr → Prop
  | non : Rz .non .non []
  | bl (b : Bool) : Rz (.bl b) (.bl b) []
  | int (i : Int) : Rz (.int i) (.int i) []
  | str (x : Str) : Rz (.str x) (.str x) []
  | clo {x : Str} {a : Addr} : PySem.W.nsIn K mainGlobals x = some (some (.ref a)) → Rz (.clo x []) (.ref a) []
  | tup {xs : List D} {a : Addr} {vs : List V} {O : List Addr} : SqT K H a vs → RzL xs vs O → Rz (.tup xs) (.ref a) O
  | lstO {xs : List D} {a : Addr} {vs : List V} {O : List Addr} : H a = some (.lst vs) → RzL xs vs O → a ∉ O → Rz (.lst true xs) (.ref a) (a :: O)
  | lstF {xs : List D} {a : Addr} {vs : List V} : Fz H a (.lst vs) → RzL xs vs [] → Rz (.lst false xs) (.ref a) []
  | dicO {kvs : List (D × D)} {a : Addr} {u : HO} {ns : List NestedKey} {ks vs : List V} {O : List Addr} : H a = some u → DU prog w a u ns ks vs → D.keys (kvs.map (·.1)) = some ns → (∀ k ∈ kvs, k.1.depth ≤ 8) →
      RzL (kvs.map (·.1)) ks [] → RzL (kvs.map (·.2)) vs O → a ∉ O → Rz (.dic true kvs) (.ref a) (a :: O)
  | dicF {kvs : List (D × D)} {a : Addr} {u : HO} {ns : List NestedKey} {ks vs : List V} : Fz H a u → DU prog w a u ns ks vs → D.keys (kvs.map (·.1)) = some ns → (∀ k ∈ kvs, k.1.depth ≤ 8) →
      RzL (kvs.map (·.1)) ks [] → RzL (kvs.map (·.2)) vs [] → Rz (.dic false kvs) (.ref a) []
inductive RzL : List D → List V → List Addr → Prop
  | nil : RzL [] [] []
  | cons {x : D} {xs : List D} {v : V} {vs : List V} {O1 O2 : List Addr} : Rz x v O1 → RzL xs vs O2 → Dis O1 O2 → RzL (x :: xs) (v :: vs) (O1 ++ O2)
end
end
section
variable {prog : Program} {w : World} {K : PySem.W.Frag} {H H' : Hp}
theorem DU.ow {a : Addr} {u : HO} {ns : List NestedKey} {ks vs : List V} (d : DU prog w a u ns ks vs) : Ow u = true := by cases d <;> rfl
/-- what is frozen, and tuples, never change -/
def Prs : HO → Bool
  | .tup _ => true | .frz _ _ => true | _ => false
theorem SqT.stay {a : Addr} {xs : List V} (h : SqT K H a xs) (k : ∀ u, H a = some u → Prs u = true → H' a = some u) : SqT K H' a xs := by
  rcases h with (h | ⟨o, h⟩) | h
  · exact .inl (.inl (k _ h rfl))
  · exact .inl (.inr ⟨o, k _ h rfl⟩)
  · exact .inr h
mutual
/-- an address that may be changed stands in the heap -/
theorem Rz.own : ∀ {d : D} {v : V} {O : List Addr}, Rz prog w K H d v O → ∀ a ∈ O, ∃ u, H a = some u ∧ Ow u = true
  | _, _, _, .non, a, h => nomatch h
  | _, _, _, .bl _, a, h => nomatch h
  | _, _, _, .int _, a, h => nomatch h
  | _, _, _, .str _, a, h => nomatch h
  | _, _, _, .clo _, a, h => nomatch h
  | _, _, _, .tup _ r, a, h => RzL.own r a h
  | _, _, _, .lstO e r _, a, h => by
    rcases List.mem_cons.mp h with rfl | h
    · exact ⟨_, e, rfl⟩
    · exact RzL.own r a h
  | _, _, _, .lstF _ _, a, h => nomatch h
  | _, _, _, .dicO e d _ _ _ r _, a, h => by
    rcases List.mem_cons.mp h with rfl | h
    · exact ⟨_, e, d.ow⟩
    · exact RzL.own r a h
  | _, _, _, .dicF _ _ _ _ _ _, a, h => nomatch h
theorem RzL.own : ∀ {ds : List D} {vs : List V} {O : List Addr}, RzL prog w K H ds vs O → ∀ a ∈ O, ∃ u, H a = some u ∧ Ow u = true
  | _, _, _, .nil, a, h => nomatch h
  | _, _, _, .cons r rs _, a, h => by
    rcases List.mem_append.mp h with h | h
    · exact Rz.own r a h
    · exact RzL.own rs a h
end
mutual
/-- it stands on while its own addresses, the tuples and what is frozen do -/
theorem Rz.stay (kp : ∀ a u, H a = some u → Prs u = true → H' a = some u) : ∀ {d : D} {v : V} {O : List Addr}, Rz prog w K H d v O → (∀ a ∈ O, ∀ u, H a = some u → H' a = some u) → Rz prog w K H' d v O
  | _, _, _, .non, _ => .non
  | _, _, _, .bl _, _ => .bl _
  | _, _, _, .int _, _ => .int _
  | _, _, _, .str _, _ => .str _
  | _, _, _, .clo e, _ => .clo e
  | _, _, _, .tup e r, k => .tup (SqT.stay e fun u => kp _ u) (RzL.stay kp r k)
  | _, _, _, .lstO e r n, k => .lstO (k _ List.mem_cons_self _ e) (RzL.stay kp r fun a h => k a (List.mem_cons_of_mem _ h)) n
  | _, _, _, .lstF e r, k => .lstF (e.imp fun o q => kp _ _ q rfl) (RzL.stay kp r k)
  | _, _, _, .dicO e d n q rk r m, k => .dicO (k _ List.mem_cons_self _ e) d n q (RzL.stay kp rk fun _ h => nomatch h) (RzL.stay kp r fun a h => k a (List.mem_cons_of_mem _ h)) m
  | _, _, _, .dicF ⟨o, e⟩ d n q rk r, k => .dicF ⟨o, kp _ _ e rfl⟩ d n q (RzL.stay kp rk fun _ h => nomatch h) (RzL.stay kp r k)
theorem RzL.stay (kp : ∀ a u, H a = some u → Prs u = true → H' a = some u) : ∀ {ds : List D} {vs : List V} {O : List Addr}, RzL prog w K H ds vs O → (∀ a ∈ O, ∀ u, H a = some u → H' a = some u) → RzL prog w K H' ds vs O
  | _, _, _, .nil, _ => .nil
  | _, _, _, .cons r rs d, k => .cons (Rz.stay kp r fun a h => k a (List.mem_append_left _ h)) (RzL.stay kp rs fun a h => k a (List.mem_append_right _ h)) d
end
mutual
theorem Rz.fz0 : ∀ {d : D} {v : V} {O : List Addr}, Rz prog w K H d v O → d.fz = true → O = []
  | _, _, _, .non, _ => rfl
  | _, _, _, .bl _, _ => rfl
  | _, _, _, .int _, _ => rfl
  | _, _, _, .str _, _ => rfl
  | _, _, _, .clo _, _ => rfl
  | _, _, _, .tup e r, h => RzL.fz0 r (by simpa [D.fz] using h)
  | _, _, _, .lstO e r n, h => by simp [D.fz] at h
  | _, _, _, .lstF e r, h => rfl
  | _, _, _, .dicO e d n q rk r m, h => by simp [D.fz] at h
  | _, _, _, .dicF e d n q rk r, h => rfl
theorem RzL.fz0 : ∀ {ds : List D} {vs : List V} {O : List Addr}, RzL prog w K H ds vs O → D.fzs ds = true → O = []
  | _, _, _, .nil, _ => rfl
  | _, _, _, .cons r rs d, h => by
    simp only [D.fzs, Bool.and_eq_true] at h
    rw [Rz.fz0 r h.1, RzL.fz0 rs h.2]; rfl
end
theorem RzL.length {ds : List D} {vs : List V} {O : List Addr} (r : RzL prog w K H ds vs O) : ds.length = vs.length := by
  induction ds generalizing vs O with
  | nil => cases r; rfl
  | cons x xs ih => cases r with | cons r rs d => simp [ih rs]
end
/-! ## frozen data -/
mutual
theorem frz_of_fz : ∀ d : D, d.fz = true → d.frz = d
  | .non, _ => rfl | .bl _, _ => rfl | .int _, _ => rfl | .str _, _ => rfl
  | .tup xs, h => by rw [D.frz, frzs_of_fzs xs h]
  | .lst o xs, h => by
    simp only [D.fz, Bool.and_eq_true, Bool.not_eq_true'] at h
    rw [D.frz, frzs_of_fzs xs h.2, h.1]
  | .dic o kvs, h => by
    simp only [D.fz, Bool.and_eq_true, Bool.not_eq_true'] at h
    rw [D.frz, frzk_of_fzk kvs h.2, h.1]
  | .set o xs, h => by
    simp only [D.fz, Bool.and_eq_true, Bool.not_eq_true'] at h
    rw [D.frz, frzs_of_fzs xs h.2, h.1]
  | .ins o c fs, h => by
    simp only [D.fz, Bool.and_eq_true, Bool.not_eq_true'] at h
    rw [D.frz, frzs_of_fzs fs h.2, h.1]
  | .exn c fs, h => by rw [D.frz, frzs_of_fzs fs h]
  | .clo c fs, h => by rw [D.frz, frzs_of_fzs fs h]
theorem frzs_of_fzs : ∀ ds : List D, D.fzs ds = true → D.frzs ds = ds
  | [], _ => rfl
  | x :: r, h => by
    simp only [D.fzs, Bool.and_eq_true] at h
    rw [D.frzs, frz_of_fz x h.1, frzs_of_fzs r h.2]
theorem frzk_of_fzk : ∀ ds : List (D × D), D.fzk ds = true → D.frzk ds = ds
  | [], _ => rfl
  | (a, b) :: r, h => by
    simp only [D.fzk, Bool.and_eq_true] at h
    rw [D.frzk, frz_of_fz a h.1, frz_of_fz b h.2.1, frzk_of_fzk r h.2.2]
end
mutual
theorem fz_frz : ∀ d : D, d.frz.fz = true
  | .non => rfl | .bl _ => rfl | .int _ => rfl | .str _ => rfl
  | .tup xs => by rw [D.frz, D.fz, fzs_frzs xs]
  | .lst o xs => by rw [D.frz, D.fz, fzs_frzs xs]; rfl
  | .dic o kvs => by rw [D.frz, D.fz, fzk_frzk kvs]; rfl
  | .set o xs => by rw [D.frz, D.fz, fzs_frzs xs]; rfl
  | .ins o c fs => by rw [D.frz, D.fz, fzs_frzs fs]; rfl
  | .exn c fs => by rw [D.frz, D.fz, fzs_frzs fs]
  | .clo c fs => by rw [D.frz, D.fz, fzs_frzs fs]
theorem fzs_frzs : ∀ ds : List D, D.fzs (D.frzs ds) = true
  | [] => rfl
  | x :: r => by rw [D.frzs, D.fzs, fz_frz x, fzs_frzs r]; rfl
theorem fzk_frzk : ∀ ds : List (D × D), D.fzk (D.frzk ds) = true
  | [] => rfl
  | (a, b) :: r => by rw [D.frzk, D.fzk, fz_frz a, fz_frz b, fzk_frzk r]; rfl
end
mutual
theorem key_frz : ∀ d : D, d.frz.key = d.key
  | .non => rfl | .bl _ => rfl | .int _ => rfl | .str _ => rfl
  | .tup xs => by rw [D.frz, D.key, D.key, keys_frzs xs]
  | .lst o xs => rfl | .dic o kvs => rfl | .set o xs => rfl | .ins o c fs => rfl | .exn c fs => rfl | .clo c fs => rfl
theorem keys_frzs : ∀ ds : List D, D.keys (D.frzs ds) = D.keys ds
  | [] => rfl
  | x :: r => by rw [D.frzs, D.keys, D.keys, key_frz x, keys_frzs r]
end
mutual
theorem depth_frz : ∀ d : D, d.frz.depth = d.depth
  | .non => rfl | .bl _ => rfl | .int _ => rfl | .str _ => rfl
  | .tup xs => by rw [D.frz, D.depth, D.depth, depths_frzs xs]
  | .lst o xs => by rw [D.frz, D.depth, D.depth, depths_frzs xs]
  | .dic o xs => by rw [D.frz, D.depth, D.depth, depthk_frzk xs]
  | .set o xs => by rw [D.frz, D.depth, D.depth, depths_frzs xs]
  | .ins o c xs => by rw [D.frz, D.depth, D.depth, depths_frzs xs]
  | .exn c xs => by rw [D.frz, D.depth, D.depth, depths_frzs xs]
  | .clo c xs => by rw [D.frz, D.depth, D.depth, depths_frzs xs]
theorem depths_frzs : ∀ ds : List D, D.depths (D.frzs ds) = D.depths ds
  | [] => rfl
  | x :: r => by rw [D.frzs, D.depths, D.depths, depth_frz x, depths_frzs r]
theorem depthk_frzk : ∀ ds : List (D × D), D.depthk (D.frzk ds) = D.depthk ds
  | [] => rfl
  | (a, b) :: r => by rw [D.frzk, D.depthk, D.depthk, depth_frz a, depth_frz b, depthk_frzk r]
end
theorem frzs_map : ∀ ds : List D, D.frzs ds = ds.map D.frz
  | [] => rfl
  | x :: r => by rw [D.frzs, List.map_cons, frzs_map r]
theorem frzk_map : ∀ ds : List (D × D), D.frzk ds = ds.map fun q => (q.1.frz, q.2.frz)
  | [] => rfl
  | (a, b) :: r => by rw [D.frzk, List.map_cons, frzk_map r]
/-- the objects at A are frozen -/
structure Frzd (A : List Addr) (H H' : Hp) : Prop where
  out : ∀ a, a ∉ A → H' a = H a
  inn : ∀ a ∈ A, ∃ u o, H a = some u ∧ Ow u = true ∧ H' a = some (.frz o u)
section
variable {prog : Program} {w : World} {K : PySem.W.Frag} {H H' : Hp} {A : List Addr}
theorem Frzd.prs (f : Frzd A H H') : ∀ a u, H a = some u → Prs u = true → H' a = some u := fun a u e p => by
  by_cases h : a ∈ A
  · obtain ⟨u', o, e1, o1, _⟩ := f.inn a h
    rw [e] at e1; cases e1
    cases u <;> first | (simp [Prs] at p; done) | (simp [Ow] at o1; done)
  · rw [f.out a h]; exact e
theorem Frzd.stay (f : Frzd A H H') {d : D} {v : V} {O : List Addr} (r : Rz prog w K H d v O) (h : Dis O A) : Rz prog w K H' d v O :=
  r.stay f.prs fun a ha u e => by rw [f.out a (h a ha)]; exact e
theorem Frzd.stayL (f : Frzd A H H') {ds : List D} {vs : List V} {O : List Addr} (r : RzL prog w K H ds vs O) (h : Dis O A) : RzL prog w K H' ds vs O :=
  r.stay f.prs fun a ha u e => by rw [f.out a (h a ha)]; exact e
theorem Dis.nil {A : List Addr} : Dis [] A := fun _ h => nomatch h
theorem Dis.nilR {A : List Addr} : Dis A [] := fun _ _ h => nomatch h
mutual
theorem Rz.frz (f : Frzd A H H') : ∀ {d : D} {v : V} {O : List Addr}, Rz prog w K H d v O → (∀ a ∈ O, a ∈ A) → Rz prog w K H' d.frz v []
  | _, _, _, .non, _ => .non
  | _, _, _, .bl _, _ => .bl _
  | _, _, _, .int _, _ => .int _
  | _, _, _, .str _, _ => .str _
  | _, _, _, .clo e, _ => .clo e
  | _, _, _, .tup e r, h => .tup (SqT.stay e fun u => f.prs _ u) (RzL.frz f r h)
  | _, _, _, .lstO e r n, h => by
    obtain ⟨u, o, e1, _, e2⟩ := f.inn _ (h _ List.mem_cons_self)
    rw [e] at e1; cases e1
    exact .lstF ⟨o, e2⟩ (RzL.frz f r fun a ha => h a (List.mem_cons_of_mem _ ha))
  | _, _, _, .lstF e r, h => .lstF (e.imp fun o q => f.prs _ _ q rfl) (RzL.frz f r h)
  | _, _, _, .dicO (kvs := kvs) e d n q rk r m, h => by
    obtain ⟨u, o, e1, _, e2⟩ := f.inn _ (h _ List.mem_cons_self)
    rw [e] at e1; cases e1
    have r1 := RzL.frz f rk (fun _ z => nomatch z)
    have r2 := RzL.frz f r fun a ha => h a (List.mem_cons_of_mem _ ha)
    have e3 : (D.frzk kvs).map (·.1) = D.frzs (kvs.map (·.1)) := by rw [frzk_map, frzs_map, List.map_map, List.map_map]; rfl
    have e4 : (D.frzk kvs).map (·.2) = D.frzs (kvs.map (·.2)) := by rw [frzk_map, frzs_map, List.map_map, List.map_map]; rfl
    refine .dicF ⟨o, e2⟩ d (by rw [e3, keys_frzs]; exact n) (fun k hk => ?_) (by rw [e3]; exact r1) (by rw [e4]; exact r2)
    rw [frzk_map] at hk
    obtain ⟨k', hk', rfl⟩ := List.mem_map.mp hk
    show k'.1.frz.depth ≤ 8
    rw [depth_frz]; exact q k' hk'
  | _, _, _, .dicF (kvs := kvs) ⟨o, e⟩ d n q rk r, h => by
    have r1 := RzL.frz f rk (fun _ z => nomatch z)
    have r2 := RzL.frz f r fun a ha => h a ha
    have e3 : (D.frzk kvs).map (·.1) = D.frzs (kvs.map (·.1)) := by rw [frzk_map, frzs_map, List.map_map, List.map_map]; rfl
    have e4 : (D.frzk kvs).map (·.2) = D.frzs (kvs.map (·.2)) := by rw [frzk_map, frzs_map, List.map_map, List.map_map]; rfl
    refine .dicF ⟨o, f.prs _ _ e rfl⟩ d (by rw [e3, keys_frzs]; exact n) (fun k hk => ?_) (by rw [e3]; exact r1) (by rw [e4]; exact r2)
    rw [frzk_map] at hk
    obtain ⟨k', hk', rfl⟩ := List.mem_map.mp hk
    show k'.1.frz.depth ≤ 8
    rw [depth_frz]; exact q k' hk'
theorem RzL.frz (f : Frzd A H H') : ∀ {ds : List D} {vs : List V} {O : List Addr}, RzL prog w K H ds vs O → (∀ a ∈ O, a ∈ A) → RzL prog w K H' (D.frzs ds) vs []
  | _, _, _, .nil, _ => .nil
  | _, _, _, .cons r rs d, h => .cons (O1 := []) (O2 := []) (Rz.frz f r fun a ha => h a (List.mem_append_left _ ha)) (RzL.frz f rs fun a ha => h a (List.mem_append_right _ ha)) Dis.nil
end
theorem Frzd.refl (H : Hp) : Frzd [] H H := ⟨fun _ _ => rfl, fun _ h => nomatch h⟩
end
/-! ### freezing is nothing to the run -/
section
variable {X : Cx} {pins : List (Addr × Obj)} {σ : St} {H : Hp} {s : Shared}
theorem _root_.L2.Inv.there (I : Inv X pins σ H s) {a : Addr} {u : HO} (e : H a = some u) : ∃ o, s.heap.get? a = some o := by
  cases u with
  | lst xs => obtain ⟨_, _, _, _, e⟩ := I.hok a _ e; exact ⟨_, e⟩
  | tup xs => obtain ⟨_, _, _, o, e, _⟩ := I.hok a _ e; exact ⟨_, e⟩
  | dK kvs => obtain ⟨_, _, _, _, o, _, _, e, _⟩ := I.hok a _ e; exact ⟨_, e⟩
  | dT kvs => obtain ⟨_, _, _, _, o, _, _, e, _⟩ := I.hok a _ e; exact ⟨_, e⟩
  | set S n => obtain ⟨o, _, _, _, e, _⟩ := I.hok a _ e; exact ⟨_, e⟩
  | ins C dx fs => obtain ⟨_, _, _, e, _⟩ := I.hok a _ e; exact ⟨_, e⟩
  | own y => exact I.hok a _ e
  | xd fs => obtain ⟨_, ⟨_, _, _, e, _⟩, _⟩ := I.hok a _ e; exact ⟨_, e⟩
  | rng lo hi => obtain ⟨_, _, _, e⟩ := I.hok a _ e; exact ⟨_, e⟩
  | frz ob u => obtain ⟨e, _⟩ := I.hok a _ e; exact ⟨_, e⟩
  | tbl ps => exact ⟨_, show s.heap.get? a = some _ from I.hok a _ e⟩
  | met f y => exact ⟨_, show s.heap.get? a = some _ from I.hok a _ e⟩
  | ext φ => obtain ⟨_, q, _⟩ := I.hok a _ e; exact q
theorem Ow.mut {u : HO} (h : Ow u = true) : L2.Mut (some u) := by cases u <;> first | trivial | (simp [Ow] at h; done)
/-- one object is frozen -/
theorem _root_.L2.Inv.frz1 (I : Inv X pins σ H s) {a : Addr} {u : HO} (e : H a = some u) (ow : Ow u = true) : ∃ o, Inv X pins σ (upd H a (.frz o u)) s := by
  obtain ⟨o, ho⟩ := I.there e
  have mu : L2.Mut (H a) := by rw [e]; exact Ow.mut ow
  refine ⟨o, I.write (x := a) (e := a) (o := .frz o u) (h' := s.heap) (t' := s.toks) mu (.inl rfl) (fun b v _ q => q) ⟨o, ho⟩ ⟨ho, ?_⟩⟩
  refine (I.hok a u e).stay (fun b v _ q => q) (fun b q => ?_) fun b xs q => ?_
  · rw [upd_ne fun z => ?_]; exact q
    subst z; rw [e] at q; cases q; exact absurd ow (by simp [Ow])
  · rw [upd_ne fun z => ?_]; exact q
    subst z; rw [e] at q; cases q; exact absurd ow (by simp [Ow])
/-- many are -/
theorem _root_.L2.Inv.frzd : ∀ (A : List Addr) {H : Hp}, Inv X pins σ H s → (∀ a ∈ A, ∃ u, H a = some u ∧ Ow u = true) → ∃ H', Frzd A H H' ∧ Inv X pins σ H' s
  | [], H, I, _ => ⟨H, Frzd.refl H, I⟩
  | a :: A, H, I, h => by
    by_cases ha : a ∈ A
    · obtain ⟨H', f, I'⟩ := L2.Inv.frzd A I fun b hb => h b (List.mem_cons_of_mem _ hb)
      refine ⟨H', ⟨fun b hb => f.out b fun z => hb (List.mem_cons_of_mem _ z), fun b hb => ?_⟩, I'⟩
      rcases List.mem_cons.mp hb with rfl | hb
      · exact f.inn _ ha
      · exact f.inn _ hb
    · obtain ⟨u, e, ow⟩ := h a List.mem_cons_self
      obtain ⟨o, I1⟩ := I.frz1 e ow
      obtain ⟨H', f, I'⟩ := L2.Inv.frzd A I1 fun b hb => by
        obtain ⟨v, e1, o1⟩ := h b (List.mem_cons_of_mem _ hb)
        exact ⟨v, (upd_ne fun (z : b = a) => ha (z ▸ hb)).trans e1, o1⟩
      refine ⟨H', ⟨fun b hb => ?_, fun b hb => ?_⟩, I'⟩
      · exact (f.out b fun z => hb (List.mem_cons_of_mem _ z)).trans (upd_ne fun (z : b = a) => hb (by rw [z]; exact List.mem_cons_self))
      · by_cases z : b = a
        · subst z
          exact ⟨u, o, e, ow, by rw [f.out _ ha, upd_same]⟩
        · have hb : b ∈ A := (List.mem_cons.mp hb).resolve_left z
          obtain ⟨v, o', e1, o1, e2⟩ := f.inn b hb
          rw [upd_ne z] at e1
          exact ⟨v, o', e1, o1, e2⟩
/-- .. and again what it was, if it was so at the entry -/
theorem _root_.L2.Inv.thaw1 (I : Inv X pins σ H s) {a : Addr} {u : HO} {o : Obj} (e : H a = some (.frz o u)) (ow : Ow u = true) (h0 : ∀ o' v, X.H_0 a ≠ some (.frz o' v)) : Inv X pins σ (upd H a u) s := by
  have nown : ∀ b y, H b = some (.own y) → b ≠ a := fun b y q z => by subst z; rw [e] at q; cases q
  have ntup : ∀ b y, H b = some (.tup y) → b ≠ a := fun b y q z => by subst z; rw [e] at q; cases q
  obtain ⟨e0, ok0⟩ := I.hok a _ e
  have hok : HOk X.prog X.w (upd H a u) s.heap := fun b v q => by
    by_cases hb : b = a
    · subst hb
      rw [upd_same] at q; cases q
      exact ok0.stay (fun _ _ _ q => q) (fun c q => by rw [upd_ne (nown c _ q)]; exact q) fun c xs q => by rw [upd_ne (ntup c _ q)]; exact q
    · rw [upd_ne hb] at q
      exact (I.hok b v q).stay (fun _ _ _ q => q) (fun c q => by rw [upd_ne (nown c _ q)]; exact q) fun c xs q => by rw [upd_ne (ntup c _ q)]; exact q
  have hn : ∀ b, H b = none → b ≠ a := fun b q z => by subst z; rw [e] at q; cases q
  refine ⟨I.ok, I.os, I.bare, ⟨I.base.keep, I.base.slot, fun b ob h1 h2 h3 => ?_, I.base.there, fun b xs h1 => ?_, fun b ob v h1 => ?_, fun b ps h1 => ?_⟩, I.loc, I.cell, ?_, fun x c q => ?_, fun p hp => ?_, hok, I.len⟩
  · have := I.base.free b ob h1 h2 h3
    rw [upd_ne (hn b this)]; exact this
  · have := I.base.tups b xs h1
    rw [upd_ne (ntup b _ this)]; exact this
  · have := I.base.frzs b ob v h1
    rw [upd_ne fun z => ?_]; exact this
    subst z; exact h0 _ _ h1
  · obtain ⟨m, q⟩ := I.base.tbls b ps h1
    refine ⟨m, ?_⟩
    rw [upd_ne fun z => ?_]; exact q
    subst z; rw [e] at q; cases q
  · rw [upd_ne (hn _ I.free)]; exact I.free
  · rw [upd_ne (hn _ (I.freeC x c q))]; exact I.freeC x c q
  · obtain ⟨h1, h2, h3⟩ := I.pin p hp
    exact ⟨h1, by rw [upd_ne (hn _ h2)]; exact h2, h3⟩
end
end Z

set_option Elab.async false
set_option linter.all false
set_option maxRecDepth 100000
set_option maxHeartbeats 1000000
namespace Z
open PySem L2
theorem Dis.symm {A B : List Addr} (h : Dis A B) : Dis B A := fun a hb ha => h a ha hb
theorem Dis.appL {A B C : List Addr} (h : Dis A C) (g : Dis B C) : Dis (A ++ B) C := fun a ha => (List.mem_append.mp ha).elim (h a) (g a)
theorem Dis.appR {A B C : List Addr} (h : Dis A B) (g : Dis A C) : Dis A (B ++ C) := fun a ha hb => (List.mem_append.mp hb).elim (h a ha) (g a ha)
theorem Dis.l1 {A B C : List Addr} (h : Dis (A ++ B) C) : Dis A C := fun a ha => h a (List.mem_append_left _ ha)
theorem Dis.l2 {A B C : List Addr} (h : Dis (A ++ B) C) : Dis B C := fun a ha => h a (List.mem_append_right _ ha)
theorem Dis.r1 {A B C : List Addr} (h : Dis A (B ++ C)) : Dis A B := fun a ha hb => h a ha (List.mem_append_left _ hb)
theorem Dis.r2 {A B C : List Addr} (h : Dis A (B ++ C)) : Dis A C := fun a ha hb => h a ha (List.mem_append_right _ hb)
theorem Dis.mono {A B A' B' : List Addr} (h : Dis A B) (ha : ∀ a ∈ A', a ∈ A) (hb : ∀ a ∈ B', a ∈ B) : Dis A' B' := fun a h1 h2 => h a (ha a h1) (hb a h2)
/-- all that stands outside O stands as it was -/
def Ext (O : List Addr) (H H' : Hp) : Prop := ∀ a u, H a = some u → a ∉ O → H' a = some u
/-- of O, or new -/
def Sub (H : Hp) (O A : List Addr) : Prop := ∀ a ∈ A, a ∈ O ∨ H a = none
theorem Ext.refl {O : List Addr} {H : Hp} : Ext O H H := fun _ _ h _ => h
theorem Sub.refl {O : List Addr} {H : Hp} : Sub H O O := fun _ h => .inl h
theorem Sub.nil {O : List Addr} {H : Hp} : Sub H O [] := fun _ h => nomatch h
theorem Sub.of {O A : List Addr} {H : Hp} (h : ∀ a ∈ A, a ∈ O) : Sub H O A := fun a ha => .inl (h a ha)
theorem Sub.app {O A B : List Addr} {H : Hp} (h : Sub H O A) (g : Sub H O B) : Sub H O (A ++ B) := fun a ha => (List.mem_append.mp ha).elim (h a) (g a)
section
variable {prog : Program} {w : World} {K : PySem.W.Frag} {H H1 H2 : Hp} {O O1 O2 A : List Addr}
theorem Ext.trans (h : Ext O H H1) (s : Sub H O O1) (g : Ext O1 H1 H2) : Ext O H H2 := fun a u e n => g a u (h a u e n) fun z => by
  rcases s a z with z | z
  · exact n z
  · rw [e] at z; cases z
theorem Sub.trans (h : Ext O H H1) (s : Sub H O O1) (g : Sub H1 O1 A) : Sub H O A := fun a ha => by
  rcases g a ha with z | z
  · exact s a z
  · by_cases q : a ∈ O
    · exact .inl q
    · cases e : H a with
      | none => exact .inr rfl
      | some u => rw [h a u e q] at z; cases z
/-- tuples and what is frozen outlast, whatever of O is written -/
theorem Ext.prs (h : Ext O H H1) (ow : ∀ a ∈ O, ∃ u, H a = some u ∧ Ow u = true) : ∀ a u, H a = some u → Prs u = true → H1 a = some u := fun a u e p => h a u e fun z => by
  obtain ⟨v, e1, o1⟩ := ow a z
  rw [e] at e1; cases e1
  cases u <;> first | (simp [Prs] at p; done) | (simp [Ow] at o1; done)
theorem Ext.keep (h : Ext O H H1) (ow : ∀ a ∈ O, ∃ u, H a = some u ∧ Ow u = true) {d : D} {v : V} {B : List Addr} (r : Rz prog w K H d v B) (n : Dis B O) : Rz prog w K H1 d v B :=
  r.stay (h.prs ow) fun a ha u e => h a u e (n a ha)
theorem Ext.keepL (h : Ext O H H1) (ow : ∀ a ∈ O, ∃ u, H a = some u ∧ Ow u = true) {d : List D} {v : List V} {B : List Addr} (r : RzL prog w K H d v B) (n : Dis B O) : RzL prog w K H1 d v B :=
  r.stay (h.prs ow) fun a ha u e => h a u e (n a ha)
end
/-! ## names -/
section
variable (prog : Program) (w : World) (K : PySem.W.Frag) (H : Hp)
inductive SlR : Sl → Option V → List Addr → Prop
  | no (x : Option V) : SlR .no x []
  | v {d : D} {x : V} {O : List Addr} : Rz prog w K H d x O → SlR (.v d) (some x) O
  | r {d : D} {x : V} : Rz prog w K H d x [] → SlR (.r d) (some x) []
  | q {d : D} {x : V} : Rz prog w K H d x [] → SlR (.q d) (some x) []
inductive RE : Env → St → List Addr → Prop
  | nil : RE [] [] []
  | cons {sl : Sl} {x : Option V} {O1 : List Addr} {env : Env} {σ : St} {O2 : List Addr} : SlR prog w K H sl x O1 → RE env σ O2 → Dis O1 O2 → RE (sl :: env) (x :: σ) (O1 ++ O2)
mutual
/-- a value is seen as data, whoever may change it -/
inductive Vw : D → V → Prop
  | non : Vw .non .non
  | bl (b : Bool) : Vw (.bl b) (.bl b)
  | int (i : Int) : Vw (.int i) (.int i)
  | str (x : Str) : Vw (.str x) (.str x)
  | clo {x : Str} {a : Addr} : PySem.W.nsIn K mainGlobals x = some (some (.ref a)) → Vw (.clo x []) (.ref a)
  | tup {xs : List D} {a : Addr} {vs : List V} : SqT K H a vs → VwL xs vs → Vw (.tup xs) (.ref a)
  | lst {xs : List D} {a : Addr} {vs : List V} (o : Bool) : Rd H a (.lst vs) → VwL xs vs → Vw (.lst o xs) (.ref a)
  | dic {kvs : List (D × D)} {a : Addr} {u : HO} {ns : List NestedKey} {ks vs : List V} (o : Bool) : Rd H a u → DU prog w a u ns ks vs → D.keys (kvs.map (·.1)) = some ns → (∀ k ∈ kvs, k.1.depth ≤ 8) →
      VwL (kvs.map (·.1)) ks → VwL (kvs.map (·.2)) vs → Vw (.dic o kvs) (.ref a)
inductive VwL : List D → List V → Prop
  | nil : VwL [] []
  | cons {x : D} {xs : List D} {v : V} {vs : List V} : Vw x v → VwL xs vs → VwL (x :: xs) (v :: vs)
end
variable (σ : St)
mutual
inductive RO : Opd → V → List Addr → Prop
  | val {d : D} {v : V} {O : List Addr} : Rz prog w K H d v O → RO (.val d) v O
  | pl {i : Nat} {v : V} : σ[i]? = some (some v) → RO (.pl i) v []
  | tup {os : List Opd} {a : Addr} {vs : List V} {O : List Addr} : H a = some (.tup vs) → ROs os vs O → RO (.dsp true os) (.ref a) O
  | lst {os : List Opd} {a : Addr} {vs : List V} {O : List Addr} : H a = some (.lst vs) → ROs os vs O → a ∉ O → RO (.dsp false os) (.ref a) (a :: O)
inductive ROs : List Opd → List V → List Addr → Prop
  | nil : ROs [] [] []
  | cons {o : Opd} {os : List Opd} {v : V} {vs : List V} {O1 O2 : List Addr} : RO o v O1 → ROs os vs O2 → Dis O1 O2 → ROs (o :: os) (v :: vs) (O1 ++ O2)
end
end
section
variable {prog : Program} {w : World} {K : PySem.W.Frag} {H H' : Hp} {env : Env} {σ : St} {O : List Addr}
mutual
theorem Rz.vw : ∀ {d : D} {v : V} {O : List Addr}, Rz prog w K H d v O → Vw prog w K H d v
  | _, _, _, .non => .non
  | _, _, _, .bl _ => .bl _
  | _, _, _, .int _ => .int _
  | _, _, _, .str _ => .str _
  | _, _, _, .clo e => .clo e
  | _, _, _, .tup e r => .tup e (RzL.vw r)
  | _, _, _, .lstO e r _ => .lst _ (.inl e) (RzL.vw r)
  | _, _, _, .lstF e r => .lst _ (.inr e) (RzL.vw r)
  | _, _, _, .dicO e d n q rk r _ => .dic _ (.inl e) d n q (RzL.vw rk) (RzL.vw r)
  | _, _, _, .dicF e d n q rk r => .dic _ (.inr e) d n q (RzL.vw rk) (RzL.vw r)
theorem RzL.vw : ∀ {ds : List D} {vs : List V} {O : List Addr}, RzL prog w K H ds vs O → VwL prog w K H ds vs
  | _, _, _, .nil => .nil
  | _, _, _, .cons r rs _ => .cons (Rz.vw r) (RzL.vw rs)
end
theorem VwL.length {ds : List D} {vs : List V} (r : VwL prog w K H ds vs) : ds.length = vs.length := by
  induction ds generalizing vs with
  | nil => cases r; rfl
  | cons x xs ih => cases r with | cons r rs => simp [ih rs]
theorem VwL.get {ds : List D} {vs : List V} (r : VwL prog w K H ds vs) {i : Nat} {d : D} (h : ds[i]? = some d) : ∃ v, vs[i]? = some v ∧ Vw prog w K H d v := by
  induction ds generalizing vs i with
  | nil => simp at h
  | cons x xs ih =>
    cases r with
    | cons r rs =>
      cases i with
      | zero => simp at h; subst h; exact ⟨_, rfl, r⟩
      | succ i => simpa using ih rs (by simpa using h)
theorem SlR.own {sl : Sl} {x : Option V} {O : List Addr} (r : SlR prog w K H sl x O) : ∀ a ∈ O, ∃ u, H a = some u ∧ Ow u = true := by
  cases r with
  | no => exact fun _ h => nomatch h
  | v r => exact r.own
  | r r => exact fun _ h => nomatch h
  | q r => exact fun _ h => nomatch h
theorem SlR.stay (kp : ∀ a u, H a = some u → Prs u = true → H' a = some u) {sl : Sl} {x : Option V} {O : List Addr} (r : SlR prog w K H sl x O) (h : ∀ a ∈ O, ∀ u, H a = some u → H' a = some u) : SlR prog w K H' sl x O := by
  cases r with
  | no => exact .no _
  | v r => exact .v (r.stay kp h)
  | r r => exact .r (r.stay kp h)
  | q r => exact .q (r.stay kp h)
theorem RE.own : ∀ {env : Env} {σ : St} {O : List Addr}, RE prog w K H env σ O → ∀ a ∈ O, ∃ u, H a = some u ∧ Ow u = true
  | _, _, _, .nil, _, h => nomatch h
  | _, _, _, .cons r rs _, a, h => (List.mem_append.mp h).elim (r.own a) (RE.own rs a)
theorem RE.stay (kp : ∀ a u, H a = some u → Prs u = true → H' a = some u) : ∀ {env : Env} {σ : St} {O : List Addr}, RE prog w K H env σ O → (∀ a ∈ O, ∀ u, H a = some u → H' a = some u) → RE prog w K H' env σ O
  | _, _, _, .nil, _ => .nil
  | _, _, _, .cons r rs d, h => .cons (r.stay kp fun a ha => h a (List.mem_append_left _ ha)) (RE.stay kp rs fun a ha => h a (List.mem_append_right _ ha)) d
theorem RE.length : ∀ {env : Env} {σ : St} {O : List Addr}, RE prog w K H env σ O → env.length = σ.length
  | _, _, _, .nil => rfl
  | _, _, _, .cons _ rs _ => by simp [RE.length rs]
/-- the i-th name, and what it may become -/
theorem RE.at : ∀ {env : Env} {σ : St} {O : List Addr} {i : Nat}, RE prog w K H env σ O → i < env.length →
    ∃ x A B C, σ[i]? = some x ∧ SlR prog w K H (env.getD i .no) x B ∧ O = A ++ (B ++ C) ∧ Dis B (A ++ C) ∧
      ∀ H' sl y B', (∀ a u, H a = some u → Prs u = true → H' a = some u) → (∀ a ∈ A ++ C, ∀ u, H a = some u → H' a = some u) → SlR prog w K H' sl y B' → Dis B' (A ++ C) → RE prog w K H' (env.set i sl) (σ.set i y) (A ++ (B' ++ C))
  | _, _, _, i, .nil, h => by simp at h
  | _, _, _, 0, .cons (sl := sl) (x := x) (O1 := O1) (O2 := O2) r rs d, _ => by
    refine ⟨x, [], O1, O2, rfl, r, rfl, d, fun H' sl' y B' kp h r' d' => ?_⟩
    exact RE.cons (O1 := B') (O2 := O2) r' (RE.stay kp rs fun a ha => h a ha) d'
  | _, _, _, i + 1, .cons (sl := sl) (x := x) (O1 := O1) (O2 := O2) r rs d, hi => by
    obtain ⟨y, A, B, C, e, q, eO, dd, up⟩ := RE.at (i := i) rs (by simpa using hi)
    refine ⟨y, O1 ++ A, B, C, by simpa using e, by simpa using q, by rw [eO, List.append_assoc], ?_, fun H' sl' y' B' kp h r' d' => ?_⟩
    · intro a ha hb
      rcases List.mem_append.mp hb with hb | hb
      · rcases List.mem_append.mp hb with hb | hb
        · exact d a hb (by rw [eO]; simp [ha])
        · exact dd a ha (List.mem_append_left _ hb)
      · exact dd a ha (List.mem_append_right _ hb)
    · have h2 := up H' sl' y' B' kp (fun a ha => h a (by rcases List.mem_append.mp ha with z | z <;> simp [z])) r' (fun a ha hb => d' a ha (by rcases List.mem_append.mp hb with z | z <;> simp [z]))
      rw [List.append_assoc]
      refine .cons (r.stay kp fun a ha => h a (by simp [ha])) h2 fun a ha hb => ?_
      rcases List.mem_append.mp hb with z | z
      · exact d a ha (by rw [eO]; simp [z])
      · rcases List.mem_append.mp z with z | z
        · exact d' a z (by simp [ha])
        · exact d a ha (by rw [eO]; simp [z])
/-- what a name holds -/
theorem RE.look {i : Nat} {d : D} (r : RE prog w K H env σ O) (h : look env i = some d) : ∃ v, σ[i]? = some (some v) ∧ Vw prog w K H d v := by
  have hi : i < env.length := by
    rcases Nat.lt_or_ge i env.length with z | z
    · exact z
    · unfold Z.look at h
      have e : env.getD i Sl.no = .no := by simp [List.getD, z]
      rw [e] at h
      cases h
  obtain ⟨x, A, B, C, e, q, _⟩ := r.at hi
  unfold Z.look at h
  generalize env.getD i .no = sl at h q
  cases q with
  | no => cases h
  | v r => cases h; exact ⟨_, e, r.vw⟩
  | r r => cases h; exact ⟨_, e, r.vw⟩
  | q r => cases h; exact ⟨_, e, r.vw⟩
mutual
theorem RO.own : ∀ {o : Opd} {v : V} {O : List Addr}, RO prog w K H σ o v O → ∀ a ∈ O, ∃ u, H a = some u ∧ Ow u = true
  | _, _, _, .val r, a, h => r.own a h
  | _, _, _, .pl _, a, h => nomatch h
  | _, _, _, .tup _ r, a, h => ROs.own r a h
  | _, _, _, .lst e r _, a, h => by
    rcases List.mem_cons.mp h with rfl | h
    · exact ⟨_, e, rfl⟩
    · exact ROs.own r a h
theorem ROs.own : ∀ {os : List Opd} {vs : List V} {O : List Addr}, ROs prog w K H σ os vs O → ∀ a ∈ O, ∃ u, H a = some u ∧ Ow u = true
  | _, _, _, .nil, a, h => nomatch h
  | _, _, _, .cons r rs _, a, h => (List.mem_append.mp h).elim (RO.own r a) (ROs.own rs a)
end
mutual
theorem RO.stay (kp : ∀ a u, H a = some u → Prs u = true → H' a = some u) : ∀ {o : Opd} {v : V} {O : List Addr}, RO prog w K H σ o v O → (∀ a ∈ O, ∀ u, H a = some u → H' a = some u) → RO prog w K H' σ o v O
  | _, _, _, .val r, k => .val (r.stay kp k)
  | _, _, _, .pl e, _ => .pl e
  | _, _, _, .tup e r, k => .tup (kp _ _ e rfl) (ROs.stay kp r k)
  | _, _, _, .lst e r n, k => .lst (k _ List.mem_cons_self _ e) (ROs.stay kp r fun a h => k a (List.mem_cons_of_mem _ h)) n
theorem ROs.stay (kp : ∀ a u, H a = some u → Prs u = true → H' a = some u) : ∀ {os : List Opd} {vs : List V} {O : List Addr}, ROs prog w K H σ os vs O → (∀ a ∈ O, ∀ u, H a = some u → H' a = some u) → ROs prog w K H' σ os vs O
  | _, _, _, .nil, _ => .nil
  | _, _, _, .cons r rs d, k => .cons (RO.stay kp r fun a h => k a (List.mem_append_left _ h)) (ROs.stay kp rs fun a h => k a (List.mem_append_right _ h)) d
end
theorem Ext.keepO (h : Ext O H H') (ow : ∀ a ∈ O, ∃ u, H a = some u ∧ Ow u = true) {o : Opd} {v : V} {B : List Addr} (r : RO prog w K H σ o v B) (n : Dis B O) : RO prog w K H' σ o v B :=
  r.stay (h.prs ow) fun a ha u e => h a u e (n a ha)
theorem Ext.keepOs (h : Ext O H H') (ow : ∀ a ∈ O, ∃ u, H a = some u ∧ Ow u = true) {o : List Opd} {v : List V} {B : List Addr} (r : ROs prog w K H σ o v B) (n : Dis B O) : ROs prog w K H' σ o v B :=
  r.stay (h.prs ow) fun a ha u e => h a u e (n a ha)
mutual
theorem RO.rd (r : RE prog w K H env σ O) : ∀ {o : Opd} {v : V} {B : List Addr} {d : D}, RO prog w K H σ o v B → o.rd env = some d → Vw prog w K H d v
  | _, _, _, _, .val q, h => by cases h; exact q.vw
  | _, _, _, _, .pl e, h => by
    obtain ⟨v, e1, q⟩ := r.look h
    rw [e] at e1; cases e1; exact q
  | _, _, _, _, .tup (os := os) e q, h => by
    have h : (rds os env).map (box true) = some _ := h
    obtain ⟨ds, e1, rfl⟩ := Option.map_eq_some_iff.mp h
    exact .tup (.inl (.inl e)) (ROs.rds r q e1)
  | _, _, _, _, .lst (os := os) e q _, h => by
    have h : (rds os env).map (box false) = some _ := h
    obtain ⟨ds, e1, rfl⟩ := Option.map_eq_some_iff.mp h
    exact .lst _ (.inl e) (ROs.rds r q e1)
theorem ROs.rds (r : RE prog w K H env σ O) : ∀ {os : List Opd} {vs : List V} {B : List Addr} {ds : List D}, ROs prog w K H σ os vs B → rds os env = some ds → VwL prog w K H ds vs
  | _, _, _, _, .nil, h => by cases h; exact .nil
  | _, _, _, _, .cons (o := o) (os := os) q qs _, h => by
    cases e1 : o.rd env with
    | none => simp [Z.rds, e1] at h
    | some d =>
      cases e2 : Z.rds os env with
      | none => simp [Z.rds, e1, e2] at h
      | some ds =>
        simp only [Z.rds, e1, e2, Option.some.injEq] at h
        subst h
        exact .cons (RO.rd r q e1) (ROs.rds r qs e2)
end
end
end Z

set_option Elab.async false
set_option linter.all false
set_option maxRecDepth 100000
set_option maxHeartbeats 1000000
namespace Z
open PySem L2
section
variable (prog : Program) (w : World) (K : PySem.W.Frag) (H : Hp)
/-- a container that is seen, and whose parts are frozen -/
inductive Kz : D → V → Prop
  | of {d : D} {v : V} : Rz prog w K H d v [] → Kz d v
  | lst {xs : List D} {a : Addr} {vs : List V} (o : Bool) : Rd H a (.lst vs) → RzL prog w K H xs vs [] → Kz (.lst o xs) (.ref a)
  | dic {kvs : List (D × D)} {a : Addr} {u : HO} {ns : List NestedKey} {ks vs : List V} (o : Bool) : Rd H a u → DU prog w a u ns ks vs → D.keys (kvs.map (·.1)) = some ns → (∀ k ∈ kvs, k.1.depth ≤ 8) →
      RzL prog w K H (kvs.map (·.1)) ks [] → RzL prog w K H (kvs.map (·.2)) vs [] → Kz (.dic o kvs) (.ref a)
inductive KzL : List D → List V → Prop
  | nil : KzL [] []
  | cons {x : D} {xs : List D} {v : V} {vs : List V} : Kz prog w K H x v → KzL xs vs → KzL (x :: xs) (v :: vs)
end
theorem set_self {α : Type} : ∀ {l : List α} {i : Nat} {x : α}, l[i]? = some x → l.set i x = l
  | [], _, _, h => by simp at h
  | y :: l, 0, x, h => by simp at h; subst h; rfl
  | y :: l, i + 1, x, h => by simp only [List.set_cons_succ]; rw [set_self (by simpa using h)]
theorem frzk_fst (kvs : List (D × D)) : (D.frzk kvs).map (·.1) = D.frzs (kvs.map (·.1)) := by rw [frzk_map, frzs_map, List.map_map, List.map_map]; rfl
theorem frzk_snd (kvs : List (D × D)) : (D.frzk kvs).map (·.2) = D.frzs (kvs.map (·.2)) := by rw [frzk_map, frzs_map, List.map_map, List.map_map]; rfl
theorem frzk_dp {kvs : List (D × D)} (q : ∀ k ∈ kvs, k.1.depth ≤ 8) : ∀ k ∈ D.frzk kvs, k.1.depth ≤ 8 := fun k hk => by
  rw [frzk_map] at hk
  obtain ⟨k', hk', rfl⟩ := List.mem_map.mp hk
  show k'.1.frz.depth ≤ 8
  rw [depth_frz]; exact q k' hk'
section
variable {prog : Program} {w : World} {K : PySem.W.Frag} {H H' : Hp} {env : Env} {σ : St} {O : List Addr}
/-- the parts of a thing of one's own are frozen -/
theorem Rz.kids {d : D} {v : V} {B : List Addr} (r : Rz prog w K H d v B) : ∃ A, (∀ a ∈ A, a ∈ B) ∧ ∀ H', Frzd A H H' → ∃ B', Rz prog w K H' d.kids v B' ∧ (∀ a ∈ B', a ∈ B ∧ a ∉ A) ∧ Kz prog w K H' d.kids v := by
  cases r with
  | non => exact ⟨[], (fun _ h => nomatch h), fun H' f => ⟨[], .non, (fun _ h => nomatch h), .of .non⟩⟩
  | bl b => exact ⟨[], (fun _ h => nomatch h), fun H' f => ⟨[], .bl b, (fun _ h => nomatch h), .of (.bl b)⟩⟩
  | int b => exact ⟨[], (fun _ h => nomatch h), fun H' f => ⟨[], .int b, (fun _ h => nomatch h), .of (.int b)⟩⟩
  | str b => exact ⟨[], (fun _ h => nomatch h), fun H' f => ⟨[], .str b, (fun _ h => nomatch h), .of (.str b)⟩⟩
  | clo e => exact ⟨[], (fun _ h => nomatch h), fun H' f => ⟨[], .clo e, (fun _ h => nomatch h), .of (.clo e)⟩⟩
  | tup e r =>
    refine ⟨B, fun _ h => h, fun H' f => ?_⟩
    have q := Rz.frz f (Rz.tup e r) fun _ h => h
    exact ⟨[], q, (fun _ h => nomatch h), .of q⟩
  | lstO e r n =>
    rename_i xs a vs O
    refine ⟨O, fun _ h => List.mem_cons_of_mem _ h, fun H' f => ?_⟩
    have q := RzL.frz f r fun _ h => h
    have e' : H' a = some (.lst vs) := by rw [f.out a n]; exact e
    exact ⟨[a], .lstO e' q (fun h => nomatch h), fun b hb => by simp at hb; subst hb; exact ⟨by simp, n⟩, .lst true (.inl e') q⟩
  | lstF e r =>
    refine ⟨[], (fun _ h => nomatch h), fun H' f => ?_⟩
    have q := Rz.frz f (Rz.lstF e r) fun _ h => nomatch h
    exact ⟨[], q, (fun _ h => nomatch h), .of q⟩
  | dicO e d n q rk r m =>
    rename_i kvs a u ns ks vs O
    refine ⟨O, fun _ h => List.mem_cons_of_mem _ h, fun H' f => ?_⟩
    have q1 := RzL.frz f rk fun _ h => nomatch h
    have q2 := RzL.frz f r fun _ h => h
    have e' : H' a = some u := by rw [f.out a m]; exact e
    have k1 : D.keys ((D.frzk kvs).map (·.1)) = some ns := by rw [frzk_fst, keys_frzs]; exact n
    rw [← frzk_fst] at q1
    rw [← frzk_snd] at q2
    exact ⟨[a], .dicO e' d k1 (frzk_dp q) q1 q2 (fun h => nomatch h), fun b hb => by simp at hb; subst hb; exact ⟨by simp, m⟩, .dic true (.inl e') d k1 (frzk_dp q) q1 q2⟩
  | dicF e d n q rk r =>
    refine ⟨[], (fun _ h => nomatch h), fun H' f => ?_⟩
    have q := Rz.frz f (Rz.dicF e d n q rk r) fun _ h => nomatch h
    exact ⟨[], q, (fun _ h => nomatch h), .of q⟩
theorem Kz.vw {d : D} {v : V} (r : Kz prog w K H d v) : Vw prog w K H d v := by
  cases r with
  | of r => exact r.vw
  | lst o e r => exact .lst _ e r.vw
  | dic o e d n q rk r => exact .dic _ e d n q rk.vw r.vw
theorem Kz.list {o : Bool} {xs : List D} {v : V} (r : Kz prog w K H (.lst o xs) v) : ∃ a vs, v = .ref a ∧ Rd H a (.lst vs) ∧ RzL prog w K H xs vs [] := by
  cases r with
  | of r => cases r with
    | lstF e r => exact ⟨_, _, rfl, .inr e, r⟩
  | lst o e r => exact ⟨_, _, rfl, e, r⟩
theorem Kz.tup {xs : List D} {v : V} (r : Kz prog w K H (.tup xs) v) : ∃ a vs, v = .ref a ∧ SqT K H a vs ∧ RzL prog w K H xs vs [] := by
  cases r with
  | of r => cases r with
    | tup e r => exact ⟨_, _, rfl, e, r⟩
theorem Kz.dict {o : Bool} {kvs : List (D × D)} {v : V} (r : Kz prog w K H (.dic o kvs) v) : ∃ a u ns ks vs, v = .ref a ∧ Rd H a u ∧ DU prog w a u ns ks vs ∧ D.keys (kvs.map (·.1)) = some ns ∧ (∀ k ∈ kvs, k.1.depth ≤ 8) ∧
    RzL prog w K H (kvs.map (·.1)) ks [] ∧ RzL prog w K H (kvs.map (·.2)) vs [] := by
  cases r with
  | of r => cases r with
    | dicF e d n q rk r => exact ⟨_, _, _, _, _, rfl, .inr e, d, n, q, rk, r⟩
  | dic o e d n q rk r => exact ⟨_, _, _, _, _, rfl, e, d, n, q, rk, r⟩
end
/-! ## freezing what is handed on -/
section
variable {X : Cx} {pins : List (Addr × Obj)} {σ : St} {s : Shared}
abbrev XRz (X : Cx) (H : Hp) := Rz X.prog X.w X.K H
abbrev XRzL (X : Cx) (H : Hp) := RzL X.prog X.w X.K H
abbrev XRE (X : Cx) (H : Hp) := RE X.prog X.w X.K H
abbrev XRO (X : Cx) (H : Hp) := RO X.prog X.w X.K H
abbrev XROs (X : Cx) (H : Hp) := ROs X.prog X.w X.K H
abbrev XVw (X : Cx) (H : Hp) := Vw X.prog X.w X.K H
abbrev XKz (X : Cx) (H : Hp) := Kz X.prog X.w X.K H
/-- things are frozen, no more -/
def Fg (H H' : Hp) : Prop := ∀ a, H' a = H a ∨ ∃ u o, H a = some u ∧ Ow u = true ∧ H' a = some (.frz o u)
theorem Fg.refl {H : Hp} : Fg H H := fun _ => .inl rfl
theorem Fg.trans {H H1 H2 : Hp} (a : Fg H H1) (b : Fg H1 H2) : Fg H H2 := fun c => by
  rcases b c with e | ⟨u, o, e1, ow, e2⟩
  · rcases a c with e' | ⟨u, o, e1, ow, e2⟩
    · exact .inl (e.trans e')
    · exact .inr ⟨u, o, e1, ow, e.trans e2⟩
  · rcases a c with e' | ⟨u', o', e1', ow', e2'⟩
    · exact .inr ⟨u, o, e'.symm.trans e1, ow, e2⟩
    · rw [e2'] at e1; cases e1; exact absurd ow (by simp [Ow])
theorem Fg.new {H H' : Hp} (f : Fg H H') : ∀ a, H a = none → H' a = none := fun a e => by
  rcases f a with z | ⟨u, o, e1, _⟩
  · rw [z]; exact e
  · rw [e] at e1; cases e1
theorem Fg.prs {H H' : Hp} (f : Fg H H') : ∀ a u, H a = some u → Prs u = true → H' a = some u := fun a u e p => by
  rcases f a with z | ⟨u', o, e1, ow, _⟩
  · rw [z]; exact e
  · rw [e] at e1; cases e1
    cases u <;> first | (simp [Prs] at p; done) | (simp [Ow] at ow; done)
theorem Fg.rd {H H' : Hp} (f : Fg H H') {a : Addr} {u : HO} (h : Rd H a u) : Rd H' a u := by
  rcases h with h | ⟨o, h⟩
  · rcases f a with z | ⟨u', o, e1, ow, e2⟩
    · exact .inl (z.trans h)
    · rw [h] at e1; cases e1; exact .inr ⟨o, e2⟩
  · exact .inr ⟨o, f.prs a _ h rfl⟩
theorem Fg.of {A : List Addr} {H H' : Hp} (f : Frzd A H H') : Fg H H' := fun a => by
  by_cases z : a ∈ A
  · obtain ⟨u, o, e1, ow, e2⟩ := f.inn a z
    exact .inr ⟨u, o, e1, ow, e2⟩
  · exact .inl (f.out a z)
theorem Kz.fg {H H' : Hp} (f : Fg H H') {d : D} {v : V} (k : XKz X H d v) : XKz X H' d v := by
  have st : ∀ {ds : List D} {vs : List V}, XRzL X H ds vs [] → XRzL X H' ds vs [] := fun r => r.stay f.prs fun _ h => nomatch h
  cases k with
  | of r => exact .of (r.stay f.prs fun _ h => nomatch h)
  | lst o e r => exact .lst o (f.rd e) (st r)
  | dic o e d n q rk r => exact .dic o (f.rd e) d n q (st rk) (st r)
/-- a step of ours alone: of O things are frozen, no more -/
structure Gh (X : Cx) (pins : List (Addr × Obj)) (σ : St) (s : Shared) (H : Hp) (O : List Addr) (H' : Hp) (O' : List Addr) : Prop where
  inv : Inv X pins σ H' s
  ext : Ext O H H'
  fg : Fg H H'
  sub : ∀ a ∈ O', a ∈ O
theorem Gh.new {H H' : Hp} {O O' : List Addr} (g : Gh X pins σ s H O H' O') : ∀ a, H a = none → H' a = none := g.fg.new
theorem Gh.refl {H : Hp} {O : List Addr} (I : Inv X pins σ H s) : Gh X pins σ s H O H O := ⟨I, Ext.refl, Fg.refl, fun _ h => h⟩
theorem Gh.trans {H H1 H2 : Hp} {O O1 O2 : List Addr} (a : Gh X pins σ s H O H1 O1) (b : Gh X pins σ s H1 O1 H2 O2) : Gh X pins σ s H O H2 O2 :=
  ⟨b.inv, fun c u e n => b.ext c u (a.ext c u e n) fun z => n (a.sub c z), a.fg.trans b.fg, fun c h => a.sub c (b.sub c h)⟩
theorem Gh.of_frzd {H H' : Hp} {A O O' : List Addr} (f : Frzd A H H') (I : Inv X pins σ H' s) (h : ∀ a ∈ A, a ∈ O) (g : ∀ a ∈ O', a ∈ O) : Gh X pins σ s H O H' O' :=
  ⟨I, fun a u e n => by rw [f.out a fun z => n (h a z)]; exact e, .of f, g⟩
theorem getD_lt {env : Env} {i : Nat} (h : env.getD i .no ≠ .no) : i < env.length := by
  rcases Nat.lt_or_ge i env.length with z | z
  · exact z
  · exact absurd (by simp [List.getD, z]) h
/-- a name's thing is frozen -/
theorem frz_name {H : Hp} {env : Env} {O : List Addr} {i : Nat} {d : D} (I : Inv X pins σ H s) (r : XRE X H env σ O) (h : env.getD i .no = .v d) :
    ∃ H' O' v, Gh X pins σ s H O H' O' ∧ σ[i]? = some (some v) ∧ XRE X H' (env.set i (.v d.frz)) σ O' ∧ XRz X H' d.frz v [] := by
  obtain ⟨x, A, B, C, e, q, eO, dd, up⟩ := r.at (getD_lt (by rw [h]; exact fun z => by cases z))
  rw [h] at q
  cases q with
  | v q =>
    obtain ⟨H', f, I'⟩ := I.frzd B q.own
    have q' := Rz.frz f q fun _ h => h
    have r' := up H' (.v d.frz) _ [] f.prs (fun a ha u e => by rw [f.out a fun z => dd a z ha]; exact e) (.v q') Dis.nil
    rw [set_self e] at r'
    exact ⟨H', _, _, .of_frzd f I' (fun a ha => by rw [eO]; simp [ha]) (fun a ha => by rw [eO]; simp at ha ⊢; rcases ha with z | z <;> simp [z]), e, r', q'⟩
mutual
theorem take_ok : ∀ {o : Opd} {H : Hp} {env env' : Env} {O B : List Addr} {v : V} {d : D}, Inv X pins σ H s → XRE X H env σ O → XRO X H σ o v B → Dis B O → o.take env = some (d, env') →
    ∃ H' O' B', Gh X pins σ s H O H' O' ∧ XRE X H' env' σ O' ∧ XRz X H' d v B' ∧ Dis B' O' ∧ ∀ a ∈ B', a ∈ B
  | .val d, H, env, env', O, B, v, _, I, r, q, dj, h => by
    cases h
    cases q with
    | val q => exact ⟨H, O, B, .refl I, r, q, dj, fun _ h => h⟩
  | .pl i, H, env, env', O, B, v, d, I, r, q, dj, h => by
    cases q with
    | pl e =>
      have h : (match env.getD i .no with | .v d => some (d.frz, env.set i (.v d.frz)) | .r d => if d.imm then some (d, env) else none | .q d => if d.imm then some (d, env) else none | .no => none) = some (d, env') := h
      cases g : env.getD i .no with
      | no => rw [g] at h; cases h
      | v d0 =>
        rw [g] at h; cases h
        obtain ⟨H', O', v', G, e', r', q'⟩ := frz_name I r g
        rw [e] at e'; cases e'
        exact ⟨H', O', [], G, r', q', Dis.nil, fun _ h => nomatch h⟩
      | r d0 =>
        rw [g] at h
        dsimp only at h
        split at h <;> cases h
        obtain ⟨x, A, B, C, e', q, _⟩ := r.at (getD_lt (by rw [g]; exact fun z => by cases z))
        rw [g] at q
        cases q with
        | r q =>
          rw [e] at e'; cases e'
          exact ⟨H, O, [], .refl I, r, q, Dis.nil, fun _ h => nomatch h⟩
      | q d0 =>
        rw [g] at h
        dsimp only at h
        split at h <;> cases h
        obtain ⟨x, A, B, C, e', q, _⟩ := r.at (getD_lt (by rw [g]; exact fun z => by cases z))
        rw [g] at q
        cases q with
        | q q =>
          rw [e] at e'; cases e'
          exact ⟨H, O, [], .refl I, r, q, Dis.nil, fun _ h => nomatch h⟩
  | .dsp t os, H, env, env', O, B, v, d, I, r, q, dj, h => by
    have h : (match takes os env with | some (ds, e) => some (box t ds, e) | none => none) = some (d, env') := h
    cases e : takes os env with
    | none => rw [e] at h; cases h
    | some p =>
      obtain ⟨ds, e1⟩ := p
      rw [e] at h; cases h
      cases q with
      | tup e0 q =>
        obtain ⟨H', O', B', G, r', q', dj', sb⟩ := takes_ok I r q dj e
        exact ⟨H', O', B', G, r', .tup (.inl (.inl (G.ext.prs r.own _ _ e0 rfl))) q', dj', sb⟩
      | lst e0 q n =>
        rename_i a vs O2
        obtain ⟨H', O', B', G, r', q', dj', sb⟩ := takes_ok I r q (fun b hb => dj b (List.mem_cons_of_mem _ hb)) e
        have ea : H' a = some (.lst vs) := G.ext _ _ e0 (dj _ List.mem_cons_self)
        refine ⟨H', O', a :: B', G, r', .lstO ea q' fun z => n (sb _ z), fun b hb => ?_, fun b hb => ?_⟩
        · rcases List.mem_cons.mp hb with rfl | hb
          · exact fun z => dj _ List.mem_cons_self (G.sub _ z)
          · exact dj' b hb
        · rcases List.mem_cons.mp hb with rfl | hb
          · exact List.mem_cons_self
          · exact List.mem_cons_of_mem _ (sb b hb)
theorem takes_ok : ∀ {os : List Opd} {H : Hp} {env env' : Env} {O B : List Addr} {vs : List V} {ds : List D}, Inv X pins σ H s → XRE X H env σ O → XROs X H σ os vs B → Dis B O → takes os env = some (ds, env') →
    ∃ H' O' B', Gh X pins σ s H O H' O' ∧ XRE X H' env' σ O' ∧ XRzL X H' ds vs B' ∧ Dis B' O' ∧ ∀ a ∈ B', a ∈ B
  | [], H, env, env', O, B, vs, ds, I, r, q, dj, h => by
    cases h
    cases q
    exact ⟨H, O, [], .refl I, r, .nil, Dis.nil, fun _ h => h⟩
  | o :: os, H, env, env', O, B, vs, ds, I, r, q, dj, h => by
    cases e : o.take env with
    | none => simp [takes, e] at h
    | some p =>
      obtain ⟨d, env1⟩ := p
      cases e2 : takes os env1 with
      | none => simp [takes, e, e2] at h
      | some p2 =>
        obtain ⟨ds2, env2⟩ := p2
        simp only [takes, e, e2, Option.some.injEq, Prod.mk.injEq] at h
        obtain ⟨rfl, rfl⟩ := h
        cases q with
        | cons q qs dq =>
          obtain ⟨H1, O1, B1, G1, r1, q1, dj1, sb1⟩ := take_ok I r q dj.l1 e
          have qs1 := G1.ext.keepOs r.own qs dj.l2
          obtain ⟨H2, O2, B2, G2, r2, q2, dj2, sb2⟩ := takes_ok G1.inv r1 qs1 (dj.l2.mono (fun _ h => h) G1.sub) e2
          have q1' := G2.ext.keep r1.own q1 dj1
          exact ⟨H2, O2, B1 ++ B2, G1.trans G2, r2, .cons q1' q2 (dq.mono sb1 sb2), Dis.appL (dj1.mono (fun _ h => h) G2.sub) dj2,
            fun a ha => by rcases List.mem_append.mp ha with z | z <;> simp [sb1 _, sb2 _, z]⟩
end
/-- what a temporary thing bears is frozen -/
theorem frz_val {H : Hp} {env : Env} {O B : List Addr} {d : D} {v : V} (I : Inv X pins σ H s) (r : XRE X H env σ O) (q : XRz X H d v B) (dj : Dis B O) :
    ∃ H', Inv X pins σ H' s ∧ Ext B H H' ∧ Fg H H' ∧ XRE X H' env σ O ∧ XRz X H' d.frz v [] := by
  obtain ⟨H', f, I'⟩ := I.frzd B q.own
  refine ⟨H', I', fun a u e n => by rw [f.out a n]; exact e, .of f, r.stay f.prs fun a ha u e => by rw [f.out a fun z => dj a z ha]; exact e, Rz.frz f q fun _ h => h⟩
theorem kids_val {H : Hp} {env : Env} {O B : List Addr} {d : D} {v : V} (I : Inv X pins σ H s) (r : XRE X H env σ O) (q : XRz X H d v B) (dj : Dis B O) :
    ∃ H', Inv X pins σ H' s ∧ Ext B H H' ∧ Fg H H' ∧ XRE X H' env σ O ∧ XKz X H' d.kids v := by
  obtain ⟨A, hA, up⟩ := q.kids
  obtain ⟨H', f, I'⟩ := I.frzd A fun a ha => q.own a (hA a ha)
  obtain ⟨B', _, _, kz⟩ := up H' f
  refine ⟨H', I', fun a u e n => by rw [f.out a fun z => n (hA a z)]; exact e, .of f, r.stay f.prs fun a ha u e => by rw [f.out a fun z => dj a (hA a z) ha]; exact e, kz⟩
/-- read, the parts frozen -/
theorem rdk_ok {o : Opd} {H : Hp} {env env' : Env} {O B : List Addr} {v : V} {d : D} (I : Inv X pins σ H s) (r : XRE X H env σ O) (q : XRO X H σ o v B) (dj : Dis B O) (h : o.rdk env = some (d, env')) :
    ∃ H' O', Inv X pins σ H' s ∧ Ext (O ++ B) H H' ∧ Fg H H' ∧ (∀ a ∈ O', a ∈ O) ∧ XRE X H' env' σ O' ∧ XKz X H' d v := by
  have tmp : ∀ {d0 : D} {env1 : Env}, o.take env = some (d0, env1) → ∃ H' O', Inv X pins σ H' s ∧ Ext (O ++ B) H H' ∧ Fg H H' ∧ (∀ a ∈ O', a ∈ O) ∧ XRE X H' env1 σ O' ∧ XKz X H' d0.kids v := fun {d0 env1} e => by
    obtain ⟨H1, O1, B1, G1, r1, q1, dj1, sb1⟩ := take_ok I r q dj e
    obtain ⟨H2, I2, x2, n2, r2, k2⟩ := kids_val G1.inv r1 q1 dj1
    exact ⟨H2, O1, I2, fun a u e n => x2 a u (G1.ext a u e fun z => n (by simp [z])) fun z => n (by simp [sb1 a z]), G1.fg.trans n2, G1.sub, r2, k2⟩
  cases o with
  | val d0 =>
    have h : (match (Opd.val d0).take env with | some (d, e) => some (d.kids, e) | none => none) = some (d, env') := h
    cases h
    exact tmp rfl
  | dsp t os =>
    have h : (match (Opd.dsp t os).take env with | some (d, e) => some (d.kids, e) | none => none) = some (d, env') := h
    cases e : (Opd.dsp t os).take env with
    | none => rw [e] at h; cases h
    | some p =>
      obtain ⟨d0, env1⟩ := p
      rw [e] at h; cases h
      exact tmp e
  | pl i =>
    have h : (match env.getD i .no with | .v d => some (d.kids, env.set i (.v d.kids)) | .r d => some (d, env) | .q d => if d.kimm then some (d, env) else none | .no => none) = some (d, env') := h
    cases q with
    | pl e =>
      cases g : env.getD i .no with
      | no => rw [g] at h; cases h
      | v d0 =>
        rw [g] at h; cases h
        obtain ⟨x, A, B, C, e', q, eO, dd, up⟩ := r.at (getD_lt (by rw [g]; exact fun z => by cases z))
        rw [g] at q
        cases q with
        | v q =>
          rw [e] at e'; cases e'
          obtain ⟨A', hA, up2⟩ := q.kids
          obtain ⟨H', f, I'⟩ := I.frzd A' fun a ha => q.own a (hA a ha)
          obtain ⟨B', q', hB, kz⟩ := up2 H' f
          have r' := up H' (.v d0.kids) (some v) B' f.prs (fun a ha u e => by rw [f.out a fun z => dd a (hA a z) ha]; exact e) (.v q') (dd.mono (fun a h => (hB a h).1) fun _ h => h)
          rw [set_self e] at r'
          have G : Gh X pins σ s H O H' (A ++ (B' ++ C)) := .of_frzd f I' (fun a ha => by rw [eO]; simp [hA a ha]) (fun a ha => by
            rw [eO]
            rcases List.mem_append.mp ha with z | z
            · simp [z]
            · rcases List.mem_append.mp z with z | z
              · simp [(hB a z).1]
              · simp [z])
          exact ⟨H', _, I', fun a u e n => G.ext a u e fun z => n (by simp [z]), G.fg, G.sub, r', kz⟩
      | r d0 =>
        rw [g] at h; cases h
        obtain ⟨x, A, B, C, e', q, _⟩ := r.at (getD_lt (by rw [g]; exact fun z => by cases z))
        rw [g] at q
        cases q with
        | r q =>
          rw [e] at e'; cases e'
          exact ⟨H, O, I, Ext.refl, Fg.refl, fun _ h => h, r, .of q⟩
      | q d0 =>
        rw [g] at h
        dsimp only at h
        split at h <;> cases h
        obtain ⟨x, A, B, C, e', q, _⟩ := r.at (getD_lt (by rw [g]; exact fun z => by cases z))
        rw [g] at q
        cases q with
        | q q =>
          rw [e] at e'; cases e'
          exact ⟨H, O, I, Ext.refl, Fg.refl, fun _ h => h, r, .of q⟩
/-- a thing that stands still -/
theorem fix_ok {o : Opd} {H : Hp} {env env' : Env} {O B : List Addr} {v : V} {d : D} (I : Inv X pins σ H s) (r : XRE X H env σ O) (q : XRO X H σ o v B) (dj : Dis B O) (h : o.fix env = some (d, env')) :
    ∃ H' O', Inv X pins σ H' s ∧ Ext (O ++ B) H H' ∧ Fg H H' ∧ (∀ a ∈ O', a ∈ O) ∧ XRE X H' env' σ O' ∧ XRz X H' d v [] := by
  have tmp : ∀ {d0 : D} {env1 : Env}, o.take env = some (d0, env1) → ∃ H' O', Inv X pins σ H' s ∧ Ext (O ++ B) H H' ∧ Fg H H' ∧ (∀ a ∈ O', a ∈ O) ∧ XRE X H' env1 σ O' ∧ XRz X H' d0.frz v [] := fun {d0 env1} e => by
    obtain ⟨H1, O1, B1, G1, r1, q1, dj1, sb1⟩ := take_ok I r q dj e
    obtain ⟨H2, I2, x2, n2, r2, k2⟩ := frz_val G1.inv r1 q1 dj1
    exact ⟨H2, O1, I2, fun a u e n => x2 a u (G1.ext a u e fun z => n (by simp [z])) fun z => n (by simp [sb1 a z]), G1.fg.trans n2, G1.sub, r2, k2⟩
  cases o with
  | val d0 =>
    have h : (match (Opd.val d0).take env with | some (d, e) => some (d.frz, e) | none => none) = some (d, env') := h
    cases h
    exact tmp rfl
  | dsp t os =>
    have h : (match (Opd.dsp t os).take env with | some (d, e) => some (d.frz, e) | none => none) = some (d, env') := h
    cases e : (Opd.dsp t os).take env with
    | none => rw [e] at h; cases h
    | some p =>
      obtain ⟨d0, env1⟩ := p
      rw [e] at h; cases h
      exact tmp e
  | pl i =>
    have h : (match env.getD i .no with | .v d => some (d.frz, env.set i (.v d.frz)) | .r d => some (d, env) | .q d => if d.kimm then some (d, env) else none | .no => none) = some (d, env') := h
    cases q with
    | pl e =>
      cases g : env.getD i .no with
      | no => rw [g] at h; cases h
      | v d0 =>
        rw [g] at h; cases h
        obtain ⟨H', O', v', G, e', r', q'⟩ := frz_name I r g
        rw [e] at e'; cases e'
        exact ⟨H', O', G.inv, fun a u e n => G.ext a u e fun z => n (by simp [z]), G.fg, G.sub, r', q'⟩
      | r d0 =>
        rw [g] at h; cases h
        obtain ⟨x, A, B, C, e', q, _⟩ := r.at (getD_lt (by rw [g]; exact fun z => by cases z))
        rw [g] at q
        cases q with
        | r q =>
          rw [e] at e'; cases e'
          exact ⟨H, O, I, Ext.refl, Fg.refl, fun _ h => h, r, q⟩
      | q d0 =>
        rw [g] at h
        dsimp only at h
        split at h <;> cases h
        obtain ⟨x, A, B, C, e', q, _⟩ := r.at (getD_lt (by rw [g]; exact fun z => by cases z))
        rw [g] at q
        cases q with
        | q q =>
          rw [e] at e'; cases e'
          exact ⟨H, O, I, Ext.refl, Fg.refl, fun _ h => h, r, q⟩
end
end Z

set_option Elab.async false
set_option linter.all false
set_option maxRecDepth 100000
set_option maxHeartbeats 1000000
namespace Z
open PySem L2 PyProof.Rows
def Ty.nm : Ty → String
  | .int => "int" | .bool => "bool" | .str => "str" | .tup => "tuple" | .lst => "list" | .dct => "dict" | .cls _ => ""
section
variable {X : Cx} {pins : List (Addr × Obj)} {σ : L2.St} {H : Hp} {s : Shared}
theorem cons_paired {α β : Type} {F : α → β → Prop} {l : List α} {m : List β} (h : Paired F l m) : l.length = m.length := h.length
/-- a dict's entries -/
theorem DU.ents (I : Inv X pins σ H s) {a : Addr} {u : HO} {ns : List NestedKey} {ks vs : List V} (e : Rd H a u) (d : DU X.prog X.w a u ns ks vs) :
    ∃ o des ep, s.heap.get? a = some o ∧ o.cls = .type "dict" ∧ o.data = .dict des ep ∧ Vals ks (des.toList.map (·.key)) ∧ Vals vs (des.toList.map (·.val)) ∧ a ≠ sysModules := by
  have ok := e.ok I.hok
  cases d with
  | k es =>
    obtain ⟨hl, hs, kvs, hp, o, des, ep, h1, h2, h3, h4, h5, h6⟩ := ok
    refine ⟨o, des, ep, h1, h2.1, h3, ?_, ?_, fun z => by subst z; simp at hs⟩
    · clear h3 h4 h6 hl e
      generalize des.toList = l at h5
      induction h5 generalizing es with
      | nil => cases hp; exact .nil
      | @cons e kv dl kl q1 q2 q3 ih =>
        cases hp with
        | cons r rs =>
          rename_i p es
          refine .cons ?_ (ih _ rs)
          have q1 : keyIs kv.1 e.key = true := q1
          rw [← r.1] at q1
          rcases keyIs_shape q1 with ⟨i, t, e1, e2⟩ | ⟨i, t, e1, e2⟩
          · show L2.RelV (kV p.1) e.key
            rw [e1, e2]; exact ⟨t, rfl⟩
          · show L2.RelV (kV p.1) e.key
            rw [e1, e2]; exact ⟨t, rfl⟩
    · clear h3 h4 h6 hl e
      generalize des.toList = l at h5
      induction h5 generalizing es with
      | nil => cases hp; exact .nil
      | @cons e kv dl kl q1 q2 q3 ih =>
        cases hp with
        | cons r rs =>
          refine .cons ?_ (ih _ rs)
          show L2.RelV _ e.val
          rw [q2]; exact r.2
  | t es =>
    obtain ⟨⟨hl, hs, hn, xs, hp, o, des, ep, h1, h2, h3, h4⟩, okk⟩ := ok
    clear okk
    refine ⟨o, des, ep, h1, h2.1, h3, ?_, ?_, fun z => by subst z; simp at hs⟩
    · rw [h4]
      clear h3 h4 hn hl e
      induction hp with
      | nil => exact .nil
      | @cons p q _ _ r _ ih => exact .cons (show L2.RelV (V.ref p.2.1) (.ref q.2.1) from by rw [r.2.1]; rfl) ih
    · rw [h4]
      clear h3 h4 hn hl e
      induction hp with
      | nil => exact .nil
      | @cons p q _ _ r _ ih => exact .cons (show L2.RelV p.2.2 q.2.2 from r.2.2) ih
theorem Vw.isList (I : Inv X pins σ H s) {a : Addr} {vs : List V} (e : Rd H a (.lst vs)) : ∃ (its : List Value) (n : Nat), Vals vs its ∧ s.heap.get? a = some { cls := .type "list", data := .seq its.toArray n } ∧ vs.length ≤ sizeLine := by
  obtain ⟨z, its, n, r, q⟩ := e.ok I.hok
  exact ⟨its, n, r, q, z⟩
/-- a value's type -/
theorem Vw.kit (I : Inv X pins σ H s) {d : D} {v : V} {u : Value} (r : XVw X H d v) (rv : RelV v u) {T : String} (h : d.ty = some T) : ∃ P : Heap → Prop, PySem.W.KitX X.K u (.type T) P ∧ P s.heap ∧ u ≠ .builtin "__main__.__loader__#opaque" := by
  cases r with
  | non => cases h; cases (show u = Value.none from rv); exact ⟨_, PySem.W.kitx_none, True.intro, fun z => nomatch z⟩
  | bl y => cases h; cases (show u = Value.bool y from rv); exact ⟨_, PySem.W.kitx_bool, True.intro, fun z => nomatch z⟩
  | int i => cases h; obtain ⟨t, q⟩ := (show ∃ t, u = Value.int i t from rv); cases q; exact ⟨_, PySem.W.kitx_int, True.intro, fun z => nomatch z⟩
  | str y => cases h; obtain ⟨t, q⟩ := (show ∃ t, u = Value.str y t from rv); cases q; exact ⟨_, PySem.W.kitx_str, True.intro, fun z => nomatch z⟩
  | clo e => cases h
  | tup e _ =>
    cases h; cases (show u = Value.ref _ from rv)
    obtain ⟨its, _, ⟨o, e1, e2, _⟩, _⟩ := I.tuple e
    exact ⟨_, PySem.W.kitx_tuple, ⟨o, e1, e2⟩, fun z => nomatch z⟩
  | lst o e _ =>
    cases h; cases (show u = Value.ref _ from rv)
    obtain ⟨its, n, _, e1, _⟩ := Vw.isList I e
    exact ⟨_, PySem.W.kitx_list, ⟨_, e1, rfl⟩, fun z => nomatch z⟩
  | dic o e d n q rk r =>
    cases h; cases (show u = Value.ref _ from rv)
    obtain ⟨o, des, ep, e1, e2, _⟩ := DU.ents I e d
    exact ⟨_, PySem.W.kitx_dict, ⟨o, e1, e2⟩, fun z => nomatch z⟩
theorem kit_isi {d : D} {t : Ty} {b : Bool} {T : String} (h : isiD d t = some b) (hT : d.ty = some T) (hc : ∀ c, t ≠ .cls c) : kitB T t.nm = some b := by
  cases t with
  | cls c => exact absurd rfl (hc c)
  | _ => cases d <;> simp [isiD, isiV, D.ty] at h hT <;> (subst h hT; decide +kernel)
/-- isinstance -/
theorem isi_ok (I : Inv X pins σ H s) {d : D} {v : V} {u : Value} (r : XVw X H d v) (rv : RelV v u) {t : Ty} {b : Bool} {T : String} (h : isiD d t = some b) (hT : d.ty = some T) (hc : ∀ c, t ≠ .cls c) {Q : Value → Shared → Prop}
    (q : ∀ s', Inv X pins σ H s' → Q (.bool b) s') : wpAny (model X.prog X.w) X.A (call (.builtin "isinstance") [u, .type t.nm]) Q X.xe s := by
  obtain ⟨P, Z, p, hx⟩ := Vw.kit I r rv hT
  exact PySem.W.kia_one Z I.kIn p (kit_ty (kit_isi h hT hc)) hx fun tk => q _ (I.tok tk)
theorem pyk_split : ∀ {kvs : List (D × D)} {ps : List (PyData × PyData)}, D.pyk kvs = some ps → D.pys (kvs.map (·.1)) = some (ps.map (·.1)) ∧ D.pys (kvs.map (·.2)) = some (ps.map (·.2))
  | [], _, h => by cases h; exact ⟨rfl, rfl⟩
  | (k, v) :: r, ps, h => by
    cases e1 : k.py with
    | none => simp [D.pyk, e1] at h
    | some a =>
      cases e2 : v.py with
      | none => simp [D.pyk, e1, e2] at h
      | some b =>
        cases e3 : D.pyk r with
        | none => simp [D.pyk, e1, e2, e3] at h
        | some c =>
          simp only [D.pyk, e1, e2, e3, Option.some.injEq] at h
          subst h
          obtain ⟨q1, q2⟩ := pyk_split e3
          exact ⟨by simp [D.pys, e1, q1], by simp [D.pys, e2, q2]⟩
mutual
theorem py_depth : ∀ (d : D) (p : PyData), d.py = some p → p.depth = d.depth
  | .non, p, h => by cases h; rfl
  | .bl _, p, h => by cases h; rfl
  | .int _, p, h => by cases h; rfl
  | .str _, p, h => by cases h; rfl
  | .tup xs, p, h => by
    have h : (D.pys xs).map PyData.tuple = some p := h
    obtain ⟨ps, e, rfl⟩ := Option.map_eq_some_iff.mp h
    simp only [PyData.depth, D.depth, pys_depth xs ps e]
  | .lst _ xs, p, h => by
    have h : (D.pys xs).map PyData.list = some p := h
    obtain ⟨ps, e, rfl⟩ := Option.map_eq_some_iff.mp h
    simp only [PyData.depth, D.depth, pys_depth xs ps e]
  | .dic _ xs, p, h => by
    have h : (D.pyk xs).map PyData.dict = some p := h
    obtain ⟨ps, e, rfl⟩ := Option.map_eq_some_iff.mp h
    simp only [PyData.depth, D.depth, pyk_depth xs ps e]
  | .set _ _, p, h => by cases h
  | .ins _ _ _, p, h => by cases h
  | .exn _ _, p, h => by cases h
  | .clo _ _, p, h => by cases h
theorem pys_depth : ∀ (ds : List D) (ps : List PyData), D.pys ds = some ps → PyData.depthAll ps = D.depths ds
  | [], ps, h => by cases h; rfl
  | x :: xs, ps, h => by
    cases e1 : x.py with
    | none => simp [D.pys, e1] at h
    | some a =>
      cases e2 : D.pys xs with
      | none => simp [D.pys, e1, e2] at h
      | some b =>
        simp only [D.pys, e1, e2, Option.some.injEq] at h
        subst h
        simp only [PyData.depthAll, D.depths, py_depth x a e1, pys_depth xs b e2]
theorem pyk_depth : ∀ (ds : List (D × D)) (ps : List (PyData × PyData)), D.pyk ds = some ps → PyData.depthKv ps = D.depthk ds
  | [], ps, h => by cases h; rfl
  | (k, v) :: xs, ps, h => by
    cases e1 : k.py with
    | none => simp [D.pyk, e1] at h
    | some a =>
      cases e2 : v.py with
      | none => simp [D.pyk, e1, e2] at h
      | some b =>
        cases e3 : D.pyk xs with
        | none => simp [D.pyk, e1, e2, e3] at h
        | some c =>
          simp only [D.pyk, e1, e2, e3, Option.some.injEq] at h
          subst h
          simp only [PyData.depthKv, D.depthk, py_depth k a e1, py_depth v b e2, pyk_depth xs c e3, Nat.max_assoc]
end
theorem notSys (I : Inv X pins σ H s) (hs : ∃ o, X.base.get? sysModules = some o) {a : Addr} {u : HO} (e : Rd H a u) : a ≠ sysModules := fun z => by
  obtain ⟨o, h⟩ := hs
  have := (I.bs _ _ h).2
  subst z
  rcases e with e | ⟨_, e⟩ <;> rw [this] at e <;> cases e
/-! ### as the library reads data -/
mutual
theorem Vw.reads (I : Inv X pins σ H s) (hs : ∃ o, X.base.get? sysModules = some o) : ∀ {d : D} {v : V} {u : Value} {p : PyData}, XVw X H d v → RelV v u → d.py = some p → ∃ as, Reads s.heap u p as ∧ sysModules ∉ as
  | _, _, u, p, .non, rv, h => by cases h; cases (show u = Value.none from rv); exact ⟨[], .none, by simp⟩
  | _, _, u, p, .bl b, rv, h => by cases h; cases (show u = Value.bool b from rv); exact ⟨[], .bool b, by simp⟩
  | _, _, u, p, .int i, rv, h => by cases h; obtain ⟨t, q⟩ := (show ∃ t, u = Value.int i t from rv); cases q; exact ⟨[], .int i t, by simp⟩
  | _, _, u, p, .str i, rv, h => by cases h; obtain ⟨t, q⟩ := (show ∃ t, u = Value.str i t from rv); cases q; exact ⟨[], .str i t, by simp⟩
  | _, _, u, p, .tup (xs := xs) e r, rv, h => by
    have h : (D.pys xs).map PyData.tuple = some p := h
    obtain ⟨ps, e1, rfl⟩ := Option.map_eq_some_iff.mp h
    cases (show u = Value.ref _ from rv)
    obtain ⟨its, ri, ⟨o, h1, h2, n, h3⟩, _⟩ := I.tuple e
    obtain ⟨as, q, hn⟩ := VwL.reads I hs r ri e1
    exact ⟨as, .tuple h1 h2 h3 q, hn⟩
  | _, _, u, p, .lst (xs := xs) (a := a) o e r, rv, h => by
    have h : (D.pys xs).map PyData.list = some p := h
    obtain ⟨ps, e1, rfl⟩ := Option.map_eq_some_iff.mp h
    cases (show u = Value.ref _ from rv)
    obtain ⟨its, n, ri, h1, _⟩ := Vw.isList I e
    obtain ⟨as, q, hn⟩ := VwL.reads I hs r ri e1
    refine ⟨a :: as, .list h1 rfl rfl q, fun z => ?_⟩
    rcases List.mem_cons.mp z with z | z
    · subst z
      exact notSys I hs e rfl
    · exact hn z
  | _, _, u, p, .dic (kvs := kvs) (a := a) o e d nk q rk r, rv, h => by
    have h : (D.pyk kvs).map PyData.dict = some p := h
    obtain ⟨ps, e1, rfl⟩ := Option.map_eq_some_iff.mp h
    cases (show u = Value.ref _ from rv)
    obtain ⟨o, des, ep, h1, h2, h3, vk, vv, hne⟩ := DU.ents I e d
    obtain ⟨p1, p2⟩ := pyk_split e1
    obtain ⟨as, q1, n1⟩ := VwL.reads I hs rk vk p1
    obtain ⟨bs, q2, n2⟩ := VwL.reads I hs r vv p2
    refine ⟨a :: as ++ bs, .dict h1 h2 h3 q1 q2, fun z => ?_⟩
    rcases List.mem_append.mp z with z | z
    · rcases List.mem_cons.mp z with z | z
      · exact hne z.symm
      · exact n1 z
    · exact n2 z
theorem VwL.reads (I : Inv X pins σ H s) (hs : ∃ o, X.base.get? sysModules = some o) : ∀ {ds : List D} {vs : List V} {us : List Value} {ps : List PyData}, VwL X.prog X.w X.K H ds vs → Vals vs us → D.pys ds = some ps → ∃ as, ReadsAll s.heap us ps as ∧ sysModules ∉ as
  | _, _, _, _, .nil, rv, h => by cases h; cases rv; exact ⟨[], .nil, by simp⟩
  | _, _, _, ps, .cons (x := x) (xs := xs) r rs, rv, h => by
    cases rv with
    | cons rv rvs =>
      cases e1 : x.py with
      | none => simp [D.pys, e1] at h
      | some p =>
        cases e2 : D.pys xs with
        | none => simp [D.pys, e1, e2] at h
        | some q =>
          simp only [D.pys, e1, e2, Option.some.injEq] at h
          subst h
          obtain ⟨as, q1, n1⟩ := Vw.reads I hs r rv e1
          obtain ⟨bs, q2, n2⟩ := VwL.reads I hs rs rvs e2
          exact ⟨as ++ bs, .cons q1 q2, fun z => (List.mem_append.mp z).elim n1 n2⟩
end
end
end Z

set_option Elab.async false
set_option linter.all false
set_option maxRecDepth 100000
set_option maxHeartbeats 1000000
namespace Z
open PySem L2 PyProof.Rows
/-- a new value for data: what stood stands, what may be changed of it is new -/
def PN (X : Cx) (pins : List (Addr × Obj)) (σ : L2.St) (H : Hp) (d : D) (r : Value) (s' : Shared) : Prop :=
  ∃ v H' B, Inv X pins σ H' s' ∧ RelV v r ∧ XRz X H' d v B ∧ (∀ a ∈ B, H a = none) ∧ ∀ a u, H a = some u → H' a = some u
abbrev QN (X : Cx) (H : Hp) (d : D) : VK := fun v H' => ∃ B, XRz X H' d v B ∧ (∀ a ∈ B, H a = none) ∧ ∀ a u, H a = some u → H' a = some u
section
variable {X : Cx} {pins : List (Addr × Obj)} {σ : L2.St} {H : Hp} {s : Shared}
theorem PN.of {d : D} {r : Value} {s' : Shared} (h : EP X pins σ (QN X H d) r s') : PN X pins σ H d r s' := by
  obtain ⟨v, H', I, rv, B, q⟩ := h
  exact ⟨v, H', B, I, rv, q⟩
theorem QN.int (i : Int) : QN X H (.int i) (.int i) H := ⟨[], .int i, (fun _ h => nomatch h), fun _ _ h => h⟩
theorem QN.bl (i : Bool) : QN X H (.bl i) (.bl i) H := ⟨[], .bl i, (fun _ h => nomatch h), fun _ _ h => h⟩
theorem QN.str (i : Str) : QN X H (.str i) (.str i) H := ⟨[], .str i, (fun _ h => nomatch h), fun _ _ h => h⟩
theorem QN.of {d : D} {v : V} (h : XRz X H d v []) : QN X H d v H := ⟨[], h, (fun _ h => nomatch h), fun _ _ h => h⟩
theorem upd_new {H : Hp} {p : Addr} {u : HO} (hp : H p = none) : ∀ a v, H a = some v → upd H p u a = some v := fun a v e => by
  rw [upd_ne fun z => ?_]; exact e
  subst z; rw [hp] at e; cases e
theorem RzL.new {ds : List D} {vs : List V} {p : Addr} {u : HO} (r : XRzL X H ds vs []) (hp : H p = none) : XRzL X (upd H p u) ds vs [] :=
  r.stay (fun a v e _ => upd_new hp a v e) fun _ h => nomatch h
theorem QN.lst {ds : List D} {vs : List V} {p : Addr} (r : XRzL X H ds vs []) (hp : H p = none) : QN X H (.lst true ds) (.ref p) (upd H p (.lst vs)) :=
  ⟨[p], .lstO upd_same (RzL.new r hp) (fun h => nomatch h), fun a h => by simp at h; subst h; exact hp, upd_new hp⟩
theorem QN.tup {ds : List D} {vs : List V} {p : Addr} (r : XRzL X H ds vs []) (hp : H p = none) : QN X H (.tup ds) (.ref p) (upd H p (.tup vs)) :=
  ⟨[], .tup (.inl (.inl upd_same)) (RzL.new r hp), (fun _ h => nomatch h), upd_new hp⟩
theorem RzL.app {prog : Program} {w : World} {K : PySem.W.Frag} : ∀ {ds es : List D} {vs us : List V}, RzL prog w K H ds vs [] → RzL prog w K H es us [] → RzL prog w K H (ds ++ es) (vs ++ us) [] := by
  intro ds
  induction ds with
  | nil => intro es vs us r q; cases r; exact q
  | cons d ds ih =>
    intro es vs us r q
    generalize hO : ([] : List Addr) = O at r
    cases r with
    | cons r rs dj =>
      obtain ⟨e1, e2⟩ := List.append_eq_nil_iff.mp hO.symm
      subst e1 e2
      exact RzL.cons (O1 := []) (O2 := []) r (ih rs q) Dis.nil
theorem RzL.inv {prog : Program} {w : World} {K : PySem.W.Frag} {d : D} {ds : List D} {v : V} {vs : List V} (r : RzL prog w K H (d :: ds) (v :: vs) []) : Rz prog w K H d v [] ∧ RzL prog w K H ds vs [] := by
  generalize hO : ([] : List Addr) = O at r
  cases r with
  | cons r rs dj =>
    obtain ⟨e1, e2⟩ := List.append_eq_nil_iff.mp hO.symm
    subst e1 e2
    exact ⟨r, rs⟩
theorem RzL.drop {prog : Program} {w : World} {K : PySem.W.Frag} : ∀ {ds : List D} {vs : List V} (n : Nat), RzL prog w K H ds vs [] → RzL prog w K H (ds.drop n) (vs.drop n) []
  | _, _, 0, r => r
  | [], _, n + 1, r => by cases r; exact .nil
  | d :: ds, vs, n + 1, r => by
    cases vs with
    | nil => cases r
    | cons v vs => exact RzL.drop n r.inv.2
theorem RzL.take {prog : Program} {w : World} {K : PySem.W.Frag} : ∀ {ds : List D} {vs : List V} (n : Nat), RzL prog w K H ds vs [] → RzL prog w K H (ds.take n) (vs.take n) []
  | _, _, 0, r => .nil
  | [], _, n + 1, r => by cases r; exact .nil
  | d :: ds, vs, n + 1, r => by
    cases vs with
    | nil => cases r
    | cons v vs => exact RzL.cons (O1 := []) (O2 := []) r.inv.1 (RzL.take n r.inv.2) Dis.nil
theorem RzL.get {prog : Program} {w : World} {K : PySem.W.Frag} : ∀ {ds : List D} {vs : List V} {i : Nat} {d : D}, RzL prog w K H ds vs [] → ds[i]? = some d → ∃ v, vs[i]? = some v ∧ Rz prog w K H d v []
  | [], _, i, d, r, h => by simp at h
  | x :: ds, vs, i, d, r, h => by
    cases vs with
    | nil => cases r
    | cons v vs =>
      cases i with
      | zero => simp at h; subst h; exact ⟨v, rfl, r.inv.1⟩
      | succ i => simpa using RzL.get r.inv.2 (by simpa using h)
theorem RzL.rev {prog : Program} {w : World} {K : PySem.W.Frag} : ∀ {ds : List D} {vs : List V}, RzL prog w K H ds vs [] → RzL prog w K H ds.reverse vs.reverse []
  | [], _, r => by cases r; exact .nil
  | d :: ds, vs, r => by
    cases vs with
    | nil => cases r
    | cons v vs =>
      rw [List.reverse_cons, List.reverse_cons]
      exact RzL.app (RzL.rev r.inv.2) (RzL.cons (O1 := []) (O2 := []) r.inv.1 .nil Dis.nil)
theorem atI_rz {prog : Program} {w : World} {K : PySem.W.Frag} {ds : List D} {vs : List V} {i : Int} {d : D} (r : RzL prog w K H ds vs []) (h : atI ds i = some d) : ∃ v, atI vs i = some v ∧ Rz prog w K H d v [] := by
  unfold atI at h ⊢
  rw [r.length] at h
  cases e : ixN vs.length i with
  | none => rw [e] at h; cases h
  | some j => rw [e] at h; exact RzL.get r h
theorem cut_rz {prog : Program} {w : World} {K : PySem.W.Frag} {ds : List D} {vs : List V} {lo hi : Option Int} (r : RzL prog w K H ds vs []) : RzL prog w K H (cutD ds lo hi) (cutV vs lo hi) [] := by
  unfold cutD cutV
  rw [r.length]
  exact (r.drop _).take _
/-! ### repr -/
theorem repr_ok (I : Inv X pins σ H s) (hs : ∃ o, X.base.get? sysModules = some o) (hg : X.A.guards = some []) (hu : X.A.units + 70 < cLine) {x d : D} {v : V} {u : Value} (r : XVw X H x v) (rv : RelV v u) (h : biD .repr [x] = some d) :
    wpAny (model X.prog X.w) X.A (call (.builtin "repr") [u]) (PN X pins σ H d) X.xe s := by
  cases e : x.py with
  | none => simp [biD, e] at h
  | some p =>
    simp only [biD, e] at h
    split at h
    case isFalse => cases h
    case isTrue hc =>
    cases h
    simp only [Bool.and_eq_true, decide_eq_true_eq] at hc
    obtain ⟨⟨h1, h2⟩, h3⟩ := hc
    obtain ⟨as, rd, hn⟩ := Vw.reads I hs r rv e
    have hl : p.shown.length ≤ sizeLine := Nat.le_trans h3 (by rw [sizeLine_eq]; decide)
    have fin : ∀ h' u' tk, (∀ b o, s.heap.get? b = some o → h'.get? b = some o) → PN X pins σ H (.str p.shown) (.str p.shown u') { s with heap := h', toks := tk } := fun h' u' tk hk =>
      PN.of ⟨.str _, H, I.kept hk, ⟨_, rfl⟩, QN.str _⟩
    have dp : p.depth ≤ 40 := by
      have := py_depth x p e
      have h2' : x.depth ≤ 40 := of_decide_eq_true h2
      omega
    have rd0 := rd
    cases rd with
    | none => exact PySem.P.repr_of_none (fin s.heap _ _ fun _ _ h => h)
    | bool b => exact PySem.P.repr_of_bool (fin s.heap _ _ fun _ _ h => h)
    | int i t => exact PySem.P.repr_of_int (by simpa [PyData.showable] using h1) (fin s.heap _ _ fun _ _ h => h)
    | str z t => exact PySem.P.repr_of_str (fin s.heap _ _ fun _ _ h => h) hl
    | list => exact repr_of_reads' rd0 h1 (fun _ => hn) hg (by omega) (fun _ _ h => h) (fun h' u' tk hk => fin h' u' tk hk) hl
    | tuple => exact repr_of_reads' rd0 h1 (fun _ => hn) hg (by omega) (fun _ _ h => h) (fun h' u' tk hk => fin h' u' tk hk) hl
    | dict => exact repr_of_reads' rd0 h1 (fun _ => hn) hg (by omega) (fun _ _ h => h) (fun h' u' tk hk => fin h' u' tk hk) hl
/-! ### operators -/
def bop : Bin → Operator
  | .add => .Add | .sub => .Sub | .mul => .Mult | .mod => .Mod | .fdiv => .FloorDiv | .pow => .Pow | .shl => .LShift | .shr => .RShift | .band => .BitAnd
def cop : Cmp → CmpOp
  | .eq => .Eq | .ne => .NotEq | .lt => .Lt | .le => .LtE | .gt => .Gt | .ge => .GtE | .inn => .In | .nin => .NotIn
theorem line_le {n : Nat} (h : n ≤ line) : n ≤ sizeLine := Nat.le_trans h (by rw [sizeLine_eq]; decide)
theorem Kz.int_inv {i : Int} {v : V} (r : XKz X H (.int i) v) : v = .int i := by
  cases r with | of r => cases r; rfl
theorem Kz.bl_inv {i : Bool} {v : V} (r : XKz X H (.bl i) v) : v = .bl i := by
  cases r with | of r => cases r; rfl
theorem Kz.str_inv {i : Str} {v : V} (r : XKz X H (.str i) v) : v = .str i := by
  cases r with | of r => cases r; rfl
theorem log60 {j : Int} (h0 : 0 < j) (h : j < 10 ^ 60) : CDivW i j := by
  refine ⟨h0, ?_⟩
  have h1 : j.natAbs < 2 ^ 200 := by
    have : (10 : Int) ^ 60 < 2 ^ 200 := by decide
    omega
  have := PySem.Flt.log2_lt_of (by decide : 0 < 200) h1
  omega
theorem RzL.rep {H : Hp} {ds : List D} {vs : List V} (r : XRzL X H ds vs []) : ∀ k : Nat, XRzL X H (List.replicate k ds).flatten (List.replicate k vs).flatten []
  | 0 => .nil
  | k + 1 => by
    rw [List.replicate_succ, List.replicate_succ, List.flatten_cons, List.flatten_cons]
    exact r.app (RzL.rep r k)
/-- a list times an int -/
theorem rep_ok {H : Hp} (I : Inv X pins σ H s) {its : List Value} {vs : List V} {a : Addr} {n : Nat} {k : Int} {t : Tok} {Q : VK} (r : Vals vs its) (e : s.heap.get? a = some { cls := .type "list", data := .seq its.toArray n }) (h0 : 0 ≤ k) (h1 : k ≤ line) (hz : vs.length * k.toNat ≤ sizeLine)
    (q : ∀ p, H p = none → Q (.ref p) (upd H p (.lst (List.replicate k.toNat vs).flatten))) : wpAny (model X.prog X.w) X.A (binaryOp .Mult (.ref a) (.int k t)) (EP X pins σ Q) X.xe s := by
  have hl := r.length
  have hm : its.toArray.size * k.toNat ≤ sizeLine := by rw [List.size_toArray, ← hl]; exact hz
  have b1 : ¬ its.toArray.size * k.toNat > (2 ^ 63 - 1) / 8 := by
    have : (sizeLine : Nat) ≤ (2 ^ 63 - 1) / 8 := by decide
    omega
  have hk : k < 2 ^ 63 := by have : (line : Int) ≤ 2 ^ 62 := by decide
                             omega
  have b2 : ¬ (!Builtin.List.listFitsIndex k) = true := by rw [fitsIndex_both (by omega) hk]; exact nofun
  have b3 : ¬ Builtin.List.listTooLong (its.toArray.size * k.toNat) = true := by rw [notLongL hm]; exact nofun
  have fo : ∀ m : Nat, List.foldl (fun x1 x2 => x1 ++ x2) #[] (List.replicate m its.toArray) = (List.replicate m its).flatten.toArray := fun m =>
    (PyProof.Rows.listMul_foldl its.toArray m #[]).trans (by simp)
  have new : List.foldl (fun x1 x2 => x1 ++ x2) #[] (List.replicate (if its.toArray.isEmpty = true then 0 else k.toNat) its.toArray) = (List.replicate k.toNat its).flatten.toArray := by
    rw [fo]
    cases its with
    | nil => simp
    | cons y ys => rw [if_neg (by simp)]
  have it : s.TypeIs (.ref a) "list" := ⟨_, e, rfl⟩
  have lm := AutoListH.list___mul___list_int_3 a its.toArray n k t b2 b1 b3
  have inner := call_meets (prog := X.prog) (w := X.w) (A := X.A) (E := X.xe) (Q := EP X pins σ Q) F.slot_list_mul it F.entry_list_mul (F.args_list_mul_2 _ _) lm ⟨e, by
    rw [new]
    exact ⟨.ref _, _, I.lnew (t' := s.toks) (r.rep k.toNat) (by rw [PyProof.Rows.lm_len_rep_flat, Nat.mul_comm]; exact hz), rfl, q _ I.fresh⟩⟩
  have outer := int___rmul___int_list k t a its.toArray n
  exact wpAny_binaryOp_repeat_ref (by decide) it (fun s' => typeIs_int s' k t) noFill_list_mul
    F.fills_int_mul F.slot_int_rmul repeat_list F.slot_int_index.lookup
    (call_meets F.slot_int_rmul (typeIs_int s k t) F.entry_int_rmul (F.args_int_rmul_2 _ _)
      outer ⟨e, rfl, it, inner⟩)
theorem bin_ok (I : Inv X pins σ H s) (op : Bin) {x y d : D} {v u : V} {v' u' : Value} (kx : XKz X H x v) (ky : XKz X H y u) (rv : RelV v v') (ru : RelV u u') (h : binD op x y = some d) :
    wpAny (model X.prog X.w) X.A (binaryOp (bop op) v' u') (PN X pins σ H d) X.xe s := by
  refine wpAny_mono ?_ (fun _ _ q => PN.of q) fun _ _ q => q
  unfold binD at h
  split at h
  · cases h; cases kx.int_inv; cases ky.int_inv
    exact op_add pins s σ H _ _ _ _ _ I rv ru ⟨_, _, rfl, rfl, QN.int _⟩
  · split at h <;> cases h
    rename_i hl
    cases kx.str_inv; cases ky.str_inv
    exact op_add_str pins s σ H _ _ _ _ _ I rv ru ⟨_, _, rfl, rfl, line_le hl, QN.str _⟩
  · split at h <;> cases h
    rename_i hl
    simp only [Bool.and_eq_true, decide_eq_true_eq] at hl
    obtain ⟨a, vs, rfl, ea, ra⟩ := kx.list
    obtain ⟨b, us, rfl, eb, rb⟩ := ky.list
    cases rv; cases ru
    obtain ⟨its, n, r1, e1, z1⟩ := Vw.isList I ea
    obtain ⟨its2, n2, r2, e2, z2⟩ := Vw.isList I eb
    have hlen : vs.length + us.length ≤ sizeLine := by rw [← ra.length, ← rb.length]; exact line_le hl.2
    refine PySem.P.add_list e1 e2 ?_ (by rw [List.size_toArray, List.size_toArray, ← r1.length, ← r2.length]; exact hlen)
    have hf : H s.heap.objs.size = none := I.hok.fresh (Nat.le_refl _)
    refine ⟨.ref s.heap.objs.size, upd H s.heap.objs.size (.lst (vs ++ us)), I.laid (t' := s.toks) (fun b u e => Heap.get?_push_of_some _ e) (Nat.le_refl _) ⟨by rw [List.length_append]; exact hlen, its ++ its2, 0, r1.append r2, ?_⟩, rfl, QN.lst (ra.app rb) hf⟩
    rw [Heap.get?_push_size _ rfl]; simp
  · split at h <;> cases h
    rename_i hl
    simp only [Bool.and_eq_true, decide_eq_true_eq] at hl
    obtain ⟨a, vs, rfl, ea, ra⟩ := kx.tup
    obtain ⟨b, us, rfl, eb, rb⟩ := ky.tup
    refine op_catA pins s σ H _ _ _ _ _ I rv ru ⟨_, _, _, _, rfl, rfl, ea, eb, by rw [← ra.length, ← rb.length]; exact line_le hl.2, fun z => ?_, fun z1 z2 => ?_, fun _ _ p hp => QN.tup (ra.app rb) hp⟩
    · subst z; cases ra; exact QN.of (.tup eb rb)
    · subst z2; cases rb; rw [List.append_nil]; exact QN.of (.tup ea ra)
  · cases h; cases kx.int_inv; cases ky.bl_inv
    rename_i i b
    exact op_add_ib pins s σ H _ _ _ _ _ I rv ru ⟨_, _, rfl, rfl, by cases b <;> exact QN.int _⟩
  · cases h; cases kx.int_inv; cases ky.int_inv
    exact op_sub pins s σ H _ _ _ _ _ I rv ru ⟨_, _, rfl, rfl, QN.int _⟩
  · split at h <;> cases h
    rename_i hl
    simp only [Bool.or_eq_true, Bool.and_eq_true, decide_eq_true_eq, big] at hl
    cases kx.int_inv; cases ky.int_inv
    exact op_mul pins s σ H _ _ _ _ _ I rv ru ⟨_, _, rfl, rfl, hl.imp (fun h => ⟨of_decide_eq_true h.1, of_decide_eq_true h.2⟩) (fun h => ⟨of_decide_eq_true h.1, of_decide_eq_true h.2⟩), QN.int _⟩
  · split at h <;> cases h
    rename_i hl
    simp only [Bool.and_eq_true, decide_eq_true_eq] at hl
    obtain ⟨a, vs, rfl, ea, ra⟩ := kx.list
    cases ky.int_inv
    cases rv
    obtain ⟨t, rfl⟩ := ru
    obtain ⟨its, n, r1, e1, z1⟩ := Vw.isList I ea
    exact rep_ok I r1 e1 hl.1.1.2 hl.1.2 (by rw [← ra.length]; exact line_le hl.2) fun p hp => QN.lst (ra.rep _) hp
  · split at h <;> cases h
    rename_i hl
    cases kx.int_inv; cases ky.int_inv
    exact op_modN pins s σ H _ _ _ _ _ I rv ru ⟨_, _, rfl, rfl, hl, QN.int _⟩
  · split at h <;> cases h
    rename_i hl
    cases kx.int_inv; cases ky.int_inv
    exact op_fdivW pins s σ H _ _ _ _ _ I rv ru ⟨_, _, rfl, rfl, log60 hl.1 hl.2, QN.int _⟩
  · split at h <;> cases h
    rename_i hl
    cases kx.int_inv; cases ky.int_inv
    exact op_pow pins s σ H _ _ _ _ _ I rv ru ⟨_, _, rfl, rfl, ⟨hl.1, by omega, by omega⟩, QN.int _⟩
  · split at h <;> cases h
    rename_i hl
    cases kx.int_inv; cases ky.int_inv
    exact op_shl pins s σ H _ _ _ _ _ I rv ru ⟨_, _, rfl, rfl, ⟨hl.1, by omega, by have := hl.2.2; simp only [big] at this; omega⟩, QN.int _⟩
  · split at h <;> cases h
    rename_i hl
    cases kx.int_inv; cases ky.int_inv
    exact op_shr pins s σ H _ _ _ _ _ I rv ru ⟨_, _, rfl, rfl, hl, QN.int _⟩
  · cases h; cases kx.int_inv; cases ky.int_inv
    exact op_and pins s σ H _ _ _ _ _ I rv ru ⟨_, _, rfl, rfl, QN.int _⟩
  · cases h
/-! ### comparisons -/
theorem Vw.int_inv {i : Int} {v : V} (r : XVw X H (.int i) v) : v = .int i := by cases r; rfl
theorem Vw.str_inv {i : Str} {v : V} (r : XVw X H (.str i) v) : v = .str i := by cases r; rfl
theorem Vw.bl_inv {i : Bool} {v : V} (r : XVw X H (.bl i) v) : v = .bl i := by cases r; rfl
/-- an answer True or False, the heap as it was -/
abbrev PB (X : Cx) (pins : List (Addr × Obj)) (σ : L2.St) (H : Hp) (b : Bool) (r : Value) (s' : Shared) : Prop := r = .bool b ∧ Inv X pins σ H s'
theorem shp_py {d : D} {p : PyData} (h : d.shp = some p) : d.py = some p ∧ SeqAt.shaped p = true := by
  unfold D.shp at h
  cases e : d.py with
  | none => rw [e] at h; cases h
  | some q =>
    rw [e] at h
    dsimp only at h
    split at h <;> cases h
    rename_i hq
    exact ⟨rfl, hq⟩
theorem vwl_empty {ds : List D} {vs : List V} {its : List Value} (r : VwL X.prog X.w X.K H ds vs) (q : Vals vs its) : ds.isEmpty = its.isEmpty := by
  cases r with
  | nil => cases q; rfl
  | cons _ _ => cases q; rfl
theorem eq_ok (I : Inv X pins σ H s) (hs : ∃ o, X.base.get? sysModules = some o) (hu : X.A.units + 64 < cLine) {x y : D} {b : Bool} {v u : V} {v' u' : Value} (kx : XVw X H x v) (ky : XVw X H y u) (rv : RelV v v') (ru : RelV u u') (h : eqD x y = some b) :
    wpAny (model X.prog X.w) X.A (compareOp .Eq v' u') (PB X pins σ H b) X.xe s := by
  unfold eqD at h
  split at h
  · cases h
    cases kx.str_inv; cases ky.str_inv
    obtain ⟨t1, rfl⟩ := rv; obtain ⟨t2, rfl⟩ := ru
    exact PyProof.Rows.eq_str (Q := PB X pins σ H _) ⟨rfl, I⟩
  split at h
  · rename_i p q e1 e2
    cases h
    obtain ⟨p1, s1⟩ := shp_py e1
    obtain ⟨p2, s2⟩ := shp_py e2
    obtain ⟨as, r1, _⟩ := Vw.reads I hs kx rv p1
    obtain ⟨bs, r2, _⟩ := Vw.reads I hs ky ru p2
    exact SeqAt.compareEq_shaped r1 r2 s1 s2 hu ⟨rfl, I⟩
  · split at h
    · cases h
      cases kx with
      | @tup xs a vs e1 r1 =>
        cases ky with
        | tup e2 r2 =>
          cases rv; cases ru
          cases r2
          obtain ⟨its, q1, t1, _⟩ := I.tuple e1
          obtain ⟨its2, q2, t2, _⟩ := I.tuple e2
          cases q2
          refine SeqAt.rcIn_tuples (e := fun _ => true) (show s.heap.IsTuple _ its.toArray from t1) (show s.heap.IsTuple _ [].toArray from t2) (by omega) (fun j h1 h2 => absurd h2 (by simp)) ⟨?_, I⟩
          rw [vwl_empty r1 q1]
          cases its <;> simp
    · cases h
      cases kx with
      | @lst xs a vs _ e1 r1 =>
        cases ky with
        | lst _ e2 r2 =>
          cases rv; cases ru
          cases r2
          obtain ⟨its, n1, q1, t1, _⟩ := Vw.isList I e1
          obtain ⟨its2, n2, q2, t2, _⟩ := Vw.isList I e2
          cases q2
          have he := vwl_empty r1 q1
          have l1 : s.heap.IsList _ its.toArray := ⟨_, t1, rfl, _, rfl⟩
          have l2 : s.heap.IsList _ ([] : List Value).toArray := ⟨_, t2, rfl, _, rfl⟩
          cases hx : its with
          | nil =>
            subst hx
            refine SeqAt.rcIn_lists (e := fun _ => true) l1 l2 rfl (by omega) (fun j h1 h2 => absurd h2 (by simp)) ⟨?_, I⟩
            rw [he]; rfl
          | cons z zs =>
            subst hx
            refine SeqAt.RcAt.lists_lengths l1 l2 (by simp) (by omega) _ _ _ _ ⟨?_, I⟩
            rw [he]; rfl
    · cases h
theorem ne_ok (I : Inv X pins σ H s) (hs : ∃ o, X.base.get? sysModules = some o) (hu : X.A.units + 64 < cLine) {x y : D} {p q : PyData} {v u : V} {v' u' : Value} (kx : XVw X H x v) (ky : XVw X H y u) (rv : RelV v v') (ru : RelV u u') (h1 : x.shp = some p) (h2 : y.shp = some q) :
    wpAny (model X.prog X.w) X.A (compareOp .NotEq v' u') (PB X pins σ H (!PyData.eqv p q)) X.xe s := by
  obtain ⟨p1, s1⟩ := shp_py h1
  obtain ⟨p2, s2⟩ := shp_py h2
  obtain ⟨as, r1, _⟩ := Vw.reads I hs kx rv p1
  obtain ⟨bs, r2, _⟩ := Vw.reads I hs ky ru p2
  exact SeqAt.compareNe_shaped r1 r2 s1 s2 hu ⟨rfl, I⟩
mutual
theorem Vw.dp : ∀ {d : D} {v : V} {p : PyData}, XVw X H d v → d.py = some p → p.canLay0 = true → Dp X.K H v p
  | _, _, p, .non, h, _ => by cases h; exact .non
  | _, _, p, .bl b, h, _ => by cases h; exact .bl b
  | _, _, p, .int i, h, _ => by cases h; exact .int i
  | _, _, p, .str i, h, _ => by cases h; exact .str i
  | _, _, p, .tup (xs := xs) e r, h, c => by
    have h : (D.pys xs).map PyData.tuple = some p := h
    obtain ⟨ps, e1, rfl⟩ := Option.map_eq_some_iff.mp h
    exact .tup e (VwL.dp r e1 (by simpa [PyData.canLay0] using c))
  | _, _, p, .lst (xs := xs) o e r, h, c => by
    have h : (D.pys xs).map PyData.list = some p := h
    obtain ⟨ps, e1, rfl⟩ := Option.map_eq_some_iff.mp h
    exact .lst (.inl e) (VwL.dp r e1 (by simpa [PyData.canLay0] using c))
  | _, _, p, .dic (kvs := kvs) o e d nk q rk r, h, c => by
    have h : (D.pyk kvs).map PyData.dict = some p := h
    obtain ⟨ps, e1, rfl⟩ := Option.map_eq_some_iff.mp h
    simp [PyData.canLay0] at c
theorem VwL.dp : ∀ {ds : List D} {vs : List V} {ps : List PyData}, VwL X.prog X.w X.K H ds vs → D.pys ds = some ps → PyData.canLayAll0 ps = true → DpAll X.K H vs ps
  | _, _, _, .nil, h, _ => by cases h; exact .nil
  | _, _, ps, .cons (x := x) (xs := xs) r rs, h, c => by
    cases e1 : x.py with
    | none => simp [D.pys, e1] at h
    | some p =>
      cases e2 : D.pys xs with
      | none => simp [D.pys, e1, e2] at h
      | some q =>
        simp only [D.pys, e1, e2, Option.some.injEq] at h
        subst h
        have c' : p.canLay0 = true ∧ PyData.canLayAll0 q = true := by simpa [PyData.canLayAll0] using c
        exact .cons (Vw.dp r e1 c'.1) (VwL.dp rs e2 c'.2)
end
theorem flat_eqv {x y : D} {v u : V} {p q : PyData} (r : XVw X H x v) (t : XVw X H y u) (hx : isFlat x = true) (hy : isFlat y = true) (h1 : x.py = some p) (h2 : y.py = some q) : eqV v u = PyData.eqv p q ∧ flatV v = true ∧ flatV u = true := by
  cases r <;> simp [isFlat] at hx <;> cases t <;> simp [isFlat] at hy <;> cases h1 <;> cases h2 <;> simp [eqV, PyData.eqv, flatV]
theorem flat_any {x : D} {v : V} {p : PyData} (r : XVw X H x v) (hx : isFlat x = true) (h1 : x.py = some p) : ∀ {ys : List D} {us : List V} {qs : List PyData}, VwL X.prog X.w X.K H ys us → ys.all isFlat = true → D.pys ys = some qs →
    inV v us = (qs.any fun z => PyData.eqv z p) ∧ us.all flatV = true
  | [], _, _, t, _, h => by cases h; cases t; exact ⟨rfl, rfl⟩
  | y :: ys, us, qs, t, hy, h => by
    cases t with
    | cons t ts =>
      cases e1 : y.py with
      | none => simp [D.pys, e1] at h
      | some a =>
        cases e2 : D.pys ys with
        | none => simp [D.pys, e1, e2] at h
        | some b =>
          simp only [D.pys, e1, e2, Option.some.injEq] at h
          subst h
          simp only [List.all_cons, Bool.and_eq_true] at hy
          obtain ⟨i1, i2⟩ := flat_any r hx h1 ts hy.2 e2
          obtain ⟨j1, j2, j3⟩ := flat_eqv t r hy.1 hx e1 h1
          unfold inV at i1 ⊢
          simp only [List.any_cons, List.all_cons, j1, i1, j2, i2, Bool.and_self, and_self]
theorem PB.of {b : Bool} {r : Value} {s' : Shared} (h : EP X pins σ (fun v H' => v = .bl b ∧ H' = H) r s') : PB X pins σ H b r s' := by
  obtain ⟨v, H', I, rv, e1, e2⟩ := h
  subst e1 e2
  exact ⟨rv, I⟩
theorem in_ok (I : Inv X pins σ H s) (hu : X.A.units + 65 < cLine) {x y : D} {b : Bool} {v u : V} {v' u' : Value} (kx : XVw X H x v) (ky : XVw X H y u) (rv : RelV v v') (ru : RelV u u') (h : inD x y = some b) :
    wpAny (model X.prog X.w) X.A (compareOp .In v' u') (PB X pins σ H b) X.xe s ∧ wpAny (model X.prog X.w) X.A (compareOp .NotIn v' u') (PB X pins σ H (!b)) X.xe s := by
  suffices g : wpAny (model X.prog X.w) X.A (compareOp .In v' u') (EP X pins σ (fun v H' => v = .bl b ∧ H' = H)) X.xe s ∧ wpAny (model X.prog X.w) X.A (compareOp .NotIn v' u') (EP X pins σ (fun v H' => v = .bl (!b) ∧ H' = H)) X.xe s from
    ⟨wpAny_mono g.1 (fun _ _ q => PB.of q) fun _ _ q => q, wpAny_mono g.2 (fun _ _ q => PB.of q) fun _ _ q => q⟩
  unfold inD at h
  split at h
  · split at h <;> cases h
    cases kx.str_inv; cases ky.str_inv
    exact ⟨op_in_str pins s σ H _ _ _ _ _ I rv ru ⟨_, _, rfl, rfl, rfl, rfl⟩, op_notin_str pins s σ H _ _ _ _ _ I rv ru ⟨_, _, rfl, rfl, rfl, rfl⟩⟩
  · split at h <;> cases h
    rename_i o ys _ _ p qs e1 e2
    obtain ⟨p1, s1⟩ := shp_py e1
    obtain ⟨p2, s2⟩ := shp_py e2
    have d1 := Vw.dp kx p1 (SeqAt.canLay_of_shaped s1)
    have d2 := Vw.dp ky p2 (SeqAt.canLay_of_shaped s2)
    exact ⟨op_inD hu pins s σ H _ _ _ _ _ I rv ru ⟨_, _, d1, d2, s1, s2, rfl, rfl⟩, op_notInD hu pins s σ H _ _ _ _ _ I rv ru ⟨_, _, d1, d2, s1, s2, rfl, rfl⟩⟩
  · rename_i ys
    split at h
    case isFalse => cases h
    rename_i hf
    simp only [Bool.and_eq_true] at hf
    split at h <;> cases h
    rename_i p qs e1 e2
    obtain ⟨p1, _⟩ := shp_py e1
    obtain ⟨p2, _⟩ := shp_py e2
    have p2' : (D.pys ys).map PyData.tuple = some (.tuple qs) := p2
    obtain ⟨qs', e3, e4⟩ := Option.map_eq_some_iff.mp p2'
    cases e4
    cases ky with
    | tup e r =>
      obtain ⟨i1, i2⟩ := flat_any kx hf.1 p1 r hf.2 e3
      have fx : flatV v = true := (flat_eqv kx kx hf.1 hf.1 p1 p1).2.1
      exact ⟨op_in_seq pins s σ H _ _ _ _ _ I rv ru ⟨_, _, rfl, .inr e, fx, i2, by simp [i1], rfl⟩, op_notIn_seq pins s σ H _ _ _ _ _ I rv ru ⟨_, _, rfl, .inr e, fx, i2, by simp [i1], rfl⟩⟩
  · cases h
theorem cmp_ok (I : Inv X pins σ H s) (hs : ∃ o, X.base.get? sysModules = some o) (hu : X.A.units + 65 < cLine) (op : Cmp) {x y : D} {b : Bool} {v u : V} {v' u' : Value} (kx : XVw X H x v) (ky : XVw X H y u) (rv : RelV v v') (ru : RelV u u') (h : cmpD op x y = some b) :
    wpAny (model X.prog X.w) X.A (compareOp (cop op) v' u') (PB X pins σ H b) X.xe s := by
  have lift : ∀ {o : CmpOp} {b : Bool}, wpAny (model X.prog X.w) X.A (compareOp o v' u') (EP X pins σ (fun v H' => v = .bl b ∧ H' = H)) X.xe s → wpAny (model X.prog X.w) X.A (compareOp o v' u') (PB X pins σ H b) X.xe s := fun g => wpAny_mono g (fun _ _ q => PB.of q) fun _ _ q => q
  cases op with
  | eq => exact eq_ok I hs (by omega) kx ky rv ru h
  | ne =>
    have h : neD x y = some b := h
    unfold neD at h
    split at h
    · cases h
      cases kx.str_inv; cases ky.str_inv
      obtain ⟨t1, rfl⟩ := rv; obtain ⟨t2, rfl⟩ := ru
      exact PyProof.Rows.ne_str (Q := PB X pins σ H _) ⟨rfl, I⟩
    · split at h
      · cases h
        rename_i e1 e2
        exact ne_ok I hs (by omega) kx ky rv ru e1 e2
      · split at h
        · cases h
          cases kx with
          | @tup xs a vs e1 r1 =>
            cases ky with
            | tup e2 r2 =>
              cases rv; cases ru
              cases r2
              obtain ⟨its, q1, t1, _⟩ := I.tuple e1
              obtain ⟨its2, q2, t2, _⟩ := I.tuple e2
              cases q2
              refine SeqAt.RcNeAt.tuples (e := fun _ => true) (show s.heap.IsTuple _ its.toArray from t1) (show s.heap.IsTuple _ [].toArray from t2) (by omega) (fun j h1 h2 => absurd h2 (by simp)) _ _ _ _ ⟨?_, I⟩
              rw [vwl_empty r1 q1]
              cases its <;> simp
        · cases h
  | lt =>
    simp only [cmpD] at h
    split at h <;> cases h
    · cases kx.int_inv; cases ky.int_inv; exact lift (op_lt pins s σ H _ _ _ _ _ I rv ru ⟨_, _, rfl, rfl, rfl, rfl⟩)
    · cases kx.str_inv; cases ky.str_inv; exact lift (op_lt_str pins s σ H _ _ _ _ _ I rv ru ⟨_, _, rfl, rfl, rfl, rfl⟩)
  | le =>
    simp only [cmpD] at h
    split at h <;> cases h
    · cases kx.int_inv; cases ky.int_inv; exact lift (op_le pins s σ H _ _ _ _ _ I rv ru ⟨_, _, rfl, rfl, rfl, rfl⟩)
    · cases kx.str_inv; cases ky.str_inv; exact lift (op_le_str pins s σ H _ _ _ _ _ I rv ru ⟨_, _, rfl, rfl, rfl, rfl⟩)
  | gt =>
    simp only [cmpD] at h
    split at h <;> cases h
    · cases kx.int_inv; cases ky.int_inv; exact lift (op_gt pins s σ H _ _ _ _ _ I rv ru ⟨_, _, rfl, rfl, rfl, rfl⟩)
    · cases kx.str_inv; cases ky.str_inv; exact lift (op_gt_str pins s σ H _ _ _ _ _ I rv ru ⟨_, _, rfl, rfl, rfl, rfl⟩)
  | ge =>
    simp only [cmpD] at h
    split at h <;> cases h
    · cases kx.int_inv; cases ky.int_inv; exact lift (op_ge pins s σ H _ _ _ _ _ I rv ru ⟨_, _, rfl, rfl, rfl, rfl⟩)
    · cases kx.str_inv; cases ky.str_inv; exact lift (op_ge_str pins s σ H _ _ _ _ _ I rv ru ⟨_, _, rfl, rfl, rfl, rfl⟩)
  | inn => exact (in_ok I hu kx ky rv ru h).1
  | nin =>
    obtain ⟨c, e, rfl⟩ := Option.map_eq_some_iff.mp (show (inD x y).map (!·) = some b from h)
    exact (in_ok I hu kx ky rv ru e).2
end
end Z

set_option Elab.async false
set_option linter.all false
set_option maxRecDepth 100000
set_option maxHeartbeats 1000000
namespace Z
open PySem L2 PyProof.Rows
/-! ## judgements -/
/-- the goal at a result: what is wanted of the run if the reckoning comes to an end -/
def Gl' {α β : Type} (P : α → β → Shared → Prop) (r : R α) (goal : (β → Shared → Prop) → Prop) : Prop := match r with
  | .ok p => goal (P p)
  | .exc _ _ => True
  | .bad => True
section
variable {α β γ δ : Type} {P : α → β → Shared → Prop}
theorem Gl'.bad {goal : (β → Shared → Prop) → Prop} : Gl' P .bad goal := True.intro
theorem Gl'.of {r : R α} {goal goal' : (β → Shared → Prop) → Prop} (h : ∀ Q, goal' Q → goal Q) (g : Gl' P r goal') : Gl' P r goal := by
  cases r with
  | ok p => exact h _ g
  | exc x e => exact True.intro
  | bad => exact True.intro
theorem Gl'.seq {M : Model} {A : Around} {E : Value → Shared → Prop} {s : Shared} {t : Sem γ} {r : R δ} {f : δ → R α} {Pa : δ → γ → Shared → Prop} {REST : (β → Shared → Prop) → γ → Shared → Prop}
    (h : Gl' Pa r fun Q => wpAny M A t Q E s) (k : ∀ p u s1, Pa p u s1 → Gl' P (f p) fun Q => REST Q u s1) : Gl' P (r.bind f) fun Q => wpAny M A t (fun u s1 => REST Q u s1) E s := by
  cases r with
  | ok p =>
    show Gl' P (f p) _
    have k' := k p
    cases hf : f p with
    | ok q =>
      rw [hf] at k'
      exact wpAny_mono (show wpAny M A t (Pa p) E s from h) (fun u s1 hp => k' u s1 hp) fun _ _ x => x
    | exc x e => exact True.intro
    | bad => exact True.intro
  | exc x e => exact True.intro
  | bad => exact True.intro
end
section
variable {X : Cx} {pins : List (Addr × Obj)} {σ : L2.St} {s s' : Shared}
/-- a step: the names' realization behind it -/
structure Stp (X : Cx) (pins : List (Addr × Obj)) (σ : L2.St) (H : Hp) (O : List Addr) (env' : Env) (s' : Shared) (H' : Hp) (O' : List Addr) : Prop where
  inv : Inv X pins σ H' s'
  re : XRE X H' env' σ O'
  ext : Ext O H H'
  sub : Sub H O O'
theorem Stp.refl {H : Hp} {O : List Addr} {env : Env} (I : Inv X pins σ H s) (r : XRE X H env σ O) : Stp X pins σ H O env s H O := ⟨I, r, Ext.refl, Sub.refl⟩
theorem Stp.trans {H H1 H2 : Hp} {O O1 O2 : List Addr} {e1 e2 : Env} {s1 s2 : Shared} (a : Stp X pins σ H O e1 s1 H1 O1) (b : Stp X pins σ H1 O1 e2 s2 H2 O2) : Stp X pins σ H O e2 s2 H2 O2 :=
  ⟨b.inv, b.re, a.ext.trans a.sub b.ext, Sub.trans a.ext a.sub b.sub⟩
theorem Stp.old {H H1 : Hp} {O O1 B : List Addr} {e1 : Env} {s1 : Shared} (a : Stp X pins σ H O e1 s1 H1 O1) (b : Sub H1 O1 B) : Sub H O B := Sub.trans a.ext a.sub b
/-- .. where things of B, that are ours, change too -/
theorem Stp.drop {H H1 H2 : Hp} {O O1 O2 B : List Addr} {e1 e2 : Env} {s1 s2 : Shared} (a : Stp X pins σ H O e1 s1 H1 O1) (hB : Sub H O B) (I : Inv X pins σ H2 s2) (r : XRE X H2 e2 σ O2) (x : Ext (O1 ++ B) H1 H2) (sb : Sub H1 (O1 ++ B) O2) : Stp X pins σ H O e2 s2 H2 O2 :=
  ⟨I, r, a.ext.trans (a.sub.app hB) x, Sub.trans a.ext (a.sub.app hB) sb⟩
def PostO (X : Cx) (pins : List (Addr × Obj)) (σ : L2.St) (H : Hp) (O : List Addr) (p : Opd × Env) (u : Value) (s' : Shared) : Prop :=
  ∃ v H' O' B, Stp X pins σ H O p.2 s' H' O' ∧ RelV v u ∧ XRO X H' σ p.1 v B ∧ Dis B O' ∧ Sub H O B
def PostT (X : Cx) (pins : List (Addr × Obj)) (σ : L2.St) (H : Hp) (O : List Addr) (p : Bool × Env) (b : Bool) (s' : Shared) : Prop :=
  b = p.1 ∧ ∃ H' O', Stp X pins σ H O p.2 s' H' O'
theorem PostO.up {H H1 : Hp} {O O1 : List Addr} {e1 : Env} {s1 : Shared} {p : Opd × Env} {u : Value} (a : Stp X pins σ H O e1 s1 H1 O1) (h : PostO X pins σ H1 O1 p u s') : PostO X pins σ H O p u s' := by
  obtain ⟨v, H', O', B, st, rv, ro, dj, sb⟩ := h
  exact ⟨v, H', O', B, a.trans st, rv, ro, dj, a.old sb⟩
theorem PostT.up {H H1 : Hp} {O O1 : List Addr} {e1 : Env} {s1 : Shared} {p : Bool × Env} {u : Bool} (a : Stp X pins σ H O e1 s1 H1 O1) (h : PostT X pins σ H1 O1 p u s') : PostT X pins σ H O p u s' := by
  obtain ⟨e, H', O', st⟩ := h
  exact ⟨e, H', O', a.trans st⟩
/-- an expression comes to an operand -/
def SE (X : Cx) (e : PySem.Expr) (F : Ev) : Prop := ∀ (pins : List (Addr × Obj)) (s : Shared) (σ : L2.St) (H : Hp) (env : Env) (O : List Addr), Inv X pins σ H s → XRE X H env σ O →
  Gl' (PostO X pins σ H O) (F env) fun Q => wpAny (model X.prog X.w) X.A (eval e X.env) Q X.xe s
def isBoolOp : PySem.Expr → Bool | .BoolOp _ _ _ => true | _ => false
/-- a test comes to a truth -/
def ST (X : Cx) (e : PySem.Expr) (F : Ev) : Prop := ∀ (whole : Sem Value) (pins : List (Addr × Obj)) (s : Shared) (σ : L2.St) (H : Hp) (env : Env) (O : List Addr), (whole = eval e X.env ∨ isBoolOp e = true) → Inv X pins σ H s → XRE X H env σ O →
  Gl' (PostT X pins σ H O) (tst F env) fun Q => wpAny (model X.prog X.w) X.A (isTrue e X.env whole) Q X.xe s
/-- ends -/
theorem PostO.val {H H1 : Hp} {O O1 : List Addr} {e1 : Env} {s1 : Shared} {d : D} {r : Value} (a : Stp X pins σ H O e1 s1 H1 O1) (h : PN X pins σ H1 d r s') : PostO X pins σ H O (.val d, e1) r s' := by
  obtain ⟨v, H', B, I, rv, rz, nw, kp⟩ := h
  refine ⟨v, H', O1, B, ⟨I, a.re.stay (fun a u e _ => kp a u e) (fun a _ u e => kp a u e), fun a' u e n => kp a' u (a.ext a' u e n), a.sub⟩, rv, .val rz, fun b hb hO => ?_, a.old fun b hb => .inr (nw b hb)⟩
  obtain ⟨u, e, _⟩ := a.re.own b hO
  rw [nw b hb] at e; cases e
theorem PostO.bl {H H1 : Hp} {O O1 : List Addr} {e1 : Env} {s1 : Shared} {b : Bool} {r : Value} (a : Stp X pins σ H O e1 s1 H1 O1) (h : PB X pins σ H1 b r s') : PostO X pins σ H O (.val (.bl b), e1) r s' :=
  PostO.val a ⟨.bl b, H1, [], h.2, h.1, .bl b, (fun _ h => nomatch h), fun _ _ e => e⟩
theorem ofD_ok {M : Model} {A : Around} {E : Value → Shared → Prop} {t : Sem Value} {H H1 : Hp} {O O1 : List Addr} {e1 : Env} {s1 : Shared} {o : Option D} (a : Stp X pins σ H O e1 s1 H1 O1)
    (h : ∀ d, o = some d → wpAny M A t (PN X pins σ H1 d) E s1) : Gl' (PostO X pins σ H O) (ofD o e1) fun Q => wpAny M A t Q E s1 := by
  cases o with
  | none => exact True.intro
  | some d => exact thn (h d rfl) fun r s' q => PostO.val a q
theorem ofB_ok {M : Model} {A : Around} {E : Value → Shared → Prop} {t : Sem Value} {H H1 : Hp} {O O1 : List Addr} {e1 : Env} {s1 : Shared} {o : Option Bool} (a : Stp X pins σ H O e1 s1 H1 O1)
    (h : ∀ d, o = some d → wpAny M A t (PB X pins σ H1 d) E s1) : Gl' (PostO X pins σ H O) (ofD (o.map .bl) e1) fun Q => wpAny M A t Q E s1 := by
  cases o with
  | none => exact True.intro
  | some d => exact thn (h d rfl) fun r s' q => PostO.bl a q
/-! ### two operands behind one another -/
/-- what is known of operands that were reckoned -/
structure Two (X : Cx) (pins : List (Addr × Obj)) (σ : L2.St) (H : Hp) (O : List Addr) (p q : Opd) (env' : Env) (u w : Value) (s' : Shared) (v x : V) (H' : Hp) (O' B C : List Addr) : Prop where
  st : Stp X pins σ H O env' s' H' O'
  r1 : RelV v u
  r2 : RelV x w
  o1 : XRO X H' σ p v B
  o2 : XRO X H' σ q x C
  d1 : Dis B O'
  d2 : Dis C O'
  d3 : Dis B C
  s1 : Sub H O B
  s2 : Sub H O C
theorem dis_sub {H : Hp} {O B C : List Addr} (d : Dis B O) (own : ∀ a ∈ B, ∃ u, H a = some u ∧ Ow u = true) (sb : Sub H O C) : Dis B C := fun a ha hc => by
  rcases sb a hc with z | z
  · exact d a ha z
  · obtain ⟨u, e, _⟩ := own a ha
    rw [e] at z; cases z
theorem PostO.two {H H1 : Hp} {O O1 B : List Addr} {p : Opd} {e1 : Env} {u : Value} {s1 : Shared} {v : V} {q : Opd × Env} {w : Value} (a : Stp X pins σ H O e1 s1 H1 O1) (rv : RelV v u) (ro : XRO X H1 σ p v B) (dj : Dis B O1) (sb : Sub H O B)
    (h : PostO X pins σ H1 O1 q w s') : ∃ x H' O' C, Two X pins σ H O p q.1 q.2 u w s' v x H' O' B C := by
  obtain ⟨x, H', O', C, st, rx, rq, dc, sc⟩ := h
  have ro' := st.ext.keepO a.re.own ro dj
  exact ⟨x, H', O', C, a.trans st, rv, rx, ro', rq, dis_sub dj ro.own st.sub, dc, dis_sub dj ro.own sc, sb, a.old sc⟩
theorem two {a b : PySem.Expr} {F G : Ev} {α β : Type} {P : α → β → Shared → Prop} {env : Env} {H : Hp} {O : List Addr} {REST : (β → Shared → Prop) → Value → Value → Shared → Prop} {f : Opd × Env → Opd × Env → R α}
    (ha : SE X a F) (hb : SE X b G) (I : Inv X pins σ H s) (r : XRE X H env σ O)
    (k : ∀ p q u w s2 v x H' O' B C, Two X pins σ H O p.1 q.1 q.2 u w s2 v x H' O' B C → Gl' P (f p q) fun Q => REST Q u w s2) :
    Gl' P ((F env).bind fun p => (G p.2).bind fun q => f p q) fun Q => wpAny (model X.prog X.w) X.A (eval a X.env) (fun u s1 => wpAny (model X.prog X.w) X.A (eval b X.env) (fun w s2 => REST Q u w s2) X.xe s1) X.xe s := by
  refine Gl'.seq (ha pins s σ H env O I r) fun p u s1 hp => ?_
  obtain ⟨v, H1, O1, B, st, rv, ro, dj, sb⟩ := hp
  refine Gl'.seq (hb pins s1 σ H1 p.2 O1 st.inv st.re) fun q w s2 hq => ?_
  obtain ⟨x, H', O', C, T⟩ := PostO.two st rv ro dj sb hq
  exact k p q u w s2 v x H' O' B C T
theorem Two.rd1 {H : Hp} {O : List Addr} {p q : Opd} {env' : Env} {u w : Value} {v x : V} {H' : Hp} {O' B C : List Addr} (T : Two X pins σ H O p q env' u w s' v x H' O' B C) {d : D} (h : p.rd env' = some d) : XVw X H' d v := RO.rd T.st.re T.o1 h
theorem Two.rd2 {H : Hp} {O : List Addr} {p q : Opd} {env' : Env} {u w : Value} {v x : V} {H' : Hp} {O' B C : List Addr} (T : Two X pins σ H O p q env' u w s' v x H' O' B C) {d : D} (h : q.rd env' = some d) : XVw X H' d x := RO.rd T.st.re T.o2 h
/-- many operands read, the parts frozen -/
theorem rdks_ok : ∀ {os : List Opd} {H : Hp} {env env' : Env} {O B : List Addr} {vs : List V} {ds : List D}, Inv X pins σ H s → XRE X H env σ O → XROs X H σ os vs B → Dis B O → rdks os env = some (ds, env') →
    ∃ H' O', Inv X pins σ H' s ∧ Ext (O ++ B) H H' ∧ Fg H H' ∧ (∀ a ∈ O', a ∈ O) ∧ XRE X H' env' σ O' ∧ Paired (XKz X H') ds vs
  | [], H, env, env', O, B, vs, ds, I, r, q, dj, h => by
    cases h; cases q
    exact ⟨H, O, I, Ext.refl, Fg.refl, fun _ h => h, r, .nil⟩
  | o :: os, H, env, env', O, B, vs, ds, I, r, q, dj, h => by
    cases q with
    | @cons _ _ v vs O1 O2 q qs dq =>
      cases e : o.rdk env with
      | none => simp [rdks, e] at h
      | some p =>
        obtain ⟨d, e1⟩ := p
        cases e2 : rdks os e1 with
        | none => simp [rdks, e, e2] at h
        | some p2 =>
          obtain ⟨ds2, env2⟩ := p2
          simp only [rdks, e, e2, Option.some.injEq, Prod.mk.injEq] at h
          obtain ⟨rfl, rfl⟩ := h
          obtain ⟨H1, Oa, I1, x1, n1, s1, r1, k1⟩ := rdk_ok I r q dj.l1 e
          have own : ∀ a ∈ O ++ O1, ∃ u, H a = some u ∧ Ow u = true := fun a ha => (List.mem_append.mp ha).elim (r.own a) (q.own a)
          have qs1 := x1.keepOs own qs (fun a ha hb => (List.mem_append.mp hb).elim (dj.l2 a ha) fun z => dq a z ha)
          obtain ⟨H2, Ob, I2, x2, n2, s2, r2, k2⟩ := rdks_ok I1 r1 qs1 (fun a ha hb => dj.l2 a ha (s1 a hb)) e2
          have own2 : ∀ a ∈ Oa ++ O2, ∃ u, H1 a = some u ∧ Ow u = true := fun a ha => (List.mem_append.mp ha).elim (r1.own a) (qs1.own a)
          refine ⟨H2, Ob, I2, fun a u e n => x2 a u (x1 a u e fun z => n ?_) fun z => n ?_, n1.trans n2, fun a h => s1 a (s2 a h), r2, .cons (k1.fg n2) k2⟩
          · rcases List.mem_append.mp z with z | z <;> simp [z]
          · rcases List.mem_append.mp z with z | z
            · simp [s1 a z]
            · simp [z]
theorem Two.rdk {H : Hp} {O : List Addr} {p q : Opd} {env' e : Env} {u w : Value} {v x : V} {H' : Hp} {O' B C : List Addr} {ds : List D} (T : Two X pins σ H O p q env' u w s' v x H' O' B C) (h : rdks [p, q] env' = some (ds, e)) :
    ∃ H2 O2 a b, ds = [a, b] ∧ Stp X pins σ H O e s' H2 O2 ∧ XKz X H2 a v ∧ XKz X H2 b x := by
  have os : XROs X H' σ [p, q] [v, x] (B ++ (C ++ [])) := .cons T.o1 (.cons T.o2 .nil Dis.nilR) (by rw [List.append_nil]; exact T.d3)
  rw [List.append_nil] at os
  obtain ⟨H2, O2, I2, x2, f2, s2, r2, k2⟩ := rdks_ok T.st.inv T.st.re os (Dis.appL T.d1 T.d2) h
  cases k2 with
  | cons k1 k2 =>
    cases k2 with
    | cons k2 k3 =>
      cases k3
      exact ⟨H2, O2, _, _, rfl, T.st.drop (T.s1.app T.s2) I2 r2 x2 (.of fun a h => by simp [s2 a h]), k1, k2⟩
/-! ### what the context bears -/
structure Gd (X : Cx) : Prop where
  sys : ∃ o, X.base.get? sysModules = some o
  un : X.A.units + 70 < cLine
  calm : X.calm = true
  gds : X.A.guards = some []
/-! ### names, constants -/
theorem se_var {i : Nat} {x : Str} {pos : Pos} (hN : X.N[i]? = some x) (hv : Vis X.env.scope x) (hd : (x == ("__debug__" : Str)) = false) (hcd : (x == ("__classdict__" : Str)) = false) : SE X (.Name x pos) (fVar i) := by
  intro pins s σ H env O I r
  unfold fVar
  split
  · rename_i hl
    obtain ⟨d, e⟩ := Option.isSome_iff_exists.mp hl
    obtain ⟨v, e1, vw⟩ := r.look e
    refine thn ((pe_var hN hv hd hcd).run pins s σ H (fun v' H' => v' = v ∧ H' = H) I ⟨v, e1, rfl, rfl⟩) fun u s1 h1 => ?_
    obtain ⟨v', H', I', rv, e2, e3⟩ := h1
    subst e2 e3
    exact ⟨_, _, O, [], Stp.refl I' r, rv, .pl e1, Dis.nil, Sub.nil⟩
  · exact True.intro
theorem se_int {i : Int} {j : Nat} {pos : Pos} : SE X (.Constant (.int i) j pos) fun env => .ok (.val (.int i), env) := fun pins s σ H env O I r =>
  wpAny_Constant_int ⟨.int i, H, O, [], Stp.refl (I.tok _) r, ⟨_, rfl⟩, .val (.int i), Dis.nil, Sub.nil⟩
theorem se_str {i : Str} {j : Nat} {pos : Pos} : SE X (.Constant (.str i) j pos) fun env => .ok (.val (.str i), env) := fun pins s σ H env O I r =>
  Calls.Constant_str ⟨.str i, H, O, [], Stp.refl (I.tok _) r, ⟨_, rfl⟩, .val (.str i), Dis.nil, Sub.nil⟩
theorem se_bl {i : Bool} {j : Nat} {pos : Pos} : SE X (.Constant (.bool i) j pos) fun env => .ok (.val (.bl i), env) := fun pins s σ H env O I r =>
  Constant_bool ⟨.bl i, H, O, [], Stp.refl I r, rfl, .val (.bl i), Dis.nil, Sub.nil⟩
theorem se_non {j : Nat} {pos : Pos} : SE X (.Constant .none j pos) fun env => .ok (.val .non, env) := fun pins s σ H env O I r =>
  Constant_none ⟨.non, H, O, [], Stp.refl I r, rfl, .val .non, Dis.nil, Sub.nil⟩
/-- a module's constant -/
def GlR (X : Cx) (x : Str) (d : D) : Prop := ∃ u v, X.mg x = some u ∧ RelV v u ∧ ∀ H, XRz X H d v []
theorem se_glo {P : Prog} {k : Nat} {x : Str} {pos : Pos} (hg : Gl X x) (hd : (x == ("__debug__" : Str)) = false) (h : ∀ d, P.glob[k]? = some d → GlR X x d) : SE X (.Name x pos) (fGlo P k) := by
  intro pins s σ H env O I r
  unfold fGlo
  cases e : P.glob[k]? with
  | none => exact True.intro
  | some d =>
    obtain ⟨u, v, hm, rv, rz⟩ := h d e
    exact ld_glob I hg hm ⟨v, H, O, [], Stp.refl I r, rv, .val (rz H), Dis.nil, Sub.nil⟩ hd
/-! ### operators -/
theorem se_bin {op : Bin} {a b : PySem.Expr} {A B : Ev} {pos : Pos} (ha : SE X a A) (hb : SE X b B) : SE X (.BinOp a (bop op) b pos) (fBin op A B) := by
  intro pins s σ H env O I r
  refine Gl'.of (fun Q h => wpAny_BinOp h) (two ha hb I r fun p q u w s2 v x H' O' B C T => ?_)
  cases e : rdks [p.1, q.1] q.2 with
  | none => exact True.intro
  | some z =>
    obtain ⟨ds, e1⟩ := z
    obtain ⟨H2, O2, d1, d2, rfl, st, k1, k2⟩ := T.rdk e
    exact ofD_ok st fun d hd => bin_ok st.inv op k1 k2 T.r1 T.r2 hd
theorem se_cmp {op : Cmp} {a b : PySem.Expr} {A B : Ev} {pos : Pos} (g : Gd X) (ha : SE X a A) (hb : SE X b B) (hm : behindInMarks (cop op) b = false) : SE X (.Compare a [cop op] [b] pos) (fCmp op A B) := by
  intro pins s σ H env O I r
  refine Gl'.of (fun Q h => wpAny_Compare1 h hm) (two ha hb I r fun p q u w s2 v x H' O' B C T => ?_)
  cases e1 : p.1.rd q.2 with
  | none => exact True.intro
  | some d1 =>
    cases e2 : q.1.rd q.2 with
    | none => exact True.intro
    | some d2 => exact ofB_ok T.st fun b hb => cmp_ok T.st.inv g.sys (by have := g.un; omega) op (T.rd1 e1) (T.rd2 e2) T.r1 T.r2 hb
def tstO (r : R (Opd × Env)) : R (Bool × Env) := r.bind fun p => match (p.1.rd p.2).bind truth with | some b => .ok (b, p.2) | none => .bad
theorem tstO_bind {α : Type} (r : R α) (f : α → R (Opd × Env)) : tstO (r.bind f) = r.bind fun p => tstO (f p) := by cases r <;> rfl
theorem tstO_bind2 {α β : Type} (r : R α) (g : α → R β) (f : α → β → R (Opd × Env)) : tstO (r.bind fun p => (g p).bind fun q => f p q) = r.bind fun p => (g p).bind fun q => tstO (f p q) := by
  rw [tstO_bind]
  congr 1
  funext p
  rw [tstO_bind]
theorem ofB_test {M : Model} {A : Around} {E : Value → Shared → Prop} {t : Sem Value} {H H1 : Hp} {O O1 : List Addr} {e1 : Env} {s1 : Shared} {o : Option Bool} (a : Stp X pins σ H O e1 s1 H1 O1)
    (h : ∀ d, o = some d → wpAny M A t (PB X pins σ H1 d) E s1) : Gl' (PostT X pins σ H O) (tstO (ofD (o.map .bl) e1)) fun Q => wpAny M A t (fun c s3 => wpAny M A (truthy c) Q E s3) E s1 := by
  cases o with
  | none => exact True.intro
  | some b =>
    refine thn (h b rfl) fun c s3 hc => ?_
    obtain ⟨rfl, I3⟩ := hc
    exact wpAny_truthy_bool ⟨rfl, H1, O1, I3, a.re, a.ext, a.sub⟩
theorem st_cmp {op : Cmp} {a b : PySem.Expr} {A B : Ev} {pos : Pos} (g : Gd X) (ha : SE X a A) (hb : SE X b B) (hm : behindInMarks (cop op) b = false) : ST X (.Compare a [cop op] [b] pos) (fCmp op A B) := by
  intro whole pins s σ H env O hw I r
  show Gl' _ (tstO (fCmp op A B env)) _
  unfold fCmp
  rw [tstO_bind2]
  refine Gl'.of (fun Q h => wpAny_isTrue_Compare1 h hm) (two ha hb I r fun p q u w s2 v x H' O' B C T => ?_)
  cases e1 : p.1.rd q.2 with
  | none => exact True.intro
  | some d1 =>
    cases e2 : q.1.rd q.2 with
    | none => exact True.intro
    | some d2 => exact ofB_test T.st fun b hb => cmp_ok T.st.inv g.sys (by have := g.un; omega) op (T.rd1 e1) (T.rd2 e2) T.r1 T.r2 hb
/-! ### truth -/
theorem isEmpty_vwl {ds : List D} {vs : List V} {its : List Value} (r : VwL X.prog X.w X.K H ds vs) (q : Vals vs its) : vs.isEmpty = ds.isEmpty := by
  cases r <;> rfl
theorem truth_ok {H : Hp} (I : Inv X pins σ H s) {d : D} {v : V} {u : Value} {b : Bool} (k : XVw X H d v) (rv : RelV v u) (h : truth d = some b) :
    wpAny (model X.prog X.w) X.A (truthy u) (fun c s' => c = b ∧ Inv X pins σ H s') X.xe s := by
  have fin : TruV X.K v H b → wpAny (model X.prog X.w) X.A (truthy u) (fun c s' => c = b ∧ Inv X pins σ H s') X.xe s := fun t =>
    thn (tru_ok pins s σ H v u (fun c H' => c = b ∧ H' = H) I rv ⟨b, t, rfl, rfl⟩) fun c s' h' => by
      obtain ⟨H', I', e1, e2⟩ := h'
      subst e2
      exact ⟨e1, I'⟩
  cases k with
  | non => cases h; exact fin rfl
  | bl y => cases h; exact fin rfl
  | int i => cases h; exact fin rfl
  | str y =>
    simp only [truth] at h
    split at h <;> cases h
    rename_i hl
    refine fin ⟨line_le hl, ?_⟩
    cases e : y.length <;> simp <;> omega
  | tup e r =>
    cases h
    refine fin (.inr (.inl ⟨_, e, ?_⟩))
    cases r <;> rfl
  | @lst xs a vs o e r =>
    cases h
    refine fin (.inl ⟨vs, .inl e, ?_⟩)
    cases r <;> rfl
  | dic => cases h
  | clo => cases h
/-! ### not, and, or, if -/
theorem SE.st {e : PySem.Expr} {F : Ev} (h : SE X e F) (he : ∀ whole, isTrue e X.env whole = (do let v ← whole; standAt e.pos; holding [v] (truthy v))) (hb : isBoolOp e = false) : ST X e F := by
  intro whole pins s σ H env O hw I r
  rcases hw with hw | hw
  · subst hw
    show Gl' _ ((F env).bind _) _
    refine Gl'.of (fun Q h => isTrue_plain h (he _)) (Gl'.seq (h pins s σ H env O I r) fun p u s1 hp => ?_)
    obtain ⟨v, H1, O1, B, st, rv, ro, dj, sb⟩ := hp
    cases e1 : p.1.rd p.2 with
    | none => exact True.intro
    | some d =>
      cases e2 : truth d with
      | none => simp only [Option.bind_some, e2]; exact True.intro
      | some b =>
        simp only [Option.bind_some, e2]
        refine thn (truth_ok st.inv (RO.rd st.re ro e1) rv e2) fun c s2 hc => ?_
        exact ⟨hc.1, H1, O1, hc.2, st.re, st.ext, st.sub⟩
  · rw [hb] at hw; cases hw
theorem Gl'.seqT {α β : Type} {P : α → β → Shared → Prop} {e : PySem.Expr} {F : Ev} {H : Hp} {O : List Addr} {env : Env} {f : Bool × Env → R α} {REST : (β → Shared → Prop) → Bool → Shared → Prop}
    (h : ST X e F) (I : Inv X pins σ H s) (r : XRE X H env σ O) (k : ∀ q s1 H1 O1, Stp X pins σ H O q.2 s1 H1 O1 → Gl' P (f q) fun Q => REST Q q.1 s1) :
    Gl' P ((tst F env).bind f) fun Q => wpAny (model X.prog X.w) X.A (isTrue e X.env (eval e X.env)) (fun c s1 => REST Q c s1) X.xe s :=
  Gl'.seq (h _ pins s σ H env O (.inl rfl) I r) fun q c s1 hq => by
    obtain ⟨e, H1, O1, st⟩ := hq
    subst e
    exact k q s1 H1 O1 st
theorem Gl'.up {α β : Type} {P P' : α → β → Shared → Prop} {r : R α} {M : Model} {A : Around} {E : Value → Shared → Prop} {s : Shared} {t : Sem β} (h : Gl' P r fun Q => wpAny M A t Q E s) (k : ∀ p u s, P p u s → P' p u s) : Gl' P' r fun Q => wpAny M A t Q E s := by
  cases r with
  | ok p => exact thn h (k p)
  | exc x e => exact True.intro
  | bad => exact True.intro
theorem se_ife {c a b : PySem.Expr} {C A B : Ev} {pos : Pos} (hc : ST X c C) (ha : SE X a A) (hb : SE X b B) : SE X (.IfExp c a b pos) (fIfe C A B) := by
  intro pins s σ H env O I r
  refine Gl'.of (fun Q h => wpAny_IfExp h) (Gl'.seqT (REST := fun Q c s2 => if c then wpAny (model X.prog X.w) X.A (eval a X.env) Q X.xe s2 else wpAny (model X.prog X.w) X.A (eval b X.env) Q X.xe s2) hc I r fun q s1 H1 O1 st => ?_)
  cases e : q.1 with
  | true => exact (ha pins s1 σ H1 q.2 O1 st.inv st.re).up fun p u s h => PostO.up st h
  | false => exact (hb pins s1 σ H1 q.2 O1 st.inv st.re).up fun p u s h => PostO.up st h
theorem se_not {a : PySem.Expr} {A : Ev} {pos : Pos} (ha : SE X a A) : SE X (.UnaryOp .Not a pos) (fNot A) := by
  intro pins s σ H env O I r
  have e : fNot A env = (A env).bind fun p => (match (p.1.rd p.2).bind truth with | some b => R.ok (b, p.2) | none => .bad).bind fun q => .ok (.val (.bl (!q.1)), q.2) := by
    unfold fNot tst
    cases A env <;> rfl
  rw [e]
  refine Gl'.of (fun Q h => UnaryOp_ h) (Gl'.seq (ha pins s σ H env O I r) fun p u s1 hp => ?_)
  obtain ⟨v, H1, O1, B, st, rv, ro, dj, sb⟩ := hp
  cases e1 : p.1.rd p.2 with
  | none => exact True.intro
  | some d =>
    cases e2 : truth d with
    | none => simp only [Option.bind_some, e2]; exact True.intro
    | some b =>
      simp only [Option.bind_some, e2]
      refine not_of (thn (truth_ok st.inv (RO.rd st.re ro e1) rv e2) fun c s2 hc => ?_)
      obtain ⟨rfl, I2⟩ := hc
      exact PostO.bl st ⟨rfl, I2⟩
theorem st_not {a : PySem.Expr} {A : Ev} {pos : Pos} (ha : ST X a A) : ST X (.UnaryOp .Not a pos) (fNot A) := by
  intro whole pins s σ H env O hw I r
  have e : tst (fNot A) env = (tst A env).bind fun q => .ok (!q.1, q.2) := by
    show tstO ((tst A env).bind _) = _
    cases tst A env <;> rfl
  rw [e]
  refine Gl'.of (goal' := fun Q => wpAny (model X.prog X.w) X.A (isTrue a X.env (eval a X.env)) (fun c s' => Q (!c) s') X.xe s) (fun Q h => isTrue_not h) (Gl'.seqT (REST := fun Q c s' => Q (!c) s') ha I r fun q s1 H1 O1 st => ⟨rfl, H1, O1, st⟩)
theorem se_one {op : PySem.BoolOp} {a : PySem.Expr} {A : Ev} {pos : Pos} (ha : SE X a A) : SE X (.BoolOp op [a] pos) A := fun pins s σ H env O I r => Gl'.of (fun Q h => BoolOp_one h) (ha pins s σ H env O I r)
theorem se_and {a b : PySem.Expr} {rest : List PySem.Expr} {A B : Ev} {pos : Pos} (ha : SE X a A) (hb : SE X (.BoolOp .And (b :: rest) pos) B) : SE X (.BoolOp .And (a :: b :: rest) pos) (fAnd A B) := by
  intro pins s σ H env O I r
  refine Gl'.of (fun Q h => BoolOp_and h) (Gl'.seq (REST := fun Q v s₁ => wpAny (model X.prog X.w) X.A (truthy v) (fun c s₂ => if c then wpAny (model X.prog X.w) X.A (eval (.BoolOp .And (b :: rest) pos) X.env) Q X.xe s₂ else Q v s₂) X.xe s₁) (ha pins s σ H env O I r) fun p u s1 hp => ?_)
  obtain ⟨v, H1, O1, B', st, rv, ro, dj, sb⟩ := hp
  cases e1 : p.1.rd p.2 with
  | none => exact True.intro
  | some d =>
    cases e2 : truth d with
    | none => simp only [Option.bind_some, e2]; exact True.intro
    | some c =>
      simp only [Option.bind_some, e2]
      cases c with
      | true =>
        show Gl' _ (B p.2) _
        cases hB : B p.2 with
        | ok q =>
          refine thn (truth_ok st.inv (RO.rd st.re ro e1) rv e2) fun c s2 hc => ?_
          obtain ⟨rfl, I2⟩ := hc
          have h2 := hb pins s2 σ H1 p.2 O1 I2 st.re
          rw [hB] at h2
          exact thn h2 fun r s h => PostO.up ⟨I2, st.re, st.ext, st.sub⟩ h
        | exc x e => exact True.intro
        | bad => exact True.intro
      | false =>
        refine thn (truth_ok st.inv (RO.rd st.re ro e1) rv e2) fun c s2 hc => ?_
        obtain ⟨rfl, I2⟩ := hc
        exact ⟨v, H1, O1, B', ⟨I2, st.re, st.ext, st.sub⟩, rv, ro, dj, sb⟩
theorem se_or {a b : PySem.Expr} {rest : List PySem.Expr} {A B : Ev} {pos : Pos} (ha : SE X a A) (hb : SE X (.BoolOp .Or (b :: rest) pos) B) : SE X (.BoolOp .Or (a :: b :: rest) pos) (fOr A B) := by
  intro pins s σ H env O I r
  refine Gl'.of (fun Q h => BoolOp_or h) (Gl'.seq (REST := fun Q v s₁ => wpAny (model X.prog X.w) X.A (truthy v) (fun c s₂ => if c then Q v s₂ else wpAny (model X.prog X.w) X.A (eval (.BoolOp .Or (b :: rest) pos) X.env) Q X.xe s₂) X.xe s₁) (ha pins s σ H env O I r) fun p u s1 hp => ?_)
  obtain ⟨v, H1, O1, B', st, rv, ro, dj, sb⟩ := hp
  cases e1 : p.1.rd p.2 with
  | none => exact True.intro
  | some d =>
    cases e2 : truth d with
    | none => simp only [Option.bind_some, e2]; exact True.intro
    | some c =>
      simp only [Option.bind_some, e2]
      cases c with
      | false =>
        show Gl' _ (B p.2) _
        cases hB : B p.2 with
        | ok q =>
          refine thn (truth_ok st.inv (RO.rd st.re ro e1) rv e2) fun c s2 hc => ?_
          obtain ⟨rfl, I2⟩ := hc
          have h2 := hb pins s2 σ H1 p.2 O1 I2 st.re
          rw [hB] at h2
          exact thn h2 fun r s h => PostO.up ⟨I2, st.re, st.ext, st.sub⟩ h
        | exc x e => exact True.intro
        | bad => exact True.intro
      | true =>
        refine thn (truth_ok st.inv (RO.rd st.re ro e1) rv e2) fun c s2 hc => ?_
        obtain ⟨rfl, I2⟩ := hc
        exact ⟨v, H1, O1, B', ⟨I2, st.re, st.ext, st.sub⟩, rv, ro, dj, sb⟩
theorem tst_and (A B : Ev) (env : Env) : tst (fAnd A B) env = (tst A env).bind fun q => if q.1 then tst B q.2 else .ok (false, q.2) := by
  show tstO ((A env).bind _) = R.bind (R.bind (A env) _) _
  cases A env with
  | ok p =>
    show tstO (match (p.1.rd p.2).bind truth with | some true => B p.2 | some false => .ok p | none => .bad) = R.bind (match (p.1.rd p.2).bind truth with | some b => .ok (b, p.2) | none => .bad) _
    cases e : (p.1.rd p.2).bind truth with
    | none => rfl
    | some b =>
      cases b with
      | true => rfl
      | false => show (match (p.1.rd p.2).bind truth with | some b => R.ok (b, p.2) | none => .bad) = _; rw [e]; rfl
  | exc x e => rfl
  | bad => rfl
theorem tst_or (A B : Ev) (env : Env) : tst (fOr A B) env = (tst A env).bind fun q => if q.1 then .ok (true, q.2) else tst B q.2 := by
  show tstO ((A env).bind _) = R.bind (R.bind (A env) _) _
  cases A env with
  | ok p =>
    show tstO (match (p.1.rd p.2).bind truth with | some false => B p.2 | some true => .ok p | none => .bad) = R.bind (match (p.1.rd p.2).bind truth with | some b => .ok (b, p.2) | none => .bad) _
    cases e : (p.1.rd p.2).bind truth with
    | none => rfl
    | some b =>
      cases b with
      | false => rfl
      | true => show (match (p.1.rd p.2).bind truth with | some b => R.ok (b, p.2) | none => .bad) = _; rw [e]; rfl
  | exc x e => rfl
  | bad => rfl
theorem tst_ife (C A B : Ev) (env : Env) : tst (fIfe C A B) env = (tst C env).bind fun q => if q.1 then tst A q.2 else tst B q.2 := by
  show tstO ((tst C env).bind _) = _
  rw [tstO_bind]
  congr 1
  funext q
  cases q.1 <;> rfl
theorem st_one {a : PySem.Expr} {A : Ev} {pos : Pos} {op : PySem.BoolOp} (ha : ST X a A) : ST X (.BoolOp op [a] pos) A := by
  intro whole pins s σ H env O hw I r
  have h := ha _ pins s σ H env O (.inl rfl) I r
  cases hA : tst A env with
  | ok q =>
    rw [hA] at h
    have h : wpAny (model X.prog X.w) X.A (isTrue a X.env (eval a X.env)) (PostT X pins σ H O q) X.xe s := h
    show wpAny (model X.prog X.w) X.A (isTrue (.BoolOp op [a] pos) X.env whole) (PostT X pins σ H O q) X.xe s
    cases op with
    | And =>
      refine isTrue_and (thn h fun c s1 e => ?_)
      cases c with
      | true => exact isTrue_and_nil e
      | false => exact e
    | Or =>
      refine isTrue_or (thn h fun c s1 e => ?_)
      cases c with
      | false => exact isTrue_or_nil e
      | true => exact e
  | exc x e => exact True.intro
  | bad => exact True.intro
theorem st_and {a b : PySem.Expr} {rest : List PySem.Expr} {A B : Ev} {pos : Pos} (ha : ST X a A) (hb : ST X (.BoolOp .And (b :: rest) pos) B) : ST X (.BoolOp .And (a :: b :: rest) pos) (fAnd A B) := by
  intro whole pins s σ H env O hw I r
  rw [tst_and]
  refine Gl'.of (fun Q h => isTrue_and h) (Gl'.seqT (REST := fun Q c s' => if c then wpAny (model X.prog X.w) X.A (isTrue (.BoolOp .And (b :: rest) pos) X.env whole) Q X.xe s' else Q false s') ha I r fun q s1 H1 O1 st => ?_)
  cases e : q.1 with
  | true => exact (hb whole pins s1 σ H1 q.2 O1 (.inr rfl) st.inv st.re).up fun p u s h => PostT.up st h
  | false => exact ⟨rfl, H1, O1, st⟩
theorem st_or {a b : PySem.Expr} {rest : List PySem.Expr} {A B : Ev} {pos : Pos} (ha : ST X a A) (hb : ST X (.BoolOp .Or (b :: rest) pos) B) : ST X (.BoolOp .Or (a :: b :: rest) pos) (fOr A B) := by
  intro whole pins s σ H env O hw I r
  rw [tst_or]
  refine Gl'.of (fun Q h => isTrue_or h) (Gl'.seqT (REST := fun Q c s' => if c then Q true s' else wpAny (model X.prog X.w) X.A (isTrue (.BoolOp .Or (b :: rest) pos) X.env whole) Q X.xe s') ha I r fun q s1 H1 O1 st => ?_)
  cases e : q.1 with
  | false => exact (hb whole pins s1 σ H1 q.2 O1 (.inr rfl) st.inv st.re).up fun p u s h => PostT.up st h
  | true => exact ⟨rfl, H1, O1, st⟩
theorem st_ife {c a b : PySem.Expr} {C A B : Ev} {pos : Pos} (hc : ST X c C) (ha : ST X a A) (hb : ST X b B) : ST X (.IfExp c a b pos) (fIfe C A B) := by
  intro whole pins s σ H env O hw I r
  rw [tst_ife]
  refine Gl'.of (fun Q h => isTrue_IfExp h) (Gl'.seqT (REST := fun Q c s' => if c then wpAny (model X.prog X.w) X.A (isTrue a X.env (eval a X.env)) Q X.xe s' else wpAny (model X.prog X.w) X.A (isTrue b X.env (eval b X.env)) Q X.xe s') hc I r fun q s1 H1 O1 st => ?_)
  cases e : q.1 with
  | true => exact (ha _ pins s1 σ H1 q.2 O1 (.inl rfl) st.inv st.re).up fun p u s h => PostT.up st h
  | false => exact (hb _ pins s1 σ H1 q.2 O1 (.inl rfl) st.inv st.re).up fun p u s h => PostT.up st h
end
end Z

set_option Elab.async false
set_option linter.all false
set_option maxRecDepth 100000
set_option maxHeartbeats 1000000
namespace Z
open PySem L2 PyProof.Rows
section
variable {X : Cx} {pins : List (Addr × Obj)} {σ : L2.St} {s s' : Shared}
/-! ## argument lists, displays -/
def PostOs (X : Cx) (pins : List (Addr × Obj)) (σ : L2.St) (H : Hp) (O : List Addr) (p : List Opd × Env) (us : List Value) (s' : Shared) : Prop :=
  ∃ vs H' O' B, Stp X pins σ H O p.2 s' H' O' ∧ Vals vs us ∧ XROs X H' σ p.1 vs B ∧ Dis B O' ∧ Sub H O B
def SA (X : Cx) (es : List PySem.Expr) (F : Evs) : Prop := ∀ (pos : Pos) (pins : List (Addr × Obj)) (s : Shared) (σ : L2.St) (H : Hp) (env : Env) (O : List Addr), Inv X pins σ H s → XRE X H env σ O →
  Gl' (PostOs X pins σ H O) (F env) fun Q => wpAny (model X.prog X.w) X.A (spliced (backTo pos (starEach es X.env))) Q X.xe s
theorem sa_nil : SA X [] fun env => .ok ([], env) := fun pos pins s σ H env O I r => Calls.spliced_nil ⟨[], H, O, [], Stp.refl I r, .nil, .nil, Dis.nil, Sub.nil⟩
def isStar : PySem.Expr → Bool | .Starred _ _ => true | _ => false
theorem starEach_cons {e : PySem.Expr} {es : List PySem.Expr} {env : PySem.Env} (h : isStar e = false) : starEach (e :: es) env = (false, eval e env) :: starEach es env := by
  cases e <;> first | rfl | cases h
theorem sa_cons {e : PySem.Expr} {es : List PySem.Expr} {A : Ev} {B : Evs} (hs : isStar e = false) (ha : SE X e A) (hr : SA X es B) : SA X (e :: es) (fsCons A B) := by
  intro pos pins s σ H env O I r
  rw [starEach_cons hs]
  refine Gl'.of (goal' := fun Q => wpAny (model X.prog X.w) X.A (eval e X.env) (fun v s₁ => wpAny (model X.prog X.w) X.A (spliced (backTo pos (starEach es X.env))) (fun vs s₂ => Q (v :: vs) s₂) X.xe s₁) X.xe s) (fun Q h => Calls.spliced_cons h)
    (Gl'.seq (REST := fun Q v s₁ => wpAny (model X.prog X.w) X.A (spliced (backTo pos (starEach es X.env))) (fun vs s₂ => Q (v :: vs) s₂) X.xe s₁) (ha pins s σ H env O I r) fun p u s1 hp => ?_)
  obtain ⟨v, H1, O1, C, st, rv, ro, dj, sb⟩ := hp
  refine Gl'.seq (REST := fun Q vs s₂ => Q (u :: vs) s₂) (hr pos pins s1 σ H1 p.2 O1 st.inv st.re) fun q us s2 hq => ?_
  obtain ⟨vs, H2, O2, C2, st2, rvs, ros, dj2, sb2⟩ := hq
  have ro' := st2.ext.keepO st.re.own ro dj
  exact ⟨v :: vs, H2, O2, C ++ C2, st.trans st2, .cons rv rvs, .cons ro' ros (dis_sub dj ro.own sb2), Dis.appL (dis_sub dj ro.own st2.sub) dj2, sb.app (st.old sb2)⟩
theorem se_tup {es : List PySem.Expr} {A : Evs} {k : Nat} {pos : Pos} (h : SA X es A) : SE X (.Tuple es k pos) (fDsp true A) := by
  intro pins s σ H env O I r
  refine Gl'.of (fun Q h => wpAny_Tuple_spliced h) (Gl'.seq (REST := fun Q us s1 => us.length ≤ sizeLine ∧ Q (Value.ref s1.heap.objs.size) { s1 with heap := s1.heap.push { cls := .type "tuple", data := .seq us.toArray } }) (h pos pins s σ H env O I r) fun p us s1 hp => ?_)
  obtain ⟨vs, H1, O1, C, st, rv, ro, dj, sb⟩ := hp
  show Gl' _ (if p.1.length ≤ line then _ else _) _
  split
  · rename_i hl
    have e1 : p.1.length = vs.length := by
      clear hl dj sb st rv
      generalize p.1 = os at ro
      induction os generalizing vs C with
      | nil => cases ro; rfl
      | cons o os ih => cases ro with | cons a b c => simp [ih _ _ b]
    have hz : vs.length ≤ sizeLine := by rw [← e1]; exact line_le hl
    have hf : H1 s1.heap.objs.size = none := st.inv.hok.fresh (Nat.le_refl _)
    have x2 : ∀ a u, H1 a = some u → upd H1 s1.heap.objs.size (.tup vs) a = some u := upd_new hf
    refine ⟨by rw [← rv.length]; exact hz, ?_⟩
    refine ⟨.ref s1.heap.objs.size, upd H1 s1.heap.objs.size (.tup vs), O1, C, ⟨st.inv.laid (t' := s1.toks) (fun b u e => Heap.get?_push_of_some _ e) (Nat.le_refl _) ⟨hz, us, rv, ⟨_, Heap.get?_push_size _ rfl, rfl, _, rfl⟩⟩, st.re.stay (fun a u e _ => x2 a u e) (fun a _ u e => x2 a u e), fun a u e n => x2 a u (st.ext a u e n), st.sub⟩,
      rfl, .tup upd_same (ro.stay (fun a u e _ => x2 a u e) fun a _ u e => x2 a u e), dj, sb⟩
  · exact True.intro
theorem ros_length : ∀ {os : List Opd} {vs : List V} {C : List Addr} {H : Hp}, XROs X H σ os vs C → os.length = vs.length
  | [], _, _, _, r => by cases r; rfl
  | o :: os, _, _, _, r => by cases r with | cons a b c => simp [ros_length b]
theorem se_lst {es : List PySem.Expr} {A : Evs} {pos : Pos} (h : SA X es A) : SE X (.List es pos) (fDsp false A) := by
  intro pins s σ H env O I r
  refine Gl'.of (fun Q h => wpAny_List_spliced h) (Gl'.seq (REST := fun Q us s1 => us.length ≤ sizeLine ∧ Q (Value.ref s1.heap.objs.size) { s1 with heap := s1.heap.push { cls := .type "list", data := .seq us.toArray } }) (h pos pins s σ H env O I r) fun p us s1 hp => ?_)
  obtain ⟨vs, H1, O1, C, st, rv, ro, dj, sb⟩ := hp
  show Gl' _ (if p.1.length ≤ line then _ else _) _
  split
  · rename_i hl
    have hz : vs.length ≤ sizeLine := by rw [← ros_length ro]; exact line_le hl
    have hf : H1 s1.heap.objs.size = none := st.inv.hok.fresh (Nat.le_refl _)
    have x2 : ∀ a u, H1 a = some u → upd H1 s1.heap.objs.size (.lst vs) a = some u := upd_new hf
    refine ⟨by rw [← rv.length]; exact hz, ?_⟩
    refine ⟨.ref s1.heap.objs.size, upd H1 s1.heap.objs.size (.lst vs), O1, s1.heap.objs.size :: C, ⟨st.inv.laid (t' := s1.toks) (fun b u e => Heap.get?_push_of_some _ e) (Nat.le_refl _) ⟨hz, us, 0, rv, Heap.get?_push_size _ rfl⟩, st.re.stay (fun a u e _ => x2 a u e) (fun a _ u e => x2 a u e), fun a u e n => x2 a u (st.ext a u e n), st.sub⟩,
      rfl, .lst upd_same (ro.stay (fun a u e _ => x2 a u e) fun a _ u e => x2 a u e) (fun z => ?_), fun a ha hO => ?_, fun a ha => ?_⟩
    · obtain ⟨u, e, _⟩ := ro.own _ z
      rw [hf] at e; cases e
    · rcases List.mem_cons.mp ha with rfl | ha
      · obtain ⟨u, e, _⟩ := st.re.own _ hO
        rw [hf] at e; cases e
      · exact dj a ha hO
    · rcases List.mem_cons.mp ha with rfl | ha
      · exact st.old (B := [s1.heap.objs.size]) (fun b hb => .inr (by simp at hb; subst hb; exact hf)) _ (by simp)
      · exact sb a ha
  · exact True.intro
/-! ## built-in functions -/
def noStar : List PySem.Expr → Bool | [] => true | e :: es => !isStar e && noStar es
theorem noStar_any {pos : Pos} {env : PySem.Env} : ∀ {es : List PySem.Expr}, noStar es = true → (backTo pos (starEach es env)).any (·.1) = false
  | [], _ => rfl
  | e :: es, h => by
    simp only [noStar, Bool.and_eq_true, Bool.not_eq_true'] at h
    rw [starEach_cons h.1]
    show (false || (backTo pos (starEach es env)).any (·.1)) = false
    rw [noStar_any h.2]; rfl
/-- a built-in function or type -/
def isBlt : Value → Bool | .builtin _ => true | .type _ => true | _ => false
theorem callB1 {M : Model} {A : Around} {E : Value → Shared → Prop} {s : Shared} {env : PySem.Env} {pos : Pos} {f : Value} {e : PySem.Expr} {es : List PySem.Expr} {Q : Value → Shared → Prop} (hf : isBlt f = true) (hn : noStar (e :: es) = true)
    (h : wpAny M A (spliced (backTo pos (starEach (e :: es) env))) (fun vs s₁ => wpAny M A (call f vs) Q E s₁) E s) : wpAny M A (callWith pos f [] (backTo pos (starEach (e :: es) env)) []) Q E s := by
  simp only [noStar, Bool.and_eq_true, Bool.not_eq_true'] at hn
  cases f with
  | builtin id => exact PyProof.Rows.callWith_builtin1 h (starEach_cons hn.1) (noStar_any hn.2)
  | type T => exact PyProof.Rows.callWith_type1 h (starEach_cons hn.1) (noStar_any hn.2)
  | _ => cases hf
/-- a built-in's name that is not bound in the module -/
structure Blt (X : Cx) (x : Str) (f : Value) : Prop where
  gl : Gl X x
  mg : X.mg x = none
  bt : bootBuiltins x = some f
  nm : x ≠ "__name__"
  db : (x == ("__debug__" : Str)) = false
  is : isBlt f = true
theorem se_blt {x : Str} {f : Value} {p pos : Pos} {e : PySem.Expr} {es : List PySem.Expr} {A : Evs} {k : List Opd × Env → R (Opd × Env)} (b : Blt X x f) (hn : noStar (e :: es) = true) (ha : SA X (e :: es) A)
    (hk : ∀ (pins : List (Addr × Obj)) (σ : L2.St) (H : Hp) (O : List Addr) (p : List Opd × Env) (us : List Value) (s1 : Shared) (vs : List V) (H1 : Hp) (O1 C : List Addr), Stp X pins σ H O p.2 s1 H1 O1 → Vals vs us → XROs X H1 σ p.1 vs C → Dis C O1 → Sub H O C → Gl' (PostO X pins σ H O) (k p) fun Q => wpAny (model X.prog X.w) X.A (call f us) Q X.xe s1) :
    SE X (.Call (.Name x p) (e :: es) [] pos) fun env => (A env).bind k := by
  intro pins s σ H env O I r
  refine Gl'.of (goal' := fun Q => wpAny (model X.prog X.w) X.A (spliced (backTo pos (starEach (e :: es) X.env))) (fun us s1 => wpAny (model X.prog X.w) X.A (call f us) Q X.xe s1) X.xe s)
    (fun Q h => wpAny_Call_Name_kw (ld_blt I b.gl b.mg b.bt (callB1 b.is hn h) b.nm b.db)) (Gl'.seq (REST := fun Q us s1 => wpAny (model X.prog X.w) X.A (call f us) Q X.xe s1) (ha pos pins s σ H env O I r) fun p us s1 hp => ?_)
  obtain ⟨vs, H1, O1, C, st, rv, ro, dj, sb⟩ := hp
  exact hk pins σ H O p us s1 vs H1 O1 C st rv ro dj sb
/-- a built-in that reads its arguments -/
def BiR (X : Cx) (b : Bi) (f : Value) : Prop := ∀ (pins : List (Addr × Obj)) (s : Shared) (σ : L2.St) (H : Hp) (ds : List D) (vs : List V) (us : List Value) (d : D), Inv X pins σ H s → VwL X.prog X.w X.K H ds vs → Vals vs us → biD b ds = some d →
  wpAny (model X.prog X.w) X.A (call f us) (PN X pins σ H d) X.xe s
/-- .. that copies -/
def BiC (X : Cx) (b : Bi) (f : Value) : Prop := ∀ (pins : List (Addr × Obj)) (s : Shared) (σ : L2.St) (H : Hp) (ds : List D) (vs : List V) (us : List Value) (d : D), Inv X pins σ H s → Paired (XKz X H) ds vs → Vals vs us → biD b ds = some d →
  wpAny (model X.prog X.w) X.A (call f us) (PN X pins σ H d) X.xe s
theorem se_biR {b : Bi} {x : Str} {f : Value} {p pos : Pos} {e : PySem.Expr} {es : List PySem.Expr} {A : Evs} (bl : Blt X x f) (hb : b.copies = false) (hn : noStar (e :: es) = true) (ha : SA X (e :: es) A) (h : BiR X b f) : SE X (.Call (.Name x p) (e :: es) [] pos) (fBi b A) := by
  have e2 : fBi b A = fun env => (A env).bind fun p => match rds p.1 p.2 with | some ds => ofD (biD b ds) p.2 | none => .bad := by
    unfold fBi
    simp only [hb, Bool.false_eq_true, if_false]
    try rfl
  rw [e2]
  refine se_blt bl hn ha fun pins σ H O p us s1 vs H1 O1 C st rv ro dj sb => ?_
  cases e1 : rds p.1 p.2 with
  | none => exact True.intro
  | some ds => exact ofD_ok st fun d hd => h pins s1 σ H1 ds vs us d st.inv (ROs.rds st.re ro e1) rv hd
theorem se_biC {b : Bi} {x : Str} {f : Value} {p pos : Pos} {e : PySem.Expr} {es : List PySem.Expr} {A : Evs} (bl : Blt X x f) (hb : b.copies = true) (hn : noStar (e :: es) = true) (ha : SA X (e :: es) A) (h : BiC X b f) : SE X (.Call (.Name x p) (e :: es) [] pos) (fBi b A) := by
  have e2 : fBi b A = fun env => (A env).bind fun p => match rdks p.1 p.2 with | some (ds, e) => ofD (biD b ds) e | none => .bad := by
    unfold fBi
    simp only [hb, if_true]
    try rfl
  rw [e2]
  refine se_blt bl hn ha fun pins σ H O p us s1 vs H1 O1 C st rv ro dj sb => ?_
  cases e1 : rdks p.1 p.2 with
  | none => exact True.intro
  | some z =>
    obtain ⟨ds, e3⟩ := z
    obtain ⟨H2, O2, I2, x2, f2, s2, r2, k2⟩ := rdks_ok st.inv st.re ro dj e1
    exact ofD_ok (st.drop sb I2 r2 x2 (.of fun a h => by simp [s2 a h])) fun d hd => h pins s1 σ H2 ds vs us d I2 k2 rv hd
mutual
theorem Vw.nested {H : Hp} (I : Inv X pins σ H s) : ∀ {d : D} {v : V} {u : Value} {k : NestedKey}, XVw X H d v → RelV v u → d.key = some k → NestedIs s.heap k u ∧ k.depth = d.depth
  | _, _, u, k, .non, rv, h => by cases h; cases (show u = Value.none from rv); exact ⟨.none, rfl⟩
  | _, _, u, k, .bl b, rv, h => by cases h; cases (show u = Value.bool b from rv); exact ⟨.bool (by cases b <;> rfl), rfl⟩
  | _, _, u, k, .int i, rv, h => by cases h; obtain ⟨t, q⟩ := (show ∃ t, u = Value.int i t from rv); cases q; exact ⟨.int i t, rfl⟩
  | _, _, u, k, .str i, rv, h => by cases h; obtain ⟨t, q⟩ := (show ∃ t, u = Value.str i t from rv); cases q; exact ⟨.text i t, rfl⟩
  | _, _, u, k, .tup (xs := xs) e r, rv, h => by
    have h : (D.keys xs).map NestedKey.tup = some k := h
    obtain ⟨ks, e1, rfl⟩ := Option.map_eq_some_iff.mp h
    cases (show u = Value.ref _ from rv)
    obtain ⟨its, ri, ⟨o, h1, h2, n, h3⟩, _⟩ := I.tuple e
    obtain ⟨q1, q2⟩ := VwL.nested I r ri e1
    exact ⟨.tup h1 h2 h3 (by simpa using q1), by simp only [NestedKey.depth, D.depth, q2]⟩
  | _, _, u, k, .lst _ _ _, rv, h => by cases h
  | _, _, u, k, .dic _ _ _ _ _ _ _, rv, h => by cases h
theorem VwL.nested {H : Hp} (I : Inv X pins σ H s) : ∀ {ds : List D} {vs : List V} {us : List Value} {ks : List NestedKey}, VwL X.prog X.w X.K H ds vs → Vals vs us → D.keys ds = some ks → NestedAll s.heap ks us ∧ NestedKey.depthAll ks = D.depths ds
  | _, _, _, _, .nil, rv, h => by cases h; cases rv; exact ⟨.nil, rfl⟩
  | _, _, _, ks, .cons (x := x) (xs := xs) r rs, rv, h => by
    cases rv with
    | cons rv rvs =>
      cases e1 : x.key with
      | none => simp [D.keys, e1] at h
      | some p =>
        cases e2 : D.keys xs with
        | none => simp [D.keys, e1, e2] at h
        | some q =>
          simp only [D.keys, e1, e2, Option.some.injEq] at h
          subst h
          obtain ⟨a1, a2⟩ := Vw.nested I r rv e1
          obtain ⟨b1, b2⟩ := VwL.nested I rs rvs e2
          exact ⟨.cons a1 b1, by simp only [NestedKey.depthAll, D.depths, a2, b2]⟩
end
theorem keys_get : ∀ {ds : List D} {ks : List NestedKey} {j : Nat} {k : NestedKey}, D.keys ds = some ks → ks[j]? = some k → ∃ d, ds[j]? = some d ∧ d.key = some k
  | [], ks, j, k, h, e => by cases h; simp at e
  | x :: xs, ks, j, k, h, e => by
    cases e1 : x.key with
    | none => simp [D.keys, e1] at h
    | some p =>
      cases e2 : D.keys xs with
      | none => simp [D.keys, e1, e2] at h
      | some q =>
        simp only [D.keys, e1, e2, Option.some.injEq] at h
        subst h
        cases j with
        | zero => simp at e; subst e; exact ⟨x, rfl, e1⟩
        | succ j => simpa using keys_get e2 (by simpa using e)
/-- a dict with tuples for its keys, as the library tells it -/
theorem dtP.of {H : Hp} {a : Addr} {es : List (NestedKey × Addr × V)} {kds : List D} (I : Inv X pins σ H s) (x : dtP X.prog X.w a es s.heap) (hk : D.keys kds = some (es.map (·.1))) (hd : ∀ k ∈ kds, k.depth ≤ 8) (vw : VwL X.prog X.w X.K H kds (es.map fun e => .ref e.2.1)) :
    ∃ ys, Paired (fun (p : NestedKey × Addr × V) (q : NestedKey × Addr × Value) => p.1 = q.1 ∧ p.2.1 = q.2.1 ∧ RelV p.2.2 q.2.2) es ys ∧ s.heap.DictOfH (nestedKind X.prog X.w) a ys ∧ es.length ≤ sizeLine ∧ (a == sysModules) = false := by
  obtain ⟨hl, hs, hn, ys, hp, o, des, ep, h1, h2, h3, h4⟩ := x
  refine ⟨ys, hp, ⟨o, des, ep, h1, h2, h3, h4, fun y hy => ?_, ?_⟩, hl, hs⟩
  · obtain ⟨j, hj, e⟩ := List.mem_iff_getElem.mp hy
    have hlen := Paired.length hp
    have hj' : j < es.length := by omega
    have hye : ys[j]? = some y := by rw [List.getElem?_eq_getElem hj, e]
    have hpj : ∀ {es : List (NestedKey × Addr × V)} {ys : List (NestedKey × Addr × Value)} {j : Nat} {y}, Paired (fun (p : NestedKey × Addr × V) (q : NestedKey × Addr × Value) => p.1 = q.1 ∧ p.2.1 = q.2.1 ∧ RelV p.2.2 q.2.2) es ys → ys[j]? = some y → ∃ p, es[j]? = some p ∧ p.1 = y.1 ∧ p.2.1 = y.2.1 := by
      intro es ys j y hp
      induction hp generalizing j with
      | nil => intro h; simp at h
      | cons r rs ih =>
        intro h
        cases j with
        | zero => simp at h; subst h; exact ⟨_, rfl, r.1, r.2.1⟩
        | succ j => simpa using ih (by simpa using h)
    obtain ⟨p, e1, e2, e3⟩ := hpj hp hye
    have ek : (es.map (·.1))[j]? = some p.1 := by rw [List.getElem?_map, e1]; rfl
    obtain ⟨d, ed, kd⟩ := keys_get hk ek
    obtain ⟨v, ev, vd⟩ := vw.get ed
    rw [List.getElem?_map, e1] at ev
    simp only [Option.map_some, Option.some.injEq] at ev
    subst ev
    obtain ⟨n1, n2⟩ := Vw.nested I vd (u := .ref p.2.1) rfl kd
    rw [← e2, ← e3]
    exact ⟨n1, by rw [n2]; exact hd d (List.mem_of_getElem? ed)⟩
  · have e : ys.map (·.1) = es.map (·.1) := by
      clear h4 hn hl vw hk hd
      induction hp with
      | nil => rfl
      | cons r rs ih => simp [r.1, ih]
    rw [e]; exact hn
theorem PN.kept {H : Hp} {d : D} {v : V} {r : Value} (I : Inv X pins σ H s') (rv : RelV v r) (rz : XRz X H d v []) : PN X pins σ H d r s' := ⟨v, H, [], I, rv, rz, (fun _ h => nomatch h), fun _ _ e => e⟩
theorem bi_len : BiR X .len (.builtin "len") := by
  intro pins s σ H ds vs us d I vw rv h
  have fin : ∀ {n : Int} {t : Tok} {tk : Nat}, PN X pins σ H (.int n) (.int n t) { s with toks := tk } := PN.kept (v := .int _) (I.tok _) ⟨_, rfl⟩ (.int _)
  have seq : ∀ {n : Nat} {ws : List V} {v : V} {u : Value} {a : Addr}, v = .ref a → RelV v u → (SqL X.K H a ws ∨ SqT X.K H a ws) → n = ws.length → wpAny (model X.prog X.w) X.A (call (.builtin "len") [u]) (PN X pins σ H (.int n)) X.xe s := by
    intro n ws v u a e1 r1 hq hl
    refine thn (call_len pins s σ H [v] [u] (fun v' H' => v' = .int n ∧ H' = H) I (.cons r1 .nil) ⟨v, ws.length, rfl, ?_, by rw [hl], rfl⟩) fun r s' ⟨v', H', I', r', z1, z2⟩ => ?_
    · subst e1
      exact hq.imp (fun q => ⟨ws, q, rfl⟩) fun q => ⟨ws, q, rfl⟩
    · subst z1 z2
      exact PN.kept I' r' (.int _)
  cases vw with
  | nil => simp [biD] at h
  | cons q1 q2 =>
    cases rv with
    | cons r1 r2 =>
      cases q2 with
      | cons _ _ => simp [biD] at h
      | nil =>
        cases r2
        cases q1 with
        | non => simp [biD] at h
        | bl _ => simp [biD] at h
        | clo _ => simp [biD] at h
        | int _ => simp [biD] at h
        | str y =>
          simp only [biD] at h
          split at h <;> cases h
          rename_i hl
          refine thn (call_len_str pins s σ H [_] [_] (fun v' H' => v' = .int _ ∧ H' = H) I (.cons r1 .nil) ⟨_, rfl, line_le hl, rfl, rfl⟩) fun r s' ⟨v', H', I', r', z1, z2⟩ => ?_
          subst z1 z2
          exact PN.kept I' r' (.int _)
        | tup e r => simp only [biD, Option.some.injEq] at h; subst h; exact seq rfl r1 (.inr e) r.length
        | lst o e r => simp only [biD, Option.some.injEq] at h; subst h; exact seq rfl r1 (.inl (.inl e)) r.length
        | dic o e dd n q rk r =>
          simp only [biD, Option.some.injEq] at h
          subst h
          cases r1
          have ok := e.ok I.hok
          have hl2 := r.length
          rw [List.length_map] at hl2
          cases dd with
          | k es =>
            obtain ⟨hl, hs, kvs, hp, m⟩ := ok
            rw [List.length_map] at hl2
            have e3 : es.length = kvs.length := Paired.length hp
            refine call_len_dict hs m (by rw [← e3]; rw [sizeLine_eq] at hl; omega) ?_
            rw [← e3, ← hl2]; exact fin
          | t es =>
            obtain ⟨ys, hp, m, hl, hs⟩ := dtP.of I ok.1 n (fun k hk => by obtain ⟨q0, hq0, rfl⟩ := List.mem_map.mp hk; exact q q0 hq0) rk
            rw [List.length_map] at hl2
            have e3 : es.length = ys.length := Paired.length hp
            refine call_len_dictH hs m (by rw [← e3]; rw [sizeLine_eq] at hl; omega) ?_
            rw [← e3, ← hl2]; exact fin
theorem one_ok {H : Hp} {x : D} {vs : List V} {us : List Value} (vw : VwL X.prog X.w X.K H [x] vs) (rv : Vals vs us) : ∃ v u, vs = [v] ∧ us = [u] ∧ XVw X H x v ∧ RelV v u := by
  cases vw with
  | cons q1 q2 => cases q2; cases rv with | cons r1 r2 => cases r2; exact ⟨_, _, rfl, rfl, q1, r1⟩
theorem bi_int : BiR X .int (.type "int") := by
  intro pins s σ H ds vs us d I vw rv h
  have key : ∀ i, (∃ j, vs = [V.int j] ∧ i = j) ∨ (∃ k : Bool, vs = [V.bl k] ∧ i = (if k then 1 else 0)) → wpAny (model X.prog X.w) X.A (call (.type "int") us) (PN X pins σ H (.int i)) X.xe s := fun i hi => by
    refine thn (call_int1 pins s σ H vs us (fun v' H' => v' = .int i ∧ H' = H) I rv ?_) fun r s' ⟨v', H', I', r', z1, z2⟩ => ?_
    · rcases hi with ⟨j, e, rfl⟩ | ⟨k, e, rfl⟩
      · exact .inl ⟨i, e, rfl, rfl⟩
      · exact .inr ⟨k, e, rfl, rfl⟩
    · subst z1 z2
      exact PN.kept I' r' (.int _)
  match ds, h with
  | [.int i], h =>
    cases h
    obtain ⟨v, u, rfl, rfl, q, r⟩ := one_ok vw rv
    cases q
    exact key i (.inl ⟨i, rfl, rfl⟩)
  | [.bl b], h =>
    cases h
    obtain ⟨v, u, rfl, rfl, q, r⟩ := one_ok vw rv
    cases q
    exact key _ (.inr ⟨b, rfl, rfl⟩)
theorem bi_abs : BiR X .abs (.builtin "abs") := by
  intro pins s σ H ds vs us d I vw rv h
  match ds, h with
  | [.int i], h =>
    cases h
    obtain ⟨v, u, rfl, rfl, q, r⟩ := one_ok vw rv
    cases q
    refine thn (call_abs pins s σ H [.int i] [u] (fun v' H' => v' = .int (if i < 0 then -i else i) ∧ H' = H) I (.cons r .nil) ⟨i, rfl, rfl, rfl⟩) fun r s' ⟨v', H', I', r', z1, z2⟩ => ?_
    subst z1 z2
    exact PN.kept I' r' (.int _)
theorem bi_repr (g : Gd X) : BiR X .repr (.builtin "repr") := by
  intro pins s σ H ds vs us d I vw rv h
  match ds, h with
  | [x], h =>
    obtain ⟨v, u, rfl, rfl, q, r⟩ := one_ok vw rv
    exact repr_ok I g.sys g.gds g.un q r h
theorem bools_ok {H : Hp} : ∀ {ds : List D} {bs : List Bool} {vs : List V}, boolsOf ds = some bs → VwL X.prog X.w X.K H ds vs → vs = bs.map V.bl
  | [], bs, vs, h, r => by cases h; cases r; rfl
  | d :: ds, bs, vs, h, r => by
    cases d <;> simp only [boolsOf] at h <;> try (cases h; done)
    obtain ⟨bs', e, rfl⟩ := Option.map_eq_some_iff.mp h
    cases r with
    | cons r rs => cases r; rw [bools_ok e rs]; rfl
theorem ints_ok {H : Hp} : ∀ {ds : List D} {bs : List Int} {vs : List V}, intsOf ds = some bs → VwL X.prog X.w X.K H ds vs → vs = bs.map V.int
  | [], bs, vs, h, r => by cases h; cases r; rfl
  | d :: ds, bs, vs, h, r => by
    cases d <;> simp only [intsOf] at h <;> try (cases h; done)
    obtain ⟨bs', e, rfl⟩ := Option.map_eq_some_iff.mp h
    cases r with
    | cons r rs => cases r; rw [ints_ok e rs]; rfl
theorem strs_ok {H : Hp} : ∀ {ds : List D} {bs : List Str} {vs : List V}, strs? ds = some bs → VwL X.prog X.w X.K H ds vs → vs = bs.map V.str
  | [], bs, vs, h, r => by cases h; cases r; rfl
  | d :: ds, bs, vs, h, r => by
    cases d <;> simp only [strs?] at h <;> try (cases h; done)
    obtain ⟨bs', e, rfl⟩ := Option.map_eq_some_iff.mp h
    cases r with
    | cons r rs => cases r; rw [strs_ok e rs]; rfl
/-- what a sequence's copy is made of -/
theorem seq_cut {H : Hp} {x : D} {v : V} {ys : List D} (k : XKz X H x v) (h : seqLT x = some ys) : ∃ a vs, v = .ref a ∧ ((SqL X.K H a vs ∧ ∃ o, x = .lst o ys) ∨ (SqT X.K H a vs ∧ x = .tup ys)) ∧ XRzL X H ys vs [] := by
  cases x with
  | lst o xs => cases h; obtain ⟨a, vs, rfl, e, r⟩ := k.list; exact ⟨a, vs, rfl, .inl ⟨.inl e, o, rfl⟩, r⟩
  | tup xs => cases h; obtain ⟨a, vs, rfl, e, r⟩ := k.tup; exact ⟨a, vs, rfl, .inr ⟨e, rfl⟩, r⟩
  | _ => cases h
theorem one_paired {H : Hp} {x : D} {vs : List V} {us : List Value} (k : Paired (XKz X H) [x] vs) (rv : Vals vs us) : ∃ v u, vs = [v] ∧ us = [u] ∧ XKz X H x v ∧ RelV v u := by
  cases k with
  | cons k1 k2 => cases k2; cases rv with | cons r1 r2 => cases r2; exact ⟨_, _, rfl, rfl, k1, r1⟩
theorem bi_tuple : BiC X .tuple (.type "tuple") := by
  intro pins s σ H ds vs us d I k rv h
  match ds, h with
  | [], h => simp [biD] at h
  | x :: y :: r, h => simp [biD] at h
  | [x], h =>
    simp only [biD] at h
    cases e1 : seqLT x with
    | none => rw [e1] at h; cases h
    | some ys =>
      rw [e1] at h
      simp only at h
      split at h <;> cases h
      obtain ⟨v, u, rfl, rfl, k1, r1⟩ := one_paired k rv
      obtain ⟨a, ws, rfl, hq, rz⟩ := seq_cut k1 e1
      refine wpAny_mono ?_ (fun _ _ q => PN.of q) fun _ _ q => q
      rcases hq with ⟨hq, _⟩ | ⟨hq, _⟩
      · exact call_tuple_of pins s σ H _ _ _ I (.cons r1 .nil) ⟨a, ws, rfl, .inl ⟨hq, fun l hl => QN.tup rz hl⟩⟩
      · exact call_tuple_of pins s σ H _ _ _ I (.cons r1 .nil) ⟨a, ws, rfl, .inr ⟨hq, QN.of (.tup hq rz)⟩⟩
theorem bi_list : BiC X .list (.type "list") := by
  intro pins s σ H ds vs us d I k rv h
  match ds, h with
  | [], h => simp [biD] at h
  | x :: y :: r, h => simp [biD] at h
  | [x], h =>
    simp only [biD] at h
    cases e1 : seqLT x with
    | none => rw [e1] at h; cases h
    | some ys =>
      rw [e1] at h
      simp only at h
      split at h <;> cases h
      obtain ⟨v, u, rfl, rfl, k1, r1⟩ := one_paired k rv
      obtain ⟨a, ws, rfl, hq, rz⟩ := seq_cut k1 e1
      refine wpAny_mono ?_ (fun _ _ q => PN.of q) fun _ _ q => q
      exact call_list_of pins s σ H _ _ _ I (.cons r1 .nil) ⟨a, ws, rfl, hq.imp (·.1) (·.1), fun l hl => QN.lst rz hl⟩
theorem bi_all (g : Gd X) : BiR X .all (.builtin "all") := by
  intro pins s σ H ds vs us d I vw rv h
  match ds, h with
  | [.lst o ys], h =>
    obtain ⟨bs, e, rfl⟩ := Option.map_eq_some_iff.mp (show (boolsOf ys).map _ = some d from h)
    obtain ⟨v, u, rfl, rfl, q, r⟩ := one_ok vw rv
    cases q with
    | lst o e1 r1 =>
      rw [bools_ok e r1] at e1
      refine thn (cr_all g.calm pins s σ H _ [u] (fun v' H' => v' = .bl (bs.all id) ∧ H' = H) I (.cons r .nil) ⟨_, bs, rfl, .inl e1, rfl, rfl⟩) fun r s' ⟨v', H', I', r', z1, z2⟩ => ?_
      subst z1 z2
      exact PN.kept I' r' (.bl _)
theorem bi_any (g : Gd X) : BiR X .any (.builtin "any") := by
  intro pins s σ H ds vs us d I vw rv h
  match ds, h with
  | [.lst o ys], h =>
    obtain ⟨bs, e, rfl⟩ := Option.map_eq_some_iff.mp (show (boolsOf ys).map _ = some d from h)
    obtain ⟨v, u, rfl, rfl, q, r⟩ := one_ok vw rv
    cases q with
    | lst o e1 r1 =>
      rw [bools_ok e r1] at e1
      refine thn (cr_any g.calm pins s σ H _ [u] (fun v' H' => v' = .bl (bs.any id) ∧ H' = H) I (.cons r .nil) ⟨_, bs, rfl, .inl e1, rfl, rfl⟩) fun r s' ⟨v', H', I', r', z1, z2⟩ => ?_
      subst z1 z2
      exact PN.kept I' r' (.bl _)
end
end Z

set_option Elab.async false
set_option linter.all false
set_option maxRecDepth 100000
set_option maxHeartbeats 1000000
namespace Z
open PySem L2 PyProof.Rows
section
variable {X : Cx} {pins : List (Addr × Obj)} {σ : L2.St} {s s' : Shared}
/-! ## one operand -/
theorem se_one1 {a : PySem.Expr} {A : Ev} {f : Opd × Env → R (Opd × Env)} {t : Value → Sem Value} {e : PySem.Expr}
    (hr : ∀ (pins : List (Addr × Obj)) (s : Shared) (σ : L2.St) (H : Hp) (Q : Value → Shared → Prop), Inv X pins σ H s → wpAny (model X.prog X.w) X.A (eval a X.env) (fun u s1 => (∃ H1, Inv X pins σ H1 s1) ∧ wpAny (model X.prog X.w) X.A (t u) Q X.xe s1) X.xe s → wpAny (model X.prog X.w) X.A (eval e X.env) Q X.xe s)
    (ha : SE X a A) (k : ∀ (pins : List (Addr × Obj)) (σ : L2.St) (H : Hp) (O : List Addr) (p : Opd × Env) (u : Value) (s1 : Shared) (v : V) (H1 : Hp) (O1 B : List Addr), Stp X pins σ H O p.2 s1 H1 O1 → RelV v u → XRO X H1 σ p.1 v B → Dis B O1 → Sub H O B →
      Gl' (PostO X pins σ H O) (f p) fun Q => wpAny (model X.prog X.w) X.A (t u) Q X.xe s1) : SE X e fun env => (A env).bind f := by
  intro pins s σ H env O I r
  refine Gl'.of (fun Q h => hr pins s σ H Q I h) (Gl'.seq (REST := fun Q u s1 => (∃ H1, Inv X pins σ H1 s1) ∧ wpAny (model X.prog X.w) X.A (t u) Q X.xe s1) (ha pins s σ H env O I r) fun p u s1 hp => ?_)
  obtain ⟨v, H1, O1, B, st, rv, ro, dj, sb⟩ := hp
  exact Gl'.of (fun Q h => ⟨⟨H1, st.inv⟩, h⟩) (k pins σ H O p u s1 v H1 O1 B st rv ro dj sb)
theorem se_neg {a : PySem.Expr} {A : Ev} {pos : Pos} (ha : SE X a A) : SE X (.UnaryOp .USub a pos) (fNeg A) := by
  refine se_one1 (t := unaryOp .USub) (fun pins s σ H Q I h => UnaryOp_ (thn h fun u s1 h1 => h1.2)) ha fun pins σ H O p u s1 v H1 O1 B st rv ro dj sb => ?_
  cases e1 : p.1.rd p.2 with
  | none => exact True.intro
  | some d =>
    cases d with
    | int i =>
      have vw := RO.rd st.re ro e1
      cases vw
      refine thn (un_neg pins s1 σ H1 _ u (fun v' H' => v' = .int (-i) ∧ H' = H1) st.inv rv ⟨i, rfl, rfl, rfl⟩) fun r s' ⟨v', H', I', r', z1, z2⟩ => ?_
      subst z1 z2
      exact PostO.val st (PN.kept I' r' (.int _))
    | _ => exact True.intro
theorem Vw.isNon {H : Hp} {d : D} {v : V} (h : XVw X H d v) : decide (v = .non) = isNon d := by cases h <;> rfl
theorem se_isN {n : Bool} {a : PySem.Expr} {A : Ev} {j : Nat} {p' pos : Pos} (ha : SE X a A) : SE X (.Compare a [if n then .IsNot else .Is] [.Constant .none j p'] pos) (fIsN n A) := by
  refine se_one1 (t := fun u => compareOp (if n then .IsNot else .Is) u .none) (fun pins s σ H Q I h => wpAny_Compare1 (thn h fun u s1 h1 => Constant_none h1.2) (by cases n <;> rfl)) ha fun pins σ H O p u s1 v H1 O1 B st rv ro dj sb => ?_
  cases e1 : p.1.rd p.2 with
  | none => exact True.intro
  | some d =>
    have vw := RO.rd st.re ro e1
    cases n with
    | true =>
      refine thn (op_notN pins s1 σ H1 v .non u .none (fun v' H' => v' = .bl (!decide (v = .non)) ∧ H' = H1) st.inv rv rfl ⟨rfl, rfl, rfl⟩) fun r s' ⟨v', H', I', r', z1, z2⟩ => ?_
      subst z1 z2
      rw [vw.isNon] at r'
      exact PostO.bl st ⟨by cases hd : isNon d <;> rw [hd] at r' <;> exact r', I'⟩
    | false =>
      refine thn (op_isN pins s1 σ H1 v .non u .none (fun v' H' => v' = .bl (decide (v = .non)) ∧ H' = H1) st.inv rv rfl ⟨rfl, rfl, rfl⟩) fun r s' ⟨v', H', I', r', z1, z2⟩ => ?_
      subst z1 z2
      rw [vw.isNon] at r'
      exact PostO.bl st ⟨by cases hd : isNon d <;> rw [hd] at r' <;> exact r', I'⟩
theorem Vw.tyE {H : Hp} {d : D} {v : V} (h : XVw X H d v) (n : ∀ x, d ≠ .clo x []) : ∃ T, d.ty = some T := by cases h <;> first | exact ⟨_, rfl⟩ | exact absurd rfl (n _)
def tyName : Ty → Str | .int => "int" | .bool => "bool" | .str => "str" | .tup => "tuple" | .lst => "list" | .dct => "dict" | .cls _ => ""
theorem se_isi {a : PySem.Expr} {A : Ev} {t : Ty} {p pos p2 : Pos} (bl : Blt X "isinstance" (.builtin "isinstance")) (bt : Blt X (tyName t) (.type t.nm)) (hc : ∀ c, t ≠ .cls c) (hs : isStar a = false) (ha : SE X a A) :
    SE X (.Call (.Name "isinstance" p) [a, .Name (tyName t) p2] [] pos) (fIsi A t) := by
  refine se_one1 (t := fun u => call (.builtin "isinstance") [u, .type t.nm]) (fun pins s σ H Q I h => ?_) ha fun pins σ H O p u s1 v H1 O1 B st rv ro dj sb => ?_
  · refine wpAny_Call_Name_kw (ld_blt I bl.gl bl.mg bl.bt (callB1 rfl (by show (!isStar a && (!false && true)) = true; rw [hs]; rfl) ?_) bl.nm bl.db)
    rw [starEach_cons hs]
    refine Calls.spliced_cons (thn h fun u s1 h1 => ?_)
    obtain ⟨⟨H1, I1⟩, h1⟩ := h1
    exact Calls.spliced_cons (ld_blt I1 bt.gl bt.mg bt.bt (Calls.spliced_nil h1) bt.nm bt.db)
  · cases e1 : p.1.rd p.2 with
    | none => exact True.intro
    | some d =>
      have vw := RO.rd st.re ro e1
      refine ofB_ok st fun b hb => ?_
      obtain ⟨T, hT⟩ := vw.tyE fun x z => by rw [z] at hb; cases hb
      exact isi_ok st.inv vw rv hb hT hc fun s' I' => ⟨rfl, I'⟩
/-! ## chains -/
theorem PostO.three {H H2 : Hp} {O O2 B : List Addr} {q : Opd} {e2 : Env} {u : Value} {s2 : Shared} {x : V} {r : Opd × Env} {w : Value} (a : Stp X pins σ H O e2 s2 H2 O2) (rv : RelV x u) (ro : XRO X H2 σ q x B) (dj : Dis B O2) (sb : Sub H O B)
    (h : PostO X pins σ H2 O2 r w s') : ∃ z H' O' C, Two X pins σ H O q r.1 r.2 u w s' x z H' O' B C := PostO.two a rv ro dj sb h
theorem se_cmp2 {o1 o2 : Cmp} {a b c : PySem.Expr} {A B C : Ev} {pos : Pos} (g : Gd X) (ha : SE X a A) (hb : SE X b B) (hc : SE X c C) (hm : behindInMarks (cop o2) c = false) : SE X (.Compare a [cop o1, cop o2] [b, c] pos) (fCmp2 o1 o2 A B C) := by
  intro pins s σ H env O I r
  refine Gl'.of (goal' := fun Q => wpAny (model X.prog X.w) X.A (eval a X.env) (fun u s1 => wpAny (model X.prog X.w) X.A (eval b X.env) (fun w s2 => wpAny (model X.prog X.w) X.A (compareOp (cop o1) u w) (fun d s3 => wpAny (model X.prog X.w) X.A (truthy d)
      (fun t s4 => if t then wpAny (model X.prog X.w) X.A (compareChain pos w [cop o2] [eval c X.env]) Q X.xe s4 else Q d s4) X.xe s3) X.xe s2) X.xe s1) X.xe s)
    (fun Q h => Compare_chain (rs := []) (ops := []) (thn h fun u s1 h1 => chain_link h1) (by show behindInMarks (cop o2) c = false; exact hm))
    (two (REST := fun Q u w s2 => wpAny (model X.prog X.w) X.A (compareOp (cop o1) u w) (fun d s3 => wpAny (model X.prog X.w) X.A (truthy d)
      (fun t s4 => if t then wpAny (model X.prog X.w) X.A (compareChain pos w [cop o2] [eval c X.env]) Q X.xe s4 else Q d s4) X.xe s3) X.xe s2) ha hb I r fun p q u w s2 v x H' O' B' C' T => ?_)
  cases e1 : p.1.rd q.2 with
  | none => exact True.intro
  | some d1 =>
    cases e2 : q.1.rd q.2 with
    | none => exact True.intro
    | some d2 =>
      show Gl' _ (match cmpD o1 d1 d2 with | some false => _ | some true => _ | none => _) _
      cases e3 : cmpD o1 d1 d2 with
      | none => exact True.intro
      | some k =>
        have step := cmp_ok T.st.inv g.sys (by have := g.un; omega) o1 (T.rd1 e1) (T.rd2 e2) T.r1 T.r2 e3
        cases k with
        | false =>
          refine thn step fun d s3 hd => ?_
          obtain ⟨rfl, I3⟩ := hd
          refine wpAny_truthy_bool ?_
          exact PostO.bl ⟨I3, T.st.re, T.st.ext, T.st.sub⟩ ⟨rfl, I3⟩
        | true =>
          show Gl' _ ((C q.2).bind _) _
          cases hC : C q.2 with
          | exc y e => exact True.intro
          | bad => exact True.intro
          | ok z =>
            show Gl' _ (match q.1.rd z.2, z.1.rd z.2 with | some y, some z' => ofD ((cmpD o2 y z').map .bl) z.2 | _, _ => .bad) _
            cases e4 : q.1.rd z.2 with
            | none => exact True.intro
            | some d3 =>
              cases e5 : z.1.rd z.2 with
              | none => exact True.intro
              | some d4 =>
                show Gl' _ (ofD ((cmpD o2 d3 d4).map .bl) z.2) _
                cases e6 : cmpD o2 d3 d4 with
                | none => exact True.intro
                | some k2 =>
                  refine thn step fun d s3 hd => ?_
                  obtain ⟨rfl, I3⟩ := hd
                  refine wpAny_truthy_bool ?_
                  show wpAny (model X.prog X.w) X.A (compareChain pos w [cop o2] [eval c X.env]) (PostO X pins σ H O (.val (.bl k2), z.2)) X.xe s3
                  have st3 : Stp X pins σ H O q.2 s3 H' O' := ⟨I3, T.st.re, T.st.ext, T.st.sub⟩
                  have h2 := hc pins s3 σ H' q.2 O' I3 T.st.re
                  rw [hC] at h2
                  refine chain_last (thn h2 fun w2 s4 h4 => ?_)
                  obtain ⟨z3, H4, O4, C4, T4⟩ := PostO.two st3 T.r2 T.o2 T.d2 T.s2 h4
                  exact thn (cmp_ok T4.st.inv g.sys (by have := g.un; omega) o2 (T4.rd1 e4) (T4.rd2 e5) T4.r1 T4.r2 e6) fun r s5 h5 => PostO.bl T4.st h5
/-! ## subscripts -/
def isPlainSl : PySem.Expr → Bool | .Slice _ _ none _ => true | _ => false
theorem plainIx {b : PySem.Expr} (h : isPlainSl b = false) : PlainIx b := fun o i => by
  cases b with
  | Slice lo hi st p => cases st with
    | none => cases h
    | some e => rfl
  | _ => rfl
theorem Two.rdkL {H : Hp} {O : List Addr} {p q : Opd} {env' e : Env} {u w : Value} {v x : V} {H' : Hp} {O' B C : List Addr} {d : D} (T : Two X pins σ H O p q env' u w s' v x H' O' B C) (h : p.rdk env' = some (d, e)) :
    ∃ H2 O2, Stp X pins σ H O e s' H2 O2 ∧ XKz X H2 d v ∧ ∀ k, q.rd e = some k → XVw X H2 k x := by
  obtain ⟨H2, O2, I2, x2, f2, s2, r2, k2⟩ := rdk_ok T.st.inv T.st.re T.o1 T.d1 h
  have own : ∀ a ∈ O' ++ B, ∃ u, H' a = some u ∧ Ow u = true := fun a ha => (List.mem_append.mp ha).elim (T.st.re.own a) (T.o1.own a)
  have o2 := x2.keepO own T.o2 (Dis.appR T.d2 (Dis.symm T.d3))
  exact ⟨H2, O2, T.st.drop T.s1 I2 r2 x2 (.of fun a h => by simp [s2 a h]), k2, fun k hk => RO.rd r2 o2 hk⟩
/-- one item -/
def IxP (X : Cx) : Prop := ∀ (a b : PySem.Expr) (pins : List (Addr × Obj)) (s : Shared) (σ : L2.St) (H : Hp) (x k d : D) (v w : V) (u t : Value), Inv X pins σ H s → XKz X H x v → XVw X H k w → RelV v u → RelV w t → getD? x k = some d → subscripted b false u t = operate [u, t] (getItem u t) →
  wpAny (model X.prog X.w) X.A (subscriptTail a b u t) (PN X pins σ H d) X.xe s
theorem ix_ok : IxP X := by
  intro a b pins s σ H x k d v w u t I kx kk rv rw h hs
  have fin : ∀ {r : Value} {s' : Shared}, EP X pins σ (fun v' H' => XRz X H d v' [] ∧ H' = H) r s' → PN X pins σ H d r s' := fun ⟨v', H', I', r', z1, z2⟩ => by
    subst z2
    exact PN.kept I' r' z1
  match x, k, h with
  | .lst o xs, .int i, h =>
    obtain ⟨p, vs, rfl, e, r⟩ := kx.list
    cases kk
    obtain ⟨y, hy, ry⟩ := atI_rz r (show atI xs i = some d from h)
    exact thn (ix_list a b pins s σ H (.ref p) (.int i) u t _ I rv rw ⟨p, vs, i, y, rfl, rfl, .inl e, hy, ry, rfl⟩ hs) fun _ _ q => fin q
  | .tup xs, .int i, h =>
    obtain ⟨p, vs, rfl, e, r⟩ := kx.tup
    cases kk
    obtain ⟨y, hy, ry⟩ := atI_rz r (show atI xs i = some d from h)
    exact thn (ix_tup a b pins s σ H (.ref p) (.int i) u t _ I rv rw ⟨p, vs, i, y, rfl, rfl, e, hy, ry, rfl⟩ hs) fun _ _ q => fin q
  | .str z, .int i, h =>
    cases kx.str_inv
    cases kk
    have h : (if z.length ≤ line then (atI z.cps.toList i).map fun c => D.str ⟨#[c]⟩ else none) = some d := h
    split at h
    · rename_i hl
      obtain ⟨c, hc, rfl⟩ := Option.map_eq_some_iff.mp h
      exact thn (ix_str a b pins s σ H (.str z) (.int i) u t _ I rv rw ⟨z, i, c, rfl, rfl, line_le hl, hc, .str _, rfl⟩ hs) fun _ _ q => fin q
    · cases h
theorem se_idx {a b : PySem.Expr} {A B : Ev} {pos : Pos} (ip : IxP X) (hp : isPlainSl b = false) (ha : SE X a A) (hb : SE X b B) : SE X (.Subscript a b pos) (fIdx A B) := by
  intro pins s σ H env O I r
  refine Gl'.of (fun Q h => Subscript_ h) (two (REST := fun Q u w s2 => wpAny (model X.prog X.w) X.A (subscriptTail a b u w) Q X.xe s2) ha hb I r fun p q u w s2 v x H' O' B' C' T => ?_)
  cases e1 : p.1.rdk q.2 with
  | none => exact True.intro
  | some z =>
    obtain ⟨d, e⟩ := z
    obtain ⟨H2, O2, st, kz, up⟩ := T.rdkL e1
    show Gl' _ (match q.1.rd e with | some k => ofD (getD? d k) e | none => .bad) _
    cases e2 : q.1.rd e with
    | none => exact True.intro
    | some k => exact ofD_ok st fun y hy => ip a b pins s2 σ H2 d k y v x u w st.inv kz (up k e2) T.r1 T.r2 hy (plainIx hp u w)
/-! ### slices -/
/-- a slice's end -/
def SP' (X : Cx) (o : Option PySem.Expr) (F : Ev) : Prop := ∀ (pins : List (Addr × Obj)) (s : Shared) (σ : L2.St) (H : Hp) (env : Env) (O : List Addr), Inv X pins σ H s → XRE X H env σ O →
  Gl' (PostO X pins σ H O) (F env) fun Q => wpAny (model X.prog X.w) X.A (evalPart o X.env) Q X.xe s
theorem sp_none : SP' X none fun env => .ok (.val .non, env) := fun pins s σ H env O I r => by
  rw [evalPart_none]
  exact wpAny_pure ⟨.non, H, O, [], Stp.refl I r, rfl, .val .non, Dis.nil, Sub.nil⟩
theorem sp_some {e : PySem.Expr} {A : Ev} (h : SE X e A) : SP' X (some e) A := fun pins s σ H env O I r => by
  rw [evalPart_some]
  exact h pins s σ H env O I r
theorem part_ok {H : Hp} {d : D} {v : V} {u : Value} {o : Option Int} (k : XVw X H d v) (rv : RelV v u) (h : optI d = some o) : IsPart u o := by
  match d, h with
  | .non, h => cases h; cases k; cases rv; exact .none
  | .int i, h => cases h; cases k; obtain ⟨t, rfl⟩ := rv; exact .int i t
theorem sli_ok {H : Hp} (I : Inv X pins σ H s) {x d : D} {v : V} {u vl vu : Value} {lo hi : Option Int} {sl : Addr} (kx : XKz X H x v) (rv : RelV v u) (hs : s.heap.IsSliceOf sl vl vu .none) (pl : IsPart vl lo) (pu : IsPart vu hi)
    (h : sliC x lo hi = some d) : ∃ T id, typeLookup (.type T) "__getitem__" = pure (some (.builtin id)) ∧ s.TypeIs u T ∧ wpAny (model X.prog X.w) X.A (getItem u (.ref sl)) (PN X pins σ H d) X.xe s := by
  have up : (∃ T id, typeLookup (.type T) "__getitem__" = pure (some (.builtin id)) ∧ s.TypeIs u T ∧ wpAny (model X.prog X.w) X.A (getItem u (.ref sl)) (EP X pins σ (QN X H d)) X.xe s) →
      ∃ T id, typeLookup (.type T) "__getitem__" = pure (some (.builtin id)) ∧ s.TypeIs u T ∧ wpAny (model X.prog X.w) X.A (getItem u (.ref sl)) (PN X pins σ H d) X.xe s := fun ⟨T, id, h1, h2, h3⟩ =>
    ⟨T, id, h1, h2, thn h3 fun _ _ q => PN.of q⟩
  match x, h with
  | .lst o xs, h =>
    simp only [sliC] at h
    split at h <;> cases h
    obtain ⟨a, vs, rfl, e, r⟩ := kx.list
    exact up (sl_list pins s σ H (.ref a) u vl vu lo hi sl _ I rv hs pl pu ⟨a, vs, rfl, .inl e, fun p hp => QN.lst (cut_rz r) hp⟩)
  | .tup xs, h =>
    simp only [sliC] at h
    split at h <;> cases h
    obtain ⟨a, vs, rfl, e, r⟩ := kx.tup
    refine up (sl_tupA pins s σ H (.ref a) u vl vu lo hi sl _ I rv hs pl pu ⟨a, vs, rfl, e, fun hw => ?_, fun _ p hp => QN.tup (cut_rz r) hp⟩)
    have hc : cutD xs lo hi = xs := by
      unfold cutD
      rw [← r.length] at hw
      rw [hw.1, hw.2, List.drop_zero, Nat.sub_zero, List.take_length]
    rw [hc]
    exact QN.of (.tup e r)
  | .str z, h =>
    simp only [sliC] at h
    split at h <;> cases h
    rename_i hl
    cases kx.str_inv
    exact up (sl_str pins s σ H (.str z) u vl vu lo hi sl _ I rv hs pl pu ⟨z, rfl, line_le hl, QN.str _⟩)
theorem se_sli {a : PySem.Expr} {lo hi : Option PySem.Expr} {A L R : Ev} {p2 pos : Pos} (ha : SE X a A) (hl : SP' X lo L) (hh : SP' X hi R) : SE X (.Subscript a (.Slice lo hi none p2) pos) (fSli A L R) := by
  intro pins s σ H env O I r
  refine Gl'.of (goal' := fun Q => wpAny (model X.prog X.w) X.A (eval a X.env) (fun u s1 => wpAny (model X.prog X.w) X.A (evalPart lo X.env) (fun w s2 => wpAny (model X.prog X.w) X.A (evalPart hi X.env) (fun z s3 =>
      wpAny (model X.prog X.w) X.A (subscriptTail a (.Slice lo hi none p2) u (.ref s3.heap.objs.size)) Q X.xe { s3 with heap := s3.heap.push { cls := .type "slice", data := .fields #[w, z, .none] } }) X.xe s2) X.xe s1) X.xe s)
    (fun Q h => Subscript_ (thn h fun u s1 h1 => wpAny_Slice (thn h1 fun w s2 h2 => thn h2 fun z s3 h3 => by rw [evalPart_none]; exact wpAny_pure h3)))
    (Gl'.seq (REST := fun Q u s1 => wpAny (model X.prog X.w) X.A (evalPart lo X.env) (fun w s2 => wpAny (model X.prog X.w) X.A (evalPart hi X.env) (fun z s3 =>
      wpAny (model X.prog X.w) X.A (subscriptTail a (.Slice lo hi none p2) u (.ref s3.heap.objs.size)) Q X.xe { s3 with heap := s3.heap.push { cls := .type "slice", data := .fields #[w, z, .none] } }) X.xe s2) X.xe s1) (ha pins s σ H env O I r) fun p u s1 hp => ?_)
  obtain ⟨v, H1, O1, B, st, rv, ro, dj, sb⟩ := hp
  refine Gl'.seq (REST := fun Q w s2 => wpAny (model X.prog X.w) X.A (evalPart hi X.env) (fun z s3 =>
      wpAny (model X.prog X.w) X.A (subscriptTail a (.Slice lo hi none p2) u (.ref s3.heap.objs.size)) Q X.xe { s3 with heap := s3.heap.push { cls := .type "slice", data := .fields #[w, z, .none] } }) X.xe s2) (hl pins s1 σ H1 p.2 O1 st.inv st.re) fun q w s2 hq => ?_
  obtain ⟨x, H2, O2, C, T⟩ := PostO.two st rv ro dj sb hq
  refine Gl'.seq (REST := fun Q z s3 => wpAny (model X.prog X.w) X.A (subscriptTail a (.Slice lo hi none p2) u (.ref s3.heap.objs.size)) Q X.xe { s3 with heap := s3.heap.push { cls := .type "slice", data := .fields #[w, z, .none] } }) (hh pins s2 σ H2 q.2 O2 T.st.inv T.st.re) fun t z s3 ht => ?_
  obtain ⟨y, H3, O3, E, st3, ry, roy, djy, sby⟩ := ht
  have o1 := st3.ext.keepO T.st.re.own T.o1 T.d1
  have o2 := st3.ext.keepO T.st.re.own T.o2 T.d2
  have d13 := dis_sub T.d1 T.o1.own st3.sub
  have d23 := dis_sub T.d2 T.o2.own st3.sub
  have d1y := dis_sub T.d1 T.o1.own sby
  have st' := T.st.trans st3
  show Gl' _ (match p.1.rdk t.2 with | some (x, e) => (match q.1.rd e, t.1.rd e with | some l, some h => ofD (sliD x l h) e | _, _ => .bad) | none => .bad) _
  cases e1 : p.1.rdk t.2 with
  | none => exact True.intro
  | some zz =>
    obtain ⟨d, e⟩ := zz
    obtain ⟨H4, O4, I4, x4, f4, s4, r4, k4⟩ := rdk_ok st'.inv st'.re o1 d13 e1
    have own : ∀ a ∈ O3 ++ B, ∃ u, H3 a = some u ∧ Ow u = true := fun a ha => (List.mem_append.mp ha).elim (st'.re.own a) (o1.own a)
    have o2' := x4.keepO own o2 (Dis.appR d23 (Dis.symm T.d3))
    have oy' := x4.keepO own roy (Dis.appR djy (Dis.symm d1y))
    have st4 := st'.drop T.s1 I4 r4 x4 (.of fun a h => by simp [s4 a h])
    show Gl' _ (match q.1.rd e, t.1.rd e with | some l, some h => ofD (sliD d l h) e | _, _ => .bad) _
    cases e2 : q.1.rd e with
    | none => exact True.intro
    | some l =>
      cases e3 : t.1.rd e with
      | none => exact True.intro
      | some h =>
        show Gl' _ (ofD (sliD d l h) e) _
        cases e4 : optI l with
        | none => simp only [sliD, e4]; exact True.intro
        | some lo' =>
          cases e5 : optI h with
          | none => simp only [sliD, e4, e5]; exact True.intro
          | some hi' =>
            have pl := part_ok (RO.rd r4 o2' e2) T.r2 e4
            have pu := part_ok (RO.rd r4 oy' e3) ry e5
            have I5 : Inv X pins σ H4 { s3 with heap := s3.heap.push { cls := .type "slice", data := .fields #[w, z, .none] } } := I4.kept (t' := s3.toks) fun b ob q => Heap.get?_push_of_some _ q
            refine ofD_ok (s1 := { s3 with heap := s3.heap.push { cls := .type "slice", data := .fields #[w, z, .none] } }) ⟨I5, st4.re, st4.ext, st4.sub⟩ fun dd hd => ?_
            simp only [sliD, e4, e5] at hd
            obtain ⟨Ty, id, hT, ht, hg⟩ := sli_ok I5 k4 T.r1 (Heap.IsSliceOf.new s3.heap w z .none) pl pu hd
            exact tail_any (ops := [.ref s3.heap.objs.size, u]) ht hT hg (by with_unfolding_all rfl)
end
end Z

set_option Elab.async false
set_option linter.all false
set_option maxRecDepth 100000
set_option maxHeartbeats 1000000
namespace Z
open PySem L2 PyProof.Rows
section
variable {X : Cx} {pins : List (Addr × Obj)} {σ : L2.St} {s s' : Shared}
/-! ## x[::-1] -/
def revE (a : PySem.Expr) (k : Nat) (p1 p2 p3 pos : Pos) : PySem.Expr := .Subscript a (.Slice none none (some (.UnaryOp .USub (.Constant (.int 1) k p1) p2)) p3) pos
theorem str_rev (z : Str) : (Builtin.Str.strSliceIndices none none (-1) z.length).filterMap (z.cps[·]?) = z.cps.toList.reverse := by
  have e : Builtin.Str.strSliceIndices none none (-1) z.length = (List.range z.cps.size).reverse := by
    have h1 := PySem.W.krv_sliceRange z.length
    rw [PySem.W.krv_range] at h1
    exact h1
  rw [e, List.filterMap_reverse, PySem.W.krv_all]
def revSl (k : Nat) (p1 p2 p3 : Pos) : PySem.Expr := .Slice none none (some (.UnaryOp .USub (.Constant (.int 1) k p1) p2)) p3
theorem eval_rev {k : Nat} {p1 p2 p3 : Pos} {H : Hp} {Q : Value → Shared → Prop} (I : Inv X pins σ H s) (h : ∀ (t : Tok) (s2 : Shared), Inv X pins σ H s2 → s2.heap.IsSliceOf (s2.heap.objs.size - 1) .none .none (.int (-1) t) → Q (.ref (s2.heap.objs.size - 1)) s2) :
    wpAny (model X.prog X.w) X.A (eval (revSl k p1 p2 p3) X.env) Q X.xe s := by
  refine wpAny_Slice ?_
  rw [evalPart_none]
  refine wpAny_pure ?_
  refine wpAny_pure ?_
  rw [evalPart_some]
  refine UnaryOp_ (wpAny_Constant_int (neg_int ?_))
  have I2 : Inv X pins σ H { s with heap := s.heap.push { cls := .type "slice", data := .fields #[.none, .none, .int (-1) (s.toks + 1)] }, toks := s.toks + 1 + 1 } := I.kept fun b ob q => Heap.get?_push_of_some _ q
  have h2 := h (s.toks + 1) _ I2 (by
    show (s.heap.push _).IsSliceOf ((s.heap.push _).objs.size - 1) _ _ _
    rw [Heap.size_push]
    exact Heap.IsSliceOf.new s.heap .none .none _)
  have e : ({ s with heap := s.heap.push { cls := .type "slice", data := .fields #[.none, .none, .int (-1) (s.toks + 1)] }, toks := s.toks + 1 + 1 } : Shared).heap.objs.size - 1 = s.heap.objs.size := by
    show (s.heap.push _).objs.size - 1 = _
    rw [Heap.size_push]; rfl
  rw [e] at h2
  exact h2
theorem rev_ok {H : Hp} (I : Inv X pins σ H s) {a : PySem.Expr} {k : Nat} {p1 p2 p3 : Pos} {x d : D} {v : V} {u : Value} {sl : Addr} {t : Tok} (kx : XKz X H x v) (rv : RelV v u) (hs : s.heap.IsSliceOf sl .none .none (.int (-1) t)) (h : revD x = some d) :
    wpAny (model X.prog X.w) X.A (subscriptTail a (revSl k p1 p2 p3) u (.ref sl)) (PN X pins σ H d) X.xe s := by
  match x, h with
  | .lst o xs, h =>
    simp only [revD] at h
    split at h <;> cases h
    obtain ⟨l, vs, rfl, e, r⟩ := kx.list
    cases rv
    obtain ⟨its, rr, ht, hz⟩ := I.list (.inl e)
    have hlen := rr.length
    refine tail_any (ops := [.ref l, .ref sl]) ht.isList.typeIs (PySem.slot_list_getitem.lookup) ?_ (by with_unfolding_all rfl)
    refine wpAny_getItem_list_slice ht.isList hs .none .none (.int (-1) t) (by decide) ?_ (by rw [List.size_toArray]; omega)
    rw [PySem.W.krv_pick]
    have hp : H s.heap.objs.size = none := I.hok.fresh (Nat.le_refl _)
    exact PN.of ⟨.ref _, _, I.laid (t' := s.toks) (o := .lst vs.reverse) (fun b ob q => Heap.get?_push_of_some _ q) (Nat.le_refl _) ⟨by rw [List.length_reverse]; exact hz, _, 0, rr.reverse, Heap.get?_push_size _ rfl⟩, rfl, QN.lst r.rev hp⟩
  | .str z, h =>
    simp only [revD] at h
    split at h <;> cases h
    rename_i hl
    cases kx.str_inv
    obtain ⟨t', rfl⟩ := rv
    refine tail_any (ops := [.str z t', .ref sl]) (typeIs_str _ _ _) F.slot_str_getitem.lookup ?_ (by with_unfolding_all rfl)
    refine wpAny_getItem_str_slice (l := none) (u := none) (st := some (-1, t)) hs rfl ?_
    unfold sliceMade slicePicked
    have e2 : ((Builtin.Str.strSliceIndices ((none : Option (Int × Tok)).map (·.1)) ((none : Option (Int × Tok)).map (·.1)) (((some ((-1 : Int), t)).map (·.1)).getD 1) z.length).filterMap (z.cps[·]?)) = z.cps.toList.reverse := str_rev z
    rw [e2]
    simp only [Option.map_some, Option.getD_some, show ((-1 : Int) == 1) = false from rfl, Bool.false_and, Bool.false_eq_true, if_false]
    have e3 : (⟨z.cps.toList.reverse.toArray⟩ : Str) = ⟨z.cps.reverse⟩ := by
      congr 1
      rw [← Array.toList_reverse]
    rw [e3]
    have hl2 : (⟨z.cps.reverse⟩ : Str).length ≤ sizeLine := by
      show z.cps.reverse.size ≤ _
      rw [Array.size_reverse]; exact line_le hl
    exact ⟨hl2, PN.kept (v := .str ⟨z.cps.reverse⟩) (I.tok _) ⟨_, rfl⟩ (.str _)⟩
theorem se_rev {a : PySem.Expr} {A : Ev} {k : Nat} {p1 p2 p3 pos : Pos} (ha : SE X a A) : SE X (.Subscript a (revSl k p1 p2 p3) pos) (fRev A) := by
  intro pins s σ H env O I r
  refine Gl'.of (goal' := fun Q => wpAny (model X.prog X.w) X.A (eval a X.env) (fun u s1 => wpAny (model X.prog X.w) X.A (eval (revSl k p1 p2 p3) X.env) (fun i s2 => wpAny (model X.prog X.w) X.A (subscriptTail a (revSl k p1 p2 p3) u i) Q X.xe s2) X.xe s1) X.xe s) (fun Q h => Subscript_ h)
    (Gl'.seq (REST := fun Q u s1 => wpAny (model X.prog X.w) X.A (eval (revSl k p1 p2 p3) X.env) (fun i s2 => wpAny (model X.prog X.w) X.A (subscriptTail a (revSl k p1 p2 p3) u i) Q X.xe s2) X.xe s1) (ha pins s σ H env O I r) fun p u s1 hp => ?_)
  obtain ⟨v, H1, O1, B, st, rv, ro, dj, sb⟩ := hp
  cases e1 : p.1.rdk p.2 with
  | none => exact True.intro
  | some z =>
    obtain ⟨d, e⟩ := z
    obtain ⟨H2, O2, I2, x2, f2, s2, r2, k2⟩ := rdk_ok st.inv st.re ro dj e1
    have st2 := st.drop sb I2 r2 x2 (.of fun a h => by simp [s2 a h])
    show Gl' _ (ofD (revD d) e) _
    cases e2 : revD d with
    | none => exact True.intro
    | some y =>
      refine eval_rev I2 fun t s3 I3 hs => ?_
      exact thn (rev_ok I3 k2 rv hs e2) fun r s' q => PostO.val ⟨I3, st2.re, st2.ext, st2.sub⟩ q
/-! ## methods of built-in types -/
def notSup : PySem.Expr → Bool | .Call (.Name _ _) [] [] _ => false | _ => true
theorem base_of {o : PySem.Expr} {name : Str} {env : PySem.Env} {whole : Sem Value} (h : notSup o = true) : attributeBase o name env whole = whole := by
  cases o with
  | Call f as ks p =>
    cases f with
    | Name id q =>
      cases as with
      | nil => cases ks with
        | nil => cases h
        | cons _ _ => rfl
      | cons _ _ => rfl
    | _ => rfl
  | _ => rfl
/-- a method: the type's, and what it does by values -/
structure MtOk (X : Cx) (m : Met) (name : Str) (T id : String) : Prop where
  pa : PlainAttrs T
  slot : Slot T name id
  ty : typeOf (.builtin id) = pure (.type "method_descriptor")
  run : ∀ (pins : List (Addr × Obj)) (s : Shared) (σ : L2.St) (H : Hp) (x d : D) (ds : List D) (v : V) (vs : List V) (u : Value) (us : List Value), Inv X pins σ H s → XKz X H x v → Paired (XKz X H) ds vs → RelV v u → Vals vs us → x.ty = some T → metD m x ds = some d →
    wpAny (model X.prog X.w) X.A (call (.builtin id) (u :: us)) (PN X pins σ H d) X.xe s
theorem Vw.tyIs {H : Hp} (I : Inv X pins σ H s) {d : D} {v : V} {u : Value} {T : String} (k : XVw X H d v) (rv : RelV v u) (h : d.ty = some T) (ht : T ≠ "tuple") (hb : T ≠ "bool") (hn : T ≠ "NoneType") : s.TypeIs u T ∧ ∀ a, u = .ref a → ∃ ob, s.heap.get? a = some ob ∧ ob.dict = none := by
  cases k with
  | non => cases h; exact absurd rfl hn
  | bl b => cases h; exact absurd rfl hb
  | int i => cases h; obtain ⟨t, rfl⟩ := rv; exact ⟨typeIs_int s i t, fun _ e => nomatch e⟩
  | str i => cases h; obtain ⟨t, rfl⟩ := rv; exact ⟨typeIs_str s i t, fun _ e => nomatch e⟩
  | clo e => cases h
  | tup => cases h; exact absurd rfl ht
  | lst o e r =>
    cases h; cases rv
    obtain ⟨its, n, _, e1, _⟩ := Vw.isList I e
    exact ⟨⟨_, e1, rfl⟩, fun a z => by cases z; exact ⟨_, e1, rfl⟩⟩
  | dic o e d n q rk r =>
    cases h; cases rv
    have ok := e.ok I.hok
    cases d with
    | k es =>
      obtain ⟨_, _, _, _, o, _, _, e1, ex, _⟩ := ok
      exact ⟨⟨o, e1, ex.1⟩, fun a z => by cases z; exact ⟨o, e1, ex.2.1⟩⟩
    | t es =>
      obtain ⟨⟨_, _, _, _, _, o, _, _, e1, ex, _⟩, _⟩ := ok
      exact ⟨⟨o, e1, ex.1⟩, fun a z => by cases z; exact ⟨o, e1, ex.2.1⟩⟩
theorem few_of {cpos : Pos} {env : PySem.Env} : ∀ {es : List PySem.Expr}, noStar es = true → (backTo cpos (starEach es env)).all (fun x => !x.1) = true
  | [], _ => rfl
  | e :: es, h => by
    simp only [noStar, Bool.and_eq_true, Bool.not_eq_true'] at h
    rw [starEach_cons h.1]
    show (true && (backTo cpos (starEach es env)).all _) = true
    rw [few_of h.2]; rfl
theorem met_fin {m : Met} {name : Str} {T id : String} (mo : MtOk X m name T id) {H H1 : Hp} {O O1 C : List Addr} {p1 : Opd} {p2 e : Env} {s1 s2 : Shared} {v : V} {u : Value} {q : List Opd × Env} {us : List Value} {x d : D} {ds : List D}
    (st : Stp X pins σ H O p2 s1 H1 O1) (rv : RelV v u) (ro : XRO X H1 σ p1 v C) (dj : Dis C O1) (sb : Sub H O C) (hq : PostOs X pins σ H1 O1 q us s2) (e1 : rdks (p1 :: q.1) q.2 = some (x :: ds, e)) (hTx : x.ty = some T) (e2 : metD m x ds = some d) :
    wpAny (model X.prog X.w) X.A (call (.builtin id) (u :: us)) (PostO X pins σ H O (.val d, e)) X.xe s2 := by
  obtain ⟨vs, H2, O2, C2, st2, rvs, ros, dj2, sb2⟩ := hq
  have ro' := st2.ext.keepO st.re.own ro dj
  have os : XROs X H2 σ (p1 :: q.1) (v :: vs) (C ++ C2) := .cons ro' ros (dis_sub dj ro.own sb2)
  obtain ⟨H3, O3, I3, x3, f3, s3, r3, k3⟩ := rdks_ok st2.inv st2.re os (Dis.appL (dis_sub dj ro.own st2.sub) dj2) e1
  have st' := st.trans st2
  have st3 := st'.drop (sb.app (st.old sb2)) I3 r3 x3 (.of fun a h => by simp [s3 a h])
  cases k3 with
  | cons k1 k2 => exact thn (mo.run pins s2 σ H3 x d ds v vs u us I3 k1 k2 rv rvs hTx e2) fun r s' q => PostO.val st3 q
/-- which methods there are: by their types -/
structure MtAll (X : Cx) (m : Met) (name : Str) : Prop where
  nc : ∀ x d ds, x.ty = none → metD m x ds = some d → False
  has : ∀ T x d ds, x.ty = some T → metD m x ds = some d → T ≠ "tuple" ∧ T ≠ "bool" ∧ T ≠ "NoneType" ∧ ∃ id, MtOk X m name T id
theorem met_pre {m : Met} {name : Str} (hm : MtAll X m name) {H1 : Hp} {s1 : Shared} {x0 x d : D} {ds : List D} {v : V} {u : Value} (I : Inv X pins σ H1 s1) (vw0 : XVw X H1 x0 v) (rv : RelV v u) (hty : x.ty = x0.ty) (e2 : metD m x ds = some d) :
    ∃ T id, x.ty = some T ∧ MtOk X m name T id ∧ s1.TypeIs u T ∧ ∀ a, u = .ref a → ∃ ob, s1.heap.get? a = some ob ∧ ob.dict = none := by
  have hnc : ∀ y, x0 ≠ .clo y [] := fun y z => by
    rw [z] at hty
    have : x.ty = none := hty
    exact hm.nc x d ds this e2
  obtain ⟨T, hT⟩ := vw0.tyE hnc
  have hTx : x.ty = some T := hty.trans hT
  obtain ⟨h1, h2, h3, id, mo⟩ := hm.has T x d ds hTx e2
  obtain ⟨t1, t2⟩ := Vw.tyIs I vw0 rv hT h1 h2 h3
  exact ⟨T, id, hTx, mo, t1, t2⟩
theorem met_goal {m : Met} {A : Ev} {B : Evs} {env : Env} {P : Opd × Env → Value → Shared → Prop} {p : Opd × Env} {goal : (Value → Shared → Prop) → Prop}
    (h : ∀ x0 q x ds e d, p.1.rd p.2 = some x0 → B p.2 = .ok q → rdks (p.1 :: q.1) q.2 = some (x :: ds, e) → x.ty = x0.ty → metD m x ds = some d → goal (P (.val d, e))) :
    Gl' P (match p.1.rd p.2 with
    | some x0 => (B p.2).bind fun q => (match rdks (p.1 :: q.1) q.2 with
      | some (x :: ds, e) => if x.ty = x0.ty then ofD (metD m x ds) e else .bad
      | _ => .bad)
    | none => .bad) goal := by
  cases e0 : p.1.rd p.2 with
  | none => exact True.intro
  | some x0 =>
    cases eB : B p.2 with
    | exc y e => exact True.intro
    | bad => exact True.intro
    | ok q =>
      show Gl' _ (match rdks (p.1 :: q.1) q.2 with | some (x :: ds, e) => if x.ty = x0.ty then ofD (metD m x ds) e else .bad | _ => .bad) _
      cases e1 : rdks (p.1 :: q.1) q.2 with
      | none => exact True.intro
      | some z =>
        obtain ⟨dd, e⟩ := z
        cases dd with
        | nil => exact True.intro
        | cons x ds =>
          show Gl' _ (if x.ty = x0.ty then ofD (metD m x ds) e else .bad) _
          split
          case isFalse => exact True.intro
          case isTrue hty =>
          cases e2 : metD m x ds with
          | none => exact True.intro
          | some d => exact h x0 q x ds e d e0 eB e1 hty e2
theorem se_met {m : Met} {name : Str} {o e' : PySem.Expr} {es : List PySem.Expr} {A : Ev} {B : Evs} {apos cpos : Pos} (hm : MtAll X m name) (hsup : notSup o = true) (hline : (apos.endLine == cpos.line) = true) (hn : noStar (e' :: es) = true) (hl : (e' :: es).length < 30)
    (ha : SE X o A) (hb : SA X (e' :: es) B) : SE X (.Call (.Attribute o name apos) (e' :: es) [] cpos) (fMet m A B) := by
  intro pins s σ H env O I r
  have few : ((backTo cpos (starEach (e' :: es) X.env)).all (fun x => !x.1) && (backToKw cpos (keywordEach [] X.env)).all (fun x => x.1.isSome) && decide ((e' :: es).length + ([] : List Keyword).length + (if ([] : List Keyword).isEmpty then 0 else 1) < 30)) = true := by
    rw [few_of hn]
    show (true && true && decide ((e' :: es).length + 0 + 0 < 30)) = true
    simpa using hl
  refine Gl'.of (goal' := fun Q => wpAny (model X.prog X.w) X.A (eval o X.env) (fun ov s1 => MethodOn X.prog X.w X.A name cpos ov (backTo cpos (starEach (e' :: es) X.env)) Q X.xe s1) X.xe s) (fun Q h => wpAny_Call_method_late (base_of hsup) few hline rfl h)
    (Gl'.seq (REST := fun Q ov s1 => MethodOn X.prog X.w X.A name cpos ov (backTo cpos (starEach (e' :: es) X.env)) Q X.xe s1) (ha pins s σ H env O I r) fun p u s1 hp => ?_)
  obtain ⟨v, H1, O1, C, st, rv, ro, dj, sb⟩ := hp
  refine met_goal (A := A) (env := env) fun x0 q x ds e d e0 eB e1 hty e2 => ?_
  obtain ⟨T, id, hTx, mo, t1, t2⟩ := met_pre hm st.inv (RO.rd st.re ro e0) rv hty e2
  refine ⟨T, id, mo.pa, mo.slot, mo.ty, t1, t2, Calls.callWith_builtin (noStar_any hn) ?_⟩
  have h4 := hb cpos pins s1 σ H1 p.2 O1 st.inv st.re
  rw [eB] at h4
  have h4 : wpAny (model X.prog X.w) X.A (spliced (backTo cpos (starEach (e' :: es) X.env))) (PostOs X pins σ H1 O1 q) X.xe s1 := h4
  have hn' := hn
  simp only [noStar, Bool.and_eq_true, Bool.not_eq_true'] at hn'
  rw [starEach_cons hn'.1] at h4 ⊢
  exact Calls.evalArgs_plain (thn h4 fun us s2 hq => met_fin mo st rv ro dj sb hq e1 hTx e2)
theorem se_met0 {m : Met} {name : Str} {o : PySem.Expr} {A : Ev} {apos cpos : Pos} (hm : MtAll X m name) (hsup : notSup o = true) (hline : (apos.endLine == cpos.line) = true) (ha : SE X o A) : SE X (.Call (.Attribute o name apos) [] [] cpos) (fMet m A fun env => .ok ([], env)) := by
  intro pins s σ H env O I r
  refine Gl'.of (goal' := fun Q => wpAny (model X.prog X.w) X.A (eval o X.env) (fun ov s1 => MethodOn X.prog X.w X.A name cpos ov [] Q X.xe s1) X.xe s) (fun Q h => wpAny_Call_method0_late (base_of hsup) hline h)
    (Gl'.seq (REST := fun Q ov s1 => MethodOn X.prog X.w X.A name cpos ov [] Q X.xe s1) (ha pins s σ H env O I r) fun p u s1 hp => ?_)
  obtain ⟨v, H1, O1, C, st, rv, ro, dj, sb⟩ := hp
  refine met_goal (A := A) (B := fun env => .ok ([], env)) (env := env) fun x0 q x ds e d e0 eB e1 hty e2 => ?_
  obtain ⟨T, id, hTx, mo, t1, t2⟩ := met_pre hm st.inv (RO.rd st.re ro e0) rv hty e2
  cases eB
  exact ⟨T, id, mo.pa, mo.slot, mo.ty, t1, t2, Calls.callWith_builtin rfl (PySem.evalArgs_none (met_fin mo st rv ro dj sb ⟨[], H1, O1, [], Stp.refl st.inv st.re, .nil, .nil, Dis.nil, Sub.nil⟩ e1 hTx e2))⟩
theorem mta_upper : MtAll X .upper "upper" := ⟨fun x d ds h1 h2 => by cases x <;> simp [D.ty] at h1 <;> simp [metD] at h2, fun T x d ds h1 h2 => by
  match x, ds, h2 with
  | .str z, [], h2 =>
    cases h1
    refine ⟨by decide, by decide, by decide, "str.upper", PySem.F.plainAttrs_str, PySem.F.slot_str_upper, PySem.F.type_str_upper, fun pins s σ H x d ds v vs u us I k1 k2 rv rvs hT h => ?_⟩
    match x, ds, h with
    | .str z, [], h =>
      simp only [metD] at h
      split at h <;> cases h
      rename_i hl
      cases k1.str_inv
      cases k2
      refine thn (mt_upper pins s σ H (.str z) [] u us (fun v' H' => v' = .str (Txt.upper z) ∧ H' = H) I rv rvs ⟨z, rfl, rfl, by omega, rfl, rfl⟩) fun r s' ⟨v', H', I', r', z1, z2⟩ => ?_
      subst z1 z2
      exact PN.kept I' r' (.str _)⟩
theorem mta_join : MtAll X .join "join" := ⟨fun x d ds h1 h2 => by cases x <;> simp [D.ty] at h1 <;> simp [metD] at h2, fun T x d ds h1 h2 => by
  match x, ds, h2 with
  | .str z, [.lst o ys], h2 =>
    cases h1
    refine ⟨by decide, by decide, by decide, "str.join", PySem.F.plainAttrs_str, PySem.F.slot_str_join, PySem.F.type_str_join, fun pins s σ H x d ds v vs u us I k1 k2 rv rvs hT h => ?_⟩
    match x, ds, h with
    | .str z, [.lst o ys], h =>
      simp only [metD] at h
      split at h
      case h_2 => cases h
      rename_i ts hts
      split at h <;> cases h
      rename_i hl
      cases k1.str_inv
      cases k2 with
      | cons k2 k3 =>
        cases k3
        obtain ⟨a, ws, rfl, e, r⟩ := k2.list
        rw [strs_ok hts r.vw] at e
        refine thn (mt_join pins s σ H (.str z) [.ref a] u us (fun v' H' => v' = .str (Txt.join z ts) ∧ H' = H) I rv rvs ⟨z, a, ts, rfl, rfl, .inl (.inl e), Nat.le_trans hl (by decide), rfl, rfl⟩) fun r s' ⟨v', H', I', r', z1, z2⟩ => ?_
        subst z1 z2
        exact PN.kept I' r' (.str _)⟩
end
end Z

set_option Elab.async false
set_option linter.all false
set_option maxRecDepth 100000
set_option maxHeartbeats 1000000
namespace Z
open PySem L2 PyProof.Rows
/-! ## judgements as readings -/
def tZ (X : Cx) (A : Ev) : TE := fun σ H Q => ∃ env O p, XRE X H env σ O ∧ A env = .ok p ∧ ∀ v H' O' B, XRE X H' p.2 σ O' → XRO X H' σ p.1 v B → Dis B O' → Ext O H H' → Sub H O O' → Sub H O B → Q v H'
def tTake (X : Cx) (A : Ev) : TE := fun σ H Q => ∃ env O p, XRE X H env σ O ∧ taken A env = .ok p ∧ ∀ v H' O' B, XRE X H' p.2 σ O' → XRz X H' p.1 v B → Dis B O' → Ext O H H' → Sub H O O' → Sub H O B → Q v H'
def tFix (X : Cx) (A : Ev) : TE := fun σ H Q => ∃ env O p, XRE X H env σ O ∧ fixed A env = .ok p ∧ ∀ v H' O', XRE X H' p.2 σ O' → XRz X H' p.1 v [] → Ext O H H' → Sub H O O' → Q v H'
def tT (X : Cx) (A : Ev) : TT := fun σ H Q => ∃ env O q, XRE X H env σ O ∧ tst A env = .ok q ∧ ∀ H' O', XRE X H' q.2 σ O' → Ext O H H' → Sub H O O' → Q q.1 H'
section
variable {X : Cx} {pins : List (Addr × Obj)} {σ : L2.St} {s s' : Shared}
theorem SE.pe {e : PySem.Expr} {A : Ev} (h : SE X e A) : PE X e (tZ X A) := by
  refine ⟨fun pins s σ H Q I hq => ?_⟩
  obtain ⟨env, O, p, r, e1, q⟩ := hq
  have h1 := h pins s σ H env O I r
  rw [e1] at h1
  exact thn h1 fun u s1 ⟨v, H', O', B, st, rv, ro, dj, sb⟩ => ⟨v, H', st.inv, rv, q v H' O' B st.re ro dj st.ext st.sub sb⟩
theorem SE.take {e : PySem.Expr} {A : Ev} (h : SE X e A) : PE X e (tTake X A) := by
  refine ⟨fun pins s σ H Q I hq => ?_⟩
  obtain ⟨env, O, p, r, e1, q⟩ := hq
  have h1 := h pins s σ H env O I r
  unfold taken at e1
  cases e2 : A env with
  | exc x e => rw [e2] at e1; cases e1
  | bad => rw [e2] at e1; cases e1
  | ok p0 =>
    rw [e2] at e1 h1
    have e1 : (match p0.1.take p0.2 with | some q => R.ok q | none => .bad) = .ok p := e1
    cases e3 : p0.1.take p0.2 with
    | none => rw [e3] at e1; cases e1
    | some q0 =>
      rw [e3] at e1; cases e1
      refine thn h1 fun u s1 ⟨v, H', O', B, st, rv, ro, dj, sb⟩ => ?_
      obtain ⟨H2, O2, B2, G, r2, q2, dj2, sb2⟩ := take_ok (d := p.1) (env' := p.2) st.inv st.re ro dj e3
      have st2 : Stp X pins σ H O p.2 s1 H2 O2 := st.trans ⟨G.inv, r2, G.ext, .of G.sub⟩
      exact ⟨v, H2, st2.inv, rv, q v H2 O2 B2 r2 q2 dj2 st2.ext st2.sub fun a ha => sb a (sb2 a ha)⟩
/-- a thing that is to stand still, behind its expression -/
theorem SE.fix {e : PySem.Expr} {A : Ev} (h : SE X e A) {pins : List (Addr × Obj)} {s : Shared} {σ : L2.St} {H : Hp} {env : Env} {O : List Addr} (I : Inv X pins σ H s) (r : XRE X H env σ O) :
    Gl' (fun (p : D × Env) u s' => ∃ v H' O', Stp X pins σ H O p.2 s' H' O' ∧ RelV v u ∧ XRz X H' p.1 v []) (fixed A env) fun Q => wpAny (model X.prog X.w) X.A (eval e X.env) Q X.xe s := by
  refine Gl'.seq (REST := fun Q u s1 => Q u s1) (h pins s σ H env O I r) fun p u s1 hp => ?_
  obtain ⟨v, H1, O1, B, st, rv, ro, dj, sb⟩ := hp
  cases e1 : p.1.fix p.2 with
  | none => exact True.intro
  | some q =>
    obtain ⟨H2, O2, I2, x2, f2, s2, r2, q2⟩ := fix_ok (d := q.1) (env' := q.2) st.inv st.re ro dj e1
    exact ⟨v, H2, O2, st.drop sb I2 r2 x2 (.of fun a h => by simp [s2 a h]), rv, q2⟩
theorem ST.pt {e : PySem.Expr} {A : Ev} (h : ST X e A) : PT X e (tT X A) := by
  refine ⟨fun pins s σ H Q I hq => ?_⟩
  obtain ⟨env, O, p, r, e1, q⟩ := hq
  have h1 := h _ pins s σ H env O (.inl rfl) I r
  rw [e1] at h1
  exact thn h1 fun b s1 ⟨e2, H', O', st⟩ => ⟨H', st.inv, by rw [e2]; exact q H' O' st.re st.ext st.sub⟩
/-! ## what is walked -/
/-- the walk's items, while tuples and what is frozen stand -/
def ItZ (X : Cx) (J : It) (xs : List D) (H : Hp) : Prop := ∀ H2, (∀ a u, H a = some u → Prs u = true → H2 a = some u) → ∀ i,
  (∀ d, xs[i]? = some d → J.go i H2 ∧ ∀ x H3, J.yld i H2 x H3 → XRz X H3 d x [] ∧ ∀ a u, H2 a = some u → H3 a = some u) ∧ (xs.length ≤ i → J.stop i H2)
theorem ItZ.mono {J : It} {xs : List D} {H H' : Hp} (h : ItZ X J xs H) (k : ∀ a u, H a = some u → Prs u = true → H' a = some u) : ItZ X J xs H' := fun H2 k2 => h H2 fun a u e p => k2 a u (k a u e p) p
def PostI (X : Cx) (pins : List (Addr × Obj)) (σ : L2.St) (tg : PySem.Expr) (H : Hp) (O : List Addr) (p : List D × Env) (itv : Value) (s2 : Shared) : Prop :=
  ∃ (it : Addr) (fp : List Addr) (tn : Nat → Heap → Prop) (J : It) (H' : Hp) (O' : List Addr), itv = .ref it ∧ Stp X pins σ H O p.2 s2 H' O' ∧ Turn X.prog X.w X.K tg J fp it tn ∧ tn 0 s2.heap ∧ (∀ b ∈ fp, FpOk X pins H' b) ∧ ItZ X J p.1 H'
def SI (X : Cx) (iter : PySem.Expr) (F : Ei) : Prop := ∀ (tg : PySem.Expr) (pins : List (Addr × Obj)) (s : Shared) (σ : L2.St) (H : Hp) (env : Env) (O : List Addr), Inv X pins σ H s → XRE X H env σ O →
  Gl' (PostI X pins σ tg H O) (F env) fun Q => wpAny (model X.prog X.w) X.A (eval iter X.env) (fun v s1 => wpAny (model X.prog X.w) X.A (pyIter v) Q X.xe s1) X.xe s
def iZ (X : Cx) (F : Ei) : TI := fun σ H R => ∃ env O p, XRE X H env σ O ∧ F env = .ok p ∧ ∀ J H' O', ItZ X J p.1 H' → XRE X H' p.2 σ O' → Ext O H H' → Sub H O O' → R J H'
theorem SI.pi {iter : PySem.Expr} {F : Ei} (h : SI X iter F) (tg : PySem.Expr) : PI X tg iter (iZ X F) := by
  refine ⟨fun pins s σ H R I hq => ?_⟩
  obtain ⟨env, O, p, r, e1, q⟩ := hq
  have h1 := h tg pins s σ H env O I r
  rw [e1] at h1
  exact thn h1 fun v s1 h2 => thn h2 fun itv s2 ⟨it, fp, tn, J, H', O', e2, st, T, t0, f, z⟩ => ⟨it, fp, tn, J, H', e2, st.inv, T, t0, f, q J H' O' z st.re st.ext st.sub⟩
theorem Fz.sql {K : PySem.W.Frag} {H H2 : Hp} {a : Addr} {vs : List V} (h : Fz H a (.lst vs)) (k : ∀ a u, H a = some u → Prs u = true → H2 a = some u) : SqL K H2 a vs := by
  obtain ⟨o, e⟩ := h
  exact .inl (.inr ⟨o, k a _ e rfl⟩)
theorem rz_get {H : Hp} : ∀ {ds : List D} {vs : List V} {i : Nat} {v : V}, XRzL X H ds vs [] → vs[i]? = some v → ∃ d, ds[i]? = some d ∧ XRz X H d v []
  | [], vs, i, v, r, h => by cases r; simp at h
  | d :: ds, vs, i, v, r, h => by
    cases vs with
    | nil => cases r
    | cons w vs =>
      cases i with
      | zero => simp at h; subst h; exact ⟨d, rfl, r.inv.1⟩
      | succ i => simpa using rz_get r.inv.2 (by simpa using h)
theorem itz_list {H : Hp} {a : Addr} {ds : List D} {vs : List V} (e : Fz H a (.lst vs)) (r : XRzL X H ds vs []) : ItZ X (Itl X.K a) ds H := fun H2 k i => by
  have sq := e.sql (K := X.K) k
  refine ⟨fun d hd => ?_, fun hl => ⟨vs, sq, by rw [← r.length]; exact hl⟩⟩
  obtain ⟨v, hv, rv⟩ := r.get hd
  refine ⟨⟨vs, v, sq, hv⟩, fun x H3 y => ?_⟩
  obtain ⟨rfl, y⟩ := y
  have := y vs sq
  rw [hv] at this
  cases this
  exact ⟨rv.stay k (fun _ h => nomatch h), fun _ _ e => e⟩
theorem itz_tup {H : Hp} {a : Addr} {ds : List D} {vs : List V} (e : SqT X.K H a vs) (r : XRzL X H ds vs []) : ItZ X (Itt X.K a) ds H := fun H2 k i => by
  have sq : SqT X.K H2 a vs := SqT.stay e fun u => k a u
  refine ⟨fun d hd => ?_, fun hl => ⟨vs, sq, by rw [← r.length]; exact hl⟩⟩
  obtain ⟨v, hv, rv⟩ := r.get hd
  refine ⟨⟨vs, v, sq, hv⟩, fun x H3 y => ?_⟩
  obtain ⟨rfl, y⟩ := y
  have := y vs sq
  rw [hv] at this
  cases this
  exact ⟨rv.stay k (fun _ h => nomatch h), fun _ _ e => e⟩
theorem itz_str {H : Hp} {z : Str} : ItZ X (Its z) (z.cps.toList.map fun c => .str ⟨#[c]⟩) H := fun H2 k i => by
  refine ⟨fun d hd => ?_, fun hl => ?_⟩
  · rw [List.getElem?_map] at hd
    obtain ⟨c, hc, rfl⟩ := Option.map_eq_some_iff.mp hd
    have hi : i < z.cps.size := by
      have := (List.getElem?_eq_some_iff.mp hc).1
      simpa using this
    refine ⟨hi, fun x H3 y => ?_⟩
    obtain ⟨rfl, c', hc', rfl⟩ := y
    rw [Array.getElem?_toList] at hc
    rw [hc] at hc'; cases hc'
    exact ⟨.str _, fun _ _ e => e⟩
  · rw [List.length_map, Array.length_toList] at hl
    exact hl
theorem itz_range {H : Hp} {lo : Int} {n : Nat} : ItZ X (L2.Itr lo n) ((List.range n).map fun (i : Nat) => .int (lo + (i : Int))) H := fun H2 k i => by
  refine ⟨fun d hd => ?_, fun hl => ?_⟩
  · rw [List.getElem?_map] at hd
    obtain ⟨c, hc, rfl⟩ := Option.map_eq_some_iff.mp hd
    obtain ⟨h1, h2⟩ := List.getElem?_eq_some_iff.mp hc
    rw [List.getElem_range] at h2
    subst h2
    rw [List.length_range] at h1
    refine ⟨h1, fun x H3 y => ?_⟩
    obtain ⟨rfl, rfl⟩ := y
    exact ⟨.int _, fun _ _ e => e⟩
  · rw [List.length_map, List.length_range] at hl
    exact hl
theorem PostI.of {tg : PySem.Expr} {H H1 : Hp} {O O1 : List Addr} {e1 : Env} {s1 s2 : Shared} {xs : List D} {itv : Value} (st : Stp X pins σ H O e1 s1 H1 O1) (h : PIE X pins σ tg (fun J H' => H' = H1 ∧ ItZ X J xs H1) itv s2) : PostI X pins σ tg H O (xs, e1) itv s2 := by
  obtain ⟨it, fp, tn, J, H', e, I, T, t0, f, e2, z⟩ := h
  subst e2
  exact ⟨it, fp, tn, J, H', O1, e, ⟨I, st.re, st.ext, st.sub⟩, T, t0, f, z⟩
/-- a list, a tuple, a text -/
theorem si_ex {e : PySem.Expr} {A : Ev} (h : SE X e A) : SI X e (iEx A) := by
  intro tg pins s σ H env O I r
  refine Gl'.seq (REST := fun Q v s1 => wpAny (model X.prog X.w) X.A (pyIter v) Q X.xe s1) (h.fix I r) fun p u s1 hp => ?_
  obtain ⟨v, H1, O1, st, rv, rz⟩ := hp
  show Gl' _ (match iterOf p.1 with | some xs => .ok (xs, p.2) | none => .bad) _
  cases e1 : iterOf p.1 with
  | none => exact True.intro
  | some xs =>
    show wpAny _ _ _ (PostI X pins σ tg H O (xs, p.2)) _ _
    generalize p.1 = d at e1 rz
    match d, e1 with
    | .lst o ys, e1 =>
      cases e1
      cases rz with
      | @lstF _ a vs e q =>
        cases rv
        obtain ⟨its, n, rr, e2, hz⟩ := Vw.isList st.inv (.inr e)
        refine wpAny_pyIter_list ⟨_, e2, rfl, n, rfl⟩ (PostI.of st (pi_one (tk := s1.toks) st.inv _ (turn_list a _) ⟨_, Heap.get?_push_size _ rfl, rfl, rfl⟩ ⟨rfl, itz_list e q⟩))
    | .tup ys, e1 =>
      cases e1
      cases rz with
      | @tup _ a vs _ e q =>
        cases rv
        obtain ⟨its, rr, ht, hz⟩ := st.inv.tuple e
        exact wpAny_pyIter_tuple (show s1.heap.IsTuple a its.toArray from ht) (PostI.of st (pi_one (tk := s1.toks) st.inv _ (turn_tuple a _) ⟨_, Heap.get?_push_size _ rfl, rfl, rfl⟩ ⟨rfl, itz_tup e q⟩))
    | .str z, e1 =>
      cases e1
      cases rz
      obtain ⟨t, rfl⟩ := rv
      cases ha : z.cps.all (· < 128)
      · exact wpAny_pyIter_wide ha (PostI.of st (pi_one (tk := s1.toks) st.inv _ (turn_str _ z t "str_iterator" (.inr rfl)) ⟨_, Heap.get?_push_size _ rfl, rfl, rfl⟩ ⟨rfl, itz_str⟩))
      · exact wpAny_pyIter_ascii ha (PostI.of st (pi_one (tk := s1.toks) st.inv _ (turn_str _ z t "str_ascii_iterator" (.inl rfl)) ⟨_, Heap.get?_push_size _ rfl, rfl, rfl⟩ ⟨rfl, itz_str⟩))
theorem si_range {e : PySem.Expr} {es : List PySem.Expr} {A : Evs} {p pos : Pos} (b : Blt X "range" (.type "range")) (hn : noStar (e :: es) = true) (h : SA X (e :: es) A) : SI X (.Call (.Name "range" p) (e :: es) [] pos) (iRange A) := by
  intro tg pins s σ H env O I r
  refine Gl'.of (goal' := fun Q => wpAny (model X.prog X.w) X.A (spliced (backTo pos (starEach (e :: es) X.env))) (fun us s1 => wpAny (model X.prog X.w) X.A (call (.type "range") us) (fun v s2 => wpAny (model X.prog X.w) X.A (pyIter v) Q X.xe s2) X.xe s1) X.xe s)
    (fun Q h => wpAny_Call_Name_kw (ld_blt I b.gl b.mg b.bt (callB1 b.is hn h) b.nm b.db)) (Gl'.seq (REST := fun Q us s1 => wpAny (model X.prog X.w) X.A (call (.type "range") us) (fun v s2 => wpAny (model X.prog X.w) X.A (pyIter v) Q X.xe s2) X.xe s1) (h pos pins s σ H env O I r) fun p us s1 hp => ?_)
  obtain ⟨vs, H1, O1, C, st, rv, ro, dj, sb⟩ := hp
  show Gl' _ (match (rds p.1 p.2).bind rangeD with | some xs => .ok (xs, p.2) | none => .bad) _
  cases e1 : rds p.1 p.2 with
  | none => exact True.intro
  | some ds =>
    have vw := ROs.rds st.re ro e1
    show Gl' _ (match rangeD ds with | some xs => .ok (xs, p.2) | none => .bad) _
    cases e2 : rangeD ds with
    | none => exact True.intro
    | some xs =>
      show wpAny _ _ _ (fun v s2 => wpAny _ _ _ (PostI X pins σ tg H O (xs, p.2)) _ _) _ _
      unfold rangeD at e2
      split at e2
      · split at e2 <;> cases e2
        rename_i n hn
        obtain ⟨v, u, rfl, rfl, q, r⟩ := one_ok vw rv
        cases q
        obtain ⟨t, rfl⟩ := r
        refine call_range_1 (thn (range_it st.inv (by omega) (by omega) (by omega) (by omega) (R := fun J H' => H' = H1 ∧ ItZ X J ((List.range n.toNat).map fun (i : Nat) => .int (i : Int)) H1) ⟨rfl, ?_⟩) fun itv s3 q => PostI.of st q)
        have e3 : ((List.range n.toNat).map fun (i : Nat) => D.int (i : Int)) = (List.range (n - 0).toNat).map fun (i : Nat) => D.int (0 + (i : Int)) := by
          rw [Int.sub_zero]
          congr 1
          funext i
          rw [Int.zero_add]
        rw [e3]
        exact itz_range
      · split at e2 <;> cases e2
        rename_i a b hn
        cases vw with
        | cons q1 q2 =>
          cases q2 with
          | cons q2 q3 =>
            cases q3; cases q1; cases q2
            cases rv with
            | cons r1 r2 =>
              cases r2 with
              | cons r2 r3 =>
                cases r3
                obtain ⟨t, rfl⟩ := r1
                obtain ⟨t', rfl⟩ := r2
                exact call_range_2 (thn (range_it st.inv (by omega) (by omega) (by omega) (by omega) (R := fun J H' => H' = H1 ∧ ItZ X J ((List.range (b - a).toNat).map fun (i : Nat) => .int (a + (i : Int))) H1) ⟨rfl, itz_range⟩) fun itv s3 q => PostI.of st q)
      · cases e2
end
end Z

set_option Elab.async false
set_option linter.all false
set_option maxRecDepth 100000
set_option maxHeartbeats 1000000
namespace Z
open PySem L2 PyProof.Rows
section
variable {X : Cx} {pins : List (Addr × Obj)} {σ : L2.St} {s s' : Shared}
/-! ## targets -/
/-- these names stay as they are -/
def Kp (io : List Nat) (σ σ' : L2.St) : Prop := ∀ i ∈ io, σ'[i]? = σ[i]?
theorem Kp.refl {io : List Nat} {σ : L2.St} : Kp io σ σ := fun _ _ => rfl
theorem Kp.trans {io : List Nat} {σ σ1 σ2 : L2.St} (a : Kp io σ σ1) (b : Kp io σ1 σ2) : Kp io σ σ2 := fun i h => (b i h).trans (a i h)
def gZ (X : Cx) (io : List Nat) (T : Et) (sl : List Nat) : TG := fun v σ H Q => ∃ env O d env' B, XRE X H env σ O ∧ XRz X H d v B ∧ Dis B O ∧ T d env = .ok env' ∧
  ∀ σ' H' O', XRE X H' env' σ' O' → Ext (O ++ B) H H' → Sub H (O ++ B) O' → (∀ j, j ∉ sl → σ'[j]? = σ[j]?) → σ'.length = σ.length → Kp io σ σ' → Q σ' H'
def gsZ (X : Cx) (io : List Nat) (T : List D → Env → R Env) (sl : List Nat) : TGs := fun vs σ H Q => ∃ env O ds env' B, XRE X H env σ O ∧ XRzL X H ds vs B ∧ Dis B O ∧ T ds env = .ok env' ∧
  ∀ σ' H' O', XRE X H' env' σ' O' → Ext (O ++ B) H H' → Sub H (O ++ B) O' → (∀ j, j ∉ sl → σ'[j]? = σ[j]?) → σ'.length = σ.length → Kp io σ σ' → Q σ' H'
/-- a reading may be strengthened -/
theorem PG.imp {tg : PySem.Expr} {t t' : TG} (h : PG X tg t) (k : ∀ v σ H Q, t' v σ H Q → t v σ H Q) : PG X tg t' := ⟨fun pins s σ H v u Q I r q => h.run pins s σ H v u Q I r (k v σ H Q q)⟩
theorem PGs.imp {tg : List PySem.Expr} {t t' : TGs} (h : PGs X tg t) (k : ∀ v σ H Q, t' v σ H Q → t v σ H Q) : PGs X tg t' := ⟨fun pins s σ H v u Q I r q => h.run pins s σ H v u Q I r (k v σ H Q q)⟩
theorem RE.set {H : Hp} {env : Env} {O B : List Addr} {i : Nat} {d : D} {v : V} (r : XRE X H env σ O) (hi : i < env.length) (q : XRz X H d v B) (dj : Dis B O) : ∃ O', XRE X H (env.set i (.v d)) (σ.set i (some v)) O' ∧ ∀ a ∈ O', a ∈ O ∨ a ∈ B := by
  obtain ⟨x, A, B0, C, e, q0, eO, dd, up⟩ := r.at hi
  refine ⟨A ++ (B ++ C), up H (.v d) (some v) B (fun _ _ e _ => e) (fun _ _ _ e => e) (.v q) (fun a ha hb => dj a ha ?_), fun a ha => ?_⟩
  · rw [eO]
    rcases List.mem_append.mp hb with z | z <;> simp [z]
  · rw [eO]
    rcases List.mem_append.mp ha with z | z
    · simp [z]
    · rcases List.mem_append.mp z with z | z <;> simp [z]
theorem sg_var {io : List Nat} {i : Nat} {x : Str} {pos : Pos} (hN : X.N.Nodup) (hi : X.N[i]? = some x) (hx : Loc X.env.scope x) (hf : X.fn x = true ∨ X.env.scope.names.lookup x = some .local) : PG X (.Name x pos) (gZ X io (gVar io i) [i]) := by
  refine PG.imp (pg_name hN hi hx hf) fun v σ H Q h => ?_
  obtain ⟨env, O, d, env', B, r, q, dj, e, k⟩ := h
  unfold gVar at e
  split at e <;> cases e
  rename_i hl
  obtain ⟨O', r', sb⟩ := RE.set r hl.1 q dj
  refine k _ H O' r' Ext.refl (.of fun a ha => ?_) (fun j hj => ?_) (by rw [List.length_set]) fun j hj => ?_
  · rcases sb a ha with z | z <;> simp [z]
  · rw [List.getElem?_set_ne]
    intro z; subst z; exact hj (by simp)
  · rw [List.getElem?_set_ne]
    intro z; subst z; exact hl.2 hj
theorem sgs_nil {io : List Nat} : PGs X [] (gsZ X io gNil []) := by
  refine PGs.imp pgs_nil fun vs σ H Q h => ?_
  obtain ⟨env, O, ds, env', B, r, q, dj, e, k⟩ := h
  cases ds with
  | nil =>
    cases e; cases q
    exact ⟨rfl, k σ H O r Ext.refl (.of fun a h => by simp [h]) (fun _ _ => rfl) rfl Kp.refl⟩
  | cons _ _ => cases e
theorem sgs_cons {e : PySem.Expr} {es : List PySem.Expr} {T : Et} {U : List D → Env → R Env} {s1 s2 io : List Nat} (hs : isStar e = false) (h1 : PG X e (gZ X io T s1)) (h2 : PGs X es (gsZ X io U s2)) : PGs X (e :: es) (gsZ X io (gCons T U) (s1 ++ s2)) := by
  refine PGs.imp (pgs_cons h1 h2 (by cases e <;> first | rfl | cases hs)) fun vs σ H Q h => ?_
  obtain ⟨env, O, ds, env', B, r, q, dj, e, k⟩ := h
  cases ds with
  | nil => cases e
  | cons d ds =>
    cases q with
    | @cons _ _ v vs B1 B2 q1 q2 d12 =>
      have e : (T d env).bind (fun e1 => U ds e1) = .ok env' := e
      cases e1 : T d env with
      | exc _ _ => rw [e1] at e; cases e
      | bad => rw [e1] at e; cases e
      | ok en =>
        rw [e1] at e
        have e : U ds en = .ok env' := e
        refine ⟨v, vs, rfl, env, O, d, en, B1, r, q1, dj.l1, e1, fun σ1 H1 O1 r1 x1 sb1 k1 n1 p1 => ?_⟩
        have own : ∀ a ∈ O ++ B1, ∃ u, H a = some u ∧ Ow u = true := fun a ha => (List.mem_append.mp ha).elim (r.own a) (q1.own a)
        have q2' := x1.keepL own q2 (Dis.appR dj.l2 (Dis.symm d12))
        have d2 : Dis B2 O1 := dis_sub (Dis.appR dj.l2 (Dis.symm d12)) q2.own sb1
        refine ⟨en, O1, ds, env', B2, r1, q2', d2, e, fun σ2 H2 O2 r2 x2 sb2 k2 n2 p2 => k σ2 H2 O2 r2 (fun a u ea n => x2 a u (x1 a u ea fun z => n ?_) fun z => ?_) (fun a ha => ?_) (fun j hj => ?_) (n2.trans n1) (p1.trans p2)⟩
        · rcases List.mem_append.mp z with z | z <;> simp [z]
        · rcases List.mem_append.mp z with z | z
          · rcases sb1 a z with z | z
            · rcases List.mem_append.mp z with z | z <;> simp [z] at n
            · rw [ea] at z; cases z
          · simp [z] at n
        · rcases sb2 a ha with z | z
          · rcases List.mem_append.mp z with z | z
            · rcases sb1 a z with z | z
              · rcases List.mem_append.mp z with z | z <;> simp [z]
              · exact .inr z
            · simp [z]
          · by_cases q : a ∈ O ++ (B1 ++ B2)
            · exact .inl q
            · cases ea : H a with
              | none => exact .inr rfl
              | some u =>
                have := x1 a u ea fun z => q (by rcases List.mem_append.mp z with z | z <;> simp [z])
                rw [this] at z; cases z
        · simp only [List.mem_append, not_or] at hj
          rw [k2 j hj.2, k1 j hj.1]
theorem each_len {env : PySem.Env} : ∀ {es : List PySem.Expr}, noStar es = true → (assignEach es env).length = es.length ∧ (assignEach es env).findIdx? (·.1) = none
  | [], _ => ⟨rfl, rfl⟩
  | e :: es, h => by
    simp only [noStar, Bool.and_eq_true, Bool.not_eq_true'] at h
    have e1 : assignEach (e :: es) env = (false, assign e env) :: assignEach es env := by
      have h1 := h.1
      cases e <;> first | rfl | cases h1
    obtain ⟨i1, i2⟩ := each_len (env := env) h.2
    rw [e1]
    refine ⟨by simp [i1], ?_⟩
    rw [List.findIdx?_cons]
    simp [i2]
theorem sg_tup {es : List PySem.Expr} {T : List D → Env → R Env} {sl io : List Nat} {k : Nat} {pos : Pos} (hc : X.calm = true) (hn : noStar es = true) (hlen : ∀ ds env env', T ds env = .ok env' → ds.length = es.length) (h : PGs X es (gsZ X io T sl)) : PG X (.Tuple es k pos) (gZ X io (gTup T) sl) := by
  obtain ⟨l1, l2⟩ := each_len (env := X.env) hn
  refine PG.imp (pg_tup hc h l1 l2) fun v σ H Q hh => ?_
  obtain ⟨env, O, d, env', B, r, q, dj, e, kk⟩ := hh
  unfold gTup at e
  split at e
  · rename_i xs
    cases q with
    | tup e1 q1 =>
      exact ⟨_, _, rfl, e1, by rw [← q1.length]; exact hlen _ _ _ e, env, O, xs, env', B, r, q1, dj, e, kk⟩
  · cases e
theorem RzL.set {H : Hp} : ∀ {ds : List D} {vs : List V} {O B : List Addr} {j : Nat} {d : D} {v : V}, XRzL X H ds vs O → XRz X H d v B → Dis B O → ∃ O', XRzL X H (ds.set j d) (vs.set j v) O' ∧ ∀ a ∈ O', a ∈ O ∨ a ∈ B
  | [], vs, O, B, j, d, v, r, q, dj => by cases r; exact ⟨[], .nil, fun _ h => nomatch h⟩
  | x :: ds, _, _, B, 0, d, v, .cons (O1 := O1) (O2 := O2) r rs dd, q, dj => ⟨B ++ O2, .cons q rs dj.r2, fun a ha => by rcases List.mem_append.mp ha with z | z <;> simp [z]⟩
  | x :: ds, _, _, B, j + 1, d, v, .cons (O1 := O1) (O2 := O2) r rs dd, q, dj => by
    obtain ⟨O', r', sb⟩ := RzL.set (j := j) rs q dj.r2
    refine ⟨O1 ++ O', .cons r r' (fun a ha hb => ?_), fun a ha => ?_⟩
    · rcases sb a hb with z | z
      · exact dd a ha z
      · exact dj a z (by simp [ha])
    · rcases List.mem_append.mp ha with z | z
      · simp [z]
      · rcases sb a z with z | z <;> simp [z]
/-- a thing of one's own is rewritten: what does not hang on it stands -/
theorem upd_prs {H : Hp} {a : Addr} {u0 o : HO} (e : H a = some u0) (ow : Ow u0 = true) : ∀ b u, H b = some u → Prs u = true → upd H a o b = some u := fun b u q p => by
  rw [upd_ne fun z => ?_]; exact q
  subst z; rw [e] at q; cases q
  cases u0 <;> first | (simp [Prs] at p; done) | (simp [Ow] at ow; done)
theorem upd_oth {H : Hp} {a : Addr} {o : HO} {O : List Addr} (n : a ∉ O) : ∀ b ∈ O, ∀ u, H b = some u → upd H a o b = some u := fun b hb u q => by
  rw [upd_ne (fun z : b = a => n (z ▸ hb))]; exact q
/-- a list of one's own, by its name: what it may become -/
theorem lst_own {H : Hp} {env : Env} {O : List Addr} {i : Nat} {xs : List D} (r : XRE X H env σ O) (h : env.getD i .no = .v (.lst true xs)) : ∃ a vs O1, σ[i]? = some (some (.ref a)) ∧ H a = some (.lst vs) ∧ XRzL X H xs vs O1 ∧ a ∈ O ∧ (∀ b ∈ O1, b ∈ O) ∧ a ∉ O1 ∧
    ∀ xs' vs' O2, XRzL X H xs' vs' O2 → a ∉ O2 → (∀ b ∈ O2, b ∈ O1 ∨ b ∉ O) → ∃ O', XRE X (upd H a (.lst vs')) (env.set i (.v (.lst true xs'))) σ O' ∧ ∀ b ∈ O', b ∈ O ∨ b ∈ O2 := by
  obtain ⟨x, A, B0, C, e, q0, eO, dd, up⟩ := r.at (getD_lt (by rw [h]; exact fun z => by cases z))
  rw [h] at q0
  cases q0 with
  | v q0 =>
    cases q0 with
    | @lstO _ a vs O1 ea q n =>
      have hAC : a ∉ A ++ C := dd a (by simp)
      refine ⟨a, vs, O1, e, ea, q, by rw [eO]; simp, fun b hb => by rw [eO]; simp [hb], n, fun xs' vs' O2 q2 n2 s2 => ?_⟩
      have q2' : XRzL X (upd H a (.lst vs')) xs' vs' O2 := q2.stay (upd_prs ea rfl) (upd_oth n2)
      have r' := up (upd H a (.lst vs')) (.v (.lst true xs')) (some (.ref a)) (a :: O2) (upd_prs ea rfl) (upd_oth hAC) (.v (.lstO upd_same q2' n2)) (fun b hb hc => by
        rcases List.mem_cons.mp hb with z | z
        · subst z; exact hAC hc
        · rcases s2 b z with w | w
          · exact dd b (by simp [w]) hc
          · refine w ?_
            rw [eO]
            rcases List.mem_append.mp hc with y | y <;> simp [y])
      rw [set_self e] at r'
      refine ⟨_, r', fun b hb => ?_⟩
      rw [eO]
      rcases List.mem_append.mp hb with z | z
      · simp [z]
      · rcases List.mem_append.mp z with z | z
        · rcases List.mem_cons.mp z with z | z
          · simp [z]
          · simp [z]
        · simp [z]
theorem ext_upd {H : Hp} {a : Addr} {o : HO} {O : List Addr} (h : a ∈ O) : Ext O H (upd H a o) := fun b u e n => by
  rw [upd_ne (fun z : b = a => n (z ▸ h))]; exact e
/-- x[k] = .. -/
theorem asg_sub {b : PySem.Expr} (h : isPlainSl b = false) (o : PySem.Expr) (pos : Pos) (env : PySem.Env) (v : Value) : assign (.Subscript o b pos) env v = (do
    let ov ← holding [v] (eval o env)
    let iv ← holding [v, ov] (eval b env)
    standAt pos
    holding [v, ov, iv] (setItem ov iv v)
    release [v, ov, iv] []) := by
  cases b with
  | Slice lo hi st p => cases st with
    | none => cases h
    | some e => rfl
  | _ => rfl
theorem gSub_ok {i : Nat} {K : Ev} {d : D} {env env' : Env} (e : gSub i (fun env => .ok ([], env)) K d env = .ok env') :
    ∃ kd en x y d0, look env i = some d0 ∧ taken K env = .ok (kd, en) ∧ en.getD i .no = .v x ∧ setD x kd d = some y ∧ env' = en.set i (.v y) := by
  unfold gSub at e
  split at e
  case isFalse => cases e
  case isTrue hl =>
  obtain ⟨d0, hd0⟩ := Option.isSome_iff_exists.mp hl
  have e : (K env).bind (fun q => (match q.1.take q.2 with
      | some (kd, e2) => (match e2.getD i .no with
        | .v x => (match atP x [] (fun y => (setD y kd d).map fun z => (z, ())) with | some (z, _) => R.ok (e2.set i (.v z)) | none => .bad)
        | _ => .bad)
      | none => .bad)) = .ok env' := e
  cases e1 : K env with
  | exc _ _ => rw [e1] at e; cases e
  | bad => rw [e1] at e; cases e
  | ok p =>
    rw [e1] at e
    have e : (match p.1.take p.2 with
      | some (kd, e2) => (match e2.getD i .no with
        | .v x => (match atP x [] (fun y => (setD y kd d).map fun z => (z, ())) with | some (z, _) => R.ok (e2.set i (.v z)) | none => .bad)
        | _ => .bad)
      | none => .bad) = .ok env' := e
    cases e2 : p.1.take p.2 with
    | none => rw [e2] at e; cases e
    | some z =>
      obtain ⟨kd, en⟩ := z
      rw [e2] at e
      have e : (match en.getD i .no with
        | .v x => (match atP x [] (fun y => (setD y kd d).map fun z => (z, ())) with | some (z, _) => R.ok (en.set i (.v z)) | none => .bad)
        | _ => .bad) = .ok env' := e
      have etk : taken K env = .ok (kd, en) := by unfold taken; rw [e1]; show (match p.1.take p.2 with | some q => R.ok q | none => .bad) = _; rw [e2]
      cases e3 : en.getD i .no with
      | no => rw [e3] at e; cases e
      | r _ => rw [e3] at e; cases e
      | q _ => rw [e3] at e; cases e
      | v x =>
        rw [e3] at e
        have e : (match (setD x kd d).map fun z => (z, ()) with | some (z, _) => R.ok (en.set i (.v z)) | none => .bad) = .ok env' := e
        cases e4 : setD x kd d with
        | none => rw [e4] at e; cases e
        | some y =>
          rw [e4] at e
          cases e
          exact ⟨kd, en, x, y, d0, hd0, etk, e3, e4, rfl⟩
/-- x[k] = .. -/
theorem sg_sub {i : Nat} {io : List Nat} {x : Str} {k : PySem.Expr} {K : Ev} {p1 pos : Pos} (hN : X.N[i]? = some x) (hv : Vis X.env.scope x) (hd : (x == ("__debug__" : Str)) = false) (hcd : (x == ("__classdict__" : Str)) = false) (hp : isPlainSl k = false) (hk : SE X k K) :
    PG X (.Subscript (.Name x p1) k pos) (gZ X io (gSub i (fun env => .ok ([], env)) K) []) := by
  refine PG.imp (pg_sub (pe_var hN hv hd hcd) hk.take set_list (asg_sub hp _ _ _)) fun v σ H Q h => ?_
  obtain ⟨env, O, d, env', B, r, q, dj, e, kk⟩ := h
  obtain ⟨kd, en, x, y, d0, hl, etk, e3, e4, rfl⟩ := gSub_ok e
  obtain ⟨v0, ev0, _⟩ := r.look hl
  refine ⟨v0, ev0, env, O, (kd, en), r, etk, fun kv H1 O1 B1 r1 qk dk x1 s1 sk => ?_⟩
  match x, kd, e4 with
  | .lst true xs, .int n, e4 =>
    simp only [setD] at e4
    cases e5 : ixN xs.length n with
    | none => rw [e5] at e4; cases e4
    | some j =>
      rw [e5] at e4
      cases e4
      obtain ⟨a, vs, O2, eσ, ea, rl, aO, sO2, nO2, up⟩ := lst_own r1 e3
      rw [ev0] at eσ; cases eσ
      cases qk
      have q1 := x1.keep r.own q dj
      have dB : Dis B O1 := dis_sub dj q.own s1
      obtain ⟨O3, r3, sb3⟩ := rl.set (j := j) q1 (fun b hb h => dB b hb (sO2 b h))
      obtain ⟨O4, r4, sb4⟩ := up _ _ O3 r3 (fun z => by
        rcases sb3 a z with w | w
        · exact nO2 w
        · exact dB a w aO) (fun b hb => by
        rcases sb3 b hb with w | w
        · exact .inl w
        · exact .inr (dB b w))
      refine ⟨a, vs, n, j, rfl, rfl, ea, by rw [← rl.length]; exact e5, kk σ _ O4 r4 (fun b u e n => ?_) (fun b hb => ?_) (fun _ _ => rfl) rfl Kp.refl⟩
      · refine ext_upd aO b u (x1 b u e fun z => n (by simp [z])) fun z => ?_
        rcases s1 b z with w | w
        · exact n (by simp [w])
        · rw [e] at w; cases w
      · have back : b ∈ O1 ∨ b ∈ B := by
          rcases sb4 b hb with w | w
          · exact .inl w
          · rcases sb3 b w with w | w
            · exact .inl (sO2 b w)
            · exact .inr w
        rcases back with w | w
        · rcases s1 b w with z | z
          · exact .inl (by simp [z])
          · exact .inr z
        · exact .inl (by simp [w])
end
end Z

set_option Elab.async false
set_option linter.all false
set_option maxRecDepth 100000
set_option maxHeartbeats 1000000
namespace Z
open PySem L2 PyProof.Rows
section
variable {X : Cx} {pins : List (Addr × Obj)} {σ : L2.St} {s s' : Shared}
theorem set_ge {α : Type} : ∀ {l : List α} {i : Nat} {x : α}, l.length ≤ i → l.set i x = l
  | [], _, _, _ => rfl
  | _ :: l, 0, _, h => by simp at h
  | y :: l, i + 1, x, h => by rw [List.set_cons_succ, set_ge (by simpa using h)]
theorem wipe_len (env : Env) : ∀ own : List Nat, (wipe env own).length = env.length
  | [] => rfl
  | i :: r => by rw [wipe, List.length_set, wipe_len env r]
theorem wipe_get {env : Env} {j : Nat} : ∀ {own : List Nat}, j ∉ own → (wipe env own).getD j .no = env.getD j .no
  | [], _ => rfl
  | i :: r, h => by
    simp only [List.mem_cons, not_or] at h
    rw [wipe]
    have e : ((wipe env r).set i .no).getD j .no = (wipe env r).getD j .no := by
      simp only [List.getD_eq_getElem?_getD]
      rw [List.getElem?_set_ne (Ne.symm h.1)]
    rw [e, wipe_get h.2]
/-- names are forgotten -/
theorem RE.wipe {H : Hp} {env : Env} {O : List Addr} (r : XRE X H env σ O) : ∀ own : List Nat, ∃ O', XRE X H (wipe env own) (L2.wipe σ own) O' ∧ ∀ a ∈ O', a ∈ O
  | [] => ⟨O, r, fun _ h => h⟩
  | i :: own => by
    obtain ⟨O1, r1, s1⟩ := RE.wipe r own
    rw [Z.wipe, L2.wipe]
    by_cases hi : i < (Z.wipe env own).length
    · obtain ⟨x, A, B, C, e, q, eO, dd, up⟩ := r1.at hi
      refine ⟨A ++ ([] ++ C), up H .no none [] (fun _ _ e _ => e) (fun _ _ _ e => e) (.no _) Dis.nil, fun a ha => s1 a ?_⟩
      rw [eO]
      rcases List.mem_append.mp ha with z | z <;> simp at z ⊢ <;> simp [z]
    · have h2 : (L2.wipe σ own).length ≤ i := by rw [← r1.length]; omega
      rw [set_ge (by omega), set_ge h2]
      exact ⟨O1, r1, s1⟩
/-- what the own names were -/
def unw (old env : Env) : List Nat → Env := unwipe old env
theorem unwipe_set {old env : Env} {i : Nat} {z : Sl} : ∀ {r : List Nat}, (unwipe old (env.set i .no) r).set i z = (unwipe old env r).set i z
  | [] => by rw [unwipe, unwipe, List.set_set]
  | j :: r => by
    rw [unwipe, unwipe]
    by_cases h : j = i
    · subst h
      rw [List.set_set, List.set_set]
      exact unwipe_set
    · rw [List.set_comm _ _ h, List.set_comm _ _ h, unwipe_set]
theorem RE.unwipe {H : Hp} {old : Env} : ∀ {own : List Nat} {env : Env} {O : List Addr}, XRE X H env (L2.wipe σ own) O → (∀ i ∈ own, ∃ x, σ[i]? = some x ∧ SlR X.prog X.w X.K H (old.getD i .no) x []) → ∃ O', XRE X H (unwipe old env own) σ O' ∧ ∀ a ∈ O', a ∈ O
  | [], env, O, r, _ => ⟨O, r, fun _ h => h⟩
  | i :: own, env, O, r, h => by
    obtain ⟨x, ex, q⟩ := h i (by simp)
    have hi : i < σ.length := (List.getElem?_eq_some_iff.mp ex).1
    have hl : (L2.wipe σ own).length = σ.length := wipe_length σ own
    have r : XRE X H env ((L2.wipe σ own).set i none) O := r
    have hl2 : i < env.length := by rw [r.length, List.length_set, hl]; exact hi
    obtain ⟨_, A, B, C, _, _, eO, dd, up⟩ := r.at hl2
    have r1 := up H .no ((L2.wipe σ own)[i]'(by omega)) [] (fun _ _ e _ => e) (fun _ _ _ e => e) (.no _) Dis.nil
    rw [List.set_set, set_self (List.getElem?_eq_getElem (by omega))] at r1
    obtain ⟨O1, r2, s2⟩ := RE.unwipe (own := own) r1 fun j hj => h j (by simp [hj])
    have hl3 : i < (Z.unwipe old (env.set i .no) own).length := by rw [r2.length]; exact hi
    obtain ⟨_, A2, B2, C2, e2, _, eO2, dd2, up2⟩ := r2.at hl3
    have r3 := up2 H (old.getD i .no) x [] (fun _ _ e _ => e) (fun _ _ _ e => e) q Dis.nil
    rw [set_self ex, unwipe_set] at r3
    refine ⟨_, r3, fun a ha => ?_⟩
    have ha2 : a ∈ O1 := by
      rw [eO2]
      rcases List.mem_append.mp ha with z | z <;> simp at z ⊢ <;> simp [z]
    have := s2 a ha2
    rw [eO]
    rcases List.mem_append.mp this with z | z <;> simp at z ⊢ <;> simp [z]
theorem wipe_eq {σ σ2 : L2.St} {own : List Nat} (hl : σ2.length = σ.length) (h : ∀ j, j ∉ own → σ2[j]? = (L2.wipe σ own)[j]?) : L2.wipe σ2 own = L2.wipe σ own := by
  have in_ : ∀ (τ : L2.St) (own : List Nat) (j : Nat), j ∈ own → (L2.wipe τ own)[j]? = if j < τ.length then some none else none := by
    intro τ own
    induction own with
    | nil => intro j hj; simp at hj
    | cons i r ih =>
      intro j hj
      rw [L2.wipe]
      by_cases hji : j = i
      · subst hji
        rw [List.getElem?_set]
        simp [wipe_length]
      · rw [List.getElem?_set_ne (Ne.symm hji)]
        exact ih j ((List.mem_cons.mp hj).resolve_left hji)
  have out : ∀ (τ : L2.St) (own : List Nat) (j : Nat), j ∉ own → (L2.wipe τ own)[j]? = τ[j]? := by
    intro τ own
    induction own with
    | nil => intro j _; rfl
    | cons i r ih =>
      intro j hj
      simp only [List.mem_cons, not_or] at hj
      rw [L2.wipe, List.getElem?_set_ne (Ne.symm hj.1)]
      exact ih j hj.2
  apply List.ext_getElem?
  intro j
  by_cases hj : j ∈ own
  · rw [in_ _ _ _ hj, in_ _ _ _ hj, hl]
  · rw [out _ _ _ hj, h j hj]
/-! ## a comprehension's tests -/
def tF (X : Cx) (F : Env → R (Bool × Env)) : TT := fun σ H Q => ∃ env O q, XRE X H env σ O ∧ F env = .ok q ∧ ∀ H' O', XRE X H' q.2 σ O' → Ext O H H' → Sub H O O' → Q q.1 H'
def SF (X : Cx) (ifs : List PySem.Expr) (F : Env → R (Bool × Env)) : Prop := PTs X ifs (tF X F)
theorem sf_nil : SF X [] fun env => .ok (true, env) := ⟨fun pins s σ H Q I h => by
  obtain ⟨env, O, q, r, e, k⟩ := h
  cases e
  exact wpAny_tests_nil ⟨H, I, k H O r Ext.refl Sub.refl⟩⟩
theorem sf_one {e : PySem.Expr} {A : Ev} (h : ST X e A) : SF X [e] (ifCons A fun env => .ok (true, env)) := ⟨fun pins s σ H Q I hq => by
  obtain ⟨env, O, q, r, e1, k⟩ := hq
  refine wpAny_tests_one (h.pt.run pins s σ H Q I ⟨env, O, q, r, ?_, k⟩)
  unfold ifCons at e1
  cases e2 : tst A env with
  | exc _ _ => rw [e2] at e1; cases e1
  | bad => rw [e2] at e1; cases e1
  | ok p =>
    rw [e2] at e1
    have e1 : (if p.1 then R.ok (true, p.2) else .ok (false, p.2)) = .ok q := e1
    obtain ⟨b, en⟩ := p
    cases b <;> cases e1 <;> rfl⟩
theorem leaf1_ok {A : Ev} {acc acc' : List D} {env env' : Env} (h : leaf1 A acc env = .ok (acc', env')) : ∃ d, taken A env = .ok (d, env') ∧ acc' = acc ++ [d] ∧ acc.length < line := by
  unfold leaf1 at h
  unfold taken
  cases e : A env with
  | exc _ _ => rw [e] at h; cases h
  | bad => rw [e] at h; cases h
  | ok p =>
    rw [e] at h
    have h : (match p.1.take p.2 with | some (d, e2) => if acc.length < line then R.ok (acc ++ [d], e2) else .bad | none => .bad) = .ok (acc', env') := h
    show ∃ d, (match p.1.take p.2 with | some q => R.ok q | none => .bad) = .ok (d, env') ∧ _
    cases e2 : p.1.take p.2 with
    | none => rw [e2] at h; cases h
    | some q =>
      rw [e2] at h
      obtain ⟨d, en⟩ := q
      have h : (if acc.length < line then R.ok (acc ++ [d], en) else .bad) = .ok (acc', env') := h
      split at h
      case isFalse => cases h
      case isTrue hl =>
      cases h
      exact ⟨d, rfl, rfl, hl⟩
/-- what a comprehension bears in its block -/
structure BlkZ (X : Cx) (io : List Nat) (tg : PySem.Expr) (ifs : List PySem.Expr) (scope : Scope) (T : Et) (F : Env → R (Bool × Env)) (own : List (Str × Nat)) (sl : List Nat) : Prop where
  blk : BlkOk X.N X.env.scope scope own
  sub : ∀ j ∈ sl, j ∈ own.map (·.2)
  tg : ∀ (s : Shared) (H : Hp) (C : Addr) (cl : List (Str × Addr)) (fp : List Addr), PG (X.blk s H scope (compEnvC scope cl C X.env) fp) tg (gZ X io T sl)
  ifs : ∀ (s : Shared) (H : Hp) (C : Addr) (cl : List (Str × Addr)) (fp : List Addr), PTs (X.blk s H scope (compEnvC scope cl C X.env) fp) ifs (tF X F)
theorem own_slots {H : Hp} {env : Env} {O : List Addr} (r : XRE X H env σ O) {own : List Nat} (h : ownOk env own = true) (hn : ∀ i ∈ own, i < env.length) : ∀ i ∈ own, ∃ x, σ[i]? = some x ∧ SlR X.prog X.w X.K H (env.getD i .no) x [] := fun i hi => by
  obtain ⟨x, A, B, C, e, q, eO, dd, up⟩ := r.at (hn i hi)
  refine ⟨x, e, ?_⟩
  have h1 := List.all_eq_true.mp h i hi
  generalize env.getD i .no = sl at q h1
  cases q with
  | no x => exact .no x
  | v q =>
    have := q.fz0 h1
    subst this
    exact .v q
  | r q => exact .r q
  | q q => exact .q q
theorem se_lc {elt tg iter : PySem.Expr} {ifs : List PySem.Expr} {scope : Scope} {own : List (Str × Nat)} {sl io : List Nat} {pos : Pos} {T : Et} {I : Ei} {F : Env → R (Bool × Env)} {A : Ev} (g : Gd X) (hN : X.N.Nodup) (hi : SI X iter I) (b : BlkZ X io tg ifs scope T F own sl)
    (he : ∀ (s : Shared) (H : Hp) (C : Addr) (cl : List (Str × Addr)) (fp : List Addr), PE (X.blk s H scope (compEnvC scope cl C X.env) fp) elt (tTake X A)) (hs : ∀ x, foldedSetIterable iter X.env x = pure x) :
    SE X (.ListComp elt [⟨tg, iter, ifs, 0⟩] scope pos) (fLc (cCons T I F (own.map (·.2)) (leaf1 A) [])) := by
  intro pins s σ H env O Iv r
  have hix : ∀ i ∈ own.map (·.2), i < X.N.length := fun i hi => by
    obtain ⟨p, hp, rfl⟩ := List.mem_map.mp hi
    exact (List.getElem?_eq_some_iff.mp (b.blk.ix p hp)).1
  cases e0 : fLc (cCons T I F (own.map (·.2)) (leaf1 A) []) env with
  | exc _ _ => exact True.intro
  | bad => exact True.intro
  | ok res =>
    show wpAny _ _ _ (PostO X pins σ H O res) _ _
    -- the parts of the reckoning
    unfold fLc cCons at e0
    cases e1 : I env with
    | exc _ _ => rw [e1] at e0; cases e0
    | bad => rw [e1] at e0; cases e0
    | ok p =>
      obtain ⟨xs, env1⟩ := p
      rw [e1] at e0
      have e0 : R.bind (if ownOk env1 (own.map (·.2)) then (forC T (leaf1 A) F (own.map (·.2)) xs [] (wipe env1 (own.map (·.2)))).bind fun q => .ok (q.1, unwipe env1 q.2 (own.map (·.2))) else .bad) (fun p => .ok (.val (.lst true p.1), p.2)) = .ok res := e0
      split at e0
      case isFalse => cases e0
      case isTrue hown =>
      cases e2 : forC T (leaf1 A) F (own.map (·.2)) xs [] (wipe env1 (own.map (·.2))) with
      | exc _ _ => rw [e2] at e0; cases e0
      | bad => rw [e2] at e0; cases e0
      | ok q =>
        obtain ⟨accE, envE⟩ := q
        rw [e2] at e0
        cases e0
        have run := (pe_lc (pos := pos) g.calm hN (hi.pi tg) b.blk b.tg b.ifs he hs).run pins s σ H
          (fun v H' => ∃ O' B, XRE X H' (unwipe env1 envE (own.map (·.2))) σ O' ∧ XRz X H' (.lst true accE) v B ∧ Dis B O' ∧ Ext O H H' ∧ Sub H O O' ∧ Sub H O B) Iv ?_
        · exact thn run fun u s1 ⟨v, H', I', rv, O', B, r', q', dj, x, s1, s2⟩ => ⟨v, H', O', B, ⟨I', r', x, s1⟩, rv, .val q', dj, s2⟩
        refine ⟨env, O, (xs, env1), r, e1, fun J H1 O1 z r1 x1 s1 D hD => ?_⟩
        have z : ItZ X J xs H1 := z
        have r1 : XRE X H1 env1 σ O1 := r1
        have hlen : env1.length = X.N.length := by rw [r1.length]; exact Iv.len
        have oslots := own_slots r1 hown fun i hi => by rw [hlen]; exact hix i hi
        obtain ⟨Ow0, rw0, sw0⟩ := RE.wipe r1 (own.map (·.2))
        have newD := upd_new (u := .lst []) hD
        refine ⟨fun i m Hc => m = xs.length - i ∧ i ≤ xs.length ∧ ∃ en Oc accD accV Bc, XRE X Hc en (L2.wipe σ (own.map (·.2))) Oc ∧ Hc D = some (.lst accV) ∧ XRzL X Hc accD accV Bc ∧ D ∉ Bc ∧ D ∉ Oc ∧ Dis Bc Oc ∧ Ext O1 H1 Hc ∧ Sub H1 O1 Oc ∧ Sub H1 O1 Bc ∧
          forC T (leaf1 A) F (own.map (·.2)) (xs.drop i) accD en = .ok (accE, envE), ⟨xs.length, by simp, Nat.zero_le _, wipe env1 (own.map (·.2)), Ow0, [], [], [], rw0.stay (fun a u e _ => newD a u e) (fun a _ u e => newD a u e), upd_same, .nil, by simp, fun hD0 => ?_, Dis.nil, fun a u e _ => newD a u e, .of sw0, Sub.nil, by simpa using e2⟩, ?_⟩
        · obtain ⟨u, e, _⟩ := rw0.own D hD0
          rw [hD] at e; cases e
        rintro i m Hc ⟨rfl, hi2, en, Oc, accD, accV, Bc, rc, eD, qc, nB, nO, dBO, xc, sO, sB, ec⟩
        have prs1 : ∀ a u, H1 a = some u → Prs u = true → Hc a = some u := xc.prs r1.own
        obtain ⟨zi, zs⟩ := z Hc prs1 i
        by_cases hlt : i < xs.length
        · obtain ⟨hgo, hy⟩ := zi xs[i] (List.getElem?_eq_getElem hlt)
          rw [List.drop_eq_getElem_cons hlt] at ec
          have ec : (T xs[i] en).bind (fun e1 => (F e1).bind fun p => if p.1 then (leaf1 A accD p.2).bind fun q => forC T (leaf1 A) F (own.map (·.2)) (xs.drop (i + 1)) q.1 (wipe q.2 (own.map (·.2))) else forC T (leaf1 A) F (own.map (·.2)) (xs.drop (i + 1)) accD (wipe p.2 (own.map (·.2)))) = .ok (accE, envE) := ec
          cases eT : T xs[i] en with
          | exc _ _ => rw [eT] at ec; cases ec
          | bad => rw [eT] at ec; cases ec
          | ok en2 =>
          rw [eT] at ec
          have ec : (F en2).bind (fun p => if p.1 then (leaf1 A accD p.2).bind fun q => forC T (leaf1 A) F (own.map (·.2)) (xs.drop (i + 1)) q.1 (wipe q.2 (own.map (·.2))) else forC T (leaf1 A) F (own.map (·.2)) (xs.drop (i + 1)) accD (wipe p.2 (own.map (·.2)))) = .ok (accE, envE) := ec
          cases eF : F en2 with
          | exc _ _ => rw [eF] at ec; cases ec
          | bad => rw [eF] at ec; cases ec
          | ok qF =>
          rw [eF] at ec
          have ec : (if qF.1 then (leaf1 A accD qF.2).bind fun q => forC T (leaf1 A) F (own.map (·.2)) (xs.drop (i + 1)) q.1 (wipe q.2 (own.map (·.2))) else forC T (leaf1 A) F (own.map (·.2)) (xs.drop (i + 1)) accD (wipe qF.2 (own.map (·.2)))) = .ok (accE, envE) := ec
          refine .inr ⟨hgo, fun H' => i + 1 ≤ xs.length ∧ ∃ en Oc accD accV Bc, XRE X H' en (L2.wipe σ (own.map (·.2))) Oc ∧ H' D = some (.lst accV) ∧ XRzL X H' accD accV Bc ∧ D ∉ Bc ∧ D ∉ Oc ∧ Dis Bc Oc ∧ Ext O1 H1 H' ∧ Sub H1 O1 Oc ∧ Sub H1 O1 Bc ∧
            forC T (leaf1 A) F (own.map (·.2)) (xs.drop (i + 1)) accD en = .ok (accE, envE), fun H' hw => ⟨xs.length - (i + 1), by omega, rfl, hw⟩, fun x H3 hyl => ?_⟩
          obtain ⟨rx, x3⟩ := hy x H3 hyl
          have r3 := rc.stay (fun a u e _ => x3 a u e) (fun a _ u e => x3 a u e)
          refine ⟨en, Oc, xs[i], en2, [], r3, rx, Dis.nil, eT, fun σ2 H4 O4 r4 x4 s4 k4 n4 _ => ⟨wipe_eq ?_ ?_, en2, O4, qF, r4, eF, fun H5 O5 r5 x5 s5 => ?_⟩⟩
          · rw [n4, wipe_length]
          · intro j hj
            exact k4 j fun h => hj (b.sub j h)
          rw [List.append_nil] at x4 s4
          have hw2 : L2.wipe σ2 (own.map (·.2)) = L2.wipe σ (own.map (·.2)) := wipe_eq (by rw [n4, wipe_length]) fun j hj => k4 j fun h => hj (b.sub j h)
          have nO4 : ∀ {O' : List Addr} {Hq : Hp}, Sub H3 Oc O' → D ∉ O' := fun sb hD4 => by
            rcases sb D hD4 with w | w
            · exact nO w
            · rw [x3 D _ eD] at w; cases w
          have eD4 := x4 D _ (x3 D _ eD) nO
          have eD5 := x5 D _ eD4 (nO4 (Hq := H4) s4)
          have qc3 := qc.stay (fun a u e _ => x3 a u e) (fun a _ u e => x3 a u e)
          have qc4 := x4.keepL r3.own qc3 dBO
          have d4 : Dis Bc O4 := dis_sub dBO qc3.own s4
          have qc5 := x5.keepL r4.own qc4 d4
          have d5 : Dis Bc O5 := dis_sub d4 qc4.own s5
          have s35 : Sub H3 Oc O5 := Sub.trans x4 s4 s5
          have e15 : Ext O1 H1 H5 := fun a u e n => by
            have e6 := x3 a u (xc a u e n)
            have n6 : a ∉ Oc := fun z => by
              rcases sO a z with w | w
              · exact n w
              · rw [e] at w; cases w
            have e7 := x4 a u e6 n6
            refine x5 a u e7 fun z => ?_
            rcases s4 a z with w | w
            · exact n6 w
            · rw [e6] at w; cases w
          have s13 : ∀ {B' : List Addr}, Sub H3 Oc B' → Sub H1 O1 B' := fun sb a ha => by
            rcases sb a ha with w | w
            · exact sO a w
            · by_cases q : a ∈ O1
              · exact .inl q
              · cases e : H1 a with
                | none => exact .inr rfl
                | some u =>
                  rw [x3 a u (xc a u e q)] at w; cases w
          cases hb : qF.1 with
          | false =>
            simp only [Bool.false_eq_true, if_false]
            rw [hb] at ec
            simp only [Bool.false_eq_true, if_false] at ec
            obtain ⟨O6, r6, s6⟩ := RE.wipe r5 (own.map (·.2))
            rw [hw2] at r6
            exact ⟨hlt, _, O6, accD, accV, Bc, r6, eD5, qc5, nB, fun z => nO4 (Hq := H5) s35 (s6 D z), fun a ha hb => d5 a ha (s6 a hb), e15, fun a ha => s13 s35 a (s6 a ha), sB, ec⟩
          | true =>
            simp only [if_true]
            rw [hb] at ec
            simp only [if_true] at ec
            cases eL : leaf1 A accD qF.2 with
            | exc _ _ => rw [eL] at ec; cases ec
            | bad => rw [eL] at ec; cases ec
            | ok ql =>
            obtain ⟨acc2, en4⟩ := ql
            rw [eL] at ec
            have ec : forC T (leaf1 A) F (own.map (·.2)) (xs.drop (i + 1)) acc2 (wipe en4 (own.map (·.2))) = .ok (accE, envE) := ec
            obtain ⟨d, etk, eacc, hll⟩ := leaf1_ok eL
            subst eacc
            refine ⟨qF.2, O5, (d, en4), r5, etk, fun y H6 O6 B6 r6 q6 d6 x6 s6 s6B => ?_⟩
            have eD6 := x6 D _ eD5 (nO4 (Hq := H5) s35)
            have qc6 := x6.keepL r5.own qc5 d5
            have dc6 : Dis Bc O6 := dis_sub d5 qc5.own s6
            have dcB : Dis Bc B6 := dis_sub d5 qc5.own s6B
            have s36 : Sub H3 Oc O6 := Sub.trans (fun a u e n => x5 a u (x4 a u e n) fun z => by
              rcases s4 a z with w | w
              · exact n w
              · rw [e] at w; cases w) s35 s6
            have s36B : Sub H3 Oc B6 := Sub.trans (fun a u e n => x5 a u (x4 a u e n) fun z => by
              rcases s4 a z with w | w
              · exact n w
              · rw [e] at w; cases w) s35 s6B
            have nB6 : D ∉ B6 := nO4 (Hq := H5) s36B
            have nO6 : D ∉ O6 := nO4 (Hq := H5) s36
            refine ⟨accV, eD6, by rw [← qc.length]; exact Nat.lt_of_lt_of_le hll (by rw [sizeLine_eq]; decide), ?_⟩
            obtain ⟨O7, r7, s7⟩ := RE.wipe r6 (own.map (·.2))
            rw [hw2] at r7
            have nO7 : D ∉ O7 := fun z => nO6 (s7 D z)
            have r8 := r7.stay (upd_prs (o := .lst (accV ++ [y])) eD6 rfl) (upd_oth nO7)
            have qn : XRzL X (upd H6 D (.lst (accV ++ [y]))) [d] [y] B6 := by
              have := RzL.cons (q6.stay (upd_prs (o := .lst (accV ++ [y])) eD6 rfl) (upd_oth nB6)) .nil Dis.nilR
              rwa [List.append_nil] at this
            have qa := qc6.stay (upd_prs (o := .lst (accV ++ [y])) eD6 rfl) (upd_oth nB)
            have app : ∀ {ds : List Z.D} {vs : List V} {B1 : List Addr}, XRzL X (upd H6 D (.lst (accV ++ [y]))) ds vs B1 → Dis B1 B6 → ∃ B2, XRzL X (upd H6 D (.lst (accV ++ [y]))) (ds ++ [d]) (vs ++ [y]) B2 ∧ ∀ a ∈ B2, a ∈ B1 ∨ a ∈ B6 := by
              intro ds
              induction ds with
              | nil => intro vs B1 q dj; cases q; exact ⟨B6, qn, fun a h => .inr h⟩
              | cons x ds ih =>
                intro vs B1 q dj
                cases q with
                | @cons _ _ _ _ Ba Bb q1 q2 dd =>
                  obtain ⟨B2, q3, s3⟩ := ih q2 dj.l2
                  refine ⟨Ba ++ B2, .cons q1 q3 (fun a ha hb => ?_), fun a ha => ?_⟩
                  · rcases s3 a hb with w | w
                    · exact dd a ha w
                    · exact dj a (by simp [ha]) w
                  · rcases List.mem_append.mp ha with w | w
                    · simp [w]
                    · rcases s3 a w with w | w <;> simp [w]
            obtain ⟨B8, q8, s8⟩ := app qa dcB
            refine ⟨hlt, _, O7, accD ++ [d], accV ++ [y], B8, r8, upd_same, q8, fun z => ?_, nO7, fun a ha hb => ?_, fun a u e n => ?_, fun a ha => s13 s36 a (s7 a ha), fun a ha => ?_, ec⟩
            · rcases s8 D z with w | w
              · exact nB w
              · exact nB6 w
            · rcases s8 a ha with w | w
              · exact dc6 a w (s7 a hb)
              · exact d6 a w (s7 a hb)
            · have hne : a ≠ D := fun z => by subst z; rw [hD] at e; cases e
              rw [upd_ne hne]
              have e5 := e15 a u e n
              refine x6 a u e5 fun z => ?_
              rcases s13 s35 a z with w | w
              · exact n w
              · rw [e] at w; cases w
            · rcases s8 a ha with w | w
              · exact sB a w
              · exact s13 s36B a w
        · have hend : i = xs.length := by omega
          subst hend
          rw [List.drop_length] at ec
          cases ec
          refine .inl ⟨zs (Nat.le_refl _), ?_⟩
          have os2 : ∀ i ∈ own.map (·.2), ∃ x, σ[i]? = some x ∧ SlR X.prog X.w X.K Hc (env1.getD i .no) x [] := fun i hi => by
            obtain ⟨x, ex, q⟩ := oslots i hi
            exact ⟨x, ex, q.stay prs1 fun _ h => nomatch h⟩
          obtain ⟨O9, r9, s9⟩ := RE.unwipe rc os2
          refine ⟨O9, D :: Bc, r9, .lstO eD qc nB, fun a ha hb => ?_, fun a u e n => ?_, fun a ha => ?_, fun a ha => ?_⟩
          · rcases List.mem_cons.mp ha with w | w
            · subst w; exact nO (s9 a hb)
            · exact dBO a w (s9 a hb)
          · refine xc a u (x1 a u e n) fun z => ?_
            rcases s1 a z with w | w
            · exact n w
            · rw [e] at w; cases w
          · exact Sub.trans x1 s1 sO a (s9 a ha)
          · rcases List.mem_cons.mp ha with w | w
            · subst w
              exact Sub.trans x1 s1 (A := [a]) (fun b hb => .inr (by simp at hb; subst hb; exact hD)) a (by simp)
            · exact Sub.trans x1 s1 sB a w
end
end Z

set_option Elab.async false
set_option linter.all false
set_option maxRecDepth 100000
set_option maxHeartbeats 1000000
namespace Z
open PySem L2 PyProof.Rows
section
variable {X : Cx} {pins : List (Addr × Obj)} {σ : L2.St} {s s' : Shared}
/-! ## dict displays -/
def flatP : List (Value × Value) → List Value | [] => [] | (a, b) :: r => a :: b :: flatP r
def flatD : List (D × D) → List D | [] => [] | (a, b) :: r => a :: b :: flatD r
theorem unflat_eq : ∀ {ds : List D} {kvs : List (D × D)}, unflat ds = some kvs → ds = flatD kvs
  | [], kvs, h => by cases h; rfl
  | [_], kvs, h => by cases h
  | k :: v :: r, kvs, h => by
    obtain ⟨q, e, rfl⟩ := Option.map_eq_some_iff.mp (show (unflat r).map ((k, v) :: ·) = some kvs from h)
    rw [unflat_eq e]; rfl
def PostKV (X : Cx) (pins : List (Addr × Obj)) (σ : L2.St) (H : Hp) (O : List Addr) (p : List Opd × Env) (us : List (Value × Value)) (s' : Shared) : Prop := PostOs X pins σ H O p (flatP us) s'
def SKV (X : Cx) (ks : List (Option PySem.Expr)) (vs : List PySem.Expr) (F : Evs) : Prop := ∀ (pos : Pos) (pins : List (Addr × Obj)) (s : Shared) (σ : L2.St) (H : Hp) (env : Env) (O : List Addr), Inv X pins σ H s → XRE X H env σ O →
  Gl' (PostKV X pins σ H O) (F env) fun Q => wpAny (model X.prog X.w) X.A (evalPairs (pairTrees ks vs X.env pos)) Q X.xe s
theorem skv_nil : SKV X [] [] fun env => .ok ([], env) := fun pos pins s σ H env O I r => pairTrees_nil_walk ⟨[], H, O, [], Stp.refl I r, .nil, .nil, Dis.nil, Sub.nil⟩
theorem skv_cons {k v : PySem.Expr} {ks : List (Option PySem.Expr)} {vs : List PySem.Expr} {A B : Ev} {C : Evs} (ha : SE X k A) (hb : SE X v B) (hc : SKV X ks vs C) : SKV X (some k :: ks) (v :: vs) (fsCons A (fsCons B C)) := by
  intro pos pins s σ H env O I r
  have e0 : fsCons A (fsCons B C) env = (A env).bind fun p => (B p.2).bind fun q => (C q.2).bind fun t => .ok (p.1 :: q.1 :: t.1, t.2) := by
    unfold fsCons
    cases A env with
    | ok p =>
      show R.bind (R.bind (B p.2) _) _ = R.bind (B p.2) _
      cases B p.2 with
      | ok q =>
        show R.bind (R.bind (C q.2) _) _ = R.bind (C q.2) _
        cases C q.2 <;> rfl
      | exc _ _ => rfl
      | bad => rfl
    | exc _ _ => rfl
    | bad => rfl
  rw [e0]
  refine Gl'.of (goal' := fun Q => wpAny (model X.prog X.w) X.A (eval k X.env) (fun kv s₁ => wpAny (model X.prog X.w) X.A (eval v X.env) (fun vv s₂ => wpAny (model X.prog X.w) X.A (evalPairs (pairTrees ks vs X.env pos)) (fun r s₃ => Q ((kv, vv) :: r) s₃) X.xe s₂) X.xe s₁) X.xe s) (fun Q h => pairTrees_cons_walk h)
    (two (REST := fun Q kv vv s₂ => wpAny (model X.prog X.w) X.A (evalPairs (pairTrees ks vs X.env pos)) (fun r s₃ => Q ((kv, vv) :: r) s₃) X.xe s₂) ha hb I r fun p q u w s2 v x H' O' B' C' T => ?_)
  refine Gl'.seq (REST := fun Q r s₃ => Q ((u, w) :: r) s₃) (hc pos pins s2 σ H' q.2 O' T.st.inv T.st.re) fun t us s3 ht => ?_
  obtain ⟨ws, H3, O3, C3, st3, rvs, ros, dj3, sb3⟩ := ht
  have o1 := st3.ext.keepO T.st.re.own T.o1 T.d1
  have o2 := st3.ext.keepO T.st.re.own T.o2 T.d2
  have d23 : Dis C' C3 := dis_sub T.d2 T.o2.own sb3
  have d13 : Dis B' C3 := dis_sub T.d1 T.o1.own sb3
  exact ⟨v :: x :: ws, H3, O3, B' ++ (C' ++ C3), T.st.trans st3, .cons T.r1 (.cons T.r2 rvs), .cons o1 (.cons o2 ros d23) (Dis.appR T.d3 d13), Dis.appL (dis_sub T.d1 T.o1.own st3.sub) (Dis.appL (dis_sub T.d2 T.o2.own st3.sub) dj3), T.s1.app (T.s2.app (T.st.old sb3))⟩
theorem stored_new {K : Type} [DecidableEq K] {kvs : List (K × Value)} {k : K} {v : Value} (h : k ∉ kvs.map (·.1)) : stored kvs k v = kvs ++ [(k, v)] := by
  unfold stored
  rw [if_neg]
  intro z
  obtain ⟨q, hq, e⟩ := List.any_eq_true.mp z
  exact h (List.mem_map.mpr ⟨q, hq, by simpa using e⟩)
theorem merged_app {K : Type} [DecidableEq K] : ∀ (more acc : List (K × Value)), ((acc ++ more).map (·.1)).Nodup → merged acc more = acc ++ more
  | [], acc, _ => by simp [merged]
  | (k, v) :: more, acc, h => by
    have hk : k ∉ acc.map (·.1) := by
      rw [List.map_append, List.nodup_append] at h
      intro z
      exact h.2.2 k z k (by simp) rfl
    have ih := merged_app more (acc ++ [(k, v)]) (by simpa using h)
    show merged (stored acc k v) more = _
    rw [stored_new hk, ih]
    simp
theorem rz_scal {H : Hp} {d : D} {v : V} {B : List Addr} (r : XRz X H d v B) (h : isScal d = true) : ∃ k : Key, v = kV k ∧ B = [] ∧ d.key = some (match k with | .inl i => .num i | .inr x => .text x) ∧ ∀ u, RelV v u → keyIs k u = true := by
  cases r with
  | int i => exact ⟨.inl i, rfl, rfl, rfl, fun u ⟨t, e⟩ => by subst e; exact keyIs_int i t⟩
  | str x => exact ⟨.inr x, rfl, rfl, rfl, fun u ⟨t, e⟩ => by subst e; exact keyIs_str x t⟩
  | _ => cases h
theorem kv_scal {H : Hp} : ∀ {kvs : List (D × D)} {prs : List (Value × Value)} {vs : List V} {B : List Addr}, XRzL X H (flatD kvs) vs B → Vals vs (flatP prs) → (kvs.all fun q => isScal q.1) = true →
    ∃ (es : List (Key × V)) (kv : List (Key × Value)), Carries (mixKind X.prog X.w) prs kv ∧ KV es kv ∧ XRzL X H (kvs.map (·.1)) (es.map fun e => kV e.1) [] ∧ XRzL X H (kvs.map (·.2)) (es.map (·.2)) B ∧
      D.keys (kvs.map (·.1)) = some (es.map fun e => match e.1 with | .inl i => .num i | .inr x => .text x) ∧ es.length = kvs.length
  | [], prs, vs, B, r, rv, h => by
    cases r
    cases prs with
    | nil => exact ⟨[], [], trivial, .nil, .nil, .nil, rfl, rfl⟩
    | cons p ps => obtain ⟨a, b⟩ := p; cases rv
  | (a, b) :: kvs, prs, vs, B, r, rv, h => by
    cases r with
    | @cons _ _ va vs1 B1 B2 ra r1 d1 =>
      cases r1 with
      | @cons _ _ vb vs2 B3 B4 rb r2 d2 =>
        cases prs with
        | nil => cases rv
        | cons p ps =>
          obtain ⟨ua, ub⟩ := p
          cases rv with
          | cons q1 q2 =>
            cases q2 with
            | cons q2 q3 =>
              simp only [List.all_cons, Bool.and_eq_true] at h
              obtain ⟨k, rfl, rfl, hk, hi⟩ := rz_scal ra h.1
              obtain ⟨es, kv, c1, c2, c3, c4, c5, c6⟩ := kv_scal r2 q3 h.2
              refine ⟨(k, vb) :: es, (k, ub) :: kv, ⟨hi ua q1, rfl, c1⟩, .cons ⟨rfl, q2⟩ c2, RzL.cons (O1 := []) (O2 := []) ra c3 Dis.nil, ?_, ?_, by simp [c6]⟩
              · exact (RzL.cons rb c4 d2 : XRzL X H (b :: kvs.map (·.2)) (vb :: es.map (·.2)) (B3 ++ B4))
              · simp only [List.map_cons, D.keys, hk, c5]
theorem nested_at {H : Hp} (I : Inv X pins σ H s) {d : D} {v : V} {u : Value} {B : List Addr} (r : XRz X H d v B) (rv : RelV v u) (h : isTup d = true) (hz : d.fz = true) (hd : d.depth ≤ 8) {k : NestedKey} (hk : d.key = some k) :
    ∃ a, v = .ref a ∧ u = .ref a ∧ B = [] ∧ (nestedKind X.prog X.w).is s.heap k a := by
  have hB := r.fz0 hz
  subst hB
  have vw := r.vw
  obtain ⟨n1, n2⟩ := Vw.nested I vw rv hk
  cases r with
  | tup e r => cases rv; exact ⟨_, rfl, rfl, rfl, n1, by rw [n2]; exact hd⟩
  | _ => cases h
theorem kv_tup {H : Hp} (I : Inv X pins σ H s) : ∀ {kvs : List (D × D)} {prs : List (Value × Value)} {vs : List V} {B : List Addr} {ns : List NestedKey}, XRzL X H (flatD kvs) vs B → Vals vs (flatP prs) → (kvs.all fun q => isTup q.1) = true → (kvs.all fun q => q.1.fz && decide (q.1.depth ≤ 8)) = true → D.keys (kvs.map (·.1)) = some ns →
    ∃ (es : List (NestedKey × Addr × V)) (ps : List (NestedKey × Addr × Value)), CarriesH (nestedKind X.prog X.w) s.heap prs ps ∧ Paired (fun (p : NestedKey × Addr × V) (q : NestedKey × Addr × Value) => p.1 = q.1 ∧ p.2.1 = q.2.1 ∧ RelV p.2.2 q.2.2) es ps ∧
      XRzL X H (kvs.map (·.1)) (es.map fun e => .ref e.2.1) [] ∧ XRzL X H (kvs.map (·.2)) (es.map fun e => e.2.2) B ∧ ns = es.map (·.1) ∧ es.length = kvs.length
  | [], prs, vs, B, ns, r, rv, h, h2, hk => by
    cases r; cases hk
    cases prs with
    | nil => exact ⟨[], [], trivial, .nil, .nil, .nil, rfl, rfl⟩
    | cons p ps => obtain ⟨a, b⟩ := p; cases rv
  | (a, b) :: kvs, prs, vs, B, ns, r, rv, h, h2, hk => by
    cases r with
    | @cons _ _ va vs1 B1 B2 ra r1 d1 =>
      cases r1 with
      | @cons _ _ vb vs2 B3 B4 rb r2 d2 =>
        cases prs with
        | nil => cases rv
        | cons p ps =>
          obtain ⟨ua, ub⟩ := p
          cases rv with
          | cons q1 q2 =>
            cases q2 with
            | cons q2 q3 =>
              simp only [List.all_cons, Bool.and_eq_true, decide_eq_true_eq] at h h2
              cases e1 : a.key with
              | none => simp [D.keys, e1] at hk
              | some k =>
                cases e2 : D.keys (kvs.map (·.1)) with
                | none => simp [D.keys, e1, e2] at hk
                | some ns' =>
                  simp only [List.map_cons, D.keys, e1, e2, Option.some.injEq] at hk
                  subst hk
                  obtain ⟨ad, rfl, rfl, rfl, hi⟩ := nested_at I ra q1 h.1 h2.1.1 h2.1.2 e1
                  obtain ⟨es, ps', c1, c2, c3, c4, c5, c6⟩ := kv_tup I r2 q3 h.2 (by simpa using h2.2) e2
                  exact ⟨(k, ad, vb) :: es, (k, ad, ub) :: ps', ⟨rfl, rfl, hi, c1⟩, .cons ⟨rfl, rfl, q2⟩ c2, RzL.cons (O1 := []) (O2 := []) ra c3 Dis.nil, (RzL.cons rb c4 d2 : XRzL X H (b :: kvs.map (·.2)) (vb :: es.map fun e => e.2.2) (B3 ++ B4)), by rw [c5]; rfl, by simp [c6]⟩
theorem takes_ok' {os : List Opd} {H : Hp} {env : Env} {O B : List Addr} {vs : List V} {q : List D × Env} (I : Inv X pins σ H s) (r : XRE X H env σ O) (ro : XROs X H σ os vs B) (dj : Dis B O) (h : takes os env = some q) :
    ∃ H' O' B', Gh X pins σ s H O H' O' ∧ XRE X H' q.2 σ O' ∧ XRzL X H' q.1 vs B' ∧ Dis B' O' ∧ ∀ a ∈ B', a ∈ B := takes_ok I r ro dj h
theorem kv_fst {es : List (Key × V)} {kv : List (Key × Value)} (c : KV es kv) : kv.map (·.1) = es.map (·.1) := by
  induction c with
  | nil => rfl
  | cons r rs ih => simp [r.1, ih]
theorem kv_fst3 {es : List (NestedKey × Addr × V)} {ps : List (NestedKey × Addr × Value)} (c : Paired (fun (p : NestedKey × Addr × V) (q : NestedKey × Addr × Value) => p.1 = q.1 ∧ p.2.1 = q.2.1 ∧ RelV p.2.2 q.2.2) es ps) : ps.map (·.1) = es.map (·.1) := by
  induction c with
  | nil => rfl
  | cons r rs ih => simp [r.1, ih]
/-- an object of ours that was not tracked is written, and is tracked -/
theorem _root_.L2.Inv.taken {H : Hp} {d : Addr} {u : HO} {h' : Heap} {tk : Nat} (J : Inv X pins σ H s) (nd : H d = none) (f : FpOk X pins H d) (same : Heap.SameBut d s.heap h') (there : ∃ o, h'.get? d = some o) (ok : ObjOk X.prog X.w (upd H d u) h' d u) : Inv X pins σ (upd H d u) { s with heap := h', toks := tk } := by
  obtain ⟨f0, f1, f2, f3, f4, f5⟩ := f
  have ne : ∀ b o, H b = some o → b ≠ d := fun b o e z => by subst z; rw [nd] at e; cases e
  refine J.step (g' := s.gens) (d' := s.drawn) (ch := [d]) (fun b hb => ?_) (fun b o _ _ hc e _ => (same.2 b (by simpa using hc)).trans e) (fun b o _ _ hc e _ => ⟨o.slots, (same.2 b (by simpa using hc)).trans e⟩) (fun b o hc _ n => ?_) (fun b o hc e => ⟨o, (same.2 b (by simpa using hc)).trans e⟩)
    (fun b xs e => by rw [upd_ne (ne b _ e)]; exact e) (fun b o v e => by rw [upd_ne (ne b _ e)]; exact e) (fun b ps e => ⟨#[], by rw [upd_ne (ne b _ e), e]; simp⟩) (fun m hm => ?_) (fun b v e => ?_) J.bare
  · have e : b = d := by simpa using hb
    subst e
    exact ⟨f3, f1, f4, f5⟩
  · rw [upd_ne (by simpa using hc)]; exact n
  · obtain ⟨o, es, ep, ho, r⟩ := hm
    exact ⟨o, es, ep, (same.2 _ (Ne.symm f1)).trans ho, r⟩
  · by_cases hb : b = d
    · subst hb
      rw [upd_same] at e; cases e
      exact ok
    · rw [upd_ne hb] at e
      refine (J.hok b v e).stay (fun c w hc q => (same.2 c ?_).trans q) (fun c q => by rw [upd_ne (ne c _ q)]; exact q) fun c xs q => by rw [upd_ne (ne c _ q)]; exact q
      rcases hc with rfl | hc
      · exact hb
      · exact ne c _ hc
/-- the empty dict -/
theorem se_dct0 {pos : Pos} (g : Gd X) : SE X (.Dict [] [] pos) (fDct fun env => .ok ([], env)) := by
  intro pins s σ H env O I r
  have hf : H s.heap.objs.size = none := I.hok.fresh (Nat.le_refl _)
  have hsys : (s.heap.objs.size == sysModules) = false := by
    obtain ⟨o, ho⟩ := g.sys
    have := Heap.lt_size (I.bs _ _ ho).1
    simp only [beq_eq_false_iff_ne, ne_eq]
    intro z
    rw [z] at this
    exact absurd this (Nat.lt_irrefl _)
  have e0 : fDct (fun env => .ok ([], env)) env = .ok (.val (.dic true []), env) := rfl
  rw [e0]
  have nw := upd_new (u := .dK []) hf
  refine wpAny_Dict_empty ⟨.ref s.heap.objs.size, upd H s.heap.objs.size (.dK []), O, [s.heap.objs.size], ⟨I.laid (t' := s.toks) (fun b u e => Heap.get?_push_of_some _ e) (Nat.le_refl _) ⟨Nat.zero_le _, hsys, [], .nil, Heap.DictOf.new s.heap⟩,
    r.stay (fun a u e _ => nw a u e) (fun a _ u e => nw a u e), fun a u e _ => nw a u e, Sub.refl⟩, rfl, .val (.dicO upd_same (.k []) rfl (fun _ h => nomatch h) .nil .nil (fun h => nomatch h)), fun a ha hO => ?_, fun a ha => .inr (by simp at ha; subst ha; exact hf)⟩
  simp at ha
  subst ha
  obtain ⟨u, e, _⟩ := r.own _ hO
  rw [hf] at e; cases e
theorem se_dct {k v : PySem.Expr} {ks : List (Option PySem.Expr)} {vs : List PySem.Expr} {A : Evs} {pos : Pos} (g : Gd X) (hall : ks.all (·.isSome) = true) (hl : ks.length = vs.length) (hlen : ks.length < 15) (h : SKV X (some k :: ks) (v :: vs) A) : SE X (.Dict (some k :: ks) (v :: vs) pos) (fDct A) := by
  intro pins s σ H env O I r
  cases e0 : fDct A env with
  | exc _ _ => exact True.intro
  | bad => exact True.intro
  | ok res =>
  show wpAny _ _ _ (PostO X pins σ H O res) _ _
  unfold fDct at e0
  cases eA : A env with
  | exc _ _ => rw [eA] at e0; cases e0
  | bad => rw [eA] at e0; cases e0
  | ok p =>
  rw [eA] at e0
  have e0 : (match takes p.1 p.2 with
    | some (ds, e) => (match unflat ds with | some kvs => if okKV kvs && decide (kvs.length ≤ 15) then R.ok (Opd.val (.dic true kvs), e) else .bad | none => .bad)
    | none => .bad) = .ok res := e0
  cases eT : takes p.1 p.2 with
  | none => rw [eT] at e0; cases e0
  | some q =>
  rw [eT] at e0
  have e0 : (match unflat q.1 with | some kvs => if okKV kvs && decide (kvs.length ≤ 15) then R.ok (Opd.val (.dic true kvs), q.2) else .bad | none => .bad) = .ok res := e0
  cases eU : unflat q.1 with
  | none => rw [eU] at e0; cases e0
  | some kvs =>
  rw [eU] at e0
  have e0 : (if okKV kvs && decide (kvs.length ≤ 15) then R.ok (Opd.val (.dic true kvs), q.2) else .bad) = .ok res := e0
  split at e0
  case isFalse => cases e0
  case isTrue hok =>
  cases e0
  simp only [okKV, Bool.and_eq_true, Bool.or_eq_true, decide_eq_true_eq] at hok
  obtain ⟨⟨⟨hk1, hk2⟩, hk3⟩, hk4⟩ := hok
  cases eN : D.keys (kvs.map (·.1)) with
  | none => rw [eN] at hk3; cases hk3
  | some ns =>
  rw [eN] at hk3
  have hnd : ns.Nodup := of_decide_eq_true hk3
  have hdep : ∀ k ∈ kvs, k.1.depth ≤ 8 := fun k hk => by
    have := List.all_eq_true.mp hk1 k hk
    simp only [Bool.and_eq_true, decide_eq_true_eq] at this
    exact this.2
  have hsz : kvs.length ≤ sizeLine := Nat.le_trans hk4 (by rw [sizeLine_eq]; decide)
  -- the new dict, while the pairs are looked at
  generalize hd : s.heap.objs.size = d
  have hf : H d = none := by subst hd; exact I.hok.fresh (Nat.le_refl _)
  have I1 : Inv X pins σ H { s with heap := s.heap.push { cls := .type "dict", data := .dict #[] } } := I.kept (t' := s.toks) fun b o e => Heap.get?_push_of_some _ e
  have gd : (s.heap.push { cls := .type "dict", data := .dict #[] }).get? d = some { cls := .type "dict", data := .dict #[] } := by subst hd; exact Heap.get?_push_size _ rfl
  obtain ⟨fp0, fp1, fp2, fp3, fp4, fp5⟩ := I.fpOk (H' := H) (b := d) (by subst hd; exact Nat.le_refl _) hf
  have I2 : Inv X (pins ++ [(d, { cls := .type "dict", data := .dict #[] })]) σ H { s with heap := s.heap.push { cls := .type "dict", data := .dict #[] } } := I1.pins_of fun p hp => by
    rcases List.mem_append.mp hp with z | z
    · exact I1.pin p (List.mem_append_right _ z)
    · rw [List.mem_singleton] at z
      subst z
      exact ⟨gd, fp0, fp1, fp2, fun v z => nomatch z⟩
  have hsys : (d == sysModules) = false := by
    obtain ⟨o, ho⟩ := g.sys
    have := Heap.lt_size (I.bs _ _ ho).1
    rw [hd] at this
    simp only [beq_eq_false_iff_ne, ne_eq]
    intro z
    rw [z] at this
    exact absurd this (Nat.lt_irrefl _)
  -- behind the pairs
  have pairs : ∀ {Q : List (Value × Value) → Shared → Prop}, (∀ prs s1 vs2 H2 O2 B2, Inv X pins σ H2 s1 → s1.heap.get? d = some { cls := .type "dict", data := .dict #[] } → H2 d = none → XRE X H2 q.2 σ O2 → Ext O H H2 → Sub H O O2 → XRzL X H2 (flatD kvs) vs2 B2 → Vals vs2 (flatP prs) → Dis B2 O2 → Sub H O B2 → Q prs s1) →
      wpAny (model X.prog X.w) X.A (evalPairs (pairTrees (some k :: ks) (v :: vs) X.env pos)) Q X.xe { s with heap := s.heap.push { cls := .type "dict", data := .dict #[] } } := fun {Q} hq => by
    have h1 := h pos _ _ σ H env O I2 r
    rw [eA] at h1
    refine thn h1 fun prs s1 ⟨vs1, H1, O1, B1, st, rv, ro, dj, sb⟩ => ?_
    obtain ⟨H2, O2, B2, G, r2, q2, dj2, sb2⟩ := takes_ok' st.inv st.re ro dj eT
    rw [unflat_eq eU] at q2
    have pin := G.inv.pin (d, { cls := .type "dict", data := .dict #[] }) (List.mem_append_right _ (List.mem_append_right _ (by simp)))
    have st2 := st.trans ⟨G.inv, r2, G.ext, .of G.sub⟩
    exact hq prs s1 vs1 H2 O2 B2 G.inv.unpinned pin.1 pin.2.1 r2 st2.ext st2.sub q2 rv dj2 fun a ha => sb a (sb2 a ha)
  -- the dict is there
  have fin : ∀ {s1 : Shared} {h' : Heap} {tk : Nat} {H2 : Hp} {O2 B2 : List Addr} {u : HO} {kvals vvals : List V}, Inv X pins σ H2 s1 → H2 d = none → XRE X H2 q.2 σ O2 → Ext O H H2 → Sub H O O2 → Dis B2 O2 → Sub H O B2 → Heap.SameBut d s1.heap h' → (∃ o, h'.get? d = some o) → ObjOk X.prog X.w (upd H2 d u) h' d u →
      DU X.prog X.w d u ns kvals vvals → XRzL X H2 (kvs.map (·.1)) kvals [] → XRzL X H2 (kvs.map (·.2)) vvals B2 → PostO X pins σ H O (.val (.dic true kvs), q.2) (.ref d) { s1 with heap := h', toks := tk } := by
    intro s1 h' tk H2 O2 B2 u kvals vvals J nd r2 x2 s2 dj2 sb2 same hthere hobj du rk rvv
    have nw := upd_new (u := u) nd
    have J2 : Inv X pins σ (upd H2 d u) { s1 with heap := h', toks := tk } := J.taken nd ⟨nd, fp1, fp2, fp3, fp4, fp5⟩ same hthere hobj
    refine ⟨.ref d, upd H2 d u, O2, d :: B2, ⟨J2, r2.stay (fun a u e _ => nw a u e) (fun a _ u e => nw a u e), fun a u e n => nw a u (x2 a u e n), s2⟩, rfl, .val (.dicO upd_same du eN hdep (rk.stay (fun a u e _ => nw a u e) (fun _ h => nomatch h)) (rvv.stay (fun a u e _ => nw a u e) (fun a _ u e => nw a u e)) fun z => ?_), fun a ha hO => ?_, fun a ha => ?_⟩
    · obtain ⟨u, e, _⟩ := rvv.own d z
      rw [nd] at e; cases e
    · rcases List.mem_cons.mp ha with w | w
      · subst w
        obtain ⟨u, e, _⟩ := r2.own a hO
        rw [nd] at e; cases e
      · exact dj2 a w hO
    · rcases List.mem_cons.mp ha with w | w
      · subst w; exact .inr hf
      · exact sb2 a w
  rcases hk2 with hk2 | hk2
  · subst hd
    refine wpAny_Dict_walk (knd := mixKind X.prog X.w) (by simpa using hall) (by simp [hl]) (by simp) (by simp; omega) (pairs fun prs s1 vs2 H2 O2 B2 J gd2 nd r2 x2 s2 q2 rv dj2 sb2 => ?_)
    obtain ⟨es, kv, c1, c2, c3, c4, c5, c6⟩ := kv_scal q2 rv hk2
    rw [eN] at c5
    cases c5
    have hkn : (kv.map (·.1)).Nodup := by
      rw [kv_fst c2]
      have hh : ((es.map (·.1)).map fun k => match k with | .inl i => NestedKey.num i | .inr x => .text x).Nodup := by
        rw [List.map_map]; exact hnd
      exact (List.pairwise_map.mp hh).imp fun hne z => hne (by rw [z])
    refine ⟨kv, c1, ⟨_, #[], 0, gd2, ⟨rfl, rfl, rfl⟩, rfl, (fun x hx => by simp at hx), Pairs.nil, List.nodup_nil⟩, fun h' hm same => ?_⟩
    rw [merged_app kv [] (by simpa using hkn), List.nil_append] at hm
    obtain ⟨o, eses, ep, ho, rest⟩ := id hm
    exact fin (u := .dK es) J nd r2 x2 s2 dj2 sb2 same ⟨o, ho⟩ ⟨by rw [c6]; exact hsz, hsys, kv, c2, hm⟩ (.k es) c3 c4
  · subst hd
    rw [arm_eval_Dict, zip_pairTrees _ _ _ _ (by simpa using hall) (by simp [hl]), dictDisplay_pairs _ (by simp [pairTrees]) (by rw [pairTrees_length _ _ _ _ (by simpa using hall) (by simp [hl])]; simp; omega)]
    refine wpAny_bind (wpAny_standAt (wpAny_bind (wpAny_subDictH (knd := nestedKind X.prog X.w) (by show X.A.units + 8 < cLine; have := g.un; omega) (by rw [pairTrees_length _ _ _ _ (by simpa using hall) (by simp [hl])]; simp; omega) (pairs fun prs s1 vs2 H2 O2 B2 J gd2 nd r2 x2 s2 q2 rv dj2 sb2 => ?_))))
    obtain ⟨es, ps, c1, c2, c3, c4, c5, c6⟩ := kv_tup J q2 rv hk2 (by simpa using hk1) eN
    have e1 : ps.map (·.1) = es.map (·.1) := kv_fst3 c2
    refine ⟨ps, c1, ⟨_, #[], 0, gd2, ⟨rfl, rfl, rfl⟩, rfl, rfl, (fun x hx => by simp at hx), List.nodup_nil⟩, fun h' tk hm same => wpAny_pure ?_⟩
    rw [storedAllH_nil_of_nodup ps (by rw [e1, ← c5]; exact hnd)] at hm
    obtain ⟨o, eses, ep, ho, ex, hdat, hes, his, hnn⟩ := id hm
    subst c5
    exact fin (u := dtO X.prog X.w s.heap.objs.size es) J nd r2 x2 s2 dj2 sb2 same ⟨o, ho⟩ (dtP_ok ⟨by rw [c6]; exact hsz, hsys, hnd, ps, c2, o, eses, ep, ho, ex, hdat, hes⟩) (.t es) c3 c4
end
end Z

set_option Elab.async false
set_option linter.all false
set_option maxRecDepth 100000
set_option maxHeartbeats 1000000
namespace Z
open PySem L2 PyProof.Rows
section
variable {X : Cx} {pins : List (Addr × Obj)} {σ : L2.St} {s s' : Shared}
/-! ## statements -/
def PostS (X : Cx) (io : List Nat) (pins : List (Addr × Obj)) (σ : L2.St) (H : Hp) (O : List Addr) (p : Fl × Env) (f : Flow) (s' : Shared) : Prop := match p.1 with
  | .nx => f = .next ∧ ∃ σ' H' O', Stp X pins σ' H O p.2 s' H' O' ∧ Kp io σ σ'
  | .bk => f = .brk ∧ ∃ σ' H' O', Stp X pins σ' H O p.2 s' H' O' ∧ Kp io σ σ'
  | .ct => f = .cont ∧ ∃ σ' H' O', Stp X pins σ' H O p.2 s' H' O' ∧ Kp io σ σ'
  | .rt d => ∃ u v σ1 σ2 H' O' B, f = .ret u ∧ Inv X pins σ1 H' s' ∧ RelV v u ∧ XRE X H' p.2 σ2 O' ∧ Kp io σ σ2 ∧ XRz X H' d v B ∧ Dis B O' ∧ Ext O H H' ∧ Sub H O O' ∧ Sub H O B
def SS (X : Cx) (io : List Nat) (st : PySem.Stmt) (F : Eb) : Prop := ∀ (pins : List (Addr × Obj)) (s : Shared) (σ : L2.St) (H : Hp) (env : Env) (O : List Addr), Inv X pins σ H s → XRE X H env σ O →
  Gl' (PostS X io pins σ H O) (F env) fun Q => wpAny (model X.prog X.w) X.A (exec st X.env) Q X.xe s
def SSs (X : Cx) (io : List Nat) (st : List PySem.Stmt) (F : Eb) : Prop := ∀ (pins : List (Addr × Obj)) (s : Shared) (σ : L2.St) (H : Hp) (env : Env) (O : List Addr), Inv X pins σ H s → XRE X H env σ O →
  Gl' (PostS X io pins σ H O) (F env) fun Q => wpAny (model X.prog X.w) X.A (execs st X.env) Q X.xe s
theorem Stp.trans' {σ' : L2.St} {H H1 H2 : Hp} {O O1 O2 : List Addr} {e1 e2 : Env} {s1 s2 : Shared} (a : Stp X pins σ H O e1 s1 H1 O1) (b : Stp X pins σ' H1 O1 e2 s2 H2 O2) : Stp X pins σ' H O e2 s2 H2 O2 :=
  ⟨b.inv, b.re, a.ext.trans a.sub b.ext, Sub.trans a.ext a.sub b.sub⟩
theorem PostS.up {σ' : L2.St} {io : List Nat} {H H1 : Hp} {O O1 : List Addr} {e1 : Env} {s1 : Shared} {p : Fl × Env} {f : Flow} (a : Stp X pins σ' H O e1 s1 H1 O1) (kp : Kp io σ σ') (h : PostS X io pins σ' H1 O1 p f s') : PostS X io pins σ H O p f s' := by
  unfold PostS at h ⊢
  obtain ⟨fl, en⟩ := p
  cases fl with
  | nx => obtain ⟨e, σ', H', O', st, k⟩ := h; exact ⟨e, σ', H', O', a.trans' st, kp.trans k⟩
  | bk => obtain ⟨e, σ', H', O', st, k⟩ := h; exact ⟨e, σ', H', O', a.trans' st, kp.trans k⟩
  | ct => obtain ⟨e, σ', H', O', st, k⟩ := h; exact ⟨e, σ', H', O', a.trans' st, kp.trans k⟩
  | rt d =>
    obtain ⟨u, v, σ1, σ2, H', O', B, e, I', rv, r', k, rz, dj, x', s2, sb⟩ := h
    exact ⟨u, v, σ1, σ2, H', O', B, e, I', rv, r', kp.trans k, rz, dj, a.ext.trans a.sub x', Sub.trans a.ext a.sub s2, a.old sb⟩
theorem sss_nil {io : List Nat} : SSs X io [] fun env => .ok (.nx, env) := fun pins s σ H env O I r => wpAny_execs_nil ⟨rfl, σ, H, O, Stp.refl I r, Kp.refl⟩
theorem sss_cons {io : List Nat} {st : PySem.Stmt} {rest : List PySem.Stmt} {A B : Eb} (h1 : SS X io st A) (h2 : SSs X io rest B) : SSs X io (st :: rest) (sSeq A B) := by
  intro pins s σ H env O I r
  refine Gl'.of (goal' := fun Q => wpAny (model X.prog X.w) X.A (exec st X.env) (fun f s' => match f with | .next => wpAny (model X.prog X.w) X.A (execs rest X.env) Q X.xe s' | f => Q f s') X.xe s) (fun Q h => wpAny_execs_cons h)
    (Gl'.seq (REST := fun Q f s' => match f with | .next => wpAny (model X.prog X.w) X.A (execs rest X.env) Q X.xe s' | f => Q f s') (h1 pins s σ H env O I r) fun p f s1 hp => ?_)
  obtain ⟨fl, en⟩ := p
  unfold PostS at hp
  cases fl with
  | nx =>
    obtain ⟨rfl, σ', H', O', st, kp⟩ := hp
    exact (h2 pins s1 σ' H' en O' st.inv st.re).up fun p u s h => PostS.up st kp h
  | bk => obtain ⟨rfl, hp⟩ := hp; exact ⟨rfl, hp⟩
  | ct => obtain ⟨rfl, hp⟩ := hp; exact ⟨rfl, hp⟩
  | rt d =>
    obtain ⟨u, v, σ', σ2, H', O', B, rfl, hp⟩ := hp
    exact ⟨u, v, σ', σ2, H', O', B, rfl, hp⟩
theorem ss_pass {io : List Nat} {pos : Pos} : SS X io (.Pass pos) fun env => .ok (.nx, env) := fun pins s σ H env O I r => wpAny_Pass ⟨rfl, σ, H, O, Stp.refl I r, Kp.refl⟩
theorem ss_brk {io : List Nat} {pos : Pos} : SS X io (.Break pos) fun env => .ok (.bk, env) := fun pins s σ H env O I r => wpAny_Break ⟨rfl, σ, H, O, Stp.refl I r, Kp.refl⟩
theorem ss_cnt {io : List Nat} {pos : Pos} : SS X io (.Continue pos) fun env => .ok (.ct, env) := fun pins s σ H env O I r => wpAny_Continue ⟨rfl, σ, H, O, Stp.refl I r, Kp.refl⟩
theorem ss_retN {io : List Nat} {pos : Pos} : SS X io (.Return none pos) fun env => .ok (.rt .non, env) := fun pins s σ H env O I r => wpAny_Return_none ⟨.none, .non, σ, σ, H, O, [], rfl, I, rfl, r, Kp.refl, .non, Dis.nil, Ext.refl, Sub.refl, Sub.nil⟩
theorem ss_doc {io : List Nat} {x : Str} {j : Nat} {pos pos' : Pos} : SS X io (.Expr (.Constant (.str x) j pos) pos') fun env => .ok (.nx, env) := fun pins s σ H env O I r =>
  wpAny_Expr (Calls.Constant_str (show PostS X io pins σ H O (.nx, env) .next { s with toks := s.toks + 1 } from ⟨rfl, σ, H, O, Stp.refl (I.tok _) r, Kp.refl⟩)) I.quiet
def noComp : PySem.Expr → Bool | .ListComp _ _ _ _ => false | .SetComp _ _ _ _ => false | .DictComp _ _ _ _ _ => false | _ => true
theorem noSwap {e : PySem.Expr} (h : noComp e = true) (t : Option PySem.Expr) (l : Nat) (env : PySem.Env) : swapsWith e t l env = pure false := by
  cases e <;> first | rfl | cases h
theorem ss_ex {io : List Nat} {e : PySem.Expr} {A : Ev} {pos : Pos} (hc : noComp e = true) (h : SE X e A) : SS X io (.Expr e pos) (sEx A) := by
  intro pins s σ H env O I r
  refine Gl'.of (goal' := fun Q => wpAny (model X.prog X.w) X.A (eval e X.env) (fun _ s1 => Q .next s1) X.xe s) (fun Q h => wpAny_Expr_any h I.quiet (noSwap hc _ _ _))
    (Gl'.seq (REST := fun Q _ s1 => Q Flow.next s1) (h pins s σ H env O I r) fun p u s1 hp => ?_)
  obtain ⟨v, H1, O1, B, st, _⟩ := hp
  exact ⟨rfl, σ, H1, O1, st, Kp.refl⟩
theorem ss_if {io : List Nat} {c : PySem.Expr} {a b : List PySem.Stmt} {C : Ev} {A B : Eb} {pos : Pos} (hc : ST X c C) (ha : SSs X io a A) (hb : SSs X io b B) : SS X io (.If c a b pos) (sIf C A B) := by
  intro pins s σ H env O I r
  refine Gl'.of (fun Q h => wpAny_If h) (Gl'.seqT (REST := fun Q c s2 => if c then wpAny (model X.prog X.w) X.A (execs a X.env) Q X.xe s2 else wpAny (model X.prog X.w) X.A (execs b X.env) Q X.xe s2) hc I r fun q s1 H1 O1 st => ?_)
  cases e : q.1 with
  | true => exact (ha pins s1 σ H1 q.2 O1 st.inv st.re).up fun p u s h => PostS.up st Kp.refl h
  | false => exact (hb pins s1 σ H1 q.2 O1 st.inv st.re).up fun p u s h => PostS.up st Kp.refl h
theorem ss_ret {e : PySem.Expr} {A : Ev} {io : List Nat} {pos : Pos} (h : SE X e A) : SS X io (.Return (some e) pos) (sRet io A) := by
  intro pins s σ H env O I r
  refine Gl'.of (goal' := fun Q => wpAny (model X.prog X.w) X.A (eval e X.env) (fun u s1 => Q (.ret u) s1) X.xe s) (fun Q h => wpAny_Return_some h)
    (Gl'.seq (REST := fun Q u s1 => Q (Flow.ret u) s1) (h pins s σ H env O I r) fun p u s1 hp => ?_)
  obtain ⟨v, H1, O1, B, st, rv, ro, dj, sb⟩ := hp
  obtain ⟨o, en⟩ := p
  have tk : ∀ {q : D × Env}, o.take en = some q → PostS X io pins σ H O (.rt q.1, q.2) (.ret u) s1 := fun {q} e => by
    obtain ⟨H2, O2, B2, G, r2, q2, dj2, sb2⟩ := take_ok (d := q.1) (env' := q.2) st.inv st.re ro dj e
    have st2 := st.trans ⟨G.inv, r2, G.ext, .of G.sub⟩
    exact ⟨u, v, σ, σ, H2, O2, B2, rfl, st2.inv, rv, r2, Kp.refl, q2, dj2, st2.ext, st2.sub, fun a ha => sb a (sb2 a ha)⟩
  cases o with
  | val d => exact tk (q := (d, en)) rfl
  | dsp t os =>
    show Gl' _ (match (Opd.dsp t os).take en with | some (d, e1) => R.ok (Fl.rt d, e1) | none => .bad) _
    cases e : (Opd.dsp t os).take en with
    | none => exact True.intro
    | some q => exact tk e
  | pl i =>
    show Gl' _ (match en.getD i .no with
      | .v d => if i ∈ io then R.ok (Fl.rt d.frz, en.set i (.v d.frz)) else .ok (.rt d, en.set i .no)
      | .r d => if d.imm then .ok (.rt d, en) else .bad
      | .q d => if d.imm then .ok (.rt d, en) else .bad
      | .no => .bad) _
    cases e : en.getD i .no with
    | no => exact True.intro
    | r d =>
      show Gl' _ (if d.imm then R.ok (Fl.rt d, en) else .bad) _
      split
      · rename_i hi
        exact tk (q := (d, en)) (by show (match en.getD i .no with | .v d => some (d.frz, en.set i (.v d.frz)) | .r d => if d.imm then some (d, en) else none | .q d => if d.imm then some (d, en) else none | .no => none) = _; rw [e]; simp [hi])
      · exact True.intro
    | q d =>
      show Gl' _ (if d.imm then R.ok (Fl.rt d, en) else .bad) _
      split
      · rename_i hi
        exact tk (q := (d, en)) (by show (match en.getD i .no with | .v d => some (d.frz, en.set i (.v d.frz)) | .r d => if d.imm then some (d, en) else none | .q d => if d.imm then some (d, en) else none | .no => none) = _; rw [e]; simp [hi])
      · exact True.intro
    | v d =>
      show Gl' _ (if i ∈ io then R.ok (Fl.rt d.frz, en.set i (.v d.frz)) else .ok (.rt d, en.set i .no)) _
      split
      · exact tk (q := (d.frz, en.set i (.v d.frz))) (by show (match en.getD i .no with | .v d => some (d.frz, en.set i (.v d.frz)) | .r d => if d.imm then some (d, en) else none | .q d => if d.imm then some (d, en) else none | .no => none) = _; rw [e])
      · obtain ⟨x, A1, B1, C1, eσ, q, eO, dd, up⟩ := st.re.at (getD_lt (by rw [e]; exact fun z => by cases z))
        have e : en.getD i .no = .v d := e
        rw [e] at q
        cases q with
        | v q =>
          cases ro with
          | pl e2 =>
            rw [eσ] at e2; cases e2
            have r2 := up H1 .no (some v) [] (fun _ _ e _ => e) (fun _ _ _ e => e) (.no _) Dis.nil
            rw [set_self eσ] at r2
            have sO : ∀ a ∈ A1 ++ ([] ++ C1), a ∈ O1 := fun a ha => by
              rw [eO]
              rcases List.mem_append.mp ha with z | z <;> simp at z ⊢ <;> simp [z]
            have st2 : Stp X pins σ H O (en.set i .no) s1 H1 (A1 ++ ([] ++ C1)) := ⟨st.inv, r2, st.ext, fun a ha => st.sub a (sO a ha)⟩
            exact ⟨u, v, σ, σ, H1, _, B1, rfl, st2.inv, rv, r2, Kp.refl, q, by simpa using dd, st2.ext, st2.sub, fun a ha => st.sub a (by rw [eO]; simp [ha])⟩
/-- name = .. -/
theorem ss_asg {tg e : PySem.Expr} {T : Et} {sl io : List Nat} {A : Ev} {pos : Pos} (hg : PG X tg (gZ X io T sl)) (he : SE X e A) (hs : swapsWithSole [tg] e pos.line X.env = pure false) (hw : swappedStores [tg] e X.env = pure none) (h1 : isStar tg = false) : SS X io (.Assign [tg] e pos) (sAsg T A) := by
  intro pins s σ H env O I r
  cases e0 : sAsg T A env with
  | exc _ _ => exact True.intro
  | bad => exact True.intro
  | ok res =>
  show wpAny _ _ _ (PostS X io pins σ H O res) _ _
  unfold sAsg at e0
  cases eA : taken A env with
  | exc _ _ => rw [eA] at e0; cases e0
  | bad => rw [eA] at e0; cases e0
  | ok p =>
  rw [eA] at e0
  have e0 : (T p.1 p.2).bind (fun e2 => R.ok (Fl.nx, e2)) = .ok res := e0
  cases eT : T p.1 p.2 with
  | exc _ _ => rw [eT] at e0; cases e0
  | bad => rw [eT] at e0; cases e0
  | ok en =>
  rw [eT] at e0
  cases e0
  have e1 : (assignEach [tg] X.env).map (·.2) = [assign tg X.env] := by cases tg <;> first | rfl | cases h1
  have run := (ps_asg (pos := pos) he.take hg hs hw e1).run pins s σ H { nx := fun σ' H' => ∃ O', XRE X H' en σ' O' ∧ Ext O H H' ∧ Sub H O O' ∧ Kp io σ σ', rt := fun _ _ => False } I
    ⟨env, O, p, r, eA, fun v H1 O1 B r1 q1 dj x1 s1 sB => ⟨p.2, O1, p.1, en, B, r1, q1, dj, eT, fun σ' H' O' r2 x2 s2 _ _ kp => ⟨O', r2, fun a u e n => x2 a u (x1 a u e n) fun z => ?_, Sub.trans x1 (s1.app sB) s2, kp⟩⟩⟩
  · refine thn run fun f s1 hf => ?_
    cases f with
    | next => obtain ⟨σ', H', I', O', r', x', s', kp⟩ := hf; exact ⟨rfl, σ', H', O', ⟨I', r', x', s'⟩, kp⟩
    | brk => obtain ⟨_, _, _, q⟩ := hf; exact q.elim
    | cont => obtain ⟨_, _, _, q⟩ := hf; exact q.elim
    | ret u => obtain ⟨_, _, _, _, _, q⟩ := hf; exact q.elim
  · rcases List.mem_append.mp z with w | w
    · rcases s1 a w with y | y
      · exact n y
      · rw [e] at y; cases y
    · rcases sB a w with y | y
      · exact n y
      · rw [e] at y; cases y
end
end Z

set_option Elab.async false
set_option linter.all false
set_option maxRecDepth 100000
set_option maxHeartbeats 1000000
namespace Z
open PySem L2 PyProof.Rows
section
variable {X : Cx} {pins : List (Addr × Obj)} {σ : L2.St} {s s' : Shared}
/-! ## in place -/
theorem aug_ok {H : Hp} (I : Inv X pins σ H s) (op : Bin) {x y z : D} {v u : V} {v' u' : Value} (kx : XVw X H x v) (ky : XVw X H y u) (rv : RelV v v') (ru : RelV u u') (h : augD op x y = some z) :
    wpAny (model X.prog X.w) X.A (inplaceOp (bop op) v' u') (fun r s' => ∃ v, RelV v r ∧ XRz X H z v [] ∧ Inv X pins σ H s') X.xe s := by
  have fin : ∀ {w : V} {r : Value} {s' : Shared}, XRz X H z w [] → EP X pins σ (fun v' H' => v' = w ∧ H' = H) r s' → ∃ v, RelV v r ∧ XRz X H z v [] ∧ Inv X pins σ H s' := fun {w r s'} q ⟨v', H', I', r', z1, z2⟩ => by
    subst z1 z2
    exact ⟨_, r', q, I'⟩
  unfold augD at h
  split at h
  · cases h; cases kx.int_inv; cases ky.int_inv
    exact thn (iop_add pins s σ H _ _ _ _ _ I rv ru ⟨_, _, rfl, rfl, rfl, rfl⟩) fun _ _ q => fin (.int _) q
  · split at h
    case isFalse => cases h
    case isTrue hl =>
    cases h
    cases kx.str_inv; cases ky.str_inv
    exact thn (iop_add_str pins s σ H _ _ _ _ _ I rv ru ⟨_, _, rfl, rfl, line_le hl, rfl, rfl⟩) fun _ _ q => fin (.str _) q
  · cases h; cases kx.int_inv; cases ky.int_inv
    exact thn (iop_sub pins s σ H _ _ _ _ _ I rv ru ⟨_, _, rfl, rfl, rfl, rfl⟩) fun _ _ q => fin (.int _) q
  · split at h
    case isFalse => cases h
    case isTrue hl =>
    cases h
    simp only [Bool.or_eq_true, Bool.and_eq_true, decide_eq_true_eq, big] at hl
    cases kx.int_inv; cases ky.int_inv
    exact thn (iop_mul pins s σ H _ _ _ _ _ I rv ru ⟨_, _, rfl, rfl, hl.imp (fun h => ⟨of_decide_eq_true h.1, of_decide_eq_true h.2⟩) (fun h => ⟨of_decide_eq_true h.1, of_decide_eq_true h.2⟩), rfl, rfl⟩) fun _ _ q => fin (.int _) q
  · split at h
    case isFalse => cases h
    case isTrue hl =>
    cases h
    cases kx.int_inv; cases ky.int_inv
    exact thn (iop_mod pins s σ H _ _ _ _ _ I rv ru ⟨_, _, rfl, rfl, hl, rfl, rfl⟩) fun _ _ q => fin (.int _) q
  · split at h
    case isFalse => cases h
    case isTrue hl =>
    cases h
    cases kx.int_inv; cases ky.int_inv
    exact thn (iop_fdiv pins s σ H _ _ _ _ _ I rv ru ⟨_, _, rfl, rfl, hl, rfl, rfl⟩) fun _ _ q => fin (.int _) q
  · cases h
def tipZ (X : Cx) (op : Bin) : TIp := fun x y H Q => ∃ dx dy dz, XVw X H dx x ∧ XVw X H dy y ∧ augD op dx dy = some dz ∧ ∀ v, XRz X H dz v [] → Q v H
theorem pip_ok (op : Bin) : PIp X (bop op) (tipZ X op) := by
  intro pins s σ H x y v u Q I r1 r2 h
  obtain ⟨dx, dy, dz, k1, k2, e, q⟩ := h
  exact thn (aug_ok I op k1 k2 r1 r2 e) fun r s' ⟨v, rv, rz, I'⟩ => ⟨v, H, I', rv, q v rz⟩
theorem sp_nx {io : List Nat} {D : Ends} {f : Flow} {H : Hp} {O : List Addr} {en : Env} {s1 : Shared} (hb : D.bk = fun _ _ => False) (hc : D.ct = fun _ _ => False) (hr : D.rt = fun _ _ => False) (hn : ∀ σ' H', D.nx σ' H' → ∃ O', XRE X H' en σ' O' ∧ Ext O H H' ∧ Sub H O O' ∧ Kp io σ σ') (h : SP X pins D f s1) : PostS X io pins σ H O (.nx, en) f s1 := by
  cases f with
  | next => obtain ⟨σ', H', I', q⟩ := h; obtain ⟨O', r', x', s', kp⟩ := hn σ' H' q; exact ⟨rfl, σ', H', O', ⟨I', r', x', s'⟩, kp⟩
  | brk => obtain ⟨_, _, _, q⟩ := h; rw [hb] at q; exact q.elim
  | cont => obtain ⟨_, _, _, q⟩ := h; rw [hc] at q; exact q.elim
  | ret u => obtain ⟨_, _, _, _, _, q⟩ := h; rw [hr] at q; exact q.elim
/-- name op= .. -/
theorem ss_aug {io : List Nat} {i : Nat} {x : Str} {e : PySem.Expr} {A : Ev} {op : Bin} {p1 pos : Pos} (hN : X.N.Nodup) (hi : X.N[i]? = some x) (hx : Loc X.env.scope x) (hf : X.fn x = true ∨ X.env.scope.names.lookup x = some .local) (he : SE X e A) : SS X io (.AugAssign (.Name x p1) (bop op) e pos) (sAug io i op A) := by
  intro pins s σ H env O I r
  unfold sAug
  cases e0 : (if i ∈ io then none else look env i) with
  | none => exact True.intro
  | some dx =>
  have hio : i ∉ io := by intro z; rw [if_pos z] at e0; cases e0
  have e0 : look env i = some dx := by split at e0; cases e0; exact e0
  show Gl' _ (if isScal dx then (A env).bind fun p => (match (p.1.rd p.2).bind (augD op dx) with | some z => R.ok (Fl.nx, p.2.set i (.v z)) | none => .bad) else .bad) _
  split
  case isFalse => exact True.intro
  case isTrue hs =>
  cases eA : A env with
  | exc _ _ => exact True.intro
  | bad => exact True.intro
  | ok p =>
  show Gl' _ (match (p.1.rd p.2).bind (augD op dx) with | some z => R.ok (Fl.nx, p.2.set i (.v z)) | none => .bad) _
  cases e1 : p.1.rd p.2 with
  | none => exact True.intro
  | some dy =>
  show Gl' _ (match augD op dx dy with | some z => R.ok (Fl.nx, p.2.set i (.v z)) | none => .bad) _
  cases e2 : augD op dx dy with
  | none => exact True.intro
  | some z =>
  show wpAny _ _ _ (PostS X io pins σ H O (.nx, p.2.set i (.v z))) _ _
  obtain ⟨v, ev, vw⟩ := r.look e0
  refine thn ((ps_aug (pos := pos) hN hi hx he.pe (pip_ok op) hf).run pins s σ H { nx := fun σ' H' => ∃ O', XRE X H' (p.2.set i (.v z)) σ' O' ∧ Ext O H H' ∧ Sub H O O' ∧ Kp io σ σ', rt := fun _ _ => False } I
    ⟨v, ev, env, O, p, r, eA, fun y H1 O1 B r1 ro dj x1 s1 sB => ⟨dx, dy, z, ?_, RO.rd r1 ro e1, e2, fun w rw => ?_⟩⟩) fun f s1 hf => sp_nx rfl rfl rfl (fun _ _ h => h) hf
  · -- a scalar is seen anywhere
    cases dx with
    | int i => cases vw; exact .int _
    | str x => cases vw; exact .str _
    | _ => cases hs
  · have hi2 : i < p.2.length := by
      rw [r1.length]
      exact (List.getElem?_eq_some_iff.mp ev).1
    obtain ⟨O', r', sb⟩ := RE.set r1 hi2 rw Dis.nil
    refine ⟨O', r', x1, (fun a ha => by rcases sb a ha with w | w; exact s1 a w; cases w), fun j hj => ?_⟩
    rw [List.getElem?_set_ne]
    intro z; subst z; exact hio hj
/-- x[k] op= .. -/
theorem pget_list : PGet X fun o i H Q => ∃ p xs k v, o = .ref p ∧ i = .int k ∧ H p = some (.lst xs) ∧ atI xs k = some v ∧ Q v H := by
  intro pins s σ H o i ov iv Q I ro ri h
  obtain ⟨p, xs, k, z, rfl, rfl, hp, he, q⟩ := h
  cases ro
  obtain ⟨t, rfl⟩ := ri
  obtain ⟨its, r, pl, hz⟩ := I.list (.inl (.inl hp))
  obtain ⟨j, h1, h2, h3, h4, h5⟩ := atI_get he
  obtain ⟨w, ew, rw'⟩ := r.get h2
  have hl := r.length
  have hn := line63
  have fin : EP X pins σ Q w s := ⟨z, H, I, rw', q⟩
  by_cases h0 : 0 ≤ k
  · have hj : k.toNat = j := by
      rw [seqIndex_of h0 h5] at h1
      exact Option.some.inj h1
    exact wpAny_getItem_list pl.isList h0 (by omega) (by rw [hj]; simpa using ew) fin
  · have hj : (k + (its.toArray.size : Int)).toNat = j := by
      rw [seqIndex_neg (by omega) h4] at h1
      rw [List.size_toArray, ← hl]
      exact Option.some.inj h1
    exact wpAny_getItem_list_neg pl.isList (by omega) (by rw [List.size_toArray] <;> omega) (by omega) (by rw [hj]; simpa using ew) fin
theorem aug_store {b : PySem.Expr} (h : isPlainSl b = false) (ov iv new : Value) : augStore b ov iv new = (do holding [new, ov, iv] (setItem ov iv new); release [new, ov, iv] []; pure .next) := by
  cases b with
  | Slice lo hi st p => cases st with
    | none => cases h
    | some e => rfl
  | _ => rfl
theorem sAugSub_ok {i : Nat} {op : Bin} {K A : Ev} {env : Env} {res : Fl × Env} (h : sAugSub i K op A env = .ok res) : ∃ d0 k en xs j n p dy z x2 x3, look env i = some d0 ∧ taken K env = .ok (.int k, en) ∧ en.getD i .no = .v (.lst true xs) ∧ ixN xs.length k = some j ∧ xs[j]? = some (.int n) ∧
    A en = .ok p ∧ p.1.rd p.2 = some dy ∧ augD op (.int n) dy = some z ∧ p.2.getD i .no = .v x2 ∧ setD x2 (.int k) z = some x3 ∧ res = (.nx, p.2.set i (.v x3)) := by
  unfold sAugSub at h
  split at h
  case isFalse => cases h
  case isTrue hl =>
  obtain ⟨d0, hd0⟩ := Option.isSome_iff_exists.mp hl
  cases e1 : taken K env with
  | exc _ _ => rw [e1] at h; cases h
  | bad => rw [e1] at h; cases h
  | ok q =>
  rw [e1] at h
  obtain ⟨kd, en⟩ := q
  simp only [R.bind] at h
  split at h
  case h_2 => cases h
  rename_i xs e2
  split at h
  case h_2 => cases h
  rename_i k
  split at h
  case h_2 => cases h
  rename_i n e3
  cases eA : A en with
  | exc _ _ => rw [eA] at h; cases h
  | bad => rw [eA] at h; cases h
  | ok p =>
  rw [eA] at h
  simp only at h
  split at h
  case h_2 => cases h
  rename_i z x2 e4 e5
  split at h
  case h_2 => cases h
  rename_i x3 e6
  cases h
  cases ei : ixN xs.length k with
  | none => rw [ei] at e3; cases e3
  | some j =>
  rw [ei] at e3
  cases er : p.1.rd p.2 with
  | none => rw [er] at e4; cases e4
  | some dy =>
  rw [er] at e4
  exact ⟨d0, k, en, xs, j, n, p, dy, z, x2, x3, hd0, rfl, e2, ei, e3, eA, er, e4, e5, e6, rfl⟩
theorem ss_augSub {io : List Nat} {i : Nat} {x : Str} {k e : PySem.Expr} {K A : Ev} {op : Bin} {p1 p2 pos : Pos} (hN : X.N[i]? = some x) (hv : Vis X.env.scope x) (hd : (x == ("__debug__" : Str)) = false) (hcd : (x == ("__classdict__" : Str)) = false) (hp : isPlainSl k = false) (hk : SE X k K) (he : SE X e A) :
    SS X io (.AugAssign (.Subscript (.Name x p1) k p2) (bop op) e pos) (sAugSub i K op A) := by
  intro pins s σ H env O I r
  cases e0 : sAugSub i K op A env with
  | exc _ _ => exact True.intro
  | bad => exact True.intro
  | ok res =>
  show wpAny _ _ _ (PostS X io pins σ H O res) _ _
  obtain ⟨d0, kk, en, xs, j, n, p, dy, z, x2, x3, hl, etk, e1, e2, e3, eA, er, ez, e5, e6, rfl⟩ := sAugSub_ok e0
  obtain ⟨v0, ev0, _⟩ := r.look hl
  refine thn ((ps_augS (pos := pos) (pe_var hN hv hd hcd) hk.take pget_list he.pe (pip_ok op) set_list (aug_store hp)).run pins s σ H { nx := fun σ' H' => ∃ O', XRE X H' (p.2.set i (.v x3)) σ' O' ∧ Ext O H H' ∧ Sub H O O' ∧ Kp io σ σ', rt := fun _ _ => False } I
    ⟨v0, ev0, env, O, (.int kk, en), r, etk, fun kv H1 O1 B1 r1 qk dk x1 s1 sk => ?_⟩) fun f s1 hf => sp_nx rfl rfl rfl (fun _ _ h => h) hf
  obtain ⟨a, vs, O2, eσ, ea, rl, aO, sO2, nO2, up⟩ := lst_own r1 e1
  rw [ev0] at eσ; cases eσ
  cases qk
  obtain ⟨w, hw, vwn⟩ := rl.vw.get e3
  cases vwn
  refine ⟨a, vs, kk, .int n, rfl, rfl, ea, by unfold atI; rw [← rl.length, e2]; exact hw, en, O1, p, r1, eA, fun y H2 O3 B2 r2 ro dj x2' s2 sB => ⟨.int n, dy, z, .int n, RO.rd r2 ro er, ez, fun w rw => ?_⟩⟩
  match x2, e5, e6 with
  | .lst true xs2, e5, e6 =>
    simp only [setD] at e6
    cases ei : ixN xs2.length kk with
    | none => rw [ei] at e6; cases e6
    | some j2 =>
      rw [ei] at e6
      cases e6
      obtain ⟨a', vs', O2', eσ', ea', rl', aO', sO2', nO2', up'⟩ := lst_own r2 e5
      rw [ev0] at eσ'; cases eσ'
      obtain ⟨O4, r4, sb4⟩ := rl'.set (j := j2) rw Dis.nil
      obtain ⟨O5, r5, sb5⟩ := up' _ _ O4 r4 (fun z => by rcases sb4 a z with w | w; exact nO2' w; cases w) (fun b hb => by rcases sb4 b hb with w | w; exact .inl w; cases w)
      refine ⟨a, vs', kk, j2, rfl, rfl, ea', by rw [← rl'.length]; exact ei, O5, r5, fun b u eb nb => ?_, fun b hb => ?_, Kp.refl⟩
      · have n1 : b ∉ O1 := fun z => by
          rcases s1 b z with w | w
          · exact nb w
          · rw [eb] at w; cases w
        have e1' := x1 b u eb nb
        have n3 : b ∉ O3 := fun z => by
          rcases s2 b z with w | w
          · exact n1 w
          · rw [e1'] at w; cases w
        exact ext_upd aO' b u (x2' b u e1' n1) n3
      · have b3 : b ∈ O3 := by
          rcases sb5 b hb with w | w
          · exact w
          · rcases sb4 b w with w | w
            · exact sO2' b w
            · cases w
        exact Sub.trans x1 s1 s2 b b3
end
end Z

set_option Elab.async false
set_option linter.all false
set_option maxRecDepth 100000
set_option maxHeartbeats 1000000
namespace Z
open PySem L2 PyProof.Rows
section
variable {X : Cx} {pins : List (Addr × Obj)} {σ : L2.St} {s s' : Shared}
/-! ## for -/
def tS (X : Cx) (io : List Nat) (F : Eb) : TS := fun D σ H => ∃ env O p, XRE X H env σ O ∧ F env = .ok p ∧ (match p.1 with
  | .nx => ∀ σ' H' O', XRE X H' p.2 σ' O' → Ext O H H' → Sub H O O' → Kp io σ σ' → D.nx σ' H'
  | .bk => ∀ σ' H' O', XRE X H' p.2 σ' O' → Ext O H H' → Sub H O O' → Kp io σ σ' → D.bk σ' H'
  | .ct => ∀ σ' H' O', XRE X H' p.2 σ' O' → Ext O H H' → Sub H O O' → Kp io σ σ' → D.ct σ' H'
  | .rt d => ∀ v σ2 H' O' B, XRE X H' p.2 σ2 O' → Kp io σ σ2 → XRz X H' d v B → Dis B O' → Ext O H H' → Sub H O O' → Sub H O B → D.rt v H')
theorem SSs.pss {io : List Nat} {b : List PySem.Stmt} {F : Eb} (h : SSs X io b F) : PSs X b (tS X io F) := by
  refine ⟨fun pins s σ H D I hq => ?_⟩
  obtain ⟨env, O, p, r, e, k⟩ := hq
  have h1 := h pins s σ H env O I r
  rw [e] at h1
  refine thn h1 fun f s1 hf => ?_
  obtain ⟨fl, en⟩ := p
  have hf : PostS X io pins σ H O (fl, en) f s1 := hf
  unfold PostS at hf
  cases fl with
  | nx => obtain ⟨rfl, σ', H', O', st, kp⟩ := hf; exact ⟨σ', H', st.inv, k σ' H' O' st.re st.ext st.sub kp⟩
  | bk => obtain ⟨rfl, σ', H', O', st, kp⟩ := hf; exact ⟨σ', H', st.inv, k σ' H' O' st.re st.ext st.sub kp⟩
  | ct => obtain ⟨rfl, σ', H', O', st, kp⟩ := hf; exact ⟨σ', H', st.inv, k σ' H' O' st.re st.ext st.sub kp⟩
  | rt d => obtain ⟨u, v, σ1, σ2, H', O', B, rfl, I', rv, r', kp, rz, dj, x', s1, s2⟩ := hf; exact ⟨v, σ1, H', I', rv, k v σ2 H' O' B r' kp rz dj x' s1 s2⟩
/-- the wished end -/
def endsZ (X : Cx) (io : List Nat) (σ : L2.St) (H : Hp) (O : List Addr) (res : Fl × Env) : Ends where
  nx := fun σ' H' => res.1 = .nx ∧ ∃ O', XRE X H' res.2 σ' O' ∧ Ext O H H' ∧ Sub H O O' ∧ Kp io σ σ'
  rt := fun v H' => ∃ d σ2 O' B, res.1 = .rt d ∧ XRE X H' res.2 σ2 O' ∧ Kp io σ σ2 ∧ XRz X H' d v B ∧ Dis B O' ∧ Ext O H H' ∧ Sub H O O' ∧ Sub H O B
theorem endsZ.post {io : List Nat} {H : Hp} {O : List Addr} {res : Fl × Env} {f : Flow} {s1 : Shared} (h : SP X pins (endsZ X io σ H O res) f s1) : PostS X io pins σ H O res f s1 := by
  obtain ⟨fl, en⟩ := res
  unfold PostS
  cases f with
  | next =>
    obtain ⟨σ', H', I', e, O', r', x', s', kp⟩ := h
    cases e
    exact ⟨rfl, σ', H', O', ⟨I', r', x', s'⟩, kp⟩
  | brk => obtain ⟨_, _, _, q⟩ := h; exact q.elim
  | cont => obtain ⟨_, _, _, q⟩ := h; exact q.elim
  | ret u =>
    obtain ⟨v, σ1, H', I', rv, d, σ2, O', B, e, r', kp, rz, dj, x', s1, s2⟩ := h
    cases e
    exact ⟨u, v, σ1, σ2, H', O', B, rfl, I', rv, r', kp, rz, dj, x', s1, s2⟩
def notSetE : PySem.Expr → Bool | .Set _ _ _ => false | _ => true
theorem notFold {e : PySem.Expr} (h : notSetE e = true) (env : PySem.Env) (x : Value) : foldedSetIterable e env x = pure x := by
  cases e <;> first | rfl | cases h
theorem ss_for {io sl : List Nat} {tg iter : PySem.Expr} {body : List PySem.Stmt} {T : Et} {I : Ei} {B : Eb} {pos : Pos} (g : Gd X) (hp : PassesOwn (model X.prog X.w) X.A X.env X.xe) (hs : notSetE iter = true) (hi : SI X iter I) (hg : PG X tg (gZ X io T sl)) (hb : SSs X io body B) :
    SS X io (.For tg iter body [] pos) (sFor T I B) := by
  intro pins s σ H env O Iv r
  cases e0 : sFor T I B env with
  | exc _ _ => exact True.intro
  | bad => exact True.intro
  | ok res =>
  show wpAny _ _ _ (PostS X io pins σ H O res) _ _
  unfold sFor at e0
  cases eI : I env with
  | exc _ _ => rw [eI] at e0; cases e0
  | bad => rw [eI] at e0; cases e0
  | ok p =>
  obtain ⟨xs, env1⟩ := p
  rw [eI] at e0
  have e0 : forL T B xs env1 = .ok res := e0
  refine thn ((ps_for (pos := pos) hp g.calm (hi.pi tg) hg hb.pss (fun x => notFold hs _ x)).run pins s σ H (endsZ X io σ H O res) Iv ⟨env, O, (xs, env1), r, eI, fun J H1 O1 z r1 x1 s1 => ?_⟩) fun f s1 hf => endsZ.post hf
  have z : ItZ X J xs H1 := z
  have r1 : XRE X H1 env1 σ O1 := r1
  refine ⟨fun i m σc Hc => m = xs.length - i ∧ i ≤ xs.length ∧ ∃ en Oc, XRE X Hc en σc Oc ∧ Ext O1 H1 Hc ∧ Sub H1 O1 Oc ∧ Kp io σ σc ∧ forL T B (xs.drop i) en = .ok res, ⟨xs.length, by simp, Nat.zero_le _, env1, O1, r1, Ext.refl, Sub.refl, Kp.refl, by simpa using e0⟩, ?_⟩
  rintro i m σc Hc ⟨rfl, hi2, en, Oc, rc, xc, sc, kc, ec⟩
  obtain ⟨zi, zs⟩ := z Hc (xc.prs r1.own) i
  have xO : Ext O H Hc := x1.trans s1 xc
  have sO : Sub H O Oc := Sub.trans x1 s1 sc
  by_cases hlt : i < xs.length
  · obtain ⟨hgo, hy⟩ := zi xs[i] (List.getElem?_eq_getElem hlt)
    rw [List.drop_eq_getElem_cons hlt] at ec
    have ec : (T xs[i] en).bind (fun e1 => (B e1).bind fun p => match p.1 with | .nx => forL T B (xs.drop (i + 1)) p.2 | .ct => forL T B (xs.drop (i + 1)) p.2 | .bk => .ok (.nx, p.2) | .rt d => .ok (.rt d, p.2)) = .ok res := ec
    cases eT : T xs[i] en with
    | exc _ _ => rw [eT] at ec; cases ec
    | bad => rw [eT] at ec; cases ec
    | ok en2 =>
    rw [eT] at ec
    have ec : (B en2).bind (fun p => match p.1 with | .nx => forL T B (xs.drop (i + 1)) p.2 | .ct => forL T B (xs.drop (i + 1)) p.2 | .bk => .ok (.nx, p.2) | .rt d => .ok (.rt d, p.2)) = .ok res := ec
    cases eB : B en2 with
    | exc _ _ => rw [eB] at ec; cases ec
    | bad => rw [eB] at ec; cases ec
    | ok pB =>
    rw [eB] at ec
    obtain ⟨fl, en3⟩ := pB
    refine .inr ⟨hgo, fun σ' H' => i + 1 ≤ xs.length ∧ ∃ en Oc, XRE X H' en σ' Oc ∧ Ext O1 H1 H' ∧ Sub H1 O1 Oc ∧ Kp io σ σ' ∧ forL T B (xs.drop (i + 1)) en = .ok res, fun σ' H' hw => ⟨xs.length - (i + 1), by omega, rfl, hw⟩, fun x H3 hyl => ?_⟩
    obtain ⟨rx, x3⟩ := hy x H3 hyl
    have r3 := rc.stay (fun a u e _ => x3 a u e) (fun a _ u e => x3 a u e)
    refine ⟨en, Oc, xs[i], en2, [], r3, rx, Dis.nil, eT, fun σ2 H4 O4 r4 x4 s4 _ _ k4 => ⟨en2, O4, (fl, en3), r4, eB, ?_⟩⟩
    rw [List.append_nil] at x4 s4
    -- from the turn's start on
    have x04 : Ext Oc Hc H4 := fun a u e n => x4 a u (x3 a u e) n
    have s04 : ∀ {A : List Addr}, Sub H3 Oc A → Sub Hc Oc A := fun sb a ha => by
      rcases sb a ha with w | w
      · exact .inl w
      · cases e : Hc a with
        | none => exact .inr rfl
        | some u => rw [x3 a u e] at w; cases w
    have e14 : Ext O1 H1 H4 := xc.trans sc x04
    have s14 : Sub H1 O1 O4 := Sub.trans xc sc (s04 s4)
    have eO4 : Ext O H H4 := xO.trans sO x04
    have sO4 : Sub H O O4 := Sub.trans xO sO (s04 s4)
    cases fl with
    | nx => exact fun σ' H' O' r' x' s' k' => ⟨hlt, en3, O', r', e14.trans s14 x', Sub.trans e14 s14 s', (kc.trans k4).trans k', ec⟩
    | ct => exact fun σ' H' O' r' x' s' k' => ⟨hlt, en3, O', r', e14.trans s14 x', Sub.trans e14 s14 s', (kc.trans k4).trans k', ec⟩
    | bk =>
      cases ec
      exact fun σ' H' O' r' x' s' k' => ⟨rfl, O', r', eO4.trans sO4 x', Sub.trans eO4 sO4 s', (kc.trans k4).trans k'⟩
    | rt d =>
      cases ec
      exact fun v σ' H' O' B' r' k' rz dj x' s' sB => ⟨d, σ', O', B', rfl, r', (kc.trans k4).trans k', rz, dj, eO4.trans sO4 x', Sub.trans eO4 sO4 s', Sub.trans eO4 sO4 sB⟩
  · have hend : i = xs.length := by omega
    subst hend
    rw [List.drop_length] at ec
    cases ec
    exact .inl ⟨zs (Nat.le_refl _), rfl, Oc, rc, xO, sO, kc⟩
end
end Z

set_option Elab.async false
set_option linter.all false
set_option maxRecDepth 100000
set_option maxHeartbeats 1000000
namespace Z
open PySem L2 PyProof.Rows
/-! ## calls -/
section
variable (prog : Program) (w : World) (K : PySem.W.Frag) (H : Hp)
/-- the arguments, by their modes -/
inductive ArgR : List Nat → List D → List V → List Addr → Prop
  | nil : ArgR [] [] [] []
  | io {ms : List Nat} {d : D} {ds : List D} {v : V} {vs : List V} {B O : List Addr} : Rz prog w K H d v B → ArgR ms ds vs O → Dis B O → ArgR (1 :: ms) (d :: ds) (v :: vs) (B ++ O)
  | by_ {ms : List Nat} {d : D} {ds : List D} {v : V} {vs : List V} {O : List Addr} : Rz prog w K H d v [] → ArgR ms ds vs O → ArgR (0 :: ms) (d :: ds) (v :: vs) O
/-- what comes back of those that may be changed -/
inductive OutR : List Nat → List D → List V → List Addr → Prop
  | nil : OutR [] [] [] []
  | io {ms : List Nat} {d : D} {ds : List D} {v : V} {vs : List V} {B O : List Addr} : Rz prog w K H d v B → OutR ms ds vs O → Dis B O → OutR (1 :: ms) (d :: ds) (v :: vs) (B ++ O)
  | by_ {ms : List Nat} {m : Nat} {ds : List D} {v : V} {vs : List V} {O : List Addr} : m ≠ 1 → OutR ms ds vs O → OutR (m :: ms) ds (v :: vs) O
end
section
variable {prog : Program} {w : World} {K : PySem.W.Frag} {H H' : Hp}
theorem ArgR.length : ∀ {ms : List Nat} {ds : List D} {vs : List V} {O : List Addr}, ArgR prog w K H ms ds vs O → ds.length = vs.length ∧ ds.length = ms.length
  | _, _, _, _, .nil => ⟨rfl, rfl⟩
  | _, _, _, _, .io _ r _ => ⟨by simp [(ArgR.length r).1], by simp [(ArgR.length r).2]⟩
  | _, _, _, _, .by_ _ r => ⟨by simp [(ArgR.length r).1], by simp [(ArgR.length r).2]⟩
theorem ArgR.own : ∀ {ms : List Nat} {ds : List D} {vs : List V} {O : List Addr}, ArgR prog w K H ms ds vs O → ∀ a ∈ O, ∃ u, H a = some u ∧ Ow u = true
  | _, _, _, _, .nil, a, h => nomatch h
  | _, _, _, _, .io q r _, a, h => (List.mem_append.mp h).elim (q.own a) (ArgR.own r a)
  | _, _, _, _, .by_ _ r, a, h => ArgR.own r a h
theorem ArgR.stay (kp : ∀ a u, H a = some u → Prs u = true → H' a = some u) : ∀ {ms : List Nat} {ds : List D} {vs : List V} {O : List Addr}, ArgR prog w K H ms ds vs O → (∀ a ∈ O, ∀ u, H a = some u → H' a = some u) → ArgR prog w K H' ms ds vs O
  | _, _, _, _, .nil, _ => .nil
  | _, _, _, _, .io q r d, k => .io (q.stay kp fun a h => k a (List.mem_append_left _ h)) (ArgR.stay kp r fun a h => k a (List.mem_append_right _ h)) d
  | _, _, _, _, .by_ q r, k => .by_ (q.stay kp fun _ h => nomatch h) (ArgR.stay kp r k)
end
section
variable {X : Cx} {pins : List (Addr × Obj)} {σ : L2.St} {s s' : Shared}
theorem prep_ok : ∀ {ms : List Nat} {os : List Opd} {H : Hp} {env env' : Env} {O B : List Addr} {vs : List V} {ds : List D}, Inv X pins σ H s → XRE X H env σ O → XROs X H σ os vs B → Dis B O → prep ms os env = some (ds, env') →
    ∃ H' O' Oa, Inv X pins σ H' s ∧ Ext (O ++ B) H H' ∧ Fg H H' ∧ XRE X H' env' σ O' ∧ ArgR X.prog X.w X.K H' ms ds vs Oa ∧ Dis Oa O' ∧ (∀ a ∈ O', a ∈ O) ∧ ∀ a ∈ Oa, a ∈ O ++ B
  | [], [], H, env, env', O, B, vs, ds, I, r, q, dj, h => by
    cases h; cases q
    exact ⟨H, O, [], I, Ext.refl, Fg.refl, r, .nil, Dis.nil, fun _ h => h, fun _ h => nomatch h⟩
  | [], _ :: _, _, _, _, _, _, _, _, _, _, _, _, h => by cases h
  | _ :: _, [], _, _, _, _, _, _, _, _, _, _, _, h => by cases h
  | m :: ms, o :: os, H, env, env', O, B, vs, ds, I, r, q, dj, h => by
    cases q with
    | @cons _ _ v vs B1 B2 q qs dq =>
      -- behind the first one
      have tail : ∀ {H1 : Hp} {e1 : Env} {O1 : List Addr} {ds' : List D} {env2 : Env}, Inv X pins σ H1 s → Ext (O ++ B1) H H1 → Fg H H1 → XRE X H1 e1 σ O1 → (∀ a ∈ O1, a ∈ O) → prep ms os e1 = some (ds', env2) →
          ∃ H' O' Oa, Inv X pins σ H' s ∧ Ext (O1 ++ B2) H1 H' ∧ Fg H1 H' ∧ XRE X H' env2 σ O' ∧ ArgR X.prog X.w X.K H' ms ds' vs Oa ∧ Dis Oa O' ∧ (∀ a ∈ O', a ∈ O1) ∧ ∀ a ∈ Oa, a ∈ O1 ++ B2 := fun {H1 e1 O1 ds' env2} I1 x1 f1 r1 s1 e => by
        have own : ∀ a ∈ O ++ B1, ∃ u, H a = some u ∧ Ow u = true := fun a ha => (List.mem_append.mp ha).elim (r.own a) (q.own a)
        have qs1 := x1.keepOs own qs (fun a ha hb => (List.mem_append.mp hb).elim (dj.l2 a ha) fun z => dq a z ha)
        exact prep_ok I1 r1 qs1 (fun a ha hb => dj.l2 a ha (s1 a hb)) e
      have join : ∀ {H1 H' : Hp} {O1 : List Addr}, Ext (O ++ B1) H H1 → (∀ a ∈ O1, a ∈ O) → Ext (O1 ++ B2) H1 H' → Ext (O ++ (B1 ++ B2)) H H' := fun x1 s1 x2 a u e n => x2 a u (x1 a u e fun z => n (by rcases List.mem_append.mp z with w | w <;> simp [w])) fun z => n (by
        rcases List.mem_append.mp z with w | w
        · simp [s1 a w]
        · simp [w])
      by_cases m1 : m = 1
      · subst m1
        have tmp : ∀ {d : D} {e1 : Env} {ds' : List D}, o.take env = some (d, e1) → prep ms os e1 = some (ds', env') → ds = d :: ds' → ∃ H' O' Oa, Inv X pins σ H' s ∧ Ext (O ++ (B1 ++ B2)) H H' ∧ Fg H H' ∧ XRE X H' env' σ O' ∧ ArgR X.prog X.w X.K H' (1 :: ms) ds (v :: vs) Oa ∧ Dis Oa O' ∧ (∀ a ∈ O', a ∈ O) ∧ ∀ a ∈ Oa, a ∈ O ++ (B1 ++ B2) := fun {d e1 ds'} et ep ed => by
          subst ed
          obtain ⟨H1, O1, C1, G, r1, q1, d1, sC⟩ := take_ok I r q dj.l1 et
          obtain ⟨H', O', Oa, I', x', f', r', a', d', s', sa⟩ := tail G.inv (fun a u e n => G.ext a u e fun z => n (by simp [z])) G.fg r1 G.sub ep
          have own2 : ∀ a ∈ O1 ++ B2, ∃ u, H1 a = some u ∧ Ow u = true := fun a ha => (List.mem_append.mp ha).elim (r1.own a) ((G.ext.keepOs r.own qs dj.l2).own a)
          have dC : Dis C1 (O1 ++ B2) := fun a ha hb => (List.mem_append.mp hb).elim (d1 a ha) (dq a (sC a ha))
          have q1' := x'.keep own2 q1 dC
          refine ⟨H', O', C1 ++ Oa, I', join (fun a u e n => G.ext a u e fun z => n (by simp [z])) G.sub x', G.fg.trans f', r', .io q1' a' (fun a ha hb => dC a ha (sa a hb)), Dis.appL (fun a ha hb => d1 a ha (s' a hb)) d', fun a ha => G.sub a (s' a ha), fun a ha => ?_⟩
          rcases List.mem_append.mp ha with z | z
          · simp [sC a z]
          · rcases List.mem_append.mp (sa a z) with w | w
            · simp [G.sub a w]
            · simp [w]
        cases o with
        | val d =>
          have h : (match (Opd.val d).take env with | some (d, e1) => (match prep ms os e1 with | some (ds, e) => some (d :: ds, e) | none => none) | none => none) = some (ds, env') := h
          cases e2 : prep ms os env with
          | none => simp [Opd.take, e2] at h
          | some z =>
            simp only [Opd.take, e2, Option.some.injEq, Prod.mk.injEq] at h
            exact tmp (d := d) (e1 := env) (ds' := z.1) rfl (by rw [e2, ← h.2]) h.1.symm
        | dsp t os2 =>
          have h : (match (Opd.dsp t os2).take env with | some (d, e1) => (match prep ms os e1 with | some (ds, e) => some (d :: ds, e) | none => none) | none => none) = some (ds, env') := h
          cases e1 : (Opd.dsp t os2).take env with
          | none => rw [e1] at h; cases h
          | some y =>
            rw [e1] at h
            have h : (match prep ms os y.2 with | some (ds, e) => some (y.1 :: ds, e) | none => none) = some (ds, env') := h
            cases e2 : prep ms os y.2 with
            | none => rw [e2] at h; cases h
            | some z =>
              rw [e2] at h
              simp only [Option.some.injEq, Prod.mk.injEq] at h
              exact tmp (d := y.1) (e1 := y.2) (ds' := z.1) e1 (by rw [e2, ← h.2]) h.1.symm
        | pl i =>
          have h : (match env.getD i .no with | .v d => (match prep ms os (env.set i .no) with | some (ds, e) => some (d :: ds, e) | none => none) | _ => none) = some (ds, env') := h
          cases e1 : env.getD i .no with
          | no => rw [e1] at h; cases h
          | r _ => rw [e1] at h; cases h
          | q _ => rw [e1] at h; cases h
          | v d =>
            rw [e1] at h
            have h : (match prep ms os (env.set i .no) with | some (ds, e) => some (d :: ds, e) | none => none) = some (ds, env') := h
            cases e2 : prep ms os (env.set i .no) with
            | none => rw [e2] at h; cases h
            | some z =>
              rw [e2] at h
              simp only [Option.some.injEq, Prod.mk.injEq] at h
              obtain ⟨x, A, B0, C, eσ, q0, eO, dd, up⟩ := r.at (getD_lt (by rw [e1]; exact fun z => by cases z))
              rw [e1] at q0
              cases q0 with
              | v q0 =>
                cases q with
                | pl eσ2 =>
                  rw [eσ] at eσ2; cases eσ2
                  have r1 := up H .no (some v) [] (fun _ _ e _ => e) (fun _ _ _ e => e) (.no _) Dis.nil
                  rw [set_self eσ] at r1
                  have s1 : ∀ a ∈ A ++ ([] ++ C), a ∈ O := fun a ha => by
                    rw [eO]
                    rcases List.mem_append.mp ha with z | z <;> simp at z ⊢ <;> simp [z]
                  obtain ⟨H', O', Oa, I', x', f', r', a', d', s', sa⟩ := tail (ds' := z.1) (env2 := z.2) I Ext.refl Fg.refl r1 s1 e2
                  have own2 : ∀ a ∈ A ++ ([] ++ C) ++ B2, ∃ u, H a = some u ∧ Ow u = true := fun a ha => (List.mem_append.mp ha).elim (r1.own a) (qs.own a)
                  have d0 : Dis B0 (A ++ ([] ++ C) ++ B2) := fun a ha hb => by
                    rcases List.mem_append.mp hb with w | w
                    · exact dd a ha (by simpa using w)
                    · exact dj.l2 a w (by rw [eO]; simp [ha])
                  have q1' := x'.keep own2 q0 d0
                  rw [← h.1, ← h.2]
                  refine ⟨H', O', B0 ++ Oa, I', join Ext.refl s1 x', f', r', .io q1' a' (fun a ha hb => d0 a ha (sa a hb)), Dis.appL (fun a ha hb => d0 a ha (by simp only [List.mem_append]; exact .inl (by simpa using s' a hb))) d', fun a ha => s1 a (s' a ha), fun a ha => ?_⟩
                  rcases List.mem_append.mp ha with w | w
                  · rw [eO]; simp [w]
                  · rcases List.mem_append.mp (sa a w) with y | y
                    · simp [s1 a y]
                    · simp [y]
      · have h : (if m = 0 then (match o.take env with
            | some (d, e1) => (match prep ms os e1 with | some (ds, e) => some (d.frz :: ds, e) | none => none)
            | none => none) else none) = some (ds, env') := by
          have h0 := h
          unfold prep at h0
          rw [if_neg m1] at h0
          exact h0
        clear m1
        rename_i h0
        clear h0
        split at h
        case isFalse => cases h
        case isTrue m0 =>
        subst m0
        cases e1 : o.take env with
        | none => rw [e1] at h; cases h
        | some y =>
          rw [e1] at h
          obtain ⟨d, en1⟩ := y
          have h : (match prep ms os en1 with | some (ds, e) => some (d.frz :: ds, e) | none => none) = some (ds, env') := h
          cases e2 : prep ms os en1 with
          | none => rw [e2] at h; cases h
          | some z =>
            rw [e2] at h
            simp only [Option.some.injEq, Prod.mk.injEq] at h
            obtain ⟨H1, O1, C1, G, r1, q1, d1, sC⟩ := take_ok I r q dj.l1 e1
            obtain ⟨H2, F, I2⟩ := G.inv.frzd C1 q1.own
            have q2 := Rz.frz F q1 fun _ h => h
            have r2 := r1.stay F.prs fun a ha u e => by rw [F.out a fun z => d1 a z ha]; exact e
            have x2 : Ext (O ++ B1) H H2 := fun a u e n => by
              rw [F.out a fun z => n (by simp [sC a z])]
              exact G.ext a u e fun z => n (by simp [z])
            obtain ⟨H', O', Oa, I', x', f', r', a', d', s', sa⟩ := tail (ds' := z.1) (env2 := z.2) I2 x2 (G.fg.trans (.of F)) r2 G.sub e2
            have q3 := q2.stay (H' := H') (f'.prs) fun _ h => nomatch h
            rw [← h.1, ← h.2]
            refine ⟨H', O', Oa, I', join x2 G.sub x', (G.fg.trans (.of F)).trans f', r', .by_ q3 a', d', fun a ha => G.sub a (s' a ha), fun a ha => ?_⟩
            rcases List.mem_append.mp (sa a ha) with y | y
            · simp [G.sub a y]
            · simp [y]
theorem back_ok {H H0 : Hp} : ∀ {ms : List Nat} {os : List Opd} {outs : List D} {vs : List V} {env env' : Env} {O Bo C : List Addr}, XRE X H env σ O → OutR X.prog X.w X.K H ms outs vs Bo → XROs X H0 σ os vs C → Dis Bo O → back ms os outs env = some env' →
    ∃ O', XRE X H env' σ O' ∧ ∀ a ∈ O', a ∈ O ∨ a ∈ Bo
  | [], _, outs, vs, env, env', O, Bo, C, r, q, ro, dj, h => by
    cases q
    cases h
    exact ⟨O, r, fun a h => .inl h⟩
  | m :: ms, [], outs, vs, env, env', O, Bo, C, r, q, ro, dj, h => by cases h
  | m :: ms, o :: os, outs, vs, env, env', O, Bo, C, r, q, ro, dj, h => by
    unfold back at h
    cases q with
    | @io _ d ds v vs B O2 q1 q2 dd =>
      rw [if_pos rfl] at h
      cases ro with
      | cons ro1 ros _ =>
        have skip : ∀ {env2 : Env}, env2 = env → back ms os ds env2 = some env' → ∃ O', XRE X H env' σ O' ∧ ∀ a ∈ O', a ∈ O ∨ a ∈ B ++ O2 := fun e hb2 => by
          subst e
          obtain ⟨O', r', s'⟩ := back_ok r q2 ros dj.l2 hb2
          exact ⟨O', r', fun a ha => (s' a ha).imp id fun w => by simp [w]⟩
        cases o with
        | val d2 => exact skip rfl h
        | dsp t os2 => exact skip rfl h
        | pl i =>
          cases ro1 with
          | pl eσ =>
            have hi : i < env.length := by rw [r.length]; exact (List.getElem?_eq_some_iff.mp eσ).1
            obtain ⟨O1, r1, s1⟩ := RE.set r hi q1 dj.l1
            rw [set_self eσ] at r1
            obtain ⟨O', r', s'⟩ := back_ok r1 q2 ros (fun a ha hb => by
              rcases s1 a hb with w | w
              · exact dj.l2 a ha w
              · exact dd a w ha) h
            refine ⟨O', r', fun a ha => ?_⟩
            rcases s' a ha with w | w
            · rcases s1 a w with y | y
              · exact .inl y
              · exact .inr (by simp [y])
            · exact .inr (by simp [w])
    | by_ hm q2 =>
      rw [if_neg hm] at h
      cases ro with
      | cons ro1 ros _ => exact back_ok r q2 ros dj h
end
/-! ### a def's promise -/
abbrev VSp := List V → Hp → VK → Prop
/-- what a def comes to, by the reckoning cf -/
def spZ (prog : Program) (w : World) (K : PySem.W.Frag) (cf : Nat → List D → C) (f : Nat) (ms : List Nat) : VSp := fun vs H Q => ∃ ds O r outs, ArgR prog w K H ms ds vs O ∧ cf f ds = .ok r outs ∧
  ∀ v H' B Bo, Ext O H H' → Rz prog w K H' r v B → OutR prog w K H' ms outs vs Bo → Dis B Bo → Sub H O B → Sub H O Bo → Q v H'
def noCX : CXT := fun _ _ _ _ _ _ => False
def noXK : XK := fun _ _ _ => False
structure FnG (P : Program) (w : World) (K : PySem.W.Frag) (mg : Str → Option Value) (base : Heap) (k : Nat) (f : Addr) (fd : FuncData) (ps : List Str) (sp : VSp) : Prop where
  len : ∀ vs H Q, sp vs H Q → vs.length = ps.length
  run : ∀ (A : Around) (outer : List PySem.Env) (s : Shared) (H : Hp) (args : Args) (us : List Value) (vs : List V) (Q : VK), Room k A → A.guards = some [] → Env0 P w K mg base A outer s H → BindsTo s fd args (ps.zip us) → Vals vs us → sp vs H Q →
    codeAny (model P w) A (.call (.ref f) args) (CR noCX outer P w H s Q noXK) s
section
variable {X : Cx} {pins : List (Addr × Obj)} {σ : L2.St} {s s' : Shared}
theorem call_g {k : Nat} {f : Addr} {fd : FuncData} {ps : List Str} {sp : VSp} {H : Hp} {Q : VK} {us : List Value} {vs : List V} (F : FnG X.prog X.w X.K X.mg X.base k f fd ps sp) (hr : Room k X.A) (hg : X.A.guards = some []) (hb : Binds X.K fd ps []) (I : Inv X pins σ H s) (r : Vals vs us) (h : sp vs H Q) :
    wpAny (model X.prog X.w) X.A (call (.ref f) us) (EP X pins σ Q) X.xe s := by
  have lenE : (us ++ []).length = ps.length := by rw [List.append_nil, ← r.length]; exact F.len _ _ _ h
  have bnd := hb s us I.kIn lenE
  rw [List.append_nil] at bnd
  refine wpAny_call (codeAny_mono (F.run X.A X.stack s H _ us vs Q hr hg I.env0 bnd r h) fun res st hres => ?_)
  match res, hres with
  | .ok (.ret u), hres => exact I.after hres
  | .ok .next, hres => exact hres.elim
  | .ok .brk, hres => exact hres.elim
  | .ok .cont, hres => exact hres.elim
  | .error e, hres => exact hres.elim
/-- a function of the module, as the reckoning calls it -/
def FunH (X : Cx) (cf : Nat → List D → C) (P : Prog) (f : Nat) (x : Str) : Prop := ∃ a fd ps, X.mg x = some (.ref a) ∧ PySem.W.nsIn X.K mainGlobals x = some (some (.ref a)) ∧ PySem.W.keepIn X.K (.ref a) = true ∧ Binds X.K fd ps [] ∧ ∃ k, Room k X.A ∧ FnG X.prog X.w X.K X.mg X.base k a fd ps (spZ X.prog X.w X.K cf f (P.mode.getD f []))
structure FunZ (X : Cx) (cf : Nat → List D → C) (P : Prog) (f : Nat) (x : Str) : Prop where
  has : FunH X cf P f x
  gl : Gl X x
  db : (x == ("__debug__" : Str)) = false
theorem call_core {cf : Nat → List D → C} {P : Prog} {f : Nat} {x : Str} {e : PySem.Expr} {es : List PySem.Expr} {A : Evs} {pos : Pos} {H : Hp} {O : List Addr} {env : Env} {a : Addr} (g : Gd X) (F : FunH X cf P f x) (hn : noStar (e :: es) = true) (ha : SA X (e :: es) A) (hns : PySem.W.nsIn X.K mainGlobals x = some (some (.ref a))) (I : Inv X pins σ H s) (r : XRE X H env σ O) :
    Gl' (PostO X pins σ H O) (fCall P cf f A env) fun Q => wpAny (model X.prog X.w) X.A (callWith pos (.ref a) [] (backTo pos (starEach (e :: es) X.env)) []) Q X.xe s := by
  obtain ⟨a', fd, ps, hm, hns', hk, hb, k, hr, G⟩ := F
  rw [hns] at hns'
  cases hns'
  have hn' := hn
  simp only [noStar, Bool.and_eq_true, Bool.not_eq_true'] at hn'
  refine Gl'.of (goal' := fun Q => wpAny (model X.prog X.w) X.A (spliced (backTo pos (starEach (e :: es) X.env))) (fun us s1 => X.K.In s1.heap ∧ wpAny (model X.prog X.w) X.A (call (.ref a) us) Q X.xe s1) X.xe s)
    (fun Q h => PySem.W.callWith_K (h₀ := X.base) I.ok.mod.kin hk h (starEach_cons hn'.1) (noStar_any hn'.2))
    (Gl'.seq (REST := fun Q us s1 => X.K.In s1.heap ∧ wpAny (model X.prog X.w) X.A (call (.ref a) us) Q X.xe s1) (ha pos pins s σ H env O I r) fun p us s1 hp => ?_)
  obtain ⟨vs, H1, O1, C, st, rv, ro, dj, sb⟩ := hp
  show Gl' _ (match prep (P.mode.getD f []) p.1 p.2 with
    | none => .bad
    | some (ds, env1) => (match cf f ds with
      | .bad => .bad
      | .ok r outs => (match back (P.mode.getD f []) p.1 outs env1 with | some e => R.ok (Opd.val r, e) | none => .bad)
      | .exc x outs => (match back (P.mode.getD f []) p.1 outs env1 with | some e => R.exc x e | none => .bad))) _
  cases e1 : prep (P.mode.getD f []) p.1 p.2 with
  | none => exact True.intro
  | some z =>
    obtain ⟨ds, env1⟩ := z
    show Gl' _ (match cf f ds with
      | .bad => .bad
      | .ok r outs => (match back (P.mode.getD f []) p.1 outs env1 with | some e => R.ok (Opd.val r, e) | none => .bad)
      | .exc x outs => (match back (P.mode.getD f []) p.1 outs env1 with | some e => R.exc x e | none => .bad)) _
    cases e2 : cf f ds with
    | bad => exact True.intro
    | exc x outs =>
      show Gl' _ (match back (P.mode.getD f []) p.1 outs env1 with | some e => R.exc x e | none => .bad) _
      cases back (P.mode.getD f []) p.1 outs env1 <;> exact True.intro
    | ok rd outs =>
      show Gl' _ (match back (P.mode.getD f []) p.1 outs env1 with | some e => R.ok (Opd.val rd, e) | none => .bad) _
      cases e3 : back (P.mode.getD f []) p.1 outs env1 with
      | none => exact True.intro
      | some env2 =>
        obtain ⟨H2, O2, Oa, I2, x2, f2, r2, ar, d2, s2, sa⟩ := prep_ok st.inv st.re ro dj e1
        have st2 := st.drop sb I2 r2 x2 (.of fun a h => by simp [s2 a h])
        have sOa : Sub H O Oa := fun b hb => by
          rcases List.mem_append.mp (sa b hb) with w | w
          · exact st.sub b w
          · exact sb b w
        refine ⟨st.inv.kIn, thn (call_g (Q := fun v H3 => ∃ B Bo, Ext Oa H2 H3 ∧ XRz X H3 rd v B ∧ OutR X.prog X.w X.K H3 (P.mode.getD f []) outs vs Bo ∧ Dis B Bo ∧ Sub H2 Oa B ∧ Sub H2 Oa Bo) G hr g.gds hb I2 rv ⟨ds, Oa, rd, outs, ar, e2, fun v H3 B Bo h1 h2 h3 h4 h5 h6 => ⟨B, Bo, h1, h2, h3, h4, h5, h6⟩⟩) fun u s3 ⟨v, H3, I3, rv3, B, Bo, x3, rz, out, dBB, sB, sBo⟩ => ?_⟩
        have r3 : XRE X H3 env1 σ O2 := r2.stay (x3.prs ar.own) fun a ha u e => x3 a u e fun z => d2 a z ha
        have disO : ∀ {B' : List Addr}, Sub H2 Oa B' → Dis B' O2 := fun sb' a ha hO => by
          rcases sb' a ha with w | w
          · exact d2 a w hO
          · obtain ⟨u, e, _⟩ := r2.own a hO
            rw [w] at e; cases e
        obtain ⟨O4, r4, s4⟩ := back_ok r3 out ro (disO sBo) e3
        have x04 : Ext O H H3 := fun b u e n => x3 b u (st2.ext b u e n) fun z => by
          rcases sOa b z with w | w
          · exact n w
          · rw [e] at w; cases w
        have old : ∀ {B' : List Addr}, Sub H2 Oa B' → Sub H O B' := fun sb' b hb => by
          rcases sb' b hb with w | w
          · exact sOa b w
          · by_cases q : b ∈ O
            · exact .inl q
            · cases e : H b with
              | none => exact .inr rfl
              | some u => rw [st2.ext b u e q] at w; cases w
        refine ⟨v, H3, O4, B, ⟨I3, r4, x04, fun b hb => ?_⟩, rv3, .val rz, fun b hB hO => ?_, old sB⟩
        · rcases s4 b hb with w | w
          · exact st2.sub b w
          · exact old sBo b w
        · rcases s4 b hO with w | w
          · exact disO sB b hB w
          · exact dBB b hB w
theorem se_call {cf : Nat → List D → C} {P : Prog} {f : Nat} {x : Str} {e : PySem.Expr} {es : List PySem.Expr} {A : Evs} {p pos : Pos} (g : Gd X) (F : FunZ X cf P f x) (hn : noStar (e :: es) = true) (ha : SA X (e :: es) A) : SE X (.Call (.Name x p) (e :: es) [] pos) (fCall P cf f A) := by
  intro pins s σ H env O I r
  obtain ⟨a, _, _, hm, hns, _⟩ := F.has
  exact Gl'.of (fun Q h => wpAny_Call_Name_kw (ld_glob I F.gl hm h F.db)) (call_core g F.has hn ha hns I r)
/-- a def's name as a value -/
theorem se_fun {cf : Nat → List D → C} {P : Prog} {f : Nat} {x : Str} {p : Pos} (F : FunZ X cf P f x) : SE X (.Name x p) fun env => .ok (.val (.clo x []), env) := by
  intro pins s σ H env O I r
  obtain ⟨a, _, _, hm, hns, _⟩ := F.has
  exact ld_glob I F.gl hm ⟨.ref a, H, O, [], Stp.refl I r, rfl, .val (.clo hns), Dis.nil, Sub.nil⟩ F.db
theorem nmIx_ok : ∀ {l : List Str} {x : Str} {f : Nat}, nmIx l x = some f → l[f]? = some x
  | [], _, _, h => by cases h
  | y :: r, x, f, h => by
    unfold nmIx at h
    split at h
    · rename_i e; cases h; rw [e]; rfl
    · obtain ⟨g, h1, rfl⟩ := Option.map_eq_some_iff.mp h
      show (y :: r)[g + 1]? = some x
      rw [List.getElem?_cons_succ]; exact nmIx_ok h1
/-- a def that was handed in is called by its name here -/
theorem se_app {cf : Nat → List D → C} {P : Prog} {i : Nat} {x : Str} {e : PySem.Expr} {es : List PySem.Expr} {A : Evs} {p pos : Pos} (g : Gd X) (F : ∀ f y, P.fns[f]? = some y → FunH X cf P f y) (hv : SE X (.Name x p) (fVar i)) (hn : noStar (e :: es) = true) (ha : SA X (e :: es) A) : SE X (.Call (.Name x p) (e :: es) [] pos) (fApp P cf (fVar i) A) := by
  intro pins s σ H env O I r
  refine Gl'.of (goal' := fun Q => wpAny (model X.prog X.w) X.A (eval (.Name x p) X.env) (fun u s1 => wpAny (model X.prog X.w) X.A (callWith pos u [] (backTo pos (starEach (e :: es) X.env)) []) Q X.xe s1) X.xe s) (fun Q h => wpAny_Call_Name_kw h)
    (Gl'.seq (REST := fun Q u s1 => wpAny (model X.prog X.w) X.A (callWith pos u [] (backTo pos (starEach (e :: es) X.env)) []) Q X.xe s1) (hv pins s σ H env O I r) fun p u s1 hp => ?_)
  obtain ⟨v, H1, O1, B, st, rv, ro, dj, sb⟩ := hp
  cases e1 : p.1.rd p.2 with
  | none => exact True.intro
  | some d =>
    cases d with
    | clo y cs =>
      cases cs with
      | cons _ _ => exact True.intro
      | nil =>
        show Gl' _ (match nmIx P.fns y with | some f => fCall P cf f A p.2 | none => .bad) _
        cases e2 : nmIx P.fns y with
        | none => exact True.intro
        | some f =>
          have vw := RO.rd st.re ro e1
          cases vw with
          | clo hns =>
            cases rv
            exact (call_core g (F f y (nmIx_ok e2)) hn ha hns st.inv st.re).up fun p u s h => PostO.up st h
    | _ => exact True.intro
end
end Z

set_option Elab.async false
set_option linter.all false
set_option maxRecDepth 100000
set_option maxHeartbeats 1000000
namespace Z
open PySem L2 PyProof.Rows
section
variable {X : Cx} {pins : List (Addr × Obj)} {σ : L2.St} {s s' : Shared}
/-! ## lists changed in place by their methods -/
/-- a method that hands back nothing -/
structure MuL (X : Cx) (m : Mut) (name : Str) (id : String) : Prop where
  slot : Slot "list" name id
  ty : typeOf (.builtin id) = pure (.type "method_descriptor")
  run : ∀ (pins : List (Addr × Obj)) (s : Shared) (σ : L2.St) (H : Hp) (a : Addr) (xs : List D) (vs : List V) (O1 : List Addr) (ds : List D) (ws : List V) (C : List Addr) (us : List Value) (z r : D), Inv X pins σ H s → H a = some (.lst vs) → XRzL X H xs vs O1 → a ∉ O1 →
    XRzL X H ds ws C → Dis C O1 → a ∉ C → Vals ws us → mutD m (.lst true xs) ds = some (z, r) →
    wpAny (model X.prog X.w) X.A (call (.builtin id) (.ref a :: us)) (EP X pins σ fun v H' => v = .non ∧ r = .non ∧ ∃ xs' vs' O2, z = .lst true xs' ∧ H' = upd H a (.lst vs') ∧ XRzL X H xs' vs' O2 ∧ ∀ b ∈ O2, b ∈ O1 ∨ b ∈ C) X.xe s
structure MuAll (X : Cx) (m : Mut) (name : Str) : Prop where
  lst : ∀ x ds z r, mutD m x ds = some (z, r) → ∃ xs, x = .lst true xs
  has : ∃ id, MuL X m name id
theorem mut_goal {m : Mut} {i : Nat} {B : Evs} {P : Opd × Env → Value → Shared → Prop} {p : Opd × Env} {goal : (Value → Shared → Prop) → Prop}
    (h : ∀ x0 q ds e2 x z r, p.1.rd p.2 = some x0 → B p.2 = .ok q → takes q.1 q.2 = some (ds, e2) → e2.getD i .no = .v x → x.ty = x0.ty → mutD m x ds = some (z, r) → goal (P (.val r, e2.set i (.v z)))) :
    Gl' P (match p.1.rd p.2 with
    | some x0 => (R.ok (([] : List Opd), p.2)).bind fun a => (match takes a.1 a.2 with
      | some (ks, e1) => (B e1).bind fun q => (match takes q.1 q.2 with
        | some (ds, e2) => (match e2.getD i .no with
          | .v x => if x.ty = x0.ty then (match atP x ks (fun y => mutD m y ds) with | some (z, r) => R.ok (Opd.val r, e2.set i (.v z)) | none => .bad) else .bad
          | _ => .bad)
        | none => .bad)
      | none => .bad)
    | none => .bad) goal := by
  cases e0 : p.1.rd p.2 with
  | none => exact True.intro
  | some x0 =>
    show Gl' P ((B p.2).bind fun q => (match takes q.1 q.2 with
        | some (ds, e2) => (match e2.getD i .no with
          | .v x => if x.ty = x0.ty then (match mutD m x ds with | some (z, r) => R.ok (Opd.val r, e2.set i (.v z)) | none => .bad) else .bad
          | _ => .bad)
        | none => .bad)) goal
    cases eB : B p.2 with
    | exc y e => exact True.intro
    | bad => exact True.intro
    | ok q =>
      show Gl' P (match takes q.1 q.2 with
        | some (ds, e2) => (match e2.getD i .no with
          | .v x => if x.ty = x0.ty then (match mutD m x ds with | some (z, r) => R.ok (Opd.val r, e2.set i (.v z)) | none => .bad) else .bad
          | _ => .bad)
        | none => .bad) goal
      cases e1 : takes q.1 q.2 with
      | none => exact True.intro
      | some y =>
        obtain ⟨ds, e2⟩ := y
        show Gl' P (match e2.getD i .no with
          | .v x => if x.ty = x0.ty then (match mutD m x ds with | some (z, r) => R.ok (Opd.val r, e2.set i (.v z)) | none => .bad) else .bad
          | _ => .bad) goal
        cases e3 : e2.getD i .no with
        | no => exact True.intro
        | r _ => exact True.intro
        | q _ => exact True.intro
        | v x =>
          show Gl' P (if x.ty = x0.ty then (match mutD m x ds with | some (z, r) => R.ok (Opd.val r, e2.set i (.v z)) | none => .bad) else .bad) goal
          split
          case isFalse => exact True.intro
          case isTrue hty =>
            cases e4 : mutD m x ds with
            | none => exact True.intro
            | some y => exact h x0 q ds e2 x y.1 y.2 e0 eB e1 e3 hty e4
theorem mut_fin {m : Mut} {name : Str} {id : String} (mo : MuL X m name id) {H H1 : Hp} {O O1 : List Addr} {p2 e2 : Env} {i : Nat} {s1 s2 : Shared} {v : V} {u : Value} {q : List Opd × Env} {us : List Value} {ds : List D} {xs : List D} {z r : D}
    (st : Stp X pins σ H O p2 s1 H1 O1) (rv : RelV v u) (eσ : σ[i]? = some (some v)) (hq : PostOs X pins σ H1 O1 q us s2) (e1 : takes q.1 q.2 = some (ds, e2)) (e3 : e2.getD i .no = .v (.lst true xs)) (e4 : mutD m (.lst true xs) ds = some (z, r)) :
    wpAny (model X.prog X.w) X.A (call (.builtin id) (u :: us)) (PostO X pins σ H O (.val r, e2.set i (.v z))) X.xe s2 := by
  obtain ⟨ws, H2, O2, C2, st2, rvs, ros, dj2, sb2⟩ := hq
  obtain ⟨H3, O3, B3, G, r3, q3, dj3, sB3⟩ := takes_ok' st2.inv st2.re ros dj2 e1
  obtain ⟨a, vs, Oa, ea, eH, rl, aO, sO, nO, up⟩ := lst_own r3 e3
  rw [eσ] at ea
  cases ea
  cases rv
  have dC : Dis B3 Oa := fun b hb h => dj3 b hb (sO b h)
  have aC : a ∉ B3 := fun h => dj3 a h aO
  refine thn (mo.run pins s2 σ H3 a xs vs Oa ds ws B3 us z r G.inv eH rl nO q3 dC aC rvs e4) fun c s3 hc => ?_
  obtain ⟨v', H4, I4, rc, rfl, rfl, xs', vs', On, rfl, rfl, rn, sn⟩ := hc
  obtain ⟨O4, r4, s4⟩ := up xs' vs' On rn (fun h => by rcases sn a h with w | w; exact nO w; exact aC w) fun b hb => by
    rcases sn b hb with w | w
    · exact .inl w
    · exact .inr (dj3 b w)
  have st3 : Stp X pins σ H O e2 s2 H3 O3 := (st.trans st2).trans ⟨G.inv, r3, G.ext, .of G.sub⟩
  have sB : Sub H O B3 := fun b hb => by
    exact st.old sb2 b (sB3 b hb)
  refine ⟨.non, _, O4, [], st3.drop sB I4 r4 (fun b u e n => ext_upd aO b u e fun z => n (by simp [z])) (.of fun b hb => ?_), rc, .val .non, Dis.nil, Sub.nil⟩
  rcases s4 b hb with w | w
  · simp [w]
  · rcases sn b w with w | w
    · simp [sO b w]
    · simp [w]
theorem var_step {H : Hp} {env : Env} {O : List Addr} {i : Nat} {x : Str} {pos : Pos} {d : D} (hN : X.N[i]? = some x) (hv : Vis X.env.scope x) (hd : (x == ("__debug__" : Str)) = false) (hcd : (x == ("__classdict__" : Str)) = false) (I : Inv X pins σ H s) (r : XRE X H env σ O) (e : look env i = some d) :
    wpAny (model X.prog X.w) X.A (eval (.Name x pos) X.env) (fun u s1 => ∃ v, σ[i]? = some (some v) ∧ RelV v u ∧ XVw X H d v ∧ Inv X pins σ H s1) X.xe s := by
  obtain ⟨v, e1, vw⟩ := r.look e
  refine thn ((pe_var hN hv hd hcd).run pins s σ H (fun v' H' => v' = v ∧ H' = H) I ⟨v, e1, rfl, rfl⟩) fun u s1 h1 => ?_
  obtain ⟨v', H', I', rv, e2, e3⟩ := h1
  subst e2 e3
  exact ⟨_, e1, rv, vw, I'⟩
theorem ty_lst {d : D} (h : d.ty = some "list") : ∃ o xs, d = .lst o xs := by cases d <;> first | exact ⟨_, _, rfl⟩ | (simp [D.ty] at h)
theorem se_mut {m : Mut} {name x : Str} {i : Nat} {e' : PySem.Expr} {es : List PySem.Expr} {B : Evs} {p1 apos cpos : Pos} (hm : MuAll X m name) (hline : (apos.endLine == cpos.line) = true) (hn : noStar (e' :: es) = true) (hl : (e' :: es).length < 30)
    (hN : X.N[i]? = some x) (hv : Vis X.env.scope x) (hd : (x == ("__debug__" : Str)) = false) (hcd : (x == ("__classdict__" : Str)) = false) (hb : SA X (e' :: es) B) : SE X (.Call (.Attribute (.Name x p1) name apos) (e' :: es) [] cpos) (fMut m i (fun env => .ok ([], env)) B) := by
  intro pins s σ H env O I r
  have few : ((backTo cpos (starEach (e' :: es) X.env)).all (fun x => !x.1) && (backToKw cpos (keywordEach [] X.env)).all (fun x => x.1.isSome) && decide ((e' :: es).length + ([] : List Keyword).length + (if ([] : List Keyword).isEmpty then 0 else 1) < 30)) = true := by
    rw [few_of hn]
    show (true && true && decide ((e' :: es).length + 0 + 0 < 30)) = true
    simpa using hl
  unfold fMut fVar
  split
  case isFalse => exact True.intro
  case isTrue hs =>
  obtain ⟨x0, e0⟩ := Option.isSome_iff_exists.mp hs
  refine mut_goal (p := (.pl i, env)) fun x0' q ds e2 x z rr f0 eB e1 e3 hty e4 => ?_
  have f0 : look env i = some x0' := f0
  rw [f0] at e0
  cases e0
  obtain ⟨xs, rfl⟩ := hm.lst _ _ _ _ e4
  obtain ⟨id, mo⟩ := hm.has
  refine wpAny_Call_method_late (base_of rfl) few hline rfl (thn (var_step hN hv hd hcd I r f0) fun u s1 h1 => ?_)
  obtain ⟨v, eσ, rv, vw, I1⟩ := h1
  obtain ⟨t1, t2⟩ := Vw.tyIs (T := "list") I1 vw rv (hty ▸ rfl) (by decide) (by decide) (by decide)
  refine ⟨"list", id, PySem.F.plainAttrs_list, mo.slot, mo.ty, t1, t2, Calls.callWith_builtin (noStar_any hn) ?_⟩
  have h4 := hb cpos pins s1 σ H env O I1 r
  rw [show B env = .ok q from eB] at h4
  have h4 : wpAny (model X.prog X.w) X.A (spliced (backTo cpos (starEach (e' :: es) X.env))) (PostOs X pins σ H O q) X.xe s1 := h4
  have hn' := hn
  simp only [noStar, Bool.and_eq_true, Bool.not_eq_true'] at hn'
  rw [starEach_cons hn'.1] at h4 ⊢
  exact Calls.evalArgs_plain (thn h4 fun us s2 hq => mut_fin mo (Stp.refl I1 r) rv eσ hq e1 e3 e4)
theorem RzL.appO {prog : Program} {w : World} {K : PySem.W.Frag} {H : Hp} : ∀ {ds es : List D} {vs us : List V} {A B : List Addr}, RzL prog w K H ds vs A → RzL prog w K H es us B → Dis A B → RzL prog w K H (ds ++ es) (vs ++ us) (A ++ B)
  | [], _, _, _, _, _, .nil, r, _ => r
  | _ :: _, _, _, _, _, _, .cons (O1 := O1) (O2 := O2) q qs d, r, dd => by
    rw [List.append_assoc]
    exact .cons q (RzL.appO qs r dd.l2) (Dis.appR d dd.l1)
theorem mu_append : MuAll X .append "append" where
  lst := fun x ds z r h => by
    match x, ds, h with
    | .lst true xs, [v], h => exact ⟨xs, rfl⟩
  has := ⟨"list.append", PySem.F.slot_list_append, PySem.F.type_list_append, fun pins s σ H a xs vs O1 ds ws C us z r I e rl n q dC aC rv h => by
    match ds, h with
    | [d], h =>
      simp only [mutD] at h
      split at h <;> cases h
      rename_i hl
      have hz : vs.length < sizeLine := by
        rw [← rl.length]
        exact Nat.lt_of_lt_of_le hl (by decide)
      have new := RzL.appO rl q (Dis.symm dC)
      cases q with
      | @cons _ _ w ws B1 B2 q1 q2 d12 =>
        cases q2
        exact mt_append pins s σ H (.ref a) [w] (.ref a) us _ I rfl rv ⟨a, vs, w, rfl, rfl, e, hz, rfl, rfl, _, _, _, rfl, rfl, new, fun b hb => List.mem_append.mp hb⟩⟩
theorem RzL.cut {prog : Program} {w : World} {K : PySem.W.Frag} {H : Hp} : ∀ {ds : List D} {vs : List V} {O : List Addr} (n : Nat), RzL prog w K H ds vs O → ∃ A B, O = A ++ B ∧ Dis A B ∧ RzL prog w K H (ds.take n) (vs.take n) A ∧ RzL prog w K H (ds.drop n) (vs.drop n) B
  | _, _, _, 0, r => ⟨[], _, rfl, Dis.nil, .nil, r⟩
  | _, _, _, n + 1, .nil => ⟨[], [], rfl, Dis.nil, .nil, .nil⟩
  | _, _, _, n + 1, .cons (O1 := O1) q qs d => by
    obtain ⟨A, B, rfl, dd, r1, r2⟩ := RzL.cut n qs
    exact ⟨O1 ++ A, B, (List.append_assoc ..).symm, Dis.appL d.r2 dd, .cons q r1 d.r1, r2⟩
theorem mu_insert : MuAll X .insert "insert" where
  lst := fun x ds z r h => by
    match x, ds, h with
    | .lst true xs, [.int i, v], h => exact ⟨xs, rfl⟩
  has := ⟨"list.insert", PySem.F.slot_list_insert, PySem.F.type_list_insert, fun pins s σ H a xs vs O1 ds ws C us z r I e rl n q dC aC rv h => by
    match ds, h with
    | [.int i, d], h =>
      simp only [mutD] at h
      split at h <;> cases h
      rename_i hl
      have hz : vs.length < sizeLine := by
        rw [← rl.length]
        exact Nat.lt_of_lt_of_le hl.1 (by decide)
      have hb : i < 2 ^ 63 := by
        have h1 := hl.2.2
        have h2 := hl.1
        have : (line : Int) < 2 ^ 63 := by decide
        omega
      cases q with
      | @cons _ _ w1 ws1 B1 B2 q1 q2 d12 =>
        cases q1
        obtain ⟨A, B, rfl, dd, r1, r2⟩ := rl.cut i.toNat
        have cA : Dis A B2 := fun b hb h => dC b (by simpa using h) (by simp [hb])
        have cB : Dis B2 B := fun b hb h => dC b (by simpa using hb) (by simp [h])
        have new := RzL.appO r1 (RzL.appO q2 r2 cB) (Dis.appR cA dd)
        cases q2 with
        | @cons _ _ w ws B3 B4 q3 q4 d34 =>
          cases q4
          refine mt_insert pins s σ H (.ref a) [.int i, w] (.ref a) us _ I rfl rv ⟨a, vs, i, w, rfl, rfl, e, hz, hl.2.1, hb, rfl, rfl, _, _, _, rfl, rfl, by rw [List.append_assoc]; exact new, fun b hb => ?_⟩
          simp only [List.mem_append, List.append_nil, List.nil_append, List.not_mem_nil, or_false] at hb ⊢
          rcases hb with h | h | h
          · exact .inl (.inl h)
          · exact .inr h
          · exact .inl (.inr h)⟩
end
end Z

set_option Elab.async false
set_option linter.all false
set_option maxRecDepth 100000
set_option maxHeartbeats 1000000
namespace Z
open PySem L2 PyProof.Rows
section
variable {X : Cx} {pins : List (Addr × Obj)} {σ : L2.St} {s s' : Shared}
theorem st_isN {n : Bool} {a : PySem.Expr} {A : Ev} {j : Nat} {p' pos : Pos} (ha : SE X a A) : ST X (.Compare a [if n then .IsNot else .Is] [.Constant .none j p'] pos) (fIsN n A) := by
  intro whole pins s σ H env O hw I r
  show Gl' _ (tstO (fIsN n A env)) _
  unfold fIsN
  rw [tstO_bind]
  refine Gl'.of (goal' := fun Q => wpAny (model X.prog X.w) X.A (eval a X.env) (fun u s1 => wpAny (model X.prog X.w) X.A (compareOp (if n then .IsNot else .Is) u .none) (fun c s2 => wpAny (model X.prog X.w) X.A (truthy c) Q X.xe s2) X.xe s1) X.xe s)
    (fun Q h => wpAny_isTrue_Compare1 (thn h fun u s1 h1 => Constant_none h1) (by cases n <;> rfl))
    (Gl'.seq (REST := fun Q u s1 => wpAny (model X.prog X.w) X.A (compareOp (if n then .IsNot else .Is) u .none) (fun c s2 => wpAny (model X.prog X.w) X.A (truthy c) Q X.xe s2) X.xe s1) (ha pins s σ H env O I r) fun p u s1 hp => ?_)
  obtain ⟨v, H1, O1, B, st, rv, ro, dj, sb⟩ := hp
  cases e1 : p.1.rd p.2 with
  | none => exact True.intro
  | some d =>
    have vw := RO.rd st.re ro e1
    cases n with
    | true =>
      refine thn (op_notN pins s1 σ H1 v .non u .none (fun v' H' => v' = .bl (!decide (v = .non)) ∧ H' = H1) st.inv rv rfl ⟨rfl, rfl, rfl⟩) fun c s2 ⟨v', H', I', r', z1, z2⟩ => ?_
      subst z1 z2
      cases (show c = Value.bool (!decide (v = .non)) from r')
      exact wpAny_truthy_bool ⟨by rw [vw.isNon]; cases isNon d <;> rfl, H', O1, I', st.re, st.ext, st.sub⟩
    | false =>
      refine thn (op_isN pins s1 σ H1 v .non u .none (fun v' H' => v' = .bl (decide (v = .non)) ∧ H' = H1) st.inv rv rfl ⟨rfl, rfl, rfl⟩) fun c s2 ⟨v', H', I', r', z1, z2⟩ => ?_
      subst z1 z2
      cases (show c = Value.bool (decide (v = .non)) from r')
      exact wpAny_truthy_bool ⟨by rw [vw.isNon]; cases isNon d <;> rfl, H', O1, I', st.re, st.ext, st.sub⟩
theorem tstO_two {A B : Ev} {env : Env} {f : Opd × Env → Opd × Env → R (Opd × Env)} : tstO ((A env).bind fun p => (B p.2).bind fun q => f p q) = (A env).bind fun p => (B p.2).bind fun q => tstO (f p q) := tstO_bind2 _ _ _
theorem st_cmp2 {o1 o2 : Cmp} {a b c : PySem.Expr} {A B C : Ev} {pos : Pos} (g : Gd X) (ha : SE X a A) (hb : SE X b B) (hc : SE X c C) (hm : behindInMarks (cop o2) c = false) : ST X (.Compare a [cop o1, cop o2] [b, c] pos) (fCmp2 o1 o2 A B C) := by
  intro whole pins s σ H env O hw I r
  show Gl' _ (tstO (fCmp2 o1 o2 A B C env)) _
  unfold fCmp2
  rw [tstO_two]
  refine Gl'.of (goal' := fun Q => wpAny (model X.prog X.w) X.A (eval a X.env) (fun u s1 => wpAny (model X.prog X.w) X.A (eval b X.env) (fun w s2 => wpAny (model X.prog X.w) X.A (compareOp (cop o1) u w) (fun d s3 => wpAny (model X.prog X.w) X.A (truthy d)
      (fun t s4 => if t then wpAny (model X.prog X.w) X.A (testChain pos w [cop o2] [eval c X.env]) Q X.xe s4 else Q false s4) X.xe s3) X.xe s2) X.xe s1) X.xe s)
    (fun Q h => isTrue_chain (rs := []) (ops := []) (thn h fun u s1 h1 => test_link h1) (by show behindInMarks (cop o2) c = false; exact hm))
    (two (REST := fun Q u w s2 => wpAny (model X.prog X.w) X.A (compareOp (cop o1) u w) (fun d s3 => wpAny (model X.prog X.w) X.A (truthy d)
      (fun t s4 => if t then wpAny (model X.prog X.w) X.A (testChain pos w [cop o2] [eval c X.env]) Q X.xe s4 else Q false s4) X.xe s3) X.xe s2) ha hb I r fun p q u w s2 v x H' O' B' C' T => ?_)
  cases e1 : p.1.rd q.2 with
  | none => exact True.intro
  | some d1 =>
    cases e2 : q.1.rd q.2 with
    | none => exact True.intro
    | some d2 =>
      show Gl' _ (tstO (match cmpD o1 d1 d2 with
        | some false => R.ok (Opd.val (.bl false), q.2)
        | some true => ((C q.2).bind fun r => (match q.1.rd r.2, r.1.rd r.2 with
          | some y, some z => ofD ((cmpD o2 y z).map .bl) r.2
          | _, _ => .bad))
        | none => .bad)) _
      cases e3 : cmpD o1 d1 d2 with
      | none => exact True.intro
      | some k =>
        have step := cmp_ok T.st.inv g.sys (by have := g.un; omega) o1 (T.rd1 e1) (T.rd2 e2) T.r1 T.r2 e3
        cases k with
        | false =>
          refine thn step fun d s3 hd => ?_
          obtain ⟨rfl, I3⟩ := hd
          exact wpAny_truthy_bool ⟨rfl, H', O', I3, T.st.re, T.st.ext, T.st.sub⟩
        | true =>
          show Gl' _ (tstO ((C q.2).bind _)) _
          cases hC : C q.2 with
          | exc y e => exact True.intro
          | bad => exact True.intro
          | ok z =>
            show Gl' _ (tstO (match q.1.rd z.2, z.1.rd z.2 with | some y, some z' => ofD ((cmpD o2 y z').map .bl) z.2 | _, _ => .bad)) _
            cases e4 : q.1.rd z.2 with
            | none => exact True.intro
            | some d3 =>
              cases e5 : z.1.rd z.2 with
              | none => exact True.intro
              | some d4 =>
                show Gl' _ (tstO (ofD ((cmpD o2 d3 d4).map .bl) z.2)) _
                cases e6 : cmpD o2 d3 d4 with
                | none => exact True.intro
                | some k2 =>
                  refine thn step fun d s3 hd => ?_
                  obtain ⟨rfl, I3⟩ := hd
                  refine wpAny_truthy_bool ?_
                  show wpAny (model X.prog X.w) X.A (testChain pos w [cop o2] [eval c X.env]) (PostT X pins σ H O (k2, z.2)) X.xe s3
                  have st3 : Stp X pins σ H O q.2 s3 H' O' := ⟨I3, T.st.re, T.st.ext, T.st.sub⟩
                  have h2 := hc pins s3 σ H' q.2 O' I3 T.st.re
                  rw [hC] at h2
                  refine test_last (thn h2 fun w2 s4 h4 => ?_)
                  obtain ⟨z3, H4, O4, C4, T4⟩ := PostO.two st3 T.r2 T.o2 T.d2 T.s2 h4
                  refine thn (cmp_ok T4.st.inv g.sys (by have := g.un; omega) o2 (T4.rd1 e4) (T4.rd2 e5) T4.r1 T4.r2 e6) fun r s5 h5 => ?_
                  obtain ⟨rfl, I5⟩ := h5
                  exact wpAny_truthy_bool ⟨rfl, H4, O4, I5, T4.st.re, T4.st.ext, T4.st.sub⟩
/-! ## the text is what the reckoning says: the look -/
structure Gt where
  fns : List Str
  cons : List Str
  blt : List Str
structure Tx where
  N : List Str
  sc : Scope
  cell : Str → Bool
def vis (T : Tx) (x : Str) : Bool := match T.sc.names.lookup x with | some .local => true | some .cell => true | some .free => true | _ => false
def glo (T : Tx) (x : Str) : Bool := decide (T.sc.names.lookup x = some .globalImplicit)
def sto (T : Tx) (x : Str) : Bool := match T.sc.names.lookup x with | some .local => true | some .cell => T.cell x | _ => false
def nmOk (x : Str) : Bool := !(x == ("__debug__" : Str)) && !(x == ("__classdict__" : Str)) && decide (x ≠ ("__name__" : Str))
def biName : Bi → Str
  | .len => "len" | .int => "int" | .abs => "abs" | .repr => "repr" | .all => "all" | .any => "any" | .tuple => "tuple" | .list => "list" | _ => ""
def biVal : Bi → Value
  | .len => .builtin "len" | .int => .type "int" | .abs => .builtin "abs" | .repr => .builtin "repr" | .all => .builtin "all" | .any => .builtin "any" | .tuple => .type "tuple" | .list => .type "list" | _ => .none
def biS : Bi → Bool
  | .len => true | .int => true | .abs => true | .repr => true | .all => true | .any => true | .tuple => true | .list => true | _ => false
def mutName : Mut → Str | .append => "append" | .insert => "insert" | _ => ""
def mutS : Mut → Bool | .append => true | .insert => true | _ => false
def metName : Met → Str | .upper => "upper" | .join => "join" | _ => ""
def metS : Met → Bool | .upper => true | .join => true | _ => false
def tyS : Ty → Bool | .cls _ => false | _ => true
def bltOk (G : Gt) (T : Tx) (x : Str) : Bool := decide (x ∈ G.blt) && glo T x && nmOk x
def Tx.blk (T : Tx) (scope : Scope) : Tx := { N := T.N, sc := relS scope T.sc, cell := fun x => decide (scope.names.lookup x = some .cell) }
mutual
def tsl : Tgt → List Nat
  | .var i => [i]
  | .tup ts => tsls ts
  | .sub _ _ _ => []
  | .attr _ _ => []
def tsls : Tgts → List Nat
  | .nil => []
  | .cons t r => tsl t ++ tsls r
end
def ownS (T : Tx) (own : List Nat) : List (Str × Nat) := own.map fun i => (T.N.getD i "", i)
section
variable (G : Gt)
mutual
def chE (T : Tx) : Exp → PySem.Expr → Bool
  | .cst d, e => (match d, e with
    | .int i, .Constant (.int j) _ _ => decide (i = j)
    | .str i, .Constant (.str j) _ _ => decide (i = j)
    | .bl i, .Constant (.bool j) _ _ => i == j
    | .non, .Constant .none _ _ => true
    | .clo x [], .Name y _ => decide (x = y) && decide (x ∈ G.fns) && glo T x && nmOk x
    | _, _ => false)
  | .var i, e => (match e with | .Name x _ => decide (T.N[i]? = some x) && vis T x && nmOk x | _ => false)
  | .glo k, e => (match e with | .Name x _ => decide (G.cons[k]? = some x) && glo T x && nmOk x | _ => false)
  | .bin op a b, e => (match e with | .BinOp l o r _ => decide (o = bop op) && chE T a l && chE T b r | _ => false)
  | .neg a, e => (match e with | .UnaryOp .USub x _ => chE T a x | _ => false)
  | .not a, e => (match e with | .UnaryOp .Not x _ => chE T a x | _ => false)
  | .cmp op a b, e => (match e with | .Compare l [o] [r] _ => decide (o = cop op) && !behindInMarks (cop op) r && chE T a l && chE T b r | _ => false)
  | .cmp2 o1 o2 a b c, e => (match e with | .Compare l [p1, p2] [x, y] _ => decide (p1 = cop o1) && decide (p2 = cop o2) && !behindInMarks (cop o2) y && chE T a l && chE T b x && chE T c y | _ => false)
  | .isN n a, e => (match e with | .Compare l [o] [.Constant .none _ _] _ => decide (o = if n then .IsNot else .Is) && chE T a l | _ => false)
  | .and a b, e => (match e with
    | .BoolOp .And [x, y] _ => chE T a x && chE T b y
    | .BoolOp .And (x :: y :: z :: rest) pos => chE T a x && chE T b (.BoolOp .And (y :: z :: rest) pos)
    | _ => false)
  | .or a b, e => (match e with
    | .BoolOp .Or [x, y] _ => chE T a x && chE T b y
    | .BoolOp .Or (x :: y :: z :: rest) pos => chE T a x && chE T b (.BoolOp .Or (y :: z :: rest) pos)
    | _ => false)
  | .ife c a b, e => (match e with | .IfExp t x y _ => chE T c t && chE T a x && chE T b y | _ => false)
  | .tup es, e => (match e with | .Tuple l _ _ => es.plain && chEs T es l | _ => false)
  | .lst es, e => (match e with | .List l _ => es.plain && chEs T es l | _ => false)
  | .dct kvs, e => (match e with | .Dict ks vs _ => decide (ks.length ≤ 15) && chKV T kvs ks vs | _ => false)
  | .idx a i, e => (match e with | .Subscript x y _ => !isPlainSl y && chE T a x && chE T i y | _ => false)
  | .sli a lo hi, e => (match e with
    | .Subscript x (.Slice l h none _) _ => chE T a x && (match l with | none => (match lo with | .cst .non => true | _ => false) | some y => chE T lo y) && (match h with | none => (match hi with | .cst .non => true | _ => false) | some y => chE T hi y)
    | _ => false)
  | .rev a, e => (match e with | .Subscript x (.Slice none none (some (.UnaryOp .USub (.Constant (.int 1) _ _) _)) _) _ => chE T a x | _ => false)
  | .call f as, e => (match e with | .Call (.Name x _) (y :: l) [] _ => decide (G.fns[f]? = some x) && glo T x && nmOk x && noStar (y :: l) && chEs T as (y :: l) | _ => false)
  | .app c as, e => (match c with
    | .var i => (match e with | .Call (.Name x _) (y :: l) [] _ => decide (T.N[i]? = some x) && vis T x && nmOk x && noStar (y :: l) && chEs T as (y :: l) | _ => false)
    | _ => false)
  | .mut m i p as, e => (match p with
    | .nil => (match e with | .Call (.Attribute (.Name x _) nm ap) (y :: l) [] cp => mutS m && decide (nm = mutName m) && decide (T.N[i]? = some x) && vis T x && nmOk x && (ap.endLine == cp.line) && noStar (y :: l) && decide ((y :: l).length < 30) && chEs T as (y :: l) | _ => false)
    | _ => false)
  | .bi b as, e => (match e with | .Call (.Name x _) (y :: l) [] _ => biS b && decide (x = biName b) && bltOk G T x && noStar (y :: l) && chEs T as (y :: l) | _ => false)
  | .isi a t, e => (match e with | .Call (.Name x _) [y, .Name z _] [] _ => tyS t && decide (x = "isinstance") && bltOk G T x && decide (z = tyName t) && bltOk G T z && !isStar y && chE T a y | _ => false)
  | .met m a as, e => (match e with | .Call (.Attribute o nm ap) l [] cp => metS m && decide (nm = metName m) && notSup o && (ap.endLine == cp.line) && noStar l && decide (l.length < 30) && chE T a o && chEs T as l | _ => false)
  | .lc own elt cs, e => (match e with
    | .ListComp x [⟨tg, iter, fs, 0⟩] scope _ => (match cs with
      | .cons t it ifs .nil => blkC T.N T.sc scope (ownS T own) && notSetE iter && (tsl t).all (fun i => decide (i ∈ own)) && chI T it iter && chT (T.blk scope) t tg && chF (T.blk scope) ifs fs && chE (T.blk scope) elt x
      | _ => false)
    | _ => false)
  | _, _ => false
def chEs (T : Tx) : Exps → List PySem.Expr → Bool
  | .nil, l => (match l with | [] => true | _ => false)
  | .cons e r, l => (match l with | x :: l => !isStar x && chE T e x && chEs T r l | [] => false)
  | .star _ _, _ => false
def chKV (T : Tx) : KVs → List (Option PySem.Expr) → List PySem.Expr → Bool
  | .nil, ks, vs => (match ks, vs with | [], [] => true | _, _ => false)
  | .cons k v r, ks, vs => (match ks, vs with | some x :: ks, y :: vs => chE T k x && chE T v y && chKV T r ks vs | _, _ => false)
  | .star _ _, _, _ => false
def chI (T : Tx) : Itr → PySem.Expr → Bool
  | .ex e, x => chE T e x
  | .range as, x => (match x with | .Call (.Name x _) (y :: l) [] _ => decide (x = "range") && bltOk G T x && noStar (y :: l) && chEs T as (y :: l) | _ => false)
  | _, _ => false
def chF (T : Tx) : Exps → List PySem.Expr → Bool
  | .nil, l => (match l with | [] => true | _ => false)
  | .cons e .nil, l => (match l with | [x] => chE T e x | _ => false)
  | _, _ => false
def chT (T : Tx) : Tgt → PySem.Expr → Bool
  | .var i, e => (match e with | .Name x _ => decide (T.N[i]? = some x) && sto T x | _ => false)
  | .tup ts, e => (match e with | .Tuple l _ _ => noStar l && chTs T ts l | _ => false)
  | .sub i p k, e => (match p, e with | .nil, .Subscript (.Name x _) y _ => decide (T.N[i]? = some x) && vis T x && nmOk x && !isPlainSl y && chE T k y | _, _ => false)
  | .attr _ _, _ => false
def chTs (T : Tx) : Tgts → List PySem.Expr → Bool
  | .nil, l => (match l with | [] => true | _ => false)
  | .cons t r, l => (match l with | x :: l => !isStar x && chT T t x && chTs T r l | [] => false)
end
end
end
end Z

set_option Elab.async false
set_option linter.all false
set_option maxRecDepth 100000
set_option maxHeartbeats 2000000
namespace Z
open PySem L2 PyProof.Rows
structure Good (G : Gt) (P : Prog) (cf : Nat → List D → C) (T : Tx) (X : Cx) : Prop where
  gd : Gd X
  nm : X.N = T.N
  nd : T.N.Nodup
  sc : X.env.scope = T.sc
  fn : ∀ x, T.cell x = true → X.fn x = true
  funs : ∀ (f : Nat) (x : Str), G.fns[f]? = some x → FunH X cf P f x
  cons : ∀ (k : Nat) (x : Str) (d : D), G.cons[k]? = some x → P.glob[k]? = some d → GlR X x d
  blt : ∀ x ∈ G.blt, X.mg x = none
  pf : P.fns = G.fns
section
variable {G : Gt} {P : Prog} {cf : Nat → List D → C} {T : Tx} {X : Cx} {io : List Nat}
theorem Good.blk (g : Good G P cf T X) (s : Shared) (H : Hp) (scope : Scope) (cl : List (Str × Addr)) (C : Addr) (fp : List Addr) : Good G P cf (T.blk scope) (X.blk s H scope (compEnvC scope cl C X.env) fp) := by
  refine ⟨⟨g.gd.sys, g.gd.un, g.gd.calm, g.gd.gds⟩, g.nm, g.nd, ?_, fun x h => ?_, g.funs, g.cons, g.blt, g.pf⟩
  · show (compEnvC scope cl C X.env).scope = relS scope T.sc
    rw [← g.sc]; rfl
  · show (scope.names.lookup x == some .cell) = true
    have h : decide (scope.names.lookup x = some .cell) = true := h
    simpa using of_decide_eq_true h
theorem Good.vis (g : Good G P cf T X) {x : Str} (h : vis T x = true) : Vis X.env.scope x := by
  unfold Z.vis at h
  unfold Vis
  rw [g.sc]
  split at h <;> rename_i e
  · exact .inl e
  · exact .inr (.inl e)
  · exact .inr (.inr e)
  · cases h
theorem Good.gl (g : Good G P cf T X) {x : Str} (h : glo T x = true) : Gl X x := by
  show X.env.scope.names.lookup x = _
  rw [g.sc]
  exact of_decide_eq_true h
theorem Good.sto (g : Good G P cf T X) {x : Str} (h : sto T x = true) : L2.Loc X.env.scope x ∧ (X.fn x = true ∨ X.env.scope.names.lookup x = some .local) := by
  unfold Z.sto at h
  unfold L2.Loc
  rw [g.sc]
  split at h <;> rename_i e
  · exact ⟨.inl e, .inr e⟩
  · exact ⟨.inr e, .inl (g.fn x h)⟩
  · cases h
theorem nmOk_of {x : Str} (h : nmOk x = true) : (x == ("__debug__" : Str)) = false ∧ (x == ("__classdict__" : Str)) = false ∧ x ≠ ("__name__" : Str) := by
  simp only [nmOk, Bool.and_eq_true, Bool.not_eq_true', decide_eq_true_eq] at h
  exact ⟨h.1.1, h.1.2, h.2⟩
theorem Good.ix (g : Good G P cf T X) {i : Nat} {x : Str} (h : T.N[i]? = some x) : X.N[i]? = some x := by rw [g.nm]; exact h
theorem Good.bl (g : Good G P cf T X) {x : Str} {f : Value} (h : bltOk G T x = true) (hb : bootBuiltins x = some f) (hi : isBlt f = true) : Blt X x f := by
  simp only [bltOk, Bool.and_eq_true, decide_eq_true_eq] at h
  obtain ⟨h1, _, h3⟩ := nmOk_of h.2
  exact ⟨g.gl h.1.2, g.blt x h.1.1, hb, h3, h1, hi⟩
theorem boot_all : bootBuiltins "all" = some (.builtin "all") := by decide +kernel
theorem boot_any : bootBuiltins "any" = some (.builtin "any") := by decide +kernel
theorem boot_abs : bootBuiltins "abs" = some (.builtin "abs") := by decide +kernel
theorem boot_repr : bootBuiltins "repr" = some (.builtin "repr") := by decide +kernel
theorem bi_boot {b : Bi} (h : biS b = true) : bootBuiltins (biName b) = some (biVal b) ∧ isBlt (biVal b) = true := by
  cases b <;> first | (cases h; done) | exact ⟨PySem.boot_len, rfl⟩ | exact ⟨PyProof.Rows.boot_int, rfl⟩ | exact ⟨Z.boot_all, rfl⟩ | exact ⟨Z.boot_any, rfl⟩ | exact ⟨Z.boot_abs, rfl⟩ | exact ⟨Z.boot_repr, rfl⟩ | exact ⟨PyProof.Rows.boot_list, rfl⟩ | exact ⟨PyProof.Rows.boot_tuple, rfl⟩
theorem bi_run (g : Gd X) {b : Bi} (h : biS b = true) (hc : b.copies = false) : BiR X b (biVal b) := by
  cases b <;> first | (cases h; done) | (cases hc; done) | exact bi_len | exact bi_int | exact bi_abs | exact bi_repr g | exact bi_all g | exact bi_any g
theorem bi_cpy (g : Gd X) {b : Bi} (h : biS b = true) (hc : b.copies = true) : BiC X b (biVal b) := by
  cases b <;> first | (cases h; done) | (cases hc; done) | exact bi_tuple | exact bi_list
theorem mu_run {m : Mut} (h : mutS m = true) : MuAll X m (mutName m) := by
  cases m <;> first | (cases h; done) | exact mu_append | exact mu_insert
theorem ty_boot {t : Ty} (h : tyS t = true) : bootBuiltins (tyName t) = some (.type t.nm) := by
  cases t with
  | cls c => cases h
  | _ => decide +kernel
theorem met_run {m : Met} (h : metS m = true) : MtAll X m (metName m) := by
  cases m <;> first | (cases h; done) | exact mta_upper | exact mta_join
/-- e is not a test of its own kind -/
theorem plain_test {e : PySem.Expr} {F : Ev} (h : SE X e F) (he : (match e with | .UnaryOp .Not _ _ => false | .BoolOp _ _ _ => false | .IfExp _ _ _ _ => false | .Compare _ _ _ _ => false | _ => true) = true) : SE X e F ∧ ST X e F := by
  refine ⟨h, h.st (fun whole => ?_) ?_⟩
  · cases e with
    | UnaryOp op x p => cases op <;> first | rfl | cases he
    | BoolOp => cases he
    | IfExp => cases he
    | Compare => cases he
    | _ => rfl
  · cases e <;> first | rfl | cases he
mutual
theorem okE : ∀ (x : Exp) {T : Tx} {X : Cx} {e : PySem.Expr}, Good G P cf T X → chE G T x e = true → SE X e (evO P cf io x) ∧ ST X e (evO P cf io x)
  | .cst d, T, X, e, g, h => by
    unfold chE at h
    split at h
    · cases of_decide_eq_true h; exact plain_test se_int rfl
    · cases of_decide_eq_true h; exact plain_test se_str rfl
    · cases (eq_of_beq h); exact plain_test se_bl rfl
    · exact plain_test se_non rfl
    · simp only [Bool.and_eq_true, decide_eq_true_eq] at h
      obtain ⟨⟨⟨rfl, h2⟩, h3⟩, h4⟩ := h
      obtain ⟨f, hf⟩ := List.mem_iff_getElem?.mp h2
      exact plain_test (se_fun ⟨g.funs f _ hf, g.gl h3, (nmOk_of h4).1⟩) rfl
    · cases h
  | .var i, T, X, e, g, h => by
    unfold chE at h
    split at h
    · simp only [Bool.and_eq_true, decide_eq_true_eq] at h
      obtain ⟨n1, n2, _⟩ := nmOk_of h.2
      exact plain_test (se_var (g.ix h.1.1) (g.vis h.1.2) n1 n2) rfl
    · cases h
  | .glo k, T, X, e, g, h => by
    unfold chE at h
    split at h
    · simp only [Bool.and_eq_true, decide_eq_true_eq] at h
      obtain ⟨n1, n2, _⟩ := nmOk_of h.2
      exact plain_test (se_glo (g.gl h.1.2) n1 fun d hd => g.cons k _ d h.1.1 hd) rfl
    · cases h
  | .bin op a b, T, X, e, g, h => by
    unfold chE at h
    split at h
    · simp only [Bool.and_eq_true, decide_eq_true_eq] at h
      obtain ⟨⟨rfl, h1⟩, h2⟩ := h
      exact plain_test (se_bin (okE a g h1).1 (okE b g h2).1) rfl
    · cases h
  | .neg a, T, X, e, g, h => by
    unfold chE at h
    split at h
    · exact plain_test (se_neg (okE a g h).1) rfl
    · cases h
  | .not a, T, X, e, g, h => by
    unfold chE at h
    split at h
    · exact ⟨se_not (okE a g h).1, st_not (okE a g h).2⟩
    · cases h
  | .cmp op a b, T, X, e, g, h => by
    unfold chE at h
    split at h
    · simp only [Bool.and_eq_true, decide_eq_true_eq, Bool.not_eq_true'] at h
      obtain ⟨⟨⟨rfl, h0⟩, h1⟩, h2⟩ := h
      exact ⟨se_cmp g.gd (okE a g h1).1 (okE b g h2).1 h0, st_cmp g.gd (okE a g h1).1 (okE b g h2).1 h0⟩
    · cases h
  | .cmp2 o1 o2 a b c, T, X, e, g, h => by
    unfold chE at h
    split at h
    · simp only [Bool.and_eq_true, decide_eq_true_eq, Bool.not_eq_true'] at h
      obtain ⟨⟨⟨⟨⟨rfl, rfl⟩, h0⟩, h1⟩, h2⟩, h3⟩ := h
      exact ⟨se_cmp2 g.gd (okE a g h1).1 (okE b g h2).1 (okE c g h3).1 h0, st_cmp2 g.gd (okE a g h1).1 (okE b g h2).1 (okE c g h3).1 h0⟩
    · cases h
  | .isN n a, T, X, e, g, h => by
    unfold chE at h
    split at h
    · simp only [Bool.and_eq_true, decide_eq_true_eq] at h
      obtain ⟨rfl, h1⟩ := h
      exact ⟨se_isN (okE a g h1).1, st_isN (okE a g h1).1⟩
    · cases h
  | .isB _ _ _, T, X, e, g, h => by simp [chE] at h
  | .and a b, T, X, e, g, h => by
    unfold chE at h
    split at h
    · simp only [Bool.and_eq_true] at h
      exact ⟨se_and (okE a g h.1).1 (se_one (okE b g h.2).1), st_and (okE a g h.1).2 (st_one (okE b g h.2).2)⟩
    · simp only [Bool.and_eq_true] at h
      exact ⟨se_and (okE a g h.1).1 (okE b g h.2).1, st_and (okE a g h.1).2 (okE b g h.2).2⟩
    · cases h
  | .or a b, T, X, e, g, h => by
    unfold chE at h
    split at h
    · simp only [Bool.and_eq_true] at h
      exact ⟨se_or (okE a g h.1).1 (se_one (okE b g h.2).1), st_or (okE a g h.1).2 (st_one (okE b g h.2).2)⟩
    · simp only [Bool.and_eq_true] at h
      exact ⟨se_or (okE a g h.1).1 (okE b g h.2).1, st_or (okE a g h.1).2 (okE b g h.2).2⟩
    · cases h
  | .ife c a b, T, X, e, g, h => by
    unfold chE at h
    split at h
    · simp only [Bool.and_eq_true] at h
      exact ⟨se_ife (okE c g h.1.1).2 (okE a g h.1.2).1 (okE b g h.2).1, st_ife (okE c g h.1.1).2 (okE a g h.1.2).2 (okE b g h.2).2⟩
    · cases h
  | .tup es, T, X, e, g, h => by
    unfold chE at h
    split at h
    · simp only [Bool.and_eq_true] at h
      have e1 : evO P cf io (.tup es) = fDsp true (evOs P cf io es) := by rw [evO, if_pos h.1]
      rw [e1]
      exact plain_test (se_tup (okEs es g h.2)) rfl
    · cases h
  | .lst es, T, X, e, g, h => by
    unfold chE at h
    split at h
    · simp only [Bool.and_eq_true] at h
      have e1 : evO P cf io (.lst es) = fDsp false (evOs P cf io es) := by rw [evO, if_pos h.1]
      rw [e1]
      exact plain_test (se_lst (okEs es g h.2)) rfl
    · cases h
  | .dct kvs, T, X, e, g, h => by
    unfold chE at h
    split at h
    · rename_i ks vs pos
      simp only [Bool.and_eq_true, decide_eq_true_eq] at h
      obtain ⟨k1, k2, k3⟩ := okKVs kvs g h.2
      cases ks with
      | nil =>
        cases kvs with
        | nil =>
          cases vs with
          | nil => exact plain_test (se_dct0 g.gd) rfl
          | cons _ _ => simp at k2
        | cons a b c => simp [chKV] at h
        | star a b => simp [chKV] at h
      | cons k ks =>
        cases vs with
        | nil => simp at k2
        | cons v vs =>
          cases k with
          | none => simp at k1
          | some k => exact plain_test (se_dct g.gd (by simpa using k1) (by simpa using k2) (by have := h.1; simp at this; omega) k3) rfl
    · cases h
  | .set _, T, X, e, g, h => by simp [chE] at h
  | .idx a i, T, X, e, g, h => by
    unfold chE at h
    split at h
    · simp only [Bool.and_eq_true, Bool.not_eq_true'] at h
      exact plain_test (se_idx ix_ok h.1.1 (okE a g h.1.2).1 (okE i g h.2).1) rfl
    · cases h
  | .sli a lo hi, T, X, e, g, h => by
    unfold chE at h
    split at h
    · rename_i x l hh p2 pos
      simp only [Bool.and_eq_true] at h
      obtain ⟨⟨h1, h2⟩, h3⟩ := h
      have e1 : SP' X l (evO P cf io lo) := by
        cases l with
        | none =>
          dsimp only at h2
          split at h2
          · exact sp_none
          · cases h2
        | some y => exact sp_some (okE lo g h2).1
      have e2 : SP' X hh (evO P cf io hi) := by
        cases hh with
        | none =>
          dsimp only at h3
          split at h3
          · exact sp_none
          · cases h3
        | some y => exact sp_some (okE hi g h3).1
      exact plain_test (se_sli (okE a g h1).1 e1 e2) rfl
    · cases h
  | .rev a, T, X, e, g, h => by
    unfold chE at h
    split at h
    · exact plain_test (se_rev (okE a g h).1) rfl
    · cases h
  | .call f as, T, X, e, g, h => by
    unfold chE at h
    split at h
    · simp only [Bool.and_eq_true, decide_eq_true_eq] at h
      obtain ⟨⟨⟨⟨h1, h2⟩, h3⟩, h4⟩, h5⟩ := h
      exact plain_test (se_call g.gd ⟨g.funs f _ h1, g.gl h2, (nmOk_of h3).1⟩ h4 (okEs as g h5)) rfl
    · cases h
  | .bi b as, T, X, e, g, h => by
    unfold chE at h
    split at h
    · simp only [Bool.and_eq_true, decide_eq_true_eq] at h
      obtain ⟨⟨⟨⟨h1, rfl⟩, h3⟩, h4⟩, h5⟩ := h
      obtain ⟨b1, b2⟩ := bi_boot h1
      cases b3 : b.copies with
      | false => exact plain_test (se_biR (g.bl h3 b1 b2) b3 h4 (okEs as g h5) (bi_run g.gd h1 b3)) rfl
      | true => exact plain_test (se_biC (g.bl h3 b1 b2) b3 h4 (okEs as g h5) (bi_cpy g.gd h1 b3)) rfl
    · cases h
  | .isi a t, T, X, e, g, h => by
    unfold chE at h
    split at h
    · simp only [Bool.and_eq_true, decide_eq_true_eq, Bool.not_eq_true'] at h
      obtain ⟨⟨⟨⟨⟨⟨h1, rfl⟩, h3⟩, rfl⟩, h5⟩, h6⟩, h7⟩ := h
      exact plain_test (se_isi (g.bl h3 PyProof.Rows.boot_isinstance rfl) (g.bl h5 (ty_boot h1) rfl) (fun c z => by subst z; cases h1) h6 (okE a g h7).1) rfl
    · cases h
  | .met m a as, T, X, e, g, h => by
    unfold chE at h
    split at h
    · rename_i o nm ap l cp
      simp only [Bool.and_eq_true, decide_eq_true_eq] at h
      obtain ⟨⟨⟨⟨⟨⟨⟨h1, rfl⟩, h3⟩, h4⟩, h5⟩, h6⟩, h7⟩, h8⟩ := h
      cases l with
      | nil =>
        cases as with
        | nil => exact plain_test (se_met0 (met_run h1) h3 h4 (okE a g h7).1) rfl
        | cons _ _ => simp [chEs] at h8
        | star _ _ => simp [chEs] at h8
      | cons y l => exact plain_test (se_met (met_run h1) h3 h4 h5 h6 (okE a g h7).1 (okEs as g h8)) rfl
    · cases h
  | .itr _ _, T, X, e, g, h => by simp [chE] at h
  | .sky _ _, T, X, e, g, h => by simp [chE] at h
  | .lc own elt cs, T, X, e, g, h => by
    unfold chE at h
    split at h
    · rename_i x tg iter fs scope pos
      split at h
      · rename_i t it ifs
        simp only [Bool.and_eq_true, List.all_eq_true, decide_eq_true_eq] at h
        obtain ⟨⟨⟨⟨⟨⟨h1, h2⟩, h3⟩, h4⟩, h5⟩, h6⟩, h7⟩ := h
        have hb : BlkOk X.N X.env.scope scope (ownS T own) := by rw [g.nm, g.sc]; exact blkOk_by h1
        have eo : (ownS T own).map (·.2) = own := by unfold ownS; rw [List.map_map]; exact List.map_id own
        have z := se_lc (io := io) (T := asgT P cf io t) (F := evIf P cf io ifs) (A := evO P cf io elt) (pos := pos) g.gd (by rw [g.nm]; exact g.nd) (okI it g h4)
          ⟨hb, fun j hj => by rw [eo]; exact h3 j hj, fun s H C cl fp => okT t (g.blk s H scope cl C fp) h5, fun s H C cl fp => okF ifs (g.blk s H scope cl C fp) h6⟩
          (fun s H C cl fp => (okE elt (g.blk s H scope cl C fp) h7).1.take) (fun x => notFold h2 _ x)
        rw [eo] at z
        exact plain_test z rfl
      · cases h
    · cases h
  | .dc _ _ _ _, T, X, e, g, h => by simp [chE] at h
  | .sc _ _ _, T, X, e, g, h => by simp [chE] at h
  | .mut m i p as, T, X, e, g, h => by
    unfold chE at h
    split at h
    · split at h
      · simp only [Bool.and_eq_true, decide_eq_true_eq] at h
        obtain ⟨⟨⟨⟨⟨⟨⟨⟨h1, rfl⟩, h3⟩, h4⟩, h5⟩, h6⟩, h7⟩, h8⟩, h9⟩ := h
        obtain ⟨n1, n2, _⟩ := nmOk_of h5
        exact plain_test (se_mut (mu_run h1) h6 h7 h8 (g.ix h3) (g.vis h4) n1 n2 (okEs as g h9)) rfl
      · cases h
    · cases h
  | .attr _ _, T, X, e, g, h => by simp [chE] at h
  | .new _ _, T, X, e, g, h => by simp [chE] at h
  | .meth _ _ _, T, X, e, g, h => by simp [chE] at h
  | .lam _ _, T, X, e, g, h => by simp [chE] at h
  | .app c as, T, X, e, g, h => by
    unfold chE at h
    split at h
    · split at h
      · simp only [Bool.and_eq_true, decide_eq_true_eq] at h
        obtain ⟨⟨⟨⟨h1, h2⟩, h3⟩, h4⟩, h5⟩ := h
        obtain ⟨n1, n2, _⟩ := nmOk_of h3
        exact plain_test (se_app g.gd (fun f y hy => g.funs f y (by rw [← g.pf]; exact hy)) (se_var (g.ix h1) (g.vis h2) n1 n2) h4 (okEs as g h5)) rfl
      · cases h
    · cases h
theorem okEs : ∀ (x : Exps) {T : Tx} {X : Cx} {es : List PySem.Expr}, Good G P cf T X → chEs G T x es = true → SA X es (evOs P cf io x)
  | .nil, T, X, es, g, h => by
    unfold chEs at h
    split at h
    · exact sa_nil
    · cases h
  | .cons e r, T, X, es, g, h => by
    unfold chEs at h
    split at h
    · simp only [Bool.and_eq_true, Bool.not_eq_true'] at h
      exact sa_cons h.1.1 (okE e g h.1.2).1 (okEs r g h.2)
    · cases h
  | .star _ _, T, X, es, g, h => by simp [chEs] at h
theorem okKVs : ∀ (x : KVs) {T : Tx} {X : Cx} {ks : List (Option PySem.Expr)} {vs : List PySem.Expr}, Good G P cf T X → chKV G T x ks vs = true → ks.all (·.isSome) = true ∧ ks.length = vs.length ∧ SKV X ks vs (evKV P cf io x)
  | .nil, T, X, ks, vs, g, h => by
    unfold chKV at h
    split at h
    · exact ⟨rfl, rfl, skv_nil⟩
    · cases h
  | .cons k v r, T, X, ks, vs, g, h => by
    unfold chKV at h
    split at h
    · simp only [Bool.and_eq_true] at h
      obtain ⟨a, b, c⟩ := okKVs r g h.2
      exact ⟨by simpa using a, by simp [b], skv_cons (okE k g h.1.1).1 (okE v g h.1.2).1 c⟩
    · cases h
  | .star _ _, T, X, ks, vs, g, h => by simp [chKV] at h
theorem okI : ∀ (x : Itr) {T : Tx} {X : Cx} {e : PySem.Expr}, Good G P cf T X → chI G T x e = true → SI X e (evI P cf io x)
  | .ex e, T, X, y, g, h => by
    unfold chI at h
    exact si_ex (okE e g h).1
  | .range as, T, X, y, g, h => by
    unfold chI at h
    split at h
    · simp only [Bool.and_eq_true, decide_eq_true_eq] at h
      obtain ⟨⟨⟨rfl, h2⟩, h3⟩, h4⟩ := h
      exact si_range (g.bl h2 PyProof.Rows.boot_range rfl) h3 (okEs as g h4)
    · cases h
  | .enum _, T, X, y, g, h => by simp [chI] at h
  | .zip _ _, T, X, y, g, h => by simp [chI] at h
  | .items _, T, X, y, g, h => by simp [chI] at h
  | .vals _, T, X, y, g, h => by simp [chI] at h
  | .keys _, T, X, y, g, h => by simp [chI] at h
theorem okF : ∀ (x : Exps) {T : Tx} {X : Cx} {es : List PySem.Expr}, Good G P cf T X → chF G T x es = true → PTs X es (tF X (evIf P cf io x))
  | .nil, T, X, es, g, h => by
    unfold chF at h
    split at h
    · exact sf_nil
    · cases h
  | .cons e .nil, T, X, es, g, h => by
    unfold chF at h
    split at h
    · exact sf_one (okE e g h).2
    · cases h
  | .cons e (.cons _ _), T, X, es, g, h => by simp [chF] at h
  | .cons e (.star _ _), T, X, es, g, h => by simp [chF] at h
  | .star _ _, T, X, es, g, h => by simp [chF] at h
theorem okT : ∀ (x : Tgt) {T : Tx} {X : Cx} {e : PySem.Expr}, Good G P cf T X → chT G T x e = true → PG X e (gZ X io (asgT P cf io x) (tsl x))
  | .var i, T, X, e, g, h => by
    unfold chT at h
    split at h
    · simp only [Bool.and_eq_true, decide_eq_true_eq] at h
      obtain ⟨a, b⟩ := g.sto h.2
      exact sg_var (by rw [g.nm]; exact g.nd) (g.ix h.1) a b
    · cases h
  | .tup ts, T, X, e, g, h => by
    unfold chT at h
    split at h
    · simp only [Bool.and_eq_true] at h
      obtain ⟨a, b⟩ := okTs ts g h.2
      exact sg_tup g.gd.calm h.1 b a
    · cases h
  | .sub i p k, T, X, e, g, h => by
    unfold chT at h
    split at h
    · simp only [Bool.and_eq_true, decide_eq_true_eq, Bool.not_eq_true'] at h
      obtain ⟨n1, n2, _⟩ := nmOk_of h.1.1.2
      exact sg_sub (g.ix h.1.1.1.1) (g.vis h.1.1.1.2) n1 n2 h.1.2 (okE k g h.2).1
    · cases h
  | .attr _ _, T, X, e, g, h => by simp [chT] at h
theorem okTs : ∀ (x : Tgts) {T : Tx} {X : Cx} {es : List PySem.Expr}, Good G P cf T X → chTs G T x es = true → PGs X es (gsZ X io (asgTs P cf io x) (tsls x)) ∧ ∀ ds env env', asgTs P cf io x ds env = .ok env' → ds.length = es.length
  | .nil, T, X, es, g, h => by
    unfold chTs at h
    split at h
    · refine ⟨sgs_nil, fun ds env env' e => ?_⟩
      cases ds with
      | nil => rfl
      | cons _ _ => cases e
    · cases h
  | .cons t r, T, X, es, g, h => by
    unfold chTs at h
    split at h
    · simp only [Bool.and_eq_true, Bool.not_eq_true'] at h
      obtain ⟨a, b⟩ := okTs r g h.2
      refine ⟨sgs_cons h.1.1 (okT t g h.1.2) a, fun ds env env' e => ?_⟩
      cases ds with
      | nil => cases e
      | cons d ds =>
        have e : (asgT P cf io t d env).bind (fun e1 => asgTs P cf io r ds e1) = .ok env' := e
        cases e1 : asgT P cf io t d env with
        | exc _ _ => rw [e1] at e; cases e
        | bad => rw [e1] at e; cases e
        | ok en =>
          rw [e1] at e
          simp [b ds en env' e]
    · cases h
end
end
end Z

set_option Elab.async false
set_option linter.all false
set_option maxRecDepth 100000
set_option maxHeartbeats 2000000
namespace Z
open PySem L2 PyProof.Rows
section
variable {X : Cx} {pins : List (Addr × Obj)} {σ : L2.St} {s s' : Shared}
/-! ## a, b = x, y -/
def parOk (x : Str) (px : Pos) (y : Str) (py : Pos) (a b : PySem.Expr) : Bool := (py.line == px.line) && decide (x ≠ y) && !isStar a && !isStar b && !(foldedForSure 8 a && foldedForSure 8 b) && !(constantsAlone 8 a && constantsAlone 8 b)
def lclOn (env : PySem.Env) (l : Nat) : PySem.Expr → Option Str
  | .Name id pos => if env.kindOf id == some .local && pos.line == l then some id else none
  | _ => none
theorem swap_arm (ts vs : List PySem.Expr) (kt k2 : Nat) (pt pt2 : Pos) (env : PySem.Env) : swappedStores [.Tuple ts kt pt] (.Tuple vs k2 pt2) env =
    (if (!(ts.length == 2 || ts.length == 3) || vs.length != ts.length || env.blockKind != .function) = true then pure none else
     if vs.any isStar = true then pure none else
     if ((ts.filterMap (lclOn env ((ts.head?.map (·.pos.line)).getD 0))).length != ts.length || (ts.filterMap (lclOn env ((ts.head?.map (·.pos.line)).getD 0))).eraseDups.length != (ts.filterMap (lclOn env ((ts.head?.map (·.pos.line)).getD 0))).length) = true then pure none else
     if vs.all (foldedForSure 8) = true then pure none else
     if vs.all (constantsAlone 8) = true then (do let r ← (unsupported "assign.tuple-of-constant-expressions:order-of-the-stores" : Sem PUnit); pure (some (ts.filterMap (lclOn env ((ts.head?.map (·.pos.line)).getD 0))))) else
     pure (some (ts.filterMap (lclOn env ((ts.head?.map (·.pos.line)).getD 0))))) := by
  rfl
theorem swap_par {x y : Str} {px py pt pt2 : Pos} {kt k2 : Nat} {a b : PySem.Expr} {env : PySem.Env} (h : parOk x px y py a b = true) (hk : env.scope.kind = .function) (hx : env.scope.names.lookup x = some .local) (hy : env.scope.names.lookup y = some .local) :
    swappedStores [.Tuple [.Name x px, .Name y py] kt pt] (.Tuple [a, b] k2 pt2) env = pure (some [x, y]) := by
  simp only [parOk, Bool.and_eq_true, decide_eq_true_eq, Bool.not_eq_true', Bool.and_eq_false_iff] at h
  obtain ⟨⟨⟨⟨⟨h1, h2⟩, h3⟩, h4⟩, h5⟩, h6⟩ := h
  have bk : env.blockKind = .function := by unfold Env.blockKind; rw [hk]; rfl
  have kx : env.kindOf x = some .local := hx
  have ky : env.kindOf y = some .local := hy
  have s3 : [a, b].any isStar = false := by simp [h3, h4]
  have f1 : [a, b].all (foldedForSure 8) = false := by rcases h5 with h | h <;> simp [h]
  have f2 : [a, b].all (constantsAlone 8) = false := by rcases h6 with h | h <;> simp [h]
  have nm : ([.Name x px, .Name y py] : List PySem.Expr).filterMap (lclOn env px.line) = [x, y] := by
    have l1 : lclOn env px.line (.Name x px) = some x := by unfold lclOn; simp [kx]
    have l2 : lclOn env px.line (.Name y py) = some y := by unfold lclOn; simp [ky]; simpa using h1
    simp [List.filterMap, l1, l2]
  have hd : [x, y].eraseDups = [x, y] := by
    have hyx : (y == x) = false := by simpa using fun z => h2 z.symm
    simp [List.eraseDups_cons, List.filter, hyx]
  rw [swap_arm]
  have l0 : ((([.Name x px, .Name y py] : List PySem.Expr).head?.map (·.pos.line)).getD 0) = px.line := rfl
  rw [l0, nm, hd, s3, f1, f2, bk]
  rfl
theorem filterMap_lt {α β : Type} {f : α → Option β} : ∀ {l : List α}, (∃ x ∈ l, f x = none) → (l.filterMap f).length < l.length
  | [], ⟨_, h, _⟩ => nomatch h
  | y :: l, ⟨x, h, e⟩ => by
    have le : (l.filterMap f).length ≤ l.length := List.length_filterMap_le f l
    rcases List.mem_cons.mp h with rfl | h
    · rw [List.filterMap_cons, e]
      exact Nat.lt_succ_of_le le
    · have ih := filterMap_lt ⟨x, h, e⟩
      rw [List.filterMap_cons]
      cases f y with
      | none => exact Nat.lt_succ_of_lt ih
      | some z => exact Nat.succ_lt_succ ih
def isName : PySem.Expr → Bool | .Name _ _ => true | _ => false
/-- the stores are not turned about: another target than a tuple, another value, or a target that is no name -/
def noTurn (tg e : PySem.Expr) : Bool := match tg with
  | .Tuple ts _ _ => (match e with | .Tuple _ _ _ => (ts.any fun t => !isName t) || !(ts.length == 2 || ts.length == 3) | _ => true)
  | .List _ _ => false
  | _ => true
theorem turn_none {tg e : PySem.Expr} {env : PySem.Env} (h : noTurn tg e = true) : swappedStores [tg] e env = pure none := by
  cases tg with
  | Tuple ts kt pt =>
    cases e with
    | Tuple vs k2 pt2 =>
      have h : ((ts.any fun t => !isName t) || !(ts.length == 2 || ts.length == 3)) = true := h
      rcases Bool.or_eq_true_iff.mp h with h | h
      case inr =>
        rw [swap_arm, h]
        rfl
      obtain ⟨t, ht, e⟩ := List.any_eq_true.mp h
      have hl := filterMap_lt (f := lclOn env ((ts.head?.map (·.pos.line)).getD 0)) ⟨t, ht, by cases t <;> first | rfl | (simp [isName] at e; done)⟩
      rw [swap_arm]
      split
      · rfl
      · split
        · rfl
        · rw [if_pos]
          have : ((ts.filterMap (lclOn env ((ts.head?.map (·.pos.line)).getD 0))).length != ts.length) = true := bne_iff_ne.mpr (Nat.ne_of_lt hl)
          rw [this]; rfl
    | _ => rfl
  | List => cases h
  | _ => rfl
def tTakes (X : Cx) (A : Evs) : TA := fun σ H Q => ∃ env O p q, XRE X H env σ O ∧ A env = .ok p ∧ takes p.1 p.2 = some q ∧ ∀ vs H' O' B, XRE X H' q.2 σ O' → XRzL X H' q.1 vs B → Dis B O' → Ext O H H' → Sub H O O' → Sub H O B → Q vs H'
theorem SA.pa {es : List PySem.Expr} {A : Evs} (h : SA X es A) : PA X es (tTakes X A) := by
  refine ⟨fun pos pins s σ H Q I hq => ?_⟩
  obtain ⟨env, O, p, q, r, e1, e2, k⟩ := hq
  have h1 := h pos pins s σ H env O I r
  rw [e1] at h1
  refine thn h1 fun us s1 ⟨vs, H', O', B, st, rv, ro, dj, sb⟩ => ?_
  obtain ⟨H2, O2, B2, G, r2, q2, dj2, sb2⟩ := takes_ok (ds := q.1) (env' := q.2) st.inv st.re ro dj e2
  have st2 : Stp X pins σ H O q.2 s1 H2 O2 := st.trans ⟨G.inv, r2, G.ext, .of G.sub⟩
  exact ⟨vs, H2, st2.inv, rv, k vs H2 O2 B2 r2 q2 dj2 st2.ext st2.sub fun a ha => sb a (sb2 a ha)⟩
theorem par_ok {i j : Nat} {io : List Nat} {A : Evs} {env : Env} {res : Fl × Env} (h : sAsg (gTup (gCons (gVar io i) (gCons (gVar io j) gNil))) (fDsp true A) env = .ok res) : ∃ p q d1 d2, A env = .ok p ∧ takes p.1 p.2 = some q ∧ q.1 = [d1, d2] ∧ i < q.2.length ∧ i ∉ io ∧ j < q.2.length ∧ j ∉ io ∧ res = (.nx, (q.2.set i (.v d1)).set j (.v d2)) := by
  unfold sAsg taken fDsp at h
  cases eA : A env with
  | exc _ _ => rw [eA] at h; cases h
  | bad => rw [eA] at h; cases h
  | ok p =>
  rw [eA] at h
  have h : R.bind (R.bind (if p.1.length ≤ line then R.ok (Opd.dsp true p.1, p.2) else .bad) fun p => match p.1.take p.2 with | some q => R.ok q | none => .bad) (fun p => (gTup (gCons (gVar io i) (gCons (gVar io j) gNil)) p.1 p.2).bind fun e2 => .ok (.nx, e2)) = .ok res := h
  split at h
  case isFalse => cases h
  case isTrue hl =>
  have h : R.bind (match (match takes p.1 p.2 with | some (ds, e) => some (box true ds, e) | none => none) with | some q => R.ok q | none => .bad) (fun p => (gTup (gCons (gVar io i) (gCons (gVar io j) gNil)) p.1 p.2).bind fun e2 => .ok (.nx, e2)) = .ok res := h
  cases eT : takes p.1 p.2 with
  | none => rw [eT] at h; cases h
  | some q =>
  rw [eT] at h
  obtain ⟨ds, en⟩ := q
  have h : (gCons (gVar io i) (gCons (gVar io j) gNil) ds en).bind (fun e2 => R.ok (Fl.nx, e2)) = .ok res := h
  match ds, h with
  | [], h => cases h
  | [d1], h =>
    have h : R.bind (R.bind (if i < en.length ∧ ¬ i ∈ io then R.ok (en.set i (.v d1)) else .bad) fun e => gCons (gVar io j) gNil [] e) (fun e2 => R.ok (Fl.nx, e2)) = .ok res := h
    split at h <;> cases h
  | d1 :: d2 :: d3 :: r, h =>
    have h : R.bind (R.bind (if i < en.length ∧ ¬ i ∈ io then R.ok (en.set i (.v d1)) else .bad) fun e => R.bind (if j < e.length ∧ ¬ j ∈ io then R.ok (e.set j (.v d2)) else .bad) fun e => gNil (d3 :: r) e) (fun e2 => R.ok (Fl.nx, e2)) = .ok res := h
    split at h
    · have h : R.bind (R.bind (if j < (en.set i (.v d1)).length ∧ ¬ j ∈ io then R.ok ((en.set i (.v d1)).set j (.v d2)) else .bad) fun e => gNil (d3 :: r) e) (fun e2 => R.ok (Fl.nx, e2)) = .ok res := h
      split at h <;> cases h
    · cases h
  | [d1, d2], h =>
    have h : R.bind (R.bind (if i < en.length ∧ ¬ i ∈ io then R.ok (en.set i (.v d1)) else .bad) fun e => R.bind (if j < e.length ∧ ¬ j ∈ io then R.ok (e.set j (.v d2)) else .bad) fun e => gNil [] e) (fun e2 => R.ok (Fl.nx, e2)) = .ok res := h
    split at h
    · rename_i hi
      have h : R.bind (R.bind (if j < (en.set i (.v d1)).length ∧ ¬ j ∈ io then R.ok ((en.set i (.v d1)).set j (.v d2)) else .bad) fun e => gNil [] e) (fun e2 => R.ok (Fl.nx, e2)) = .ok res := h
      split at h
      · rename_i hj
        cases h
        exact ⟨p, (_, en), d1, d2, rfl, eT, rfl, hi.1, hi.2, by simpa using hj.1, hj.2, rfl⟩
      · cases h
    · cases h
theorem ss_par {i j : Nat} {io : List Nat} {x y : Str} {a b : PySem.Expr} {A : Evs} {px py pt pt2 pos : Pos} {kt k2 : Nat} (g : Gd X) (hN : X.N.Nodup) (hi : X.N[i]? = some x) (hj : X.N[j]? = some y) (hx : X.env.scope.names.lookup x = some .local) (hy : X.env.scope.names.lookup y = some .local) (hk : X.env.scope.kind = .function) (hp : parOk x px y py a b = true) (ha : SA X [a, b] A) :
    SS X io (.Assign [.Tuple [.Name x px, .Name y py] kt pt] (.Tuple [a, b] k2 pt2) pos) (sAsg (gTup (gCons (gVar io i) (gCons (gVar io j) gNil))) (fDsp true A)) := by
  intro pins s σ H env O I r
  cases e0 : sAsg (gTup (gCons (gVar io i) (gCons (gVar io j) gNil))) (fDsp true A) env with
  | exc _ _ => exact True.intro
  | bad => exact True.intro
  | ok res =>
  show wpAny _ _ _ (PostS X io pins σ H O res) _ _
  obtain ⟨p, q, d1, d2, eA, eT, eq, i1, i2, j1, j2, rfl⟩ := par_ok e0
  have hxy : x ≠ y := by
    have h := hp
    simp only [parOk, Bool.and_eq_true, decide_eq_true_eq] at h
    exact h.1.1.1.1.2
  have hij : i ≠ j := fun z => by subst z; rw [hi] at hj; cases hj; exact hxy rfl
  refine thn ((ps_par (pos := pos) g.calm hN hi hj hij hx hy ha.pa (swap_par hp hk hx hy)).run pins s σ H { nx := fun σ' H' => ∃ O', XRE X H' ((q.2.set i (.v d1)).set j (.v d2)) σ' O' ∧ Ext O H H' ∧ Sub H O O' ∧ Kp io σ σ', rt := fun _ _ => False } I
    ⟨env, O, p, q, r, eA, eT, fun vs H1 O1 B r1 q1 dj x1 s1 sB => ?_⟩) fun f s1 hf => sp_nx rfl rfl rfl (fun _ _ h => h) hf
  rw [eq] at q1
  cases q1 with
  | @cons _ _ v _ B1 B2 q1 q2 dd =>
    cases q2 with
    | @cons _ _ w _ B3 B4 q2 q3 d34 =>
      cases q3
      obtain ⟨O2, r2, s2⟩ := RE.set r1 i1 q1 dj.l1
      obtain ⟨O3, r3, s3⟩ := RE.set r2 (by rw [List.length_set]; exact j1) q2 (fun a ha hb => by
        rcases s2 a hb with z | z
        · exact dj.l2 a (by simp [ha]) z
        · exact dd a z (by simp [ha]))
      refine ⟨v, w, rfl, O3, r3, x1, fun a ha => ?_, fun k hk => ?_⟩
      · rcases s3 a ha with z | z
        · rcases s2 a z with z | z
          · exact s1 a z
          · exact sB a (by simp [z])
        · exact sB a (by simp [z])
      · rw [List.getElem?_set_ne (fun z : j = k => j2 (z ▸ hk)), List.getElem?_set_ne (fun z : i = k => i2 (z ▸ hk))]
/-! ## a, b, c = x, y, z -/
def par3Ok (x : Str) (px : Pos) (y : Str) (py : Pos) (z : Str) (pz : Pos) (a b c : PySem.Expr) : Bool := (py.line == px.line) && (pz.line == px.line) && decide (x ≠ y) && decide (x ≠ z) && decide (y ≠ z) && !isStar a && !isStar b && !isStar c && !([a, b, c].all (foldedForSure 8)) && !([a, b, c].all (constantsAlone 8))
theorem swap_par3 {x y z : Str} {px py pz pt pt2 : Pos} {kt k2 : Nat} {a b c : PySem.Expr} {env : PySem.Env} (h : par3Ok x px y py z pz a b c = true) (hk : env.scope.kind = .function) (hx : env.scope.names.lookup x = some .local) (hy : env.scope.names.lookup y = some .local) (hz : env.scope.names.lookup z = some .local) :
    swappedStores [.Tuple [.Name x px, .Name y py, .Name z pz] kt pt] (.Tuple [a, b, c] k2 pt2) env = pure (some [x, y, z]) := by
  simp only [par3Ok, Bool.and_eq_true, decide_eq_true_eq, Bool.not_eq_true'] at h
  obtain ⟨⟨⟨⟨⟨⟨⟨⟨⟨h1, h2⟩, h3⟩, h4⟩, h5⟩, h6⟩, h7⟩, h8⟩, f1⟩, f2⟩ := h
  have bk : env.blockKind = .function := by unfold Env.blockKind; rw [hk]; rfl
  have kx : env.kindOf x = some .local := hx
  have ky : env.kindOf y = some .local := hy
  have kz : env.kindOf z = some .local := hz
  have s3 : [a, b, c].any isStar = false := by simp [h6, h7, h8]
  have nm : ([.Name x px, .Name y py, .Name z pz] : List PySem.Expr).filterMap (lclOn env px.line) = [x, y, z] := by
    have l1 : lclOn env px.line (.Name x px) = some x := by unfold lclOn; simp [kx]
    have l2 : lclOn env px.line (.Name y py) = some y := by unfold lclOn; simp [ky]; simpa using h1
    have l3 : lclOn env px.line (.Name z pz) = some z := by unfold lclOn; simp [kz]; simpa using h2
    simp [List.filterMap, l1, l2, l3]
  have hd : [x, y, z].eraseDups = [x, y, z] := by
    have a1 : (y == x) = false := by simpa using fun q => h3 q.symm
    have a2 : (z == x) = false := by simpa using fun q => h4 q.symm
    have a3 : (z == y) = false := by simpa using fun q => h5 q.symm
    simp [List.eraseDups_cons, List.filter, a1, a2, a3]
  rw [swap_arm]
  have l0 : ((([.Name x px, .Name y py, .Name z pz] : List PySem.Expr).head?.map (·.pos.line)).getD 0) = px.line := rfl
  rw [l0, nm, hd, s3, f1, f2, bk]
  rfl
theorem gv_ok {io : List Nat} {i : Nat} {d : D} {en e : Env} (h : gVar io i d en = .ok e) : i < en.length ∧ i ∉ io ∧ e = en.set i (.v d) := by
  unfold gVar at h
  split at h <;> cases h
  rename_i hl
  exact ⟨hl.1, hl.2, rfl⟩
theorem gc_ok {T : Et} {U : List D → Env → R Env} {ds : List D} {en e : Env} (h : gCons T U ds en = .ok e) : ∃ d r e1, ds = d :: r ∧ T d en = .ok e1 ∧ U r e1 = .ok e := by
  cases ds with
  | nil => cases h
  | cons d r =>
    have h : (T d en).bind (fun e => U r e) = .ok e := h
    cases e1 : T d en with
    | exc _ _ => rw [e1] at h; cases h
    | bad => rw [e1] at h; cases h
    | ok e2 => rw [e1] at h; exact ⟨d, r, e2, rfl, e1, h⟩
theorem dsp_ok {T : List D → Env → R Env} {A : Evs} {env : Env} {res : Fl × Env} (h : sAsg (gTup T) (fDsp true A) env = .ok res) : ∃ p q e2, A env = .ok p ∧ takes p.1 p.2 = some q ∧ T q.1 q.2 = .ok e2 ∧ res = (.nx, e2) := by
  unfold sAsg taken fDsp at h
  cases eA : A env with
  | exc _ _ => rw [eA] at h; cases h
  | bad => rw [eA] at h; cases h
  | ok p =>
  rw [eA] at h
  have h : R.bind (R.bind (if p.1.length ≤ line then R.ok (Opd.dsp true p.1, p.2) else .bad) fun p => match p.1.take p.2 with | some q => R.ok q | none => .bad) (fun p => (gTup T p.1 p.2).bind fun e2 => .ok (.nx, e2)) = .ok res := h
  split at h
  case isFalse => cases h
  case isTrue hl =>
  have h : R.bind (match (match takes p.1 p.2 with | some (ds, e) => some (box true ds, e) | none => none) with | some q => R.ok q | none => .bad) (fun p => (gTup T p.1 p.2).bind fun e2 => .ok (.nx, e2)) = .ok res := h
  cases eT : takes p.1 p.2 with
  | none => rw [eT] at h; cases h
  | some q =>
  rw [eT] at h
  have h : (T q.1 q.2).bind (fun e2 => R.ok (Fl.nx, e2)) = .ok res := h
  cases e3 : T q.1 q.2 with
  | exc _ _ => rw [e3] at h; cases h
  | bad => rw [e3] at h; cases h
  | ok e2 => rw [e3] at h; cases h; exact ⟨p, q, e2, rfl, eT, e3, rfl⟩
theorem ss_par3 {i j l : Nat} {io : List Nat} {x y z : Str} {a b c : PySem.Expr} {A : Evs} {px py pz pt pt2 pos : Pos} {kt k2 : Nat} (g : Gd X) (hN : X.N.Nodup) (hi : X.N[i]? = some x) (hj : X.N[j]? = some y) (hl : X.N[l]? = some z) (hx : X.env.scope.names.lookup x = some .local) (hy : X.env.scope.names.lookup y = some .local) (hz : X.env.scope.names.lookup z = some .local) (hk : X.env.scope.kind = .function) (hp : par3Ok x px y py z pz a b c = true) (ha : SA X [a, b, c] A) :
    SS X io (.Assign [.Tuple [.Name x px, .Name y py, .Name z pz] kt pt] (.Tuple [a, b, c] k2 pt2) pos) (sAsg (gTup (gCons (gVar io i) (gCons (gVar io j) (gCons (gVar io l) gNil)))) (fDsp true A)) := by
  intro pins s σ H env O I r
  cases e0 : sAsg (gTup (gCons (gVar io i) (gCons (gVar io j) (gCons (gVar io l) gNil)))) (fDsp true A) env with
  | exc _ _ => exact True.intro
  | bad => exact True.intro
  | ok res =>
  show wpAny _ _ _ (PostS X io pins σ H O res) _ _
  obtain ⟨p, q, e2, eA, eT, eU, rfl⟩ := dsp_ok e0
  obtain ⟨d1, r1, n1, eq1, g1, eU⟩ := gc_ok eU
  obtain ⟨d2, r2, n2, eq2, g2, eU⟩ := gc_ok eU
  obtain ⟨d3, r3, n3, eq3, g3, eU⟩ := gc_ok eU
  obtain ⟨i1, i2, rfl⟩ := gv_ok g1
  obtain ⟨j1, j2, rfl⟩ := gv_ok g2
  obtain ⟨l1, l2, rfl⟩ := gv_ok g3
  have er : r3 = [] ∧ e2 = ((q.2.set i (.v d1)).set j (.v d2)).set l (.v d3) := by
    cases r3 with
    | nil => cases eU; exact ⟨rfl, rfl⟩
    | cons _ _ => cases eU
  obtain ⟨rfl, rfl⟩ := er
  have hpp := hp
  simp only [par3Ok, Bool.and_eq_true, decide_eq_true_eq] at hpp
  have hxy : x ≠ y := hpp.1.1.1.1.1.1.1.2
  have hxz : x ≠ z := hpp.1.1.1.1.1.1.2
  have hyz : y ≠ z := hpp.1.1.1.1.1.2
  have hij : i ≠ j := fun z => by subst z; rw [hi] at hj; cases hj; exact hxy rfl
  have hil : i ≠ l := fun z => by subst z; rw [hi] at hl; cases hl; exact hxz rfl
  have hjl : j ≠ l := fun z => by subst z; rw [hj] at hl; cases hl; exact hyz rfl
  refine thn ((ps_par3 (pos := pos) g.calm hN hi hj hl hij hil hjl hx hy hz ha.pa (swap_par3 hp hk hx hy hz)).run pins s σ H { nx := fun σ' H' => ∃ O', XRE X H' (((q.2.set i (.v d1)).set j (.v d2)).set l (.v d3)) σ' O' ∧ Ext O H H' ∧ Sub H O O' ∧ Kp io σ σ', rt := fun _ _ => False } I
    ⟨env, O, p, q, r, eA, eT, fun vs H1 O1 B r1 q1 dj x1 s1 sB => ?_⟩) fun f s1 hf => sp_nx rfl rfl rfl (fun _ _ h => h) hf
  rw [eq1, eq2, eq3] at q1
  cases q1 with
  | @cons _ _ v _ B1 B2 q1 q2 dd =>
    cases q2 with
    | @cons _ _ w _ B3 B4 q2 q3 d34 =>
      cases q3 with
      | @cons _ _ u _ B5 B6 q3 q4 d56 =>
      cases q4
      obtain ⟨O2, r2, s2⟩ := RE.set r1 i1 q1 dj.l1
      obtain ⟨O3, r3, s3⟩ := RE.set r2 j1 q2 (fun a ha hb => by
        rcases s2 a hb with z | z
        · exact dj.l2 a (by simp [ha]) z
        · exact dd a z (by simp [ha]))
      obtain ⟨O4, r4, s4⟩ := RE.set r3 l1 q3 (fun a ha hb => by
        rcases s3 a hb with z | z
        · rcases s2 a z with z | z
          · exact dj.l2 a (by simp [ha]) z
          · exact dd a z (by simp [ha])
        · exact d34 a z (by simp [ha]))
      refine ⟨v, w, u, rfl, O4, r4, x1, fun a ha => ?_, fun k hk => ?_⟩
      · rcases s4 a ha with z | z
        · rcases s3 a z with z | z
          · rcases s2 a z with z | z
            · exact s1 a z
            · exact sB a (by simp [z])
          · exact sB a (by simp [z])
        · exact sB a (by simp [z])
      · rw [List.getElem?_set_ne (fun z : l = k => l2 (z ▸ hk)), List.getElem?_set_ne (fun z : j = k => j2 (z ▸ hk)), List.getElem?_set_ne (fun z : i = k => i2 (z ▸ hk))]
end
end Z

set_option Elab.async false
set_option linter.all false
set_option maxRecDepth 100000
set_option maxHeartbeats 2000000
namespace Z
open PySem L2 PyProof.Rows
section
variable (G : Gt)
mutual
def chS (T : Tx) : Stm → PySem.Stmt → Bool
  | .asg t e, st => (match st with
    | .Assign [tg] v _ => noComp v && noTurn tg v && !isStar tg && chT G T t tg && chE G T e v ||
      (match t, e, tg, v with
      | .tup (.cons (.var i) (.cons (.var j) .nil)), .tup es, .Tuple [.Name x px, .Name y py] _ _, .Tuple [a, b] _ _ =>
        es.plain && parOk x px y py a b && decide (T.N[i]? = some x) && decide (T.N[j]? = some y) && decide (T.sc.names.lookup x = some .local) && decide (T.sc.names.lookup y = some .local) && chEs G T es [a, b]
      | .tup (.cons (.var i) (.cons (.var j) (.cons (.var l) .nil))), .tup es, .Tuple [.Name x px, .Name y py, .Name z pz] _ _, .Tuple [a, b, c] _ _ =>
        es.plain && par3Ok x px y py z pz a b c && decide (T.N[i]? = some x) && decide (T.N[j]? = some y) && decide (T.N[l]? = some z) && decide (T.sc.names.lookup x = some .local) && decide (T.sc.names.lookup y = some .local) && decide (T.sc.names.lookup z = some .local) && chEs G T es [a, b, c]
      | _, _, _, _ => false)
    | _ => false)
  | .aug t op e, st => (match t, st with
    | .var i, .AugAssign (.Name x _) o v _ => decide (o = bop op) && decide (T.N[i]? = some x) && sto T x && chE G T e v
    | .sub i .nil k, .AugAssign (.Subscript (.Name x _) y _) o v _ => decide (o = bop op) && decide (T.N[i]? = some x) && vis T x && nmOk x && !isPlainSl y && chE G T k y && chE G T e v
    | _, _ => false)
  | .ex e, st => (match st with | .Expr v _ => noComp v && chE G T e v | _ => false)
  | .ifS c a b, st => (match st with | .If x y z _ => chE G T c x && chSs T a y && chSs T b z | _ => false)
  | .forS t it b, st => (match st with | .For tg iter body [] _ => notSetE iter && chI G T it iter && chT G T t tg && chSs T b body | _ => false)
  | .ret e, st => (match st with | .Return (some v) _ => chE G T e v | _ => false)
  | .retN, st => (match st with | .Return none _ => true | _ => false)
  | .brk, st => (match st with | .Break _ => true | _ => false)
  | .cnt, st => (match st with | .Continue _ => true | _ => false)
  | .pass, st => (match st with | .Pass _ => true | .Expr (.Constant (.str _) _ _) _ => true | _ => false)
  | _, _ => false
def chSs (T : Tx) : Stms → List PySem.Stmt → Bool
  | .nil, l => (match l with | [] => true | _ => false)
  | .cons s r, l => (match l with | x :: l => chS T s x && chSs T r l | [] => false)
end
end
section
variable {G : Gt} {P : Prog} {cf : Nat → List D → C} {T : Tx} {X : Cx} {io : List Nat}
mutual
theorem okS : ∀ (x : Stm) {st : PySem.Stmt}, Good G P cf T X → PassesOwn (model X.prog X.w) X.A X.env X.xe → X.env.scope.kind = .function → chS G T x st = true → SS X io st (evS P cf io x)
  | .asg t e, st, g, po, hk, h => by
    unfold chS at h
    split at h
    · rename_i tg v pos
      rcases (Bool.or_eq_true _ _).mp h with h | h
      · simp only [Bool.and_eq_true, Bool.not_eq_true'] at h
        obtain ⟨⟨⟨⟨h1, h2⟩, h3⟩, h4⟩, h5⟩ := h
        exact ss_asg (okT t g h4) (okE e g h5).1 (noSwap h1 _ _ _) (turn_none h2) h3
      · split at h
        · rename_i i j es x px y py _ _ a b _ _ _
          simp only [Bool.and_eq_true, decide_eq_true_eq] at h
          obtain ⟨⟨⟨⟨⟨⟨h1, h2⟩, h3⟩, h4⟩, h5⟩, h6⟩, h7⟩ := h
          have e1 : evO P cf io (.tup es) = fDsp true (evOs P cf io es) := by rw [evO, if_pos h1]
          have e2 : evS P cf io (.asg (.tup (.cons (.var i) (.cons (.var j) .nil))) (.tup es)) = sAsg (gTup (gCons (gVar io i) (gCons (gVar io j) gNil))) (fDsp true (evOs P cf io es)) := by rw [← e1]; rfl
          rw [e2]
          rw [← g.sc] at h5 h6
          exact ss_par g.gd (by rw [g.nm]; exact g.nd) (g.ix h3) (g.ix h4) h5 h6 hk h2 (okEs es g h7)
        · rename_i i j l es x px y py z pz _ _ a b c _ _ _
          simp only [Bool.and_eq_true, decide_eq_true_eq] at h
          obtain ⟨⟨⟨⟨⟨⟨⟨⟨h1, h2⟩, h3⟩, h4⟩, h5⟩, h6⟩, h7⟩, h8⟩, h9⟩ := h
          have e1 : evO P cf io (.tup es) = fDsp true (evOs P cf io es) := by rw [evO, if_pos h1]
          have e2 : evS P cf io (.asg (.tup (.cons (.var i) (.cons (.var j) (.cons (.var l) .nil)))) (.tup es)) = sAsg (gTup (gCons (gVar io i) (gCons (gVar io j) (gCons (gVar io l) gNil)))) (fDsp true (evOs P cf io es)) := by rw [← e1]; rfl
          rw [e2]
          rw [← g.sc] at h6 h7 h8
          exact ss_par3 g.gd (by rw [g.nm]; exact g.nd) (g.ix h3) (g.ix h4) (g.ix h5) h6 h7 h8 hk h2 (okEs es g h9)
        · cases h
    · cases h
  | .asg2 _ _ _, st, g, po, hk, h => by simp [chS] at h
  | .aug t op e, st, g, po, hk, h => by
    unfold chS at h
    split at h
    · simp only [Bool.and_eq_true, decide_eq_true_eq] at h
      obtain ⟨⟨⟨rfl, h2⟩, h3⟩, h4⟩ := h
      obtain ⟨a, b⟩ := g.sto h3
      exact ss_aug (by rw [g.nm]; exact g.nd) (g.ix h2) a b (okE e g h4).1
    · simp only [Bool.and_eq_true, decide_eq_true_eq, Bool.not_eq_true'] at h
      obtain ⟨⟨⟨⟨⟨⟨rfl, h2⟩, h3⟩, h4⟩, h5⟩, h6⟩, h7⟩ := h
      obtain ⟨n1, n2, _⟩ := nmOk_of h4
      exact ss_augSub (g.ix h2) (g.vis h3) n1 n2 h5 (okE _ g h6).1 (okE e g h7).1
    · cases h
  | .ex e, st, g, po, hk, h => by
    unfold chS at h
    split at h
    · simp only [Bool.and_eq_true] at h
      exact ss_ex h.1 (okE e g h.2).1
    · cases h
  | .sda _ _ _, st, g, po, hk, h => by simp [chS] at h
  | .ifS c a b, st, g, po, hk, h => by
    unfold chS at h
    split at h
    · simp only [Bool.and_eq_true] at h
      exact ss_if (okE c g h.1.1).2 (okSs a g po hk h.1.2) (okSs b g po hk h.2)
    · cases h
  | .forS t it b, st, g, po, hk, h => by
    unfold chS at h
    split at h
    · simp only [Bool.and_eq_true] at h
      obtain ⟨⟨⟨h1, h2⟩, h3⟩, h4⟩ := h
      exact ss_for g.gd po h1 (okI it g h2) (okT t g h3) (okSs b g po hk h4)
    · cases h
  | .whileS _ _, st, g, po, hk, h => by simp [chS] at h
  | .ret e, st, g, po, hk, h => by
    unfold chS at h
    split at h
    · exact ss_ret (okE e g h).1
    · cases h
  | .retN, st, g, po, hk, h => by
    unfold chS at h
    split at h
    · exact ss_retN
    · cases h
  | .brk, st, g, po, hk, h => by
    unfold chS at h
    split at h
    · exact ss_brk
    · cases h
  | .cnt, st, g, po, hk, h => by
    unfold chS at h
    split at h
    · exact ss_cnt
    · cases h
  | .pass, st, g, po, hk, h => by
    unfold chS at h
    split at h
    · exact ss_pass
    · exact ss_doc
    · cases h
  | .raise _ _, st, g, po, hk, h => by simp [chS] at h
  | .tryS _ _, st, g, po, hk, h => by simp [chS] at h
theorem okSs : ∀ (x : Stms) {sts : List PySem.Stmt}, Good G P cf T X → PassesOwn (model X.prog X.w) X.A X.env X.xe → X.env.scope.kind = .function → chSs G T x sts = true → SSs X io sts (evSs P cf io x)
  | .nil, sts, g, po, hk, h => by
    unfold chSs at h
    split at h
    · exact sss_nil
    · cases h
  | .cons s r, sts, g, po, hk, h => by
    unfold chSs at h
    split at h
    · simp only [Bool.and_eq_true] at h
      exact sss_cons (okS s g po hk h.1) (okSs r g po hk h.2)
    · cases h
end
end
end Z

set_option Elab.async false
set_option linter.all false
set_option maxRecDepth 100000
set_option maxHeartbeats 2000000
namespace Z
open PySem L2 PyProof.Rows
/-! ## a def of the text keeps its promise -/
section
variable {P : Program} {w : World} {K : PySem.W.Frag} {mg : Str → Option Value} {base : Heap}
theorem fng_of {k : Nat} {f : Addr} {fd : FuncData} {x qual : Str} {params : Arguments} {body : List PySem.Stmt} {scope : Scope} {N ps : List Str} {sp : VSp} (F : FunD K x qual params body scope [] [] f fd) (S : FnScope N ps scope) (len : ∀ vs H Q, sp vs H Q → vs.length = ps.length)
    (bodyOk : ∀ (cdv : Value) (A : Around) (outer : List PySem.Env) (s s1 : Shared) (H : Hp) (vs : List V) (Q : VK), Room k (A.deeper (envOfC qual scope s.heap.objs.size f cdv)) → A.guards = some [] → sp vs H Q →
      Inv (cxOf noCX P w K mg base N qual scope f cdv A outer s H noXK) [] (L2.start N vs) H s1 →
      wpAny (model P w) (A.deeper (envOfC qual scope s.heap.objs.size f cdv)) (execs body (envOfC qual scope s.heap.objs.size f cdv))
        (fun fl s' => ∃ u v σ' H', (fl = .ret u ∨ fl = .next ∧ u = Value.none) ∧ Inv (cxOf noCX P w K mg base N qual scope f cdv A outer s H noXK) [] σ' H' s' ∧ RelV v u ∧ Q v H') (cxOf noCX P w K mg base N qual scope f cdv A outer s H noXK).xe s1) :
    FnG P w K mg base (k + 1) f fd ps sp := by
  obtain ⟨oc, od, dV, kV, doc, pm, an, cdv, ct, osl, rfl, lk, hcd, _, _⟩ := F.ex
  refine ⟨len, fun A outer s H args us vs Q room grd e0 bnd rv hsp => ?_⟩
  have keepB : ∀ b o, base.get? b = some o → s.heap.get? b = some o := fun b o e => (e0.bs b o e).1
  have inK : K.In s.heap := e0.mod.kin.keeps keepB
  have parKind : ∀ y ∈ ps.zip us, scope.names.lookup y.1 = some .local ∨ (scope.names.lookup y.1 = some .cell ∧ ((cellsFrom (s.heap.objs.size + 1) scope.names []).lookup y.1).isSome = true) := fun y hy =>
    (S.par y.1 (List.of_mem_zip (a := y.1) (b := y.2) hy).1).imp id fun q => ⟨q, PySem.W.cellsFrom_some _ _ _ (.inl q)⟩
  refine codeAny_call_function room.depth (inK f _ lk) rfl S.co S.gen rfl (PySem.W.codeRec_of inK hcd) (bnd _ _ _ _ (wpAny_newFunctionEnv_cells S.kind parKind fun env he s1 inC => ?_))
  subst he
  refine ⟨(e0.mod.nolimit.keeps keepB).keeps inC.toInCall.keep, codeAny_func ?_⟩
  have start0 := inv_start (CX := noCX) (E := noXK) S room.hd e0 (len _ _ _ hsp) rv inC
  refine wpAny_mono (bodyOk cdv A outer s s1 H vs Q (room.deeper _) grd hsp start0) (fun fl s' hfl => ?_) fun e s' he => he
  obtain ⟨u, v, σ', H', hu, J, rvu, q⟩ := hfl
  have done : CE outer P w H s Q u s' := ⟨v, H', J.os, J.bare, J.base, J.hok, rvu, q⟩
  rcases hu with rfl | ⟨rfl, rfl⟩
  · exact done
  · exact done
end
/-! ### the entry -/
section
variable {prog : Program} {w : World} {K : PySem.W.Frag} {H : Hp}
theorem RE.app {H : Hp} : ∀ {env : Env} {σ : L2.St} {O : List Addr} (n : Nat), RE prog w K H env σ O → RE prog w K H (env ++ List.replicate n .no) (σ ++ List.replicate n none) O
  | _, _, _, n, .nil => by
    induction n with
    | zero => exact .nil
    | succ n ih => exact RE.cons (O1 := []) (O2 := []) (.no none) ih Dis.nil
  | _, _, _, n, .cons r rs d => .cons r (RE.app n rs) d
theorem ArgR.re : ∀ {ms : List Nat} {ds : List D} {vs : List V} {O : List Addr}, ArgR prog w K H ms ds vs O → RE prog w K H (enter ms ds) (vs.map some) O
  | _, _, _, _, .nil => .nil
  | _, _, _, _, .io q r d => .cons (.v q) (ArgR.re r) d
  | _, _, _, _, .by_ q r => RE.cons (O1 := []) (.v q) (ArgR.re r) Dis.nil
/-- which parameters may be changed -/
def ioOf : List Nat → Nat → List Nat
  | [], _ => []
  | m :: ms, i => if m = 1 then i :: ioOf ms (i + 1) else ioOf ms (i + 1)
theorem out_ok {envF : Env} : ∀ {ms : List Nat} {i : Nat} {env : Env} {σ : L2.St} {O : List Addr} {vs : List V} {outs : List D}, RE prog w K H env σ O → (∀ j : Nat, envF.getD (i + j) .no = env.getD j .no) → outsOf (ioOf ms i) envF = some outs →
    (∀ j : Nat, ms[j]? = some 1 → σ[j]? = (vs[j]?).map some) → ms.length = vs.length → ∃ Bo, OutR prog w K H ms outs vs Bo ∧ ∀ a ∈ Bo, a ∈ O
  | [], i, env, σ, O, vs, outs, r, he, h, hσ, hl => by
    cases h
    cases vs with
    | nil => exact ⟨[], .nil, fun _ h => nomatch h⟩
    | cons _ _ => cases hl
  | m :: ms, i, env, σ, O, vs, outs, r, he, h, hσ, hl => by
    cases vs with
    | nil => cases hl
    | cons v vs =>
      cases r with
      | nil =>
        unfold ioOf at h
        by_cases hm : m = 1
        · rw [if_pos hm] at h
          have e0 : envF.getD i .no = .no := by have := he 0; simpa using this
          have h : (match envF.getD i .no, outsOf (ioOf ms (i + 1)) envF with | .v d, some ds => some (d :: ds) | _, _ => none) = some outs := h
          rw [e0] at h
          cases h
        · rw [if_neg hm] at h
          obtain ⟨Bo, o, sb⟩ := out_ok (ms := ms) (i := i + 1) (vs := vs) (RE.nil (prog := prog) (w := w) (K := K) (H := H)) (fun j => by have := he (j + 1); rw [show i + 1 + j = i + (j + 1) by omega]; simpa using this) h (fun j hj => by have := hσ (j + 1) (by simpa using hj); simpa using this) (by simpa using hl)
          exact ⟨Bo, .by_ hm o, sb⟩
      | @cons sl x O1 env σ O2 r rs d =>
        have tl : ∀ {outs' : List D}, outsOf (ioOf ms (i + 1)) envF = some outs' → ∃ Bo, OutR prog w K H ms outs' vs Bo ∧ ∀ a ∈ Bo, a ∈ O2 := fun h' =>
          out_ok rs (fun j => by have := he (j + 1); rw [show i + 1 + j = i + (j + 1) by omega]; simpa using this) h' (fun j hj => by have := hσ (j + 1) (by simpa using hj); simpa using this) (by simpa using hl)
        unfold ioOf at h
        by_cases hm : m = 1
        · subst hm
          rw [if_pos rfl] at h
          have e0 : envF.getD i .no = sl := by have := he 0; simpa using this
          have h : (match envF.getD i .no, outsOf (ioOf ms (i + 1)) envF with | .v d, some ds => some (d :: ds) | _, _ => none) = some outs := h
          rw [e0] at h
          cases hs : outsOf (ioOf ms (i + 1)) envF with
          | none => rw [hs] at h; cases sl <;> cases h
          | some os =>
            rw [hs] at h
            cases r with
            | no => cases h
            | r _ => cases h
            | q _ => cases h
            | v q =>
              cases h
              obtain ⟨Bo, o, sb⟩ := tl hs
              have e1 := hσ 0 rfl
              simp only [List.getElem?_cons_zero, Option.map_some, Option.some.injEq] at e1
              subst e1
              exact ⟨_, .io q o (fun a ha hb => d a ha (sb a hb)), fun a ha => (List.mem_append.mp ha).elim (fun z => by simp [z]) fun z => by simp [sb a z]⟩
        · rw [if_neg hm] at h
          obtain ⟨Bo, o, sb⟩ := tl h
          exact ⟨Bo, .by_ hm o, fun a ha => by simp [sb a ha]⟩
theorem ioOf_mem : ∀ {ms : List Nat} {i j : Nat}, ms[j]? = some 1 → (i + j) ∈ ioOf ms i
  | [], i, j, h => by simp at h
  | m :: ms, i, 0, h => by
    simp at h
    subst h
    simp [ioOf]
  | m :: ms, i, j + 1, h => by
    have := ioOf_mem (ms := ms) (i := i + 1) (j := j) (by simpa using h)
    rw [show i + 1 + j = i + (j + 1) by omega] at this
    unfold ioOf
    split
    · exact List.mem_cons_of_mem _ this
    · exact this
end
/-! ### the defs of a text -/
structure FT where
  nm : Str
  params : Arguments
  ps : List Str
  N : List Str
  sc : Scope
  body : List PySem.Stmt
def scC (N ps : List Str) (sc : Scope) : Bool := (match sc.kind with | .function => true | _ => false) && !sc.isCoroutine && !sc.isGenerator && decide N.Nodup && decide (N.take ps.length = ps) && (ps.all fun x => match sc.names.lookup x with | some .local => true | some .cell => true | _ => false) && sc.names.all fun y => match y.2 with | .free => false | _ => true
theorem scC_ok {N ps : List Str} {sc : Scope} (h : scC N ps sc = true) : FnScope N ps sc := by
  simp only [scC, Bool.and_eq_true, decide_eq_true_eq, Bool.not_eq_true', List.all_eq_true] at h
  obtain ⟨⟨⟨⟨⟨⟨h1, h2⟩, h3⟩, h4⟩, h5⟩, h6⟩, h7⟩ := h
  refine ⟨?_, h2, h3, h4, h5, fun x hx => ?_, fun y hy z => ?_⟩
  · cases e : sc.kind <;> first | rfl | (rw [e] at h1; cases h1)
  · have := h6 x hx
    split at this
    · rename_i e; exact .inl e
    · rename_i e; exact .inr e
    · cases this
  · have := h7 y hy
    rw [z] at this
    cases this
def chFun (G : Gt) (F : Fun) (ms : List Nat) (t : FT) : Bool := decide (F.np = t.ps.length) && decide (F.ns = t.N.length) && decide (ms.length = t.ps.length) && decide (F.io = ioOf ms 0) && scC t.N t.ps t.sc && chSs G ⟨t.N, t.sc, fun _ => true⟩ F.body t.body
def FT.Bnd (t : FT) : Prop := ∀ (kV doc pm : Value) (an : Option Addr) (cdv ct : Value) (us : List Value), us.length = t.ps.length → bindArgs (PySem.W.fnOf t.nm t.nm t.params t.body t.sc .none kV doc pm an cdv ct) ⟨us, []⟩ = pure (t.ps.zip us)
/-- the module: every def stands there, the constants, the names that are free -/
structure ModZ (G : Gt) (P : Prog) (fts : List FT) (fs : List Fun) (K : PySem.W.Frag) (mg : Str → Option Value) : Prop where
  nms : ∀ (f : Nat) (x : Str), G.fns[f]? = some x → ∃ t, fts[f]? = some t ∧ t.nm = x
  fun_ : ∀ (f : Nat) (t : FT), fts[f]? = some t → ∃ F a fd, fs[f]? = some F ∧ chFun G F (P.mode.getD f []) t = true ∧ t.Bnd ∧ (mg t.nm = some (.ref a) ∧ PySem.W.nsIn K mainGlobals t.nm = some (some (.ref a))) ∧ FunD K t.nm t.nm t.params t.body t.sc [] [] a fd
  cons : ∀ (k : Nat) (x : Str) (d : D), G.cons[k]? = some x → P.glob[k]? = some d → ∃ u v, mg x = some u ∧ RelV v u ∧ ∀ (prog : Program) (w : World) (H : Hp), Rz prog w K H d v []
  blt : ∀ x ∈ G.blt, mg x = none
  sys : ∃ o, K.lookup sysModules = some o
  pf : P.fns = G.fns
theorem all_fns {G : Gt} {P : Prog} {fts : List FT} {fs : List Fun} {prog : Program} {w : World} {K : PySem.W.Frag} {mg : Str → Option Value} {base : Heap} (M : ModZ G P fts fs K mg) (KX : K.In base) : ∀ (n : Nat) (f : Nat) (t : FT), fts[f]? = some t →
    ∃ a fd, (mg t.nm = some (.ref a) ∧ PySem.W.nsIn K mainGlobals t.nm = some (some (.ref a))) ∧ PySem.W.keepIn K (.ref a) = true ∧ Binds K fd t.ps [] ∧ FunD K t.nm t.nm t.params t.body t.sc [] [] a fd ∧ FnG prog w K mg base n a fd t.ps (spZ prog w K (callN P fs n) f (P.mode.getD f []))
  | 0, f, t, ht => by
    obtain ⟨F, a, fd, _, hc, hb, hm, hF⟩ := M.fun_ f t ht
    refine ⟨a, fd, hm, hF.kp, hF.bindsN hb, hF, ⟨fun vs H Q h => ?_, fun A outer s H args us vs Q _ _ _ _ _ h => ?_⟩⟩
    · obtain ⟨ds, O, r, outs, _, e, _⟩ := h; cases e
    · obtain ⟨ds, O, r, outs, _, e, _⟩ := h; cases e
  | n + 1, f, t, ht => by
    obtain ⟨F, a, fd, hFs, hc, hb, hm, hF⟩ := M.fun_ f t ht
    simp only [chFun, Bool.and_eq_true, decide_eq_true_eq] at hc
    obtain ⟨⟨⟨⟨⟨c1, c2⟩, c3⟩, c4⟩, c5⟩, c6⟩ := hc
    have S := scC_ok c5
    refine ⟨a, fd, hm, hF.kp, hF.bindsN hb, hF, fng_of hF S (fun vs H Q h => ?_) fun cdv A outer s s1 H vs Q room grd hsp I => ?_⟩
    · obtain ⟨ds, O, r, outs, ar, e, _⟩ := h
      rw [← ar.length.1, ar.length.2, c3]
    · obtain ⟨ds, O, rd, outs, ar, ec, post⟩ := hsp
      generalize hX : cxOf noCX prog w K mg base t.N t.nm t.sc a cdv A outer s H noXK = X at I ⊢
      have eA : X.A = A.deeper (envOfC t.nm t.sc s.heap.objs.size a cdv) := by subst hX; rfl
      have eP : X.prog = prog := by subst hX; rfl
      have eW : X.w = w := by subst hX; rfl
      have eK : X.K = K := by subst hX; rfl
      have eM : X.mg = mg := by subst hX; rfl
      have eB : X.base = base := by subst hX; rfl
      have eE : X.env = envOfC t.nm t.sc s.heap.objs.size a cdv := by subst hX; rfl
      have gd : Gd X := ⟨by rw [eB]; obtain ⟨o, e⟩ := M.sys; exact ⟨o, KX _ _ e⟩, by rw [eA]; have := room.un; omega, by subst hX; rfl, by rw [eA]; exact grd⟩
      have good : Good G P (callN P fs n) ⟨t.N, t.sc, fun _ => true⟩ X := by
        refine ⟨gd, by subst hX; rfl, S.nd, by subst hX; rfl, fun x _ => by subst hX; rfl, fun f' x hx => ?_, fun k x d h1 h2 => ?_, fun x hx => by rw [eM]; exact M.blt x hx, M.pf⟩
        · obtain ⟨t', ht', rfl⟩ := M.nms f' x hx
          obtain ⟨a', fd', h1, h2, h3, _, h4⟩ := all_fns M KX n f' t' ht'
          unfold FunH
          rw [eP, eW, eK, eM, eB, eA]
          exact ⟨a', fd', t'.ps, h1.1, h1.2, h2, h3, n, room, h4⟩
        · obtain ⟨u, v, h3, h4, h5⟩ := M.cons k x d h1 h2
          exact ⟨u, v, by rw [eM]; exact h3, h4, fun H => by show Rz X.prog X.w X.K H d v []; rw [eK]; exact h5 _ _ H⟩
      have po : PassesOwn (model X.prog X.w) X.A X.env X.xe := by subst hX; exact passes_of rfl
      have kd : X.env.scope.kind = .function := by rw [eE]; exact S.kind
      have body := okSs (io := F.io) F.body good po kd c6
      have ec : (match fs[f]? with | some F => if ds.length = F.np then runF F (evSs P (callN P fs n) F.io F.body (enter (P.mode.getD f []) ds ++ List.replicate (F.ns - F.np) Sl.no)) else C.bad | none => .bad) = .ok rd outs := ec
      rw [hFs] at ec
      have hdl : ds.length = F.np := by rw [c1, ar.length.2, c3]
      have ec : (if ds.length = F.np then runF F (evSs P (callN P fs n) F.io F.body (enter (P.mode.getD f []) ds ++ List.replicate (F.ns - F.np) Sl.no)) else C.bad) = .ok rd outs := ec
      rw [if_pos hdl] at ec
      have hvs : vs.length = F.np := by rw [← ar.length.1]; exact hdl
      have re0 : XRE X H (enter (P.mode.getD f []) ds ++ List.replicate (F.ns - F.np) Sl.no) (L2.start t.N vs) O := by
        show RE X.prog X.w X.K H _ (vs.map some ++ List.replicate (t.N.length - vs.length) none) O
        rw [eP, eW, eK, hvs, ← c2]
        exact RE.app _ ar.re
      have step := body [] s1 (L2.start t.N vs) H _ O I re0
      have hKp : ∀ {σ2 : L2.St}, Kp F.io (L2.start t.N vs) σ2 → ∀ j, (P.mode.getD f [])[j]? = some 1 → σ2[j]? = (vs[j]?).map some := fun {σ2} kp j hj => by
        have hm : j ∈ F.io := by rw [c4]; have := ioOf_mem (i := 0) hj; simpa using this
        rw [kp j hm]
        have hjl : j < vs.length := by
          rw [hvs, c1, ← c3]
          exact (List.getElem?_eq_some_iff.mp hj).1
        unfold L2.start
        rw [List.getElem?_append_left (by simpa using hjl), List.getElem?_map]
      have mlen : (P.mode.getD f []).length = vs.length := by rw [hvs, c1, c3]
      rw [eE, eA, eP, eW] at step
      cases eS : evSs P (callN P fs n) F.io F.body (enter (P.mode.getD f []) ds ++ List.replicate (F.ns - F.np) Sl.no) with
      | bad => rw [eS] at ec; cases ec
      | exc x e =>
        rw [eS] at ec
        have ec : (match outsOf F.io e with | some o => C.exc x o | none => .bad) = .ok rd outs := ec
        split at ec <;> cases ec
      | ok res =>
        rw [eS] at ec step
        obtain ⟨fl, en⟩ := res
        refine wpAny_mono (show wpAny _ _ _ (PostS X F.io [] (L2.start t.N vs) H O (fl, en)) _ _ from step) (fun f2 s2 hp => ?_) fun _ _ h => h
        unfold PostS at hp
        cases fl with
        | bk => cases ec
        | ct => cases ec
        | nx =>
          have ec : (match outsOf F.io en with | some o => C.ok .non o | none => .bad) = .ok rd outs := ec
          cases eo : outsOf F.io en with
          | none => rw [eo] at ec; cases ec
          | some o =>
            rw [eo] at ec
            cases ec
            obtain ⟨rfl, σ', H', O', st, kp⟩ := hp
            rw [c4] at eo
            obtain ⟨Bo, out, sbo⟩ := out_ok (envF := en) st.re (i := 0) (fun j => by rw [Nat.zero_add]) eo (hKp kp) mlen
            refine ⟨.none, .non, σ', H', .inr ⟨rfl, rfl⟩, st.inv, rfl, post .non H' [] Bo st.ext .non ?_ Dis.nil Sub.nil fun b hb => st.sub b (sbo b hb)⟩
            rw [eP, eW, eK] at out
            exact out
        | rt d =>
          have ec : (match outsOf F.io en with | some o => C.ok d o | none => .bad) = .ok rd outs := ec
          cases eo : outsOf F.io en with
          | none => rw [eo] at ec; cases ec
          | some o =>
            rw [eo] at ec
            cases ec
            obtain ⟨u, v, σ1, σ2, H', O', B, rfl, I', rv, r', kp, rz, dj, x', s1', s2'⟩ := hp
            rw [c4] at eo
            obtain ⟨Bo, out, sbo⟩ := out_ok (envF := en) r' (i := 0) (fun j => by rw [Nat.zero_add]) eo (hKp kp) mlen
            refine ⟨u, v, σ1, H', .inl rfl, I', rv, post v H' B Bo x' ?_ ?_ (fun a ha hb => dj a ha (sbo a hb)) s2' fun b hb => s1' b (sbo b hb)⟩
            · have rz : Rz X.prog X.w X.K H' rd v B := rz
              rw [eP, eW, eK] at rz
              exact rz
            · rw [eP, eW, eK] at out
              exact out
end Z

set_option Elab.async false
set_option linter.all false
set_option maxRecDepth 100000
set_option maxHeartbeats 2000000
namespace Z
open PySem L2 PyProof.Rows
/-! ## a law's end -/
def noLst (K : PySem.W.Frag) : Bool := K.all fun p => !(match p.2.cls with | .type c => decide (c = "list") | _ => false)
theorem frag_mem {a : Addr} {o : Obj} : ∀ {K : PySem.W.Frag}, K.lookup a = some o → (a, o) ∈ K
  | [], h => nomatch h
  | (b, p) :: K, h => by
    rw [List.lookup_cons] at h
    split at h
    · rename_i e
      cases h
      rw [eq_of_beq e]
      exact List.mem_cons_self
    · exact List.mem_cons_of_mem _ (frag_mem h)
theorem noLst_ok {K : PySem.W.Frag} (h : noLst K = true) {a : Addr} {o : Obj} (e : K.lookup a = some o) : o.cls ≠ .type "list" := fun z => by
  have h1 := List.all_eq_true.mp h (a, o) (frag_mem e)
  rw [z] at h1
  simp at h1
/-- the script: frozen -/
def scrH (a : Addr) (vs : List Value) (ns : List Int) : Hp := fun b => if b = a then some (.frz { cls := .type "list", data := .seq vs.toArray } (.lst (ns.map V.int))) else none
theorem rz_ints {prog : Program} {w : World} {K : PySem.W.Frag} {H : Hp} : ∀ ns : List Int, RzL prog w K H (ns.map D.int) (ns.map V.int) []
  | [] => .nil
  | n :: ns => RzL.cons (O1 := []) (O2 := []) (.int n) (rz_ints ns) Dis.nil
theorem law_z {prog : Program} {w : World} {K : PySem.W.Frag} {mg mb : Str → Option Value} {k f : Nat} {fa a : Addr} {s₁ : Shared} {vs : List Value} {ns : List Int} {x : Str} {G : Gt} {P : Prog} {fts : List FT} {fs : List Fun} {t : FT}
    (KX : K.In s₁.heap) (nsG : s₁.heap.Ns mainGlobals mg) (nsB : s₁.heap.Ns builtinsNs mb) (bts : ∀ x : Str, x ≠ "__name__" → mb x = bootBuiltins x) (lim : s₁.heap.NoLimit) (gens : s₁.gens = #[])
    (ha : s₁.heap.get? a = some { cls := .type "list", data := .seq vs.toArray }) (hi : IntsAre vs ns) (hl : ns.length ≤ sizeLine) (room : Room k callerA)
    (nl : noLst K = true) (M : ModZ G P fts fs K mg) (ht : fts[f]? = some t) (hm : mg t.nm = some (.ref fa)) (hp : t.ps = [x]) (md : P.mode.getD f [] = [0])
    (law : ∃ outs, callN P fs k f [.lst false (ns.map .int)] = .ok (.bl true) outs) :
    codeAny (model prog w) callerA (.call (.ref fa) ⟨[.ref a], []⟩) (fun r s' => r = .ok (.ret (.bool true)) ∧ OldK s₁.heap s'.heap ∧ s'.os = s₁.os ∧ AllBare s'.gens) s₁ := by
  have rv := vals_ints hi
  have hne : ∀ b, b ≠ a → scrH a vs ns b = none := fun b hb => if_neg hb
  have hat : scrH a vs ns a = some (.frz { cls := .type "list", data := .seq vs.toArray } (.lst (ns.map V.int))) := if_pos rfl
  have ka : K.lookup a = none := by
    cases e : K.lookup a with
    | none => rfl
    | some o =>
      have e1 := KX a o e
      rw [ha] at e1
      cases e1
      exact absurd rfl (noLst_ok nl e)
  have hid : ∀ {b : Addr} {o : Obj}, s₁.heap.get? b = some o → b ≠ a → (hidT s₁.heap (scrH a vs ns)).get? b = some o := fun e n => hidT_get e (hne _ n)
  have hidN : ∀ {b : Addr} {m : Str → Option Value}, s₁.heap.Ns b m → (hidT s₁.heap (scrH a vs ns)).Ns b m := fun {b m} h => by
    obtain ⟨o, es, ep, e, d, q⟩ := h
    refine ⟨o, es, ep, hid e fun z => ?_, d, q⟩
    subst z
    rw [ha] at e; cases e
    exact nomatch d
  have inB : K.In (hidT s₁.heap (scrH a vs ns)) := fun b o e => hid (KX b o e) fun z => by subst z; rw [ka] at e; cases e
  have md0 : Mod K mg (hidT s₁.heap (scrH a vs ns)) := ⟨inB, hidN nsG, ⟨mb, hidN nsB, bts⟩, by obtain ⟨mc, h1, h2⟩ := lim; exact ⟨mc, hidN h1, h2⟩⟩
  have hok : HOk prog w (scrH a vs ns) s₁.heap := fun b u e => by
    by_cases hb : b = a
    · subst hb
      rw [hat] at e; cases e
      exact ⟨ha, by rw [List.length_map]; exact hl, vs, _, rv, ha⟩
    · rw [hne b hb] at e; cases e
  have e0 : Env0 prog w K mg (hidT s₁.heap (scrH a vs ns)) callerA [] s₁ (scrH a vs ns) := ⟨rfl, md0, fun b o e => of_hidT e, Nat.le_of_eq (hidT_size _ _), trivial, fun b hb => absurd (show b ∈ ([] : List Addr) from hb) (by simp), hok, .of_eq gens⟩
  obtain ⟨outs, hcall⟩ := law
  obtain ⟨fa', fd, hm', _, hb, _, Fn⟩ := all_fns (prog := prog) (w := w) M inB k f t ht
  have hm' := hm'.1
  rw [hm] at hm'
  cases hm'
  have bnd := hb s₁ [.ref a] KX (by rw [hp]; rfl)
  rw [List.append_nil] at bnd
  have sp : spZ prog w K (callN P fs k) f (P.mode.getD f []) [.ref a] (scrH a vs ns) (fun v _ => v = .bl true) := by
    rw [md]
    exact ⟨[.lst false (ns.map .int)], [], .bl true, outs, .by_ (.lstF ⟨_, hat⟩ (rz_ints ns)) .nil, hcall, fun v H' B Bo _ r _ _ _ _ => by cases r; rfl⟩
  refine codeAny_mono (Fn.run callerA [] s₁ (scrH a vs ns) _ [.ref a] [.ref a] (fun v _ => v = .bl true) room rfl e0 bnd (.cons rfl .nil) sp) fun r s' h => ?_
  match r, h with
  | .ok (.ret u), h =>
    obtain ⟨v, H', os, bare, un, hok', r', q⟩ := h
    have q : v = .bl true := q
    subst q
    cases (show u = Value.bool true from r')
    refine ⟨rfl, OldK.of_keep fun b o e => ?_, os, bare⟩
    by_cases hb : b = a
    · subst hb
      rw [ha] at e; cases e
      exact (hok' b _ (un.frzs b _ _ hat)).1
    · exact un.keep b o e (hne b hb) (fun z => absurd (show b ∈ ([] : List Addr) from z) (by simp)) (by simp)
  | .ok .next, h => exact h.elim
  | .ok .brk, h => exact h.elim
  | .ok .cont, h => exact h.elim
  | .error e, h => exact h.elim
/-- a law, over a head by facts -/
theorem walk_z {l : PySem.W.OpenLaw} {n k : Nat} {q : Program} {loose : List Str} {XP : (Str → Option Value) → Heap → Prop} {YP : World → Heap → Prop} {d : DefRec} {x : Str} (hn : l.most = some n) (hn2 : n ≤ sizeLine) (hdf : d.params.defaults = []) (room : Room k callerA)
    (F : ∀ (w : World) (mg : Str → Option Value) (h : Heap), YP w h → h.Ns mainGlobals mg → ∃ (K : PySem.W.Frag) (G : Gt) (P : Prog) (fts : List FT) (fs : List Fun) (f : Nat) (t : FT), K.In h ∧ noLst K = true ∧ ModZ G P fts fs K mg ∧ fts[f]? = some t ∧ t.nm = d.name ∧ t.ps = [x] ∧ P.mode.getD f [] = [0] ∧
      ∀ ns : List Int, ns.length ≤ n → ∃ outs, callN P fs k f [.lst false (ns.map .int)] = .ok (.bl true) outs) : PySem.W.WalkO q loose XP YP l.row.toRowW d [] (fun f vs => PySem.call f vs) := by
  refine Att.attach_call hn hdf fun w s₀ s₁ mg mb fa o pm cd doc a vs ns G0 Y ho hd hcd hmg hobj hints hlen hg => ?_
  obtain ⟨K, G, P, fts, fs, f, t, KX, nl, M, ht, hnm, hp, md, law⟩ := F w mg _ Y G0.T.g
  exact law_z KX G0.T.g G0.T.b G0.T.builtins G0.T.nolimit hg hobj hints (Nat.le_trans hlen hn2) room nl M ht (by rw [hnm]; exact hmg) hp md (law ns hlen)
/-! ### what the head sees -/
mutual
/-- a module's constant, by the objects -/
def cstB (K : PySem.W.Frag) : D → Value → Bool
  | .non, u => (match u with | .none => true | _ => false)
  | .bl b, u => (match u with | .bool c => b == c | _ => false)
  | .int i, u => (match u with | .int j _ => decide (i = j) | _ => false)
  | .str x, u => (match u with | .str y _ => decide (x = y) | _ => false)
  | .tup ds, u => (match u with
    | .ref a => (match K.lookup a with
      | some ⟨.type c, _, .seq its _, _⟩ => decide (c = "tuple") && decide (its.size ≤ sizeLine) && cstBs K ds its.toList
      | _ => false)
    | _ => false)
  | _, _ => false
def cstBs (K : PySem.W.Frag) : List D → List Value → Bool
  | [], us => (match us with | [] => true | _ => false)
  | d :: ds, us => (match us with | u :: us => cstB K d u && cstBs K ds us | [] => false)
end
mutual
theorem cstB_ok {K : PySem.W.Frag} : ∀ (d : D) {u : Value}, cstB K d u = true → ∃ v, RelV v u ∧ ∀ (prog : Program) (w : World) (H : Hp), Rz prog w K H d v []
  | .non, u, h => by
    unfold cstB at h
    split at h
    · exact ⟨.non, rfl, fun _ _ _ => .non⟩
    · cases h
  | .bl b, u, h => by
    unfold cstB at h
    split at h
    · cases eq_of_beq h; exact ⟨.bl _, rfl, fun _ _ _ => .bl _⟩
    · cases h
  | .int i, u, h => by
    unfold cstB at h
    split at h
    · cases of_decide_eq_true h; exact ⟨.int _, ⟨_, rfl⟩, fun _ _ _ => .int _⟩
    · cases h
  | .str i, u, h => by
    unfold cstB at h
    split at h
    · cases of_decide_eq_true h; exact ⟨.str _, ⟨_, rfl⟩, fun _ _ _ => .str _⟩
    · cases h
  | .tup ds, u, h => by
    unfold cstB at h
    split at h
    · rename_i a
      split at h
      · rename_i c od its n osl e
        simp only [Bool.and_eq_true, decide_eq_true_eq] at h
        obtain ⟨⟨rfl, h2⟩, h3⟩ := h
        obtain ⟨vs, r1, r2⟩ := cstBs_ok ds h3
        exact ⟨.ref a, rfl, fun prog w H => .tup (.inr ⟨_, its, n, e, rfl, rfl, h2, r1⟩) (r2 prog w H)⟩
      · cases h
    · cases h
  | .lst _ _, u, h => by simp [cstB] at h
  | .dic _ _, u, h => by simp [cstB] at h
  | .set _ _, u, h => by simp [cstB] at h
  | .ins _ _ _, u, h => by simp [cstB] at h
  | .exn _ _, u, h => by simp [cstB] at h
  | .clo _ _, u, h => by simp [cstB] at h
theorem cstBs_ok {K : PySem.W.Frag} : ∀ (ds : List D) {us : List Value}, cstBs K ds us = true → ∃ vs, Vals vs us ∧ ∀ (prog : Program) (w : World) (H : Hp), RzL prog w K H ds vs []
  | [], us, h => by
    unfold cstBs at h
    split at h
    · exact ⟨[], .nil, fun _ _ _ => .nil⟩
    · cases h
  | d :: ds, us, h => by
    unfold cstBs at h
    split at h
    · simp only [Bool.and_eq_true] at h
      obtain ⟨v, r1, r2⟩ := cstB_ok d h.1
      obtain ⟨vs, r3, r4⟩ := cstBs_ok ds h.2
      exact ⟨v :: vs, .cons r1 r3, fun prog w H => RzL.cons (O1 := []) (O2 := []) (r2 prog w H) (r4 prog w H) Dis.nil⟩
    · cases h
end
def cstAll (K : PySem.W.Frag) (cs : List (Str × D)) : Bool := cs.all fun q => match PySem.W.nsIn K mainGlobals q.1 with | some (some u) => cstB K q.2 u | _ => false
abbrev AlZ : Type := He.AlD × Bool × Bool × Bool
def asZ (g : Addr → Option Obj) (n : Nat) : List Addr := (sysModules :: He.asD g n).filter fun a => match g a with | some o => (match o.cls with | .type c => !decide (c = "list") | _ => true) | none => false
def obsK (fa : List He.Fa) (fn : List He.DefD) (cs : List (Str × D)) (K : PySem.W.Frag) : AlZ := (He.obsD fa fn K, noLst K, (K.lookup sysModules).isSome, cstAll K cs)
def obsZ (n : Nat) (fa : List He.Fa) (fn : List He.DefD) (cs : List (Str × D)) (g : Addr → Option Obj) : AlZ := obsK fa fn cs (He.frG g (asZ g n))
def SaysZ (fa : List He.Fa) (fn : List He.DefD) (cs : List (Str × D)) (K : PySem.W.Frag) : Prop := obsK fa fn cs K = (He.valD fn, true, true, true)
def hookZ (n : Nat) (fa : List He.Fa) (fn : List He.DefD) (cs : List (Str × D)) : PySem.W.Hook where
  α := AlZ
  obs := fun s => obsZ n fa fn cs s.heap.get?
  val := fun _ => (He.valD fn, true, true, true)
  says := fun _ h => ∃ K : PySem.W.Frag, K.In h ∧ SaysZ fa fn cs K
  of := fun _ s e => ⟨He.frG s.heap.get? (asZ s.heap.get? n), He.frG_in, e⟩
  keeps := fun _ _ _ ⟨K, hK, c⟩ k => ⟨K, PySem.W.Frag.In.keeps hK k, c⟩
theorem obsZ_eq {n : Nat} {fa : List He.Fa} {fn : List He.DefD} {cs : List (Str × D)} {g : Addr → Option Obj} {s : Shared} (h : ∀ a, g a = s.heap.get? a) : obsZ n fa fn cs g = (hookZ n fa fn cs).obs s := by
  have e : g = s.heap.get? := funext h
  rw [e]; rfl
/-- a def's datum, for the head -/
def FT.dd (t : FT) : He.DefD := ⟨(t.nm, none), t.nm, t.nm, t.params, t.body, t.sc, [], []⟩
/-- the text of a law's module -/
structure Txt where
  fts : List FT
  fs : List Fun
  cs : List (Str × D)
  blt : List Str
  mode : List (List Nat)
def Txt.G (t : Txt) : Gt := ⟨t.fts.map (·.nm), t.cs.map (·.1), t.blt⟩
def Txt.P (t : Txt) : Prog := { glob := t.cs.map (·.2), mode := t.mode, meths := [], inits := [], nfld := [], sub := [], fns := t.fts.map (·.nm) }
def Txt.fa (t : Txt) : List He.Fa := (t.fts.map fun f => .glo f.nm) ++ t.blt.map .free
def Txt.fn (t : Txt) : List He.DefD := t.fts.map FT.dd
def chAll (G : Gt) : List FT → List Fun → List (List Nat) → Bool
  | [], [], _ => true
  | t :: ts, F :: Fs, ms => chFun G F (ms.headD []) t && chAll G ts Fs ms.tail
  | _, _, _ => false
theorem chAll_ok {G : Gt} : ∀ {ts : List FT} {Fs : List Fun} {ms : List (List Nat)}, chAll G ts Fs ms = true → ∀ (f : Nat) (t : FT), ts[f]? = some t → ∃ F, Fs[f]? = some F ∧ chFun G F (ms.getD f []) t = true
  | [], _, _, _, f, t, h => by simp at h
  | x :: ts, [], _, h, _, _, _ => by simp [chAll] at h
  | x :: ts, F :: Fs, ms, h, f, t, ht => by
    simp only [chAll, Bool.and_eq_true] at h
    cases f with
    | zero =>
      simp at ht
      subst ht
      exact ⟨F, rfl, by cases ms <;> exact h.1⟩
    | succ f =>
      obtain ⟨F', h1, h2⟩ := chAll_ok h.2 f t (by simpa using ht)
      exact ⟨F', by simpa using h1, by cases ms <;> simpa using h2⟩
theorem mod_of {t : Txt} {K : PySem.W.Frag} {h : Heap} {mg : Str → Option Value} (c : SaysZ t.fa t.fn t.cs K) (X : K.In h) (N : h.Ns mainGlobals mg) (hall : chAll t.G t.fts t.fs t.mode = true) (bnd : ∀ f ∈ t.fts, f.Bnd) : ModZ t.G t.P t.fts t.fs K mg := by
  have c0 : He.SaysD t.fa t.fn K := congrArg (fun z : AlZ => z.1) c
  have c2 : (K.lookup sysModules).isSome = true := congrArg (fun z : AlZ => z.2.2.1) c
  have c3 : cstAll K t.cs = true := congrArg (fun z : AlZ => z.2.2.2) c
  refine ⟨fun f x hx => ?_, fun f ft hf => ?_, fun k x d hx hd => ?_, fun x hx => ?_, Option.isSome_iff_exists.mp c2, rfl⟩
  · have hx : (t.fts.map (·.nm))[f]? = some x := hx
    rw [List.getElem?_map] at hx
    obtain ⟨ft, h1, h2⟩ := Option.map_eq_some_iff.mp hx
    exact ⟨ft, h1, h2⟩
  · obtain ⟨F, h1, h2⟩ := chAll_ok hall f ft hf
    have hlt := (List.getElem?_eq_some_iff.mp hf).1
    have g1 : He.Fa.ok K (.glo ft.nm) = true := c0.fact f (by
      show ((t.fts.map fun f => He.Fa.glo f.nm) ++ t.blt.map .free)[f]? = _
      rw [List.getElem?_append_left (by simpa using hlt), List.getElem?_map, hf]; rfl)
    obtain ⟨fd, hfd⟩ := c0.def_ f (d := ft.dd) (by
      show (t.fts.map FT.dd)[f]? = _
      rw [List.getElem?_map, hf]; rfl)
    exact ⟨F, _, fd, h1, h2, bnd ft (List.mem_of_getElem? hf), ⟨He.glo_ok X N g1, He.eqO_ok g1⟩, hfd⟩
  · have hx : (t.cs.map (·.1))[k]? = some x := hx
    have hd : (t.cs.map (·.2))[k]? = some d := hd
    rw [List.getElem?_map] at hx hd
    obtain ⟨q, h1, rfl⟩ := Option.map_eq_some_iff.mp hx
    rw [h1] at hd
    cases hd
    have h2 := List.all_eq_true.mp c3 q (List.mem_of_getElem? h1)
    split at h2
    · rename_i u e
      obtain ⟨v, r1, r2⟩ := cstB_ok q.2 h2
      exact ⟨u, v, PySem.W.mg_of X N e, r1, r2⟩
    · cases h2
  · have hx : x ∈ t.blt := hx
    obtain ⟨j, hj, e⟩ := List.mem_iff_getElem.mp hx
    have g1 : He.Fa.ok K (.free x) = true := c0.fact (t.fts.length + j) (by
      show ((t.fts.map fun f => He.Fa.glo f.nm) ++ t.blt.map .free)[t.fts.length + j]? = _
      rw [List.getElem?_append_right (by simp)]
      simp [hj, e])
    exact He.free_ok X N g1
end Z

set_option Elab.async false
set_option linter.all false
set_option maxRecDepth 100000
set_option maxHeartbeats 0
namespace Law
open PySem Z
-- 0 is_name : 0 thing 1 sign
def f0 : Fun := { np := 1, ns := 2, io := [], body := (.cons (.ifS (.or (.not (.isi (.var 0) .str)) (.or (.not (.cmp2 .lt .le (.cst (.int 0)) (.bi .len (.cons (.var 0) .nil)) (.glo 1))) (.cmp .inn (.var 0) (.glo 2)))) (.cons (.ret (.cst (.bl false)))
    .nil) .nil)
    (.cons (.ret (.bi .all (.cons (.lc [1] (.cmp .inn (.var 1) (.glo 0)) (.cons (.var 1) (.ex (.var 0)) .nil .nil)) .nil)))
    .nil)) }
-- 1 is_term : 0 thing 1 part
def f1 : Fun := { np := 1, ns := 2, io := [], body := (.cons (.ifS (.or (.not (.isi (.var 0) .tup)) (.or (.cmp .eq (.var 0) (.tup .nil)) (.not (.call 0 (.cons (.idx (.var 0) (.cst (.int 0))) .nil))))) (.cons (.ret (.cst (.bl false)))
    .nil) .nil)
    (.cons (.ret (.bi .all (.cons (.lc [1] (.call 1 (.cons (.var 1) .nil)) (.cons (.var 1) (.ex (.sli (.var 0) (.cst (.int 1)) (.cst .non))) .nil .nil)) .nil)))
    .nil)) }
-- 2 begins : 0 thing 1 word 2 many
def f2 : Fun := { np := 3, ns := 3, io := [], body := (.cons (.ret (.and (.isi (.var 0) .tup) (.and (.cmp .eq (.bi .len (.cons (.var 0) .nil)) (.var 2)) (.and (.isi (.idx (.var 0) (.cst (.int 0))) .str) (.cmp .eq (.idx (.var 0) (.cst (.int 0))) (.var 1))))))
    .nil) }
-- 3 are_terms : 0 things 1 thing
def f3 : Fun := { np := 1, ns := 2, io := [], body := (.cons (.ret (.bi .all (.cons (.lc [1] (.call 1 (.cons (.var 1) .nil)) (.cons (.var 1) (.ex (.var 0)) .nil .nil)) .nil)))
    .nil) }
-- 4 is_guard : 0 thing
def f4 : Fun := { np := 1, ns := 1, io := [], body := (.cons (.ifS (.or (.call 2 (.cons (.var 0) (.cons (.cst (.str "yes")) (.cons (.cst (.int 1)) .nil)))) (.call 2 (.cons (.var 0) (.cons (.cst (.str "no")) (.cons (.cst (.int 1)) .nil))))) (.cons (.ret (.cst (.bl true)))
    .nil) .nil)
    (.cons (.ret (.and (.call 2 (.cons (.var 0) (.cons (.cst (.str "if")) (.cons (.cst (.int 5)) .nil)))) (.and (.call 3 (.cons (.sli (.var 0) (.cst (.int 1)) (.cst (.int 3))) .nil)) (.and (.call 4 (.cons (.idx (.var 0) (.cst (.int 3))) .nil)) (.call 4 (.cons (.idx (.var 0) (.cst (.int 4))) .nil))))))
    .nil)) }
-- 5 is_fact : 0 thing
def f5 : Fun := { np := 1, ns := 1, io := [], body := (.cons (.ret (.and (.or (.call 2 (.cons (.var 0) (.cons (.cst (.str "alike")) (.cons (.cst (.int 3)) .nil)))) (.call 2 (.cons (.var 0) (.cons (.cst (.str "unlike")) (.cons (.cst (.int 3)) .nil))))) (.call 3 (.cons (.sli (.var 0) (.cst (.int 1)) (.cst .non)) .nil))))
    .nil) }
-- 6 _law_bag : 0 _law_script 1 _law_cell
def f6 : Fun := { np := 1, ns := 2, io := [], body := (.cons (.ret (.lst (.cons (.cst (.int 0)) (.cons (.cst (.int 1234567891)) (.cons (.cst (.int 0)) (.cons (.lc [1] (.bi .abs (.cons (.var 1) .nil)) (.cons (.var 1) (.ex (.sli (.var 0) (.cst .non) (.cst (.int 63)))) .nil .nil)) .nil))))))
    .nil) }
-- 7 _law_take : 0 _law_bag_here 1 _law_many 2 _law_cell 3 _law_mixed 4 _law_drawn_here 5 _law_early 6 _law_second
def f7 : Fun := { np := 2, ns := 7, io := [0], body := (.cons (.ifS (.cmp .eq (.idx (.var 0) (.cst (.int 0))) (.cst (.int 0))) (.cons (.asg (.var 2) (.idx (.bin .add (.sli (.idx (.var 0) (.cst (.int 3))) (.idx (.var 0) (.cst (.int 2))) (.cst .non)) (.lst (.cons (.cst (.int 0)) .nil))) (.cst (.int 0))))
    (.cons (.aug (.sub 0 .nil (.cst (.int 2))) .add (.cst (.int 1)))
    (.cons (.asg (.sub 0 .nil (.cst (.int 0))) (.bin .mul (.var 2) (.bi .int (.cons (.cmp .ge (.var 2) (.bin .pow (.cst (.int 10)) (.cst (.int 18)))) .nil))))
    (.cons (.asg (.var 3) (.bin .add (.bin .add (.bin .mul (.idx (.var 0) (.cst (.int 1))) (.cst (.int 48271))) (.bin .mod (.bi .int (.cons (.var 2) .nil)) (.cst (.int 2147483647)))) (.bin .mul (.cst (.int 7919)) (.idx (.var 0) (.cst (.int 2))))))
    (.cons (.asg (.sub 0 .nil (.cst (.int 1))) (.bin .mod (.bi .int (.cons (.var 3) .nil)) (.cst (.int 2147483647))))
    .nil))))) .nil)
    (.cons (.ifS (.cmp .gt (.idx (.var 0) (.cst (.int 0))) (.cst (.int 0))) (.cons (.asg (.tup (.cons (.var 4) (.cons (.sub 0 .nil (.cst (.int 0))) .nil))) (.tup (.cons (.bin .mod (.bi .int (.cons (.idx (.var 0) (.cst (.int 0))) .nil)) (.var 1)) (.cons (.bin .fdiv (.bi .int (.cons (.idx (.var 0) (.cst (.int 0))) .nil)) (.var 1)) .nil))))
    (.cons (.ret (.var 4))
    .nil)) .nil)
    (.cons (.asg (.var 5) (.bin .mod (.bi .int (.cons (.bin .mul (.bin .add (.idx (.var 0) (.cst (.int 1))) (.cst (.int 1))) (.cst (.int 39373))) .nil)) (.cst (.int 1000000007))))
    (.cons (.asg (.var 6) (.bin .mod (.bi .int (.cons (.bin .mul (.bin .mod (.bi .int (.cons (.bin .mul (.var 5) (.var 5)) .nil)) (.cst (.int 998244353))) (.cst (.int 30011))) .nil)) (.cst (.int 998244353))))
    (.cons (.ret (.bin .mod (.bi .int (.cons (.bin .fdiv (.var 6) (.cst (.int 7))) .nil)) (.var 1)))
    .nil))))) }
-- 8 _law_alike : 0 _law_found 1 _law_due
def f8 : Fun := { np := 2, ns := 2, io := [], body := (.cons (.ret (.and (.cmp .eq (.var 0) (.var 1)) (.cmp .eq (.bi .repr (.cons (.var 0) .nil)) (.bi .repr (.cons (.var 1) .nil)))))
    .nil) }
-- 9 _law_one : 0 _law_bag_here 1 _law_some
def f9 : Fun := { np := 2, ns := 2, io := [0], body := (.cons (.ret (.idx (.var 1) (.call 7 (.cons (.var 0) (.cons (.bi .len (.cons (.var 1) .nil)) .nil)))))
    .nil) }
-- 10 _law_odd : 0 _law_bag_here 1 _law_some
def f10 : Fun := { np := 1, ns := 2, io := [0], body := (.cons (.asg (.var 1) (.lst (.cons (.cst .non) (.cons (.cst (.bl true)) (.cons (.cst (.bl false)) (.cons (.cst (.int 0)) (.cons (.cst (.int 1)) (.cons (.cst (.int 7)) (.cons (.neg (.cst (.int 1))) (.cons (.bin .pow (.cst (.int 10)) (.cst (.int 39))) (.cons (.neg (.bin .pow (.cst (.int 10)) (.cst (.int 39)))) (.cons (.cst (.str "")) (.cons (.cst (.str "a")) (.cons (.cst (.str "A")) (.cons (.cst (.str "if")) (.cons (.cst (.str "tell")) (.cons (.cst (.str "yes")) (.cons (.cst (.str "no")) (.cons (.cst (.str "a1")) (.cons (.cst (.str " ")) .nil))))))))))))))))))))
    (.cons (.asg (.var 1) (.bin .add (.var 1) (.lst (.cons (.cst (.str "a\n")) (.cons (.cst (.str "abcdefghi")) (.cons (.tup .nil) (.cons (.lst .nil) (.cons (.dct .nil) (.cons (.tup (.cons (.cst (.str "a")) .nil)) (.cons (.lst (.cons (.cst (.str "a")) .nil)) (.cons (.tup (.cons (.cst (.str "A")) .nil)) (.cons (.tup (.cons (.cst (.str "if")) .nil)) (.cons (.tup (.cons (.cst (.str "a")) (.cons (.cst (.str "b")) .nil))) (.cons (.tup (.cons (.tup (.cons (.cst (.str "a")) .nil)) .nil)) (.cons (.tup (.cons (.cst (.str "a")) (.cons (.cst (.int 0)) .nil))) .nil)))))))))))))))
    (.cons (.asg (.var 1) (.bin .add (.var 1) (.lst (.cons (.tup (.cons (.cst (.str "a")) (.cons (.lst (.cons (.cst (.str "b")) .nil)) .nil))) (.cons (.tup (.cons (.cst (.str "tell")) .nil)) (.cons (.tup (.cons (.cst (.str "yes")) (.cons (.cst (.str "no")) .nil))) (.cons (.lst (.cons (.cst (.str "yes")) .nil)) (.cons (.tup (.cons (.cst (.str "alike")) (.cons (.tup (.cons (.cst (.str "a")) .nil)) .nil))) (.cons (.dct (.cons (.cst (.str "a")) (.cst (.int 1)) .nil)) (.cons (.dct (.cons (.tup (.cons (.cst (.str "a")) .nil)) (.cst (.int 1)) .nil)) (.cons (.tup (.cons (.cst .non) .nil)) .nil)))))))))))
    (.cons (.asg (.var 1) (.bin .add (.var 1) (.lst (.cons (.lst (.cons (.lst .nil) .nil)) (.cons (.dct (.cons (.cst (.int 1)) (.tup (.cons (.cst (.str "a")) .nil)) .nil)) .nil)))))
    (.cons (.ret (.call 9 (.cons (.var 0) (.cons (.var 1) .nil))))
    .nil))))) }
-- 11 _law_is_name : 0 _law_thing 1 _law_sign
def f11 : Fun := { np := 1, ns := 2, io := [], body := (.cons (.ifS (.or (.not (.isi (.var 0) .str)) (.not (.cmp2 .lt .lt (.cst (.int 0)) (.bi .len (.cons (.var 0) .nil)) (.cst (.int 9))))) (.cons (.ret (.cst (.bl false)))
    .nil) .nil)
    (.cons (.ifS (.cmp .inn (.var 0) (.lst (.cons (.cst (.str "alike")) (.cons (.cst (.str "go")) (.cons (.cst (.str "if")) (.cons (.cst (.str "no")) (.cons (.cst (.str "tell")) (.cons (.cst (.str "unlike")) (.cons (.cst (.str "with")) (.cons (.cst (.str "yes")) .nil)))))))))) (.cons (.ret (.cst (.bl false)))
    .nil) .nil)
    (.cons (.ret (.cmp .eq (.lc [1] (.var 1) (.cons (.var 1) (.ex (.var 0)) (.cons (.not (.cmp2 .le .le (.cst (.str "a")) (.var 1) (.cst (.str "z")))) .nil) .nil)) (.lst .nil)))
    .nil))) }
-- 12 _law_is_term : 0 _law_thing 1 _law_part
def f12 : Fun := { np := 1, ns := 2, io := [], body := (.cons (.ifS (.or (.not (.isi (.var 0) .tup)) (.or (.cmp .eq (.var 0) (.tup .nil)) (.not (.call 11 (.cons (.idx (.var 0) (.cst (.int 0))) .nil))))) (.cons (.ret (.cst (.bl false)))
    .nil) .nil)
    (.cons (.ret (.cmp .eq (.lc [1] (.var 1) (.cons (.var 1) (.ex (.sli (.var 0) (.cst (.int 1)) (.cst .non))) (.cons (.not (.call 12 (.cons (.var 1) .nil))) .nil) .nil)) (.lst .nil)))
    .nil)) }
-- 13 _law_is_ending : 0 _law_thing 1 _law_is_end
def f13 : Fun := { np := 2, ns := 2, io := [], body := (.cons (.ifS (.or (.not (.isi (.var 0) .tup)) (.or (.cmp .ne (.bi .len (.cons (.var 0) .nil)) (.cst (.int 5))) (.or (.not (.isi (.idx (.var 0) (.cst (.int 0))) .str)) (.cmp .ne (.idx (.var 0) (.cst (.int 0))) (.cst (.str "if")))))) (.cons (.ret (.app (.var 1) (.cons (.var 0) .nil)))
    .nil) .nil)
    (.cons (.ifS (.or (.not (.call 12 (.cons (.idx (.var 0) (.cst (.int 1))) .nil))) (.not (.call 12 (.cons (.idx (.var 0) (.cst (.int 2))) .nil)))) (.cons (.ret (.cst (.bl false)))
    .nil) .nil)
    (.cons (.ret (.and (.call 13 (.cons (.idx (.var 0) (.cst (.int 3))) (.cons (.var 1) .nil))) (.call 13 (.cons (.idx (.var 0) (.cst (.int 4))) (.cons (.var 1) .nil)))))
    .nil))) }
-- 14 _law_is_word : 0 _law_thing
def f14 : Fun := { np := 1, ns := 1, io := [], body := (.cons (.ret (.and (.isi (.var 0) .tup) (.and (.cmp .eq (.bi .len (.cons (.var 0) .nil)) (.cst (.int 1))) (.and (.isi (.idx (.var 0) (.cst (.int 0))) .str) (.cmp .inn (.idx (.var 0) (.cst (.int 0))) (.tup (.cons (.cst (.str "yes")) (.cons (.cst (.str "no")) .nil))))))))
    .nil) }
-- 15 _law_is_fact : 0 _law_thing
def f15 : Fun := { np := 1, ns := 1, io := [], body := (.cons (.ifS (.or (.not (.isi (.var 0) .tup)) (.or (.cmp .ne (.bi .len (.cons (.var 0) .nil)) (.cst (.int 3))) (.not (.isi (.idx (.var 0) (.cst (.int 0))) .str)))) (.cons (.ret (.cst (.bl false)))
    .nil) .nil)
    (.cons (.ret (.and (.cmp .inn (.idx (.var 0) (.cst (.int 0))) (.tup (.cons (.cst (.str "alike")) (.cons (.cst (.str "unlike")) .nil)))) (.and (.call 12 (.cons (.idx (.var 0) (.cst (.int 1))) .nil)) (.call 12 (.cons (.idx (.var 0) (.cst (.int 2))) .nil)))))
    .nil)) }
-- 16 _law_name : 0 _law_bag_here 1 _law_some 2 _law_k
def f16 : Fun := { np := 1, ns := 3, io := [0], body := (.cons (.asg (.var 1) (.lst (.cons (.cst (.str "a")) (.cons (.cst (.str "b")) (.cons (.cst (.str "c")) (.cons (.cst (.str "f")) (.cons (.cst (.str "g")) (.cons (.cst (.str "x")) (.cons (.cst (.str "z")) (.cons (.cst (.str "ab")) (.cons (.cst (.str "ans")) (.cons (.cst (.str "iff")) (.cons (.cst (.str "gone")) (.cons (.cst (.str "tells")) (.cons (.cst (.str "withs")) (.cons (.cst (.str "abcdefgh")) (.cons (.cst (.str "zzzzzzzz")) .nil)))))))))))))))))
    (.cons (.ifS (.cmp .gt (.call 7 (.cons (.var 0) (.cons (.cst (.int 4)) .nil))) (.cst (.int 0))) (.cons (.ret (.call 9 (.cons (.var 0) (.cons (.var 1) .nil))))
    .nil) .nil)
    (.cons (.ret (.bin .add (.cst (.str "k")) (.met .join (.cst (.str "")) (.cons (.lc [2] (.call 9 (.cons (.var 0) (.cons (.cst (.str "abcdefghijklmnopqrstuvwxyz")) .nil))) (.cons (.var 2) (.range (.cons (.call 7 (.cons (.var 0) (.cons (.cst (.int 8)) .nil))) .nil)) .nil .nil)) .nil))))
    .nil))) }
-- 17 _law_any_term : 0 _law_bag_here 1 _law_deep 2 _law_many 3 _law_k
def f17 : Fun := { np := 2, ns := 4, io := [0], body := (.cons (.asg (.var 2) (.ife (.cmp .gt (.var 1) (.cst (.int 0))) (.call 7 (.cons (.var 0) (.cons (.ife (.cmp .eq (.var 1) (.cst (.int 1))) (.cst (.int 7)) (.cst (.int 4))) .nil))) (.cst (.int 0))))
    (.cons (.ret (.bin .add (.tup (.cons (.call 16 (.cons (.var 0) .nil)) .nil)) (.bi .tuple (.cons (.lc [3] (.call 17 (.cons (.var 0) (.cons (.bin .sub (.var 1) (.cst (.int 1))) .nil))) (.cons (.var 3) (.range (.cons (.var 2) .nil)) .nil .nil)) .nil))))
    .nil)) }
-- 18 _law_bent : 0 _law_bag_here 1 _law_thing 2 _law_way 3 _law_at 4 _law_some
def f18 : Fun := { np := 2, ns := 5, io := [0], body := (.cons (.asg (.var 2) (.call 7 (.cons (.var 0) (.cons (.cst (.int 15)) .nil))))
    (.cons (.ifS (.and (.isi (.var 1) .tup) (.and (.cmp .ne (.var 1) (.tup .nil)) (.cmp .gt (.var 2) (.cst (.int 1))))) (.cons (.asg (.var 3) (.call 7 (.cons (.var 0) (.cons (.bi .len (.cons (.var 1) .nil)) .nil))))
    (.cons (.ifS (.cmp .eq (.var 2) (.cst (.int 2))) (.cons (.ret (.bi .list (.cons (.var 1) .nil)))
    .nil) .nil)
    (.cons (.ifS (.cmp .eq (.var 2) (.cst (.int 3))) (.cons (.ret (.bin .add (.sli (.var 1) (.cst .non) (.var 3)) (.sli (.var 1) (.bin .add (.var 3) (.cst (.int 1))) (.cst .non))))
    .nil) .nil)
    (.cons (.ifS (.cmp .eq (.var 2) (.cst (.int 4))) (.cons (.ret (.bin .add (.bin .add (.sli (.var 1) (.cst .non) (.var 3)) (.tup (.cons (.idx (.var 1) (.var 3)) .nil))) (.sli (.var 1) (.var 3) (.cst .non))))
    .nil) .nil)
    (.cons (.ifS (.cmp .eq (.var 2) (.cst (.int 5))) (.cons (.ret (.bin .add (.bin .add (.sli (.var 1) (.cst .non) (.var 3)) (.tup (.cons (.call 10 (.cons (.var 0) .nil)) .nil))) (.sli (.var 1) (.var 3) (.cst .non))))
    .nil) .nil)
    (.cons (.ret (.bin .add (.bin .add (.sli (.var 1) (.cst .non) (.var 3)) (.tup (.cons (.call 18 (.cons (.var 0) (.cons (.idx (.var 1) (.var 3)) .nil))) .nil))) (.sli (.var 1) (.bin .add (.var 3) (.cst (.int 1))) (.cst .non))))
    .nil)))))) .nil)
    (.cons (.ifS (.and (.isi (.var 1) .str) (.cmp .gt (.var 2) (.cst (.int 1)))) (.cons (.asg (.var 4) (.lst (.cons (.bin .add (.var 1) (.cst (.str "s"))) (.cons (.bin .add (.var 1) (.cst (.str "1"))) (.cons (.bin .add (.var 1) (.cst (.str "\n"))) (.cons (.sli (.var 1) (.cst .non) (.neg (.cst (.int 1)))) (.cons (.met .upper (.var 1) .nil) (.cons (.cst (.str "if")) (.cons (.cst (.str "tell")) (.cons (.cst (.str "yes")) (.cons (.cst (.str "alike")) .nil)))))))))))
    (.cons (.ret (.call 9 (.cons (.var 0) (.cons (.bin .add (.var 4) (.lst (.cons (.cst (.str "unlike")) (.cons (.cst (.str "no")) (.cons (.cst (.str "go")) (.cons (.cst (.str "with")) .nil)))))) .nil))))
    .nil)) .nil)
    (.cons (.ret (.call 10 (.cons (.var 0) .nil)))
    .nil)))) }
-- 19 _law_any_code : 0 _law_bag_here 1 _law_deep 2 _law_guarded 3 _law_one_here 4 _law_other
def f19 : Fun := { np := 3, ns := 5, io := [0], body := (.cons (.ifS (.or (.cmp .eq (.var 1) (.cst (.int 0))) (.cmp .eq (.call 7 (.cons (.var 0) (.cons (.cst (.int 3)) .nil))) (.cst (.int 0)))) (.cons (.ret (.ife (.var 2) (.tup (.cons (.call 9 (.cons (.var 0) (.cons (.lst (.cons (.cst (.str "yes")) (.cons (.cst (.str "no")) .nil))) .nil))) .nil)) (.tup (.cons (.cst (.str "tell")) (.cons (.call 17 (.cons (.var 0) (.cons (.cst (.int 2)) .nil))) .nil)))))
    .nil) .nil)
    (.cons (.asg (.tup (.cons (.var 3) (.cons (.var 4) .nil))) (.tup (.cons (.call 17 (.cons (.var 0) (.cons (.cst (.int 1)) .nil))) (.cons (.call 17 (.cons (.var 0) (.cons (.cst (.int 1)) .nil))) .nil))))
    (.cons (.ret (.tup (.cons (.cst (.str "if")) (.cons (.var 3) (.cons (.var 4) (.cons (.call 19 (.cons (.var 0) (.cons (.bin .sub (.var 1) (.cst (.int 1))) (.cons (.var 2) .nil)))) (.cons (.call 19 (.cons (.var 0) (.cons (.bin .sub (.var 1) (.cst (.int 1))) (.cons (.var 2) .nil)))) .nil)))))))
    .nil))) }
-- 20 _law_drawn : 0 _law_bag_here 1 _law_way 2 _law_one_here 3 _law_other 4 _law_met 5 _law_some
def f20 : Fun := { np := 1, ns := 6, io := [0], body := (.cons (.asg (.var 1) (.call 7 (.cons (.var 0) (.cons (.cst (.int 6)) .nil))))
    (.cons (.ifS (.cmp .lt (.var 1) (.cst (.int 2))) (.cons (.ret (.tup (.cons (.call 9 (.cons (.var 0) (.cons (.lst (.cons (.cst (.str "alike")) (.cons (.cst (.str "unlike")) .nil))) .nil))) (.cons (.call 17 (.cons (.var 0) (.cons (.cst (.int 3)) .nil))) (.cons (.call 17 (.cons (.var 0) (.cons (.cst (.int 2)) .nil))) .nil)))))
    .nil) .nil)
    (.cons (.ifS (.cmp .eq (.var 1) (.cst (.int 5))) (.cons (.asg (.tup (.cons (.var 2) (.cons (.var 3) (.cons (.var 4) .nil)))) (.tup (.cons (.call 17 (.cons (.var 0) (.cons (.cst (.int 1)) .nil))) (.cons (.call 17 (.cons (.var 0) (.cons (.cst (.int 1)) .nil))) (.cons (.tup (.cons (.cst (.str "met")) .nil)) .nil)))))
    (.cons (.asg (.var 5) (.lst (.cons (.call 19 (.cons (.var 0) (.cons (.cst (.int 2)) (.cons (.cst (.bl false)) .nil)))) (.cons (.var 2) (.cons (.var 4) (.cons (.tup (.cons (.cst (.str "if")) (.cons (.var 2) (.cons (.var 3) (.cons (.var 4) (.cons (.var 4) .nil)))))) .nil))))))
    (.cons (.ex (.mut .append 5 .nil (.cons (.tup (.cons (.cst (.str "if")) (.cons (.var 2) (.cons (.var 3) (.cons (.var 4) (.cons (.tup (.cons (.cst (.str "yes")) .nil)) .nil)))))) .nil)))
    (.cons (.ret (.call 9 (.cons (.var 0) (.cons (.bin .add (.var 5) (.lst (.cons (.tup (.cons (.cst (.str "if")) (.cons (.var 2) (.cons (.var 3) (.cons (.var 2) (.cons (.tup (.cons (.cst (.str "yes")) .nil)) .nil)))))) (.cons (.tup (.cons (.cst (.str "if")) (.cons (.var 2) (.cons (.var 3) (.cons (.tup (.cons (.cst (.str "no")) .nil)) (.cons (.var 3) .nil)))))) .nil)))) .nil))))
    .nil)))) .nil)
    (.cons (.ret (.call 19 (.cons (.var 0) (.cons (.cst (.int 4)) (.cons (.cst (.bl true)) .nil)))))
    .nil)))) }
-- 21 law : 0 _law_script 1 _law_bag_here 2 _law_things 3 _law_turn 4 _law_thing 5 _law_again 6 _law_kept 7 _law_found 8 _law_a 9 _law_b 10 _law_deep 11 _law_bad 12 _law_k
def f21 : Fun := { np := 1, ns := 13, io := [], body := (.cons (.asg (.var 1) (.call 6 (.cons (.var 0) .nil)))
    (.cons (.asg (.var 2) (.lst .nil))
    (.cons (.forS (.var 3) (.range (.cons (.cst (.int 14)) .nil)) (.cons (.asg (.var 4) (.call 20 (.cons (.var 1) .nil)))
    (.cons (.forS (.var 5) (.range (.cons (.call 9 (.cons (.var 1) (.cons (.lst (.cons (.cst (.int 0)) (.cons (.cst (.int 0)) (.cons (.cst (.int 1)) (.cons (.cst (.int 1)) (.cons (.cst (.int 2)) .nil)))))) .nil))) .nil)) (.cons (.asg (.var 4) (.call 18 (.cons (.var 1) (.cons (.var 4) .nil))))
    .nil))
    (.cons (.ex (.mut .append 2 .nil (.cons (.var 4) .nil)))
    .nil))))
    (.cons (.asg (.var 6) (.bi .repr (.cons (.var 2) .nil)))
    (.cons (.forS (.var 4) (.ex (.bin .add (.var 2) (.sli (.var 2) (.cst .non) (.cst (.int 3))))) (.cons (.asg (.var 7) (.lst (.cons (.call 4 (.cons (.var 4) .nil)) (.cons (.call 5 (.cons (.var 4) .nil)) .nil))))
    (.cons (.ifS (.not (.call 8 (.cons (.var 7) (.cons (.lst (.cons (.call 13 (.cons (.var 4) (.cons (.cst (.clo "_law_is_word" [])) .nil))) (.cons (.call 15 (.cons (.var 4) .nil)) .nil))) .nil)))) (.cons (.ret (.cst (.bl false)))
    .nil) .nil)
    .nil)))
    (.cons (.asg (.tup (.cons (.var 8) (.cons (.var 9) (.cons (.var 10) (.cons (.var 11) .nil))))) (.tup (.cons (.tup (.cons (.cst (.str "a")) .nil)) (.cons (.tup (.cons (.cst (.str "b")) .nil)) (.cons (.tup (.cons (.cst (.str "yes")) .nil)) (.cons (.tup (.cons (.cst (.str "yes")) (.cons (.cst (.str "no")) .nil))) .nil))))))
    (.cons (.forS (.var 12) (.range (.cons (.cst (.int 26)) .nil)) (.cons (.asg (.tup (.cons (.var 10) (.cons (.var 11) .nil))) (.tup (.cons (.tup (.cons (.cst (.str "if")) (.cons (.var 8) (.cons (.var 9) (.cons (.tup (.cons (.cst (.str "no")) .nil)) (.cons (.var 10) .nil)))))) (.cons (.tup (.cons (.cst (.str "if")) (.cons (.var 8) (.cons (.var 9) (.cons (.tup (.cons (.cst (.str "no")) .nil)) (.cons (.var 11) .nil)))))) .nil))))
    .nil))
    (.cons (.ifS (.not (.call 8 (.cons (.lst (.cons (.call 4 (.cons (.var 10) .nil)) (.cons (.call 4 (.cons (.var 11) .nil)) .nil))) (.cons (.lst (.cons (.cst (.bl true)) (.cons (.cst (.bl false)) .nil))) .nil)))) (.cons (.ret (.cst (.bl false)))
    .nil) .nil)
    (.cons (.ret (.cmp .eq (.bi .repr (.cons (.var 2) .nil)) (.var 6)))
    .nil))))))))) }
def funs : List Fun := [f0, f1, f2, f3, f4, f5, f6, f7, f8, f9, f10, f11, f12, f13, f14, f15, f16, f17, f18, f19, f20, f21]
def prog : Prog := { glob := [(.str "abcdefghijklmnopqrstuvwxyz"), (.int 8), (.tup [(.str "alike"), (.str "go"), (.str "if"), (.str "no"), (.str "tell"), (.str "unlike"), (.str "with"), (.str "yes")])], mode := [[0], [0], [0, 0, 0], [0], [0], [0], [0], [1, 0], [0, 0], [1, 0], [1], [0], [0], [0, 0], [0], [0], [1], [1, 0], [1, 0], [1, 0, 0], [1], [0]], meths := [], inits := [], nfld := [], sub := [], fns := ["is_name", "is_term", "begins", "are_terms", "is_guard", "is_fact", "_law_bag", "_law_take", "_law_alike", "_law_one", "_law_odd", "_law_is_name", "_law_is_term", "_law_is_ending", "_law_is_word", "_law_is_fact", "_law_name", "_law_any_term", "_law_bent", "_law_any_code", "_law_drawn", "law"] }
abbrev top (i : Nat) : Stmt := PySem.Challenge.pw_answerskept_k13_guards_and_facts.main.body.getD i (.Pass ⟨0, 0, 0, 0⟩)
def t0 : FT := ⟨"is_name", L2.defArgs (top 4), ["thing"], ["thing", "sign"], L2.defScope (top 4), L2.defBody (top 4)⟩
def t1 : FT := ⟨"is_term", L2.defArgs (top 5), ["thing"], ["thing", "part"], L2.defScope (top 5), L2.defBody (top 5)⟩
def t2 : FT := ⟨"begins", L2.defArgs (top 6), ["thing", "word", "many"], ["thing", "word", "many"], L2.defScope (top 6), L2.defBody (top 6)⟩
def t3 : FT := ⟨"are_terms", L2.defArgs (top 7), ["things"], ["things", "thing"], L2.defScope (top 7), L2.defBody (top 7)⟩
def t4 : FT := ⟨"is_guard", L2.defArgs (top 8), ["thing"], ["thing"], L2.defScope (top 8), L2.defBody (top 8)⟩
def t5 : FT := ⟨"is_fact", L2.defArgs (top 9), ["thing"], ["thing"], L2.defScope (top 9), L2.defBody (top 9)⟩
def t6 : FT := ⟨"_law_bag", L2.defArgs (top 11), ["_law_script"], ["_law_script", "_law_cell"], L2.defScope (top 11), L2.defBody (top 11)⟩
def t7 : FT := ⟨"_law_take", L2.defArgs (top 12), ["_law_bag_here", "_law_many"], ["_law_bag_here", "_law_many", "_law_cell", "_law_mixed", "_law_drawn_here", "_law_early", "_law_second"], L2.defScope (top 12), L2.defBody (top 12)⟩
def t8 : FT := ⟨"_law_alike", L2.defArgs (top 13), ["_law_found", "_law_due"], ["_law_found", "_law_due"], L2.defScope (top 13), L2.defBody (top 13)⟩
def t9 : FT := ⟨"_law_one", L2.defArgs (top 14), ["_law_bag_here", "_law_some"], ["_law_bag_here", "_law_some"], L2.defScope (top 14), L2.defBody (top 14)⟩
def t10 : FT := ⟨"_law_odd", L2.defArgs (top 15), ["_law_bag_here"], ["_law_bag_here", "_law_some"], L2.defScope (top 15), L2.defBody (top 15)⟩
def t11 : FT := ⟨"_law_is_name", L2.defArgs (top 16), ["_law_thing"], ["_law_thing", "_law_sign"], L2.defScope (top 16), L2.defBody (top 16)⟩
def t12 : FT := ⟨"_law_is_term", L2.defArgs (top 17), ["_law_thing"], ["_law_thing", "_law_part"], L2.defScope (top 17), L2.defBody (top 17)⟩
def t13 : FT := ⟨"_law_is_ending", L2.defArgs (top 18), ["_law_thing", "_law_is_end"], ["_law_thing", "_law_is_end"], L2.defScope (top 18), L2.defBody (top 18)⟩
def t14 : FT := ⟨"_law_is_word", L2.defArgs (top 19), ["_law_thing"], ["_law_thing"], L2.defScope (top 19), L2.defBody (top 19)⟩
def t15 : FT := ⟨"_law_is_fact", L2.defArgs (top 20), ["_law_thing"], ["_law_thing"], L2.defScope (top 20), L2.defBody (top 20)⟩
def t16 : FT := ⟨"_law_name", L2.defArgs (top 21), ["_law_bag_here"], ["_law_bag_here", "_law_some", "_law_k"], L2.defScope (top 21), L2.defBody (top 21)⟩
def t17 : FT := ⟨"_law_any_term", L2.defArgs (top 22), ["_law_bag_here", "_law_deep"], ["_law_bag_here", "_law_deep", "_law_many", "_law_k"], L2.defScope (top 22), L2.defBody (top 22)⟩
def t18 : FT := ⟨"_law_bent", L2.defArgs (top 23), ["_law_bag_here", "_law_thing"], ["_law_bag_here", "_law_thing", "_law_way", "_law_at", "_law_some"], L2.defScope (top 23), L2.defBody (top 23)⟩
def t19 : FT := ⟨"_law_any_code", L2.defArgs (top 24), ["_law_bag_here", "_law_deep", "_law_guarded"], ["_law_bag_here", "_law_deep", "_law_guarded", "_law_one_here", "_law_other"], L2.defScope (top 24), L2.defBody (top 24)⟩
def t20 : FT := ⟨"_law_drawn", L2.defArgs (top 25), ["_law_bag_here"], ["_law_bag_here", "_law_way", "_law_one_here", "_law_other", "_law_met", "_law_some"], L2.defScope (top 25), L2.defBody (top 25)⟩
def t21 : FT := ⟨"law", L2.defArgs (top 26), ["_law_script"], ["_law_script", "_law_bag_here", "_law_things", "_law_turn", "_law_thing", "_law_again", "_law_kept", "_law_found", "_law_a", "_law_b", "_law_deep", "_law_bad", "_law_k"], L2.defScope (top 26), L2.defBody (top 26)⟩
def txt : Txt := ⟨[t0, t1, t2, t3, t4, t5, t6, t7, t8, t9, t10, t11, t12, t13, t14, t15, t16, t17, t18, t19, t20, t21], funs, [("LETTERS", (.str "abcdefghijklmnopqrstuvwxyz")), ("LONGEST", (.int 8)), ("WORDS", (.tup [(.str "alike"), (.str "go"), (.str "if"), (.str "no"), (.str "tell"), (.str "unlike"), (.str "with"), (.str "yes")]))], ["abs", "all", "int", "isinstance", "len", "list", "range", "repr", "str", "tuple"], prog.mode⟩
theorem chk : chAll txt.G txt.fts txt.fs txt.mode = true := by decide +kernel
theorem bnd0 : t0.Bnd := fun _ _ _ _ _ _ us hl => match us, hl with | [_], _ => rfl
theorem bnd1 : t1.Bnd := fun _ _ _ _ _ _ us hl => match us, hl with | [_], _ => rfl
theorem bnd2 : t2.Bnd := fun _ _ _ _ _ _ us hl => match us, hl with | [_, _, _], _ => rfl
theorem bnd3 : t3.Bnd := fun _ _ _ _ _ _ us hl => match us, hl with | [_], _ => rfl
theorem bnd4 : t4.Bnd := fun _ _ _ _ _ _ us hl => match us, hl with | [_], _ => rfl
theorem bnd5 : t5.Bnd := fun _ _ _ _ _ _ us hl => match us, hl with | [_], _ => rfl
theorem bnd6 : t6.Bnd := fun _ _ _ _ _ _ us hl => match us, hl with | [_], _ => rfl
theorem bnd7 : t7.Bnd := fun _ _ _ _ _ _ us hl => match us, hl with | [_, _], _ => rfl
theorem bnd8 : t8.Bnd := fun _ _ _ _ _ _ us hl => match us, hl with | [_, _], _ => rfl
theorem bnd9 : t9.Bnd := fun _ _ _ _ _ _ us hl => match us, hl with | [_, _], _ => rfl
theorem bnd10 : t10.Bnd := fun _ _ _ _ _ _ us hl => match us, hl with | [_], _ => rfl
theorem bnd11 : t11.Bnd := fun _ _ _ _ _ _ us hl => match us, hl with | [_], _ => rfl
theorem bnd12 : t12.Bnd := fun _ _ _ _ _ _ us hl => match us, hl with | [_], _ => rfl
theorem bnd13 : t13.Bnd := fun _ _ _ _ _ _ us hl => match us, hl with | [_, _], _ => rfl
theorem bnd14 : t14.Bnd := fun _ _ _ _ _ _ us hl => match us, hl with | [_], _ => rfl
theorem bnd15 : t15.Bnd := fun _ _ _ _ _ _ us hl => match us, hl with | [_], _ => rfl
theorem bnd16 : t16.Bnd := fun _ _ _ _ _ _ us hl => match us, hl with | [_], _ => rfl
theorem bnd17 : t17.Bnd := fun _ _ _ _ _ _ us hl => match us, hl with | [_, _], _ => rfl
theorem bnd18 : t18.Bnd := fun _ _ _ _ _ _ us hl => match us, hl with | [_, _], _ => rfl
theorem bnd19 : t19.Bnd := fun _ _ _ _ _ _ us hl => match us, hl with | [_, _, _], _ => rfl
theorem bnd20 : t20.Bnd := fun _ _ _ _ _ _ us hl => match us, hl with | [_], _ => rfl
theorem bnd21 : t21.Bnd := fun _ _ _ _ _ _ us hl => match us, hl with | [_], _ => rfl
theorem bnds : ∀ f ∈ txt.fts, f.Bnd := by
  intro f hf
  simp only [txt, List.mem_cons, List.not_mem_nil, or_false] at hf
  rcases hf with rfl | rfl | rfl | rfl | rfl | rfl | rfl | rfl | rfl | rfl | rfl | rfl | rfl | rfl | rfl | rfl | rfl | rfl | rfl | rfl | rfl | rfl
  · exact bnd0
  · exact bnd1
  · exact bnd2
  · exact bnd3
  · exact bnd4
  · exact bnd5
  · exact bnd6
  · exact bnd7
  · exact bnd8
  · exact bnd9
  · exact bnd10
  · exact bnd11
  · exact bnd12
  · exact bnd13
  · exact bnd14
  · exact bnd15
  · exact bnd16
  · exact bnd17
  · exact bnd18
  · exact bnd19
  · exact bnd20
  · exact bnd21
abbrev R : PySem.W.OpenRow := PySem.W.OpenLaw.row PySem.Challenge.rw_answerskept_k13_guards_and_facts
abbrev hk : PySem.W.Hook := hookZ 4 txt.fa txt.fn txt.cs
def ob (s : PySem.W.SharedT) : AlZ := obsZ 4 txt.fa txt.fn txt.cs (HandSHeadRun.getT s)
theorem ob_eq (s : PySem.W.SharedT) : ob s = hk.obs s.abs := obsZ_eq (HandSHeadRun.getT_eq s)
theorem run (w : World) : HandSHeadRun.RunEq R (PySem.W.view R.prog [26]) hk ob 4000 ["LETTERS", "LONGEST", "WORDS", "is_name", "is_term", "begins", "are_terms", "is_guard", "is_fact", "_law_bag", "_law_take", "_law_alike", "_law_one", "_law_odd", "_law_is_name", "_law_is_term", "_law_is_ending", "_law_is_word", "_law_is_fact", "_law_name", "_law_any_term", "_law_bent", "_law_any_code", "_law_drawn"] w := by
  intro os
  kernel_rfl
end Law
section
open PySem PySem.W PySem.Calls PyProof.Rows
theorem law_holds_of (law : ∀ ns : List Int, ns.length ≤ 63 → ∃ outs, Z.callN Law.txt.P Law.txt.fs 60 21 [.lst false (ns.map .int)] = .ok (.bl true) outs) : PySem.Challenge.rw_answerskept_k13_guards_and_facts.Holds := by
  w_on; o_law
  refine HandSHeadRun.head_any (r := OpenLaw.row PySem.Challenge.rw_answerskept_k13_guards_and_facts) (q := view (OpenLaw.row PySem.Challenge.rw_answerskept_k13_guards_and_facts).prog [26]) (H := Law.hk) (ob := Law.ob) (M := 4000) (loose := ["LETTERS", "LONGEST", "WORDS", "is_name", "is_term", "begins", "are_terms", "is_guard", "is_fact", "_law_bag", "_law_take", "_law_alike", "_law_one", "_law_odd", "_law_is_name", "_law_is_term", "_law_is_ending", "_law_is_word", "_law_is_fact", "_law_name", "_law_any_term", "_law_bent", "_law_any_code", "_law_drawn"]) (d := HandSHeadRun.topDef (OpenLaw.row PySem.Challenge.rw_answerskept_k13_guards_and_facts).prog 26) (kwd := []) Law.ob_eq
    (by kernel_rfl) (fun s => by kernel_rfl) Law.run (by kernel_rfl) (by kernel_rfl) (by kernel_rfl) (by rfl) (by first | assumption | decide +kernel) (by decide +kernel) ⟨rfl, rfl, rfl, rfl, rfl, by decide +kernel⟩ ?hw ?hc
  case hw => w_witness2
  case hc =>
    refine Z.walk_z (l := PySem.Challenge.rw_answerskept_k13_guards_and_facts) (n := 63) (k := 60) (x := "_law_script") rfl (by decide) (by kernel_rfl) ⟨rfl, by decide, by decide⟩ fun w mg h Y G => ?_
    obtain ⟨K, KX, c⟩ := Y
    exact ⟨K, Law.txt.G, Law.txt.P, Law.txt.fts, Law.txt.fs, 21, Law.t21, KX, congrArg (fun z : Z.AlZ => z.2.1) c, Z.mod_of c KX G Law.chk Law.bnds, rfl, by kernel_rfl, rfl, rfl, law⟩
end

set_option Elab.async false
set_option linter.all false
set_option maxRecDepth 100000
set_option maxHeartbeats 400000
namespace Law
open Z PySem
theorem eqD_int (i j : Int) : eqD (.int i) (.int j) = some (decide (i = j)) := by
  show some (PyData.eqv (.int i) (.int j)) = _
  simp only [PyData.eqv, Bool.beq_eq_decide_eq]
theorem frzs_ints (xs : List Int) : D.frzs (xs.map .int) = xs.map .int := by
  induction xs with
  | nil => rfl
  | cons x xs ih => simp [R.bind, evSs, evS, evO, evOs, evI, asgT, asgTs, sSeq, sAsg, sIf, sRet, sEx, sAugSub, sAug, taken, tst, fVar, fGlo, fBin, fCmp, fCmp2, fNeg, fNot, fAnd, fOr, fIfe, fDsp, fIdx, fSli, fRev, fBi, fCall, fIsi, fMet, gVar, gSub, gTup, gCons, gNil, fsCons, ofD, look, Sl.get, Opd.rd, Opd.rdk, Opd.take, rds, rdks, takes, box, D.frz, D.frzs, D.kids, cmpD, inD, getD?, sliD, sliC, optI, truth, biD, Bi.copies, runF, outsOf, enter, augD, setD, atP, Exps.plain, ih]
theorem fzs_ints (xs : List Int) : D.fzs (xs.map .int) = true := by
  induction xs with
  | nil => rfl
  | cons x xs ih => simp [R.bind, evSs, evS, evO, evOs, evI, asgT, asgTs, sSeq, sAsg, sIf, sRet, sEx, sAugSub, sAug, taken, tst, fVar, fGlo, fBin, fCmp, fCmp2, fNeg, fNot, fAnd, fOr, fIfe, fDsp, fIdx, fSli, fRev, fBi, fCall, fIsi, fMet, gVar, gSub, gTup, gCons, gNil, fsCons, ofD, look, Sl.get, Opd.rd, Opd.rdk, Opd.take, rds, rdks, takes, box, D.frz, D.frzs, D.kids, cmpD, inD, getD?, sliD, sliC, optI, truth, biD, Bi.copies, runF, outsOf, enter, augD, setD, atP, Exps.plain, D.fzs, D.fz, ih]
theorem bAddI (i j : Int) : binD .add (.int i) (.int j) = some (.int (i + j)) := rfl
theorem bMulR (i j : Int) (h1 : -18446744073709551616 < j) (h2 : j < 18446744073709551616) : binD .mul (.int i) (.int j) = some (.int (i * j)) := by
  have h1 : -big < j := h1
  have h2 : j < big := h2
  simp only [binD, h1, h2, decide_true, Bool.and_self, Bool.or_true, if_true]
theorem bMulL (i j : Int) (h1 : -18446744073709551616 < i) (h2 : i < 18446744073709551616) : binD .mul (.int i) (.int j) = some (.int (i * j)) := by
  have h1 : -big < i := h1
  have h2 : i < big := h2
  simp only [binD, h1, h2, decide_true, Bool.and_self, Bool.true_or, if_true]
theorem bMod (i j : Int) (h : 0 < j) : binD .mod (.int i) (.int j) = some (.int (i % j)) := by
  have : j ≠ 0 := by omega
  simp [R.bind, evSs, evS, evO, evOs, evI, asgT, asgTs, sSeq, sAsg, sIf, sRet, sEx, sAugSub, sAug, taken, tst, fVar, fGlo, fBin, fCmp, fCmp2, fNeg, fNot, fAnd, fOr, fIfe, fDsp, fIdx, fSli, fRev, fBi, fCall, fIsi, fMet, gVar, gSub, gTup, gCons, gNil, fsCons, ofD, look, Sl.get, Opd.rd, Opd.rdk, Opd.take, rds, rdks, takes, box, D.frz, D.frzs, D.kids, cmpD, inD, getD?, sliD, sliC, optI, truth, biD, Bi.copies, runF, outsOf, enter, augD, setD, atP, Exps.plain, binD, this, Int.fmod_eq_emod_of_nonneg _ (by omega : 0 ≤ j)]
theorem bDiv (i j : Int) (h : 0 < j) (h2 : j < 10 ^ 60) : binD .fdiv (.int i) (.int j) = some (.int (i / j)) := by
  simp only [binD, h, h2, and_self, if_true]
theorem bPow : binD .pow (.int 10) (.int 18) = some (.int (10 ^ 18)) := rfl
theorem bPow39 : binD .pow (.int 10) (.int 39) = some (.int (10 ^ 39)) := rfl
theorem bAddL (o p : Bool) (a b : List D) : binD .add (.lst o a) (.lst p b) = if D.fzs a && D.fzs b && decide (a.length + b.length ≤ line) then some (.lst true (a ++ b)) else none := rfl
theorem bAddS (a b : Str) : binD .add (.str a) (.str b) = if a.length + b.length ≤ line then some (.str (a ++ b)) else none := rfl
def env0 (a0 a1 a2 m : Int) (xs : List Int) : Z.Env := [.v (.lst true [.int a0, .int a1, .int a2, .lst false (xs.map .int)]), .v (.int m), .no, .no, .no, .no, .no]

theorem cutInts (a2 : Int) (xs : List Int) (hx : ∀ x ∈ xs, 0 ≤ x) (hl : xs.length ≤ 63) : ∃ ys : List Int, cutD (xs.map D.int) (some a2) none = ys.map .int ∧ (∀ y ∈ ys, 0 ≤ y) ∧ ys.length ≤ 63 := by
  refine ⟨(xs.drop (HT.sIx xs.length 0 (some a2))).take (HT.sIx xs.length xs.length none - HT.sIx xs.length 0 (some a2)), ?_, ?_, ?_⟩
  · simp [R.bind, evSs, evS, evO, evOs, evI, asgT, asgTs, sSeq, sAsg, sIf, sRet, sEx, sAugSub, sAug, taken, tst, fVar, fGlo, fBin, fCmp, fCmp2, fNeg, fNot, fAnd, fOr, fIfe, fDsp, fIdx, fSli, fRev, fBi, fCall, fIsi, fMet, gVar, gSub, gTup, gCons, gNil, fsCons, ofD, look, Sl.get, Opd.rd, Opd.rdk, Opd.take, rds, rdks, takes, box, D.frz, D.frzs, D.kids, cmpD, inD, getD?, sliD, sliC, optI, truth, biD, Bi.copies, runF, outsOf, enter, augD, setD, atP, Exps.plain, bAddI, bMulR, bMulL, bMod, bDiv, bPow, bPow39, bAddL, bAddS, eqD_int, frzs_ints, fzs_ints, L2.atI, L2.ixN, D.fzs, D.fz, big, line, cutD, List.map_drop, List.map_take]
  · intro y hy; exact hx y (List.mem_of_mem_drop (List.mem_of_mem_take hy))
  · simp only [List.length_take, List.length_drop]; omega
theorem take1 (P : Prog) (cf : Nat → List D → C) (a0 a1 a2 m : Int) (xs : List Int) (hx : ∀ x ∈ xs, 0 ≤ x) (hl : xs.length ≤ 63) : ∃ c, 0 ≤ c ∧ evS P cf [0] (.asg (.var 2) (.idx (.bin .add (.sli (.idx (.var 0) (.cst (.int 3))) (.idx (.var 0) (.cst (.int 2))) (.cst .non)) (.lst (.cons (.cst (.int 0)) .nil))) (.cst (.int 0)))) (env0 a0 a1 a2 m xs) = .ok (.nx, (env0 a0 a1 a2 m xs).set 2 (.v (.int c))) := by
  obtain ⟨ys, h1, h2, h3⟩ := cutInts a2 xs hx hl
  have h4 : ys.length ≤ 1048575 := by omega
  cases ys with
  | nil => exact ⟨0, by omega, by simp [R.bind, evSs, evS, evO, evOs, evI, asgT, asgTs, sSeq, sAsg, sIf, sRet, sEx, sAugSub, sAug, taken, tst, fVar, fGlo, fBin, fCmp, fCmp2, fNeg, fNot, fAnd, fOr, fIfe, fDsp, fIdx, fSli, fRev, fBi, fCall, fIsi, fMet, gVar, gSub, gTup, gCons, gNil, fsCons, ofD, look, Sl.get, Opd.rd, Opd.rdk, Opd.take, rds, rdks, takes, box, D.frz, D.frzs, D.kids, cmpD, inD, getD?, sliD, sliC, optI, truth, biD, Bi.copies, runF, outsOf, enter, augD, setD, atP, Exps.plain, bAddI, bMulR, bMulL, bMod, bDiv, bPow, bPow39, bAddL, bAddS, eqD_int, frzs_ints, fzs_ints, L2.atI, L2.ixN, D.fzs, D.fz, big, line, env0, h1]⟩
  | cons y ys =>
    refine ⟨y, h2 y (List.mem_cons_self ..), ?_⟩
    simp only [List.map_cons] at h1
    simp only [List.length_cons] at h4
    have h5 : ys.length ≤ 1048574 := by omega
    have h6 : (0 : Int) < ys.length + 1 + 1 := by omega
    simp [R.bind, evSs, evS, evO, evOs, evI, asgT, asgTs, sSeq, sAsg, sIf, sRet, sEx, sAugSub, sAug, taken, tst, fVar, fGlo, fBin, fCmp, fCmp2, fNeg, fNot, fAnd, fOr, fIfe, fDsp, fIdx, fSli, fRev, fBi, fCall, fIsi, fMet, gVar, gSub, gTup, gCons, gNil, fsCons, ofD, look, Sl.get, Opd.rd, Opd.rdk, Opd.take, rds, rdks, takes, box, D.frz, D.frzs, D.kids, cmpD, inD, getD?, sliD, sliC, optI, truth, biD, Bi.copies, runF, outsOf, enter, augD, setD, atP, Exps.plain, bAddI, bMulR, bMulL, bMod, bDiv, bPow, bPow39, bAddL, bAddS, eqD_int, frzs_ints, fzs_ints, L2.atI, L2.ixN, D.fzs, D.fz, big, line, env0, h1, h5, h6]
def env1 (a0 a1 a2 m c : Int) (xs : List Int) : Z.Env := [.v (.lst true [.int a0, .int a1, .int a2, .lst false (xs.map .int)]), .v (.int m), .v (.int c), .no, .no, .no, .no]
theorem take2 (P : Prog) (cf : Nat → List D → C) (a0 a1 a2 m c : Int) (xs : List Int) : evS P cf [0] (.aug (.sub 0 .nil (.cst (.int 2))) .add (.cst (.int 1))) (env1 a0 a1 a2 m c xs) = .ok (.nx, env1 a0 a1 (a2 + 1) m c xs) := by
  simp [R.bind, evSs, evS, evO, evOs, evI, asgT, asgTs, sSeq, sAsg, sIf, sRet, sEx, sAugSub, sAug, taken, tst, fVar, fGlo, fBin, fCmp, fCmp2, fNeg, fNot, fAnd, fOr, fIfe, fDsp, fIdx, fSli, fRev, fBi, fCall, fIsi, fMet, gVar, gSub, gTup, gCons, gNil, fsCons, ofD, look, Sl.get, Opd.rd, Opd.rdk, Opd.take, rds, rdks, takes, box, D.frz, D.frzs, D.kids, cmpD, inD, getD?, sliD, sliC, optI, truth, biD, Bi.copies, runF, outsOf, enter, augD, setD, atP, Exps.plain, bAddI, bMulR, bMulL, bMod, bDiv, bPow, bPow39, bAddL, bAddS, eqD_int, frzs_ints, fzs_ints, L2.atI, L2.ixN, D.fzs, D.fz, big, line, env1]
theorem take3 (P : Prog) (cf : Nat → List D → C) (a0 a1 a2 m c : Int) (xs : List Int) (hc : 0 ≤ c) : ∃ b, 0 ≤ b ∧ evS P cf [0] (.asg (.sub 0 .nil (.cst (.int 0))) (.bin .mul (.var 2) (.bi .int (.cons (.cmp .ge (.var 2) (.bin .pow (.cst (.int 10)) (.cst (.int 18)))) .nil)))) (env1 a0 a1 a2 m c xs) = .ok (.nx, env1 b a1 a2 m c xs) := by
  by_cases h : (10 : Int) ^ 18 ≤ c
  · exact ⟨c, hc, by simp [R.bind, evSs, evS, evO, evOs, evI, asgT, asgTs, sSeq, sAsg, sIf, sRet, sEx, sAugSub, sAug, taken, tst, fVar, fGlo, fBin, fCmp, fCmp2, fNeg, fNot, fAnd, fOr, fIfe, fDsp, fIdx, fSli, fRev, fBi, fCall, fIsi, fMet, gVar, gSub, gTup, gCons, gNil, fsCons, ofD, look, Sl.get, Opd.rd, Opd.rdk, Opd.take, rds, rdks, takes, box, D.frz, D.frzs, D.kids, cmpD, inD, getD?, sliD, sliC, optI, truth, biD, Bi.copies, runF, outsOf, enter, augD, setD, atP, Exps.plain, bAddI, bMulR, bMulL, bMod, bDiv, bPow, bPow39, bAddL, bAddS, eqD_int, frzs_ints, fzs_ints, L2.atI, L2.ixN, D.fzs, D.fz, big, line] at h; simp [R.bind, evSs, evS, evO, evOs, evI, asgT, asgTs, sSeq, sAsg, sIf, sRet, sEx, sAugSub, sAug, taken, tst, fVar, fGlo, fBin, fCmp, fCmp2, fNeg, fNot, fAnd, fOr, fIfe, fDsp, fIdx, fSli, fRev, fBi, fCall, fIsi, fMet, gVar, gSub, gTup, gCons, gNil, fsCons, ofD, look, Sl.get, Opd.rd, Opd.rdk, Opd.take, rds, rdks, takes, box, D.frz, D.frzs, D.kids, cmpD, inD, getD?, sliD, sliC, optI, truth, biD, Bi.copies, runF, outsOf, enter, augD, setD, atP, Exps.plain, bAddI, bMulR, bMulL, bMod, bDiv, bPow, bPow39, bAddL, bAddS, eqD_int, frzs_ints, fzs_ints, L2.atI, L2.ixN, D.fzs, D.fz, big, line, env1, h]⟩
  · exact ⟨0, by omega, by simp [R.bind, evSs, evS, evO, evOs, evI, asgT, asgTs, sSeq, sAsg, sIf, sRet, sEx, sAugSub, sAug, taken, tst, fVar, fGlo, fBin, fCmp, fCmp2, fNeg, fNot, fAnd, fOr, fIfe, fDsp, fIdx, fSli, fRev, fBi, fCall, fIsi, fMet, gVar, gSub, gTup, gCons, gNil, fsCons, ofD, look, Sl.get, Opd.rd, Opd.rdk, Opd.take, rds, rdks, takes, box, D.frz, D.frzs, D.kids, cmpD, inD, getD?, sliD, sliC, optI, truth, biD, Bi.copies, runF, outsOf, enter, augD, setD, atP, Exps.plain, bAddI, bMulR, bMulL, bMod, bDiv, bPow, bPow39, bAddL, bAddS, eqD_int, frzs_ints, fzs_ints, L2.atI, L2.ixN, D.fzs, D.fz, big, line] at h; simp [R.bind, evSs, evS, evO, evOs, evI, asgT, asgTs, sSeq, sAsg, sIf, sRet, sEx, sAugSub, sAug, taken, tst, fVar, fGlo, fBin, fCmp, fCmp2, fNeg, fNot, fAnd, fOr, fIfe, fDsp, fIdx, fSli, fRev, fBi, fCall, fIsi, fMet, gVar, gSub, gTup, gCons, gNil, fsCons, ofD, look, Sl.get, Opd.rd, Opd.rdk, Opd.take, rds, rdks, takes, box, D.frz, D.frzs, D.kids, cmpD, inD, getD?, sliD, sliC, optI, truth, biD, Bi.copies, runF, outsOf, enter, augD, setD, atP, Exps.plain, bAddI, bMulR, bMulL, bMod, bDiv, bPow, bPow39, bAddL, bAddS, eqD_int, frzs_ints, fzs_ints, L2.atI, L2.ixN, D.fzs, D.fz, big, line, env1, Int.not_le.2 h]⟩
theorem take4 (P : Prog) (cf : Nat → List D → C) (a0 a1 a2 m c : Int) (xs : List Int) : ∃ b, evS P cf [0] (.asg (.var 3) (.bin .add (.bin .add (.bin .mul (.idx (.var 0) (.cst (.int 1))) (.cst (.int 48271))) (.bin .mod (.bi .int (.cons (.var 2) .nil)) (.cst (.int 2147483647)))) (.bin .mul (.cst (.int 7919)) (.idx (.var 0) (.cst (.int 2)))))) (env1 a0 a1 a2 m c xs) = .ok (.nx, (env1 a0 a1 a2 m c xs).set 3 (.v (.int b))) := by
  exact ⟨_, by simp [R.bind, evSs, evS, evO, evOs, evI, asgT, asgTs, sSeq, sAsg, sIf, sRet, sEx, sAugSub, sAug, taken, tst, fVar, fGlo, fBin, fCmp, fCmp2, fNeg, fNot, fAnd, fOr, fIfe, fDsp, fIdx, fSli, fRev, fBi, fCall, fIsi, fMet, gVar, gSub, gTup, gCons, gNil, fsCons, ofD, look, Sl.get, Opd.rd, Opd.rdk, Opd.take, rds, rdks, takes, box, D.frz, D.frzs, D.kids, cmpD, inD, getD?, sliD, sliC, optI, truth, biD, Bi.copies, runF, outsOf, enter, augD, setD, atP, Exps.plain, bAddI, bMulR, bMulL, bMod, bDiv, bPow, bPow39, bAddL, bAddS, eqD_int, frzs_ints, fzs_ints, L2.atI, L2.ixN, D.fzs, D.fz, big, line, env1]; rfl⟩
theorem take5 (P : Prog) (cf : Nat → List D → C) (a0 a1 a2 m c b : Int) (xs : List Int) : ∃ d, 0 ≤ d ∧ d < 2147483647 ∧ evS P cf [0] (.asg (.sub 0 .nil (.cst (.int 1))) (.bin .mod (.bi .int (.cons (.var 3) .nil)) (.cst (.int 2147483647)))) ((env1 a0 a1 a2 m c xs).set 3 (.v (.int b))) = .ok (.nx, (env1 a0 d a2 m c xs).set 3 (.v (.int b))) := by
  refine ⟨b % 2147483647, ?_, ?_, by simp [R.bind, evSs, evS, evO, evOs, evI, asgT, asgTs, sSeq, sAsg, sIf, sRet, sEx, sAugSub, sAug, taken, tst, fVar, fGlo, fBin, fCmp, fCmp2, fNeg, fNot, fAnd, fOr, fIfe, fDsp, fIdx, fSli, fRev, fBi, fCall, fIsi, fMet, gVar, gSub, gTup, gCons, gNil, fsCons, ofD, look, Sl.get, Opd.rd, Opd.rdk, Opd.take, rds, rdks, takes, box, D.frz, D.frzs, D.kids, cmpD, inD, getD?, sliD, sliC, optI, truth, biD, Bi.copies, runF, outsOf, enter, augD, setD, atP, Exps.plain, bAddI, bMulR, bMulL, bMod, bDiv, bPow, bPow39, bAddL, bAddS, eqD_int, frzs_ints, fzs_ints, L2.atI, L2.ixN, D.fzs, D.fz, big, line, env1]⟩ <;> omega
def envG (a0 a1 a2 m : Int) (xs : List Int) (s2 s3 s4 s5 s6 : Sl) : Z.Env := [.v (.lst true [.int a0, .int a1, .int a2, .lst false (xs.map .int)]), .v (.int m), s2, s3, s4, s5, s6]
theorem take6 (P : Prog) (cf : Nat → List D → C) (a0 a1 a2 m : Int) (xs : List Int) (s2 s3 s4 s5 s6 : Sl) (h : 0 < a0) (hm : 0 < m) (hm2 : m < 10 ^ 60) :
  evS P cf [0] (.ifS (.cmp .gt (.idx (.var 0) (.cst (.int 0))) (.cst (.int 0))) (.cons (.asg (.tup (.cons (.var 4) (.cons (.sub 0 .nil (.cst (.int 0))) .nil))) (.tup (.cons (.bin .mod (.bi .int (.cons (.idx (.var 0) (.cst (.int 0))) .nil)) (.var 1)) (.cons (.bin .fdiv (.bi .int (.cons (.idx (.var 0) (.cst (.int 0))) .nil)) (.var 1)) .nil))))
    (.cons (.ret (.var 4))
    .nil)) .nil) (envG a0 a1 a2 m xs s2 s3 s4 s5 s6) = .ok (.rt (.int (a0 % m)), envG (a0 / m) a1 a2 m xs s2 s3 .no s5 s6) := by
  simp [R.bind, evSs, evS, evO, evOs, evI, asgT, asgTs, sSeq, sAsg, sIf, sRet, sEx, sAugSub, sAug, taken, tst, fVar, fGlo, fBin, fCmp, fCmp2, fNeg, fNot, fAnd, fOr, fIfe, fDsp, fIdx, fSli, fRev, fBi, fCall, fIsi, fMet, gVar, gSub, gTup, gCons, gNil, fsCons, ofD, look, Sl.get, Opd.rd, Opd.rdk, Opd.take, rds, rdks, takes, box, D.frz, D.frzs, D.kids, cmpD, inD, getD?, sliD, sliC, optI, truth, biD, Bi.copies, runF, outsOf, enter, augD, setD, atP, Exps.plain, bAddI, bMulR, bMulL, bMod, bDiv, bPow, bPow39, bAddL, bAddS, eqD_int, frzs_ints, fzs_ints, L2.atI, L2.ixN, D.fzs, D.fz, big, line, envG, h, hm, bDiv _ _ hm hm2]
theorem take7 (P : Prog) (cf : Nat → List D → C) (a0 a1 a2 m : Int) (xs : List Int) (s2 s3 s4 s5 s6 : Sl) (h : ¬ 0 < a0) (b : Stms) :
  evS P cf [0] (.ifS (.cmp .gt (.idx (.var 0) (.cst (.int 0))) (.cst (.int 0))) b .nil) (envG a0 a1 a2 m xs s2 s3 s4 s5 s6) = .ok (.nx, envG a0 a1 a2 m xs s2 s3 s4 s5 s6) := by
  simp [R.bind, evSs, evS, evO, evOs, evI, asgT, asgTs, sSeq, sAsg, sIf, sRet, sEx, sAugSub, sAug, taken, tst, fVar, fGlo, fBin, fCmp, fCmp2, fNeg, fNot, fAnd, fOr, fIfe, fDsp, fIdx, fSli, fRev, fBi, fCall, fIsi, fMet, gVar, gSub, gTup, gCons, gNil, fsCons, ofD, look, Sl.get, Opd.rd, Opd.rdk, Opd.take, rds, rdks, takes, box, D.frz, D.frzs, D.kids, cmpD, inD, getD?, sliD, sliC, optI, truth, biD, Bi.copies, runF, outsOf, enter, augD, setD, atP, Exps.plain, bAddI, bMulR, bMulL, bMod, bDiv, bPow, bPow39, bAddL, bAddS, eqD_int, frzs_ints, fzs_ints, L2.atI, L2.ixN, D.fzs, D.fz, big, line, envG, h, Int.not_lt.1 h]
theorem take8 (P : Prog) (cf : Nat → List D → C) (a0 a1 a2 m : Int) (xs : List Int) (s2 s3 s4 s5 s6 : Sl) : ∃ c, 0 ≤ c ∧ c < 1000000007 ∧ 
  evS P cf [0] (.asg (.var 5) (.bin .mod (.bi .int (.cons (.bin .mul (.bin .add (.idx (.var 0) (.cst (.int 1))) (.cst (.int 1))) (.cst (.int 39373))) .nil)) (.cst (.int 1000000007)))) (envG a0 a1 a2 m xs s2 s3 s4 s5 s6) = .ok (.nx, envG a0 a1 a2 m xs s2 s3 s4 (.v (.int c)) s6) := by
  refine ⟨((a1 + 1) * 39373) % 1000000007, ?_, ?_, by simp [R.bind, evSs, evS, evO, evOs, evI, asgT, asgTs, sSeq, sAsg, sIf, sRet, sEx, sAugSub, sAug, taken, tst, fVar, fGlo, fBin, fCmp, fCmp2, fNeg, fNot, fAnd, fOr, fIfe, fDsp, fIdx, fSli, fRev, fBi, fCall, fIsi, fMet, gVar, gSub, gTup, gCons, gNil, fsCons, ofD, look, Sl.get, Opd.rd, Opd.rdk, Opd.take, rds, rdks, takes, box, D.frz, D.frzs, D.kids, cmpD, inD, getD?, sliD, sliC, optI, truth, biD, Bi.copies, runF, outsOf, enter, augD, setD, atP, Exps.plain, bAddI, bMulR, bMulL, bMod, bDiv, bPow, bPow39, bAddL, bAddS, eqD_int, frzs_ints, fzs_ints, L2.atI, L2.ixN, D.fzs, D.fz, big, line, envG]⟩ <;> omega
theorem take9 (P : Prog) (cf : Nat → List D → C) (a0 a1 a2 m c : Int) (xs : List Int) (s2 s3 s4 s6 : Sl) (h1 : 0 ≤ c) (h2 : c < 1000000007) : ∃ d, 
  evS P cf [0] (.asg (.var 6) (.bin .mod (.bi .int (.cons (.bin .mul (.bin .mod (.bi .int (.cons (.bin .mul (.var 5) (.var 5)) .nil)) (.cst (.int 998244353))) (.cst (.int 30011))) .nil)) (.cst (.int 998244353)))) (envG a0 a1 a2 m xs s2 s3 s4 (.v (.int c)) s6) = .ok (.nx, envG a0 a1 a2 m xs s2 s3 s4 (.v (.int c)) (.v (.int d))) := by
  exact ⟨((c * c % 998244353) * 30011) % 998244353, by simp [R.bind, evSs, evS, evO, evOs, evI, asgT, asgTs, sSeq, sAsg, sIf, sRet, sEx, sAugSub, sAug, taken, tst, fVar, fGlo, fBin, fCmp, fCmp2, fNeg, fNot, fAnd, fOr, fIfe, fDsp, fIdx, fSli, fRev, fBi, fCall, fIsi, fMet, gVar, gSub, gTup, gCons, gNil, fsCons, ofD, look, Sl.get, Opd.rd, Opd.rdk, Opd.take, rds, rdks, takes, box, D.frz, D.frzs, D.kids, cmpD, inD, getD?, sliD, sliC, optI, truth, biD, Bi.copies, runF, outsOf, enter, augD, setD, atP, Exps.plain, bAddI, bMulR, bMulL, bMod, bDiv, bPow, bPow39, bAddL, bAddS, eqD_int, frzs_ints, fzs_ints, L2.atI, L2.ixN, D.fzs, D.fz, big, line, envG, bMulR _ _ (by omega : -18446744073709551616 < c) (by omega)]⟩
theorem take10 (P : Prog) (cf : Nat → List D → C) (a0 a1 a2 m d : Int) (xs : List Int) (s2 s3 s4 s5 : Sl) (hm : 0 < m) : 
  evS P cf [0] (.ret (.bin .mod (.bi .int (.cons (.bin .fdiv (.var 6) (.cst (.int 7))) .nil)) (.var 1))) (envG a0 a1 a2 m xs s2 s3 s4 s5 (.v (.int d))) = .ok (.rt (.int (d / 7 % m)), envG a0 a1 a2 m xs s2 s3 s4 s5 (.v (.int d))) := by
  simp [R.bind, evSs, evS, evO, evOs, evI, asgT, asgTs, sSeq, sAsg, sIf, sRet, sEx, sAugSub, sAug, taken, tst, fVar, fGlo, fBin, fCmp, fCmp2, fNeg, fNot, fAnd, fOr, fIfe, fDsp, fIdx, fSli, fRev, fBi, fCall, fIsi, fMet, gVar, gSub, gTup, gCons, gNil, fsCons, ofD, look, Sl.get, Opd.rd, Opd.rdk, Opd.take, rds, rdks, takes, box, D.frz, D.frzs, D.kids, cmpD, inD, getD?, sliD, sliC, optI, truth, biD, Bi.copies, runF, outsOf, enter, augD, setD, atP, Exps.plain, bAddI, bMulR, bMulL, bMod, bDiv, bPow, bPow39, bAddL, bAddS, eqD_int, frzs_ints, fzs_ints, L2.atI, L2.ixN, D.fzs, D.fz, big, line, envG, hm]

theorem ifT {A : Ev} {B C : Eb} {env e : Z.Env} (h : tst A env = .ok (true, e)) : sIf A B C env = B e := by simp only [sIf, h, R.bind, if_true]
theorem ifF {A : Ev} {B C : Eb} {env e : Z.Env} (h : tst A env = .ok (false, e)) : sIf A B C env = C e := by
  simp only [sIf, h, R.bind]
  rfl
theorem seqN {A B : Eb} {env e : Z.Env} (h : A env = .ok (.nx, e)) : sSeq A B env = B e := by simp only [sSeq, h, R.bind]
theorem seqR {A B : Eb} {env e : Z.Env} {d : D} (h : A env = .ok (.rt d, e)) : sSeq A B env = .ok (.rt d, e) := by simp only [sSeq, h, R.bind]
def bagD (o : Bool) (a0 a1 a2 : Int) (xs : List Int) : D := .lst true [.int a0, .int a1, .int a2, .lst o (xs.map .int)]
theorem take0 (P : Prog) (cf : Nat → List D → C) (o : Bool) (a0 a1 a2 m : Int) (xs : List Int) : tst (evO P cf [0] (.cmp .eq (.idx (.var 0) (.cst (.int 0))) (.cst (.int 0)))) [.v (bagD o a0 a1 a2 xs), .v (.int m), .no, .no, .no, .no, .no] = .ok (decide (a0 = 0), env0 a0 a1 a2 m xs) := by
  simp [R.bind, evSs, evS, evO, evOs, evI, asgT, asgTs, sSeq, sAsg, sIf, sRet, sEx, sAugSub, sAug, taken, tst, fVar, fGlo, fBin, fCmp, fCmp2, fNeg, fNot, fAnd, fOr, fIfe, fDsp, fIdx, fSli, fRev, fBi, fCall, fIsi, fMet, gVar, gSub, gTup, gCons, gNil, fsCons, ofD, look, Sl.get, Opd.rd, Opd.rdk, Opd.take, rds, rdks, takes, box, D.frz, D.frzs, D.kids, cmpD, inD, getD?, sliD, sliC, optI, truth, biD, Bi.copies, runF, outsOf, enter, augD, setD, atP, Exps.plain, bAddI, bMulR, bMulL, bMod, bDiv, bPow, bPow39, bAddL, bAddS, eqD_int, frzs_ints, fzs_ints, L2.atI, L2.ixN, D.fzs, D.fz, big, line, env0, bagD]
theorem take_tail (P : Prog) (cf : Nat → List D → C) (a0 a1 a2 m : Int) (xs : List Int) (s2 s3 s4 s5 s6 : Sl) (b : Stms) (h0 : 0 ≤ a0) (hm : 0 < m) (hm2 : m < 10 ^ 60) : ∃ r b0 t4 t5 t6, 0 ≤ r ∧ r < m ∧ 0 ≤ b0 ∧ 
  evSs P cf [0] (.cons (.ifS (.cmp .gt (.idx (.var 0) (.cst (.int 0))) (.cst (.int 0))) (.cons (.asg (.tup (.cons (.var 4) (.cons (.sub 0 .nil (.cst (.int 0))) .nil))) (.tup (.cons (.bin .mod (.bi .int (.cons (.idx (.var 0) (.cst (.int 0))) .nil)) (.var 1)) (.cons (.bin .fdiv (.bi .int (.cons (.idx (.var 0) (.cst (.int 0))) .nil)) (.var 1)) .nil))))
    (.cons (.ret (.var 4))
    .nil)) .nil)
    (.cons (.asg (.var 5) (.bin .mod (.bi .int (.cons (.bin .mul (.bin .add (.idx (.var 0) (.cst (.int 1))) (.cst (.int 1))) (.cst (.int 39373))) .nil)) (.cst (.int 1000000007))))
    (.cons (.asg (.var 6) (.bin .mod (.bi .int (.cons (.bin .mul (.bin .mod (.bi .int (.cons (.bin .mul (.var 5) (.var 5)) .nil)) (.cst (.int 998244353))) (.cst (.int 30011))) .nil)) (.cst (.int 998244353))))
    (.cons (.ret (.bin .mod (.bi .int (.cons (.bin .fdiv (.var 6) (.cst (.int 7))) .nil)) (.var 1)))
    .nil)))) (envG a0 a1 a2 m xs s2 s3 s4 s5 s6) = .ok (.rt (.int r), envG b0 a1 a2 m xs s2 s3 t4 t5 t6) := by
  by_cases h : 0 < a0
  · refine ⟨a0 % m, a0 / m, .no, s5, s6, Int.emod_nonneg _ (by omega), Int.emod_lt_of_pos _ hm, Int.ediv_nonneg h0 (by omega), ?_⟩
    exact seqR (take6 P cf a0 a1 a2 m xs s2 s3 s4 s5 s6 h hm hm2)
  · obtain ⟨c, c1, c2, c3⟩ := take8 P cf a0 a1 a2 m xs s2 s3 s4 s5 s6
    obtain ⟨d, d1⟩ := take9 P cf a0 a1 a2 m c xs s2 s3 s4 s6 c1 c2
    refine ⟨d / 7 % m, a0, s4, .v (.int c), .v (.int d), Int.emod_nonneg _ (by omega), Int.emod_lt_of_pos _ hm, h0, ?_⟩
    refine (seqN (take7 P cf a0 a1 a2 m xs s2 s3 s4 s5 s6 h _)).trans ?_
    refine (seqN c3).trans ?_
    refine (seqN d1).trans ?_
    exact seqR (take10 P cf a0 a1 a2 m d xs s2 s3 s4 _ hm)
theorem take_body (P : Prog) (cf : Nat → List D → C) (o : Bool) (a0 a1 a2 m : Int) (xs : List Int) (hx : ∀ x ∈ xs, 0 ≤ x) (hl : xs.length ≤ 63) (h0 : 0 ≤ a0) (h1 : 0 ≤ a1 ∧ a1 < 2147483647) (hm : 0 < m) (hm2 : m < 10 ^ 60) : ∃ r b0 b1 b2 s2 s3 s4 s5 s6, 0 ≤ r ∧ r < m ∧ 0 ≤ b0 ∧ (0 ≤ b1 ∧ b1 < 2147483647) ∧ 
  evSs P cf [0] f7.body [.v (bagD o a0 a1 a2 xs), .v (.int m), .no, .no, .no, .no, .no] = .ok (.rt (.int r), envG b0 b1 b2 m xs s2 s3 s4 s5 s6) := by
  have t0 := take0 P cf o a0 a1 a2 m xs
  by_cases h : a0 = 0
  · obtain ⟨c, c1, c2⟩ := take1 P cf a0 a1 a2 m xs hx hl
    have c3 := take2 P cf a0 a1 a2 m c xs
    obtain ⟨b, b1, b2⟩ := take3 P cf a0 a1 (a2 + 1) m c xs c1
    obtain ⟨e, e1⟩ := take4 P cf b a1 (a2 + 1) m c xs
    obtain ⟨d, d1, d2, d3⟩ := take5 P cf b a1 (a2 + 1) m c e xs
    obtain ⟨r, b0, s4, s5, s6, r1, r2, r3, r4⟩ := take_tail P cf b d (a2 + 1) m xs (.v (.int c)) (.v (.int e)) .no .no .no .nil b1 hm hm2
    refine ⟨r, b0, d, a2 + 1, .v (.int c), .v (.int e), s4, s5, s6, r1, r2, r3, ⟨d1, d2⟩, ?_⟩
    refine (seqN ((ifT (t0.trans (by rw [decide_eq_true h]))).trans ?_)).trans r4
    refine (seqN c2).trans ?_
    refine (seqN c3).trans ?_
    refine (seqN b2).trans ?_
    refine (seqN e1).trans ?_
    exact seqN d3
  · obtain ⟨r, b0, s4, s5, s6, r1, r2, r3, r4⟩ := take_tail P cf a0 a1 a2 m xs .no .no .no .no .no .nil h0 hm hm2
    refine ⟨r, b0, a1, a2, .no, .no, s4, s5, s6, r1, r2, r3, h1, ?_⟩
    refine (seqN ((ifF (t0.trans (by rw [decide_eq_false h]))).trans ?_)).trans r4
    rfl
/-- the bag, as the law's own functions hand it on -/
def Bag (d : D) : Prop := ∃ o a0 a1 a2 xs, d = bagD o a0 a1 a2 xs ∧ (∀ x ∈ xs, 0 ≤ x) ∧ xs.length ≤ 63 ∧ 0 ≤ a0 ∧ (0 ≤ a1 ∧ a1 < 2147483647)
theorem take_ok (n : Nat) (d : D) (m : Int) (hd : Bag d) (hm : 0 < m) (hm2 : m < 10 ^ 60) : ∃ r d2, 0 ≤ r ∧ r < m ∧ Bag d2 ∧ callN txt.P txt.fs (n + 1) 7 [d, .int m] = .ok (.int r) [d2] := by
  obtain ⟨o, a0, a1, a2, xs, rfl, hx, hl, h0, h1⟩ := hd
  obtain ⟨r, b0, b1, b2, s2, s3, s4, s5, s6, r1, r2, r3, r4, r5⟩ := take_body txt.P (callN txt.P txt.fs n) o a0 a1 a2 m xs hx hl h0 h1 hm hm2
  refine ⟨r, bagD false b0 b1 b2 xs, r1, r2, ⟨_, _, _, _, _, rfl, hx, hl, r3, r4⟩, ?_⟩
  show runF f7 (evSs txt.P (callN txt.P txt.fs n) [0] f7.body [.v (bagD o a0 a1 a2 xs), .v (.int m), .no, .no, .no, .no, .no]) = _
  rw [r5]
  rfl
end Law

set_option Elab.async false
set_option linter.all false
set_option maxRecDepth 100000
set_option maxHeartbeats 400000
namespace Law
open Z PySem
theorem m0 : txt.P.mode[0]?.getD [] = [0] := rfl
theorem m1 : txt.P.mode[1]?.getD [] = [0] := rfl
theorem m2 : txt.P.mode[2]?.getD [] = [0, 0, 0] := rfl
theorem m3 : txt.P.mode[3]?.getD [] = [0] := rfl
theorem m4 : txt.P.mode[4]?.getD [] = [0] := rfl
theorem m5 : txt.P.mode[5]?.getD [] = [0] := rfl
theorem m6 : txt.P.mode[6]?.getD [] = [0] := rfl
theorem m7 : txt.P.mode[7]?.getD [] = [1, 0] := rfl
theorem m8 : txt.P.mode[8]?.getD [] = [0, 0] := rfl
theorem m9 : txt.P.mode[9]?.getD [] = [1, 0] := rfl
theorem m10 : txt.P.mode[10]?.getD [] = [1] := rfl
theorem m11 : txt.P.mode[11]?.getD [] = [0] := rfl
theorem m12 : txt.P.mode[12]?.getD [] = [0] := rfl
theorem m13 : txt.P.mode[13]?.getD [] = [0, 0] := rfl
theorem m14 : txt.P.mode[14]?.getD [] = [0] := rfl
theorem m15 : txt.P.mode[15]?.getD [] = [0] := rfl
theorem m16 : txt.P.mode[16]?.getD [] = [1] := rfl
theorem m17 : txt.P.mode[17]?.getD [] = [1, 0] := rfl
theorem m18 : txt.P.mode[18]?.getD [] = [1, 0] := rfl
theorem m19 : txt.P.mode[19]?.getD [] = [1, 0, 0] := rfl
theorem m20 : txt.P.mode[20]?.getD [] = [1] := rfl
theorem m21 : txt.P.mode[21]?.getD [] = [0] := rfl
theorem one_lst (n : Nat) (d : D) (o : Bool) (xs : List D) (hd : Bag d) (hx : 0 < xs.length) (hx2 : xs.length ≤ 1000) : ∃ x d2, x ∈ D.frzs xs ∧ Bag d2 ∧ callN txt.P txt.fs (n + 2) 9 [d, .lst o xs] = .ok x [d2] := by
  obtain ⟨r, d2, r1, r2, r3, r4⟩ := take_ok n d xs.length hd (by omega) (by omega)
  have hl : (D.frzs xs).length = xs.length := by
    have : ∀ ys : List D, (D.frzs ys).length = ys.length := by
      intro ys; induction ys with
      | nil => rfl
      | cons y ys ih => simp [R.bind, evSs, evS, evO, evOs, evI, asgT, asgTs, sSeq, sAsg, sIf, sRet, sEx, sAugSub, sAug, taken, tst, fVar, fGlo, fBin, fCmp, fCmp2, fNeg, fNot, fAnd, fOr, fIfe, fDsp, fIdx, fSli, fRev, fBi, fCall, fIsi, fMet, gVar, gSub, gTup, gCons, gNil, fsCons, ofD, look, Sl.get, Opd.rd, Opd.rdk, Opd.take, rds, rdks, takes, box, D.frz, D.frzs, D.kids, cmpD, inD, getD?, sliD, sliC, optI, truth, biD, Bi.copies, runF, outsOf, enter, augD, setD, atP, Exps.plain, bAddI, bMulR, bMulL, bMod, bDiv, bPow, bPow39, bAddL, bAddS, eqD_int, frzs_ints, fzs_ints, L2.atI, L2.ixN, D.fzs, D.fz, big, line, callF, prep, back, m0, m1, m2, m3, m4, m5, m6, m7, m8, m9, m10, m11, m12, m13, m14, m15, m16, m17, m18, m19, m20, m21, ih]
    exact this xs
  have hr : r.toNat < (D.frzs xs).length := by omega
  refine ⟨(D.frzs xs)[r.toNat], d2, List.getElem_mem hr, r3, ?_⟩
  show runF f9 (evSs txt.P (callN txt.P txt.fs (n + 1)) [0] f9.body [.v d, .v (.lst o xs)]) = _
  have h2 : r < ((D.frzs xs).length : Int) := by omega
  have h3 : (D.frzs xs)[r.toNat]? = some (D.frzs xs)[r.toNat] := List.getElem?_eq_getElem hr
  simp [R.bind, evSs, evS, evO, evOs, evI, asgT, asgTs, sSeq, sAsg, sIf, sRet, sEx, sAugSub, sAug, taken, tst, fVar, fGlo, fBin, fCmp, fCmp2, fNeg, fNot, fAnd, fOr, fIfe, fDsp, fIdx, fSli, fRev, fBi, fCall, fIsi, fMet, gVar, gSub, gTup, gCons, gNil, fsCons, ofD, look, Sl.get, Opd.rd, Opd.rdk, Opd.take, rds, rdks, takes, box, D.frz, D.frzs, D.kids, cmpD, inD, getD?, sliD, sliC, optI, truth, biD, Bi.copies, runF, outsOf, enter, augD, setD, atP, Exps.plain, bAddI, bMulR, bMulL, bMod, bDiv, bPow, bPow39, bAddL, bAddS, eqD_int, frzs_ints, fzs_ints, L2.atI, L2.ixN, D.fzs, D.fz, big, line, callF, prep, back, m0, m1, m2, m3, m4, m5, m6, m7, m8, m9, m10, m11, m12, m13, m14, m15, m16, m17, m18, m19, m20, m21, f9, r4, r1, h2, h3]

theorem one_str (n : Nat) (d : D) (s : Str) (hd : Bag d) (hx : 0 < s.length) (hx2 : s.length ≤ 1000) : ∃ c d2, c ∈ s.cps.toList ∧ Bag d2 ∧ callN txt.P txt.fs (n + 2) 9 [d, .str s] = .ok (.str ⟨#[c]⟩) [d2] := by
  obtain ⟨r, d2, r1, r2, r3, r4⟩ := take_ok n d s.length hd (by omega) (by omega)
  have hl : s.cps.toList.length = s.length := rfl
  have hr : r.toNat < s.cps.toList.length := by omega
  refine ⟨s.cps.toList[r.toNat], d2, List.getElem_mem hr, r3, ?_⟩
  show runF f9 (evSs txt.P (callN txt.P txt.fs (n + 1)) [0] f9.body [.v d, .v (.str s)]) = _
  have h2 : r < ((s.cps.size : Nat) : Int) := r2
  have h3 : s.cps[r.toNat]? = some s.cps.toList[r.toNat] := by
    rw [← Array.getElem?_toList]; exact List.getElem?_eq_getElem hr
  have h4 : s.length ≤ 1048576 := by omega
  simp [R.bind, evSs, evS, evO, evOs, evI, asgT, asgTs, sSeq, sAsg, sIf, sRet, sEx, sAugSub, sAug, taken, tst, fVar, fGlo, fBin, fCmp, fCmp2, fNeg, fNot, fAnd, fOr, fIfe, fDsp, fIdx, fSli, fRev, fBi, fCall, fIsi, fMet, gVar, gSub, gTup, gCons, gNil, fsCons, ofD, look, Sl.get, Opd.rd, Opd.rdk, Opd.take, rds, rdks, takes, box, D.frz, D.frzs, D.kids, cmpD, inD, getD?, sliD, sliC, optI, truth, biD, Bi.copies, runF, outsOf, enter, augD, setD, atP, Exps.plain, bAddI, bMulR, bMulL, bMod, bDiv, bPow, bPow39, bAddL, bAddS, eqD_int, frzs_ints, fzs_ints, L2.atI, L2.ixN, D.fzs, D.fz, big, line, callF, prep, back, m0, m1, m2, m3, m4, m5, m6, m7, m8, m9, m10, m11, m12, m13, m14, m15, m16, m17, m18, m19, m20, m21, f9, r4, r1, h2, h3, h4]
end Law

set_option Elab.async false
set_option linter.all false
set_option maxRecDepth 100000
set_option maxHeartbeats 1000000
namespace Law
open Z PySem
theorem b39 : binD .pow (.int 10) (.int 39) = some (.int 1000000000000000000000000000000000000000) := rfl
theorem k1 : okKV [] = true := by decide +kernel
theorem k2 : okKV [(.str (Str.ofString "a"), .int 1)] = true := by decide +kernel
theorem k3 : okKV [(.tup [.str (Str.ofString "a")], .int 1)] = true := by decide +kernel
theorem k4 : okKV [(.int 1, .tup [.str (Str.ofString "a")])] = true := by decide +kernel
/-- the odd things -/
def o1 : List D := [.non, .bl true, .bl false, .int 0, .int 1, .int 7, .int (-1), .int 1000000000000000000000000000000000000000, .int (-1000000000000000000000000000000000000000), .str "", .str "a", .str "A", .str "if", .str "tell", .str "yes", .str "no", .str "a1", .str " "]
def o2 : List D := [.str "a\n", .str "abcdefghi", .tup [], .lst false [], .dic false [], .tup [.str "a"], .lst false [.str "a"], .tup [.str "A"], .tup [.str "if"], .tup [.str "a", .str "b"], .tup [.tup [.str "a"]], .tup [.str "a", .int 0]]
def o3 : List D := [.tup [.str "a", .lst false [.str "b"]], .tup [.str "tell"], .tup [.str "yes", .str "no"], .lst false [.str "yes"], .tup [.str "alike", .tup [.str "a"]], .dic false [(.str "a", .int 1)], .dic false [(.tup [.str "a"], .int 1)], .tup [.non]]
def o4 : List D := [.lst false [.lst false []], .dic false [(.int 1, .tup [.str "a"])]]
theorem odd0 (cf : Nat → List D → C) (d : D) : evS txt.P cf [0] (.asg (.var 1) (.lst (.cons (.cst .non) (.cons (.cst (.bl true)) (.cons (.cst (.bl false)) (.cons (.cst (.int 0)) (.cons (.cst (.int 1)) (.cons (.cst (.int 7)) (.cons (.neg (.cst (.int 1))) (.cons (.bin .pow (.cst (.int 10)) (.cst (.int 39))) (.cons (.neg (.bin .pow (.cst (.int 10)) (.cst (.int 39)))) (.cons (.cst (.str "")) (.cons (.cst (.str "a")) (.cons (.cst (.str "A")) (.cons (.cst (.str "if")) (.cons (.cst (.str "tell")) (.cons (.cst (.str "yes")) (.cons (.cst (.str "no")) (.cons (.cst (.str "a1")) (.cons (.cst (.str " ")) .nil)))))))))))))))))))) [.v d, .no] = .ok (.nx, [.v d, .v (.lst true o1)]) := by
  simp [R.bind, evSs, evS, evO, evOs, evI, asgT, asgTs, sSeq, sAsg, sIf, sRet, sEx, sAugSub, sAug, taken, tst, fVar, fGlo, fBin, fCmp, fCmp2, fNeg, fNot, fAnd, fOr, fIfe, fDsp, fIdx, fSli, fRev, fBi, fCall, fIsi, fMet, gVar, gSub, gTup, gCons, gNil, fsCons, ofD, look, Sl.get, Opd.rd, Opd.rdk, Opd.take, rds, rdks, takes, box, D.frz, D.frzs, D.kids, cmpD, inD, getD?, sliD, sliC, optI, truth, biD, Bi.copies, runF, outsOf, enter, augD, setD, atP, Exps.plain, bAddI, bMulR, bMulL, bMod, bDiv, bPow, bPow39, bAddL, bAddS, eqD_int, frzs_ints, fzs_ints, L2.atI, L2.ixN, D.fzs, D.fz, big, line, callF, prep, back, m0, m1, m2, m3, m4, m5, m6, m7, m8, m9, m10, m11, m12, m13, m14, m15, m16, m17, m18, m19, m20, m21, k1, k2, k3, k4, b39, o1, o2, o3, o4, fDct, evKV, unflat, D.frzk, D.fzk]
theorem odd1 (cf : Nat → List D → C) (d : D) : evS txt.P cf [0] (.asg (.var 1) (.bin .add (.var 1) (.lst (.cons (.cst (.str "a\n")) (.cons (.cst (.str "abcdefghi")) (.cons (.tup .nil) (.cons (.lst .nil) (.cons (.dct .nil) (.cons (.tup (.cons (.cst (.str "a")) .nil)) (.cons (.lst (.cons (.cst (.str "a")) .nil)) (.cons (.tup (.cons (.cst (.str "A")) .nil)) (.cons (.tup (.cons (.cst (.str "if")) .nil)) (.cons (.tup (.cons (.cst (.str "a")) (.cons (.cst (.str "b")) .nil))) (.cons (.tup (.cons (.tup (.cons (.cst (.str "a")) .nil)) .nil)) (.cons (.tup (.cons (.cst (.str "a")) (.cons (.cst (.int 0)) .nil))) .nil))))))))))))))) [.v d, .v (.lst true o1)] = .ok (.nx, [.v d, .v (.lst true (o1 ++ o2))]) := by
  simp [R.bind, evSs, evS, evO, evOs, evI, asgT, asgTs, sSeq, sAsg, sIf, sRet, sEx, sAugSub, sAug, taken, tst, fVar, fGlo, fBin, fCmp, fCmp2, fNeg, fNot, fAnd, fOr, fIfe, fDsp, fIdx, fSli, fRev, fBi, fCall, fIsi, fMet, gVar, gSub, gTup, gCons, gNil, fsCons, ofD, look, Sl.get, Opd.rd, Opd.rdk, Opd.take, rds, rdks, takes, box, D.frz, D.frzs, D.kids, cmpD, inD, getD?, sliD, sliC, optI, truth, biD, Bi.copies, runF, outsOf, enter, augD, setD, atP, Exps.plain, bAddI, bMulR, bMulL, bMod, bDiv, bPow, bPow39, bAddL, bAddS, eqD_int, frzs_ints, fzs_ints, L2.atI, L2.ixN, D.fzs, D.fz, big, line, callF, prep, back, m0, m1, m2, m3, m4, m5, m6, m7, m8, m9, m10, m11, m12, m13, m14, m15, m16, m17, m18, m19, m20, m21, k1, k2, k3, k4, b39, o1, o2, o3, o4, fDct, evKV, unflat, D.frzk, D.fzk]
theorem odd2 (cf : Nat → List D → C) (d : D) : evS txt.P cf [0] (.asg (.var 1) (.bin .add (.var 1) (.lst (.cons (.tup (.cons (.cst (.str "a")) (.cons (.lst (.cons (.cst (.str "b")) .nil)) .nil))) (.cons (.tup (.cons (.cst (.str "tell")) .nil)) (.cons (.tup (.cons (.cst (.str "yes")) (.cons (.cst (.str "no")) .nil))) (.cons (.lst (.cons (.cst (.str "yes")) .nil)) (.cons (.tup (.cons (.cst (.str "alike")) (.cons (.tup (.cons (.cst (.str "a")) .nil)) .nil))) (.cons (.dct (.cons (.cst (.str "a")) (.cst (.int 1)) .nil)) (.cons (.dct (.cons (.tup (.cons (.cst (.str "a")) .nil)) (.cst (.int 1)) .nil)) (.cons (.tup (.cons (.cst .non) .nil)) .nil))))))))))) [.v d, .v (.lst true (o1 ++ o2))] = .ok (.nx, [.v d, .v (.lst true (o1 ++ o2 ++ o3))]) := by
  simp [R.bind, evSs, evS, evO, evOs, evI, asgT, asgTs, sSeq, sAsg, sIf, sRet, sEx, sAugSub, sAug, taken, tst, fVar, fGlo, fBin, fCmp, fCmp2, fNeg, fNot, fAnd, fOr, fIfe, fDsp, fIdx, fSli, fRev, fBi, fCall, fIsi, fMet, gVar, gSub, gTup, gCons, gNil, fsCons, ofD, look, Sl.get, Opd.rd, Opd.rdk, Opd.take, rds, rdks, takes, box, D.frz, D.frzs, D.kids, cmpD, inD, getD?, sliD, sliC, optI, truth, biD, Bi.copies, runF, outsOf, enter, augD, setD, atP, Exps.plain, bAddI, bMulR, bMulL, bMod, bDiv, bPow, bPow39, bAddL, bAddS, eqD_int, frzs_ints, fzs_ints, L2.atI, L2.ixN, D.fzs, D.fz, big, line, callF, prep, back, m0, m1, m2, m3, m4, m5, m6, m7, m8, m9, m10, m11, m12, m13, m14, m15, m16, m17, m18, m19, m20, m21, k1, k2, k3, k4, b39, o1, o2, o3, o4, fDct, evKV, unflat, D.frzk, D.fzk]
theorem odd3 (cf : Nat → List D → C) (d : D) : evS txt.P cf [0] (.asg (.var 1) (.bin .add (.var 1) (.lst (.cons (.lst (.cons (.lst .nil) .nil)) (.cons (.dct (.cons (.cst (.int 1)) (.tup (.cons (.cst (.str "a")) .nil)) .nil)) .nil))))) [.v d, .v (.lst true (o1 ++ o2 ++ o3))] = .ok (.nx, [.v d, .v (.lst true (o1 ++ o2 ++ o3 ++ o4))]) := by
  simp [R.bind, evSs, evS, evO, evOs, evI, asgT, asgTs, sSeq, sAsg, sIf, sRet, sEx, sAugSub, sAug, taken, tst, fVar, fGlo, fBin, fCmp, fCmp2, fNeg, fNot, fAnd, fOr, fIfe, fDsp, fIdx, fSli, fRev, fBi, fCall, fIsi, fMet, gVar, gSub, gTup, gCons, gNil, fsCons, ofD, look, Sl.get, Opd.rd, Opd.rdk, Opd.take, rds, rdks, takes, box, D.frz, D.frzs, D.kids, cmpD, inD, getD?, sliD, sliC, optI, truth, biD, Bi.copies, runF, outsOf, enter, augD, setD, atP, Exps.plain, bAddI, bMulR, bMulL, bMod, bDiv, bPow, bPow39, bAddL, bAddS, eqD_int, frzs_ints, fzs_ints, L2.atI, L2.ixN, D.fzs, D.fz, big, line, callF, prep, back, m0, m1, m2, m3, m4, m5, m6, m7, m8, m9, m10, m11, m12, m13, m14, m15, m16, m17, m18, m19, m20, m21, k1, k2, k3, k4, b39, o1, o2, o3, o4, fDct, evKV, unflat, D.frzk, D.fzk]
end Law

set_option Elab.async false
set_option linter.all false
set_option maxRecDepth 100000
set_option maxHeartbeats 100000
namespace Law
open Z PySem

@[irreducible] def odds : List D := o1 ++ o2 ++ o3 ++ o4
theorem odds_frz : D.frzs odds = odds := by simp [R.bind, evSs, evS, evO, evOs, evI, asgT, asgTs, sSeq, sAsg, sIf, sRet, sEx, sAugSub, sAug, taken, tst, fVar, fGlo, fBin, fCmp, fCmp2, fNeg, fNot, fAnd, fOr, fIfe, fDsp, fIdx, fSli, fRev, fBi, fCall, fIsi, fMet, gVar, gSub, gTup, gCons, gNil, fsCons, ofD, look, Sl.get, Opd.rd, Opd.rdk, Opd.take, rds, rdks, takes, box, D.frz, D.frzs, D.kids, cmpD, inD, getD?, sliD, sliC, optI, truth, biD, Bi.copies, runF, outsOf, enter, augD, setD, atP, Exps.plain, bAddI, bMulR, bMulL, bMod, bDiv, bPow, bPow39, bAddL, bAddS, eqD_int, frzs_ints, fzs_ints, L2.atI, L2.ixN, D.fzs, D.fz, big, line, callF, prep, back, m0, m1, m2, m3, m4, m5, m6, m7, m8, m9, m10, m11, m12, m13, m14, m15, m16, m17, m18, m19, m20, m21, odds, o1, o2, o3, o4, D.frzk]
theorem odds_len : odds.length = 40 := by simp [R.bind, evSs, evS, evO, evOs, evI, asgT, asgTs, sSeq, sAsg, sIf, sRet, sEx, sAugSub, sAug, taken, tst, fVar, fGlo, fBin, fCmp, fCmp2, fNeg, fNot, fAnd, fOr, fIfe, fDsp, fIdx, fSli, fRev, fBi, fCall, fIsi, fMet, gVar, gSub, gTup, gCons, gNil, fsCons, ofD, look, Sl.get, Opd.rd, Opd.rdk, Opd.take, rds, rdks, takes, box, D.frz, D.frzs, D.kids, cmpD, inD, getD?, sliD, sliC, optI, truth, biD, Bi.copies, runF, outsOf, enter, augD, setD, atP, Exps.plain, bAddI, bMulR, bMulL, bMod, bDiv, bPow, bPow39, bAddL, bAddS, eqD_int, frzs_ints, fzs_ints, L2.atI, L2.ixN, D.fzs, D.fz, big, line, callF, prep, back, m0, m1, m2, m3, m4, m5, m6, m7, m8, m9, m10, m11, m12, m13, m14, m15, m16, m17, m18, m19, m20, m21, odds, o1, o2, o3, o4]
theorem odds_eq : o1 ++ o2 ++ o3 ++ o4 = odds := by rw [odds]

theorem odd_body (cf : Nat → List D → C) (d d2 x : D) (h3 : cf 9 [d, .lst false odds] = .ok x [d2]) : evSs txt.P cf [0] f10.body [.v d, .no] = .ok (.rt x, [.v d2, .v (.lst false odds)]) := by
    simp only [f10, evSs]
    rw [seqN (odd0 _ d), seqN (odd1 _ d), seqN (odd2 _ d), seqN (odd3 _ d), odds_eq]
    refine seqR ?_
    simp [R.bind, evSs, evS, evO, evOs, evI, asgT, asgTs, sSeq, sAsg, sIf, sRet, sEx, sAugSub, sAug, taken, tst, fVar, fGlo, fBin, fCmp, fCmp2, fNeg, fNot, fAnd, fOr, fIfe, fDsp, fIdx, fSli, fRev, fBi, fCall, fIsi, fMet, gVar, gSub, gTup, gCons, gNil, fsCons, ofD, look, Sl.get, Opd.rd, Opd.rdk, Opd.take, rds, rdks, takes, box, D.frz, D.frzs, D.kids, cmpD, inD, getD?, sliD, sliC, optI, truth, biD, Bi.copies, runF, outsOf, enter, augD, setD, atP, Exps.plain, bAddI, bMulR, bMulL, bMod, bDiv, bPow, bPow39, bAddL, bAddS, eqD_int, frzs_ints, fzs_ints, L2.atI, L2.ixN, D.fzs, D.fz, big, line, callF, prep, back, m0, m1, m2, m3, m4, m5, m6, m7, m8, m9, m10, m11, m12, m13, m14, m15, m16, m17, m18, m19, m20, m21, odds_frz, h3]

theorem call_eq (P : Prog) (fs : List Fun) (n f : Nat) (ds : List D) (F : Fun) (h : fs[f]? = some F) (hl : ds.length = F.np) : callN P fs (n + 1) f ds = runF F (evSs P (callN P fs n) F.io F.body (enter (P.mode.getD f []) ds ++ List.replicate (F.ns - F.np) .no)) := by
  rw [callN, h]
  exact if_pos hl
theorem call6 (n : Nat) (d : D) : callN txt.P txt.fs (n + 1) 10 [d] = runF f10 (evSs txt.P (callN txt.P txt.fs n) [0] f10.body [.v d, .no]) := by
  have e : enter (txt.P.mode.getD 10 []) [d] ++ List.replicate (f10.ns - f10.np) Sl.no = [.v d, .no] := rfl
  have io : f10.io = [0] := rfl
  rw [call_eq txt.P txt.fs n 10 [d] f10 rfl rfl, e, io]

theorem odd_ok (n : Nat) (d : D) (hd : Bag d) : ∃ x d2, x ∈ odds ∧ Bag d2 ∧ callN txt.P txt.fs (n + 3) 10 [d] = .ok x [d2] := by
  obtain ⟨x, d2, h1, h2, h3⟩ := one_lst n d false odds hd (by rw [odds_len]; omega) (by rw [odds_len]; omega)
  rw [odds_frz] at h1
  refine ⟨x, d2, h1, h2, ?_⟩
  rw [call6, odd_body _ d d2 x h3]
  generalize hb : f10 = F
  have : F.io = [0] := by rw [← hb]; rfl
  simp [R.bind, evSs, evS, evO, evOs, evI, asgT, asgTs, sSeq, sAsg, sIf, sRet, sEx, sAugSub, sAug, taken, tst, fVar, fGlo, fBin, fCmp, fCmp2, fNeg, fNot, fAnd, fOr, fIfe, fDsp, fIdx, fSli, fRev, fBi, fCall, fIsi, fMet, gVar, gSub, gTup, gCons, gNil, fsCons, ofD, look, Sl.get, Opd.rd, Opd.rdk, Opd.take, rds, rdks, takes, box, D.frz, D.frzs, D.kids, cmpD, inD, getD?, sliD, sliC, optI, truth, biD, Bi.copies, runF, outsOf, enter, augD, setD, atP, Exps.plain, bAddI, bMulR, bMulL, bMod, bDiv, bPow, bPow39, bAddL, bAddS, eqD_int, frzs_ints, fzs_ints, L2.atI, L2.ixN, D.fzs, D.fz, big, line, callF, prep, back, m0, m1, m2, m3, m4, m5, m6, m7, m8, m9, m10, m11, m12, m13, m14, m15, m16, m17, m18, m19, m20, m21, this]
end Law

set_option Elab.async false
set_option linter.all false
set_option maxRecDepth 100000
set_option maxHeartbeats 400000
namespace Law
open Z PySem

def nms : List D := [.str "a", .str "b", .str "c", .str "f", .str "g", .str "x", .str "z", .str "ab", .str "ans", .str "iff", .str "gone", .str "tells", .str "withs", .str "abcdefgh", .str "zzzzzzzz"]
theorem name0 (cf : Nat → List D → C) (d : D) : evS txt.P cf [0] (.asg (.var 1) (.lst (.cons (.cst (.str "a")) (.cons (.cst (.str "b")) (.cons (.cst (.str "c")) (.cons (.cst (.str "f")) (.cons (.cst (.str "g")) (.cons (.cst (.str "x")) (.cons (.cst (.str "z")) (.cons (.cst (.str "ab")) (.cons (.cst (.str "ans")) (.cons (.cst (.str "iff")) (.cons (.cst (.str "gone")) (.cons (.cst (.str "tells")) (.cons (.cst (.str "withs")) (.cons (.cst (.str "abcdefgh")) (.cons (.cst (.str "zzzzzzzz")) .nil))))))))))))))))) [.v d, .no, .no] = .ok (.nx, [.v d, .v (.lst true nms), .no]) := by
  simp [R.bind, evSs, evS, evO, evOs, evI, asgT, asgTs, sSeq, sAsg, sIf, sRet, sEx, sAugSub, sAug, taken, tst, fVar, fGlo, fBin, fCmp, fCmp2, fNeg, fNot, fAnd, fOr, fIfe, fDsp, fIdx, fSli, fRev, fBi, fCall, fIsi, fMet, gVar, gSub, gTup, gCons, gNil, fsCons, ofD, look, Sl.get, Opd.rd, Opd.rdk, Opd.take, rds, rdks, takes, box, D.frz, D.frzs, D.kids, cmpD, inD, getD?, sliD, sliC, optI, truth, biD, Bi.copies, runF, outsOf, enter, augD, setD, atP, Exps.plain, bAddI, bMulR, bMulL, bMod, bDiv, bPow, bPow39, bAddL, bAddS, eqD_int, frzs_ints, fzs_ints, L2.atI, L2.ixN, D.fzs, D.fz, big, line, callF, prep, back, m0, m1, m2, m3, m4, m5, m6, m7, m8, m9, m10, m11, m12, m13, m14, m15, m16, m17, m18, m19, m20, m21, nms]
theorem nms_frz : D.frzs nms = nms := by simp [R.bind, evSs, evS, evO, evOs, evI, asgT, asgTs, sSeq, sAsg, sIf, sRet, sEx, sAugSub, sAug, taken, tst, fVar, fGlo, fBin, fCmp, fCmp2, fNeg, fNot, fAnd, fOr, fIfe, fDsp, fIdx, fSli, fRev, fBi, fCall, fIsi, fMet, gVar, gSub, gTup, gCons, gNil, fsCons, ofD, look, Sl.get, Opd.rd, Opd.rdk, Opd.take, rds, rdks, takes, box, D.frz, D.frzs, D.kids, cmpD, inD, getD?, sliD, sliC, optI, truth, biD, Bi.copies, runF, outsOf, enter, augD, setD, atP, Exps.plain, bAddI, bMulR, bMulL, bMod, bDiv, bPow, bPow39, bAddL, bAddS, eqD_int, frzs_ints, fzs_ints, L2.atI, L2.ixN, D.fzs, D.fz, big, line, callF, prep, back, m0, m1, m2, m3, m4, m5, m6, m7, m8, m9, m10, m11, m12, m13, m14, m15, m16, m17, m18, m19, m20, m21, nms]
theorem nms_len : nms.length = 15 := by simp [R.bind, evSs, evS, evO, evOs, evI, asgT, asgTs, sSeq, sAsg, sIf, sRet, sEx, sAugSub, sAug, taken, tst, fVar, fGlo, fBin, fCmp, fCmp2, fNeg, fNot, fAnd, fOr, fIfe, fDsp, fIdx, fSli, fRev, fBi, fCall, fIsi, fMet, gVar, gSub, gTup, gCons, gNil, fsCons, ofD, look, Sl.get, Opd.rd, Opd.rdk, Opd.take, rds, rdks, takes, box, D.frz, D.frzs, D.kids, cmpD, inD, getD?, sliD, sliC, optI, truth, biD, Bi.copies, runF, outsOf, enter, augD, setD, atP, Exps.plain, bAddI, bMulR, bMulL, bMod, bDiv, bPow, bPow39, bAddL, bAddS, eqD_int, frzs_ints, fzs_ints, L2.atI, L2.ixN, D.fzs, D.fz, big, line, callF, prep, back, m0, m1, m2, m3, m4, m5, m6, m7, m8, m9, m10, m11, m12, m13, m14, m15, m16, m17, m18, m19, m20, m21, nms]
/-- plain signs alone -/
def Asc (s : Str) : Prop := (s.cps.toList.all fun c => decide (c < 128)) = true
theorem asc_mem {s : Str} : Asc s ↔ ∀ c ∈ s.cps.toList, c < 128 := by
  simp only [Asc, List.all_eq_true, decide_eq_true_eq]
theorem asc_add {x y : Str} (hx : Asc x) (hy : Asc y) : Asc (x ++ y) := by
  rw [asc_mem] at *
  intro c hc
  have e : (x ++ y).cps.toList = x.cps.toList ++ y.cps.toList := by
    show (x.cps ++ y.cps).toList = _
    exact Array.toList_append
  rw [e] at hc
  rcases List.mem_append.1 hc with h | h
  · exact hx c h
  · exact hy c h
theorem asc_cut {x : Str} (hx : Asc x) (l h : Option Int) : Asc (L2.cutS x l h) := by
  rw [asc_mem] at *
  intro c hc
  exact hx c (List.mem_of_mem_drop (List.mem_of_mem_take hc))
theorem asc_rev {x : Str} (hx : Asc x) : Asc ⟨x.cps.reverse⟩ := by
  rw [asc_mem] at *
  intro c hc
  exact hx c (by simpa [R.bind, evSs, evS, evO, evOs, evI, asgT, asgTs, sSeq, sAsg, sIf, sRet, sEx, sAugSub, sAug, taken, tst, fVar, fGlo, fBin, fCmp, fCmp2, fNeg, fNot, fAnd, fOr, fIfe, fDsp, fIdx, fSli, fRev, fBi, fCall, fIsi, fMet, gVar, gSub, gTup, gCons, gNil, fsCons, ofD, look, Sl.get, Opd.rd, Opd.rdk, Opd.take, rds, rdks, takes, box, D.frz, D.frzs, D.kids, cmpD, inD, getD?, sliD, sliC, optI, truth, biD, Bi.copies, runF, outsOf, enter, augD, setD, atP, Exps.plain, bAddI, bMulR, bMulL, bMod, bDiv, bPow, bPow39, bAddL, bAddS, eqD_int, frzs_ints, fzs_ints, L2.atI, L2.ixN, D.fzs, D.fz, big, line, callF, prep, back, m0, m1, m2, m3, m4, m5, m6, m7, m8, m9, m10, m11, m12, m13, m14, m15, m16, m17, m18, m19, m20, m21] using hc)
open PyProof.Rows in
theorem asc_upper {x : Str} (hx : Asc x) : Asc (Txt.upper x) ∧ (Txt.upper x).length = x.length := by
  have h := asc_mem.1 hx
  rw [upper_ascii h]
  refine ⟨asc_mem.2 ?_, Array.size_map ..⟩
  intro c hc
  obtain ⟨d, hd, e⟩ : ∃ d, d ∈ x.cps.toList ∧ up1 d = c := by simpa [R.bind, evSs, evS, evO, evOs, evI, asgT, asgTs, sSeq, sAsg, sIf, sRet, sEx, sAugSub, sAug, taken, tst, fVar, fGlo, fBin, fCmp, fCmp2, fNeg, fNot, fAnd, fOr, fIfe, fDsp, fIdx, fSli, fRev, fBi, fCall, fIsi, fMet, gVar, gSub, gTup, gCons, gNil, fsCons, ofD, look, Sl.get, Opd.rd, Opd.rdk, Opd.take, rds, rdks, takes, box, D.frz, D.frzs, D.kids, cmpD, inD, getD?, sliD, sliC, optI, truth, biD, Bi.copies, runF, outsOf, enter, augD, setD, atP, Exps.plain, bAddI, bMulR, bMulL, bMod, bDiv, bPow, bPow39, bAddL, bAddS, eqD_int, frzs_ints, fzs_ints, L2.atI, L2.ixN, D.fzs, D.fz, big, line, callF, prep, back, m0, m1, m2, m3, m4, m5, m6, m7, m8, m9, m10, m11, m12, m13, m14, m15, m16, m17, m18, m19, m20, m21] using hc
  have := h d hd
  rw [← e, up1]
  split <;> omega
theorem len_add (x y : Str) : (x ++ y).length = x.length + y.length := Array.size_append ..
/-- letters alone -/
def Lo (s : Str) : Prop := (s.cps.toList.all fun c => decide (97 ≤ c) && decide (c ≤ 122)) = true
theorem lo_mem {s : Str} : Lo s ↔ ∀ c ∈ s.cps.toList, 97 ≤ c ∧ c ≤ 122 := by
  simp only [Lo, List.all_eq_true, Bool.and_eq_true, decide_eq_true_eq]
theorem lo_add {x y : Str} (hx : Lo x) (hy : Lo y) : Lo (x ++ y) := by
  rw [lo_mem] at *
  intro c hc
  have e : (x ++ y).cps.toList = x.cps.toList ++ y.cps.toList := by
    show (x.cps ++ y.cps).toList = _
    exact Array.toList_append
  rw [e] at hc
  rcases List.mem_append.1 hc with h | h
  · exact hx c h
  · exact hy c h
theorem lo_asc {x : Str} (h : Lo x) : Asc x := by
  rw [lo_mem] at h
  rw [asc_mem]
  intro c hc
  have := h c hc
  omega
theorem repr_lo1 : ∀ c, c < 123 → 97 ≤ c → (Builtin.Str.reprChar 39 c).length = 1 ∧ (Builtin.Str.reprChar 34 c).length = 1 := by decide +kernel
theorem repr_lo2 (q : Nat) (hq : q = 39 ∨ q = 34) : ∀ (l : List Nat) (acc : Array Nat), (∀ c ∈ l, 97 ≤ c ∧ c ≤ 122) → (l.foldl (fun out c => out ++ (Builtin.Str.reprChar q c).toArray) acc).size = acc.size + l.length
  | [], acc, _ => by simp [R.bind, evSs, evS, evO, evOs, evI, asgT, asgTs, sSeq, sAsg, sIf, sRet, sEx, sAugSub, sAug, taken, tst, fVar, fGlo, fBin, fCmp, fCmp2, fNeg, fNot, fAnd, fOr, fIfe, fDsp, fIdx, fSli, fRev, fBi, fCall, fIsi, fMet, gVar, gSub, gTup, gCons, gNil, fsCons, ofD, look, Sl.get, Opd.rd, Opd.rdk, Opd.take, rds, rdks, takes, box, D.frz, D.frzs, D.kids, cmpD, inD, getD?, sliD, sliC, optI, truth, biD, Bi.copies, runF, outsOf, enter, augD, setD, atP, Exps.plain, bAddI, bMulR, bMulL, bMod, bDiv, bPow, bPow39, bAddL, bAddS, eqD_int, frzs_ints, fzs_ints, L2.atI, L2.ixN, D.fzs, D.fz, big, line, callF, prep, back, m0, m1, m2, m3, m4, m5, m6, m7, m8, m9, m10, m11, m12, m13, m14, m15, m16, m17, m18, m19, m20, m21]
  | c :: r, acc, h => by
    have ih := repr_lo2 q hq r (acc ++ (Builtin.Str.reprChar q c).toArray) fun d hd => h d (List.mem_cons_of_mem _ hd)
    have hc := h c (List.mem_cons_self ..)
    have h1 := repr_lo1 c (by omega) hc.1
    have h2 : (Builtin.Str.reprChar q c).length = 1 := by
      rcases hq with rfl | rfl
      · exact h1.1
      · exact h1.2
    rw [List.foldl_cons, List.length_cons]
    have h3 : (acc ++ (Builtin.Str.reprChar q c).toArray).size = acc.size + 1 := by simp [R.bind, evSs, evS, evO, evOs, evI, asgT, asgTs, sSeq, sAsg, sIf, sRet, sEx, sAugSub, sAug, taken, tst, fVar, fGlo, fBin, fCmp, fCmp2, fNeg, fNot, fAnd, fOr, fIfe, fDsp, fIdx, fSli, fRev, fBi, fCall, fIsi, fMet, gVar, gSub, gTup, gCons, gNil, fsCons, ofD, look, Sl.get, Opd.rd, Opd.rdk, Opd.take, rds, rdks, takes, box, D.frz, D.frzs, D.kids, cmpD, inD, getD?, sliD, sliC, optI, truth, biD, Bi.copies, runF, outsOf, enter, augD, setD, atP, Exps.plain, bAddI, bMulR, bMulL, bMod, bDiv, bPow, bPow39, bAddL, bAddS, eqD_int, frzs_ints, fzs_ints, L2.atI, L2.ixN, D.fzs, D.fz, big, line, callF, prep, back, m0, m1, m2, m3, m4, m5, m6, m7, m8, m9, m10, m11, m12, m13, m14, m15, m16, m17, m18, m19, m20, m21, h2]
    rw [h3] at ih
    omega
theorem quote_one (x : Str) : reprQuote x = 39 ∨ reprQuote x = 34 := by
  unfold reprQuote
  split <;> simp [R.bind, evSs, evS, evO, evOs, evI, asgT, asgTs, sSeq, sAsg, sIf, sRet, sEx, sAugSub, sAug, taken, tst, fVar, fGlo, fBin, fCmp, fCmp2, fNeg, fNot, fAnd, fOr, fIfe, fDsp, fIdx, fSli, fRev, fBi, fCall, fIsi, fMet, gVar, gSub, gTup, gCons, gNil, fsCons, ofD, look, Sl.get, Opd.rd, Opd.rdk, Opd.take, rds, rdks, takes, box, D.frz, D.frzs, D.kids, cmpD, inD, getD?, sliD, sliC, optI, truth, biD, Bi.copies, runF, outsOf, enter, augD, setD, atP, Exps.plain, bAddI, bMulR, bMulL, bMod, bDiv, bPow, bPow39, bAddL, bAddS, eqD_int, frzs_ints, fzs_ints, L2.atI, L2.ixN, D.fzs, D.fz, big, line, callF, prep, back, m0, m1, m2, m3, m4, m5, m6, m7, m8, m9, m10, m11, m12, m13, m14, m15, m16, m17, m18, m19, m20, m21]
/-- the written text of letters -/
theorem repr_lo {x : Str} (h : Lo x) : (reprText x).length = x.length + 2 := by
  unfold reprText
  show ((x.cps.foldl (fun out c => out ++ (Builtin.Str.reprChar (reprQuote x) c).toArray) #[reprQuote x]).push (reprQuote x)).size = _
  rw [Array.size_push, ← Array.foldl_toList, repr_lo2 _ (quote_one x) _ _ (lo_mem.1 h)]
  have e : x.cps.toList.length = x.length := by simp [R.bind, evSs, evS, evO, evOs, evI, asgT, asgTs, sSeq, sAsg, sIf, sRet, sEx, sAugSub, sAug, taken, tst, fVar, fGlo, fBin, fCmp, fCmp2, fNeg, fNot, fAnd, fOr, fIfe, fDsp, fIdx, fSli, fRev, fBi, fCall, fIsi, fMet, gVar, gSub, gTup, gCons, gNil, fsCons, ofD, look, Sl.get, Opd.rd, Opd.rdk, Opd.take, rds, rdks, takes, box, D.frz, D.frzs, D.kids, cmpD, inD, getD?, sliD, sliC, optI, truth, biD, Bi.copies, runF, outsOf, enter, augD, setD, atP, Exps.plain, bAddI, bMulR, bMulL, bMod, bDiv, bPow, bPow39, bAddL, bAddS, eqD_int, frzs_ints, fzs_ints, L2.atI, L2.ixN, D.fzs, D.fz, big, line, callF, prep, back, m0, m1, m2, m3, m4, m5, m6, m7, m8, m9, m10, m11, m12, m13, m14, m15, m16, m17, m18, m19, m20, m21, Str.length]
  rw [e]
  show 1 + x.length + 1 = _
  omega
/-- a text of at most so many letters -/
def Tx (n : Nat) (x : D) : Prop := ∃ s : Str, x = .str s ∧ 0 < s.length ∧ s.length ≤ n ∧ Lo s
theorem nms_tx : ∀ x ∈ nms, Tx 8 x := by
  intro x hx
  simp only [nms, List.mem_cons, List.not_mem_nil, or_false] at hx
  rcases hx with h | h | h | h | h | h | h | h | h | h | h | h | h | h | h <;> exact ⟨_, h, by decide +kernel, by decide +kernel, by unfold Lo; decide +kernel⟩
theorem name1 (cf : Nat → List D → C) (d d2 d3 x : D) (r : Int) (h : cf 7 [d, .int 4] = .ok (.int r) [d2]) (hr : 0 < r) (h2 : cf 9 [d2, .lst false nms] = .ok x [d3]) :
  evS txt.P cf [0] (.ifS (.cmp .gt (.call 7 (.cons (.var 0) (.cons (.cst (.int 4)) .nil))) (.cst (.int 0))) (.cons (.ret (.call 9 (.cons (.var 0) (.cons (.var 1) .nil))))
    .nil) .nil) [.v d, .v (.lst true nms), .no] = .ok (.rt x, [.v d3, .v (.lst false nms), .no]) := by
  simp [R.bind, evSs, evS, evO, evOs, evI, asgT, asgTs, sSeq, sAsg, sIf, sRet, sEx, sAugSub, sAug, taken, tst, fVar, fGlo, fBin, fCmp, fCmp2, fNeg, fNot, fAnd, fOr, fIfe, fDsp, fIdx, fSli, fRev, fBi, fCall, fIsi, fMet, gVar, gSub, gTup, gCons, gNil, fsCons, ofD, look, Sl.get, Opd.rd, Opd.rdk, Opd.take, rds, rdks, takes, box, D.frz, D.frzs, D.kids, cmpD, inD, getD?, sliD, sliC, optI, truth, biD, Bi.copies, runF, outsOf, enter, augD, setD, atP, Exps.plain, bAddI, bMulR, bMulL, bMod, bDiv, bPow, bPow39, bAddL, bAddS, eqD_int, frzs_ints, fzs_ints, L2.atI, L2.ixN, D.fzs, D.fz, big, line, callF, prep, back, m0, m1, m2, m3, m4, m5, m6, m7, m8, m9, m10, m11, m12, m13, m14, m15, m16, m17, m18, m19, m20, m21, h, hr, h2, nms_frz]
theorem name2 (cf : Nat → List D → C) (d d2 : D) (r : Int) (h : cf 7 [d, .int 4] = .ok (.int r) [d2]) (hr : ¬ 0 < r) (b : Stms) :
  evS txt.P cf [0] (.ifS (.cmp .gt (.call 7 (.cons (.var 0) (.cons (.cst (.int 4)) .nil))) (.cst (.int 0))) b .nil) [.v d, .v (.lst true nms), .no] = .ok (.nx, [.v d2, .v (.lst true nms), .no]) := by
  simp [R.bind, evSs, evS, evO, evOs, evI, asgT, asgTs, sSeq, sAsg, sIf, sRet, sEx, sAugSub, sAug, taken, tst, fVar, fGlo, fBin, fCmp, fCmp2, fNeg, fNot, fAnd, fOr, fIfe, fDsp, fIdx, fSli, fRev, fBi, fCall, fIsi, fMet, gVar, gSub, gTup, gCons, gNil, fsCons, ofD, look, Sl.get, Opd.rd, Opd.rdk, Opd.take, rds, rdks, takes, box, D.frz, D.frzs, D.kids, cmpD, inD, getD?, sliD, sliC, optI, truth, biD, Bi.copies, runF, outsOf, enter, augD, setD, atP, Exps.plain, bAddI, bMulR, bMulL, bMod, bDiv, bPow, bPow39, bAddL, bAddS, eqD_int, frzs_ints, fzs_ints, L2.atI, L2.ixN, D.fzs, D.fz, big, line, callF, prep, back, m0, m1, m2, m3, m4, m5, m6, m7, m8, m9, m10, m11, m12, m13, m14, m15, m16, m17, m18, m19, m20, m21, h, hr, Int.not_lt.1 hr]

/-- the comprehension's walk: each turn takes one sign -/
theorem name_lc (n : Nat) (is : List D) : ∀ (d : D) (s1 : Sl) (acc : List Str), Bag d → (∀ a ∈ acc, a.length = 1 ∧ Lo a) → acc.length + is.length ≤ 1000 →
  ∃ (out : List Str) (d2 : D), Bag d2 ∧ (∀ a ∈ out, a.length = 1 ∧ Lo a) ∧ out.length = acc.length + is.length ∧ forC (gVar [0] 2) (leaf1 (evO txt.P (callN txt.P txt.fs (n + 2)) [0] (.call 9 (.cons (.var 0) (.cons (.cst (.str "abcdefghijklmnopqrstuvwxyz")) .nil))))) (evIf txt.P (callN txt.P txt.fs (n + 2)) [0] .nil) [2] is (acc.map .str) [.v d, s1, .no] = .ok (out.map .str, [.v d2, s1, .no]) := by
  induction is with
  | nil => intro d s1 acc hd ha hl; exact ⟨acc, d, hd, ha, rfl, rfl⟩
  | cons i is ih =>
    intro d s1 acc hd ha hl
    simp only [List.length_cons] at hl
    obtain ⟨c, d2, h1, h2, h3⟩ := one_str n d "abcdefghijklmnopqrstuvwxyz" hd (by decide +kernel) (by decide +kernel)
    obtain ⟨out, d3, g1, g2, g3, g4⟩ := ih d2 s1 (acc ++ [⟨#[c]⟩]) h2 (by
      intro a h; rcases List.mem_append.1 h with h | h
      · exact ha a h
      · rw [List.mem_singleton.1 h]
        refine ⟨rfl, lo_mem.2 ?_⟩
        intro b hb
        rw [List.mem_singleton.1 hb]
        exact lo_mem.1 (show Lo "abcdefghijklmnopqrstuvwxyz" by unfold Lo; decide +kernel) _ h1) (by simp only [List.length_append, List.length_cons, List.length_nil]; omega)
    refine ⟨out, d3, g1, g2, by rw [g3]; simp only [List.length_append, List.length_cons, List.length_nil]; omega, ?_⟩
    have h5 : acc.length < 1048576 := by omega
    simp only [List.map_append, List.map_cons, List.map_nil] at g4
    simp [R.bind, evSs, evS, evO, evOs, evI, asgT, asgTs, sSeq, sAsg, sIf, sRet, sEx, sAugSub, sAug, taken, tst, fVar, fGlo, fBin, fCmp, fCmp2, fNeg, fNot, fAnd, fOr, fIfe, fDsp, fIdx, fSli, fRev, fBi, fCall, fIsi, fMet, gVar, gSub, gTup, gCons, gNil, fsCons, ofD, look, Sl.get, Opd.rd, Opd.rdk, Opd.take, rds, rdks, takes, box, D.frz, D.frzs, D.kids, cmpD, inD, getD?, sliD, sliC, optI, truth, biD, Bi.copies, runF, outsOf, enter, augD, setD, atP, Exps.plain, bAddI, bMulR, bMulL, bMod, bDiv, bPow, bPow39, bAddL, bAddS, eqD_int, frzs_ints, fzs_ints, L2.atI, L2.ixN, D.fzs, D.fz, big, line, callF, prep, back, m0, m1, m2, m3, m4, m5, m6, m7, m8, m9, m10, m11, m12, m13, m14, m15, m16, m17, m18, m19, m20, m21, forC, leaf1, evIf, h3, h5, Z.wipe]
    exact g4

open StrLaws PyProof in
theorem join_nil_len : ∀ ts : List Str, (Txt.join (Str.ofString "") ts).length = (ts.map (·.length)).sum := by
  intro ts
  show (PySem.Builtin.Str.glued (Str.ofString "") ts).length = _
  cases ts with
  | nil => rfl
  | cons a r =>
    rw [glued_eq_join]
    induction r generalizing a with
    | nil => show a.length = _; simp [R.bind, evSs, evS, evO, evOs, evI, asgT, asgTs, sSeq, sAsg, sIf, sRet, sEx, sAugSub, sAug, taken, tst, fVar, fGlo, fBin, fCmp, fCmp2, fNeg, fNot, fAnd, fOr, fIfe, fDsp, fIdx, fSli, fRev, fBi, fCall, fIsi, fMet, gVar, gSub, gTup, gCons, gNil, fsCons, ofD, look, Sl.get, Opd.rd, Opd.rdk, Opd.take, rds, rdks, takes, box, D.frz, D.frzs, D.kids, cmpD, inD, getD?, sliD, sliC, optI, truth, biD, Bi.copies, runF, outsOf, enter, augD, setD, atP, Exps.plain, bAddI, bMulR, bMulL, bMod, bDiv, bPow, bPow39, bAddL, bAddS, eqD_int, frzs_ints, fzs_ints, L2.atI, L2.ixN, D.fzs, D.fz, big, line, callF, prep, back, m0, m1, m2, m3, m4, m5, m6, m7, m8, m9, m10, m11, m12, m13, m14, m15, m16, m17, m18, m19, m20, m21]
    | cons b r ih =>
      show (a ++ Str.ofString "" ++ Str.join (Str.ofString "") (b :: r)).length = _
      have e : ∀ x y : Str, (x ++ y).length = x.length + y.length := fun x y => Array.size_append ..
      rw [e, e, ih]
      have : (Str.ofString "").length = 0 := by decide +kernel
      simp [R.bind, evSs, evS, evO, evOs, evI, asgT, asgTs, sSeq, sAsg, sIf, sRet, sEx, sAugSub, sAug, taken, tst, fVar, fGlo, fBin, fCmp, fCmp2, fNeg, fNot, fAnd, fOr, fIfe, fDsp, fIdx, fSli, fRev, fBi, fCall, fIsi, fMet, gVar, gSub, gTup, gCons, gNil, fsCons, ofD, look, Sl.get, Opd.rd, Opd.rdk, Opd.take, rds, rdks, takes, box, D.frz, D.frzs, D.kids, cmpD, inD, getD?, sliD, sliC, optI, truth, biD, Bi.copies, runF, outsOf, enter, augD, setD, atP, Exps.plain, bAddI, bMulR, bMulL, bMod, bDiv, bPow, bPow39, bAddL, bAddS, eqD_int, frzs_ints, fzs_ints, L2.atI, L2.ixN, D.fzs, D.fz, big, line, callF, prep, back, m0, m1, m2, m3, m4, m5, m6, m7, m8, m9, m10, m11, m12, m13, m14, m15, m16, m17, m18, m19, m20, m21, this]
open StrLaws PyProof in
theorem join_nil_lo : ∀ ts : List Str, (∀ a ∈ ts, Lo a) → Lo (Txt.join (Str.ofString "") ts) := by
  intro ts h
  show Lo (PySem.Builtin.Str.glued (Str.ofString "") ts)
  cases ts with
  | nil => unfold Lo; decide +kernel
  | cons a r =>
    rw [glued_eq_join]
    induction r generalizing a with
    | nil => exact h a (List.mem_cons_self ..)
    | cons b r ih =>
      show Lo (a ++ Str.ofString "" ++ Str.join (Str.ofString "") (b :: r))
      exact lo_add (lo_add (h a (List.mem_cons_self ..)) (by unfold Lo; decide +kernel)) (ih b fun x hx => h x (List.mem_cons_of_mem _ hx))
end Law

set_option Elab.async false
set_option linter.all false
set_option maxRecDepth 100000
set_option maxHeartbeats 400000
namespace Law
open Z PySem

theorem strs_map (ts : List Str) : strs? (ts.map D.str) = some ts := by
  induction ts with
  | nil => rfl
  | cons t ts ih => simp [R.bind, evSs, evS, evO, evOs, evI, asgT, asgTs, sSeq, sAsg, sIf, sRet, sEx, sAugSub, sAug, taken, tst, fVar, fGlo, fBin, fCmp, fCmp2, fNeg, fNot, fAnd, fOr, fIfe, fDsp, fIdx, fSli, fRev, fBi, fCall, fIsi, fMet, gVar, gSub, gTup, gCons, gNil, fsCons, ofD, look, Sl.get, Opd.rd, Opd.rdk, Opd.take, rds, rdks, takes, box, D.frz, D.frzs, D.kids, cmpD, inD, getD?, sliD, sliC, optI, truth, biD, Bi.copies, runF, outsOf, enter, augD, setD, atP, Exps.plain, bAddI, bMulR, bMulL, bMod, bDiv, bPow, bPow39, bAddL, bAddS, eqD_int, frzs_ints, fzs_ints, L2.atI, L2.ixN, D.fzs, D.fz, big, line, callF, prep, back, m0, m1, m2, m3, m4, m5, m6, m7, m8, m9, m10, m11, m12, m13, m14, m15, m16, m17, m18, m19, m20, m21, strs?, ih]
theorem fzs_strs (ts : List Str) : D.fzs (ts.map D.str) = true := by
  induction ts with
  | nil => rfl
  | cons t ts ih => simp [R.bind, evSs, evS, evO, evOs, evI, asgT, asgTs, sSeq, sAsg, sIf, sRet, sEx, sAugSub, sAug, taken, tst, fVar, fGlo, fBin, fCmp, fCmp2, fNeg, fNot, fAnd, fOr, fIfe, fDsp, fIdx, fSli, fRev, fBi, fCall, fIsi, fMet, gVar, gSub, gTup, gCons, gNil, fsCons, ofD, look, Sl.get, Opd.rd, Opd.rdk, Opd.take, rds, rdks, takes, box, D.frz, D.frzs, D.kids, cmpD, inD, getD?, sliD, sliC, optI, truth, biD, Bi.copies, runF, outsOf, enter, augD, setD, atP, Exps.plain, bAddI, bMulR, bMulL, bMod, bDiv, bPow, bPow39, bAddL, bAddS, eqD_int, frzs_ints, fzs_ints, L2.atI, L2.ixN, D.fzs, D.fz, big, line, callF, prep, back, m0, m1, m2, m3, m4, m5, m6, m7, m8, m9, m10, m11, m12, m13, m14, m15, m16, m17, m18, m19, m20, m21, ih]
theorem frzs_strs (ts : List Str) : D.frzs (ts.map D.str) = ts.map D.str := by
  induction ts with
  | nil => rfl
  | cons t ts ih => simp [R.bind, evSs, evS, evO, evOs, evI, asgT, asgTs, sSeq, sAsg, sIf, sRet, sEx, sAugSub, sAug, taken, tst, fVar, fGlo, fBin, fCmp, fCmp2, fNeg, fNot, fAnd, fOr, fIfe, fDsp, fIdx, fSli, fRev, fBi, fCall, fIsi, fMet, gVar, gSub, gTup, gCons, gNil, fsCons, ofD, look, Sl.get, Opd.rd, Opd.rdk, Opd.take, rds, rdks, takes, box, D.frz, D.frzs, D.kids, cmpD, inD, getD?, sliD, sliC, optI, truth, biD, Bi.copies, runF, outsOf, enter, augD, setD, atP, Exps.plain, bAddI, bMulR, bMulL, bMod, bDiv, bPow, bPow39, bAddL, bAddS, eqD_int, frzs_ints, fzs_ints, L2.atI, L2.ixN, D.fzs, D.fz, big, line, callF, prep, back, m0, m1, m2, m3, m4, m5, m6, m7, m8, m9, m10, m11, m12, m13, m14, m15, m16, m17, m18, m19, m20, m21, ih]
theorem sum_ones (ts : List Str) (h : ∀ a ∈ ts, a.length = 1 ∧ Lo a) : (ts.map (·.length)).sum = ts.length := by
  induction ts with
  | nil => rfl
  | cons t ts ih =>
    have := ih fun a ha => h a (List.mem_cons_of_mem _ ha)
    have := (h t (List.mem_cons_self ..)).1
    simp only [List.map_cons, List.sum_cons, List.length_cons]; omega
theorem name3 (n : Nat) (d : D) (s1 : Sl) (hd : Bag d) : ∃ x d3, Tx 8 x ∧ Bag d3 ∧ evS txt.P (callN txt.P txt.fs (n + 2)) [0] (.ret (.bin .add (.cst (.str "k")) (.met .join (.cst (.str "")) (.cons (.lc [2] (.call 9 (.cons (.var 0) (.cons (.cst (.str "abcdefghijklmnopqrstuvwxyz")) .nil))) (.cons (.var 2) (.range (.cons (.call 7 (.cons (.var 0) (.cons (.cst (.int 8)) .nil))) .nil)) .nil .nil)) .nil)))) [.v d, s1, .no] = .ok (.rt x, [.v d3, s1, .no]) := by
  obtain ⟨r, d2, r1, r2, r3, r4⟩ := take_ok (n + 1) d 8 hd (by omega) (by omega)
  obtain ⟨out, d3, g1, g2, g3, g4⟩ := name_lc n ((List.range r.toNat).map fun (i : Nat) => D.int (i : Int)) d2 s1 [] r3 (by simp [R.bind, evSs, evS, evO, evOs, evI, asgT, asgTs, sSeq, sAsg, sIf, sRet, sEx, sAugSub, sAug, taken, tst, fVar, fGlo, fBin, fCmp, fCmp2, fNeg, fNot, fAnd, fOr, fIfe, fDsp, fIdx, fSli, fRev, fBi, fCall, fIsi, fMet, gVar, gSub, gTup, gCons, gNil, fsCons, ofD, look, Sl.get, Opd.rd, Opd.rdk, Opd.take, rds, rdks, takes, box, D.frz, D.frzs, D.kids, cmpD, inD, getD?, sliD, sliC, optI, truth, biD, Bi.copies, runF, outsOf, enter, augD, setD, atP, Exps.plain, bAddI, bMulR, bMulL, bMod, bDiv, bPow, bPow39, bAddL, bAddS, eqD_int, frzs_ints, fzs_ints, L2.atI, L2.ixN, D.fzs, D.fz, big, line, callF, prep, back, m0, m1, m2, m3, m4, m5, m6, m7, m8, m9, m10, m11, m12, m13, m14, m15, m16, m17, m18, m19, m20, m21]) (by simp [R.bind, evSs, evS, evO, evOs, evI, asgT, asgTs, sSeq, sAsg, sIf, sRet, sEx, sAugSub, sAug, taken, tst, fVar, fGlo, fBin, fCmp, fCmp2, fNeg, fNot, fAnd, fOr, fIfe, fDsp, fIdx, fSli, fRev, fBi, fCall, fIsi, fMet, gVar, gSub, gTup, gCons, gNil, fsCons, ofD, look, Sl.get, Opd.rd, Opd.rdk, Opd.take, rds, rdks, takes, box, D.frz, D.frzs, D.kids, cmpD, inD, getD?, sliD, sliC, optI, truth, biD, Bi.copies, runF, outsOf, enter, augD, setD, atP, Exps.plain, bAddI, bMulR, bMulL, bMod, bDiv, bPow, bPow39, bAddL, bAddS, eqD_int, frzs_ints, fzs_ints, L2.atI, L2.ixN, D.fzs, D.fz, big, line, callF, prep, back, m0, m1, m2, m3, m4, m5, m6, m7, m8, m9, m10, m11, m12, m13, m14, m15, m16, m17, m18, m19, m20, m21]; omega)
  have hlen : (Txt.join (Str.ofString "") out).length = out.length := by rw [join_nil_len, sum_ones out g2]
  have hk : (Str.ofString "k").length = 1 := by decide +kernel
  have h0 : (Str.ofString "").length = 0 := by decide +kernel
  have ho : out.length ≤ 7 := by rw [g3]; simp [R.bind, evSs, evS, evO, evOs, evI, asgT, asgTs, sSeq, sAsg, sIf, sRet, sEx, sAugSub, sAug, taken, tst, fVar, fGlo, fBin, fCmp, fCmp2, fNeg, fNot, fAnd, fOr, fIfe, fDsp, fIdx, fSli, fRev, fBi, fCall, fIsi, fMet, gVar, gSub, gTup, gCons, gNil, fsCons, ofD, look, Sl.get, Opd.rd, Opd.rdk, Opd.take, rds, rdks, takes, box, D.frz, D.frzs, D.kids, cmpD, inD, getD?, sliD, sliC, optI, truth, biD, Bi.copies, runF, outsOf, enter, augD, setD, atP, Exps.plain, bAddI, bMulR, bMulL, bMod, bDiv, bPow, bPow39, bAddL, bAddS, eqD_int, frzs_ints, fzs_ints, L2.atI, L2.ixN, D.fzs, D.fz, big, line, callF, prep, back, m0, m1, m2, m3, m4, m5, m6, m7, m8, m9, m10, m11, m12, m13, m14, m15, m16, m17, m18, m19, m20, m21]; omega
  have e : ∀ x y : Str, (x ++ y).length = x.length + y.length := fun x y => Array.size_append ..
  refine ⟨.str (Str.ofString "k" ++ Txt.join (Str.ofString "") out), d3, ⟨_, rfl, by rw [e]; omega, by rw [e]; omega, lo_add (by unfold Lo; decide +kernel) (join_nil_lo out fun a ha => (g2 a ha).2)⟩, g1, ?_⟩
  have q1 : r < 4611686018427387904 := by omega
  have q2 : -4611686018427387904 ≤ r := by omega
  have q3 : out.length ≤ 1048576 := by omega
  have q4 : 1 + out.length ≤ 1048576 := by omega
  have q5 := sum_ones out g2
  simp only [List.map_nil, evO, evOs] at g4
  simp [R.bind, evSs, evS, evO, evOs, evI, asgT, asgTs, sSeq, sAsg, sIf, sRet, sEx, sAugSub, sAug, taken, tst, fVar, fGlo, fBin, fCmp, fCmp2, fNeg, fNot, fAnd, fOr, fIfe, fDsp, fIdx, fSli, fRev, fBi, fCall, fIsi, fMet, gVar, gSub, gTup, gCons, gNil, fsCons, ofD, look, Sl.get, Opd.rd, Opd.rdk, Opd.take, rds, rdks, takes, box, D.frz, D.frzs, D.kids, cmpD, inD, getD?, sliD, sliC, optI, truth, biD, Bi.copies, runF, outsOf, enter, augD, setD, atP, Exps.plain, bAddI, bMulR, bMulL, bMod, bDiv, bPow, bPow39, bAddL, bAddS, eqD_int, frzs_ints, fzs_ints, L2.atI, L2.ixN, D.fzs, D.fz, big, line, callF, prep, back, m0, m1, m2, m3, m4, m5, m6, m7, m8, m9, m10, m11, m12, m13, m14, m15, m16, m17, m18, m19, m20, m21, fLc, evC, cCons, iRange, rangeD, ownOk, Z.wipe, Z.unwipe, metD, r4, q1, q2, g4, D.ty, strs_map, fzs_strs, frzs_strs, hlen, hk, h0, q3, q4, q5]

theorem call9 (n : Nat) (d : D) : callN txt.P txt.fs (n + 1) 16 [d] = runF f16 (evSs txt.P (callN txt.P txt.fs n) [0] f16.body [.v d, .no, .no]) := by
  have e : enter (txt.P.mode.getD 16 []) [d] ++ List.replicate (f16.ns - f16.np) Sl.no = [.v d, .no, .no] := rfl
  have io : f16.io = [0] := rfl
  rw [call_eq txt.P txt.fs n 16 [d] f16 rfl rfl, e, io]
theorem runF0 (F : Fun) (x d : D) (r : Z.Env) (h : F.io = [0]) : runF F (.ok (.rt x, .v d :: r)) = .ok x [d] := by
  simp [R.bind, evSs, evS, evO, evOs, evI, asgT, asgTs, sSeq, sAsg, sIf, sRet, sEx, sAugSub, sAug, taken, tst, fVar, fGlo, fBin, fCmp, fCmp2, fNeg, fNot, fAnd, fOr, fIfe, fDsp, fIdx, fSli, fRev, fBi, fCall, fIsi, fMet, gVar, gSub, gTup, gCons, gNil, fsCons, ofD, look, Sl.get, Opd.rd, Opd.rdk, Opd.take, rds, rdks, takes, box, D.frz, D.frzs, D.kids, cmpD, inD, getD?, sliD, sliC, optI, truth, biD, Bi.copies, runF, outsOf, enter, augD, setD, atP, Exps.plain, bAddI, bMulR, bMulL, bMod, bDiv, bPow, bPow39, bAddL, bAddS, eqD_int, frzs_ints, fzs_ints, L2.atI, L2.ixN, D.fzs, D.fz, big, line, callF, prep, back, m0, m1, m2, m3, m4, m5, m6, m7, m8, m9, m10, m11, m12, m13, m14, m15, m16, m17, m18, m19, m20, m21, h]
theorem name_ok (n : Nat) (d : D) (hd : Bag d) : ∃ x d2, Tx 8 x ∧ Bag d2 ∧ callN txt.P txt.fs (n + 3) 16 [d] = .ok x [d2] := by
  obtain ⟨r, d2, r1, r2, r3, r4⟩ := take_ok (n + 1) d 4 hd (by omega) (by omega)
  rw [call9]
  simp only [f16, evSs]
  rw [seqN (name0 _ d)]
  by_cases h : 0 < r
  · obtain ⟨x, d3, h1, h2, h3⟩ := one_lst n d2 false nms r3 (by rw [nms_len]; omega) (by rw [nms_len]; omega)
    rw [nms_frz] at h1
    refine ⟨x, d3, nms_tx x h1, h2, ?_⟩
    rw [seqR (name1 _ d d2 d3 x r r4 h h3)]
    exact runF0 _ x d3 _ rfl
  · obtain ⟨x, d3, h1, h2, h3⟩ := name3 n d2 (.v (.lst true nms)) r3
    refine ⟨x, d3, h1, h2, ?_⟩
    rw [seqN (name2 _ d d2 r r4 h _), seqR h3]
    exact runF0 _ x d3 _ rfl
end Law

set_option Elab.async false
set_option linter.all false
set_option maxRecDepth 100000
set_option maxHeartbeats 400000
namespace Law
open Z PySem
/-! ## things as they are made: frozen, plain; how long their written texts are at most -/
def ascB (m : Nat) (s : Str) : Bool := decide (s.length ≤ m) && s.cps.toList.all fun c => decide (c < 128)
mutual
def okD (m : Nat) : D → Bool
  | .non => true | .bl _ => true
  | .int i => decide (i.natAbs < 10 ^ 40)
  | .str s => ascB m s
  | .tup xs => okDs m xs
  | .lst o xs => !o && okDs m xs
  | .dic o kvs => !o && okDk m kvs
  | _ => false
def okDs (m : Nat) : List D → Bool
  | [] => true
  | x :: r => okD m x && okDs m r
def okDk (m : Nat) : List (D × D) → Bool
  | [] => true
  | (a, b) :: r => okD m a && (okD m b && okDk m r)
end
mutual
def wt : D → Nat
  | .non => 4 | .bl _ => 5
  | .int _ => 41
  | .str s => (reprText s).length
  | .tup xs => wts xs + 3
  | .lst _ xs => wts xs + 2
  | .dic _ kvs => wtk kvs + 2
  | _ => 0
def wts : List D → Nat
  | [] => 0
  | x :: r => wt x + 2 + wts r
def wtk : List (D × D) → Nat
  | [] => 0
  | (a, b) :: r => wt a + wt b + 4 + wtk r
end
theorem okDs_iff {m : Nat} : ∀ {xs : List D}, okDs m xs = true ↔ ∀ x ∈ xs, okD m x = true
  | [] => by simp [okDs]
  | x :: r => by simp [okDs, okDs_iff (xs := r)]
theorem okDs_add {m : Nat} {xs ys : List D} : okDs m (xs ++ ys) = (okDs m xs && okDs m ys) := by
  induction xs with
  | nil => rfl
  | cons x r ih => simp [okDs, ih, Bool.and_assoc]
theorem wts_add (xs ys : List D) : wts (xs ++ ys) = wts xs + wts ys := by
  induction xs with
  | nil => simp [wts]
  | cons x r ih => simp only [List.cons_append, wts, ih]; omega
theorem depths_add (xs ys : List D) : D.depths (xs ++ ys) = max (D.depths xs) (D.depths ys) := by
  induction xs with
  | nil => simp [D.depths]
  | cons x r ih => simp only [List.cons_append, D.depths, ih]; omega
theorem wt_mem {x : D} : ∀ {xs : List D}, x ∈ xs → wt x + 2 ≤ wts xs
  | y :: r, h => by
    simp only [wts]
    rcases List.mem_cons.1 h with rfl | h
    · omega
    · have := wt_mem h; omega
theorem depth_mem {x : D} : ∀ {xs : List D}, x ∈ xs → x.depth ≤ D.depths xs
  | y :: r, h => by
    simp only [D.depths]
    rcases List.mem_cons.1 h with rfl | h
    · omega
    · have := depth_mem h; omega
theorem depths_le {n : Nat} : ∀ {xs : List D}, (∀ x ∈ xs, x.depth ≤ n) → D.depths xs ≤ n
  | [], _ => by simp [D.depths]
  | x :: r, h => by
    have h1 := h x (List.mem_cons_self ..)
    have h2 := depths_le fun y hy => h y (List.mem_cons_of_mem _ hy)
    simp only [D.depths]; omega
theorem wts_le {n : Nat} : ∀ {xs : List D}, (∀ x ∈ xs, wt x ≤ n) → wts xs ≤ xs.length * (n + 2)
  | [], _ => by simp [wts]
  | x :: r, h => by
    have h1 := h x (List.mem_cons_self ..)
    have h2 := wts_le fun y hy => h y (List.mem_cons_of_mem _ hy)
    simp only [wts, List.length_cons, Nat.add_mul]; omega
mutual
theorem ok_fz {m : Nat} : ∀ (x : D), okD m x = true → x.fz = true
  | .non, _ => rfl | .bl _, _ => rfl | .int _, _ => rfl | .str _, _ => rfl
  | .tup xs, h => by simp only [okD] at h; simp only [D.fz, ok_fzs xs h]
  | .lst o xs, h => by simp only [okD, Bool.and_eq_true] at h; simp only [D.fz, ok_fzs xs h.2, h.1, Bool.and_self]
  | .dic o kvs, h => by simp only [okD, Bool.and_eq_true] at h; simp only [D.fz, ok_fzk kvs h.2, h.1, Bool.and_self]
  | .set _ _, h => nomatch h | .ins _ _ _, h => nomatch h | .exn _ _, h => nomatch h | .clo _ _, h => nomatch h
theorem ok_fzs {m : Nat} : ∀ (xs : List D), okDs m xs = true → D.fzs xs = true
  | [], _ => rfl
  | x :: r, h => by simp only [okDs, Bool.and_eq_true] at h; simp only [D.fzs, ok_fz x h.1, ok_fzs r h.2, Bool.and_self]
theorem ok_fzk {m : Nat} : ∀ (xs : List (D × D)), okDk m xs = true → D.fzk xs = true
  | [], _ => rfl
  | (a, b) :: r, h => by simp only [okDk, Bool.and_eq_true] at h; simp only [D.fzk, ok_fz a h.1, ok_fz b h.2.1, ok_fzk r h.2.2, Bool.and_self]
end
theorem ok_frz {m : Nat} {x : D} (h : okD m x = true) : x.frz = x := frz_of_fz x (ok_fz x h)
theorem ok_frzs {m : Nat} {xs : List D} (h : okDs m xs = true) : D.frzs xs = xs := frzs_of_fzs xs (ok_fzs xs h)
mutual
theorem ok_up {m n : Nat} (h : m ≤ n) : ∀ (x : D), okD m x = true → okD n x = true
  | .non, _ => rfl | .bl _, _ => rfl | .int _, k => k
  | .str s, k => by
    simp only [okD, ascB, Bool.and_eq_true, decide_eq_true_eq] at k ⊢
    exact ⟨by omega, k.2⟩
  | .tup xs, k => by simp only [okD] at k ⊢; exact oks_up h xs k
  | .lst o xs, k => by simp only [okD, Bool.and_eq_true] at k ⊢; exact ⟨k.1, oks_up h xs k.2⟩
  | .dic o kvs, k => by simp only [okD, Bool.and_eq_true] at k ⊢; exact ⟨k.1, okk_up h kvs k.2⟩
  | .set _ _, k => nomatch k | .ins _ _ _, k => nomatch k | .exn _ _, k => nomatch k | .clo _ _, k => nomatch k
theorem oks_up {m n : Nat} (h : m ≤ n) : ∀ (xs : List D), okDs m xs = true → okDs n xs = true
  | [], _ => rfl
  | x :: r, k => by simp only [okDs, Bool.and_eq_true] at k ⊢; exact ⟨ok_up h x k.1, oks_up h r k.2⟩
theorem okk_up {m n : Nat} (h : m ≤ n) : ∀ (xs : List (D × D)), okDk m xs = true → okDk n xs = true
  | [], _ => rfl
  | (a, b) :: r, k => by simp only [okDk, Bool.and_eq_true] at k ⊢; exact ⟨ok_up h a k.1, ok_up h b k.2.1, okk_up h r k.2.2⟩
end
/-! ### the written text -/
theorem join_len (sep : Str) : ∀ ts : List Str, (Str.join sep ts).length ≤ (ts.map fun t => t.length + sep.length).sum
  | [] => Nat.le_refl 0
  | [t] => by
    show t.length ≤ _
    simp
  | t :: u :: r => by
    have ih := join_len sep (u :: r)
    show (t ++ sep ++ Str.join sep (u :: r)).length ≤ _
    have e : ∀ x y : Str, (x ++ y).length = x.length + y.length := fun x y => Array.size_append ..
    rw [e, e, List.map_cons, List.sum_cons]
    omega
theorem from_len : ∀ (ts : List Str) (i : Nat) (acc : Str), (textFrom i acc ts).length ≤ acc.length + (ts.map fun t => t.length + 2).sum := by
  intro ts
  induction ts with
  | nil => intro i acc; simp [textFrom]
  | cons t ts ih =>
    intro i acc
    have e : ∀ x y : Str, (x ++ y).length = x.length + y.length := fun x y => Array.size_append ..
    have h := ih (i + 1) (acc ++ (if i > 0 then ", " else "" : String) ++ t)
    have l : (((if i > 0 then ", " else "" : String)) : Str).length ≤ 2 := by split <;> decide +kernel
    rw [e, e] at h
    rw [textFrom, List.map_cons, List.sum_cons]
    omega
mutual
theorem ok_py {m : Nat} : ∀ (x : D), okD m x = true → ∃ p, x.py = some p ∧ p.showable = true ∧ p.shown.length ≤ wt x
  | .non, _ => ⟨.none, rfl, rfl, by simp only [PyData.shown, wt]; decide +kernel⟩
  | .bl b, _ => ⟨.bool b, rfl, rfl, by simp only [PyData.shown, wt]; cases b <;> decide +kernel⟩
  | .int i, h => by
    simp only [okD, decide_eq_true_eq] at h
    have l : i.natAbs.log2 < 1920 := by
      by_cases h0 : i.natAbs = 0
      · rw [h0]; decide
      · rw [Nat.log2_lt h0]; exact Nat.lt_trans h (by decide +kernel)
    have l40 := int_text_length_le10 (by decide) h
    refine ⟨.int i, rfl, by simp only [PyData.showable, l, decide_true], ?_⟩
    simp only [PyData.shown, wt]
    show (Str.ofString (toString i)).length ≤ 41
    rw [PyProof.Rows.ofString_length]
    rw [String.length_toList]
    exact l40
  | .str s, _ => ⟨.str s, rfl, rfl, by simp only [PyData.shown, wt]; omega⟩
  | .tup xs, h => by
    simp only [okD] at h
    obtain ⟨ps, h1, h2, h3⟩ := ok_pys xs h
    refine ⟨.tuple ps, by simp [D.py, h1], by simp [PyData.showable, h2], ?_⟩
    simp only [PyData.shown, wt, tupleText]
    have e : ∀ x y : Str, (x ++ y).length = x.length + y.length := fun x y => Array.size_append ..
    have j := join_len (Str.ofString ", ") (PyData.shownAll ps)
    have l2 : (Str.ofString ", ").length = 2 := by decide +kernel
    rw [l2] at j
    have l1 : (("(" : Str)).length = 1 := by decide +kernel
    have l3 : ∀ b : Bool, (((if b then ",)" else ")" : String)) : Str).length ≤ 2 := by intro b; cases b <;> decide +kernel
    rw [e, e, l1]
    have l4 := l3 ((PyData.shownAll ps).length == 1)
    have j' : (Str.join ", " (PyData.shownAll ps)).length ≤ wts xs := Nat.le_trans j h3
    omega
  | .lst o xs, h => by
    simp only [okD, Bool.and_eq_true] at h
    obtain ⟨ps, h1, h2, h3⟩ := ok_pys xs h.2
    refine ⟨.list ps, by simp [D.py, h1], by simp [PyData.showable, h2], ?_⟩
    simp only [PyData.shown, wt, listText]
    have e : ∀ x y : Str, (x ++ y).length = x.length + y.length := fun x y => Array.size_append ..
    have j := from_len (PyData.shownAll ps) 0 "["
    have l1 : (("[" : Str)).length = 1 := by decide +kernel
    have l2 : (("]" : Str)).length = 1 := by decide +kernel
    rw [e, l2]
    rw [l1] at j
    omega
  | .dic o kvs, h => by
    simp only [okD, Bool.and_eq_true] at h
    obtain ⟨ps, h1, h2, h3⟩ := ok_pyk kvs h.2
    refine ⟨.dict ps, by simp [D.py, h1], by simp [PyData.showable, h2], ?_⟩
    simp only [PyData.shown, wt, dictText]
    have e : ∀ x y : Str, (x ++ y).length = x.length + y.length := fun x y => Array.size_append ..
    have j := join_len (Str.ofString ", ") (PyData.shownKv ps)
    have l2 : (Str.ofString ", ").length = 2 := by decide +kernel
    rw [l2] at j
    have l1 : (("{" : Str)).length = 1 := by decide +kernel
    have l3 : (("}" : Str)).length = 1 := by decide +kernel
    rw [e, e, l1, l3]
    have j' : (Str.join ", " (PyData.shownKv ps)).length ≤ wtk kvs := Nat.le_trans j h3
    omega
  | .set _ _, k => nomatch k | .ins _ _ _, k => nomatch k | .exn _ _, k => nomatch k | .clo _ _, k => nomatch k
theorem ok_pys {m : Nat} : ∀ (xs : List D), okDs m xs = true → ∃ ps, D.pys xs = some ps ∧ PyData.showableAll ps = true ∧ ((PyData.shownAll ps).map fun t => t.length + 2).sum ≤ wts xs
  | [], _ => ⟨[], rfl, rfl, by simp [PyData.shownAll, wts]⟩
  | x :: r, h => by
    simp only [okDs, Bool.and_eq_true] at h
    obtain ⟨p, h1, h2, h3⟩ := ok_py x h.1
    obtain ⟨ps, h4, h5, h6⟩ := ok_pys r h.2
    refine ⟨p :: ps, by simp [D.pys, h1, h4], by simp [PyData.showableAll, h2, h5], ?_⟩
    simp only [PyData.shownAll, List.map_cons, List.sum_cons, wts]
    omega
theorem ok_pyk {m : Nat} : ∀ (xs : List (D × D)), okDk m xs = true → ∃ ps, D.pyk xs = some ps ∧ PyData.showableKv ps = true ∧ ((PyData.shownKv ps).map fun t => t.length + 2).sum ≤ wtk xs
  | [], _ => ⟨[], rfl, rfl, by simp [PyData.shownKv, wtk]⟩
  | (a, b) :: r, h => by
    simp only [okDk, Bool.and_eq_true] at h
    obtain ⟨p, h1, h2, h3⟩ := ok_py a h.1
    obtain ⟨q, g1, g2, g3⟩ := ok_py b h.2.1
    obtain ⟨ps, h4, h5, h6⟩ := ok_pyk r h.2.2
    refine ⟨(p, q) :: ps, by simp [D.pyk, h1, g1, h4], by simp [PyData.showableKv, h2, g2, h5], ?_⟩
    have e : ∀ x y : Str, (x ++ y).length = x.length + y.length := fun x y => Array.size_append ..
    have l : ((": " : Str)).length = 2 := by decide +kernel
    simp only [PyData.shownKv, List.map_cons, List.sum_cons, wtk, e, l]
    omega
end
theorem ok_repr {m : Nat} {x : D} (h : okD m x = true) (hd : x.depth ≤ 40) (hw : wt x ≤ 1048576) : ∃ k, biD .repr [x] = some (.str k) := by
  obtain ⟨p, h1, h2, h3⟩ := ok_py x h
  have q : p.shown.length ≤ line := Nat.le_trans h3 hw
  have f : x.flat = true := decide_eq_true hd
  exact ⟨p.shown, by simp only [biD, h1, h2, f, q, decide_true, Bool.and_self, if_true]⟩
end Law

set_option Elab.async false
set_option linter.all false
set_option maxRecDepth 100000
set_option maxHeartbeats 400000
namespace Law
open Z PySem


/-! the two name looks -/
def wds : List D := [.str "alike", .str "go", .str "if", .str "no", .str "tell", .str "unlike", .str "with", .str "yes"]
def lowB (c : Nat) : Bool := decide (97 ≤ c) && decide (c ≤ 122)
def wS : List Str := ["alike", "go", "if", "no", "tell", "unlike", "with", "yes"]
def wdB (s : Str) : Bool := wS.any fun z => z == s
def nmB (s : Str) : Bool := if decide (0 < s.length) && decide (s.length ≤ 8) then (if wdB s then false else s.cps.toList.all lowB) else false
theorem low_in (c : Nat) : sub? ⟨#[c]⟩ "abcdefghijklmnopqrstuvwxyz" = lowB c := by
  show (!(PySem.Builtin.Str.occurrences (Str.ofString "abcdefghijklmnopqrstuvwxyz") ⟨#[c]⟩ 0 (Str.ofString "abcdefghijklmnopqrstuvwxyz").length 1).isEmpty) = _
  rw [StrLaws.found_one]
  have e : (Str.ofString "abcdefghijklmnopqrstuvwxyz").cps.toList = List.range' 97 26 := by decide +kernel
  rw [e]
  simp only [lowB, List.mem_range'_1]
  by_cases h1 : 97 ≤ c <;> by_cases h2 : c ≤ 122 <;> simp [R.bind, evSs, evS, evO, evOs, evI, asgT, asgTs, sSeq, sAsg, sIf, sRet, sEx, sAugSub, sAug, taken, tst, fVar, fGlo, fBin, fCmp, fCmp2, fNeg, fNot, fAnd, fOr, fIfe, fDsp, fIdx, fSli, fRev, fBi, fCall, fIsi, fMet, gVar, gSub, gTup, gCons, gNil, fsCons, ofD, look, Sl.get, Opd.rd, Opd.rdk, Opd.take, rds, rdks, takes, box, D.frz, D.frzs, D.kids, cmpD, inD, getD?, sliD, sliC, optI, truth, biD, Bi.copies, runF, outsOf, enter, augD, setD, atP, Exps.plain, bAddI, bMulR, bMulL, bMod, bDiv, bPow, bPow39, bAddL, bAddS, eqD_int, frzs_ints, fzs_ints, L2.atI, L2.ixN, D.fzs, D.fz, big, line, callF, prep, back, m0, m1, m2, m3, m4, m5, m6, m7, m8, m9, m10, m11, m12, m13, m14, m15, m16, m17, m18, m19, m20, m21, h1, h2] <;> omega
theorem ok_asc {s : Str} (h : Asc s) : PyData.strOk s = true := by
  have h' := asc_mem.1 h
  simp only [PyData.strOk, Array.all_eq_true', decide_eq_true_eq]
  intro c hc
  have := h' c (by simpa [R.bind, evSs, evS, evO, evOs, evI, asgT, asgTs, sSeq, sAsg, sIf, sRet, sEx, sAugSub, sAug, taken, tst, fVar, fGlo, fBin, fCmp, fCmp2, fNeg, fNot, fAnd, fOr, fIfe, fDsp, fIdx, fSli, fRev, fBi, fCall, fIsi, fMet, gVar, gSub, gTup, gCons, gNil, fsCons, ofD, look, Sl.get, Opd.rd, Opd.rdk, Opd.take, rds, rdks, takes, box, D.frz, D.frzs, D.kids, cmpD, inD, getD?, sliD, sliC, optI, truth, biD, Bi.copies, runF, outsOf, enter, augD, setD, atP, Exps.plain, bAddI, bMulR, bMulL, bMod, bDiv, bPow, bPow39, bAddL, bAddS, eqD_int, frzs_ints, fzs_ints, L2.atI, L2.ixN, D.fzs, D.fz, big, line, callF, prep, back, m0, m1, m2, m3, m4, m5, m6, m7, m8, m9, m10, m11, m12, m13, m14, m15, m16, m17, m18, m19, m20, m21] using hc)
  omega
theorem shp_str {s : Str} (h : Asc s) : D.shp (.str s) = some (.str s) := by
  simp only [D.shp, D.py, SeqAt.shaped, PyData.canLay0, ok_asc h, PyData.depth]
  rfl
theorem pys_strs (ss : List Str) : D.pys (ss.map .str) = some (ss.map .str) := by
  induction ss with
  | nil => rfl
  | cons s ss ih => simp [R.bind, evSs, evS, evO, evOs, evI, asgT, asgTs, sSeq, sAsg, sIf, sRet, sEx, sAugSub, sAug, taken, tst, fVar, fGlo, fBin, fCmp, fCmp2, fNeg, fNot, fAnd, fOr, fIfe, fDsp, fIdx, fSli, fRev, fBi, fCall, fIsi, fMet, gVar, gSub, gTup, gCons, gNil, fsCons, ofD, look, Sl.get, Opd.rd, Opd.rdk, Opd.take, rds, rdks, takes, box, D.frz, D.frzs, D.kids, cmpD, inD, getD?, sliD, sliC, optI, truth, biD, Bi.copies, runF, outsOf, enter, augD, setD, atP, Exps.plain, bAddI, bMulR, bMulL, bMod, bDiv, bPow, bPow39, bAddL, bAddS, eqD_int, frzs_ints, fzs_ints, L2.atI, L2.ixN, D.fzs, D.fz, big, line, callF, prep, back, m0, m1, m2, m3, m4, m5, m6, m7, m8, m9, m10, m11, m12, m13, m14, m15, m16, m17, m18, m19, m20, m21, D.pys, D.py, ih]
theorem lay_strs (ss : List Str) (h : ∀ s ∈ ss, Asc s) : PyData.canLayAll0 (ss.map .str) = true := by
  induction ss with
  | nil => rfl
  | cons s ss ih =>
    have := ih fun x hx => h x (List.mem_cons_of_mem _ hx)
    simp [R.bind, evSs, evS, evO, evOs, evI, asgT, asgTs, sSeq, sAsg, sIf, sRet, sEx, sAugSub, sAug, taken, tst, fVar, fGlo, fBin, fCmp, fCmp2, fNeg, fNot, fAnd, fOr, fIfe, fDsp, fIdx, fSli, fRev, fBi, fCall, fIsi, fMet, gVar, gSub, gTup, gCons, gNil, fsCons, ofD, look, Sl.get, Opd.rd, Opd.rdk, Opd.take, rds, rdks, takes, box, D.frz, D.frzs, D.kids, cmpD, inD, getD?, sliD, sliC, optI, truth, biD, Bi.copies, runF, outsOf, enter, augD, setD, atP, Exps.plain, bAddI, bMulR, bMulL, bMod, bDiv, bPow, bPow39, bAddL, bAddS, eqD_int, frzs_ints, fzs_ints, L2.atI, L2.ixN, D.fzs, D.fz, big, line, callF, prep, back, m0, m1, m2, m3, m4, m5, m6, m7, m8, m9, m10, m11, m12, m13, m14, m15, m16, m17, m18, m19, m20, m21, PyData.canLayAll0, PyData.canLay0, this, ok_asc (h s (List.mem_cons_self ..))]
theorem dep_strs (ss : List Str) : PyData.depthAll (ss.map .str) = 0 := by
  induction ss with
  | nil => rfl
  | cons s ss ih => simp [R.bind, evSs, evS, evO, evOs, evI, asgT, asgTs, sSeq, sAsg, sIf, sRet, sEx, sAugSub, sAug, taken, tst, fVar, fGlo, fBin, fCmp, fCmp2, fNeg, fNot, fAnd, fOr, fIfe, fDsp, fIdx, fSli, fRev, fBi, fCall, fIsi, fMet, gVar, gSub, gTup, gCons, gNil, fsCons, ofD, look, Sl.get, Opd.rd, Opd.rdk, Opd.take, rds, rdks, takes, box, D.frz, D.frzs, D.kids, cmpD, inD, getD?, sliD, sliC, optI, truth, biD, Bi.copies, runF, outsOf, enter, augD, setD, atP, Exps.plain, bAddI, bMulR, bMulL, bMod, bDiv, bPow, bPow39, bAddL, bAddS, eqD_int, frzs_ints, fzs_ints, L2.atI, L2.ixN, D.fzs, D.fz, big, line, callF, prep, back, m0, m1, m2, m3, m4, m5, m6, m7, m8, m9, m10, m11, m12, m13, m14, m15, m16, m17, m18, m19, m20, m21, PyData.depthAll, PyData.depth, ih]
theorem shp_lst (o : Bool) (ss : List Str) (h : ∀ s ∈ ss, Asc s) : D.shp (.lst o (ss.map .str)) = some (.list (ss.map .str)) := by
  simp [R.bind, evSs, evS, evO, evOs, evI, asgT, asgTs, sSeq, sAsg, sIf, sRet, sEx, sAugSub, sAug, taken, tst, fVar, fGlo, fBin, fCmp, fCmp2, fNeg, fNot, fAnd, fOr, fIfe, fDsp, fIdx, fSli, fRev, fBi, fCall, fIsi, fMet, gVar, gSub, gTup, gCons, gNil, fsCons, ofD, look, Sl.get, Opd.rd, Opd.rdk, Opd.take, rds, rdks, takes, box, D.frz, D.frzs, D.kids, cmpD, inD, getD?, sliD, sliC, optI, truth, biD, Bi.copies, runF, outsOf, enter, augD, setD, atP, Exps.plain, bAddI, bMulR, bMulL, bMod, bDiv, bPow, bPow39, bAddL, bAddS, eqD_int, frzs_ints, fzs_ints, L2.atI, L2.ixN, D.fzs, D.fz, big, line, callF, prep, back, m0, m1, m2, m3, m4, m5, m6, m7, m8, m9, m10, m11, m12, m13, m14, m15, m16, m17, m18, m19, m20, m21, D.shp, D.py, pys_strs, SeqAt.shaped, PyData.canLay0, lay_strs ss h, PyData.depth, dep_strs]
theorem shp_tup (ss : List Str) (h : ∀ s ∈ ss, Asc s) : D.shp (.tup (ss.map .str)) = some (.tuple (ss.map .str)) := by
  simp [R.bind, evSs, evS, evO, evOs, evI, asgT, asgTs, sSeq, sAsg, sIf, sRet, sEx, sAugSub, sAug, taken, tst, fVar, fGlo, fBin, fCmp, fCmp2, fNeg, fNot, fAnd, fOr, fIfe, fDsp, fIdx, fSli, fRev, fBi, fCall, fIsi, fMet, gVar, gSub, gTup, gCons, gNil, fsCons, ofD, look, Sl.get, Opd.rd, Opd.rdk, Opd.take, rds, rdks, takes, box, D.frz, D.frzs, D.kids, cmpD, inD, getD?, sliD, sliC, optI, truth, biD, Bi.copies, runF, outsOf, enter, augD, setD, atP, Exps.plain, bAddI, bMulR, bMulL, bMod, bDiv, bPow, bPow39, bAddL, bAddS, eqD_int, frzs_ints, fzs_ints, L2.atI, L2.ixN, D.fzs, D.fz, big, line, callF, prep, back, m0, m1, m2, m3, m4, m5, m6, m7, m8, m9, m10, m11, m12, m13, m14, m15, m16, m17, m18, m19, m20, m21, D.shp, D.py, pys_strs, SeqAt.shaped, PyData.canLay0, lay_strs ss h, PyData.depth, dep_strs]
theorem eqv_str (a b : Str) : PyData.eqv (.str a) (.str b) = (a == b) := by simp only [PyData.eqv]
theorem wds_map : wds = wS.map .str := rfl
theorem wS_asc : ∀ s ∈ wS, Asc s := by
  have : (wS.all fun s => s.cps.toList.all fun c => decide (c < 128)) = true := by decide +kernel
  exact fun s hs => List.all_eq_true.1 this s hs
theorem shp_wds (o : Bool) : D.shp (.lst o wds) = some (.list (wS.map .str)) := shp_lst o wS wS_asc
theorem shp_wdt : D.shp (.tup wds) = some (.tuple (wS.map .str)) := shp_tup wS wS_asc
theorem any_wS (s : Str) : ((wS.map PyData.str).any fun z => PyData.eqv z (.str s)) = wdB s := by
  rw [List.any_map]
  simp only [Function.comp_def, eqv_str, wdB]
theorem in_wds (o : Bool) {s : Str} (a : Asc s) : inD (.str s) (.lst o wds) = some (wdB s) := by
  simp only [inD, shp_str a, shp_wds, any_wS]
theorem in_wdt {s : Str} (a : Asc s) : inD (.str s) (.tup wds) = some (wdB s) := by
  have h : wds.all isFlat = true := by decide +kernel
  simp only [inD, shp_str a, shp_wdt, any_wS, h, isFlat, Bool.and_self, if_true]
theorem lt_lo (c : Nat) : (!decide ([c] < (Str.ofString "a").cps.toList)) = decide (97 ≤ c) := by
  have e : (Str.ofString "a").cps.toList = [97] := by decide +kernel
  rw [e]
  have i : ([c] < [97]) ↔ c < 97 := by simp [R.bind, evSs, evS, evO, evOs, evI, asgT, asgTs, sSeq, sAsg, sIf, sRet, sEx, sAugSub, sAug, taken, tst, fVar, fGlo, fBin, fCmp, fCmp2, fNeg, fNot, fAnd, fOr, fIfe, fDsp, fIdx, fSli, fRev, fBi, fCall, fIsi, fMet, gVar, gSub, gTup, gCons, gNil, fsCons, ofD, look, Sl.get, Opd.rd, Opd.rdk, Opd.take, rds, rdks, takes, box, D.frz, D.frzs, D.kids, cmpD, inD, getD?, sliD, sliC, optI, truth, biD, Bi.copies, runF, outsOf, enter, augD, setD, atP, Exps.plain, bAddI, bMulR, bMulL, bMod, bDiv, bPow, bPow39, bAddL, bAddS, eqD_int, frzs_ints, fzs_ints, L2.atI, L2.ixN, D.fzs, D.fz, big, line, callF, prep, back, m0, m1, m2, m3, m4, m5, m6, m7, m8, m9, m10, m11, m12, m13, m14, m15, m16, m17, m18, m19, m20, m21, List.cons_lt_cons_iff]
  simp only [i]
  by_cases h : 97 ≤ c
  · simp [R.bind, evSs, evS, evO, evOs, evI, asgT, asgTs, sSeq, sAsg, sIf, sRet, sEx, sAugSub, sAug, taken, tst, fVar, fGlo, fBin, fCmp, fCmp2, fNeg, fNot, fAnd, fOr, fIfe, fDsp, fIdx, fSli, fRev, fBi, fCall, fIsi, fMet, gVar, gSub, gTup, gCons, gNil, fsCons, ofD, look, Sl.get, Opd.rd, Opd.rdk, Opd.take, rds, rdks, takes, box, D.frz, D.frzs, D.kids, cmpD, inD, getD?, sliD, sliC, optI, truth, biD, Bi.copies, runF, outsOf, enter, augD, setD, atP, Exps.plain, bAddI, bMulR, bMulL, bMod, bDiv, bPow, bPow39, bAddL, bAddS, eqD_int, frzs_ints, fzs_ints, L2.atI, L2.ixN, D.fzs, D.fz, big, line, callF, prep, back, m0, m1, m2, m3, m4, m5, m6, m7, m8, m9, m10, m11, m12, m13, m14, m15, m16, m17, m18, m19, m20, m21, h, Nat.not_lt.2 h]
  · simp [R.bind, evSs, evS, evO, evOs, evI, asgT, asgTs, sSeq, sAsg, sIf, sRet, sEx, sAugSub, sAug, taken, tst, fVar, fGlo, fBin, fCmp, fCmp2, fNeg, fNot, fAnd, fOr, fIfe, fDsp, fIdx, fSli, fRev, fBi, fCall, fIsi, fMet, gVar, gSub, gTup, gCons, gNil, fsCons, ofD, look, Sl.get, Opd.rd, Opd.rdk, Opd.take, rds, rdks, takes, box, D.frz, D.frzs, D.kids, cmpD, inD, getD?, sliD, sliC, optI, truth, biD, Bi.copies, runF, outsOf, enter, augD, setD, atP, Exps.plain, bAddI, bMulR, bMulL, bMod, bDiv, bPow, bPow39, bAddL, bAddS, eqD_int, frzs_ints, fzs_ints, L2.atI, L2.ixN, D.fzs, D.fz, big, line, callF, prep, back, m0, m1, m2, m3, m4, m5, m6, m7, m8, m9, m10, m11, m12, m13, m14, m15, m16, m17, m18, m19, m20, m21, h, Nat.not_le.1 h]
theorem lt_hi (c : Nat) : (!decide ((Str.ofString "z").cps.toList < [c])) = decide (c ≤ 122) := by
  have e : (Str.ofString "z").cps.toList = [122] := by decide +kernel
  rw [e]
  have i : ([122] < [c]) ↔ 122 < c := by simp [R.bind, evSs, evS, evO, evOs, evI, asgT, asgTs, sSeq, sAsg, sIf, sRet, sEx, sAugSub, sAug, taken, tst, fVar, fGlo, fBin, fCmp, fCmp2, fNeg, fNot, fAnd, fOr, fIfe, fDsp, fIdx, fSli, fRev, fBi, fCall, fIsi, fMet, gVar, gSub, gTup, gCons, gNil, fsCons, ofD, look, Sl.get, Opd.rd, Opd.rdk, Opd.take, rds, rdks, takes, box, D.frz, D.frzs, D.kids, cmpD, inD, getD?, sliD, sliC, optI, truth, biD, Bi.copies, runF, outsOf, enter, augD, setD, atP, Exps.plain, bAddI, bMulR, bMulL, bMod, bDiv, bPow, bPow39, bAddL, bAddS, eqD_int, frzs_ints, fzs_ints, L2.atI, L2.ixN, D.fzs, D.fz, big, line, callF, prep, back, m0, m1, m2, m3, m4, m5, m6, m7, m8, m9, m10, m11, m12, m13, m14, m15, m16, m17, m18, m19, m20, m21, List.cons_lt_cons_iff]
  simp only [i]
  by_cases h : c ≤ 122
  · simp [R.bind, evSs, evS, evO, evOs, evI, asgT, asgTs, sSeq, sAsg, sIf, sRet, sEx, sAugSub, sAug, taken, tst, fVar, fGlo, fBin, fCmp, fCmp2, fNeg, fNot, fAnd, fOr, fIfe, fDsp, fIdx, fSli, fRev, fBi, fCall, fIsi, fMet, gVar, gSub, gTup, gCons, gNil, fsCons, ofD, look, Sl.get, Opd.rd, Opd.rdk, Opd.take, rds, rdks, takes, box, D.frz, D.frzs, D.kids, cmpD, inD, getD?, sliD, sliC, optI, truth, biD, Bi.copies, runF, outsOf, enter, augD, setD, atP, Exps.plain, bAddI, bMulR, bMulL, bMod, bDiv, bPow, bPow39, bAddL, bAddS, eqD_int, frzs_ints, fzs_ints, L2.atI, L2.ixN, D.fzs, D.fz, big, line, callF, prep, back, m0, m1, m2, m3, m4, m5, m6, m7, m8, m9, m10, m11, m12, m13, m14, m15, m16, m17, m18, m19, m20, m21, h, Nat.not_lt.2 h]
  · simp [R.bind, evSs, evS, evO, evOs, evI, asgT, asgTs, sSeq, sAsg, sIf, sRet, sEx, sAugSub, sAug, taken, tst, fVar, fGlo, fBin, fCmp, fCmp2, fNeg, fNot, fAnd, fOr, fIfe, fDsp, fIdx, fSli, fRev, fBi, fCall, fIsi, fMet, gVar, gSub, gTup, gCons, gNil, fsCons, ofD, look, Sl.get, Opd.rd, Opd.rdk, Opd.take, rds, rdks, takes, box, D.frz, D.frzs, D.kids, cmpD, inD, getD?, sliD, sliC, optI, truth, biD, Bi.copies, runF, outsOf, enter, augD, setD, atP, Exps.plain, bAddI, bMulR, bMulL, bMod, bDiv, bPow, bPow39, bAddL, bAddS, eqD_int, frzs_ints, fzs_ints, L2.atI, L2.ixN, D.fzs, D.fz, big, line, callF, prep, back, m0, m1, m2, m3, m4, m5, m6, m7, m8, m9, m10, m11, m12, m13, m14, m15, m16, m17, m18, m19, m20, m21, h, Nat.not_le.1 h]
def one (c : Nat) : D := .str ⟨#[c]⟩
theorem lc8 (P : Prog) (cf : Nat → List D → C) (x : D) : ∀ (cs : List Nat) (acc : List D), acc.length + cs.length ≤ 1000 →
    forC (gVar [] 1) (leaf1 (evO P cf [] (.var 1))) (evIf P cf [] (.cons (.not (.cmp2 .le .le (.cst (.str "a")) (.var 1) (.cst (.str "z")))) .nil)) [1] (cs.map one) acc [.v x, .no] = .ok (acc ++ (cs.filter fun c => !lowB c).map one, [.v x, .no]) := by
  intro cs
  induction cs with
  | nil => intro acc h; simp [R.bind, evSs, evS, evO, evOs, evI, asgT, asgTs, sSeq, sAsg, sIf, sRet, sEx, sAugSub, sAug, taken, tst, fVar, fGlo, fBin, fCmp, fCmp2, fNeg, fNot, fAnd, fOr, fIfe, fDsp, fIdx, fSli, fRev, fBi, fCall, fIsi, fMet, gVar, gSub, gTup, gCons, gNil, fsCons, ofD, look, Sl.get, Opd.rd, Opd.rdk, Opd.take, rds, rdks, takes, box, D.frz, D.frzs, D.kids, cmpD, inD, getD?, sliD, sliC, optI, truth, biD, Bi.copies, runF, outsOf, enter, augD, setD, atP, Exps.plain, bAddI, bMulR, bMulL, bMod, bDiv, bPow, bPow39, bAddL, bAddS, eqD_int, frzs_ints, fzs_ints, L2.atI, L2.ixN, D.fzs, D.fz, big, line, callF, prep, back, m0, m1, m2, m3, m4, m5, m6, m7, m8, m9, m10, m11, m12, m13, m14, m15, m16, m17, m18, m19, m20, m21, forC]
  | cons c cs ih =>
    intro acc h
    simp only [List.length_cons] at h
    have l1 := lt_lo c
    have l2 := lt_hi c
    by_cases h1 : 97 ≤ c
    · by_cases h2 : c ≤ 122
      · have ih' := ih acc (by omega)
        simp only [h1, h2, decide_true] at l1 l2
        simp [R.bind, evSs, evS, evO, evOs, evI, asgT, asgTs, sSeq, sAsg, sIf, sRet, sEx, sAugSub, sAug, taken, tst, fVar, fGlo, fBin, fCmp, fCmp2, fNeg, fNot, fAnd, fOr, fIfe, fDsp, fIdx, fSli, fRev, fBi, fCall, fIsi, fMet, gVar, gSub, gTup, gCons, gNil, fsCons, ofD, look, Sl.get, Opd.rd, Opd.rdk, Opd.take, rds, rdks, takes, box, D.frz, D.frzs, D.kids, cmpD, inD, getD?, sliD, sliC, optI, truth, biD, Bi.copies, runF, outsOf, enter, augD, setD, atP, Exps.plain, bAddI, bMulR, bMulL, bMod, bDiv, bPow, bPow39, bAddL, bAddS, eqD_int, frzs_ints, fzs_ints, L2.atI, L2.ixN, D.fzs, D.fz, big, line, callF, prep, back, m0, m1, m2, m3, m4, m5, m6, m7, m8, m9, m10, m11, m12, m13, m14, m15, m16, m17, m18, m19, m20, m21, forC, evIf, ifCons, one, l1, l2, Z.wipe, lowB, h1, h2] at ih' ⊢
        exact ih'
      · have ih' := ih (acc ++ [one c]) (by simp only [List.length_append, List.length_cons, List.length_nil]; omega)
        have h5 : acc.length < 1048576 := by omega
        simp only [h1, h2, decide_true, decide_false] at l1 l2
        simp [R.bind, evSs, evS, evO, evOs, evI, asgT, asgTs, sSeq, sAsg, sIf, sRet, sEx, sAugSub, sAug, taken, tst, fVar, fGlo, fBin, fCmp, fCmp2, fNeg, fNot, fAnd, fOr, fIfe, fDsp, fIdx, fSli, fRev, fBi, fCall, fIsi, fMet, gVar, gSub, gTup, gCons, gNil, fsCons, ofD, look, Sl.get, Opd.rd, Opd.rdk, Opd.take, rds, rdks, takes, box, D.frz, D.frzs, D.kids, cmpD, inD, getD?, sliD, sliC, optI, truth, biD, Bi.copies, runF, outsOf, enter, augD, setD, atP, Exps.plain, bAddI, bMulR, bMulL, bMod, bDiv, bPow, bPow39, bAddL, bAddS, eqD_int, frzs_ints, fzs_ints, L2.atI, L2.ixN, D.fzs, D.fz, big, line, callF, prep, back, m0, m1, m2, m3, m4, m5, m6, m7, m8, m9, m10, m11, m12, m13, m14, m15, m16, m17, m18, m19, m20, m21, forC, evIf, ifCons, one, l1, l2, Z.wipe, lowB, h1, h2, leaf1, h5] at ih' ⊢
        exact ih'
    · have ih' := ih (acc ++ [one c]) (by simp only [List.length_append, List.length_cons, List.length_nil]; omega)
      have h5 : acc.length < 1048576 := by omega
      simp only [h1, decide_false] at l1
      simp [R.bind, evSs, evS, evO, evOs, evI, asgT, asgTs, sSeq, sAsg, sIf, sRet, sEx, sAugSub, sAug, taken, tst, fVar, fGlo, fBin, fCmp, fCmp2, fNeg, fNot, fAnd, fOr, fIfe, fDsp, fIdx, fSli, fRev, fBi, fCall, fIsi, fMet, gVar, gSub, gTup, gCons, gNil, fsCons, ofD, look, Sl.get, Opd.rd, Opd.rdk, Opd.take, rds, rdks, takes, box, D.frz, D.frzs, D.kids, cmpD, inD, getD?, sliD, sliC, optI, truth, biD, Bi.copies, runF, outsOf, enter, augD, setD, atP, Exps.plain, bAddI, bMulR, bMulL, bMod, bDiv, bPow, bPow39, bAddL, bAddS, eqD_int, frzs_ints, fzs_ints, L2.atI, L2.ixN, D.fzs, D.fz, big, line, callF, prep, back, m0, m1, m2, m3, m4, m5, m6, m7, m8, m9, m10, m11, m12, m13, m14, m15, m16, m17, m18, m19, m20, m21, forC, evIf, ifCons, one, l1, Z.wipe, lowB, h1, leaf1, h5] at ih' ⊢
      exact ih'
theorem lc1 (cf : Nat → List D → C) (x : D) : ∀ (cs : List Nat) (acc : List D), acc.length + cs.length ≤ 1000 →
    forC (gVar [] 1) (leaf1 (evO txt.P cf [] (.cmp .inn (.var 1) (.glo 0)))) (evIf txt.P cf [] .nil) [1] (cs.map one) acc [.v x, .no] = .ok (acc ++ cs.map (fun c => .bl (lowB c)), [.v x, .no]) := by
  intro cs
  induction cs with
  | nil => intro acc h; simp [R.bind, evSs, evS, evO, evOs, evI, asgT, asgTs, sSeq, sAsg, sIf, sRet, sEx, sAugSub, sAug, taken, tst, fVar, fGlo, fBin, fCmp, fCmp2, fNeg, fNot, fAnd, fOr, fIfe, fDsp, fIdx, fSli, fRev, fBi, fCall, fIsi, fMet, gVar, gSub, gTup, gCons, gNil, fsCons, ofD, look, Sl.get, Opd.rd, Opd.rdk, Opd.take, rds, rdks, takes, box, D.frz, D.frzs, D.kids, cmpD, inD, getD?, sliD, sliC, optI, truth, biD, Bi.copies, runF, outsOf, enter, augD, setD, atP, Exps.plain, bAddI, bMulR, bMulL, bMod, bDiv, bPow, bPow39, bAddL, bAddS, eqD_int, frzs_ints, fzs_ints, L2.atI, L2.ixN, D.fzs, D.fz, big, line, callF, prep, back, m0, m1, m2, m3, m4, m5, m6, m7, m8, m9, m10, m11, m12, m13, m14, m15, m16, m17, m18, m19, m20, m21, forC]
  | cons c cs ih =>
    intro acc h
    simp only [List.length_cons] at h
    have ih' := ih (acc ++ [.bl (lowB c)]) (by simp only [List.length_append, List.length_cons, List.length_nil]; omega)
    have h5 : acc.length < 1048576 := by omega
    have g : txt.P.glob[0]? = some (.str "abcdefghijklmnopqrstuvwxyz") := rfl
    have l := low_in c
    simp [R.bind, evSs, evS, evO, evOs, evI, asgT, asgTs, sSeq, sAsg, sIf, sRet, sEx, sAugSub, sAug, taken, tst, fVar, fGlo, fBin, fCmp, fCmp2, fNeg, fNot, fAnd, fOr, fIfe, fDsp, fIdx, fSli, fRev, fBi, fCall, fIsi, fMet, gVar, gSub, gTup, gCons, gNil, fsCons, ofD, look, Sl.get, Opd.rd, Opd.rdk, Opd.take, rds, rdks, takes, box, D.frz, D.frzs, D.kids, cmpD, inD, getD?, sliD, sliC, optI, truth, biD, Bi.copies, runF, outsOf, enter, augD, setD, atP, Exps.plain, bAddI, bMulR, bMulL, bMod, bDiv, bPow, bPow39, bAddL, bAddS, eqD_int, frzs_ints, fzs_ints, L2.atI, L2.ixN, D.fzs, D.fz, big, line, callF, prep, back, m0, m1, m2, m3, m4, m5, m6, m7, m8, m9, m10, m11, m12, m13, m14, m15, m16, m17, m18, m19, m20, m21, forC, evIf, one, Z.wipe, leaf1, h5, g, l] at ih' ⊢
    exact ih'
end Law

set_option Elab.async false
set_option linter.all false
set_option maxRecDepth 100000
set_option maxHeartbeats 400000
namespace Law
open Z PySem


theorem g1 : txt.P.glob[1]? = some (.int 8) := rfl
theorem g2 : txt.P.glob[2]? = some (.tup wds) := rfl
def okLen (s : Str) : Prop := 0 < s.length ∧ s.length ≤ 8
theorem n1a (cf : Nat → List D → C) (x : D) (h : isiD x .str = some false) : evS txt.P cf [] (.ifS (.or (.not (.isi (.var 0) .str)) (.or (.not (.cmp2 .lt .le (.cst (.int 0)) (.bi .len (.cons (.var 0) .nil)) (.glo 1))) (.cmp .inn (.var 0) (.glo 2)))) (.cons (.ret (.cst (.bl false)))
    .nil) .nil) [.v x, .no] = .ok (.rt (.bl false), [.v x, .no]) := by
  simp [R.bind, evSs, evS, evO, evOs, evI, asgT, asgTs, sSeq, sAsg, sIf, sRet, sEx, sAugSub, sAug, taken, tst, fVar, fGlo, fBin, fCmp, fCmp2, fNeg, fNot, fAnd, fOr, fIfe, fDsp, fIdx, fSli, fRev, fBi, fCall, fIsi, fMet, gVar, gSub, gTup, gCons, gNil, fsCons, ofD, look, Sl.get, Opd.rd, Opd.rdk, Opd.take, rds, rdks, takes, box, D.frz, D.frzs, D.kids, cmpD, inD, getD?, sliD, sliC, optI, truth, biD, Bi.copies, runF, outsOf, enter, augD, setD, atP, Exps.plain, bAddI, bMulR, bMulL, bMod, bDiv, bPow, bPow39, bAddL, bAddS, eqD_int, frzs_ints, fzs_ints, L2.atI, L2.ixN, D.fzs, D.fz, big, line, callF, prep, back, m0, m1, m2, m3, m4, m5, m6, m7, m8, m9, m10, m11, m12, m13, m14, m15, m16, m17, m18, m19, m20, m21, h]
theorem n1b (cf : Nat → List D → C) (s : Str) (h : ¬ okLen s) (hl : s.length ≤ 100) : evS txt.P cf [] (.ifS (.or (.not (.isi (.var 0) .str)) (.or (.not (.cmp2 .lt .le (.cst (.int 0)) (.bi .len (.cons (.var 0) .nil)) (.glo 1))) (.cmp .inn (.var 0) (.glo 2)))) (.cons (.ret (.cst (.bl false)))
    .nil) .nil) [.v (.str s), .no] = .ok (.rt (.bl false), [.v (.str s), .no]) := by
  have q : s.length ≤ 1048576 := by omega
  by_cases h1 : 0 < s.length
  · have h2 : ¬ s.length ≤ 8 := fun h2 => h ⟨h1, h2⟩
    have h2' : ¬ (s.length : Int) ≤ 8 := by omega
    simp [R.bind, evSs, evS, evO, evOs, evI, asgT, asgTs, sSeq, sAsg, sIf, sRet, sEx, sAugSub, sAug, taken, tst, fVar, fGlo, fBin, fCmp, fCmp2, fNeg, fNot, fAnd, fOr, fIfe, fDsp, fIdx, fSli, fRev, fBi, fCall, fIsi, fMet, gVar, gSub, gTup, gCons, gNil, fsCons, ofD, look, Sl.get, Opd.rd, Opd.rdk, Opd.take, rds, rdks, takes, box, D.frz, D.frzs, D.kids, cmpD, inD, getD?, sliD, sliC, optI, truth, biD, Bi.copies, runF, outsOf, enter, augD, setD, atP, Exps.plain, bAddI, bMulR, bMulL, bMod, bDiv, bPow, bPow39, bAddL, bAddS, eqD_int, frzs_ints, fzs_ints, L2.atI, L2.ixN, D.fzs, D.fz, big, line, callF, prep, back, m0, m1, m2, m3, m4, m5, m6, m7, m8, m9, m10, m11, m12, m13, m14, m15, m16, m17, m18, m19, m20, m21, isiD, isiV, q, h1, h2, h2', g1]
  · simp [R.bind, evSs, evS, evO, evOs, evI, asgT, asgTs, sSeq, sAsg, sIf, sRet, sEx, sAugSub, sAug, taken, tst, fVar, fGlo, fBin, fCmp, fCmp2, fNeg, fNot, fAnd, fOr, fIfe, fDsp, fIdx, fSli, fRev, fBi, fCall, fIsi, fMet, gVar, gSub, gTup, gCons, gNil, fsCons, ofD, look, Sl.get, Opd.rd, Opd.rdk, Opd.take, rds, rdks, takes, box, D.frz, D.frzs, D.kids, cmpD, inD, getD?, sliD, sliC, optI, truth, biD, Bi.copies, runF, outsOf, enter, augD, setD, atP, Exps.plain, bAddI, bMulR, bMulL, bMod, bDiv, bPow, bPow39, bAddL, bAddS, eqD_int, frzs_ints, fzs_ints, L2.atI, L2.ixN, D.fzs, D.fz, big, line, callF, prep, back, m0, m1, m2, m3, m4, m5, m6, m7, m8, m9, m10, m11, m12, m13, m14, m15, m16, m17, m18, m19, m20, m21, isiD, isiV, q, h1, g1]
theorem n1c (cf : Nat → List D → C) (s : Str) (h : okLen s) (ha : Asc s) : evS txt.P cf [] (.ifS (.or (.not (.isi (.var 0) .str)) (.or (.not (.cmp2 .lt .le (.cst (.int 0)) (.bi .len (.cons (.var 0) .nil)) (.glo 1))) (.cmp .inn (.var 0) (.glo 2)))) (.cons (.ret (.cst (.bl false)))
    .nil) .nil) [.v (.str s), .no] = .ok (if wdB s then .rt (.bl false) else .nx, [.v (.str s), .no]) := by
  have q : s.length ≤ 1048576 := by have := h.2; omega
  have h1 := h.1
  have h2 : (s.length : Int) ≤ 8 := by have := h.2; omega
  have i := in_wdt ha
  cases hb : wdB s <;> simp [R.bind, evSs, evS, evO, evOs, evI, asgT, asgTs, sSeq, sAsg, sIf, sRet, sEx, sAugSub, sAug, taken, tst, fVar, fGlo, fBin, fCmp, fCmp2, fNeg, fNot, fAnd, fOr, fIfe, fDsp, fIdx, fSli, fRev, fBi, fCall, fIsi, fMet, gVar, gSub, gTup, gCons, gNil, fsCons, ofD, look, Sl.get, Opd.rd, Opd.rdk, Opd.take, rds, rdks, takes, box, D.frz, D.frzs, D.kids, cmpD, getD?, sliD, sliC, optI, truth, biD, Bi.copies, runF, outsOf, enter, augD, setD, atP, Exps.plain, bAddI, bMulR, bMulL, bMod, bDiv, bPow, bPow39, bAddL, bAddS, eqD_int, frzs_ints, fzs_ints, L2.atI, L2.ixN, D.fzs, D.fz, big, line, callF, prep, back, m0, m1, m2, m3, m4, m5, m6, m7, m8, m9, m10, m11, m12, m13, m14, m15, m16, m17, m18, m19, m20, m21, isiD, isiV, q, h1, h2, g1, g2, i, hb]
theorem n1d (cf : Nat → List D → C) (s : Str) (h : okLen s) : evS txt.P cf [] (.ret (.bi .all (.cons (.lc [1] (.cmp .inn (.var 1) (.glo 0)) (.cons (.var 1) (.ex (.var 0)) .nil .nil)) .nil))) [.v (.str s), .no] = .ok (.rt (.bl (s.cps.toList.all lowB)), [.v (.str s), .no]) := by
  have l := lc1 cf (.str s) s.cps.toList [] (by have := h.2; have e : s.cps.toList.length = s.length := rfl; simp only [List.length_nil]; omega)
  have hb : ∀ cs : List Nat, boolsOf (cs.map fun c => D.bl (lowB c)) = some (cs.map lowB) := by
    intro cs; induction cs with
    | nil => rfl
    | cons c cs ih => simp [R.bind, evSs, evS, evO, evOs, evI, asgT, asgTs, sSeq, sAsg, sIf, sRet, sEx, sAugSub, sAug, taken, tst, fVar, fGlo, fBin, fCmp, fCmp2, fNeg, fNot, fAnd, fOr, fIfe, fDsp, fIdx, fSli, fRev, fBi, fCall, fIsi, fMet, gVar, gSub, gTup, gCons, gNil, fsCons, ofD, look, Sl.get, Opd.rd, Opd.rdk, Opd.take, rds, rdks, takes, box, D.frz, D.frzs, D.kids, cmpD, inD, getD?, sliD, sliC, optI, truth, biD, Bi.copies, runF, outsOf, enter, augD, setD, atP, Exps.plain, bAddI, bMulR, bMulL, bMod, bDiv, bPow, bPow39, bAddL, bAddS, eqD_int, frzs_ints, fzs_ints, L2.atI, L2.ixN, D.fzs, D.fz, big, line, callF, prep, back, m0, m1, m2, m3, m4, m5, m6, m7, m8, m9, m10, m11, m12, m13, m14, m15, m16, m17, m18, m19, m20, m21, boolsOf, ih]
  simp only [List.nil_append] at l
  have e : (fun c => D.str ⟨#[c]⟩) = one := rfl
  simp only [evS, sRet, evO, evOs, fBi, fsCons, fLc, evC, cCons, iEx, fixed, evI, fVar, evIf, asgT]
  simp only [evO, evIf] at l
  simp [R.bind, evSs, evS, evO, evOs, evI, asgT, asgTs, sSeq, sAsg, sIf, sRet, sEx, sAugSub, sAug, taken, tst, fVar, fGlo, fBin, fCmp, fCmp2, fNeg, fNot, fAnd, fOr, fIfe, fDsp, fIdx, fSli, fRev, fBi, fCall, fIsi, fMet, gVar, gSub, gTup, gCons, gNil, fsCons, ofD, look, Sl.get, Opd.rd, Opd.rdk, Opd.take, rds, rdks, takes, box, D.frz, D.frzs, D.kids, cmpD, inD, getD?, sliD, sliC, optI, truth, biD, Bi.copies, runF, outsOf, enter, augD, setD, atP, Exps.plain, bAddI, bMulR, bMulL, bMod, bDiv, bPow, bPow39, bAddL, bAddS, eqD_int, frzs_ints, fzs_ints, L2.atI, L2.ixN, D.fzs, D.fz, big, line, callF, prep, back, m0, m1, m2, m3, m4, m5, m6, m7, m8, m9, m10, m11, m12, m13, m14, m15, m16, m17, m18, m19, m20, m21, Opd.fix, iterOf, e, ownOk, Z.wipe, l, Z.unwipe, hb, evIf]
theorem n8a (cf : Nat → List D → C) (x : D) (h : isiD x .str = some false) : evS txt.P cf [] (.ifS (.or (.not (.isi (.var 0) .str)) (.not (.cmp2 .lt .lt (.cst (.int 0)) (.bi .len (.cons (.var 0) .nil)) (.cst (.int 9))))) (.cons (.ret (.cst (.bl false)))
    .nil) .nil) [.v x, .no] = .ok (.rt (.bl false), [.v x, .no]) := by
  simp [R.bind, evSs, evS, evO, evOs, evI, asgT, asgTs, sSeq, sAsg, sIf, sRet, sEx, sAugSub, sAug, taken, tst, fVar, fGlo, fBin, fCmp, fCmp2, fNeg, fNot, fAnd, fOr, fIfe, fDsp, fIdx, fSli, fRev, fBi, fCall, fIsi, fMet, gVar, gSub, gTup, gCons, gNil, fsCons, ofD, look, Sl.get, Opd.rd, Opd.rdk, Opd.take, rds, rdks, takes, box, D.frz, D.frzs, D.kids, cmpD, inD, getD?, sliD, sliC, optI, truth, biD, Bi.copies, runF, outsOf, enter, augD, setD, atP, Exps.plain, bAddI, bMulR, bMulL, bMod, bDiv, bPow, bPow39, bAddL, bAddS, eqD_int, frzs_ints, fzs_ints, L2.atI, L2.ixN, D.fzs, D.fz, big, line, callF, prep, back, m0, m1, m2, m3, m4, m5, m6, m7, m8, m9, m10, m11, m12, m13, m14, m15, m16, m17, m18, m19, m20, m21, h]
theorem n8b (cf : Nat → List D → C) (s : Str) (h : ¬ okLen s) (hl : s.length ≤ 100) : evS txt.P cf [] (.ifS (.or (.not (.isi (.var 0) .str)) (.not (.cmp2 .lt .lt (.cst (.int 0)) (.bi .len (.cons (.var 0) .nil)) (.cst (.int 9))))) (.cons (.ret (.cst (.bl false)))
    .nil) .nil) [.v (.str s), .no] = .ok (.rt (.bl false), [.v (.str s), .no]) := by
  have q : s.length ≤ 1048576 := by omega
  by_cases h1 : 0 < s.length
  · have h2 : ¬ s.length ≤ 8 := fun h2 => h ⟨h1, h2⟩
    have h2' : ¬ (s.length : Int) < 9 := by omega
    simp [R.bind, evSs, evS, evO, evOs, evI, asgT, asgTs, sSeq, sAsg, sIf, sRet, sEx, sAugSub, sAug, taken, tst, fVar, fGlo, fBin, fCmp, fCmp2, fNeg, fNot, fAnd, fOr, fIfe, fDsp, fIdx, fSli, fRev, fBi, fCall, fIsi, fMet, gVar, gSub, gTup, gCons, gNil, fsCons, ofD, look, Sl.get, Opd.rd, Opd.rdk, Opd.take, rds, rdks, takes, box, D.frz, D.frzs, D.kids, cmpD, inD, getD?, sliD, sliC, optI, truth, biD, Bi.copies, runF, outsOf, enter, augD, setD, atP, Exps.plain, bAddI, bMulR, bMulL, bMod, bDiv, bPow, bPow39, bAddL, bAddS, eqD_int, frzs_ints, fzs_ints, L2.atI, L2.ixN, D.fzs, D.fz, big, line, callF, prep, back, m0, m1, m2, m3, m4, m5, m6, m7, m8, m9, m10, m11, m12, m13, m14, m15, m16, m17, m18, m19, m20, m21, isiD, isiV, q, h1, h2']
  · simp [R.bind, evSs, evS, evO, evOs, evI, asgT, asgTs, sSeq, sAsg, sIf, sRet, sEx, sAugSub, sAug, taken, tst, fVar, fGlo, fBin, fCmp, fCmp2, fNeg, fNot, fAnd, fOr, fIfe, fDsp, fIdx, fSli, fRev, fBi, fCall, fIsi, fMet, gVar, gSub, gTup, gCons, gNil, fsCons, ofD, look, Sl.get, Opd.rd, Opd.rdk, Opd.take, rds, rdks, takes, box, D.frz, D.frzs, D.kids, cmpD, inD, getD?, sliD, sliC, optI, truth, biD, Bi.copies, runF, outsOf, enter, augD, setD, atP, Exps.plain, bAddI, bMulR, bMulL, bMod, bDiv, bPow, bPow39, bAddL, bAddS, eqD_int, frzs_ints, fzs_ints, L2.atI, L2.ixN, D.fzs, D.fz, big, line, callF, prep, back, m0, m1, m2, m3, m4, m5, m6, m7, m8, m9, m10, m11, m12, m13, m14, m15, m16, m17, m18, m19, m20, m21, isiD, isiV, q, h1]
theorem n8c (cf : Nat → List D → C) (s : Str) (h : okLen s) : evS txt.P cf [] (.ifS (.or (.not (.isi (.var 0) .str)) (.not (.cmp2 .lt .lt (.cst (.int 0)) (.bi .len (.cons (.var 0) .nil)) (.cst (.int 9))))) (.cons (.ret (.cst (.bl false)))
    .nil) .nil) [.v (.str s), .no] = .ok (.nx, [.v (.str s), .no]) := by
  have q : s.length ≤ 1048576 := by have := h.2; omega
  have h1 := h.1
  have h2 : (s.length : Int) < 9 := by have := h.2; omega
  simp [R.bind, evSs, evS, evO, evOs, evI, asgT, asgTs, sSeq, sAsg, sIf, sRet, sEx, sAugSub, sAug, taken, tst, fVar, fGlo, fBin, fCmp, fCmp2, fNeg, fNot, fAnd, fOr, fIfe, fDsp, fIdx, fSli, fRev, fBi, fCall, fIsi, fMet, gVar, gSub, gTup, gCons, gNil, fsCons, ofD, look, Sl.get, Opd.rd, Opd.rdk, Opd.take, rds, rdks, takes, box, D.frz, D.frzs, D.kids, cmpD, inD, getD?, sliD, sliC, optI, truth, biD, Bi.copies, runF, outsOf, enter, augD, setD, atP, Exps.plain, bAddI, bMulR, bMulL, bMod, bDiv, bPow, bPow39, bAddL, bAddS, eqD_int, frzs_ints, fzs_ints, L2.atI, L2.ixN, D.fzs, D.fz, big, line, callF, prep, back, m0, m1, m2, m3, m4, m5, m6, m7, m8, m9, m10, m11, m12, m13, m14, m15, m16, m17, m18, m19, m20, m21, isiD, isiV, q, h1, h2]
theorem n8e (cf : Nat → List D → C) (s : Str) (ha : Asc s) : evS txt.P cf [] (.ifS (.cmp .inn (.var 0) (.lst (.cons (.cst (.str "alike")) (.cons (.cst (.str "go")) (.cons (.cst (.str "if")) (.cons (.cst (.str "no")) (.cons (.cst (.str "tell")) (.cons (.cst (.str "unlike")) (.cons (.cst (.str "with")) (.cons (.cst (.str "yes")) .nil)))))))))) (.cons (.ret (.cst (.bl false)))
    .nil) .nil) [.v (.str s), .no] = .ok (if wdB s then .rt (.bl false) else .nx, [.v (.str s), .no]) := by
  have i := in_wds true ha
  simp only [wds] at i
  cases hb : wdB s <;> simp [R.bind, evSs, evS, evO, evOs, evI, asgT, asgTs, sSeq, sAsg, sIf, sRet, sEx, sAugSub, sAug, taken, tst, fVar, fGlo, fBin, fCmp, fCmp2, fNeg, fNot, fAnd, fOr, fIfe, fDsp, fIdx, fSli, fRev, fBi, fCall, fIsi, fMet, gVar, gSub, gTup, gCons, gNil, fsCons, ofD, look, Sl.get, Opd.rd, Opd.rdk, Opd.take, rds, rdks, takes, box, D.frz, D.frzs, D.kids, cmpD, getD?, sliD, sliC, optI, truth, biD, Bi.copies, runF, outsOf, enter, augD, setD, atP, Exps.plain, bAddI, bMulR, bMulL, bMod, bDiv, bPow, bPow39, bAddL, bAddS, eqD_int, frzs_ints, fzs_ints, L2.atI, L2.ixN, D.fzs, D.fz, big, line, callF, prep, back, m0, m1, m2, m3, m4, m5, m6, m7, m8, m9, m10, m11, m12, m13, m14, m15, m16, m17, m18, m19, m20, m21, i, hb]
theorem eqD_nil (o p : Bool) (xs : List D) : eqD (.lst o xs) (.lst p []) = some xs.isEmpty := by
  have e : D.shp (.lst p []) = some (.list []) := by cases p <;> rfl
  cases xs with
  | nil => 
    have e2 : D.shp (.lst o []) = some (.list []) := by cases o <;> rfl
    simp only [eqD, e, e2, PyData.eqv]
    rfl
  | cons x xs =>
    cases h : D.shp (.lst o (x :: xs)) with
    | none => simp only [eqD, e, h]
    | some pd =>
      have : ∃ q qs, pd = .list (q :: qs) := by
        simp only [D.shp] at h
        cases hp : D.py (.lst o (x :: xs)) with
        | none => rw [hp] at h; exact nomatch h
        | some q =>
          rw [hp] at h
          simp only at h
          split at h
          · have hq : q = pd := Option.some.inj h
            subst hq
            simp only [D.py, D.pys] at hp
            cases h1 : x.py with
            | none => rw [h1] at hp; exact nomatch hp
            | some a => cases h2 : D.pys xs with
              | none => rw [h1, h2] at hp; exact nomatch hp
              | some b =>
                rw [h1, h2] at hp
                exact ⟨a, b, (Option.some.inj hp).symm⟩
          · exact nomatch h
      obtain ⟨q, qs, rfl⟩ := this
      simp only [eqD, e, h, PyData.eqv]
      rfl
theorem all_filter (cs : List Nat) : ((cs.filter fun c => !lowB c).map one).isEmpty = cs.all lowB := by
  induction cs with
  | nil => rfl
  | cons c cs ih =>
    cases h : lowB c <;> simp [R.bind, evSs, evS, evO, evOs, evI, asgT, asgTs, sSeq, sAsg, sIf, sRet, sEx, sAugSub, sAug, taken, tst, fVar, fGlo, fBin, fCmp, fCmp2, fNeg, fNot, fAnd, fOr, fIfe, fDsp, fIdx, fSli, fRev, fBi, fCall, fIsi, fMet, gVar, gSub, gTup, gCons, gNil, fsCons, ofD, look, Sl.get, Opd.rd, Opd.rdk, Opd.take, rds, rdks, takes, box, D.frz, D.frzs, D.kids, cmpD, inD, getD?, sliD, sliC, optI, truth, biD, Bi.copies, runF, outsOf, enter, augD, setD, atP, Exps.plain, bAddI, bMulR, bMulL, bMod, bDiv, bPow, bPow39, bAddL, bAddS, eqD_int, frzs_ints, fzs_ints, L2.atI, L2.ixN, D.fzs, D.fz, big, line, callF, prep, back, m0, m1, m2, m3, m4, m5, m6, m7, m8, m9, m10, m11, m12, m13, m14, m15, m16, m17, m18, m19, m20, m21, List.filter_cons, h, ih] at ih ⊢
    try exact ih
theorem n8d (cf : Nat → List D → C) (s : Str) (h : okLen s) : evS txt.P cf [] (.ret (.cmp .eq (.lc [1] (.var 1) (.cons (.var 1) (.ex (.var 0)) (.cons (.not (.cmp2 .le .le (.cst (.str "a")) (.var 1) (.cst (.str "z")))) .nil) .nil)) (.lst .nil))) [.v (.str s), .no] = .ok (.rt (.bl (s.cps.toList.all lowB)), [.v (.str s), .no]) := by
  have l := lc8 txt.P cf (.str s) s.cps.toList [] (by have := h.2; have e : s.cps.toList.length = s.length := rfl; simp only [List.length_nil]; omega)
  simp only [List.nil_append] at l
  have e : (fun c => D.str ⟨#[c]⟩) = one := rfl
  have en := eqD_nil true true ((s.cps.toList.filter fun c => !lowB c).map one)
  rw [all_filter] at en
  simp only [evS, sRet, evO, evOs, fBi, fsCons, fLc, evC, cCons, iEx, fixed, evI, fVar, evIf, asgT, fCmp, fDsp]
  simp only [evO, evIf] at l
  simp [R.bind, evSs, evS, evO, evOs, evI, asgT, asgTs, sSeq, sAsg, sIf, sRet, sEx, sAugSub, sAug, taken, tst, fVar, fGlo, fBin, fCmp, fCmp2, fNeg, fNot, fAnd, fOr, fIfe, fDsp, fIdx, fSli, fRev, fBi, fCall, fIsi, fMet, gVar, gSub, gTup, gCons, gNil, fsCons, ofD, look, Sl.get, Opd.rd, Opd.rdk, Opd.take, rds, rdks, takes, box, D.frz, D.frzs, D.kids, cmpD, inD, getD?, sliD, sliC, optI, truth, biD, Bi.copies, runF, outsOf, enter, augD, setD, atP, Exps.plain, bAddI, bMulR, bMulL, bMod, bDiv, bPow, bPow39, bAddL, bAddS, eqD_int, frzs_ints, fzs_ints, L2.atI, L2.ixN, D.fzs, D.fz, big, line, callF, prep, back, m0, m1, m2, m3, m4, m5, m6, m7, m8, m9, m10, m11, m12, m13, m14, m15, m16, m17, m18, m19, m20, m21, Opd.fix, iterOf, e, ownOk, Z.wipe, l, Z.unwipe, evIf, en]
end Law

set_option Elab.async false
set_option linter.all false
set_option maxRecDepth 100000
set_option maxHeartbeats 400000
namespace Law
open Z PySem


theorem call1 (n : Nat) (x : D) : callN txt.P txt.fs (n + 1) 0 [x] = runF f0 (evSs txt.P (callN txt.P txt.fs n) [] f0.body [.v x, .no]) := by
  have e : enter (txt.P.mode.getD 0 []) [x] ++ List.replicate (f0.ns - f0.np) Sl.no = [.v x, .no] := rfl
  have io : f0.io = [] := rfl
  rw [call_eq txt.P txt.fs n 0 [x] f0 rfl rfl, e, io]
theorem call8 (n : Nat) (x : D) : callN txt.P txt.fs (n + 1) 11 [x] = runF f11 (evSs txt.P (callN txt.P txt.fs n) [] f11.body [.v x, .no]) := by
  have e : enter (txt.P.mode.getD 11 []) [x] ++ List.replicate (f11.ns - f11.np) Sl.no = [.v x, .no] := rfl
  have io : f11.io = [] := rfl
  rw [call_eq txt.P txt.fs n 11 [x] f11 rfl rfl, e, io]
theorem runE (F : Fun) (x : D) (r : Z.Env) (h : F.io = []) : runF F (.ok (.rt x, r)) = .ok x [] := by
  simp [R.bind, evSs, evS, evO, evOs, evI, asgT, asgTs, sSeq, sAsg, sIf, sRet, sEx, sAugSub, sAug, taken, tst, fVar, fGlo, fBin, fCmp, fCmp2, fNeg, fNot, fAnd, fOr, fIfe, fDsp, fIdx, fSli, fRev, fBi, fCall, fIsi, fMet, gVar, gSub, gTup, gCons, gNil, fsCons, ofD, look, Sl.get, Opd.rd, Opd.rdk, Opd.take, rds, rdks, takes, box, D.frz, D.frzs, D.kids, cmpD, inD, getD?, sliD, sliC, optI, truth, biD, Bi.copies, runF, outsOf, enter, augD, setD, atP, Exps.plain, bAddI, bMulR, bMulL, bMod, bDiv, bPow, bPow39, bAddL, bAddS, eqD_int, frzs_ints, fzs_ints, L2.atI, L2.ixN, D.fzs, D.fz, big, line, callF, prep, back, m0, m1, m2, m3, m4, m5, m6, m7, m8, m9, m10, m11, m12, m13, m14, m15, m16, m17, m18, m19, m20, m21, h]
def nmD (x : D) : Bool := match x with | .str s => nmB s | _ => false
theorem nmB_ok {s : Str} (h : okLen s) : nmB s = if wdB s then false else s.cps.toList.all lowB := by
  simp only [nmB, h.1, h.2, decide_true, Bool.and_self, if_true]
theorem nmB_no {s : Str} (h : ¬ okLen s) : nmB s = false := by
  simp only [nmB]
  split
  · rename_i h2
    simp only [Bool.and_eq_true, decide_eq_true_eq] at h2
    exact absurd h2 h
  · rfl
def shortD (x : D) : Prop := match x with | .str s => s.length ≤ 100 ∧ Asc s | .clo _ _ => False | _ => True
theorem nm1 (n : Nat) (x : D) (h : shortD x) : callN txt.P txt.fs (n + 1) 0 [x] = .ok (.bl (nmD x)) [] := by
  rw [call1]
  simp only [f0, evSs]
  by_cases hs : isiD x .str = some false
  · have : nmD x = false := by cases x <;> simp_all [R.bind, evSs, evS, evO, evOs, evI, asgT, asgTs, sSeq, sAsg, sIf, sRet, sEx, sAugSub, sAug, taken, tst, fVar, fGlo, fBin, fCmp, fCmp2, fNeg, fNot, fAnd, fOr, fIfe, fDsp, fIdx, fSli, fRev, fBi, fCall, fIsi, fMet, gVar, gSub, gTup, gCons, gNil, fsCons, ofD, look, Sl.get, Opd.rd, Opd.rdk, Opd.take, rds, rdks, takes, box, D.frz, D.frzs, D.kids, cmpD, inD, getD?, sliD, sliC, optI, truth, biD, Bi.copies, runF, outsOf, enter, augD, setD, atP, Exps.plain, bAddI, bMulR, bMulL, bMod, bDiv, bPow, bPow39, bAddL, bAddS, eqD_int, frzs_ints, fzs_ints, L2.atI, L2.ixN, D.fzs, D.fz, big, line, callF, prep, back, m0, m1, m2, m3, m4, m5, m6, m7, m8, m9, m10, m11, m12, m13, m14, m15, m16, m17, m18, m19, m20, m21, isiD, isiV, nmD]
    rw [seqR (n1a _ x hs), this]
    exact runE _ _ _ rfl
  · obtain ⟨s, rfl⟩ : ∃ s, x = .str s := by cases x <;> simp_all [R.bind, evSs, evS, evO, evOs, evI, asgT, asgTs, sSeq, sAsg, sIf, sRet, sEx, sAugSub, sAug, taken, tst, fVar, fGlo, fBin, fCmp, fCmp2, fNeg, fNot, fAnd, fOr, fIfe, fDsp, fIdx, fSli, fRev, fBi, fCall, fIsi, fMet, gVar, gSub, gTup, gCons, gNil, fsCons, ofD, look, Sl.get, Opd.rd, Opd.rdk, Opd.take, rds, rdks, takes, box, D.frz, D.frzs, D.kids, cmpD, inD, getD?, sliD, sliC, optI, truth, biD, Bi.copies, runF, outsOf, enter, augD, setD, atP, Exps.plain, bAddI, bMulR, bMulL, bMod, bDiv, bPow, bPow39, bAddL, bAddS, eqD_int, frzs_ints, fzs_ints, L2.atI, L2.ixN, D.fzs, D.fz, big, line, callF, prep, back, m0, m1, m2, m3, m4, m5, m6, m7, m8, m9, m10, m11, m12, m13, m14, m15, m16, m17, m18, m19, m20, m21, isiD, isiV, shortD]
    by_cases hk : okLen s
    · cases hb : wdB s with
      | true =>
        have c := n1c (callN txt.P txt.fs n) s hk h.2
        rw [hb, if_pos rfl] at c
        rw [seqR c]
        have : nmD (.str s) = false := by rw [nmD, nmB_ok hk, hb]; rfl
        rw [this]
        exact runE _ _ _ rfl
      | false =>
        have c := n1c (callN txt.P txt.fs n) s hk h.2
        rw [hb, if_neg Bool.false_ne_true] at c
        rw [seqN c, seqR (n1d _ s hk)]
        have : nmD (.str s) = s.cps.toList.all lowB := by rw [nmD, nmB_ok hk, hb]; rfl
        rw [this]
        exact runE _ _ _ rfl
    · rw [seqR (n1b _ s hk h.1)]
      have : nmD (.str s) = false := by rw [nmD, nmB_no hk]
      rw [this]
      exact runE _ _ _ rfl
theorem nm8 (n : Nat) (x : D) (h : shortD x) : callN txt.P txt.fs (n + 1) 11 [x] = .ok (.bl (nmD x)) [] := by
  rw [call8]
  simp only [f11, evSs]
  by_cases hs : isiD x .str = some false
  · have : nmD x = false := by cases x <;> simp_all [R.bind, evSs, evS, evO, evOs, evI, asgT, asgTs, sSeq, sAsg, sIf, sRet, sEx, sAugSub, sAug, taken, tst, fVar, fGlo, fBin, fCmp, fCmp2, fNeg, fNot, fAnd, fOr, fIfe, fDsp, fIdx, fSli, fRev, fBi, fCall, fIsi, fMet, gVar, gSub, gTup, gCons, gNil, fsCons, ofD, look, Sl.get, Opd.rd, Opd.rdk, Opd.take, rds, rdks, takes, box, D.frz, D.frzs, D.kids, cmpD, inD, getD?, sliD, sliC, optI, truth, biD, Bi.copies, runF, outsOf, enter, augD, setD, atP, Exps.plain, bAddI, bMulR, bMulL, bMod, bDiv, bPow, bPow39, bAddL, bAddS, eqD_int, frzs_ints, fzs_ints, L2.atI, L2.ixN, D.fzs, D.fz, big, line, callF, prep, back, m0, m1, m2, m3, m4, m5, m6, m7, m8, m9, m10, m11, m12, m13, m14, m15, m16, m17, m18, m19, m20, m21, isiD, isiV, nmD]
    rw [seqR (n8a _ x hs), this]
    exact runE _ _ _ rfl
  · obtain ⟨s, rfl⟩ : ∃ s, x = .str s := by cases x <;> simp_all [R.bind, evSs, evS, evO, evOs, evI, asgT, asgTs, sSeq, sAsg, sIf, sRet, sEx, sAugSub, sAug, taken, tst, fVar, fGlo, fBin, fCmp, fCmp2, fNeg, fNot, fAnd, fOr, fIfe, fDsp, fIdx, fSli, fRev, fBi, fCall, fIsi, fMet, gVar, gSub, gTup, gCons, gNil, fsCons, ofD, look, Sl.get, Opd.rd, Opd.rdk, Opd.take, rds, rdks, takes, box, D.frz, D.frzs, D.kids, cmpD, inD, getD?, sliD, sliC, optI, truth, biD, Bi.copies, runF, outsOf, enter, augD, setD, atP, Exps.plain, bAddI, bMulR, bMulL, bMod, bDiv, bPow, bPow39, bAddL, bAddS, eqD_int, frzs_ints, fzs_ints, L2.atI, L2.ixN, D.fzs, D.fz, big, line, callF, prep, back, m0, m1, m2, m3, m4, m5, m6, m7, m8, m9, m10, m11, m12, m13, m14, m15, m16, m17, m18, m19, m20, m21, isiD, isiV, shortD]
    by_cases hk : okLen s
    · cases hb : wdB s with
      | true =>
        have c := n8e (callN txt.P txt.fs n) s h.2
        rw [hb, if_pos rfl] at c
        rw [seqN (n8c _ s hk), seqR c]
        have : nmD (.str s) = false := by rw [nmD, nmB_ok hk, hb]; rfl
        rw [this]
        exact runE _ _ _ rfl
      | false =>
        have c := n8e (callN txt.P txt.fs n) s h.2
        rw [hb, if_neg Bool.false_ne_true] at c
        rw [seqN (n8c _ s hk), seqN c, seqR (n8d _ s hk)]
        have : nmD (.str s) = s.cps.toList.all lowB := by rw [nmD, nmB_ok hk, hb]; rfl
        rw [this]
        exact runE _ _ _ rfl
    · rw [seqR (n8b _ s hk h.1)]
      have : nmD (.str s) = false := by rw [nmD, nmB_no hk]
      rw [this]
      exact runE _ _ _ rfl
/-! alike -/
def bls (bs : List Bool) : D := .lst false (bs.map .bl)
theorem alike2 (n : Nat) (a b : Bool) : callN txt.P txt.fs (n + 1) 8 [bls [a, b], bls [a, b]] = .ok (.bl true) [] := by
  cases a <;> cases b <;> rfl
end Law

set_option Elab.async false
set_option linter.all false
set_option maxRecDepth 100000
set_option maxHeartbeats 400000
namespace Law
open Z PySem

/-! ## terms -/
theorem cut1 (y : D) (r : List D) : cutD (y :: r) (some 1) none = r := by
  have h : HT.sIx (y :: r).length 0 (some 1) = 1 := by
    simp [R.bind, evSs, evS, evO, evOs, evI, asgT, asgTs, sSeq, sAsg, sIf, sRet, sEx, sAugSub, sAug, taken, tst, fVar, fGlo, fBin, fCmp, fCmp2, fNeg, fNot, fAnd, fOr, fIfe, fDsp, fIdx, fSli, fRev, fBi, fCall, fIsi, fMet, gVar, gSub, gTup, gCons, gNil, fsCons, ofD, look, Sl.get, Opd.rd, Opd.rdk, Opd.take, rds, rdks, takes, box, D.frz, D.frzs, D.kids, cmpD, inD, getD?, sliD, sliC, optI, truth, biD, Bi.copies, runF, outsOf, enter, augD, setD, atP, Exps.plain, bAddI, bMulR, bMulL, bMod, bDiv, bPow, bPow39, bAddL, bAddS, eqD_int, frzs_ints, fzs_ints, L2.atI, L2.ixN, D.fzs, D.fz, big, line, callF, prep, back, m0, m1, m2, m3, m4, m5, m6, m7, m8, m9, m10, m11, m12, m13, m14, m15, m16, m17, m18, m19, m20, m21, HT.sIx]
  have h2 : HT.sIx (y :: r).length (y :: r).length none = (y :: r).length := by simp [R.bind, evSs, evS, evO, evOs, evI, asgT, asgTs, sSeq, sAsg, sIf, sRet, sEx, sAugSub, sAug, taken, tst, fVar, fGlo, fBin, fCmp, fCmp2, fNeg, fNot, fAnd, fOr, fIfe, fDsp, fIdx, fSli, fRev, fBi, fCall, fIsi, fMet, gVar, gSub, gTup, gCons, gNil, fsCons, ofD, look, Sl.get, Opd.rd, Opd.rdk, Opd.take, rds, rdks, takes, box, D.frz, D.frzs, D.kids, cmpD, inD, getD?, sliD, sliC, optI, truth, biD, Bi.copies, runF, outsOf, enter, augD, setD, atP, Exps.plain, bAddI, bMulR, bMulL, bMod, bDiv, bPow, bPow39, bAddL, bAddS, eqD_int, frzs_ints, fzs_ints, L2.atI, L2.ixN, D.fzs, D.fz, big, line, callF, prep, back, m0, m1, m2, m3, m4, m5, m6, m7, m8, m9, m10, m11, m12, m13, m14, m15, m16, m17, m18, m19, m20, m21, HT.sIx]
  simp only [cutD, h, h2]
  simp [R.bind, evSs, evS, evO, evOs, evI, asgT, asgTs, sSeq, sAsg, sIf, sRet, sEx, sAugSub, sAug, taken, tst, fVar, fGlo, fBin, fCmp, fCmp2, fNeg, fNot, fAnd, fOr, fIfe, fDsp, fIdx, fSli, fRev, fBi, fCall, fIsi, fMet, gVar, gSub, gTup, gCons, gNil, fsCons, ofD, look, Sl.get, Opd.rd, Opd.rdk, Opd.take, rds, rdks, takes, box, D.frz, D.frzs, D.kids, cmpD, inD, getD?, sliD, sliC, optI, truth, biD, Bi.copies, runF, outsOf, enter, augD, setD, atP, Exps.plain, bAddI, bMulR, bMulL, bMod, bDiv, bPow, bPow39, bAddL, bAddS, eqD_int, frzs_ints, fzs_ints, L2.atI, L2.ixN, D.fzs, D.fz, big, line, callF, prep, back, m0, m1, m2, m3, m4, m5, m6, m7, m8, m9, m10, m11, m12, m13, m14, m15, m16, m17, m18, m19, m20, m21]
mutual
def termB : D → Bool
  | .tup xs => tmB xs
  | _ => false
def tmB : List D → Bool
  | [] => false
  | x :: r => nmD x && termBs r
def termBs : List D → Bool
  | [] => true
  | x :: r => termB x && termBs r
end
theorem termBs_all (r : List D) : termBs r = r.all termB := by
  induction r with
  | nil => rfl
  | cons x r ih => simp [R.bind, evSs, evS, evO, evOs, evI, asgT, asgTs, sSeq, sAsg, sIf, sRet, sEx, sAugSub, sAug, taken, tst, fVar, fGlo, fBin, fCmp, fCmp2, fNeg, fNot, fAnd, fOr, fIfe, fDsp, fIdx, fSli, fRev, fBi, fCall, fIsi, fMet, gVar, gSub, gTup, gCons, gNil, fsCons, ofD, look, Sl.get, Opd.rd, Opd.rdk, Opd.take, rds, rdks, takes, box, D.frz, D.frzs, D.kids, cmpD, inD, getD?, sliD, sliC, optI, truth, biD, Bi.copies, runF, outsOf, enter, augD, setD, atP, Exps.plain, bAddI, bMulR, bMulL, bMod, bDiv, bPow, bPow39, bAddL, bAddS, eqD_int, frzs_ints, fzs_ints, L2.atI, L2.ixN, D.fzs, D.fz, big, line, callF, prep, back, m0, m1, m2, m3, m4, m5, m6, m7, m8, m9, m10, m11, m12, m13, m14, m15, m16, m17, m18, m19, m20, m21, termBs, ih]
theorem lcA (cf : Nat → List D → C) (x : D) (g : D → Bool) : ∀ (cs : List D) (acc : List D), acc.length + cs.length ≤ 100000 → (∀ z ∈ cs, z.frz = z ∧ cf 1 [z] = .ok (.bl (g z)) []) →
    forC (gVar [] 1) (leaf1 (evO txt.P cf [] (.call 1 (.cons (.var 1) .nil)))) (evIf txt.P cf [] .nil) [1] cs acc [.v x, .no] = .ok (acc ++ cs.map (fun z => .bl (g z)), [.v x, .no]) := by
  intro cs
  induction cs with
  | nil => intro acc _ _; simp [R.bind, evSs, evS, evO, evOs, evI, asgT, asgTs, sSeq, sAsg, sIf, sRet, sEx, sAugSub, sAug, taken, tst, fVar, fGlo, fBin, fCmp, fCmp2, fNeg, fNot, fAnd, fOr, fIfe, fDsp, fIdx, fSli, fRev, fBi, fCall, fIsi, fMet, gVar, gSub, gTup, gCons, gNil, fsCons, ofD, look, Sl.get, Opd.rd, Opd.rdk, Opd.take, rds, rdks, takes, box, D.frz, D.frzs, D.kids, cmpD, inD, getD?, sliD, sliC, optI, truth, biD, Bi.copies, runF, outsOf, enter, augD, setD, atP, Exps.plain, bAddI, bMulR, bMulL, bMod, bDiv, bPow, bPow39, bAddL, bAddS, eqD_int, frzs_ints, fzs_ints, L2.atI, L2.ixN, D.fzs, D.fz, big, line, callF, prep, back, m0, m1, m2, m3, m4, m5, m6, m7, m8, m9, m10, m11, m12, m13, m14, m15, m16, m17, m18, m19, m20, m21, forC]
  | cons c cs ih =>
    intro acc h hz
    simp only [List.length_cons] at h
    have ih' := ih (acc ++ [.bl (g c)]) (by simp only [List.length_append, List.length_cons, List.length_nil]; omega) fun z hm => hz z (List.mem_cons_of_mem _ hm)
    obtain ⟨h1, h2⟩ := hz c (List.mem_cons_self ..)
    have h5 : acc.length < 1048576 := by omega
    simp [R.bind, evSs, evS, evO, evOs, evI, asgT, asgTs, sSeq, sAsg, sIf, sRet, sEx, sAugSub, sAug, taken, tst, fVar, fGlo, fBin, fCmp, fCmp2, fNeg, fNot, fAnd, fOr, fIfe, fDsp, fIdx, fSli, fRev, fBi, fCall, fIsi, fMet, gVar, gSub, gTup, gCons, gNil, fsCons, ofD, look, Sl.get, Opd.rd, Opd.rdk, Opd.take, rds, rdks, takes, box, D.frz, D.frzs, D.kids, cmpD, inD, getD?, sliD, sliC, optI, truth, biD, Bi.copies, runF, outsOf, enter, augD, setD, atP, Exps.plain, bAddI, bMulR, bMulL, bMod, bDiv, bPow, bPow39, bAddL, bAddS, eqD_int, frzs_ints, fzs_ints, L2.atI, L2.ixN, D.fzs, D.fz, big, line, callF, prep, back, m0, m1, m2, m3, m4, m5, m6, m7, m8, m9, m10, m11, m12, m13, m14, m15, m16, m17, m18, m19, m20, m21, forC, evIf, Z.wipe, leaf1, h5, h1, h2] at ih' ⊢
    exact ih'
theorem lcB (cf : Nat → List D → C) (x : D) (g : D → Bool) : ∀ (cs : List D) (acc : List D), acc.length + cs.length ≤ 100000 → (∀ z ∈ cs, z.frz = z ∧ cf 12 [z] = .ok (.bl (g z)) []) →
    forC (gVar [] 1) (leaf1 (evO txt.P cf [] (.var 1))) (evIf txt.P cf [] (.cons (.not (.call 12 (.cons (.var 1) .nil))) .nil)) [1] cs acc [.v x, .no] = .ok (acc ++ cs.filter (fun z => !g z), [.v x, .no]) := by
  intro cs
  induction cs with
  | nil => intro acc _ _; simp [R.bind, evSs, evS, evO, evOs, evI, asgT, asgTs, sSeq, sAsg, sIf, sRet, sEx, sAugSub, sAug, taken, tst, fVar, fGlo, fBin, fCmp, fCmp2, fNeg, fNot, fAnd, fOr, fIfe, fDsp, fIdx, fSli, fRev, fBi, fCall, fIsi, fMet, gVar, gSub, gTup, gCons, gNil, fsCons, ofD, look, Sl.get, Opd.rd, Opd.rdk, Opd.take, rds, rdks, takes, box, D.frz, D.frzs, D.kids, cmpD, inD, getD?, sliD, sliC, optI, truth, biD, Bi.copies, runF, outsOf, enter, augD, setD, atP, Exps.plain, bAddI, bMulR, bMulL, bMod, bDiv, bPow, bPow39, bAddL, bAddS, eqD_int, frzs_ints, fzs_ints, L2.atI, L2.ixN, D.fzs, D.fz, big, line, callF, prep, back, m0, m1, m2, m3, m4, m5, m6, m7, m8, m9, m10, m11, m12, m13, m14, m15, m16, m17, m18, m19, m20, m21, forC]
  | cons c cs ih =>
    intro acc h hz
    simp only [List.length_cons] at h
    obtain ⟨h1, h2⟩ := hz c (List.mem_cons_self ..)
    have h5 : acc.length < 1048576 := by omega
    cases hg : g c with
    | true =>
      have ih' := ih acc (by omega) fun z hm => hz z (List.mem_cons_of_mem _ hm)
      rw [hg] at h2
      simp [R.bind, evSs, evS, evO, evOs, evI, asgT, asgTs, sSeq, sAsg, sIf, sRet, sEx, sAugSub, sAug, taken, tst, fVar, fGlo, fBin, fCmp, fCmp2, fNeg, fNot, fAnd, fOr, fIfe, fDsp, fIdx, fSli, fRev, fBi, fCall, fIsi, fMet, gVar, gSub, gTup, gCons, gNil, fsCons, ofD, look, Sl.get, Opd.rd, Opd.rdk, Opd.take, rds, rdks, takes, box, D.frz, D.frzs, D.kids, cmpD, inD, getD?, sliD, sliC, optI, truth, biD, Bi.copies, runF, outsOf, enter, augD, setD, atP, Exps.plain, bAddI, bMulR, bMulL, bMod, bDiv, bPow, bPow39, bAddL, bAddS, eqD_int, frzs_ints, fzs_ints, L2.atI, L2.ixN, D.fzs, D.fz, big, line, callF, prep, back, m0, m1, m2, m3, m4, m5, m6, m7, m8, m9, m10, m11, m12, m13, m14, m15, m16, m17, m18, m19, m20, m21, forC, evIf, ifCons, Z.wipe, leaf1, h5, h1, h2, hg] at ih' ⊢
      exact ih'
    | false =>
      have ih' := ih (acc ++ [c]) (by simp only [List.length_append, List.length_cons, List.length_nil]; omega) fun z hm => hz z (List.mem_cons_of_mem _ hm)
      rw [hg] at h2
      simp [R.bind, evSs, evS, evO, evOs, evI, asgT, asgTs, sSeq, sAsg, sIf, sRet, sEx, sAugSub, sAug, taken, tst, fVar, fGlo, fBin, fCmp, fCmp2, fNeg, fNot, fAnd, fOr, fIfe, fDsp, fIdx, fSli, fRev, fBi, fCall, fIsi, fMet, gVar, gSub, gTup, gCons, gNil, fsCons, ofD, look, Sl.get, Opd.rd, Opd.rdk, Opd.take, rds, rdks, takes, box, D.frz, D.frzs, D.kids, cmpD, inD, getD?, sliD, sliC, optI, truth, biD, Bi.copies, runF, outsOf, enter, augD, setD, atP, Exps.plain, bAddI, bMulR, bMulL, bMod, bDiv, bPow, bPow39, bAddL, bAddS, eqD_int, frzs_ints, fzs_ints, L2.atI, L2.ixN, D.fzs, D.fz, big, line, callF, prep, back, m0, m1, m2, m3, m4, m5, m6, m7, m8, m9, m10, m11, m12, m13, m14, m15, m16, m17, m18, m19, m20, m21, forC, evIf, ifCons, Z.wipe, leaf1, h5, h1, h2, hg] at ih' ⊢
      exact ih'
theorem all_g (g : D → Bool) (cs : List D) : (cs.filter fun z => !g z).isEmpty = cs.all g := by
  induction cs with
  | nil => rfl
  | cons c cs ih => cases h : g c <;> simp [R.bind, evSs, evS, evO, evOs, evI, asgT, asgTs, sSeq, sAsg, sIf, sRet, sEx, sAugSub, sAug, taken, tst, fVar, fGlo, fBin, fCmp, fCmp2, fNeg, fNot, fAnd, fOr, fIfe, fDsp, fIdx, fSli, fRev, fBi, fCall, fIsi, fMet, gVar, gSub, gTup, gCons, gNil, fsCons, ofD, look, Sl.get, Opd.rd, Opd.rdk, Opd.take, rds, rdks, takes, box, D.frz, D.frzs, D.kids, cmpD, inD, getD?, sliD, sliC, optI, truth, biD, Bi.copies, runF, outsOf, enter, augD, setD, atP, Exps.plain, bAddI, bMulR, bMulL, bMod, bDiv, bPow, bPow39, bAddL, bAddS, eqD_int, frzs_ints, fzs_ints, L2.atI, L2.ixN, D.fzs, D.fz, big, line, callF, prep, back, m0, m1, m2, m3, m4, m5, m6, m7, m8, m9, m10, m11, m12, m13, m14, m15, m16, m17, m18, m19, m20, m21, List.filter_cons, h, ih]
theorem bools_map (g : D → Bool) (cs : List D) : boolsOf (cs.map fun z => .bl (g z)) = some (cs.map g) := by
  induction cs with
  | nil => rfl
  | cons c cs ih => simp [R.bind, evSs, evS, evO, evOs, evI, asgT, asgTs, sSeq, sAsg, sIf, sRet, sEx, sAugSub, sAug, taken, tst, fVar, fGlo, fBin, fCmp, fCmp2, fNeg, fNot, fAnd, fOr, fIfe, fDsp, fIdx, fSli, fRev, fBi, fCall, fIsi, fMet, gVar, gSub, gTup, gCons, gNil, fsCons, ofD, look, Sl.get, Opd.rd, Opd.rdk, Opd.take, rds, rdks, takes, box, D.frz, D.frzs, D.kids, cmpD, inD, getD?, sliD, sliC, optI, truth, biD, Bi.copies, runF, outsOf, enter, augD, setD, atP, Exps.plain, bAddI, bMulR, bMulL, bMod, bDiv, bPow, bPow39, bAddL, bAddS, eqD_int, frzs_ints, fzs_ints, L2.atI, L2.ixN, D.fzs, D.fz, big, line, callF, prep, back, m0, m1, m2, m3, m4, m5, m6, m7, m8, m9, m10, m11, m12, m13, m14, m15, m16, m17, m18, m19, m20, m21, boolsOf, ih]
theorem eqD_tup0 (xs : List D) : eqD (.tup xs) (.tup []) = some xs.isEmpty := by
  have e : D.shp (.tup []) = some (.tuple []) := rfl
  cases xs with
  | nil => simp only [eqD, e, PyData.eqv]; rfl
  | cons x xs =>
    cases h : D.shp (.tup (x :: xs)) with
    | none => simp only [eqD, e, h]
    | some pd =>
      have : ∃ q qs, pd = .tuple (q :: qs) := by
        simp only [D.shp] at h
        cases hp : D.py (.tup (x :: xs)) with
        | none => rw [hp] at h; exact nomatch h
        | some q =>
          rw [hp] at h
          simp only at h
          split at h
          · have hq : q = pd := Option.some.inj h
            subst hq
            simp only [D.py, D.pys] at hp
            cases h1 : x.py with
            | none => rw [h1] at hp; exact nomatch hp
            | some a => cases h2 : D.pys xs with
              | none => rw [h1, h2] at hp; exact nomatch hp
              | some b =>
                rw [h1, h2] at hp
                exact ⟨a, b, (Option.some.inj hp).symm⟩
          · exact nomatch h
      obtain ⟨q, qs, rfl⟩ := this
      simp only [eqD, e, h, PyData.eqv]
      rfl
/-! ### the program's -/
theorem t1a (cf : Nat → List D → C) (x : D) (h : isiD x .tup = some false) : evS txt.P cf [] (.ifS (.or (.not (.isi (.var 0) .tup)) (.or (.cmp .eq (.var 0) (.tup .nil)) (.not (.call 0 (.cons (.idx (.var 0) (.cst (.int 0))) .nil))))) (.cons (.ret (.cst (.bl false))) .nil) .nil) [.v x, .no] = .ok (.rt (.bl false), [.v x, .no]) := by
  simp [R.bind, evSs, evS, evO, evOs, evI, asgT, asgTs, sSeq, sAsg, sIf, sRet, sEx, sAugSub, sAug, taken, tst, fVar, fGlo, fBin, fCmp, fCmp2, fNeg, fNot, fAnd, fOr, fIfe, fDsp, fIdx, fSli, fRev, fBi, fCall, fIsi, fMet, gVar, gSub, gTup, gCons, gNil, fsCons, ofD, look, Sl.get, Opd.rd, Opd.rdk, Opd.take, rds, rdks, takes, box, D.frz, D.frzs, D.kids, cmpD, inD, getD?, sliD, sliC, optI, truth, biD, Bi.copies, runF, outsOf, enter, augD, setD, atP, Exps.plain, bAddI, bMulR, bMulL, bMod, bDiv, bPow, bPow39, bAddL, bAddS, eqD_int, frzs_ints, fzs_ints, L2.atI, L2.ixN, D.fzs, D.fz, big, line, callF, prep, back, m0, m1, m2, m3, m4, m5, m6, m7, m8, m9, m10, m11, m12, m13, m14, m15, m16, m17, m18, m19, m20, m21, eqD_tup0, h]
theorem t1b (cf : Nat → List D → C) : evS txt.P cf [] (.ifS (.or (.not (.isi (.var 0) .tup)) (.or (.cmp .eq (.var 0) (.tup .nil)) (.not (.call 0 (.cons (.idx (.var 0) (.cst (.int 0))) .nil))))) (.cons (.ret (.cst (.bl false))) .nil) .nil) [.v (.tup []), .no] = .ok (.rt (.bl false), [.v (.tup []), .no]) := by
  simp [R.bind, evSs, evS, evO, evOs, evI, asgT, asgTs, sSeq, sAsg, sIf, sRet, sEx, sAugSub, sAug, taken, tst, fVar, fGlo, fBin, fCmp, fCmp2, fNeg, fNot, fAnd, fOr, fIfe, fDsp, fIdx, fSli, fRev, fBi, fCall, fIsi, fMet, gVar, gSub, gTup, gCons, gNil, fsCons, ofD, look, Sl.get, Opd.rd, Opd.rdk, Opd.take, rds, rdks, takes, box, D.frz, D.frzs, D.kids, cmpD, inD, getD?, sliD, sliC, optI, truth, biD, Bi.copies, runF, outsOf, enter, augD, setD, atP, Exps.plain, bAddI, bMulR, bMulL, bMod, bDiv, bPow, bPow39, bAddL, bAddS, eqD_int, frzs_ints, fzs_ints, L2.atI, L2.ixN, D.fzs, D.fz, big, line, callF, prep, back, m0, m1, m2, m3, m4, m5, m6, m7, m8, m9, m10, m11, m12, m13, m14, m15, m16, m17, m18, m19, m20, m21, eqD_tup0, isiD, isiV]
theorem t1c (cf : Nat → List D → C) (y : D) (r : List D) (b : Bool) (hy : y.frz = y) (hr : D.frzs r = r) (h : cf 0 [y] = .ok (.bl b) []) : evS txt.P cf [] (.ifS (.or (.not (.isi (.var 0) .tup)) (.or (.cmp .eq (.var 0) (.tup .nil)) (.not (.call 0 (.cons (.idx (.var 0) (.cst (.int 0))) .nil))))) (.cons (.ret (.cst (.bl false))) .nil) .nil) [.v (.tup (y :: r)), .no] = .ok (if b then .nx else .rt (.bl false), [.v (.tup (y :: r)), .no]) := by
  cases b <;> simp [R.bind, evSs, evS, evO, evOs, evI, asgT, asgTs, sSeq, sAsg, sIf, sRet, sEx, sAugSub, sAug, taken, tst, fVar, fGlo, fBin, fCmp, fCmp2, fNeg, fNot, fAnd, fOr, fIfe, fDsp, fIdx, fSli, fRev, fBi, fCall, fIsi, fMet, gVar, gSub, gTup, gCons, gNil, fsCons, ofD, look, Sl.get, Opd.rd, Opd.rdk, Opd.take, rds, rdks, takes, box, D.frz, D.frzs, D.kids, cmpD, inD, getD?, sliD, sliC, optI, truth, biD, Bi.copies, runF, outsOf, enter, augD, setD, atP, Exps.plain, bAddI, bMulR, bMulL, bMod, bDiv, bPow, bPow39, bAddL, bAddS, eqD_int, frzs_ints, fzs_ints, L2.atI, L2.ixN, D.fzs, D.fz, big, line, callF, prep, back, m0, m1, m2, m3, m4, m5, m6, m7, m8, m9, m10, m11, m12, m13, m14, m15, m16, m17, m18, m19, m20, m21, eqD_tup0, isiD, isiV, hy, hr, h]
theorem t1d (cf : Nat → List D → C) (y : D) (r : List D) (g : D → Bool) (hl : r.length ≤ 100000) (hy : y.frz = y) (hr : D.frzs r = r) (hf : D.fzs (y :: r) = true) (hz : ∀ z ∈ r, z.frz = z ∧ cf 1 [z] = .ok (.bl (g z)) []) : evS txt.P cf [] (.ret (.bi .all (.cons (.lc [1] (.call 1 (.cons (.var 1) .nil)) (.cons (.var 1) (.ex (.sli (.var 0) (.cst (.int 1)) (.cst .non))) .nil .nil)) .nil))) [.v (.tup (y :: r)), .no] = .ok (.rt (.bl (r.all g)), [.v (.tup (y :: r)), .no]) := by
  have l := lcA cf (.tup (y :: r)) g r [] (by simpa [R.bind, evSs, evS, evO, evOs, evI, asgT, asgTs, sSeq, sAsg, sIf, sRet, sEx, sAugSub, sAug, taken, tst, fVar, fGlo, fBin, fCmp, fCmp2, fNeg, fNot, fAnd, fOr, fIfe, fDsp, fIdx, fSli, fRev, fBi, fCall, fIsi, fMet, gVar, gSub, gTup, gCons, gNil, fsCons, ofD, look, Sl.get, Opd.rd, Opd.rdk, Opd.take, rds, rdks, takes, box, D.frz, D.frzs, D.kids, cmpD, inD, getD?, sliD, sliC, optI, truth, biD, Bi.copies, runF, outsOf, enter, augD, setD, atP, Exps.plain, bAddI, bMulR, bMulL, bMod, bDiv, bPow, bPow39, bAddL, bAddS, eqD_int, frzs_ints, fzs_ints, L2.atI, L2.ixN, D.fzs, D.fz, big, line, callF, prep, back, m0, m1, m2, m3, m4, m5, m6, m7, m8, m9, m10, m11, m12, m13, m14, m15, m16, m17, m18, m19, m20, m21, eqD_tup0] using hl) hz
  simp only [List.nil_append] at l
  simp only [evS, sRet, evO, evOs, fBi, fsCons, fLc, evC, cCons, iEx, fixed, evI, fVar, evIf, asgT, fSli]
  simp only [evO, evOs, fsCons, evIf] at l
  simp only [D.fzs, Bool.and_eq_true] at hf
  simp [R.bind, evSs, evS, evO, evOs, evI, asgT, asgTs, sSeq, sAsg, sIf, sRet, sEx, sAugSub, sAug, taken, tst, fVar, fGlo, fBin, fCmp, fCmp2, fNeg, fNot, fAnd, fOr, fIfe, fDsp, fIdx, fSli, fRev, fBi, fCall, fIsi, fMet, gVar, gSub, gTup, gCons, gNil, fsCons, ofD, look, Sl.get, Opd.rd, Opd.rdk, Opd.take, rds, rdks, takes, box, D.frz, D.frzs, D.kids, cmpD, inD, getD?, sliD, sliC, optI, truth, biD, Bi.copies, runF, outsOf, enter, augD, setD, atP, Exps.plain, bAddI, bMulR, bMulL, bMod, bDiv, bPow, bPow39, bAddL, bAddS, eqD_int, frzs_ints, fzs_ints, L2.atI, L2.ixN, D.fzs, D.fz, big, line, callF, prep, back, m0, m1, m2, m3, m4, m5, m6, m7, m8, m9, m10, m11, m12, m13, m14, m15, m16, m17, m18, m19, m20, m21, eqD_tup0, Opd.fix, iterOf, ownOk, Z.wipe, l, Z.unwipe, bools_map, evIf, hy, hr, hf.1, hf.2, cut1, fLc, cCons, iEx, fixed]
  try simp [R.bind, evSs, evS, evO, evOs, evI, asgT, asgTs, sSeq, sAsg, sIf, sRet, sEx, sAugSub, sAug, taken, tst, fVar, fGlo, fBin, fCmp, fCmp2, fNeg, fNot, fAnd, fOr, fIfe, fDsp, fIdx, fSli, fRev, fBi, fCall, fIsi, fMet, gVar, gSub, gTup, gCons, gNil, fsCons, ofD, look, Sl.get, Opd.rd, Opd.rdk, Opd.take, rds, rdks, takes, box, D.frz, D.frzs, D.kids, cmpD, inD, getD?, sliD, sliC, optI, truth, biD, Bi.copies, runF, outsOf, enter, augD, setD, atP, Exps.plain, bAddI, bMulR, bMulL, bMod, bDiv, bPow, bPow39, bAddL, bAddS, eqD_int, frzs_ints, fzs_ints, L2.atI, L2.ixN, D.fzs, D.fz, big, line, callF, prep, back, m0, m1, m2, m3, m4, m5, m6, m7, m8, m9, m10, m11, m12, m13, m14, m15, m16, m17, m18, m19, m20, m21, eqD_tup0, Function.comp_def]
/-! ### the law's -/
theorem t2a (cf : Nat → List D → C) (x : D) (h : isiD x .tup = some false) : evS txt.P cf [] (.ifS (.or (.not (.isi (.var 0) .tup)) (.or (.cmp .eq (.var 0) (.tup .nil)) (.not (.call 11 (.cons (.idx (.var 0) (.cst (.int 0))) .nil))))) (.cons (.ret (.cst (.bl false))) .nil) .nil) [.v x, .no] = .ok (.rt (.bl false), [.v x, .no]) := by
  simp [R.bind, evSs, evS, evO, evOs, evI, asgT, asgTs, sSeq, sAsg, sIf, sRet, sEx, sAugSub, sAug, taken, tst, fVar, fGlo, fBin, fCmp, fCmp2, fNeg, fNot, fAnd, fOr, fIfe, fDsp, fIdx, fSli, fRev, fBi, fCall, fIsi, fMet, gVar, gSub, gTup, gCons, gNil, fsCons, ofD, look, Sl.get, Opd.rd, Opd.rdk, Opd.take, rds, rdks, takes, box, D.frz, D.frzs, D.kids, cmpD, inD, getD?, sliD, sliC, optI, truth, biD, Bi.copies, runF, outsOf, enter, augD, setD, atP, Exps.plain, bAddI, bMulR, bMulL, bMod, bDiv, bPow, bPow39, bAddL, bAddS, eqD_int, frzs_ints, fzs_ints, L2.atI, L2.ixN, D.fzs, D.fz, big, line, callF, prep, back, m0, m1, m2, m3, m4, m5, m6, m7, m8, m9, m10, m11, m12, m13, m14, m15, m16, m17, m18, m19, m20, m21, eqD_tup0, h]
theorem t2b (cf : Nat → List D → C) : evS txt.P cf [] (.ifS (.or (.not (.isi (.var 0) .tup)) (.or (.cmp .eq (.var 0) (.tup .nil)) (.not (.call 11 (.cons (.idx (.var 0) (.cst (.int 0))) .nil))))) (.cons (.ret (.cst (.bl false))) .nil) .nil) [.v (.tup []), .no] = .ok (.rt (.bl false), [.v (.tup []), .no]) := by
  simp [R.bind, evSs, evS, evO, evOs, evI, asgT, asgTs, sSeq, sAsg, sIf, sRet, sEx, sAugSub, sAug, taken, tst, fVar, fGlo, fBin, fCmp, fCmp2, fNeg, fNot, fAnd, fOr, fIfe, fDsp, fIdx, fSli, fRev, fBi, fCall, fIsi, fMet, gVar, gSub, gTup, gCons, gNil, fsCons, ofD, look, Sl.get, Opd.rd, Opd.rdk, Opd.take, rds, rdks, takes, box, D.frz, D.frzs, D.kids, cmpD, inD, getD?, sliD, sliC, optI, truth, biD, Bi.copies, runF, outsOf, enter, augD, setD, atP, Exps.plain, bAddI, bMulR, bMulL, bMod, bDiv, bPow, bPow39, bAddL, bAddS, eqD_int, frzs_ints, fzs_ints, L2.atI, L2.ixN, D.fzs, D.fz, big, line, callF, prep, back, m0, m1, m2, m3, m4, m5, m6, m7, m8, m9, m10, m11, m12, m13, m14, m15, m16, m17, m18, m19, m20, m21, eqD_tup0, isiD, isiV]
theorem t2c (cf : Nat → List D → C) (y : D) (r : List D) (b : Bool) (hy : y.frz = y) (hr : D.frzs r = r) (h : cf 11 [y] = .ok (.bl b) []) : evS txt.P cf [] (.ifS (.or (.not (.isi (.var 0) .tup)) (.or (.cmp .eq (.var 0) (.tup .nil)) (.not (.call 11 (.cons (.idx (.var 0) (.cst (.int 0))) .nil))))) (.cons (.ret (.cst (.bl false))) .nil) .nil) [.v (.tup (y :: r)), .no] = .ok (if b then .nx else .rt (.bl false), [.v (.tup (y :: r)), .no]) := by
  cases b <;> simp [R.bind, evSs, evS, evO, evOs, evI, asgT, asgTs, sSeq, sAsg, sIf, sRet, sEx, sAugSub, sAug, taken, tst, fVar, fGlo, fBin, fCmp, fCmp2, fNeg, fNot, fAnd, fOr, fIfe, fDsp, fIdx, fSli, fRev, fBi, fCall, fIsi, fMet, gVar, gSub, gTup, gCons, gNil, fsCons, ofD, look, Sl.get, Opd.rd, Opd.rdk, Opd.take, rds, rdks, takes, box, D.frz, D.frzs, D.kids, cmpD, inD, getD?, sliD, sliC, optI, truth, biD, Bi.copies, runF, outsOf, enter, augD, setD, atP, Exps.plain, bAddI, bMulR, bMulL, bMod, bDiv, bPow, bPow39, bAddL, bAddS, eqD_int, frzs_ints, fzs_ints, L2.atI, L2.ixN, D.fzs, D.fz, big, line, callF, prep, back, m0, m1, m2, m3, m4, m5, m6, m7, m8, m9, m10, m11, m12, m13, m14, m15, m16, m17, m18, m19, m20, m21, eqD_tup0, isiD, isiV, hy, hr, h]
theorem t2d (cf : Nat → List D → C) (y : D) (r : List D) (g : D → Bool) (hl : r.length ≤ 100000) (hy : y.frz = y) (hr : D.frzs r = r) (hf : D.fzs (y :: r) = true) (hz : ∀ z ∈ r, z.frz = z ∧ cf 12 [z] = .ok (.bl (g z)) []) : evS txt.P cf [] (.ret (.cmp .eq (.lc [1] (.var 1) (.cons (.var 1) (.ex (.sli (.var 0) (.cst (.int 1)) (.cst .non))) (.cons (.not (.call 12 (.cons (.var 1) .nil))) .nil) .nil)) (.lst .nil))) [.v (.tup (y :: r)), .no] = .ok (.rt (.bl (r.all g)), [.v (.tup (y :: r)), .no]) := by
  have l := lcB cf (.tup (y :: r)) g r [] (by simpa [R.bind, evSs, evS, evO, evOs, evI, asgT, asgTs, sSeq, sAsg, sIf, sRet, sEx, sAugSub, sAug, taken, tst, fVar, fGlo, fBin, fCmp, fCmp2, fNeg, fNot, fAnd, fOr, fIfe, fDsp, fIdx, fSli, fRev, fBi, fCall, fIsi, fMet, gVar, gSub, gTup, gCons, gNil, fsCons, ofD, look, Sl.get, Opd.rd, Opd.rdk, Opd.take, rds, rdks, takes, box, D.frz, D.frzs, D.kids, cmpD, inD, getD?, sliD, sliC, optI, truth, biD, Bi.copies, runF, outsOf, enter, augD, setD, atP, Exps.plain, bAddI, bMulR, bMulL, bMod, bDiv, bPow, bPow39, bAddL, bAddS, eqD_int, frzs_ints, fzs_ints, L2.atI, L2.ixN, D.fzs, D.fz, big, line, callF, prep, back, m0, m1, m2, m3, m4, m5, m6, m7, m8, m9, m10, m11, m12, m13, m14, m15, m16, m17, m18, m19, m20, m21, eqD_tup0] using hl) hz
  simp only [List.nil_append] at l
  have en := eqD_nil true true (r.filter fun z => !g z)
  rw [all_g] at en
  simp only [evS, sRet, evO, evOs, fCmp, fsCons, fLc, evC, cCons, iEx, fixed, evI, fVar, evIf, asgT, fSli, fDsp]
  simp only [evO, evOs, fsCons, evIf] at l
  simp only [D.fzs, Bool.and_eq_true] at hf
  simp [R.bind, evSs, evS, evO, evOs, evI, asgT, asgTs, sSeq, sAsg, sIf, sRet, sEx, sAugSub, sAug, taken, tst, fVar, fGlo, fBin, fCmp, fCmp2, fNeg, fNot, fAnd, fOr, fIfe, fDsp, fIdx, fSli, fRev, fBi, fCall, fIsi, fMet, gVar, gSub, gTup, gCons, gNil, fsCons, ofD, look, Sl.get, Opd.rd, Opd.rdk, Opd.take, rds, rdks, takes, box, D.frz, D.frzs, D.kids, cmpD, inD, getD?, sliD, sliC, optI, truth, biD, Bi.copies, runF, outsOf, enter, augD, setD, atP, Exps.plain, bAddI, bMulR, bMulL, bMod, bDiv, bPow, bPow39, bAddL, bAddS, eqD_int, frzs_ints, fzs_ints, L2.atI, L2.ixN, D.fzs, D.fz, big, line, callF, prep, back, m0, m1, m2, m3, m4, m5, m6, m7, m8, m9, m10, m11, m12, m13, m14, m15, m16, m17, m18, m19, m20, m21, eqD_tup0, Opd.fix, iterOf, ownOk, Z.wipe, l, Z.unwipe, evIf, hy, hr, hf.1, hf.2, cut1, fLc, cCons, iEx, fixed, en]
end Law

set_option Elab.async false
set_option linter.all false
set_option maxRecDepth 100000
set_option maxHeartbeats 400000
namespace Law
open Z PySem

theorem ok_short {x : D} (h : okD 100 x = true) : shortD x := by
  cases x with
  | str s =>
    simp only [okD, ascB, Bool.and_eq_true, decide_eq_true_eq] at h
    exact h
  | clo a b => exact nomatch h
  | _ => exact True.intro
theorem len_wts (xs : List D) : xs.length * 2 ≤ wts xs := by
  induction xs with
  | nil => simp [R.bind, evSs, evS, evO, evOs, evI, asgT, asgTs, sSeq, sAsg, sIf, sRet, sEx, sAugSub, sAug, taken, tst, fVar, fGlo, fBin, fCmp, fCmp2, fNeg, fNot, fAnd, fOr, fIfe, fDsp, fIdx, fSli, fRev, fBi, fCall, fIsi, fMet, gVar, gSub, gTup, gCons, gNil, fsCons, ofD, look, Sl.get, Opd.rd, Opd.rdk, Opd.take, rds, rdks, takes, box, D.frz, D.frzs, D.kids, cmpD, inD, getD?, sliD, sliC, optI, truth, biD, Bi.copies, runF, outsOf, enter, augD, setD, atP, Exps.plain, bAddI, bMulR, bMulL, bMod, bDiv, bPow, bPow39, bAddL, bAddS, eqD_int, frzs_ints, fzs_ints, L2.atI, L2.ixN, D.fzs, D.fz, big, line, callF, prep, back, m0, m1, m2, m3, m4, m5, m6, m7, m8, m9, m10, m11, m12, m13, m14, m15, m16, m17, m18, m19, m20, m21, wts]
  | cons x r ih => simp only [wts, List.length_cons]; omega
theorem isi_tup {x : D} (h : okD 100 x = true) : (∃ xs, x = .tup xs) ∨ isiD x .tup = some false := by
  cases x with
  | tup xs => exact .inl ⟨xs, rfl⟩
  | clo a b => exact nomatch h
  | _ => exact .inr rfl
theorem callT1 (n : Nat) (x : D) : callN txt.P txt.fs (n + 1) 1 [x] = runF f1 (evSs txt.P (callN txt.P txt.fs n) [] f1.body [.v x, .no]) := by
  have e : enter (txt.P.mode.getD 1 []) [x] ++ List.replicate (f1.ns - f1.np) Sl.no = [.v x, .no] := rfl
  have io : f1.io = [] := rfl
  rw [call_eq txt.P txt.fs n 1 [x] f1 rfl rfl, e, io]
theorem callT2 (n : Nat) (x : D) : callN txt.P txt.fs (n + 1) 12 [x] = runF f12 (evSs txt.P (callN txt.P txt.fs n) [] f12.body [.v x, .no]) := by
  have e : enter (txt.P.mode.getD 12 []) [x] ++ List.replicate (f12.ns - f12.np) Sl.no = [.v x, .no] := rfl
  have io : f12.io = [] := rfl
  rw [call_eq txt.P txt.fs n 12 [x] f12 rfl rfl, e, io]
theorem trm1 : ∀ (n : Nat) (x : D), okD 100 x = true → x.depth ≤ n → wt x ≤ 200000 → callN txt.P txt.fs (n + 2) 1 [x] = .ok (.bl (termB x)) [] := by
  intro n
  induction n with
  | zero =>
    intro x ok hd hw
    rcases isi_tup ok with ⟨xs, rfl⟩ | h
    · simp [R.bind, evSs, evS, evO, evOs, evI, asgT, asgTs, sSeq, sAsg, sIf, sRet, sEx, sAugSub, sAug, taken, tst, fVar, fGlo, fBin, fCmp, fCmp2, fNeg, fNot, fAnd, fOr, fIfe, fDsp, fIdx, fSli, fRev, fBi, fCall, fIsi, fMet, gVar, gSub, gTup, gCons, gNil, fsCons, ofD, look, Sl.get, Opd.rd, Opd.rdk, Opd.take, rds, rdks, takes, box, D.frz, D.frzs, D.kids, cmpD, inD, getD?, sliD, sliC, optI, truth, biD, Bi.copies, runF, outsOf, enter, augD, setD, atP, Exps.plain, bAddI, bMulR, bMulL, bMod, bDiv, bPow, bPow39, bAddL, bAddS, eqD_int, frzs_ints, fzs_ints, L2.atI, L2.ixN, D.fzs, D.fz, big, line, callF, prep, back, m0, m1, m2, m3, m4, m5, m6, m7, m8, m9, m10, m11, m12, m13, m14, m15, m16, m17, m18, m19, m20, m21, D.depth] at hd
    · have e : termB x = false := by cases x <;> first | rfl | (simp [R.bind, evSs, evS, evO, evOs, evI, asgT, asgTs, sSeq, sAsg, sIf, sRet, sEx, sAugSub, sAug, taken, tst, fVar, fGlo, fBin, fCmp, fCmp2, fNeg, fNot, fAnd, fOr, fIfe, fDsp, fIdx, fSli, fRev, fBi, fCall, fIsi, fMet, gVar, gSub, gTup, gCons, gNil, fsCons, ofD, look, Sl.get, Opd.rd, Opd.rdk, Opd.take, rds, rdks, takes, box, D.frz, D.frzs, D.kids, cmpD, inD, getD?, sliD, sliC, optI, truth, biD, Bi.copies, runF, outsOf, enter, augD, setD, atP, Exps.plain, bAddI, bMulR, bMulL, bMod, bDiv, bPow, bPow39, bAddL, bAddS, eqD_int, frzs_ints, fzs_ints, L2.atI, L2.ixN, D.fzs, D.fz, big, line, callF, prep, back, m0, m1, m2, m3, m4, m5, m6, m7, m8, m9, m10, m11, m12, m13, m14, m15, m16, m17, m18, m19, m20, m21, isiD, isiV] at h)
      rw [callT1, e]
      simp only [f1, evSs]
      rw [seqR (t1a _ x h)]
      exact runE _ _ _ rfl
  | succ n ih =>
    intro x ok hd hw
    rcases isi_tup ok with ⟨xs, rfl⟩ | h
    · cases xs with
      | nil =>
        rw [callT1]
        simp only [f1, evSs]
        rw [seqR (t1b _)]
        exact runE _ _ _ rfl
      | cons y r =>
        have oks : okDs 100 (y :: r) = true := by simpa [R.bind, evSs, evS, evO, evOs, evI, asgT, asgTs, sSeq, sAsg, sIf, sRet, sEx, sAugSub, sAug, taken, tst, fVar, fGlo, fBin, fCmp, fCmp2, fNeg, fNot, fAnd, fOr, fIfe, fDsp, fIdx, fSli, fRev, fBi, fCall, fIsi, fMet, gVar, gSub, gTup, gCons, gNil, fsCons, ofD, look, Sl.get, Opd.rd, Opd.rdk, Opd.take, rds, rdks, takes, box, D.frz, D.frzs, D.kids, cmpD, inD, getD?, sliD, sliC, optI, truth, biD, Bi.copies, runF, outsOf, enter, augD, setD, atP, Exps.plain, bAddI, bMulR, bMulL, bMod, bDiv, bPow, bPow39, bAddL, bAddS, eqD_int, frzs_ints, fzs_ints, L2.atI, L2.ixN, D.fzs, D.fz, big, line, callF, prep, back, m0, m1, m2, m3, m4, m5, m6, m7, m8, m9, m10, m11, m12, m13, m14, m15, m16, m17, m18, m19, m20, m21, okD] using ok
        have okr := okDs_iff.1 oks
        have oy := okr y (List.mem_cons_self ..)
        have hf := ok_fzs _ oks
        have fy := ok_frz oy
        have fr : D.frzs r = r := ok_frzs (by simp only [okDs, Bool.and_eq_true] at oks; exact oks.2)
        have hl : r.length ≤ 100000 := by
          have := len_wts (y :: r)
          simp only [wt, List.length_cons] at hw this
          omega
        have hz : ∀ z ∈ r, z.frz = z ∧ callN txt.P txt.fs (n + 2) 1 [z] = .ok (.bl (termB z)) [] := fun z hz => by
          have hm := List.mem_cons_of_mem y hz
          have oz := okr z hm
          have d := depth_mem hm
          have w := wt_mem hm
          simp only [D.depth] at hd
          simp only [wt] at hw
          exact ⟨ok_frz oz, ih z oz (by omega) (by omega)⟩
        rw [callT1]
        simp only [f1, evSs]
        have c := t1c (callN txt.P txt.fs (n + 2)) y r (nmD y) fy fr (nm1 (n + 1) y (ok_short oy))
        have e : termB (.tup (y :: r)) = (nmD y && r.all termB) := by simp only [termB, tmB, termBs_all]
        rw [e]
        cases hb : nmD y with
        | false =>
          rw [hb, if_neg Bool.false_ne_true] at c
          rw [seqR c]
          exact runE _ _ _ rfl
        | true =>
          rw [hb, if_pos rfl] at c
          rw [seqN c, seqR (t1d _ y r termB hl fy fr hf hz), Bool.true_and]
          exact runE _ _ _ rfl
    · have e : termB x = false := by cases x <;> first | rfl | (simp [R.bind, evSs, evS, evO, evOs, evI, asgT, asgTs, sSeq, sAsg, sIf, sRet, sEx, sAugSub, sAug, taken, tst, fVar, fGlo, fBin, fCmp, fCmp2, fNeg, fNot, fAnd, fOr, fIfe, fDsp, fIdx, fSli, fRev, fBi, fCall, fIsi, fMet, gVar, gSub, gTup, gCons, gNil, fsCons, ofD, look, Sl.get, Opd.rd, Opd.rdk, Opd.take, rds, rdks, takes, box, D.frz, D.frzs, D.kids, cmpD, inD, getD?, sliD, sliC, optI, truth, biD, Bi.copies, runF, outsOf, enter, augD, setD, atP, Exps.plain, bAddI, bMulR, bMulL, bMod, bDiv, bPow, bPow39, bAddL, bAddS, eqD_int, frzs_ints, fzs_ints, L2.atI, L2.ixN, D.fzs, D.fz, big, line, callF, prep, back, m0, m1, m2, m3, m4, m5, m6, m7, m8, m9, m10, m11, m12, m13, m14, m15, m16, m17, m18, m19, m20, m21, isiD, isiV] at h)
      rw [callT1, e]
      simp only [f1, evSs]
      rw [seqR (t1a _ x h)]
      exact runE _ _ _ rfl
theorem trm2 : ∀ (n : Nat) (x : D), okD 100 x = true → x.depth ≤ n → wt x ≤ 200000 → callN txt.P txt.fs (n + 2) 12 [x] = .ok (.bl (termB x)) [] := by
  intro n
  induction n with
  | zero =>
    intro x ok hd hw
    rcases isi_tup ok with ⟨xs, rfl⟩ | h
    · simp [R.bind, evSs, evS, evO, evOs, evI, asgT, asgTs, sSeq, sAsg, sIf, sRet, sEx, sAugSub, sAug, taken, tst, fVar, fGlo, fBin, fCmp, fCmp2, fNeg, fNot, fAnd, fOr, fIfe, fDsp, fIdx, fSli, fRev, fBi, fCall, fIsi, fMet, gVar, gSub, gTup, gCons, gNil, fsCons, ofD, look, Sl.get, Opd.rd, Opd.rdk, Opd.take, rds, rdks, takes, box, D.frz, D.frzs, D.kids, cmpD, inD, getD?, sliD, sliC, optI, truth, biD, Bi.copies, runF, outsOf, enter, augD, setD, atP, Exps.plain, bAddI, bMulR, bMulL, bMod, bDiv, bPow, bPow39, bAddL, bAddS, eqD_int, frzs_ints, fzs_ints, L2.atI, L2.ixN, D.fzs, D.fz, big, line, callF, prep, back, m0, m1, m2, m3, m4, m5, m6, m7, m8, m9, m10, m11, m12, m13, m14, m15, m16, m17, m18, m19, m20, m21, D.depth] at hd
    · have e : termB x = false := by cases x <;> first | rfl | (simp [R.bind, evSs, evS, evO, evOs, evI, asgT, asgTs, sSeq, sAsg, sIf, sRet, sEx, sAugSub, sAug, taken, tst, fVar, fGlo, fBin, fCmp, fCmp2, fNeg, fNot, fAnd, fOr, fIfe, fDsp, fIdx, fSli, fRev, fBi, fCall, fIsi, fMet, gVar, gSub, gTup, gCons, gNil, fsCons, ofD, look, Sl.get, Opd.rd, Opd.rdk, Opd.take, rds, rdks, takes, box, D.frz, D.frzs, D.kids, cmpD, inD, getD?, sliD, sliC, optI, truth, biD, Bi.copies, runF, outsOf, enter, augD, setD, atP, Exps.plain, bAddI, bMulR, bMulL, bMod, bDiv, bPow, bPow39, bAddL, bAddS, eqD_int, frzs_ints, fzs_ints, L2.atI, L2.ixN, D.fzs, D.fz, big, line, callF, prep, back, m0, m1, m2, m3, m4, m5, m6, m7, m8, m9, m10, m11, m12, m13, m14, m15, m16, m17, m18, m19, m20, m21, isiD, isiV] at h)
      rw [callT2, e]
      simp only [f12, evSs]
      rw [seqR (t2a _ x h)]
      exact runE _ _ _ rfl
  | succ n ih =>
    intro x ok hd hw
    rcases isi_tup ok with ⟨xs, rfl⟩ | h
    · cases xs with
      | nil =>
        rw [callT2]
        simp only [f12, evSs]
        rw [seqR (t2b _)]
        exact runE _ _ _ rfl
      | cons y r =>
        have oks : okDs 100 (y :: r) = true := by simpa [R.bind, evSs, evS, evO, evOs, evI, asgT, asgTs, sSeq, sAsg, sIf, sRet, sEx, sAugSub, sAug, taken, tst, fVar, fGlo, fBin, fCmp, fCmp2, fNeg, fNot, fAnd, fOr, fIfe, fDsp, fIdx, fSli, fRev, fBi, fCall, fIsi, fMet, gVar, gSub, gTup, gCons, gNil, fsCons, ofD, look, Sl.get, Opd.rd, Opd.rdk, Opd.take, rds, rdks, takes, box, D.frz, D.frzs, D.kids, cmpD, inD, getD?, sliD, sliC, optI, truth, biD, Bi.copies, runF, outsOf, enter, augD, setD, atP, Exps.plain, bAddI, bMulR, bMulL, bMod, bDiv, bPow, bPow39, bAddL, bAddS, eqD_int, frzs_ints, fzs_ints, L2.atI, L2.ixN, D.fzs, D.fz, big, line, callF, prep, back, m0, m1, m2, m3, m4, m5, m6, m7, m8, m9, m10, m11, m12, m13, m14, m15, m16, m17, m18, m19, m20, m21, okD] using ok
        have okr := okDs_iff.1 oks
        have oy := okr y (List.mem_cons_self ..)
        have hf := ok_fzs _ oks
        have fy := ok_frz oy
        have fr : D.frzs r = r := ok_frzs (by simp only [okDs, Bool.and_eq_true] at oks; exact oks.2)
        have hl : r.length ≤ 100000 := by
          have := len_wts (y :: r)
          simp only [wt, List.length_cons] at hw this
          omega
        have hz : ∀ z ∈ r, z.frz = z ∧ callN txt.P txt.fs (n + 2) 12 [z] = .ok (.bl (termB z)) [] := fun z hz => by
          have hm := List.mem_cons_of_mem y hz
          have oz := okr z hm
          have d := depth_mem hm
          have w := wt_mem hm
          simp only [D.depth] at hd
          simp only [wt] at hw
          exact ⟨ok_frz oz, ih z oz (by omega) (by omega)⟩
        rw [callT2]
        simp only [f12, evSs]
        have c := t2c (callN txt.P txt.fs (n + 2)) y r (nmD y) fy fr (nm8 (n + 1) y (ok_short oy))
        have e : termB (.tup (y :: r)) = (nmD y && r.all termB) := by simp only [termB, tmB, termBs_all]
        rw [e]
        cases hb : nmD y with
        | false =>
          rw [hb, if_neg Bool.false_ne_true] at c
          rw [seqR c]
          exact runE _ _ _ rfl
        | true =>
          rw [hb, if_pos rfl] at c
          rw [seqN c, seqR (t2d _ y r termB hl fy fr hf hz), Bool.true_and]
          exact runE _ _ _ rfl
    · have e : termB x = false := by cases x <;> first | rfl | (simp [R.bind, evSs, evS, evO, evOs, evI, asgT, asgTs, sSeq, sAsg, sIf, sRet, sEx, sAugSub, sAug, taken, tst, fVar, fGlo, fBin, fCmp, fCmp2, fNeg, fNot, fAnd, fOr, fIfe, fDsp, fIdx, fSli, fRev, fBi, fCall, fIsi, fMet, gVar, gSub, gTup, gCons, gNil, fsCons, ofD, look, Sl.get, Opd.rd, Opd.rdk, Opd.take, rds, rdks, takes, box, D.frz, D.frzs, D.kids, cmpD, inD, getD?, sliD, sliC, optI, truth, biD, Bi.copies, runF, outsOf, enter, augD, setD, atP, Exps.plain, bAddI, bMulR, bMulL, bMod, bDiv, bPow, bPow39, bAddL, bAddS, eqD_int, frzs_ints, fzs_ints, L2.atI, L2.ixN, D.fzs, D.fz, big, line, callF, prep, back, m0, m1, m2, m3, m4, m5, m6, m7, m8, m9, m10, m11, m12, m13, m14, m15, m16, m17, m18, m19, m20, m21, isiD, isiV] at h)
      rw [callT2, e]
      simp only [f12, evSs]
      rw [seqR (t2a _ x h)]
      exact runE _ _ _ rfl
end Law

set_option Elab.async false
set_option linter.all false
set_option maxRecDepth 100000
set_option maxHeartbeats 400000
namespace Law
open Z PySem

/-! ## drawn terms -/
theorem bSubI (i j : Int) : binD .sub (.int i) (.int j) = some (.int (i - j)) := rfl
theorem bAddT (a b : List D) : binD .add (.tup a) (.tup b) = if D.fzs a && D.fzs b && decide (a.length + b.length ≤ line) then some (.tup (a ++ b)) else none := rfl
/-- a thing: its signs, how deep, how long -/
def Th (m d w : Nat) (x : D) : Prop := okD m x = true ∧ x.depth ≤ d ∧ wt x ≤ w
theorem Th.up {m d w m' d' w' : Nat} {x : D} (h : Th m d w x) (h1 : m ≤ m') (h2 : d ≤ d') (h3 : w ≤ w') : Th m' d' w' x := ⟨ok_up h1 x h.1, Nat.le_trans h.2.1 h2, Nat.le_trans h.2.2 h3⟩
theorem Th.tup {m d w : Nat} {xs : List D} (h1 : ∀ x ∈ xs, okD m x = true) (h2 : ∀ x ∈ xs, x.depth ≤ d) (h3 : wts xs + 3 ≤ w) : Th m (d + 1) w (.tup xs) := by
  refine ⟨by simp only [okD]; exact okDs_iff.2 h1, ?_, by simp only [wt]; exact h3⟩
  simp only [D.depth]
  have := depths_le h2
  omega
theorem th_name {x : D} (h : Tx 8 x) : Th 8 0 10 x := by
  obtain ⟨s, rfl, h1, h2, h3⟩ := h
  refine ⟨?_, Nat.le_refl 0, ?_⟩
  · simp only [okD, ascB, Bool.and_eq_true, decide_eq_true_eq]
    exact ⟨h2, lo_asc h3⟩
  · simp only [wt, repr_lo h3]; omega
def tw : Nat → Nat | 0 => 15 | k + 1 => 15 + 6 * (tw k + 2)
theorem at0a (cf : Nat → List D → C) (d d2 : D) (deep r : Int) (h0 : 0 < deep) (h : cf 7 [d, .int (if deep = 1 then 7 else 4)] = .ok (.int r) [d2]) : evS txt.P cf [0] (.asg (.var 2) (.ife (.cmp .gt (.var 1) (.cst (.int 0))) (.call 7 (.cons (.var 0) (.cons (.ife (.cmp .eq (.var 1) (.cst (.int 1))) (.cst (.int 7)) (.cst (.int 4))) .nil))) (.cst (.int 0)))) [.v d, .v (.int deep), .no, .no] = .ok (.nx, [.v d2, .v (.int deep), .v (.int r), .no]) := by
  by_cases h1 : deep = 1
  · rw [if_pos h1] at h
    simp [R.bind, evSs, evS, evO, evOs, evI, asgT, asgTs, sSeq, sAsg, sIf, sRet, sEx, sAugSub, sAug, taken, tst, fVar, fGlo, fBin, fCmp, fCmp2, fNeg, fNot, fAnd, fOr, fIfe, fDsp, fIdx, fSli, fRev, fBi, fCall, fIsi, fMet, gVar, gSub, gTup, gCons, gNil, fsCons, ofD, look, Sl.get, Opd.rd, Opd.rdk, Opd.take, rds, rdks, takes, box, D.frz, D.frzs, D.kids, cmpD, inD, getD?, sliD, sliC, optI, truth, biD, Bi.copies, runF, outsOf, enter, augD, setD, atP, Exps.plain, bAddI, bMulR, bMulL, bMod, bDiv, bPow, bPow39, bAddL, bAddS, eqD_int, frzs_ints, fzs_ints, L2.atI, L2.ixN, D.fzs, D.fz, big, line, callF, prep, back, m0, m1, m2, m3, m4, m5, m6, m7, m8, m9, m10, m11, m12, m13, m14, m15, m16, m17, m18, m19, m20, m21, bSubI, bAddT, seqLT, fBin, fIfe, h0, h1, h]
  · rw [if_neg h1] at h
    simp [R.bind, evSs, evS, evO, evOs, evI, asgT, asgTs, sSeq, sAsg, sIf, sRet, sEx, sAugSub, sAug, taken, tst, fVar, fGlo, fBin, fCmp, fCmp2, fNeg, fNot, fAnd, fOr, fIfe, fDsp, fIdx, fSli, fRev, fBi, fCall, fIsi, fMet, gVar, gSub, gTup, gCons, gNil, fsCons, ofD, look, Sl.get, Opd.rd, Opd.rdk, Opd.take, rds, rdks, takes, box, D.frz, D.frzs, D.kids, cmpD, inD, getD?, sliD, sliC, optI, truth, biD, Bi.copies, runF, outsOf, enter, augD, setD, atP, Exps.plain, bAddI, bMulR, bMulL, bMod, bDiv, bPow, bPow39, bAddL, bAddS, eqD_int, frzs_ints, fzs_ints, L2.atI, L2.ixN, D.fzs, D.fz, big, line, callF, prep, back, m0, m1, m2, m3, m4, m5, m6, m7, m8, m9, m10, m11, m12, m13, m14, m15, m16, m17, m18, m19, m20, m21, bSubI, bAddT, seqLT, fBin, fIfe, h0, h1, h]
theorem at0b (cf : Nat → List D → C) (d : D) : evS txt.P cf [0] (.asg (.var 2) (.ife (.cmp .gt (.var 1) (.cst (.int 0))) (.call 7 (.cons (.var 0) (.cons (.ife (.cmp .eq (.var 1) (.cst (.int 1))) (.cst (.int 7)) (.cst (.int 4))) .nil))) (.cst (.int 0)))) [.v d, .v (.int ((0 : Nat) : Int)), .no, .no] = .ok (.nx, [.v d, .v (.int ((0 : Nat) : Int)), .v (.int 0), .no]) := by
  simp [R.bind, evSs, evS, evO, evOs, evI, asgT, asgTs, sSeq, sAsg, sIf, sRet, sEx, sAugSub, sAug, taken, tst, fVar, fGlo, fBin, fCmp, fCmp2, fNeg, fNot, fAnd, fOr, fIfe, fDsp, fIdx, fSli, fRev, fBi, fCall, fIsi, fMet, gVar, gSub, gTup, gCons, gNil, fsCons, ofD, look, Sl.get, Opd.rd, Opd.rdk, Opd.take, rds, rdks, takes, box, D.frz, D.frzs, D.kids, cmpD, inD, getD?, sliD, sliC, optI, truth, biD, Bi.copies, runF, outsOf, enter, augD, setD, atP, Exps.plain, bAddI, bMulR, bMulL, bMod, bDiv, bPow, bPow39, bAddL, bAddS, eqD_int, frzs_ints, fzs_ints, L2.atI, L2.ixN, D.fzs, D.fz, big, line, callF, prep, back, m0, m1, m2, m3, m4, m5, m6, m7, m8, m9, m10, m11, m12, m13, m14, m15, m16, m17, m18, m19, m20, m21, bSubI, bAddT, seqLT, fBin, fIfe]
theorem at_lc (cf : Nat → List D → C) (deep : Int) (m dd w : Nat) (hc : ∀ d, Bag d → ∃ x d2, Th m dd w x ∧ Bag d2 ∧ cf 17 [d, .int (deep - 1)] = .ok x [d2]) (s2 : Sl) : ∀ (is : List D) (d : D) (acc : List D), Bag d → (∀ a ∈ acc, Th m dd w a) → acc.length + is.length ≤ 1000 →
  ∃ (out : List D) (d2 : D), Bag d2 ∧ (∀ a ∈ out, Th m dd w a) ∧ out.length = acc.length + is.length ∧ forC (gVar [0] 3) (leaf1 (evO txt.P cf [0] (.call 17 (.cons (.var 0) (.cons (.bin .sub (.var 1) (.cst (.int 1))) .nil))))) (evIf txt.P cf [0] .nil) [3] is acc [.v d, .v (.int deep), s2, .no] = .ok (out, [.v d2, .v (.int deep), s2, .no]) := by
  intro is
  induction is with
  | nil => intro d acc hd ha hl; exact ⟨acc, d, hd, ha, rfl, rfl⟩
  | cons i is ih =>
    intro d acc hd ha hl
    simp only [List.length_cons] at hl
    obtain ⟨x, d2, h1, h2, h3⟩ := hc d hd
    obtain ⟨out, d3, g1, g2, g3, g4⟩ := ih d2 (acc ++ [x]) h2 (by
      intro a h; rcases List.mem_append.1 h with h | h
      · exact ha a h
      · rw [List.mem_singleton.1 h]; exact h1) (by simp only [List.length_append, List.length_cons, List.length_nil]; omega)
    refine ⟨out, d3, g1, g2, by rw [g3]; simp only [List.length_append, List.length_cons, List.length_nil]; omega, ?_⟩
    have h5 : acc.length < 1048576 := by omega
    simp [R.bind, evSs, evS, evO, evOs, evI, asgT, asgTs, sSeq, sAsg, sIf, sRet, sEx, sAugSub, sAug, taken, tst, fVar, fGlo, fBin, fCmp, fCmp2, fNeg, fNot, fAnd, fOr, fIfe, fDsp, fIdx, fSli, fRev, fBi, fCall, fIsi, fMet, gVar, gSub, gTup, gCons, gNil, fsCons, ofD, look, Sl.get, Opd.rd, Opd.rdk, Opd.take, rds, rdks, takes, box, D.frz, D.frzs, D.kids, cmpD, inD, getD?, sliD, sliC, optI, truth, biD, Bi.copies, runF, outsOf, enter, augD, setD, atP, Exps.plain, bAddI, bMulR, bMulL, bMod, bDiv, bPow, bPow39, bAddL, bAddS, eqD_int, frzs_ints, fzs_ints, L2.atI, L2.ixN, D.fzs, D.fz, big, line, callF, prep, back, m0, m1, m2, m3, m4, m5, m6, m7, m8, m9, m10, m11, m12, m13, m14, m15, m16, m17, m18, m19, m20, m21, bSubI, bAddT, seqLT, fBin, fIfe, forC, leaf1, evIf, h3, h5, Z.wipe] at g4 ⊢
    exact g4
theorem at1 (cf : Nat → List D → C) (deep r : Int) (m dd w : Nat) (hm : 8 ≤ m) (h0 : 0 ≤ r) (h6 : r < 7) (hn : ∀ d, Bag d → ∃ x d2, Tx 8 x ∧ Bag d2 ∧ cf 16 [d] = .ok x [d2]) (hc : 0 < r → ∀ d, Bag d → ∃ x d2, Th m dd w x ∧ Bag d2 ∧ cf 17 [d, .int (deep - 1)] = .ok x [d2]) (d : D) (hd : Bag d) :
  ∃ x d2, Th m (dd + 1) (15 + 6 * (w + 2)) x ∧ (r = 0 → Th m 1 15 x) ∧ Bag d2 ∧ evS txt.P cf [0] (.ret (.bin .add (.tup (.cons (.call 16 (.cons (.var 0) .nil)) .nil)) (.bi .tuple (.cons (.lc [3] (.call 17 (.cons (.var 0) (.cons (.bin .sub (.var 1) (.cst (.int 1))) .nil))) (.cons (.var 3) (.range (.cons (.var 2) .nil)) .nil .nil)) .nil)))) [.v d, .v (.int deep), .v (.int r), .no] = .ok (.rt x, [.v d2, .v (.int deep), .v (.int r), .no]) := by
  obtain ⟨x, d1, tx, b1, c1⟩ := hn d hd
  have thx := th_name tx
  have q1 : r < 4611686018427387904 := by omega
  have q2 : -4611686018427387904 ≤ r := by omega
  have key : ∃ (out : List D) (d2 : D), Bag d2 ∧ (∀ a ∈ out, Th m dd w a) ∧ out.length ≤ 6 ∧ (r = 0 → out = []) ∧ forC (gVar [0] 3) (leaf1 (evO txt.P cf [0] (.call 17 (.cons (.var 0) (.cons (.bin .sub (.var 1) (.cst (.int 1))) .nil))))) (evIf txt.P cf [0] .nil) [3] ((List.range r.toNat).map fun (i : Nat) => D.int (i : Int)) [] [.v d1, .v (.int deep), .v (.int r), .no] = .ok (out, [.v d2, .v (.int deep), .v (.int r), .no]) := by
    by_cases hr : r = 0
    · subst hr
      exact ⟨[], d1, b1, (fun _ h => nomatch h), by simp [R.bind, evSs, evS, evO, evOs, evI, asgT, asgTs, sSeq, sAsg, sIf, sRet, sEx, sAugSub, sAug, taken, tst, fVar, fGlo, fBin, fCmp, fCmp2, fNeg, fNot, fAnd, fOr, fIfe, fDsp, fIdx, fSli, fRev, fBi, fCall, fIsi, fMet, gVar, gSub, gTup, gCons, gNil, fsCons, ofD, look, Sl.get, Opd.rd, Opd.rdk, Opd.take, rds, rdks, takes, box, D.frz, D.frzs, D.kids, cmpD, inD, getD?, sliD, sliC, optI, truth, biD, Bi.copies, runF, outsOf, enter, augD, setD, atP, Exps.plain, bAddI, bMulR, bMulL, bMod, bDiv, bPow, bPow39, bAddL, bAddS, eqD_int, frzs_ints, fzs_ints, L2.atI, L2.ixN, D.fzs, D.fz, big, line, callF, prep, back, m0, m1, m2, m3, m4, m5, m6, m7, m8, m9, m10, m11, m12, m13, m14, m15, m16, m17, m18, m19, m20, m21, bSubI, bAddT, seqLT, fBin, fIfe], fun _ => rfl, rfl⟩
    · obtain ⟨out, d2, g1, g2, g3, g4⟩ := at_lc cf deep m dd w (hc (by omega)) (.v (.int r)) ((List.range r.toNat).map fun (i : Nat) => D.int (i : Int)) d1 [] b1 (fun _ h => nomatch h) (by simp [R.bind, evSs, evS, evO, evOs, evI, asgT, asgTs, sSeq, sAsg, sIf, sRet, sEx, sAugSub, sAug, taken, tst, fVar, fGlo, fBin, fCmp, fCmp2, fNeg, fNot, fAnd, fOr, fIfe, fDsp, fIdx, fSli, fRev, fBi, fCall, fIsi, fMet, gVar, gSub, gTup, gCons, gNil, fsCons, ofD, look, Sl.get, Opd.rd, Opd.rdk, Opd.take, rds, rdks, takes, box, D.frz, D.frzs, D.kids, cmpD, inD, getD?, sliD, sliC, optI, truth, biD, Bi.copies, runF, outsOf, enter, augD, setD, atP, Exps.plain, bAddI, bMulR, bMulL, bMod, bDiv, bPow, bPow39, bAddL, bAddS, eqD_int, frzs_ints, fzs_ints, L2.atI, L2.ixN, D.fzs, D.fz, big, line, callF, prep, back, m0, m1, m2, m3, m4, m5, m6, m7, m8, m9, m10, m11, m12, m13, m14, m15, m16, m17, m18, m19, m20, m21, bSubI, bAddT, seqLT, fBin, fIfe]; omega)
      refine ⟨out, d2, g1, g2, by rw [g3]; simp [R.bind, evSs, evS, evO, evOs, evI, asgT, asgTs, sSeq, sAsg, sIf, sRet, sEx, sAugSub, sAug, taken, tst, fVar, fGlo, fBin, fCmp, fCmp2, fNeg, fNot, fAnd, fOr, fIfe, fDsp, fIdx, fSli, fRev, fBi, fCall, fIsi, fMet, gVar, gSub, gTup, gCons, gNil, fsCons, ofD, look, Sl.get, Opd.rd, Opd.rdk, Opd.take, rds, rdks, takes, box, D.frz, D.frzs, D.kids, cmpD, inD, getD?, sliD, sliC, optI, truth, biD, Bi.copies, runF, outsOf, enter, augD, setD, atP, Exps.plain, bAddI, bMulR, bMulL, bMod, bDiv, bPow, bPow39, bAddL, bAddS, eqD_int, frzs_ints, fzs_ints, L2.atI, L2.ixN, D.fzs, D.fz, big, line, callF, prep, back, m0, m1, m2, m3, m4, m5, m6, m7, m8, m9, m10, m11, m12, m13, m14, m15, m16, m17, m18, m19, m20, m21, bSubI, bAddT, seqLT, fBin, fIfe]; omega, fun h => absurd h hr, g4⟩
  obtain ⟨out, d2, g1, g2, g3, g5, g4⟩ := key
  have oo : okDs m out = true := okDs_iff.2 fun a ha => (g2 a ha).1
  have fo := ok_frzs oo
  have zo := ok_fzs _ oo
  have fx : x.frz = x := ok_frz thx.1
  have zx : x.fz = true := ok_fz _ thx.1
  have q3 : out.length ≤ 1048575 := by omega
  have hw := wts_le (xs := out) (n := w) fun a ha => (g2 a ha).2.2
  have hw2 : out.length * (w + 2) ≤ 6 * (w + 2) := Nat.mul_le_mul_right _ g3
  have mem : ∀ a ∈ x :: out, okD m a = true := fun a ha => by
    rcases List.mem_cons.1 ha with rfl | ha
    · exact ok_up hm _ thx.1
    · exact (g2 a ha).1
  refine ⟨.tup (x :: out), d2, ?_, ?_, g1, ?_⟩
  · refine Th.tup mem (fun a ha => ?_) ?_
    · rcases List.mem_cons.1 ha with rfl | ha
      · have := thx.2.1; omega
      · exact (g2 a ha).2.1
    · simp only [wts]
      have := thx.2.2
      omega
  · intro h
    have e := g5 h
    subst e
    refine Th.tup (d := 0) mem (fun a ha => ?_) ?_
    · rw [List.mem_singleton.1 ha]; exact thx.2.1
    · simp only [wts]
      have := thx.2.2
      omega
  · simp only [evO, evOs, evIf] at g4
    simp [R.bind, evSs, evS, evO, evOs, evI, asgT, asgTs, sSeq, sAsg, sIf, sRet, sEx, sAugSub, sAug, taken, tst, fVar, fGlo, fBin, fCmp, fCmp2, fNeg, fNot, fAnd, fOr, fIfe, fDsp, fIdx, fSli, fRev, fBi, fCall, fIsi, fMet, gVar, gSub, gTup, gCons, gNil, fsCons, ofD, look, Sl.get, Opd.rd, Opd.rdk, Opd.take, rds, rdks, takes, box, D.frz, D.frzs, D.kids, cmpD, inD, getD?, sliD, sliC, optI, truth, biD, Bi.copies, runF, outsOf, enter, augD, setD, atP, Exps.plain, bAddI, bMulR, bMulL, bMod, bDiv, bPow, bPow39, bAddL, bAddS, eqD_int, frzs_ints, fzs_ints, L2.atI, L2.ixN, D.fzs, D.fz, big, line, callF, prep, back, m0, m1, m2, m3, m4, m5, m6, m7, m8, m9, m10, m11, m12, m13, m14, m15, m16, m17, m18, m19, m20, m21, bSubI, bAddT, seqLT, fBin, fIfe, fLc, evC, evIf, cCons, iRange, rangeD, ownOk, Z.wipe, Z.unwipe, c1, q1, q2, g4, fo, zo, fx, zx, q3, Nat.add_comm]
theorem callA (n : Nat) (d : D) (k : Int) : callN txt.P txt.fs (n + 1) 17 [d, .int k] = runF f17 (evSs txt.P (callN txt.P txt.fs n) [0] f17.body [.v d, .v (.int k), .no, .no]) := by
  have e : enter (txt.P.mode.getD 17 []) [d, .int k] ++ List.replicate (f17.ns - f17.np) Sl.no = [.v d, .v (.int k), .no, .no] := rfl
  have io : f17.io = [0] := rfl
  rw [call_eq txt.P txt.fs n 17 [d, .int k] f17 rfl rfl, e, io]
theorem any_ok : ∀ (k n : Nat) (d : D), Bag d → ∃ x d2, Th 8 (k + 1) (tw k) x ∧ Bag d2 ∧ callN txt.P txt.fs (n + 4 + k) 17 [d, .int k] = .ok x [d2] := by
  intro k
  induction k with
  | zero =>
    intro n d hd
    obtain ⟨x, d2, h1, h2, h3, h4⟩ := at1 (callN txt.P txt.fs (n + 3)) ((0 : Nat) : Int) 0 8 0 0 (by omega) (by omega) (by omega) (fun d hd => name_ok n d hd) (fun h => absurd h (by omega)) d hd
    refine ⟨x, d2, h2 rfl, h3, ?_⟩
    rw [show n + 4 + 0 = (n + 3) + 1 from rfl, callA]
    simp only [f17, evSs]
    rw [seqN (at0b _ d), seqR h4]
    exact runF0 _ x d2 _ rfl
  | succ k ih =>
    intro n d hd
    obtain ⟨r, d1, r1, r2, b1, c1⟩ : ∃ (r : Int) (d1 : D), 0 ≤ r ∧ r < 7 ∧ Bag d1 ∧ callN txt.P txt.fs (n + 4 + k) 7 [d, .int (if ((k + 1 : Nat) : Int) = 1 then 7 else 4)] = .ok (.int r) [d1] := by
      split
      · obtain ⟨r, d1, r1, r2, b1, c1⟩ := take_ok (n + 3 + k) d 7 hd (by omega) (by omega)
        exact ⟨r, d1, r1, r2, b1, by rw [show n + 4 + k = n + 3 + k + 1 by omega]; exact c1⟩
      · obtain ⟨r, d1, r1, r2, b1, c1⟩ := take_ok (n + 3 + k) d 4 hd (by omega) (by omega)
        exact ⟨r, d1, r1, by omega, b1, by rw [show n + 4 + k = n + 3 + k + 1 by omega]; exact c1⟩
    have c0 := at0a (callN txt.P txt.fs (n + 4 + k)) d d1 ((k + 1 : Nat) : Int) r (by omega) c1
    obtain ⟨x, d2, h1, h2, h3, h4⟩ := at1 (callN txt.P txt.fs (n + 4 + k)) ((k + 1 : Nat) : Int) r 8 (k + 1) (tw k) (by omega) r1 r2 (fun d hd => by
      obtain ⟨x, d2, a1, a2, a3⟩ := name_ok (n + 1 + k) d hd
      exact ⟨x, d2, a1, a2, by rw [show n + 4 + k = n + 1 + k + 3 by omega]; exact a3⟩) (fun _ d hd => by
      obtain ⟨x, d2, a1, a2, a3⟩ := ih n d hd
      exact ⟨x, d2, a1, a2, by rw [show ((k + 1 : Nat) : Int) - 1 = (k : Int) by omega]; exact a3⟩) d1 b1
    refine ⟨x, d2, h1, h3, ?_⟩
    rw [show n + 4 + (k + 1) = (n + 4 + k) + 1 from rfl, callA]
    simp only [f17, evSs]
    rw [seqN c0, seqR h4]
    exact runF0 _ x d2 _ rfl
end Law

set_option Elab.async false
set_option linter.all false
set_option maxRecDepth 100000
set_option maxHeartbeats 400000
namespace Law
open Z PySem

/-! ## drawn codes -/
theorem sT {P : Prog} {cf : Nat → List D → C} {io : List Nat} {c : Exp} {a b : Stms} {env e : Z.Env} (h : tst (evO P cf io c) env = .ok (true, e)) : evS P cf io (.ifS c a b) env = evSs P cf io a e := by
  rw [evS]; exact ifT h
theorem sF {P : Prog} {cf : Nat → List D → C} {io : List Nat} {c : Exp} {a : Stms} {env e : Z.Env} (h : tst (evO P cf io c) env = .ok (false, e)) : evS P cf io (.ifS c a .nil) env = .ok (.nx, e) := by
  rw [evS, ifF h]; rfl
theorem bR {P : Prog} {cf : Nat → List D → C} {io : List Nat} {s : Stm} {r : Stms} {env e : Z.Env} {d : D} (h : evS P cf io s env = .ok (.rt d, e)) : evSs P cf io (.cons s r) env = .ok (.rt d, e) := by
  rw [evSs]; exact seqR h
theorem bN {P : Prog} {cf : Nat → List D → C} {io : List Nat} {s : Stm} {r : Stms} {env e : Z.Env} (h : evS P cf io s env = .ok (.nx, e)) : evSs P cf io (.cons s r) env = evSs P cf io r e := by
  rw [evSs]; exact seqN h
theorem bE {P : Prog} {cf : Nat → List D → C} {io : List Nat} {env : Z.Env} : evSs P cf io .nil env = .ok (.nx, env) := rfl
theorem wts_pairs {m d : Nat} : ∀ {xs : List (D × Nat)}, (∀ q ∈ xs, Th m d q.2 q.1) → wts (xs.map (·.1)) ≤ (xs.map fun q => q.2 + 2).sum
  | [], _ => by simp [R.bind, evSs, evS, evO, evOs, evI, asgT, asgTs, sSeq, sAsg, sIf, sRet, sEx, sAugSub, sAug, taken, tst, fVar, fGlo, fBin, fCmp, fCmp2, fNeg, fNot, fAnd, fOr, fIfe, fDsp, fIdx, fSli, fRev, fBi, fCall, fIsi, fMet, gVar, gSub, gTup, gCons, gNil, fsCons, ofD, look, Sl.get, Opd.rd, Opd.rdk, Opd.take, rds, rdks, takes, box, D.frz, D.frzs, D.kids, cmpD, inD, getD?, sliD, sliC, optI, truth, biD, Bi.copies, runF, outsOf, enter, augD, setD, atP, Exps.plain, bAddI, bMulR, bMulL, bMod, bDiv, bPow, bPow39, bAddL, bAddS, eqD_int, frzs_ints, fzs_ints, L2.atI, L2.ixN, D.fzs, D.fz, big, line, callF, prep, back, m0, m1, m2, m3, m4, m5, m6, m7, m8, m9, m10, m11, m12, m13, m14, m15, m16, m17, m18, m19, m20, m21, bSubI, bAddT, seqLT, fIfe, wts]
  | q :: r, h => by
    have h1 := (h q (List.mem_cons_self ..)).2.2
    have h2 := wts_pairs (xs := r) fun p hp => h p (List.mem_cons_of_mem _ hp)
    simp only [List.map_cons, wts, List.sum_cons]; omega
def cw : Nat → Nat | 0 => tw 2 + 13 | k + 1 => 2 * cw k + 2 * tw 1 + 17
theorem ac0a (cf : Nat → List D → C) (d : D) (g : Bool) : tst (evO txt.P cf [0] (.or (.cmp .eq (.var 1) (.cst (.int 0))) (.cmp .eq (.call 7 (.cons (.var 0) (.cons (.cst (.int 3)) .nil))) (.cst (.int 0))))) [.v d, .v (.int ((0 : Nat) : Int)), .v (.bl g), .no, .no] = .ok (true, [.v d, .v (.int ((0 : Nat) : Int)), .v (.bl g), .no, .no]) := by
  simp [R.bind, evSs, evS, evO, evOs, evI, asgT, asgTs, sSeq, sAsg, sIf, sRet, sEx, sAugSub, sAug, taken, tst, fVar, fGlo, fBin, fCmp, fCmp2, fNeg, fNot, fAnd, fOr, fIfe, fDsp, fIdx, fSli, fRev, fBi, fCall, fIsi, fMet, gVar, gSub, gTup, gCons, gNil, fsCons, ofD, look, Sl.get, Opd.rd, Opd.rdk, Opd.take, rds, rdks, takes, box, D.frz, D.frzs, D.kids, cmpD, inD, getD?, sliD, sliC, optI, truth, biD, Bi.copies, runF, outsOf, enter, augD, setD, atP, Exps.plain, bAddI, bMulR, bMulL, bMod, bDiv, bPow, bPow39, bAddL, bAddS, eqD_int, frzs_ints, fzs_ints, L2.atI, L2.ixN, D.fzs, D.fz, big, line, callF, prep, back, m0, m1, m2, m3, m4, m5, m6, m7, m8, m9, m10, m11, m12, m13, m14, m15, m16, m17, m18, m19, m20, m21, bSubI, bAddT, seqLT, fIfe]
theorem ac0b (cf : Nat → List D → C) (d d1 : D) (k r : Int) (g : Bool) (hk : k ≠ 0) (h : cf 7 [d, .int 3] = .ok (.int r) [d1]) : tst (evO txt.P cf [0] (.or (.cmp .eq (.var 1) (.cst (.int 0))) (.cmp .eq (.call 7 (.cons (.var 0) (.cons (.cst (.int 3)) .nil))) (.cst (.int 0))))) [.v d, .v (.int k), .v (.bl g), .no, .no] = .ok (decide (r = 0), [.v d1, .v (.int k), .v (.bl g), .no, .no]) := by
  simp [R.bind, evSs, evS, evO, evOs, evI, asgT, asgTs, sSeq, sAsg, sIf, sRet, sEx, sAugSub, sAug, taken, tst, fVar, fGlo, fBin, fCmp, fCmp2, fNeg, fNot, fAnd, fOr, fIfe, fDsp, fIdx, fSli, fRev, fBi, fCall, fIsi, fMet, gVar, gSub, gTup, gCons, gNil, fsCons, ofD, look, Sl.get, Opd.rd, Opd.rdk, Opd.take, rds, rdks, takes, box, D.frz, D.frzs, D.kids, cmpD, inD, getD?, sliD, sliC, optI, truth, biD, Bi.copies, runF, outsOf, enter, augD, setD, atP, Exps.plain, bAddI, bMulR, bMulL, bMod, bDiv, bPow, bPow39, bAddL, bAddS, eqD_int, frzs_ints, fzs_ints, L2.atI, L2.ixN, D.fzs, D.fz, big, line, callF, prep, back, m0, m1, m2, m3, m4, m5, m6, m7, m8, m9, m10, m11, m12, m13, m14, m15, m16, m17, m18, m19, m20, m21, bSubI, bAddT, seqLT, fIfe, hk, h]
theorem ac1 (cf : Nat → List D → C) (d d2 x : D) (k : Int) (hx : x.frz = x) (h : cf 9 [d, .lst false [.str "yes", .str "no"]] = .ok x [d2]) : evS txt.P cf [0] (.ret (.ife (.var 2) (.tup (.cons (.call 9 (.cons (.var 0) (.cons (.lst (.cons (.cst (.str "yes")) (.cons (.cst (.str "no")) .nil))) .nil))) .nil)) (.tup (.cons (.cst (.str "tell")) (.cons (.call 17 (.cons (.var 0) (.cons (.cst (.int 2)) .nil))) .nil))))) [.v d, .v (.int k), .v (.bl true), .no, .no] = .ok (.rt (.tup [x]), [.v d2, .v (.int k), .v (.bl true), .no, .no]) := by
  simp [R.bind, evSs, evS, evO, evOs, evI, asgT, asgTs, sSeq, sAsg, sIf, sRet, sEx, sAugSub, sAug, taken, tst, fVar, fGlo, fBin, fCmp, fCmp2, fNeg, fNot, fAnd, fOr, fIfe, fDsp, fIdx, fSli, fRev, fBi, fCall, fIsi, fMet, gVar, gSub, gTup, gCons, gNil, fsCons, ofD, look, Sl.get, Opd.rd, Opd.rdk, Opd.take, rds, rdks, takes, box, D.frz, D.frzs, D.kids, cmpD, inD, getD?, sliD, sliC, optI, truth, biD, Bi.copies, runF, outsOf, enter, augD, setD, atP, Exps.plain, bAddI, bMulR, bMulL, bMod, bDiv, bPow, bPow39, bAddL, bAddS, eqD_int, frzs_ints, fzs_ints, L2.atI, L2.ixN, D.fzs, D.fz, big, line, callF, prep, back, m0, m1, m2, m3, m4, m5, m6, m7, m8, m9, m10, m11, m12, m13, m14, m15, m16, m17, m18, m19, m20, m21, bSubI, bAddT, seqLT, fIfe, h, hx]
theorem ac2 (cf : Nat → List D → C) (d d2 x : D) (k : Int) (hx : x.frz = x) (h : cf 17 [d, .int ((2 : Nat) : Int)] = .ok x [d2]) : evS txt.P cf [0] (.ret (.ife (.var 2) (.tup (.cons (.call 9 (.cons (.var 0) (.cons (.lst (.cons (.cst (.str "yes")) (.cons (.cst (.str "no")) .nil))) .nil))) .nil)) (.tup (.cons (.cst (.str "tell")) (.cons (.call 17 (.cons (.var 0) (.cons (.cst (.int 2)) .nil))) .nil))))) [.v d, .v (.int k), .v (.bl false), .no, .no] = .ok (.rt (.tup [.str "tell", x]), [.v d2, .v (.int k), .v (.bl false), .no, .no]) := by
  have h : cf 17 [d, .int 2] = .ok x [d2] := h
  simp [R.bind, evSs, evS, evO, evOs, evI, asgT, asgTs, sSeq, sAsg, sIf, sRet, sEx, sAugSub, sAug, taken, tst, fVar, fGlo, fBin, fCmp, fCmp2, fNeg, fNot, fAnd, fOr, fIfe, fDsp, fIdx, fSli, fRev, fBi, fCall, fIsi, fMet, gVar, gSub, gTup, gCons, gNil, fsCons, ofD, look, Sl.get, Opd.rd, Opd.rdk, Opd.take, rds, rdks, takes, box, D.frz, D.frzs, D.kids, cmpD, inD, getD?, sliD, sliC, optI, truth, biD, Bi.copies, runF, outsOf, enter, augD, setD, atP, Exps.plain, bAddI, bMulR, bMulL, bMod, bDiv, bPow, bPow39, bAddL, bAddS, eqD_int, frzs_ints, fzs_ints, L2.atI, L2.ixN, D.fzs, D.fz, big, line, callF, prep, back, m0, m1, m2, m3, m4, m5, m6, m7, m8, m9, m10, m11, m12, m13, m14, m15, m16, m17, m18, m19, m20, m21, bSubI, bAddT, seqLT, fIfe, h, hx]
theorem ac3 (cf : Nat → List D → C) (d d1 d2 x y : D) (s1 s2 s3 s4 : Sl) (h1 : cf 17 [d, .int ((1 : Nat) : Int)] = .ok x [d1]) (h2 : cf 17 [d1, .int ((1 : Nat) : Int)] = .ok y [d2]) : evS txt.P cf [0] (.asg (.tup (.cons (.var 3) (.cons (.var 4) .nil))) (.tup (.cons (.call 17 (.cons (.var 0) (.cons (.cst (.int 1)) .nil))) (.cons (.call 17 (.cons (.var 0) (.cons (.cst (.int 1)) .nil))) .nil)))) [.v d, s1, s2, .no, .no] = .ok (.nx, [.v d2, s1, s2, .v x, .v y]) := by
  have h1 : cf 17 [d, .int 1] = .ok x [d1] := h1
  have h2 : cf 17 [d1, .int 1] = .ok y [d2] := h2
  simp [R.bind, evSs, evS, evO, evOs, evI, asgT, asgTs, sSeq, sAsg, sIf, sRet, sEx, sAugSub, sAug, taken, tst, fVar, fGlo, fBin, fCmp, fCmp2, fNeg, fNot, fAnd, fOr, fIfe, fDsp, fIdx, fSli, fRev, fBi, fCall, fIsi, fMet, gVar, gSub, gTup, gCons, gNil, fsCons, ofD, look, Sl.get, Opd.rd, Opd.rdk, Opd.take, rds, rdks, takes, box, D.frz, D.frzs, D.kids, cmpD, inD, getD?, sliD, sliC, optI, truth, biD, Bi.copies, runF, outsOf, enter, augD, setD, atP, Exps.plain, bAddI, bMulR, bMulL, bMod, bDiv, bPow, bPow39, bAddL, bAddS, eqD_int, frzs_ints, fzs_ints, L2.atI, L2.ixN, D.fzs, D.fz, big, line, callF, prep, back, m0, m1, m2, m3, m4, m5, m6, m7, m8, m9, m10, m11, m12, m13, m14, m15, m16, m17, m18, m19, m20, m21, bSubI, bAddT, seqLT, fIfe, h1, h2]
theorem ac4 (cf : Nat → List D → C) (d d1 d2 x y u v : D) (k : Int) (g : Bool) (hx : x.frz = x) (hy : y.frz = y) (hu : u.frz = u) (hv : v.frz = v) (h1 : cf 19 [d, .int (k - 1), .bl g] = .ok u [d1]) (h2 : cf 19 [d1, .int (k - 1), .bl g] = .ok v [d2]) : evS txt.P cf [0] (.ret (.tup (.cons (.cst (.str "if")) (.cons (.var 3) (.cons (.var 4) (.cons (.call 19 (.cons (.var 0) (.cons (.bin .sub (.var 1) (.cst (.int 1))) (.cons (.var 2) .nil)))) (.cons (.call 19 (.cons (.var 0) (.cons (.bin .sub (.var 1) (.cst (.int 1))) (.cons (.var 2) .nil)))) .nil))))))) [.v d, .v (.int k), .v (.bl g), .v x, .v y] = .ok (.rt (.tup [.str "if", x, y, u, v]), [.v d2, .v (.int k), .v (.bl g), .v x, .v y]) := by
  simp [R.bind, evSs, evS, evO, evOs, evI, asgT, asgTs, sSeq, sAsg, sIf, sRet, sEx, sAugSub, sAug, taken, tst, fVar, fGlo, fBin, fCmp, fCmp2, fNeg, fNot, fAnd, fOr, fIfe, fDsp, fIdx, fSli, fRev, fBi, fCall, fIsi, fMet, gVar, gSub, gTup, gCons, gNil, fsCons, ofD, look, Sl.get, Opd.rd, Opd.rdk, Opd.take, rds, rdks, takes, box, D.frz, D.frzs, D.kids, cmpD, inD, getD?, sliD, sliC, optI, truth, biD, Bi.copies, runF, outsOf, enter, augD, setD, atP, Exps.plain, bAddI, bMulR, bMulL, bMod, bDiv, bPow, bPow39, bAddL, bAddS, eqD_int, frzs_ints, fzs_ints, L2.atI, L2.ixN, D.fzs, D.fz, big, line, callF, prep, back, m0, m1, m2, m3, m4, m5, m6, m7, m8, m9, m10, m11, m12, m13, m14, m15, m16, m17, m18, m19, m20, m21, bSubI, bAddT, seqLT, fIfe, h1, h2, hx, hy, hu, hv]
theorem callC (n : Nat) (d : D) (k : Int) (g : Bool) : callN txt.P txt.fs (n + 1) 19 [d, .int k, .bl g] = runF f19 (evSs txt.P (callN txt.P txt.fs n) [0] f19.body [.v d, .v (.int k), .v (.bl g), .no, .no]) := by
  have e : enter (txt.P.mode.getD 19 []) [d, .int k, .bl g] ++ List.replicate (f19.ns - f19.np) Sl.no = [.v d, .v (.int k), .v (.bl g), .no, .no] := rfl
  have io : f19.io = [0] := rfl
  rw [call_eq txt.P txt.fs n 19 [d, .int k, .bl g] f19 rfl rfl, e, io]
theorem word_th {m : Nat} {s : Str} (hm : s.length ≤ m) (h : Lo s) : Th m 0 (s.length + 2) (.str s) := by
  refine ⟨?_, Nat.le_refl 0, by simp only [wt, repr_lo h]; omega⟩
  simp only [okD, ascB, Bool.and_eq_true, decide_eq_true_eq]
  exact ⟨hm, lo_asc h⟩
theorem th_list {m d : Nat} {xs : List (D × Nat)} (h : ∀ q ∈ xs, Th m d q.2 q.1) : Th m (d + 1) ((xs.map fun q => q.2 + 2).sum + 3) (.tup (xs.map (·.1))) := by
  refine Th.tup (fun x hx => ?_) (fun x hx => ?_) ?_
  · obtain ⟨q, hq, rfl⟩ := List.mem_map.1 hx; exact (h q hq).1
  · obtain ⟨q, hq, rfl⟩ := List.mem_map.1 hx; exact (h q hq).2.1
  · have := wts_pairs h
    omega
theorem w_if : Th 8 0 4 (.str "if") := word_th (s := "if") (by decide +kernel) (by unfold Lo; decide +kernel)
theorem w_tell : Th 8 0 6 (.str "tell") := word_th (s := "tell") (by decide +kernel) (by unfold Lo; decide +kernel)
theorem th_tell {x : D} {d w : Nat} (h : Th 8 d w x) : Th 8 (d + 1) (w + 13) (.tup [.str "tell", x]) := by
  have := th_list (m := 8) (d := d) (xs := [(.str "tell", 6), (x, w)]) (by
    intro q hq
    simp only [List.mem_cons, List.not_mem_nil, or_false] at hq
    rcases hq with rfl | rfl
    · exact w_tell.up (Nat.le_refl _) (Nat.zero_le _) (Nat.le_refl _)
    · exact h)
  exact this.up (Nat.le_refl _) (Nat.le_refl _) (by simp [R.bind, evSs, evS, evO, evOs, evI, asgT, asgTs, sSeq, sAsg, sIf, sRet, sEx, sAugSub, sAug, taken, tst, fVar, fGlo, fBin, fCmp, fCmp2, fNeg, fNot, fAnd, fOr, fIfe, fDsp, fIdx, fSli, fRev, fBi, fCall, fIsi, fMet, gVar, gSub, gTup, gCons, gNil, fsCons, ofD, look, Sl.get, Opd.rd, Opd.rdk, Opd.take, rds, rdks, takes, box, D.frz, D.frzs, D.kids, cmpD, inD, getD?, sliD, sliC, optI, truth, biD, Bi.copies, runF, outsOf, enter, augD, setD, atP, Exps.plain, bAddI, bMulR, bMulL, bMod, bDiv, bPow, bPow39, bAddL, bAddS, eqD_int, frzs_ints, fzs_ints, L2.atI, L2.ixN, D.fzs, D.fz, big, line, callF, prep, back, m0, m1, m2, m3, m4, m5, m6, m7, m8, m9, m10, m11, m12, m13, m14, m15, m16, m17, m18, m19, m20, m21, bSubI, bAddT, seqLT, fIfe]; omega)
theorem th_if {x y u v : D} {d w c : Nat} (hx : Th 8 d w x) (hy : Th 8 d w y) (hu : Th 8 d c u) (hv : Th 8 d c v) : Th 8 (d + 1) (2 * c + 2 * w + 17) (.tup [.str "if", x, y, u, v]) := by
  have := th_list (m := 8) (d := d) (xs := [(.str "if", 4), (x, w), (y, w), (u, c), (v, c)]) (by
    intro q hq
    simp only [List.mem_cons, List.not_mem_nil, or_false] at hq
    rcases hq with rfl | rfl | rfl | rfl | rfl
    · exact w_if.up (Nat.le_refl _) (Nat.zero_le _) (Nat.le_refl _)
    · exact hx
    · exact hy
    · exact hu
    · exact hv)
  exact this.up (Nat.le_refl _) (Nat.le_refl _) (by simp [R.bind, evSs, evS, evO, evOs, evI, asgT, asgTs, sSeq, sAsg, sIf, sRet, sEx, sAugSub, sAug, taken, tst, fVar, fGlo, fBin, fCmp, fCmp2, fNeg, fNot, fAnd, fOr, fIfe, fDsp, fIdx, fSli, fRev, fBi, fCall, fIsi, fMet, gVar, gSub, gTup, gCons, gNil, fsCons, ofD, look, Sl.get, Opd.rd, Opd.rdk, Opd.take, rds, rdks, takes, box, D.frz, D.frzs, D.kids, cmpD, inD, getD?, sliD, sliC, optI, truth, biD, Bi.copies, runF, outsOf, enter, augD, setD, atP, Exps.plain, bAddI, bMulR, bMulL, bMod, bDiv, bPow, bPow39, bAddL, bAddS, eqD_int, frzs_ints, fzs_ints, L2.atI, L2.ixN, D.fzs, D.fz, big, line, callF, prep, back, m0, m1, m2, m3, m4, m5, m6, m7, m8, m9, m10, m11, m12, m13, m14, m15, m16, m17, m18, m19, m20, m21, bSubI, bAddT, seqLT, fIfe]; omega)
theorem th_yn {x : D} (h : x ∈ D.frzs [.str "yes", .str "no"]) : Th 8 1 742 (.tup [x]) := by
  have hx : Th 8 0 5 x := by
    simp only [D.frzs, D.frz, List.mem_cons, List.not_mem_nil, or_false] at h
    rcases h with rfl | rfl
    · exact (word_th (m := 8) (s := "yes") (by decide +kernel) (by unfold Lo; decide +kernel))
    · exact (word_th (m := 8) (s := "no") (by decide +kernel) (by unfold Lo; decide +kernel)).up (Nat.le_refl _) (Nat.le_refl _) (by decide +kernel)
  have := th_list (m := 8) (d := 0) (xs := [(x, 5)]) (by
    intro q hq
    rw [List.mem_singleton.1 hq]; exact hx)
  exact this.up (Nat.le_refl _) (Nat.le_refl _) (by simp [R.bind, evSs, evS, evO, evOs, evI, asgT, asgTs, sSeq, sAsg, sIf, sRet, sEx, sAugSub, sAug, taken, tst, fVar, fGlo, fBin, fCmp, fCmp2, fNeg, fNot, fAnd, fOr, fIfe, fDsp, fIdx, fSli, fRev, fBi, fCall, fIsi, fMet, gVar, gSub, gTup, gCons, gNil, fsCons, ofD, look, Sl.get, Opd.rd, Opd.rdk, Opd.take, rds, rdks, takes, box, D.frz, D.frzs, D.kids, cmpD, inD, getD?, sliD, sliC, optI, truth, biD, Bi.copies, runF, outsOf, enter, augD, setD, atP, Exps.plain, bAddI, bMulR, bMulL, bMod, bDiv, bPow, bPow39, bAddL, bAddS, eqD_int, frzs_ints, fzs_ints, L2.atI, L2.ixN, D.fzs, D.fz, big, line, callF, prep, back, m0, m1, m2, m3, m4, m5, m6, m7, m8, m9, m10, m11, m12, m13, m14, m15, m16, m17, m18, m19, m20, m21, bSubI, bAddT, seqLT, fIfe])
theorem cw_ge : ∀ k, 742 ≤ cw k
  | 0 => by decide
  | k + 1 => by have := cw_ge k; simp only [cw]; omega
/-- a code's end, however it was come to -/
theorem code_end (n k : Nat) (g : Bool) (d : D) (hd : Bag d) : ∃ x d2, Th 8 4 742 x ∧ Bag d2 ∧ evS txt.P (callN txt.P txt.fs (n + 6)) [0] (.ret (.ife (.var 2) (.tup (.cons (.call 9 (.cons (.var 0) (.cons (.lst (.cons (.cst (.str "yes")) (.cons (.cst (.str "no")) .nil))) .nil))) .nil)) (.tup (.cons (.cst (.str "tell")) (.cons (.call 17 (.cons (.var 0) (.cons (.cst (.int 2)) .nil))) .nil))))) [.v d, .v (.int (k : Int)), .v (.bl g), .no, .no] = .ok (.rt x, [.v d2, .v (.int (k : Int)), .v (.bl g), .no, .no]) := by
  cases g with
  | true =>
    obtain ⟨x, d2, h1, h2, h3⟩ := one_lst (n + 4) d false [.str "yes", .str "no"] hd (by decide) (by decide)
    have th := th_yn h1
    have fx : x.frz = x := by
      simp only [D.frzs, D.frz, List.mem_cons, List.not_mem_nil, or_false] at h1
      rcases h1 with rfl | rfl <;> rfl
    exact ⟨_, d2, th.up (Nat.le_refl _) (by omega) (Nat.le_refl _), h2, ac1 _ d d2 x _ fx h3⟩
  | false =>
    obtain ⟨x, d2, h1, h2, h3⟩ := any_ok 2 n d hd
    exact ⟨_, d2, (th_tell h1).up (Nat.le_refl _) (Nat.le_refl _) (by decide), h2, ac2 _ d d2 x _ (ok_frz h1.1) h3⟩
theorem code_ok : ∀ (k n : Nat) (g : Bool) (d : D), Bag d → ∃ x d2, Th 8 (k + 4) (cw k) x ∧ Bag d2 ∧ callN txt.P txt.fs (n + 7 + k) 19 [d, .int k, .bl g] = .ok x [d2] := by
  intro k
  induction k with
  | zero =>
    intro n g d hd
    obtain ⟨x, d2, h1, h2, h3⟩ := code_end n 0 g d hd
    refine ⟨x, d2, h1.up (Nat.le_refl _) (Nat.le_refl _) (cw_ge 0), h2, ?_⟩
    rw [show n + 7 + 0 = (n + 6) + 1 from rfl, callC]
    simp only [f19, evSs]
    rw [seqR ((sT (ac0a _ d g)).trans (bR h3))]
    exact runF0 _ x d2 _ rfl
  | succ k ih =>
    intro n g d hd
    obtain ⟨r, d1, r1, r2, b1, c1⟩ := take_ok (n + 6 + k) d 3 hd (by omega) (by omega)
    have c1 : callN txt.P txt.fs (n + 7 + k) 7 [d, .int 3] = .ok (.int r) [d1] := by rw [show n + 7 + k = n + 6 + k + 1 by omega]; exact c1
    have t0 := ac0b (callN txt.P txt.fs (n + 7 + k)) d d1 ((k + 1 : Nat) : Int) r g (by omega) c1
    by_cases hr : r = 0
    · obtain ⟨x, d2, h1, h2, h3⟩ := code_end (n + 1 + k) (k + 1) g d1 b1
      refine ⟨x, d2, h1.up (Nat.le_refl _) (by omega) (cw_ge (k + 1)), h2, ?_⟩
      rw [show n + 1 + k + 6 = n + 7 + k by omega] at h3
      rw [decide_eq_true hr] at t0
      rw [show n + 7 + (k + 1) = (n + 7 + k) + 1 from rfl, callC]
      simp only [f19, evSs]
      rw [seqR ((sT t0).trans (bR h3))]
      exact runF0 _ x d2 _ rfl
    · rw [decide_eq_false hr] at t0
      obtain ⟨x, d2, x1, x2, x3⟩ := any_ok 1 (n + 2 + k) d1 b1
      obtain ⟨y, d3, y1, y2, y3⟩ := any_ok 1 (n + 2 + k) d2 x2
      obtain ⟨u, d4, u1, u2, u3⟩ := ih n g d3 y2
      obtain ⟨v, d5, v1, v2, v3⟩ := ih n g d4 u2
      rw [show n + 2 + k + 4 + 1 = n + 7 + k by omega] at x3 y3
      have e : ((k + 1 : Nat) : Int) - 1 = (k : Int) := by omega
      refine ⟨_, d5, (th_if (d := k + 4) (x1.up (Nat.le_refl _) (by omega) (Nat.le_refl _)) (y1.up (Nat.le_refl _) (by omega) (Nat.le_refl _)) u1 v1), v2, ?_⟩
      rw [show n + 7 + (k + 1) = (n + 7 + k) + 1 from rfl, callC]
      simp only [f19, evSs]
      rw [seqN (sF t0), seqN (ac3 _ d1 d2 d3 x y _ _ .no .no x3 y3), seqR (ac4 _ d3 d4 d5 x y u v _ g (ok_frz x1.1) (ok_frz y1.1) (ok_frz u1.1) (ok_frz v1.1) (by rw [e]; exact u3) (by rw [e]; exact v3))]
      exact runF0 _ _ d5 _ rfl
end Law

set_option Elab.async false
set_option linter.all false
set_option maxRecDepth 100000
set_option maxHeartbeats 400000
namespace Law
open Z PySem

/-! ## things bent -/
theorem cut_lo (p : List D) (c : D) (q : List D) : cutD (p ++ c :: q) none (some (p.length : Int)) = p := by
  simp only [cutD, HT.sIx_none, HT.sIx_nat, List.length_append]
  rw [Nat.min_eq_left (by omega)]
  simp [R.bind, evSs, evS, evO, evOs, evI, asgT, asgTs, sSeq, sAsg, sIf, sRet, sEx, sAugSub, sAug, taken, tst, fVar, fGlo, fBin, fCmp, fCmp2, fNeg, fNot, fAnd, fOr, fIfe, fDsp, fIdx, fSli, fRev, fBi, fCall, fIsi, fMet, gVar, gSub, gTup, gCons, gNil, fsCons, ofD, look, Sl.get, Opd.rd, Opd.rdk, Opd.take, rds, rdks, takes, box, D.frz, D.frzs, D.kids, cmpD, inD, getD?, sliD, sliC, optI, truth, biD, Bi.copies, runF, outsOf, enter, augD, setD, atP, Exps.plain, bAddI, bMulR, bMulL, bMod, bDiv, bPow, bPow39, bAddL, bAddS, eqD_int, frzs_ints, fzs_ints, L2.atI, L2.ixN, D.fzs, D.fz, big, line, callF, prep, back, m0, m1, m2, m3, m4, m5, m6, m7, m8, m9, m10, m11, m12, m13, m14, m15, m16, m17, m18, m19, m20, m21, bSubI, bAddT, seqLT, fIfe]
theorem cut_hi (p : List D) (c : D) (q : List D) : cutD (p ++ c :: q) (some (p.length : Int)) none = c :: q := by
  simp only [cutD, HT.sIx_none, HT.sIx_nat, List.length_append]
  rw [Nat.min_eq_left (by omega)]
  simp [R.bind, evSs, evS, evO, evOs, evI, asgT, asgTs, sSeq, sAsg, sIf, sRet, sEx, sAugSub, sAug, taken, tst, fVar, fGlo, fBin, fCmp, fCmp2, fNeg, fNot, fAnd, fOr, fIfe, fDsp, fIdx, fSli, fRev, fBi, fCall, fIsi, fMet, gVar, gSub, gTup, gCons, gNil, fsCons, ofD, look, Sl.get, Opd.rd, Opd.rdk, Opd.take, rds, rdks, takes, box, D.frz, D.frzs, D.kids, cmpD, inD, getD?, sliD, sliC, optI, truth, biD, Bi.copies, runF, outsOf, enter, augD, setD, atP, Exps.plain, bAddI, bMulR, bMulL, bMod, bDiv, bPow, bPow39, bAddL, bAddS, eqD_int, frzs_ints, fzs_ints, L2.atI, L2.ixN, D.fzs, D.fz, big, line, callF, prep, back, m0, m1, m2, m3, m4, m5, m6, m7, m8, m9, m10, m11, m12, m13, m14, m15, m16, m17, m18, m19, m20, m21, bSubI, bAddT, seqLT, fIfe]
theorem cut_hi1 (p : List D) (c : D) (q : List D) : cutD (p ++ c :: q) (some ((p.length : Int) + 1)) none = q := by
  have e : ((p.length : Int) + 1) = ((p.length + 1 : Nat) : Int) := by omega
  rw [e]
  simp only [cutD, HT.sIx_none, HT.sIx_nat, List.length_append, List.length_cons]
  rw [Nat.min_eq_left (by omega)]
  simp [R.bind, evSs, evS, evO, evOs, evI, asgT, asgTs, sSeq, sAsg, sIf, sRet, sEx, sAugSub, sAug, taken, tst, fVar, fGlo, fBin, fCmp, fCmp2, fNeg, fNot, fAnd, fOr, fIfe, fDsp, fIdx, fSli, fRev, fBi, fCall, fIsi, fMet, gVar, gSub, gTup, gCons, gNil, fsCons, ofD, look, Sl.get, Opd.rd, Opd.rdk, Opd.take, rds, rdks, takes, box, D.frz, D.frzs, D.kids, cmpD, inD, getD?, sliD, sliC, optI, truth, biD, Bi.copies, runF, outsOf, enter, augD, setD, atP, Exps.plain, bAddI, bMulR, bMulL, bMod, bDiv, bPow, bPow39, bAddL, bAddS, eqD_int, frzs_ints, fzs_ints, L2.atI, L2.ixN, D.fzs, D.fz, big, line, callF, prep, back, m0, m1, m2, m3, m4, m5, m6, m7, m8, m9, m10, m11, m12, m13, m14, m15, m16, m17, m18, m19, m20, m21, bSubI, bAddT, seqLT, fIfe]
  exact List.take_of_length_le (by omega)
theorem at_p (p : List D) (c : D) (q : List D) : getD? (.tup (p ++ c :: q)) (.int (p.length : Int)) = some c := by
  have h : (p.length : Int) < p.length + (q.length + 1) := by omega
  simp only [getD?, L2.atI, L2.ixN]
  simp [R.bind, evSs, evS, evO, evOs, evI, asgT, asgTs, sSeq, sAsg, sIf, sRet, sEx, sAugSub, sAug, taken, tst, fVar, fGlo, fBin, fCmp, fCmp2, fNeg, fNot, fAnd, fOr, fIfe, fDsp, fIdx, fSli, fRev, fBi, fCall, fIsi, fMet, gVar, gSub, gTup, gCons, gNil, fsCons, ofD, look, Sl.get, Opd.rd, Opd.rdk, Opd.take, rds, rdks, takes, box, D.frz, D.frzs, D.kids, cmpD, inD, getD?, sliD, sliC, optI, truth, biD, Bi.copies, runF, outsOf, enter, augD, setD, atP, Exps.plain, bAddI, bMulR, bMulL, bMod, bDiv, bPow, bPow39, bAddL, bAddS, eqD_int, frzs_ints, fzs_ints, L2.atI, L2.ixN, D.fzs, D.fz, big, line, callF, prep, back, m0, m1, m2, m3, m4, m5, m6, m7, m8, m9, m10, m11, m12, m13, m14, m15, m16, m17, m18, m19, m20, m21, bSubI, bAddT, seqLT, fIfe, h]
theorem neD_tup0 (xs : List D) : neD (.tup xs) (.tup []) = some (!xs.isEmpty) := by
  have e : D.shp (.tup []) = some (.tuple []) := rfl
  have h := eqD_tup0 xs
  simp only [eqD, neD, e] at h ⊢
  cases hs : D.shp (.tup xs) with
  | none => simp only
  | some p =>
    rw [hs] at h
    simp only [Option.some.injEq] at h ⊢
    rw [h]
theorem zs_snoc : ∀ {p : List D} {c : D}, D.fzs p = true → c.fz = true → D.fzs (p ++ [c]) = true
  | [], c, _, h => by simp [R.bind, evSs, evS, evO, evOs, evI, asgT, asgTs, sSeq, sAsg, sIf, sRet, sEx, sAugSub, sAug, taken, tst, fVar, fGlo, fBin, fCmp, fCmp2, fNeg, fNot, fAnd, fOr, fIfe, fDsp, fIdx, fSli, fRev, fBi, fCall, fIsi, fMet, gVar, gSub, gTup, gCons, gNil, fsCons, ofD, look, Sl.get, Opd.rd, Opd.rdk, Opd.take, rds, rdks, takes, box, D.frz, D.frzs, D.kids, cmpD, inD, getD?, sliD, sliC, optI, truth, biD, Bi.copies, runF, outsOf, enter, augD, setD, atP, Exps.plain, bAddI, bMulR, bMulL, bMod, bDiv, bPow, bPow39, bAddL, bAddS, eqD_int, frzs_ints, fzs_ints, L2.atI, L2.ixN, D.fzs, D.fz, big, line, callF, prep, back, m0, m1, m2, m3, m4, m5, m6, m7, m8, m9, m10, m11, m12, m13, m14, m15, m16, m17, m18, m19, m20, m21, bSubI, bAddT, seqLT, fIfe, h]
  | y :: p, c, h, hc => by
    simp only [D.fzs, Bool.and_eq_true] at h
    simp only [List.cons_append, D.fzs, Bool.and_eq_true]
    exact ⟨h.1, zs_snoc h.2 hc⟩
theorem split_at {xs : List D} {r : Int} (h0 : 0 ≤ r) (h1 : r < xs.length) : ∃ p c q, xs = p ++ c :: q ∧ r = (p.length : Int) := by
  have hr : r.toNat < xs.length := by omega
  refine ⟨xs.take r.toNat, xs[r.toNat], xs.drop (r.toNat + 1), ?_, ?_⟩
  · rw [List.getElem_cons_drop, List.take_append_drop]
  · rw [List.length_take, Nat.min_eq_left (by omega)]; omega
def bc1 (x : D) (w : Int) : Bool := match x with | .tup xs => !xs.isEmpty && decide (1 < w) | _ => false
def bc2 (x : D) (w : Int) : Bool := match x with | .str _ => decide (1 < w) | _ => false
theorem bt0 (cf : Nat → List D → C) (d d2 x : D) (w : Int) (h : cf 7 [d, .int 15] = .ok (.int w) [d2]) : evS txt.P cf [0] (.asg (.var 2) (.call 7 (.cons (.var 0) (.cons (.cst (.int 15)) .nil)))) [.v d, .v x, .no, .no, .no] = .ok (.nx, [.v d2, .v x, .v (.int w), .no, .no]) := by
  simp [R.bind, evSs, evS, evO, evOs, evI, asgT, asgTs, sSeq, sAsg, sIf, sRet, sEx, sAugSub, sAug, taken, tst, fVar, fGlo, fBin, fCmp, fCmp2, fNeg, fNot, fAnd, fOr, fIfe, fDsp, fIdx, fSli, fRev, fBi, fCall, fIsi, fMet, gVar, gSub, gTup, gCons, gNil, fsCons, ofD, look, Sl.get, Opd.rd, Opd.rdk, Opd.take, rds, rdks, takes, box, D.frz, D.frzs, D.kids, cmpD, inD, getD?, sliD, sliC, optI, truth, biD, Bi.copies, runF, outsOf, enter, augD, setD, atP, Exps.plain, bAddI, bMulR, bMulL, bMod, bDiv, bPow, bPow39, bAddL, bAddS, eqD_int, frzs_ints, fzs_ints, L2.atI, L2.ixN, D.fzs, D.fz, big, line, callF, prep, back, m0, m1, m2, m3, m4, m5, m6, m7, m8, m9, m10, m11, m12, m13, m14, m15, m16, m17, m18, m19, m20, m21, bSubI, bAddT, seqLT, fIfe, h]
theorem bt1 (cf : Nat → List D → C) (d x : D) (w : Int) (m : Nat) (h : okD m x = true) : tst (evO txt.P cf [0] (.and (.isi (.var 1) .tup) (.and (.cmp .ne (.var 1) (.tup .nil)) (.cmp .gt (.var 2) (.cst (.int 1)))))) [.v d, .v x, .v (.int w), .no, .no] = .ok (bc1 x w, [.v d, .v x, .v (.int w), .no, .no]) := by
  cases x with
  | tup xs =>
    cases xs with
    | nil => simp [R.bind, evSs, evS, evO, evOs, evI, asgT, asgTs, sSeq, sAsg, sIf, sRet, sEx, sAugSub, sAug, taken, tst, fVar, fGlo, fBin, fCmp, fCmp2, fNeg, fNot, fAnd, fOr, fIfe, fDsp, fIdx, fSli, fRev, fBi, fCall, fIsi, fMet, gVar, gSub, gTup, gCons, gNil, fsCons, ofD, look, Sl.get, Opd.rd, Opd.rdk, Opd.take, rds, rdks, takes, box, D.frz, D.frzs, D.kids, cmpD, inD, getD?, sliD, sliC, optI, truth, biD, Bi.copies, runF, outsOf, enter, augD, setD, atP, Exps.plain, bAddI, bMulR, bMulL, bMod, bDiv, bPow, bPow39, bAddL, bAddS, eqD_int, frzs_ints, fzs_ints, L2.atI, L2.ixN, D.fzs, D.fz, big, line, callF, prep, back, m0, m1, m2, m3, m4, m5, m6, m7, m8, m9, m10, m11, m12, m13, m14, m15, m16, m17, m18, m19, m20, m21, bSubI, bAddT, seqLT, fIfe, isiD, isiV, bc1, neD_tup0]
    | cons y r =>
      by_cases hw : 1 < w
      · simp [R.bind, evSs, evS, evO, evOs, evI, asgT, asgTs, sSeq, sAsg, sIf, sRet, sEx, sAugSub, sAug, taken, tst, fVar, fGlo, fBin, fCmp, fCmp2, fNeg, fNot, fAnd, fOr, fIfe, fDsp, fIdx, fSli, fRev, fBi, fCall, fIsi, fMet, gVar, gSub, gTup, gCons, gNil, fsCons, ofD, look, Sl.get, Opd.rd, Opd.rdk, Opd.take, rds, rdks, takes, box, D.frz, D.frzs, D.kids, cmpD, inD, getD?, sliD, sliC, optI, truth, biD, Bi.copies, runF, outsOf, enter, augD, setD, atP, Exps.plain, bAddI, bMulR, bMulL, bMod, bDiv, bPow, bPow39, bAddL, bAddS, eqD_int, frzs_ints, fzs_ints, L2.atI, L2.ixN, D.fzs, D.fz, big, line, callF, prep, back, m0, m1, m2, m3, m4, m5, m6, m7, m8, m9, m10, m11, m12, m13, m14, m15, m16, m17, m18, m19, m20, m21, bSubI, bAddT, seqLT, fIfe, isiD, isiV, bc1, neD_tup0, hw]
      · simp [R.bind, evSs, evS, evO, evOs, evI, asgT, asgTs, sSeq, sAsg, sIf, sRet, sEx, sAugSub, sAug, taken, tst, fVar, fGlo, fBin, fCmp, fCmp2, fNeg, fNot, fAnd, fOr, fIfe, fDsp, fIdx, fSli, fRev, fBi, fCall, fIsi, fMet, gVar, gSub, gTup, gCons, gNil, fsCons, ofD, look, Sl.get, Opd.rd, Opd.rdk, Opd.take, rds, rdks, takes, box, D.frz, D.frzs, D.kids, cmpD, inD, getD?, sliD, sliC, optI, truth, biD, Bi.copies, runF, outsOf, enter, augD, setD, atP, Exps.plain, bAddI, bMulR, bMulL, bMod, bDiv, bPow, bPow39, bAddL, bAddS, eqD_int, frzs_ints, fzs_ints, L2.atI, L2.ixN, D.fzs, D.fz, big, line, callF, prep, back, m0, m1, m2, m3, m4, m5, m6, m7, m8, m9, m10, m11, m12, m13, m14, m15, m16, m17, m18, m19, m20, m21, bSubI, bAddT, seqLT, fIfe, isiD, isiV, bc1, neD_tup0, hw, Int.not_lt.1 hw]
  | clo a b => exact nomatch h
  | _ => simp [R.bind, evSs, evS, evO, evOs, evI, asgT, asgTs, sSeq, sAsg, sIf, sRet, sEx, sAugSub, sAug, taken, tst, fVar, fGlo, fBin, fCmp, fCmp2, fNeg, fNot, fAnd, fOr, fIfe, fDsp, fIdx, fSli, fRev, fBi, fCall, fIsi, fMet, gVar, gSub, gTup, gCons, gNil, fsCons, ofD, look, Sl.get, Opd.rd, Opd.rdk, Opd.take, rds, rdks, takes, box, D.frz, D.frzs, D.kids, cmpD, inD, getD?, sliD, sliC, optI, truth, biD, Bi.copies, runF, outsOf, enter, augD, setD, atP, Exps.plain, bAddI, bMulR, bMulL, bMod, bDiv, bPow, bPow39, bAddL, bAddS, eqD_int, frzs_ints, fzs_ints, L2.atI, L2.ixN, D.fzs, D.fz, big, line, callF, prep, back, m0, m1, m2, m3, m4, m5, m6, m7, m8, m9, m10, m11, m12, m13, m14, m15, m16, m17, m18, m19, m20, m21, bSubI, bAddT, seqLT, fIfe, isiD, isiV, bc1]
theorem bt2 (cf : Nat → List D → C) (d x : D) (w : Int) (m : Nat) (h : okD m x = true) : tst (evO txt.P cf [0] (.and (.isi (.var 1) .str) (.cmp .gt (.var 2) (.cst (.int 1))))) [.v d, .v x, .v (.int w), .no, .no] = .ok (bc2 x w, [.v d, .v x, .v (.int w), .no, .no]) := by
  cases x with
  | str s =>
    by_cases hw : 1 < w
    · simp [R.bind, evSs, evS, evO, evOs, evI, asgT, asgTs, sSeq, sAsg, sIf, sRet, sEx, sAugSub, sAug, taken, tst, fVar, fGlo, fBin, fCmp, fCmp2, fNeg, fNot, fAnd, fOr, fIfe, fDsp, fIdx, fSli, fRev, fBi, fCall, fIsi, fMet, gVar, gSub, gTup, gCons, gNil, fsCons, ofD, look, Sl.get, Opd.rd, Opd.rdk, Opd.take, rds, rdks, takes, box, D.frz, D.frzs, D.kids, cmpD, inD, getD?, sliD, sliC, optI, truth, biD, Bi.copies, runF, outsOf, enter, augD, setD, atP, Exps.plain, bAddI, bMulR, bMulL, bMod, bDiv, bPow, bPow39, bAddL, bAddS, eqD_int, frzs_ints, fzs_ints, L2.atI, L2.ixN, D.fzs, D.fz, big, line, callF, prep, back, m0, m1, m2, m3, m4, m5, m6, m7, m8, m9, m10, m11, m12, m13, m14, m15, m16, m17, m18, m19, m20, m21, bSubI, bAddT, seqLT, fIfe, isiD, isiV, bc2, hw]
    · simp [R.bind, evSs, evS, evO, evOs, evI, asgT, asgTs, sSeq, sAsg, sIf, sRet, sEx, sAugSub, sAug, taken, tst, fVar, fGlo, fBin, fCmp, fCmp2, fNeg, fNot, fAnd, fOr, fIfe, fDsp, fIdx, fSli, fRev, fBi, fCall, fIsi, fMet, gVar, gSub, gTup, gCons, gNil, fsCons, ofD, look, Sl.get, Opd.rd, Opd.rdk, Opd.take, rds, rdks, takes, box, D.frz, D.frzs, D.kids, cmpD, inD, getD?, sliD, sliC, optI, truth, biD, Bi.copies, runF, outsOf, enter, augD, setD, atP, Exps.plain, bAddI, bMulR, bMulL, bMod, bDiv, bPow, bPow39, bAddL, bAddS, eqD_int, frzs_ints, fzs_ints, L2.atI, L2.ixN, D.fzs, D.fz, big, line, callF, prep, back, m0, m1, m2, m3, m4, m5, m6, m7, m8, m9, m10, m11, m12, m13, m14, m15, m16, m17, m18, m19, m20, m21, bSubI, bAddT, seqLT, fIfe, isiD, isiV, bc2, hw, Int.not_lt.1 hw]
  | clo a b => exact nomatch h
  | _ => simp [R.bind, evSs, evS, evO, evOs, evI, asgT, asgTs, sSeq, sAsg, sIf, sRet, sEx, sAugSub, sAug, taken, tst, fVar, fGlo, fBin, fCmp, fCmp2, fNeg, fNot, fAnd, fOr, fIfe, fDsp, fIdx, fSli, fRev, fBi, fCall, fIsi, fMet, gVar, gSub, gTup, gCons, gNil, fsCons, ofD, look, Sl.get, Opd.rd, Opd.rdk, Opd.take, rds, rdks, takes, box, D.frz, D.frzs, D.kids, cmpD, inD, getD?, sliD, sliC, optI, truth, biD, Bi.copies, runF, outsOf, enter, augD, setD, atP, Exps.plain, bAddI, bMulR, bMulL, bMod, bDiv, bPow, bPow39, bAddL, bAddS, eqD_int, frzs_ints, fzs_ints, L2.atI, L2.ixN, D.fzs, D.fz, big, line, callF, prep, back, m0, m1, m2, m3, m4, m5, m6, m7, m8, m9, m10, m11, m12, m13, m14, m15, m16, m17, m18, m19, m20, m21, bSubI, bAddT, seqLT, fIfe, isiD, isiV, bc2]
theorem bt3 (cf : Nat → List D → C) (d d2 : D) (s2 s3 s4 : Sl) (x y : D) (h : cf 10 [d] = .ok y [d2]) : evS txt.P cf [0] (.ret (.call 10 (.cons (.var 0) .nil))) [.v d, .v x, s2, s3, s4] = .ok (.rt y, [.v d2, .v x, s2, s3, s4]) := by
  simp [R.bind, evSs, evS, evO, evOs, evI, asgT, asgTs, sSeq, sAsg, sIf, sRet, sEx, sAugSub, sAug, taken, tst, fVar, fGlo, fBin, fCmp, fCmp2, fNeg, fNot, fAnd, fOr, fIfe, fDsp, fIdx, fSli, fRev, fBi, fCall, fIsi, fMet, gVar, gSub, gTup, gCons, gNil, fsCons, ofD, look, Sl.get, Opd.rd, Opd.rdk, Opd.take, rds, rdks, takes, box, D.frz, D.frzs, D.kids, cmpD, inD, getD?, sliD, sliC, optI, truth, biD, Bi.copies, runF, outsOf, enter, augD, setD, atP, Exps.plain, bAddI, bMulR, bMulL, bMod, bDiv, bPow, bPow39, bAddL, bAddS, eqD_int, frzs_ints, fzs_ints, L2.atI, L2.ixN, D.fzs, D.fz, big, line, callF, prep, back, m0, m1, m2, m3, m4, m5, m6, m7, m8, m9, m10, m11, m12, m13, m14, m15, m16, m17, m18, m19, m20, m21, bSubI, bAddT, seqLT, fIfe, h]
theorem bs0 (cf : Nat → List D → C) (d d2 : D) (s2 : Sl) (xs : List D) (a : Int) (h : cf 7 [d, .int xs.length] = .ok (.int a) [d2]) : evS txt.P cf [0] (.asg (.var 3) (.call 7 (.cons (.var 0) (.cons (.bi .len (.cons (.var 1) .nil)) .nil)))) [.v d, .v (.tup xs), s2, .no, .no] = .ok (.nx, [.v d2, .v (.tup xs), s2, .v (.int a), .no]) := by
  simp [R.bind, evSs, evS, evO, evOs, evI, asgT, asgTs, sSeq, sAsg, sIf, sRet, sEx, sAugSub, sAug, taken, tst, fVar, fGlo, fBin, fCmp, fCmp2, fNeg, fNot, fAnd, fOr, fIfe, fDsp, fIdx, fSli, fRev, fBi, fCall, fIsi, fMet, gVar, gSub, gTup, gCons, gNil, fsCons, ofD, look, Sl.get, Opd.rd, Opd.rdk, Opd.take, rds, rdks, takes, box, D.frz, D.frzs, D.kids, cmpD, inD, getD?, sliD, sliC, optI, truth, biD, Bi.copies, runF, outsOf, enter, augD, setD, atP, Exps.plain, bAddI, bMulR, bMulL, bMod, bDiv, bPow, bPow39, bAddL, bAddS, eqD_int, frzs_ints, fzs_ints, L2.atI, L2.ixN, D.fzs, D.fz, big, line, callF, prep, back, m0, m1, m2, m3, m4, m5, m6, m7, m8, m9, m10, m11, m12, m13, m14, m15, m16, m17, m18, m19, m20, m21, bSubI, bAddT, seqLT, fIfe, h]
def envB (d : D) (xs : List D) (w a : Int) : Z.Env := [.v d, .v (.tup xs), .v (.int w), .v (.int a), .no]
theorem bq (cf : Nat → List D → C) (d : D) (xs : List D) (w a c : Int) : tst (evO txt.P cf [0] (.cmp .eq (.var 2) (.cst (.int c)))) (envB d xs w a) = .ok (decide (w = c), envB d xs w a) := by
  simp [R.bind, evSs, evS, evO, evOs, evI, asgT, asgTs, sSeq, sAsg, sIf, sRet, sEx, sAugSub, sAug, taken, tst, fVar, fGlo, fBin, fCmp, fCmp2, fNeg, fNot, fAnd, fOr, fIfe, fDsp, fIdx, fSli, fRev, fBi, fCall, fIsi, fMet, gVar, gSub, gTup, gCons, gNil, fsCons, ofD, look, Sl.get, Opd.rd, Opd.rdk, Opd.take, rds, rdks, takes, box, D.frz, D.frzs, D.kids, cmpD, inD, getD?, sliD, sliC, optI, truth, biD, Bi.copies, runF, outsOf, enter, augD, setD, atP, Exps.plain, bAddI, bMulR, bMulL, bMod, bDiv, bPow, bPow39, bAddL, bAddS, eqD_int, frzs_ints, fzs_ints, L2.atI, L2.ixN, D.fzs, D.fz, big, line, callF, prep, back, m0, m1, m2, m3, m4, m5, m6, m7, m8, m9, m10, m11, m12, m13, m14, m15, m16, m17, m18, m19, m20, m21, bSubI, bAddT, seqLT, fIfe, envB]
theorem bs1 (cf : Nat → List D → C) (d : D) (xs : List D) (w a : Int) (hf : D.frzs xs = xs) (hz : D.fzs xs = true) : evS txt.P cf [0] (.ret (.bi .list (.cons (.var 1) .nil))) (envB d xs w a) = .ok (.rt (.lst true xs), envB d xs w a) := by
  simp [R.bind, evSs, evS, evO, evOs, evI, asgT, asgTs, sSeq, sAsg, sIf, sRet, sEx, sAugSub, sAug, taken, tst, fVar, fGlo, fBin, fCmp, fCmp2, fNeg, fNot, fAnd, fOr, fIfe, fDsp, fIdx, fSli, fRev, fBi, fCall, fIsi, fMet, gVar, gSub, gTup, gCons, gNil, fsCons, ofD, look, Sl.get, Opd.rd, Opd.rdk, Opd.take, rds, rdks, takes, box, D.frz, D.frzs, D.kids, cmpD, inD, getD?, sliD, sliC, optI, truth, biD, Bi.copies, runF, outsOf, enter, augD, setD, atP, Exps.plain, bAddI, bMulR, bMulL, bMod, bDiv, bPow, bPow39, bAddL, bAddS, eqD_int, frzs_ints, fzs_ints, L2.atI, L2.ixN, D.fzs, D.fz, big, line, callF, prep, back, m0, m1, m2, m3, m4, m5, m6, m7, m8, m9, m10, m11, m12, m13, m14, m15, m16, m17, m18, m19, m20, m21, bSubI, bAddT, seqLT, fIfe, envB, hf, hz]
section
variable (cf : Nat → List D → C) (d d2 : D) (w : Int) (p : List D) (c : D) (q : List D)
theorem bs2 (hf : D.frzs (p ++ c :: q) = p ++ c :: q) (hz : D.fzs (p ++ c :: q) = true) (hp : D.fzs p = true) (hq : D.fzs q = true) (hl : p.length + q.length ≤ 1048576) : evS txt.P cf [0] (.ret (.bin .add (.sli (.var 1) (.cst .non) (.var 3)) (.sli (.var 1) (.bin .add (.var 3) (.cst (.int 1))) (.cst .non)))) (envB d (p ++ c :: q) w p.length) = .ok (.rt (.tup (p ++ q)), envB d (p ++ c :: q) w p.length) := by
  have fp := frzs_of_fzs p hp
  have fq := frzs_of_fzs q hq
  simp [R.bind, evSs, evS, evO, evOs, evI, asgT, asgTs, sSeq, sAsg, sIf, sRet, sEx, sAugSub, sAug, taken, tst, fVar, fGlo, fBin, fCmp, fCmp2, fNeg, fNot, fAnd, fOr, fIfe, fDsp, fIdx, fSli, fRev, fBi, fCall, fIsi, fMet, gVar, gSub, gTup, gCons, gNil, fsCons, ofD, look, Sl.get, Opd.rd, Opd.rdk, Opd.take, rds, rdks, takes, box, D.frz, D.frzs, D.kids, cmpD, inD, getD?, sliD, sliC, optI, truth, biD, Bi.copies, runF, outsOf, enter, augD, setD, atP, Exps.plain, bAddI, bMulR, bMulL, bMod, bDiv, bPow, bPow39, bAddL, bAddS, eqD_int, frzs_ints, fzs_ints, L2.atI, L2.ixN, D.fzs, D.fz, big, line, callF, prep, back, m0, m1, m2, m3, m4, m5, m6, m7, m8, m9, m10, m11, m12, m13, m14, m15, m16, m17, m18, m19, m20, m21, bSubI, bAddT, seqLT, fIfe, envB, hf, hz, hp, hq, cut_lo, cut_hi1, hl, fp, fq]
theorem bs3 (hf : D.frzs (p ++ c :: q) = p ++ c :: q) (hz : D.fzs (p ++ c :: q) = true) (hp : D.fzs p = true) (hq : D.fzs q = true) (hc : c.fz = true) (hl : p.length + q.length ≤ 1048570) : evS txt.P cf [0] (.ret (.bin .add (.bin .add (.sli (.var 1) (.cst .non) (.var 3)) (.tup (.cons (.idx (.var 1) (.var 3)) .nil))) (.sli (.var 1) (.var 3) (.cst .non)))) (envB d (p ++ c :: q) w p.length) = .ok (.rt (.tup (p ++ [c] ++ c :: q)), envB d (p ++ c :: q) w p.length) := by
  have a := at_p p c q
  have fc := frz_of_fz c hc
  have fp := frzs_of_fzs p hp
  have fq := frzs_of_fzs q hq
  have l1 : p.length + 1 ≤ 1048576 := by omega
  have l2 : p.length + (q.length + 1) ≤ 1048575 := by omega
  have zpc : D.fzs (p ++ [c]) = true := zs_snoc hp hc
  have l3 : p.length + 1 + (q.length + 1) ≤ 1048576 := by omega
  have fpc := frzs_of_fzs _ zpc
  simp only [envB]
  simp [R.bind, evSs, evS, evO, evOs, evI, asgT, asgTs, sSeq, sAsg, sIf, sRet, sEx, sAugSub, sAug, taken, tst, fVar, fGlo, fBin, fCmp, fCmp2, fNeg, fNot, fAnd, fOr, fIfe, fDsp, fIdx, fSli, fRev, fBi, fCall, fIsi, fMet, gVar, gSub, gTup, gCons, gNil, fsCons, ofD, look, Sl.get, Opd.rd, Opd.rdk, Opd.take, rds, rdks, takes, box, D.frz, D.frzs, D.kids, cmpD, inD, sliD, sliC, optI, truth, biD, Bi.copies, runF, outsOf, enter, augD, setD, atP, Exps.plain, bAddI, bMulR, bMulL, bMod, bDiv, bPow, bPow39, bAddL, bAddS, eqD_int, frzs_ints, fzs_ints, L2.atI, L2.ixN, D.fzs, D.fz, big, line, callF, prep, back, m0, m1, m2, m3, m4, m5, m6, m7, m8, m9, m10, m11, m12, m13, m14, m15, m16, m17, m18, m19, m20, m21, bSubI, bAddT, seqLT, fIfe, hf, hz, hp, hq, hc, fc, cut_lo, cut_hi, a, l1, fp, fq, zpc, fpc, l3]
theorem bs4 (o : D) (ho : o.fz = true) (hf : D.frzs (p ++ c :: q) = p ++ c :: q) (hz : D.fzs (p ++ c :: q) = true) (hp : D.fzs p = true) (hq : D.fzs q = true) (hc : c.fz = true) (hl : p.length + q.length ≤ 1048570) (h : cf 10 [d] = .ok o [d2]) : evS txt.P cf [0] (.ret (.bin .add (.bin .add (.sli (.var 1) (.cst .non) (.var 3)) (.tup (.cons (.call 10 (.cons (.var 0) .nil)) .nil))) (.sli (.var 1) (.var 3) (.cst .non)))) (envB d (p ++ c :: q) w p.length) = .ok (.rt (.tup (p ++ [o] ++ c :: q)), envB d2 (p ++ c :: q) w p.length) := by
  have fo := frz_of_fz o ho
  have fc := frz_of_fz c hc
  have fp := frzs_of_fzs p hp
  have fq := frzs_of_fzs q hq
  have l1 : p.length + 1 ≤ 1048576 := by omega
  have zpc : D.fzs (p ++ [o]) = true := zs_snoc hp ho
  have l3 : p.length + 1 + (q.length + 1) ≤ 1048576 := by omega
  have fpc := frzs_of_fzs _ zpc
  simp only [envB]
  simp [R.bind, evSs, evS, evO, evOs, evI, asgT, asgTs, sSeq, sAsg, sIf, sRet, sEx, sAugSub, sAug, taken, tst, fVar, fGlo, fBin, fCmp, fCmp2, fNeg, fNot, fAnd, fOr, fIfe, fDsp, fIdx, fSli, fRev, fBi, fCall, fIsi, fMet, gVar, gSub, gTup, gCons, gNil, fsCons, ofD, look, Sl.get, Opd.rd, Opd.rdk, Opd.take, rds, rdks, takes, box, D.frz, D.frzs, D.kids, cmpD, inD, getD?, sliD, sliC, optI, truth, biD, Bi.copies, runF, outsOf, enter, augD, setD, atP, Exps.plain, bAddI, bMulR, bMulL, bMod, bDiv, bPow, bPow39, bAddL, bAddS, eqD_int, frzs_ints, fzs_ints, L2.atI, L2.ixN, D.fzs, D.fz, big, line, callF, prep, back, m0, m1, m2, m3, m4, m5, m6, m7, m8, m9, m10, m11, m12, m13, m14, m15, m16, m17, m18, m19, m20, m21, bSubI, bAddT, seqLT, fIfe, hf, hz, hp, hq, hc, fc, ho, fo, h, cut_lo, cut_hi, l1, fp, fq, zpc, fpc, l3]
theorem bs5 (y : D) (hf : D.frzs (p ++ c :: q) = p ++ c :: q) (hz : D.fzs (p ++ c :: q) = true) (hp : D.fzs p = true) (hq : D.fzs q = true) (hc : c.fz = true) (hl : p.length + q.length ≤ 1048570) (h : cf 18 [d, c] = .ok y [d2]) : evS txt.P cf [0] (.ret (.bin .add (.bin .add (.sli (.var 1) (.cst .non) (.var 3)) (.tup (.cons (.call 18 (.cons (.var 0) (.cons (.idx (.var 1) (.var 3)) .nil))) .nil))) (.sli (.var 1) (.bin .add (.var 3) (.cst (.int 1))) (.cst .non)))) (envB d (p ++ c :: q) w p.length) = .ok (.rt (.tup (p ++ [y.frz] ++ q)), envB d2 (p ++ c :: q) w p.length) := by
  have a := at_p p c q
  have fc := frz_of_fz c hc
  have fp := frzs_of_fzs p hp
  have fq := frzs_of_fzs q hq
  have zy : y.frz.fz = true := fz_frz y
  have fy : y.frz.frz = y.frz := frz_of_fz _ zy
  have l1 : p.length + 1 ≤ 1048576 := by omega
  have zpc : D.fzs (p ++ [y.frz]) = true := zs_snoc hp zy
  have l3 : p.length + 1 + q.length ≤ 1048576 := by omega
  have fpc := frzs_of_fzs _ zpc
  simp only [envB]
  simp [R.bind, evSs, evS, evO, evOs, evI, asgT, asgTs, sSeq, sAsg, sIf, sRet, sEx, sAugSub, sAug, taken, tst, fVar, fGlo, fBin, fCmp, fCmp2, fNeg, fNot, fAnd, fOr, fIfe, fDsp, fIdx, fSli, fRev, fBi, fCall, fIsi, fMet, gVar, gSub, gTup, gCons, gNil, fsCons, ofD, look, Sl.get, Opd.rd, Opd.rdk, Opd.take, rds, rdks, takes, box, D.frz, D.frzs, D.kids, cmpD, inD, sliD, sliC, optI, truth, biD, Bi.copies, runF, outsOf, enter, augD, setD, atP, Exps.plain, bAddI, bMulR, bMulL, bMod, bDiv, bPow, bPow39, bAddL, bAddS, eqD_int, frzs_ints, fzs_ints, L2.atI, L2.ixN, D.fzs, D.fz, big, line, callF, prep, back, m0, m1, m2, m3, m4, m5, m6, m7, m8, m9, m10, m11, m12, m13, m14, m15, m16, m17, m18, m19, m20, m21, bSubI, bAddT, seqLT, fIfe, hf, hz, hp, hq, hc, fc, zy, fy, h, cut_lo, cut_hi1, a, l1, fp, fq, zpc, fpc, l3]
end
end Law

set_option Elab.async false
set_option linter.all false
set_option maxRecDepth 100000
set_option maxHeartbeats 400000
namespace Law
open Z PySem

def bstr (s : Str) : List D := [.str (s ++ "s"), .str (s ++ "1"), .str (s ++ "\n"), .str (L2.cutS s none (some (-1))), .str (Txt.upper s), .str "if", .str "tell", .str "yes", .str "alike"]
def bwds : List D := [.str "unlike", .str "no", .str "go", .str "with"]
theorem bstr_frz (s : Str) : D.frzs (bstr s) = bstr s := by simp [R.bind, evSs, evS, evO, evOs, evI, asgT, asgTs, sSeq, sAsg, sIf, sRet, sEx, sAugSub, sAug, taken, tst, fVar, fGlo, fBin, fCmp, fCmp2, fNeg, fNot, fAnd, fOr, fIfe, fDsp, fIdx, fSli, fRev, fBi, fCall, fIsi, fMet, gVar, gSub, gTup, gCons, gNil, fsCons, ofD, look, Sl.get, Opd.rd, Opd.rdk, Opd.take, rds, rdks, takes, box, D.frz, D.frzs, D.kids, cmpD, inD, getD?, sliD, sliC, optI, truth, biD, Bi.copies, runF, outsOf, enter, augD, setD, atP, Exps.plain, bAddI, bMulR, bMulL, bMod, bDiv, bPow, bPow39, bAddL, bAddS, eqD_int, frzs_ints, fzs_ints, L2.atI, L2.ixN, D.fzs, D.fz, big, line, callF, prep, back, m0, m1, m2, m3, m4, m5, m6, m7, m8, m9, m10, m11, m12, m13, m14, m15, m16, m17, m18, m19, m20, m21, bSubI, bAddT, seqLT, fIfe, bstr]
theorem bstr_fz (s : Str) : D.fzs (bstr s) = true := by simp [R.bind, evSs, evS, evO, evOs, evI, asgT, asgTs, sSeq, sAsg, sIf, sRet, sEx, sAugSub, sAug, taken, tst, fVar, fGlo, fBin, fCmp, fCmp2, fNeg, fNot, fAnd, fOr, fIfe, fDsp, fIdx, fSli, fRev, fBi, fCall, fIsi, fMet, gVar, gSub, gTup, gCons, gNil, fsCons, ofD, look, Sl.get, Opd.rd, Opd.rdk, Opd.take, rds, rdks, takes, box, D.frz, D.frzs, D.kids, cmpD, inD, getD?, sliD, sliC, optI, truth, biD, Bi.copies, runF, outsOf, enter, augD, setD, atP, Exps.plain, bAddI, bMulR, bMulL, bMod, bDiv, bPow, bPow39, bAddL, bAddS, eqD_int, frzs_ints, fzs_ints, L2.atI, L2.ixN, D.fzs, D.fz, big, line, callF, prep, back, m0, m1, m2, m3, m4, m5, m6, m7, m8, m9, m10, m11, m12, m13, m14, m15, m16, m17, m18, m19, m20, m21, bSubI, bAddT, seqLT, fIfe, bstr]
theorem bstr_len (s : Str) : (bstr s).length = 9 := by simp [R.bind, evSs, evS, evO, evOs, evI, asgT, asgTs, sSeq, sAsg, sIf, sRet, sEx, sAugSub, sAug, taken, tst, fVar, fGlo, fBin, fCmp, fCmp2, fNeg, fNot, fAnd, fOr, fIfe, fDsp, fIdx, fSli, fRev, fBi, fCall, fIsi, fMet, gVar, gSub, gTup, gCons, gNil, fsCons, ofD, look, Sl.get, Opd.rd, Opd.rdk, Opd.take, rds, rdks, takes, box, D.frz, D.frzs, D.kids, cmpD, inD, getD?, sliD, sliC, optI, truth, biD, Bi.copies, runF, outsOf, enter, augD, setD, atP, Exps.plain, bAddI, bMulR, bMulL, bMod, bDiv, bPow, bPow39, bAddL, bAddS, eqD_int, frzs_ints, fzs_ints, L2.atI, L2.ixN, D.fzs, D.fz, big, line, callF, prep, back, m0, m1, m2, m3, m4, m5, m6, m7, m8, m9, m10, m11, m12, m13, m14, m15, m16, m17, m18, m19, m20, m21, bSubI, bAddT, seqLT, fIfe, bstr]
theorem bst0 (cf : Nat → List D → C) (d : D) (s : Str) (s2 s3 : Sl) (hl : s.length ≤ 100) : evS txt.P cf [0] (.asg (.var 4) (.lst (.cons (.bin .add (.var 1) (.cst (.str "s"))) (.cons (.bin .add (.var 1) (.cst (.str "1"))) (.cons (.bin .add (.var 1) (.cst (.str "\n"))) (.cons (.sli (.var 1) (.cst .non) (.neg (.cst (.int 1)))) (.cons (.met .upper (.var 1) .nil) (.cons (.cst (.str "if")) (.cons (.cst (.str "tell")) (.cons (.cst (.str "yes")) (.cons (.cst (.str "alike")) .nil))))))))))) [.v d, .v (.str s), s2, s3, .no] = .ok (.nx, [.v d, .v (.str s), s2, s3, .v (.lst true (bstr s))]) := by
  have q1 : s.length ≤ 1048575 := by omega
  have q1' : s.length ≤ 1048576 := by omega
  have q2 : s.length ≤ 100000 := by omega
  have e1 : (Str.ofString "s").length = 1 := by decide +kernel
  have e2 : (Str.ofString "1").length = 1 := by decide +kernel
  have e3 : (Str.ofString "\n").length = 1 := by decide +kernel
  simp [R.bind, evSs, evS, evO, evOs, evI, asgT, asgTs, sSeq, sAsg, sIf, sRet, sEx, sAugSub, sAug, taken, tst, fVar, fGlo, fBin, fCmp, fCmp2, fNeg, fNot, fAnd, fOr, fIfe, fDsp, fIdx, fSli, fRev, fBi, fCall, fIsi, fMet, gVar, gSub, gTup, gCons, gNil, fsCons, ofD, look, Sl.get, Opd.rd, Opd.rdk, Opd.take, rds, rdks, takes, box, D.frz, D.frzs, D.kids, cmpD, inD, getD?, sliD, sliC, optI, truth, biD, Bi.copies, runF, outsOf, enter, augD, setD, atP, Exps.plain, bAddI, bMulR, bMulL, bMod, bDiv, bPow, bPow39, bAddL, bAddS, eqD_int, frzs_ints, fzs_ints, L2.atI, L2.ixN, D.fzs, D.fz, big, line, callF, prep, back, m0, m1, m2, m3, m4, m5, m6, m7, m8, m9, m10, m11, m12, m13, m14, m15, m16, m17, m18, m19, m20, m21, bSubI, bAddT, seqLT, fIfe, bstr, metD, q1, q1', q2, e1, e2, e3, D.ty]
theorem bst1 (cf : Nat → List D → C) (d d2 y : D) (s : Str) (x : D) (s2 s3 : Sl) (h : cf 9 [d, .lst false (bstr s ++ bwds)] = .ok y [d2]) : evS txt.P cf [0] (.ret (.call 9 (.cons (.var 0) (.cons (.bin .add (.var 4) (.lst (.cons (.cst (.str "unlike")) (.cons (.cst (.str "no")) (.cons (.cst (.str "go")) (.cons (.cst (.str "with")) .nil)))))) .nil)))) [.v d, .v x, s2, s3, .v (.lst true (bstr s))] = .ok (.rt y, [.v d2, .v x, s2, s3, .v (.lst true (bstr s))]) := by
  have f2 : D.frzs (bstr s ++ bwds) = bstr s ++ bwds := by simp [R.bind, evSs, evS, evO, evOs, evI, asgT, asgTs, sSeq, sAsg, sIf, sRet, sEx, sAugSub, sAug, taken, tst, fVar, fGlo, fBin, fCmp, fCmp2, fNeg, fNot, fAnd, fOr, fIfe, fDsp, fIdx, fSli, fRev, fBi, fCall, fIsi, fMet, gVar, gSub, gTup, gCons, gNil, fsCons, ofD, look, Sl.get, Opd.rd, Opd.rdk, Opd.take, rds, rdks, takes, box, D.frz, D.frzs, D.kids, cmpD, inD, getD?, sliD, sliC, optI, truth, biD, Bi.copies, runF, outsOf, enter, augD, setD, atP, Exps.plain, bAddI, bMulR, bMulL, bMod, bDiv, bPow, bPow39, bAddL, bAddS, eqD_int, frzs_ints, fzs_ints, L2.atI, L2.ixN, D.fzs, D.fz, big, line, callF, prep, back, m0, m1, m2, m3, m4, m5, m6, m7, m8, m9, m10, m11, m12, m13, m14, m15, m16, m17, m18, m19, m20, m21, bSubI, bAddT, seqLT, fIfe, bstr, bwds]
  simp only [bwds] at h f2
  have l : (bstr s).length + 4 ≤ 1048576 := by rw [bstr_len]; omega
  have l2 := bstr_len s
  simp [R.bind, evSs, evS, evO, evOs, evI, asgT, asgTs, sSeq, sAsg, sIf, sRet, sEx, sAugSub, sAug, taken, tst, fVar, fGlo, fBin, fCmp, fCmp2, fNeg, fNot, fAnd, fOr, fIfe, fDsp, fIdx, fSli, fRev, fBi, fCall, fIsi, fMet, gVar, gSub, gTup, gCons, gNil, fsCons, ofD, look, Sl.get, Opd.rd, Opd.rdk, Opd.take, rds, rdks, takes, box, D.frz, D.frzs, D.kids, cmpD, inD, getD?, sliD, sliC, optI, truth, biD, Bi.copies, runF, outsOf, enter, augD, setD, atP, Exps.plain, bAddI, bMulR, bMulL, bMod, bDiv, bPow, bPow39, bAddL, bAddS, eqD_int, frzs_ints, fzs_ints, L2.atI, L2.ixN, D.fzs, D.fz, big, line, callF, prep, back, m0, m1, m2, m3, m4, m5, m6, m7, m8, m9, m10, m11, m12, m13, m14, m15, m16, m17, m18, m19, m20, m21, bSubI, bAddT, seqLT, fIfe, bstr_frz, bstr_fz, l2, f2, h]
theorem odds_th : odds.all (fun x => okD 9 x && decide (x.depth ≤ 3) && decide (wt x ≤ 60)) = true := by decide +kernel
theorem th_odd {x : D} (h : x ∈ odds) : Th 9 3 60 x := by
  have := List.all_eq_true.1 odds_th x h
  simp only [Bool.and_eq_true, decide_eq_true_eq] at this
  exact ⟨this.1.1, this.1.2, this.2⟩
theorem th_str {m : Nat} {s : Str} (h1 : s.length ≤ m) (h2 : Asc s) (hm : m ≤ 12) : Th m 0 130 (.str s) := by
  refine ⟨?_, Nat.le_refl 0, ?_⟩
  · simp only [okD, ascB, Bool.and_eq_true, decide_eq_true_eq]; exact ⟨h1, h2⟩
  · simp only [wt]
    have := StrLaws.reprText_len s (fun c hc => by have := asc_mem.1 h2 c hc; omega)
    omega
theorem th_bstr {m : Nat} {s : Str} (h1 : s.length ≤ m) (h2 : Asc s) (h3 : 8 ≤ m) (h4 : m ≤ 10) : ∀ y ∈ bstr s ++ bwds, Th (m + 1) 0 130 y := by
  intro y hy
  simp only [bstr, bwds, List.cons_append, List.nil_append, List.mem_cons, List.not_mem_nil, or_false] at hy
  have up := asc_upper h2
  have e : ∀ t : Str, t.length = 1 → (s ++ t).length ≤ m + 1 := fun t ht => by rw [len_add]; omega
  have k : ∀ t : Str, t.length ≤ 8 → Asc t → Th (m + 1) 0 130 (.str t) := fun t h a => th_str (by omega) a (by omega)
  rcases hy with rfl | rfl | rfl | rfl | rfl | rfl | rfl | rfl | rfl | rfl | rfl | rfl | rfl
  · exact th_str (e _ (by decide +kernel)) (asc_add h2 (by unfold Asc; decide +kernel)) (by omega)
  · exact th_str (e _ (by decide +kernel)) (asc_add h2 (by unfold Asc; decide +kernel)) (by omega)
  · exact th_str (e _ (by decide +kernel)) (asc_add h2 (by unfold Asc; decide +kernel)) (by omega)
  · exact th_str (by have := L2.cutS_length s none (some (-1)); omega) (asc_cut h2 _ _) (by omega)
  · exact th_str (by rw [up.2]; omega) up.1 (by omega)
  · exact k _ (by decide +kernel) (by unfold Asc; decide +kernel)
  · exact k _ (by decide +kernel) (by unfold Asc; decide +kernel)
  · exact k _ (by decide +kernel) (by unfold Asc; decide +kernel)
  · exact k _ (by decide +kernel) (by unfold Asc; decide +kernel)
  · exact k _ (by decide +kernel) (by unfold Asc; decide +kernel)
  · exact k _ (by decide +kernel) (by unfold Asc; decide +kernel)
  · exact k _ (by decide +kernel) (by unfold Asc; decide +kernel)
  · exact k _ (by decide +kernel) (by unfold Asc; decide +kernel)
theorem callB (n : Nat) (d x : D) : callN txt.P txt.fs (n + 1) 18 [d, x] = runF f18 (evSs txt.P (callN txt.P txt.fs n) [0] f18.body [.v d, .v x, .no, .no, .no]) := by
  have e : enter (txt.P.mode.getD 18 []) [d, x] ++ List.replicate (f18.ns - f18.np) Sl.no = [.v d, .v x, .no, .no, .no] := rfl
  have io : f18.io = [0] := rfl
  rw [call_eq txt.P txt.fs n 18 [d, x] f18 rfl rfl, e, io]
def bentR (m : Nat) (x y : D) : Prop := Th (m + 1) (x.depth + 4) (2 * wt x + 130) y
theorem bent_odd (cf : Nat → List D → C) (m : Nat) (h8 : 8 ≤ m) (d x : D) (w : Int) (ok : okD m x = true) (hd : Bag d) (h1 : bc1 x w = false) (h2 : bc2 x w = false) (ho : ∀ d, Bag d → ∃ y d2, y ∈ odds ∧ Bag d2 ∧ cf 10 [d] = .ok y [d2]) :
    ∃ y d2 e, bentR m x y.frz ∧ Bag d2 ∧ evSs txt.P cf [0] (.cons (.ifS (.and (.isi (.var 1) .tup) (.and (.cmp .ne (.var 1) (.tup .nil)) (.cmp .gt (.var 2) (.cst (.int 1))))) (.cons (.asg (.var 3) (.call 7 (.cons (.var 0) (.cons (.bi .len (.cons (.var 1) .nil)) .nil)))) (.cons (.ifS (.cmp .eq (.var 2) (.cst (.int 2))) (.cons (.ret (.bi .list (.cons (.var 1) .nil))) .nil) .nil) (.cons (.ifS (.cmp .eq (.var 2) (.cst (.int 3))) (.cons (.ret (.bin .add (.sli (.var 1) (.cst .non) (.var 3)) (.sli (.var 1) (.bin .add (.var 3) (.cst (.int 1))) (.cst .non)))) .nil) .nil) (.cons (.ifS (.cmp .eq (.var 2) (.cst (.int 4))) (.cons (.ret (.bin .add (.bin .add (.sli (.var 1) (.cst .non) (.var 3)) (.tup (.cons (.idx (.var 1) (.var 3)) .nil))) (.sli (.var 1) (.var 3) (.cst .non)))) .nil) .nil) (.cons (.ifS (.cmp .eq (.var 2) (.cst (.int 5))) (.cons (.ret (.bin .add (.bin .add (.sli (.var 1) (.cst .non) (.var 3)) (.tup (.cons (.call 10 (.cons (.var 0) .nil)) .nil))) (.sli (.var 1) (.var 3) (.cst .non)))) .nil) .nil) (.cons (.ret (.bin .add (.bin .add (.sli (.var 1) (.cst .non) (.var 3)) (.tup (.cons (.call 18 (.cons (.var 0) (.cons (.idx (.var 1) (.var 3)) .nil))) .nil))) (.sli (.var 1) (.bin .add (.var 3) (.cst (.int 1))) (.cst .non)))) .nil)))))) .nil) (.cons (.ifS (.and (.isi (.var 1) .str) (.cmp .gt (.var 2) (.cst (.int 1)))) (.cons (.asg (.var 4) (.lst (.cons (.bin .add (.var 1) (.cst (.str "s"))) (.cons (.bin .add (.var 1) (.cst (.str "1"))) (.cons (.bin .add (.var 1) (.cst (.str "\n"))) (.cons (.sli (.var 1) (.cst .non) (.neg (.cst (.int 1)))) (.cons (.met .upper (.var 1) .nil) (.cons (.cst (.str "if")) (.cons (.cst (.str "tell")) (.cons (.cst (.str "yes")) (.cons (.cst (.str "alike")) .nil))))))))))) (.cons (.ret (.call 9 (.cons (.var 0) (.cons (.bin .add (.var 4) (.lst (.cons (.cst (.str "unlike")) (.cons (.cst (.str "no")) (.cons (.cst (.str "go")) (.cons (.cst (.str "with")) .nil)))))) .nil)))) .nil)) .nil) (.cons (.ret (.call 10 (.cons (.var 0) .nil))) .nil))) [.v d, .v x, .v (.int w), .no, .no] = .ok (.rt y, .v d2 :: e) := by
  obtain ⟨y, d2, y1, y2, y3⟩ := ho d hd
  have t := th_odd y1
  have c1 := bt1 cf d x w m ok
  have c2 := bt2 cf d x w m ok
  rw [h1] at c1
  rw [h2] at c2
  refine ⟨y, d2, [.v x, .v (.int w), .no, .no], ?_, y2, ?_⟩
  · rw [ok_frz t.1]
    exact t.up (by omega) (by omega) (by omega)
  · rw [bN (sF c1), bN (sF c2), bR (bt3 cf d d2 _ _ _ x y y3)]
theorem bent_str (cf : Nat → List D → C) (m : Nat) (h8 : 8 ≤ m) (h10 : m ≤ 10) (d : D) (s : Str) (w : Int) (hw : 1 < w) (ok : okD m (.str s) = true) (hd : Bag d) (ho : ∀ d (xs : List D), Bag d → 0 < xs.length → xs.length ≤ 1000 → ∃ y d2, y ∈ D.frzs xs ∧ Bag d2 ∧ cf 9 [d, .lst false xs] = .ok y [d2]) :
    ∃ y d2 e, bentR m (.str s) y.frz ∧ Bag d2 ∧ evSs txt.P cf [0] (.cons (.ifS (.and (.isi (.var 1) .tup) (.and (.cmp .ne (.var 1) (.tup .nil)) (.cmp .gt (.var 2) (.cst (.int 1))))) (.cons (.asg (.var 3) (.call 7 (.cons (.var 0) (.cons (.bi .len (.cons (.var 1) .nil)) .nil)))) (.cons (.ifS (.cmp .eq (.var 2) (.cst (.int 2))) (.cons (.ret (.bi .list (.cons (.var 1) .nil))) .nil) .nil) (.cons (.ifS (.cmp .eq (.var 2) (.cst (.int 3))) (.cons (.ret (.bin .add (.sli (.var 1) (.cst .non) (.var 3)) (.sli (.var 1) (.bin .add (.var 3) (.cst (.int 1))) (.cst .non)))) .nil) .nil) (.cons (.ifS (.cmp .eq (.var 2) (.cst (.int 4))) (.cons (.ret (.bin .add (.bin .add (.sli (.var 1) (.cst .non) (.var 3)) (.tup (.cons (.idx (.var 1) (.var 3)) .nil))) (.sli (.var 1) (.var 3) (.cst .non)))) .nil) .nil) (.cons (.ifS (.cmp .eq (.var 2) (.cst (.int 5))) (.cons (.ret (.bin .add (.bin .add (.sli (.var 1) (.cst .non) (.var 3)) (.tup (.cons (.call 10 (.cons (.var 0) .nil)) .nil))) (.sli (.var 1) (.var 3) (.cst .non)))) .nil) .nil) (.cons (.ret (.bin .add (.bin .add (.sli (.var 1) (.cst .non) (.var 3)) (.tup (.cons (.call 18 (.cons (.var 0) (.cons (.idx (.var 1) (.var 3)) .nil))) .nil))) (.sli (.var 1) (.bin .add (.var 3) (.cst (.int 1))) (.cst .non)))) .nil)))))) .nil) (.cons (.ifS (.and (.isi (.var 1) .str) (.cmp .gt (.var 2) (.cst (.int 1)))) (.cons (.asg (.var 4) (.lst (.cons (.bin .add (.var 1) (.cst (.str "s"))) (.cons (.bin .add (.var 1) (.cst (.str "1"))) (.cons (.bin .add (.var 1) (.cst (.str "\n"))) (.cons (.sli (.var 1) (.cst .non) (.neg (.cst (.int 1)))) (.cons (.met .upper (.var 1) .nil) (.cons (.cst (.str "if")) (.cons (.cst (.str "tell")) (.cons (.cst (.str "yes")) (.cons (.cst (.str "alike")) .nil))))))))))) (.cons (.ret (.call 9 (.cons (.var 0) (.cons (.bin .add (.var 4) (.lst (.cons (.cst (.str "unlike")) (.cons (.cst (.str "no")) (.cons (.cst (.str "go")) (.cons (.cst (.str "with")) .nil)))))) .nil)))) .nil)) .nil) (.cons (.ret (.call 10 (.cons (.var 0) .nil))) .nil))) [.v d, .v (.str s), .v (.int w), .no, .no] = .ok (.rt y, .v d2 :: e) := by
  have hs := ok
  simp only [okD, ascB, Bool.and_eq_true, decide_eq_true_eq] at hs
  obtain ⟨y, d2, y1, y2, y3⟩ := ho d (bstr s ++ bwds) hd (by simp [R.bind, evSs, evS, evO, evOs, evI, asgT, asgTs, sSeq, sAsg, sIf, sRet, sEx, sAugSub, sAug, taken, tst, fVar, fGlo, fBin, fCmp, fCmp2, fNeg, fNot, fAnd, fOr, fIfe, fDsp, fIdx, fSli, fRev, fBi, fCall, fIsi, fMet, gVar, gSub, gTup, gCons, gNil, fsCons, ofD, look, Sl.get, Opd.rd, Opd.rdk, Opd.take, rds, rdks, takes, box, D.frz, D.frzs, D.kids, cmpD, inD, getD?, sliD, sliC, optI, truth, biD, Bi.copies, runF, outsOf, enter, augD, setD, atP, Exps.plain, bAddI, bMulR, bMulL, bMod, bDiv, bPow, bPow39, bAddL, bAddS, eqD_int, frzs_ints, fzs_ints, L2.atI, L2.ixN, D.fzs, D.fz, big, line, callF, prep, back, m0, m1, m2, m3, m4, m5, m6, m7, m8, m9, m10, m11, m12, m13, m14, m15, m16, m17, m18, m19, m20, m21, bSubI, bAddT, seqLT, fIfe, bstr]) (by simp [R.bind, evSs, evS, evO, evOs, evI, asgT, asgTs, sSeq, sAsg, sIf, sRet, sEx, sAugSub, sAug, taken, tst, fVar, fGlo, fBin, fCmp, fCmp2, fNeg, fNot, fAnd, fOr, fIfe, fDsp, fIdx, fSli, fRev, fBi, fCall, fIsi, fMet, gVar, gSub, gTup, gCons, gNil, fsCons, ofD, look, Sl.get, Opd.rd, Opd.rdk, Opd.take, rds, rdks, takes, box, D.frz, D.frzs, D.kids, cmpD, inD, getD?, sliD, sliC, optI, truth, biD, Bi.copies, runF, outsOf, enter, augD, setD, atP, Exps.plain, bAddI, bMulR, bMulL, bMod, bDiv, bPow, bPow39, bAddL, bAddS, eqD_int, frzs_ints, fzs_ints, L2.atI, L2.ixN, D.fzs, D.fz, big, line, callF, prep, back, m0, m1, m2, m3, m4, m5, m6, m7, m8, m9, m10, m11, m12, m13, m14, m15, m16, m17, m18, m19, m20, m21, bSubI, bAddT, seqLT, fIfe, bstr, bwds])
  have f2 : D.frzs (bstr s ++ bwds) = bstr s ++ bwds := by simp [R.bind, evSs, evS, evO, evOs, evI, asgT, asgTs, sSeq, sAsg, sIf, sRet, sEx, sAugSub, sAug, taken, tst, fVar, fGlo, fBin, fCmp, fCmp2, fNeg, fNot, fAnd, fOr, fIfe, fDsp, fIdx, fSli, fRev, fBi, fCall, fIsi, fMet, gVar, gSub, gTup, gCons, gNil, fsCons, ofD, look, Sl.get, Opd.rd, Opd.rdk, Opd.take, rds, rdks, takes, box, D.frz, D.frzs, D.kids, cmpD, inD, getD?, sliD, sliC, optI, truth, biD, Bi.copies, runF, outsOf, enter, augD, setD, atP, Exps.plain, bAddI, bMulR, bMulL, bMod, bDiv, bPow, bPow39, bAddL, bAddS, eqD_int, frzs_ints, fzs_ints, L2.atI, L2.ixN, D.fzs, D.fz, big, line, callF, prep, back, m0, m1, m2, m3, m4, m5, m6, m7, m8, m9, m10, m11, m12, m13, m14, m15, m16, m17, m18, m19, m20, m21, bSubI, bAddT, seqLT, fIfe, bstr, bwds]
  rw [f2] at y1
  have t := th_bstr hs.1 hs.2 h8 h10 y y1
  have c1 := bt1 cf d (.str s) w m ok
  have c2 := bt2 cf d (.str s) w m ok
  have e1 : bc1 (.str s) w = false := rfl
  have e2 : bc2 (.str s) w = true := decide_eq_true hw
  rw [e1] at c1
  rw [e2] at c2
  refine ⟨y, d2, [.v (.str s), .v (.int w), .no, .v (.lst true (bstr s))], ?_, y2, ?_⟩
  · rw [ok_frz t.1]
    exact t.up (Nat.le_refl _) (Nat.zero_le _) (by omega)
  · rw [bN (sF c1), bR ((sT c2).trans ((bN (bst0 cf d s _ _ (by omega))).trans (bR (bst1 cf d d2 y s (.str s) _ _ y3))))]
theorem bent_tup (cf : Nat → List D → C) (m : Nat) (h8 : 8 ≤ m) (d : D) (xs : List D) (w : Int) (hw : 1 < w) (hx : xs ≠ []) (ok : okD m (.tup xs) = true) (wx : wt (.tup xs) ≤ 100000) (hd : Bag d)
    (ht : ∀ d, Bag d → ∃ (r : Int) (d2 : D), 0 ≤ r ∧ r < (xs.length : Int) ∧ Bag d2 ∧ cf 7 [d, .int xs.length] = .ok (.int r) [d2])
    (ho : ∀ d, Bag d → ∃ y d2, y ∈ odds ∧ Bag d2 ∧ cf 10 [d] = .ok y [d2])
    (hb : ∀ d c, Bag d → c ∈ xs → ∃ y d2, bentR m c y.frz ∧ Bag d2 ∧ cf 18 [d, c] = .ok y [d2]) :
    ∃ y d2 e, bentR m (.tup xs) y.frz ∧ Bag d2 ∧ evSs txt.P cf [0] (.cons (.ifS (.and (.isi (.var 1) .tup) (.and (.cmp .ne (.var 1) (.tup .nil)) (.cmp .gt (.var 2) (.cst (.int 1))))) (.cons (.asg (.var 3) (.call 7 (.cons (.var 0) (.cons (.bi .len (.cons (.var 1) .nil)) .nil)))) (.cons (.ifS (.cmp .eq (.var 2) (.cst (.int 2))) (.cons (.ret (.bi .list (.cons (.var 1) .nil))) .nil) .nil) (.cons (.ifS (.cmp .eq (.var 2) (.cst (.int 3))) (.cons (.ret (.bin .add (.sli (.var 1) (.cst .non) (.var 3)) (.sli (.var 1) (.bin .add (.var 3) (.cst (.int 1))) (.cst .non)))) .nil) .nil) (.cons (.ifS (.cmp .eq (.var 2) (.cst (.int 4))) (.cons (.ret (.bin .add (.bin .add (.sli (.var 1) (.cst .non) (.var 3)) (.tup (.cons (.idx (.var 1) (.var 3)) .nil))) (.sli (.var 1) (.var 3) (.cst .non)))) .nil) .nil) (.cons (.ifS (.cmp .eq (.var 2) (.cst (.int 5))) (.cons (.ret (.bin .add (.bin .add (.sli (.var 1) (.cst .non) (.var 3)) (.tup (.cons (.call 10 (.cons (.var 0) .nil)) .nil))) (.sli (.var 1) (.var 3) (.cst .non)))) .nil) .nil) (.cons (.ret (.bin .add (.bin .add (.sli (.var 1) (.cst .non) (.var 3)) (.tup (.cons (.call 18 (.cons (.var 0) (.cons (.idx (.var 1) (.var 3)) .nil))) .nil))) (.sli (.var 1) (.bin .add (.var 3) (.cst (.int 1))) (.cst .non)))) .nil)))))) .nil) (.cons (.ifS (.and (.isi (.var 1) .str) (.cmp .gt (.var 2) (.cst (.int 1)))) (.cons (.asg (.var 4) (.lst (.cons (.bin .add (.var 1) (.cst (.str "s"))) (.cons (.bin .add (.var 1) (.cst (.str "1"))) (.cons (.bin .add (.var 1) (.cst (.str "\n"))) (.cons (.sli (.var 1) (.cst .non) (.neg (.cst (.int 1)))) (.cons (.met .upper (.var 1) .nil) (.cons (.cst (.str "if")) (.cons (.cst (.str "tell")) (.cons (.cst (.str "yes")) (.cons (.cst (.str "alike")) .nil))))))))))) (.cons (.ret (.call 9 (.cons (.var 0) (.cons (.bin .add (.var 4) (.lst (.cons (.cst (.str "unlike")) (.cons (.cst (.str "no")) (.cons (.cst (.str "go")) (.cons (.cst (.str "with")) .nil)))))) .nil)))) .nil)) .nil) (.cons (.ret (.call 10 (.cons (.var 0) .nil))) .nil))) [.v d, .v (.tup xs), .v (.int w), .no, .no] = .ok (.rt y, .v d2 :: e) := by
  have c1 := bt1 cf d (.tup xs) w m ok
  have e1 : bc1 (.tup xs) w = true := by
    cases xs with
    | nil => exact absurd rfl hx
    | cons a b => simp [R.bind, evSs, evS, evO, evOs, evI, asgT, asgTs, sSeq, sAsg, sIf, sRet, sEx, sAugSub, sAug, taken, tst, fVar, fGlo, fBin, fCmp, fCmp2, fNeg, fNot, fAnd, fOr, fIfe, fDsp, fIdx, fSli, fRev, fBi, fCall, fIsi, fMet, gVar, gSub, gTup, gCons, gNil, fsCons, ofD, look, Sl.get, Opd.rd, Opd.rdk, Opd.take, rds, rdks, takes, box, D.frz, D.frzs, D.kids, cmpD, inD, getD?, sliD, sliC, optI, truth, biD, Bi.copies, runF, outsOf, enter, augD, setD, atP, Exps.plain, bAddI, bMulR, bMulL, bMod, bDiv, bPow, bPow39, bAddL, bAddS, eqD_int, frzs_ints, fzs_ints, L2.atI, L2.ixN, D.fzs, D.fz, big, line, callF, prep, back, m0, m1, m2, m3, m4, m5, m6, m7, m8, m9, m10, m11, m12, m13, m14, m15, m16, m17, m18, m19, m20, m21, bSubI, bAddT, seqLT, fIfe, bc1, hw]
  rw [e1] at c1
  obtain ⟨a, d1, a1, a2, b1, k1⟩ := ht d hd
  obtain ⟨p, c, q, rfl, rfl⟩ := split_at a1 a2
  have oks : okDs m (p ++ c :: q) = true := by simpa [R.bind, evSs, evS, evO, evOs, evI, asgT, asgTs, sSeq, sAsg, sIf, sRet, sEx, sAugSub, sAug, taken, tst, fVar, fGlo, fBin, fCmp, fCmp2, fNeg, fNot, fAnd, fOr, fIfe, fDsp, fIdx, fSli, fRev, fBi, fCall, fIsi, fMet, gVar, gSub, gTup, gCons, gNil, fsCons, ofD, look, Sl.get, Opd.rd, Opd.rdk, Opd.take, rds, rdks, takes, box, D.frz, D.frzs, D.kids, cmpD, inD, getD?, sliD, sliC, optI, truth, biD, Bi.copies, runF, outsOf, enter, augD, setD, atP, Exps.plain, bAddI, bMulR, bMulL, bMod, bDiv, bPow, bPow39, bAddL, bAddS, eqD_int, frzs_ints, fzs_ints, L2.atI, L2.ixN, D.fzs, D.fz, big, line, callF, prep, back, m0, m1, m2, m3, m4, m5, m6, m7, m8, m9, m10, m11, m12, m13, m14, m15, m16, m17, m18, m19, m20, m21, bSubI, bAddT, seqLT, fIfe, okD] using ok
  have mem := okDs_iff.1 oks
  have oc := mem c (by simp [R.bind, evSs, evS, evO, evOs, evI, asgT, asgTs, sSeq, sAsg, sIf, sRet, sEx, sAugSub, sAug, taken, tst, fVar, fGlo, fBin, fCmp, fCmp2, fNeg, fNot, fAnd, fOr, fIfe, fDsp, fIdx, fSli, fRev, fBi, fCall, fIsi, fMet, gVar, gSub, gTup, gCons, gNil, fsCons, ofD, look, Sl.get, Opd.rd, Opd.rdk, Opd.take, rds, rdks, takes, box, D.frz, D.frzs, D.kids, cmpD, inD, getD?, sliD, sliC, optI, truth, biD, Bi.copies, runF, outsOf, enter, augD, setD, atP, Exps.plain, bAddI, bMulR, bMulL, bMod, bDiv, bPow, bPow39, bAddL, bAddS, eqD_int, frzs_ints, fzs_ints, L2.atI, L2.ixN, D.fzs, D.fz, big, line, callF, prep, back, m0, m1, m2, m3, m4, m5, m6, m7, m8, m9, m10, m11, m12, m13, m14, m15, m16, m17, m18, m19, m20, m21, bSubI, bAddT, seqLT, fIfe])
  have okp : okDs m p = true := okDs_iff.2 fun z hz => mem z (by simp [R.bind, evSs, evS, evO, evOs, evI, asgT, asgTs, sSeq, sAsg, sIf, sRet, sEx, sAugSub, sAug, taken, tst, fVar, fGlo, fBin, fCmp, fCmp2, fNeg, fNot, fAnd, fOr, fIfe, fDsp, fIdx, fSli, fRev, fBi, fCall, fIsi, fMet, gVar, gSub, gTup, gCons, gNil, fsCons, ofD, look, Sl.get, Opd.rd, Opd.rdk, Opd.take, rds, rdks, takes, box, D.frz, D.frzs, D.kids, cmpD, inD, getD?, sliD, sliC, optI, truth, biD, Bi.copies, runF, outsOf, enter, augD, setD, atP, Exps.plain, bAddI, bMulR, bMulL, bMod, bDiv, bPow, bPow39, bAddL, bAddS, eqD_int, frzs_ints, fzs_ints, L2.atI, L2.ixN, D.fzs, D.fz, big, line, callF, prep, back, m0, m1, m2, m3, m4, m5, m6, m7, m8, m9, m10, m11, m12, m13, m14, m15, m16, m17, m18, m19, m20, m21, bSubI, bAddT, seqLT, fIfe, hz])
  have okq : okDs m q = true := okDs_iff.2 fun z hz => mem z (by simp [R.bind, evSs, evS, evO, evOs, evI, asgT, asgTs, sSeq, sAsg, sIf, sRet, sEx, sAugSub, sAug, taken, tst, fVar, fGlo, fBin, fCmp, fCmp2, fNeg, fNot, fAnd, fOr, fIfe, fDsp, fIdx, fSli, fRev, fBi, fCall, fIsi, fMet, gVar, gSub, gTup, gCons, gNil, fsCons, ofD, look, Sl.get, Opd.rd, Opd.rdk, Opd.take, rds, rdks, takes, box, D.frz, D.frzs, D.kids, cmpD, inD, getD?, sliD, sliC, optI, truth, biD, Bi.copies, runF, outsOf, enter, augD, setD, atP, Exps.plain, bAddI, bMulR, bMulL, bMod, bDiv, bPow, bPow39, bAddL, bAddS, eqD_int, frzs_ints, fzs_ints, L2.atI, L2.ixN, D.fzs, D.fz, big, line, callF, prep, back, m0, m1, m2, m3, m4, m5, m6, m7, m8, m9, m10, m11, m12, m13, m14, m15, m16, m17, m18, m19, m20, m21, bSubI, bAddT, seqLT, fIfe, hz])
  have hf := ok_frzs oks
  have hz := ok_fzs _ oks
  have zp := ok_fzs _ okp
  have zq := ok_fzs _ okq
  have zc := ok_fz _ oc
  have hlen : p.length + q.length ≤ 1048570 := by
    have l := len_wts (p ++ c :: q)
    simp only [wt] at wx
    simp only [List.length_append, List.length_cons] at l
    omega
  have wsum : wts (p ++ c :: q) = wts p + (wt c + 2 + wts q) := by rw [wts_add]; rfl
  have dsum : D.depths (p ++ c :: q) = max (D.depths p) (max c.depth (D.depths q)) := by rw [depths_add]; rfl
  -- a tuple of the same parts and one more thing
  have mk : ∀ (ys : List D), okDs (m + 1) ys = true → D.depths ys ≤ D.depths (p ++ c :: q) + 4 → wts ys ≤ 2 * wts (p ++ c :: q) + 130 → bentR m (.tup (p ++ c :: q)) (D.frz (.tup ys)) := by
    intro ys h1 h2 h3
    have e : D.frz (.tup ys) = .tup ys := by rw [D.frz, ok_frzs h1]
    rw [e]
    refine ⟨by simpa [R.bind, evSs, evS, evO, evOs, evI, asgT, asgTs, sSeq, sAsg, sIf, sRet, sEx, sAugSub, sAug, taken, tst, fVar, fGlo, fBin, fCmp, fCmp2, fNeg, fNot, fAnd, fOr, fIfe, fDsp, fIdx, fSli, fRev, fBi, fCall, fIsi, fMet, gVar, gSub, gTup, gCons, gNil, fsCons, ofD, look, Sl.get, Opd.rd, Opd.rdk, Opd.take, rds, rdks, takes, box, D.frz, D.frzs, D.kids, cmpD, inD, getD?, sliD, sliC, optI, truth, biD, Bi.copies, runF, outsOf, enter, augD, setD, atP, Exps.plain, bAddI, bMulR, bMulL, bMod, bDiv, bPow, bPow39, bAddL, bAddS, eqD_int, frzs_ints, fzs_ints, L2.atI, L2.ixN, D.fzs, D.fz, big, line, callF, prep, back, m0, m1, m2, m3, m4, m5, m6, m7, m8, m9, m10, m11, m12, m13, m14, m15, m16, m17, m18, m19, m20, m21, bSubI, bAddT, seqLT, fIfe, okD] using h1, ?_, ?_⟩
    · simp only [D.depth]; omega
    · simp only [wt]; omega
  have up : ∀ {ys : List D}, okDs m ys = true → okDs (m + 1) ys = true := fun h => oks_up (Nat.le_succ m) _ h
  have upc := ok_up (Nat.le_succ m) _ oc
  have fin : ∀ {y d2 : D} {e : Z.Env}, evSs txt.P cf [0] (.cons (.ifS (.cmp .eq (.var 2) (.cst (.int 2))) (.cons (.ret (.bi .list (.cons (.var 1) .nil))) .nil) .nil) (.cons (.ifS (.cmp .eq (.var 2) (.cst (.int 3))) (.cons (.ret (.bin .add (.sli (.var 1) (.cst .non) (.var 3)) (.sli (.var 1) (.bin .add (.var 3) (.cst (.int 1))) (.cst .non)))) .nil) .nil) (.cons (.ifS (.cmp .eq (.var 2) (.cst (.int 4))) (.cons (.ret (.bin .add (.bin .add (.sli (.var 1) (.cst .non) (.var 3)) (.tup (.cons (.idx (.var 1) (.var 3)) .nil))) (.sli (.var 1) (.var 3) (.cst .non)))) .nil) .nil) (.cons (.ifS (.cmp .eq (.var 2) (.cst (.int 5))) (.cons (.ret (.bin .add (.bin .add (.sli (.var 1) (.cst .non) (.var 3)) (.tup (.cons (.call 10 (.cons (.var 0) .nil)) .nil))) (.sli (.var 1) (.var 3) (.cst .non)))) .nil) .nil) (.cons (.ret (.bin .add (.bin .add (.sli (.var 1) (.cst .non) (.var 3)) (.tup (.cons (.call 18 (.cons (.var 0) (.cons (.idx (.var 1) (.var 3)) .nil))) .nil))) (.sli (.var 1) (.bin .add (.var 3) (.cst (.int 1))) (.cst .non)))) .nil))))) (envB d1 (p ++ c :: q) w p.length) = .ok (.rt y, .v d2 :: e) → evSs txt.P cf [0] (.cons (.ifS (.and (.isi (.var 1) .tup) (.and (.cmp .ne (.var 1) (.tup .nil)) (.cmp .gt (.var 2) (.cst (.int 1))))) (.cons (.asg (.var 3) (.call 7 (.cons (.var 0) (.cons (.bi .len (.cons (.var 1) .nil)) .nil)))) (.cons (.ifS (.cmp .eq (.var 2) (.cst (.int 2))) (.cons (.ret (.bi .list (.cons (.var 1) .nil))) .nil) .nil) (.cons (.ifS (.cmp .eq (.var 2) (.cst (.int 3))) (.cons (.ret (.bin .add (.sli (.var 1) (.cst .non) (.var 3)) (.sli (.var 1) (.bin .add (.var 3) (.cst (.int 1))) (.cst .non)))) .nil) .nil) (.cons (.ifS (.cmp .eq (.var 2) (.cst (.int 4))) (.cons (.ret (.bin .add (.bin .add (.sli (.var 1) (.cst .non) (.var 3)) (.tup (.cons (.idx (.var 1) (.var 3)) .nil))) (.sli (.var 1) (.var 3) (.cst .non)))) .nil) .nil) (.cons (.ifS (.cmp .eq (.var 2) (.cst (.int 5))) (.cons (.ret (.bin .add (.bin .add (.sli (.var 1) (.cst .non) (.var 3)) (.tup (.cons (.call 10 (.cons (.var 0) .nil)) .nil))) (.sli (.var 1) (.var 3) (.cst .non)))) .nil) .nil) (.cons (.ret (.bin .add (.bin .add (.sli (.var 1) (.cst .non) (.var 3)) (.tup (.cons (.call 18 (.cons (.var 0) (.cons (.idx (.var 1) (.var 3)) .nil))) .nil))) (.sli (.var 1) (.bin .add (.var 3) (.cst (.int 1))) (.cst .non)))) .nil)))))) .nil) (.cons (.ifS (.and (.isi (.var 1) .str) (.cmp .gt (.var 2) (.cst (.int 1)))) (.cons (.asg (.var 4) (.lst (.cons (.bin .add (.var 1) (.cst (.str "s"))) (.cons (.bin .add (.var 1) (.cst (.str "1"))) (.cons (.bin .add (.var 1) (.cst (.str "\n"))) (.cons (.sli (.var 1) (.cst .non) (.neg (.cst (.int 1)))) (.cons (.met .upper (.var 1) .nil) (.cons (.cst (.str "if")) (.cons (.cst (.str "tell")) (.cons (.cst (.str "yes")) (.cons (.cst (.str "alike")) .nil))))))))))) (.cons (.ret (.call 9 (.cons (.var 0) (.cons (.bin .add (.var 4) (.lst (.cons (.cst (.str "unlike")) (.cons (.cst (.str "no")) (.cons (.cst (.str "go")) (.cons (.cst (.str "with")) .nil)))))) .nil)))) .nil)) .nil) (.cons (.ret (.call 10 (.cons (.var 0) .nil))) .nil))) [.v d, .v (.tup (p ++ c :: q)), .v (.int w), .no, .no] = .ok (.rt y, .v d2 :: e) := fun h =>
    bR ((sT c1).trans ((bN (bs0 cf d d1 _ _ _ k1)).trans h))
  have q2 := bq cf d1 (p ++ c :: q) w p.length 2
  have q3 := bq cf d1 (p ++ c :: q) w p.length 3
  have q4 := bq cf d1 (p ++ c :: q) w p.length 4
  have q5 := bq cf d1 (p ++ c :: q) w p.length 5
  by_cases w2 : w = 2
  · rw [decide_eq_true w2] at q2
    refine ⟨.lst true (p ++ c :: q), d1, [.v (.tup (p ++ c :: q)), .v (.int w), .v (.int p.length), .no], ?_, b1, fin (bR ((sT q2).trans (bR (bs1 cf d1 _ w _ hf hz))))⟩
    have e : D.frz (.lst true (p ++ c :: q)) = .lst false (p ++ c :: q) := by rw [D.frz, hf]
    rw [e]
    refine ⟨by simpa [R.bind, evSs, evS, evO, evOs, evI, asgT, asgTs, sSeq, sAsg, sIf, sRet, sEx, sAugSub, sAug, taken, tst, fVar, fGlo, fBin, fCmp, fCmp2, fNeg, fNot, fAnd, fOr, fIfe, fDsp, fIdx, fSli, fRev, fBi, fCall, fIsi, fMet, gVar, gSub, gTup, gCons, gNil, fsCons, ofD, look, Sl.get, Opd.rd, Opd.rdk, Opd.take, rds, rdks, takes, box, D.frz, D.frzs, D.kids, cmpD, inD, getD?, sliD, sliC, optI, truth, biD, Bi.copies, runF, outsOf, enter, augD, setD, atP, Exps.plain, bAddI, bMulR, bMulL, bMod, bDiv, bPow, bPow39, bAddL, bAddS, eqD_int, frzs_ints, fzs_ints, L2.atI, L2.ixN, D.fzs, D.fz, big, line, callF, prep, back, m0, m1, m2, m3, m4, m5, m6, m7, m8, m9, m10, m11, m12, m13, m14, m15, m16, m17, m18, m19, m20, m21, bSubI, bAddT, seqLT, fIfe, okD] using up oks, ?_, ?_⟩
    · simp only [D.depth]; omega
    · simp only [wt]; omega
  rw [decide_eq_false w2] at q2
  by_cases w3 : w = 3
  · rw [decide_eq_true w3] at q3
    refine ⟨.tup (p ++ q), d1, [.v (.tup (p ++ c :: q)), .v (.int w), .v (.int p.length), .no], mk _ ?_ ?_ ?_, b1, fin ((bN (sF q2)).trans (bR ((sT q3).trans (bR (bs2 cf d1 w p c q hf hz zp zq (by omega))))))⟩
    · rw [okDs_add, up okp, up okq]; rfl
    · rw [depths_add, dsum]; omega
    · rw [wts_add, wsum]; omega
  rw [decide_eq_false w3] at q3
  by_cases w4 : w = 4
  · rw [decide_eq_true w4] at q4
    refine ⟨.tup (p ++ [c] ++ c :: q), d1, [.v (.tup (p ++ c :: q)), .v (.int w), .v (.int p.length), .no], mk _ ?_ ?_ ?_, b1, fin ((bN (sF q2)).trans ((bN (sF q3)).trans (bR ((sT q4).trans (bR (bs3 cf d1 w p c q hf hz zp zq zc hlen))))))⟩
    · simp only [okDs_add, okDs, up okp, up okq, upc, Bool.and_self]
    · simp only [depths_add, D.depths, dsum]; omega
    · simp only [wts_add, wts, wsum]; omega
  rw [decide_eq_false w4] at q4
  by_cases w5 : w = 5
  · rw [decide_eq_true w5] at q5
    obtain ⟨o, d2, o1, o2, o3⟩ := ho d1 b1
    have t := th_odd o1
    refine ⟨.tup (p ++ [o] ++ c :: q), d2, [.v (.tup (p ++ c :: q)), .v (.int w), .v (.int p.length), .no], mk _ ?_ ?_ ?_, o2, fin ((bN (sF q2)).trans ((bN (sF q3)).trans ((bN (sF q4)).trans (bR ((sT q5).trans (bR (bs4 cf d1 d2 w p c q o (ok_fz _ t.1) hf hz zp zq zc hlen o3)))))))⟩
    · have := ok_up (show 9 ≤ m + 1 by omega) _ t.1
      simp only [okDs_add, okDs, up okp, up okq, upc, this, Bool.and_self]
    · have := t.2.1
      simp only [depths_add, D.depths, dsum]; omega
    · have := t.2.2
      simp only [wts_add, wts, wsum]; omega
  rw [decide_eq_false w5] at q5
  obtain ⟨y, d2, y1, y2, y3⟩ := hb d1 c b1 (by simp [R.bind, evSs, evS, evO, evOs, evI, asgT, asgTs, sSeq, sAsg, sIf, sRet, sEx, sAugSub, sAug, taken, tst, fVar, fGlo, fBin, fCmp, fCmp2, fNeg, fNot, fAnd, fOr, fIfe, fDsp, fIdx, fSli, fRev, fBi, fCall, fIsi, fMet, gVar, gSub, gTup, gCons, gNil, fsCons, ofD, look, Sl.get, Opd.rd, Opd.rdk, Opd.take, rds, rdks, takes, box, D.frz, D.frzs, D.kids, cmpD, inD, getD?, sliD, sliC, optI, truth, biD, Bi.copies, runF, outsOf, enter, augD, setD, atP, Exps.plain, bAddI, bMulR, bMulL, bMod, bDiv, bPow, bPow39, bAddL, bAddS, eqD_int, frzs_ints, fzs_ints, L2.atI, L2.ixN, D.fzs, D.fz, big, line, callF, prep, back, m0, m1, m2, m3, m4, m5, m6, m7, m8, m9, m10, m11, m12, m13, m14, m15, m16, m17, m18, m19, m20, m21, bSubI, bAddT, seqLT, fIfe])
  refine ⟨.tup (p ++ [y.frz] ++ q), d2, [.v (.tup (p ++ c :: q)), .v (.int w), .v (.int p.length), .no], mk _ ?_ ?_ ?_, y2, fin ((bN (sF q2)).trans ((bN (sF q3)).trans ((bN (sF q4)).trans ((bN (sF q5)).trans (bR (bs5 cf d1 d2 w p c q y hf hz zp zq zc hlen y3))))))⟩
  · simp only [okDs_add, okDs, up okp, up okq, y1.1, Bool.and_self]
  · have := y1.2.1
    simp only [depths_add, D.depths, dsum]; omega
  · have := y1.2.2
    simp only [wts_add, wts, wsum]; omega
theorem bent_ok (m : Nat) (h8 : 8 ≤ m) (h10 : m ≤ 10) : ∀ (k n : Nat) (x d : D), Bag d → okD m x = true → x.depth ≤ k → wt x ≤ 100000 → ∃ y d2, bentR m x y.frz ∧ Bag d2 ∧ callN txt.P txt.fs (n + 5 + k) 18 [d, x] = .ok y [d2] := by
  intro k
  induction k with
  | zero =>
    intro n x d hd ok hdep hw
    obtain ⟨w, d1, w1, w2, b1, c1⟩ := take_ok (n + 3) d 15 hd (by omega) (by omega)
    have ho : ∀ d, Bag d → ∃ y d2, y ∈ odds ∧ Bag d2 ∧ callN txt.P txt.fs (n + 4) 10 [d] = .ok y [d2] := fun d hd => odd_ok (n + 1) d hd
    have e : ∃ y d2 e, bentR m x y.frz ∧ Bag d2 ∧ evSs txt.P (callN txt.P txt.fs (n + 4)) [0] (.cons (.ifS (.and (.isi (.var 1) .tup) (.and (.cmp .ne (.var 1) (.tup .nil)) (.cmp .gt (.var 2) (.cst (.int 1))))) (.cons (.asg (.var 3) (.call 7 (.cons (.var 0) (.cons (.bi .len (.cons (.var 1) .nil)) .nil)))) (.cons (.ifS (.cmp .eq (.var 2) (.cst (.int 2))) (.cons (.ret (.bi .list (.cons (.var 1) .nil))) .nil) .nil) (.cons (.ifS (.cmp .eq (.var 2) (.cst (.int 3))) (.cons (.ret (.bin .add (.sli (.var 1) (.cst .non) (.var 3)) (.sli (.var 1) (.bin .add (.var 3) (.cst (.int 1))) (.cst .non)))) .nil) .nil) (.cons (.ifS (.cmp .eq (.var 2) (.cst (.int 4))) (.cons (.ret (.bin .add (.bin .add (.sli (.var 1) (.cst .non) (.var 3)) (.tup (.cons (.idx (.var 1) (.var 3)) .nil))) (.sli (.var 1) (.var 3) (.cst .non)))) .nil) .nil) (.cons (.ifS (.cmp .eq (.var 2) (.cst (.int 5))) (.cons (.ret (.bin .add (.bin .add (.sli (.var 1) (.cst .non) (.var 3)) (.tup (.cons (.call 10 (.cons (.var 0) .nil)) .nil))) (.sli (.var 1) (.var 3) (.cst .non)))) .nil) .nil) (.cons (.ret (.bin .add (.bin .add (.sli (.var 1) (.cst .non) (.var 3)) (.tup (.cons (.call 18 (.cons (.var 0) (.cons (.idx (.var 1) (.var 3)) .nil))) .nil))) (.sli (.var 1) (.bin .add (.var 3) (.cst (.int 1))) (.cst .non)))) .nil)))))) .nil) (.cons (.ifS (.and (.isi (.var 1) .str) (.cmp .gt (.var 2) (.cst (.int 1)))) (.cons (.asg (.var 4) (.lst (.cons (.bin .add (.var 1) (.cst (.str "s"))) (.cons (.bin .add (.var 1) (.cst (.str "1"))) (.cons (.bin .add (.var 1) (.cst (.str "\n"))) (.cons (.sli (.var 1) (.cst .non) (.neg (.cst (.int 1)))) (.cons (.met .upper (.var 1) .nil) (.cons (.cst (.str "if")) (.cons (.cst (.str "tell")) (.cons (.cst (.str "yes")) (.cons (.cst (.str "alike")) .nil))))))))))) (.cons (.ret (.call 9 (.cons (.var 0) (.cons (.bin .add (.var 4) (.lst (.cons (.cst (.str "unlike")) (.cons (.cst (.str "no")) (.cons (.cst (.str "go")) (.cons (.cst (.str "with")) .nil)))))) .nil)))) .nil)) .nil) (.cons (.ret (.call 10 (.cons (.var 0) .nil))) .nil))) [.v d1, .v x, .v (.int w), .no, .no] = .ok (.rt y, .v d2 :: e) := by
      have f1 : bc1 x w = false := by
        cases x with
        | tup xs => simp [R.bind, evSs, evS, evO, evOs, evI, asgT, asgTs, sSeq, sAsg, sIf, sRet, sEx, sAugSub, sAug, taken, tst, fVar, fGlo, fBin, fCmp, fCmp2, fNeg, fNot, fAnd, fOr, fIfe, fDsp, fIdx, fSli, fRev, fBi, fCall, fIsi, fMet, gVar, gSub, gTup, gCons, gNil, fsCons, ofD, look, Sl.get, Opd.rd, Opd.rdk, Opd.take, rds, rdks, takes, box, D.frz, D.frzs, D.kids, cmpD, inD, getD?, sliD, sliC, optI, truth, biD, Bi.copies, runF, outsOf, enter, augD, setD, atP, Exps.plain, bAddI, bMulR, bMulL, bMod, bDiv, bPow, bPow39, bAddL, bAddS, eqD_int, frzs_ints, fzs_ints, L2.atI, L2.ixN, D.fzs, D.fz, big, line, callF, prep, back, m0, m1, m2, m3, m4, m5, m6, m7, m8, m9, m10, m11, m12, m13, m14, m15, m16, m17, m18, m19, m20, m21, bSubI, bAddT, seqLT, fIfe, D.depth] at hdep
        | _ => rfl
      by_cases h2 : bc2 x w = true
      · obtain ⟨s, rfl⟩ : ∃ s, x = .str s := by cases x <;> first | exact ⟨_, rfl⟩ | exact nomatch h2
        exact bent_str _ m h8 h10 d1 s w (of_decide_eq_true h2) ok b1 fun d xs hd a b => one_lst (n + 2) d false xs hd a b
      · exact bent_odd _ m h8 d1 x w ok b1 f1 (by simpa [R.bind, evSs, evS, evO, evOs, evI, asgT, asgTs, sSeq, sAsg, sIf, sRet, sEx, sAugSub, sAug, taken, tst, fVar, fGlo, fBin, fCmp, fCmp2, fNeg, fNot, fAnd, fOr, fIfe, fDsp, fIdx, fSli, fRev, fBi, fCall, fIsi, fMet, gVar, gSub, gTup, gCons, gNil, fsCons, ofD, look, Sl.get, Opd.rd, Opd.rdk, Opd.take, rds, rdks, takes, box, D.frz, D.frzs, D.kids, cmpD, inD, getD?, sliD, sliC, optI, truth, biD, Bi.copies, runF, outsOf, enter, augD, setD, atP, Exps.plain, bAddI, bMulR, bMulL, bMod, bDiv, bPow, bPow39, bAddL, bAddS, eqD_int, frzs_ints, fzs_ints, L2.atI, L2.ixN, D.fzs, D.fz, big, line, callF, prep, back, m0, m1, m2, m3, m4, m5, m6, m7, m8, m9, m10, m11, m12, m13, m14, m15, m16, m17, m18, m19, m20, m21, bSubI, bAddT, seqLT, fIfe] using h2) ho
    obtain ⟨y, d2, ee, e1, e2, e3⟩ := e
    refine ⟨y, d2, e1, e2, ?_⟩
    rw [show n + 5 + 0 = (n + 4) + 1 from rfl, callB]
    have bd : f18.body = .cons (.asg (.var 2) (.call 7 (.cons (.var 0) (.cons (.cst (.int 15)) .nil)))) (.cons (.ifS (.and (.isi (.var 1) .tup) (.and (.cmp .ne (.var 1) (.tup .nil)) (.cmp .gt (.var 2) (.cst (.int 1))))) (.cons (.asg (.var 3) (.call 7 (.cons (.var 0) (.cons (.bi .len (.cons (.var 1) .nil)) .nil)))) (.cons (.ifS (.cmp .eq (.var 2) (.cst (.int 2))) (.cons (.ret (.bi .list (.cons (.var 1) .nil))) .nil) .nil) (.cons (.ifS (.cmp .eq (.var 2) (.cst (.int 3))) (.cons (.ret (.bin .add (.sli (.var 1) (.cst .non) (.var 3)) (.sli (.var 1) (.bin .add (.var 3) (.cst (.int 1))) (.cst .non)))) .nil) .nil) (.cons (.ifS (.cmp .eq (.var 2) (.cst (.int 4))) (.cons (.ret (.bin .add (.bin .add (.sli (.var 1) (.cst .non) (.var 3)) (.tup (.cons (.idx (.var 1) (.var 3)) .nil))) (.sli (.var 1) (.var 3) (.cst .non)))) .nil) .nil) (.cons (.ifS (.cmp .eq (.var 2) (.cst (.int 5))) (.cons (.ret (.bin .add (.bin .add (.sli (.var 1) (.cst .non) (.var 3)) (.tup (.cons (.call 10 (.cons (.var 0) .nil)) .nil))) (.sli (.var 1) (.var 3) (.cst .non)))) .nil) .nil) (.cons (.ret (.bin .add (.bin .add (.sli (.var 1) (.cst .non) (.var 3)) (.tup (.cons (.call 18 (.cons (.var 0) (.cons (.idx (.var 1) (.var 3)) .nil))) .nil))) (.sli (.var 1) (.bin .add (.var 3) (.cst (.int 1))) (.cst .non)))) .nil)))))) .nil) (.cons (.ifS (.and (.isi (.var 1) .str) (.cmp .gt (.var 2) (.cst (.int 1)))) (.cons (.asg (.var 4) (.lst (.cons (.bin .add (.var 1) (.cst (.str "s"))) (.cons (.bin .add (.var 1) (.cst (.str "1"))) (.cons (.bin .add (.var 1) (.cst (.str "\n"))) (.cons (.sli (.var 1) (.cst .non) (.neg (.cst (.int 1)))) (.cons (.met .upper (.var 1) .nil) (.cons (.cst (.str "if")) (.cons (.cst (.str "tell")) (.cons (.cst (.str "yes")) (.cons (.cst (.str "alike")) .nil))))))))))) (.cons (.ret (.call 9 (.cons (.var 0) (.cons (.bin .add (.var 4) (.lst (.cons (.cst (.str "unlike")) (.cons (.cst (.str "no")) (.cons (.cst (.str "go")) (.cons (.cst (.str "with")) .nil)))))) .nil)))) .nil)) .nil) (.cons (.ret (.call 10 (.cons (.var 0) .nil))) .nil))) := rfl
    rw [bd, bN (bt0 _ d d1 x w c1), e3]
    exact runF0 _ y d2 _ rfl
  | succ k ih =>
    intro n x d hd ok hdep hw
    obtain ⟨w, d1, w1, w2, b1, c1⟩ := take_ok (n + 4 + k) d 15 hd (by omega) (by omega)
    have ho : ∀ d, Bag d → ∃ y d2, y ∈ odds ∧ Bag d2 ∧ callN txt.P txt.fs (n + 5 + k) 10 [d] = .ok y [d2] := fun d hd => by
      obtain ⟨y, d2, y1, y2, y3⟩ := odd_ok (n + 2 + k) d hd
      exact ⟨y, d2, y1, y2, by rw [show n + 5 + k = n + 2 + k + 3 by omega]; exact y3⟩
    have e : ∃ y d2 e, bentR m x y.frz ∧ Bag d2 ∧ evSs txt.P (callN txt.P txt.fs (n + 5 + k)) [0] (.cons (.ifS (.and (.isi (.var 1) .tup) (.and (.cmp .ne (.var 1) (.tup .nil)) (.cmp .gt (.var 2) (.cst (.int 1))))) (.cons (.asg (.var 3) (.call 7 (.cons (.var 0) (.cons (.bi .len (.cons (.var 1) .nil)) .nil)))) (.cons (.ifS (.cmp .eq (.var 2) (.cst (.int 2))) (.cons (.ret (.bi .list (.cons (.var 1) .nil))) .nil) .nil) (.cons (.ifS (.cmp .eq (.var 2) (.cst (.int 3))) (.cons (.ret (.bin .add (.sli (.var 1) (.cst .non) (.var 3)) (.sli (.var 1) (.bin .add (.var 3) (.cst (.int 1))) (.cst .non)))) .nil) .nil) (.cons (.ifS (.cmp .eq (.var 2) (.cst (.int 4))) (.cons (.ret (.bin .add (.bin .add (.sli (.var 1) (.cst .non) (.var 3)) (.tup (.cons (.idx (.var 1) (.var 3)) .nil))) (.sli (.var 1) (.var 3) (.cst .non)))) .nil) .nil) (.cons (.ifS (.cmp .eq (.var 2) (.cst (.int 5))) (.cons (.ret (.bin .add (.bin .add (.sli (.var 1) (.cst .non) (.var 3)) (.tup (.cons (.call 10 (.cons (.var 0) .nil)) .nil))) (.sli (.var 1) (.var 3) (.cst .non)))) .nil) .nil) (.cons (.ret (.bin .add (.bin .add (.sli (.var 1) (.cst .non) (.var 3)) (.tup (.cons (.call 18 (.cons (.var 0) (.cons (.idx (.var 1) (.var 3)) .nil))) .nil))) (.sli (.var 1) (.bin .add (.var 3) (.cst (.int 1))) (.cst .non)))) .nil)))))) .nil) (.cons (.ifS (.and (.isi (.var 1) .str) (.cmp .gt (.var 2) (.cst (.int 1)))) (.cons (.asg (.var 4) (.lst (.cons (.bin .add (.var 1) (.cst (.str "s"))) (.cons (.bin .add (.var 1) (.cst (.str "1"))) (.cons (.bin .add (.var 1) (.cst (.str "\n"))) (.cons (.sli (.var 1) (.cst .non) (.neg (.cst (.int 1)))) (.cons (.met .upper (.var 1) .nil) (.cons (.cst (.str "if")) (.cons (.cst (.str "tell")) (.cons (.cst (.str "yes")) (.cons (.cst (.str "alike")) .nil))))))))))) (.cons (.ret (.call 9 (.cons (.var 0) (.cons (.bin .add (.var 4) (.lst (.cons (.cst (.str "unlike")) (.cons (.cst (.str "no")) (.cons (.cst (.str "go")) (.cons (.cst (.str "with")) .nil)))))) .nil)))) .nil)) .nil) (.cons (.ret (.call 10 (.cons (.var 0) .nil))) .nil))) [.v d1, .v x, .v (.int w), .no, .no] = .ok (.rt y, .v d2 :: e) := by
      by_cases h1 : bc1 x w = true
      · obtain ⟨xs, rfl, hne, hw1⟩ : ∃ xs, x = .tup xs ∧ xs ≠ [] ∧ 1 < w := by
          cases x with
          | tup xs =>
            simp only [bc1, Bool.and_eq_true, decide_eq_true_eq] at h1
            exact ⟨xs, rfl, (fun z => by subst z; exact nomatch h1.1), h1.2⟩
          | _ => exact nomatch h1
        have hlen : xs.length ≤ 100000 := by
          have l := len_wts xs
          simp only [wt] at hw
          omega
        have hpos : 0 < xs.length := by
          cases xs with
          | nil => exact absurd rfl hne
          | cons a b => simp [R.bind, evSs, evS, evO, evOs, evI, asgT, asgTs, sSeq, sAsg, sIf, sRet, sEx, sAugSub, sAug, taken, tst, fVar, fGlo, fBin, fCmp, fCmp2, fNeg, fNot, fAnd, fOr, fIfe, fDsp, fIdx, fSli, fRev, fBi, fCall, fIsi, fMet, gVar, gSub, gTup, gCons, gNil, fsCons, ofD, look, Sl.get, Opd.rd, Opd.rdk, Opd.take, rds, rdks, takes, box, D.frz, D.frzs, D.kids, cmpD, inD, getD?, sliD, sliC, optI, truth, biD, Bi.copies, runF, outsOf, enter, augD, setD, atP, Exps.plain, bAddI, bMulR, bMulL, bMod, bDiv, bPow, bPow39, bAddL, bAddS, eqD_int, frzs_ints, fzs_ints, L2.atI, L2.ixN, D.fzs, D.fz, big, line, callF, prep, back, m0, m1, m2, m3, m4, m5, m6, m7, m8, m9, m10, m11, m12, m13, m14, m15, m16, m17, m18, m19, m20, m21, bSubI, bAddT, seqLT, fIfe]
        have mem := okDs_iff.1 (show okDs m xs = true by simpa [R.bind, evSs, evS, evO, evOs, evI, asgT, asgTs, sSeq, sAsg, sIf, sRet, sEx, sAugSub, sAug, taken, tst, fVar, fGlo, fBin, fCmp, fCmp2, fNeg, fNot, fAnd, fOr, fIfe, fDsp, fIdx, fSli, fRev, fBi, fCall, fIsi, fMet, gVar, gSub, gTup, gCons, gNil, fsCons, ofD, look, Sl.get, Opd.rd, Opd.rdk, Opd.take, rds, rdks, takes, box, D.frz, D.frzs, D.kids, cmpD, inD, getD?, sliD, sliC, optI, truth, biD, Bi.copies, runF, outsOf, enter, augD, setD, atP, Exps.plain, bAddI, bMulR, bMulL, bMod, bDiv, bPow, bPow39, bAddL, bAddS, eqD_int, frzs_ints, fzs_ints, L2.atI, L2.ixN, D.fzs, D.fz, big, line, callF, prep, back, m0, m1, m2, m3, m4, m5, m6, m7, m8, m9, m10, m11, m12, m13, m14, m15, m16, m17, m18, m19, m20, m21, bSubI, bAddT, seqLT, fIfe, okD] using ok)
        refine bent_tup _ m h8 d1 xs w hw1 hne ok hw b1 (fun d hd => ?_) ho fun d c hd hc => ?_
        · obtain ⟨r, d2, r1, r2, r3, r4⟩ := take_ok (n + 4 + k) d xs.length hd (by omega) (by omega)
          exact ⟨r, d2, r1, r2, r3, by rw [show n + 5 + k = n + 4 + k + 1 by omega]; exact r4⟩
        · have dm := depth_mem hc
          have wm := wt_mem hc
          simp only [D.depth] at hdep
          simp only [wt] at hw
          exact ih n c d hd (mem c hc) (by omega) (by omega)
      · by_cases h2 : bc2 x w = true
        · obtain ⟨s, rfl⟩ : ∃ s, x = .str s := by cases x <;> first | exact ⟨_, rfl⟩ | exact nomatch h2
          refine bent_str _ m h8 h10 d1 s w (of_decide_eq_true h2) ok b1 fun d xs hd a b => ?_
          obtain ⟨y, d2, y1, y2, y3⟩ := one_lst (n + 3 + k) d false xs hd a b
          exact ⟨y, d2, y1, y2, by rw [show n + 5 + k = n + 3 + k + 2 by omega]; exact y3⟩
        · exact bent_odd _ m h8 d1 x w ok b1 (by simpa [R.bind, evSs, evS, evO, evOs, evI, asgT, asgTs, sSeq, sAsg, sIf, sRet, sEx, sAugSub, sAug, taken, tst, fVar, fGlo, fBin, fCmp, fCmp2, fNeg, fNot, fAnd, fOr, fIfe, fDsp, fIdx, fSli, fRev, fBi, fCall, fIsi, fMet, gVar, gSub, gTup, gCons, gNil, fsCons, ofD, look, Sl.get, Opd.rd, Opd.rdk, Opd.take, rds, rdks, takes, box, D.frz, D.frzs, D.kids, cmpD, inD, getD?, sliD, sliC, optI, truth, biD, Bi.copies, runF, outsOf, enter, augD, setD, atP, Exps.plain, bAddI, bMulR, bMulL, bMod, bDiv, bPow, bPow39, bAddL, bAddS, eqD_int, frzs_ints, fzs_ints, L2.atI, L2.ixN, D.fzs, D.fz, big, line, callF, prep, back, m0, m1, m2, m3, m4, m5, m6, m7, m8, m9, m10, m11, m12, m13, m14, m15, m16, m17, m18, m19, m20, m21, bSubI, bAddT, seqLT, fIfe] using h1) (by simpa [R.bind, evSs, evS, evO, evOs, evI, asgT, asgTs, sSeq, sAsg, sIf, sRet, sEx, sAugSub, sAug, taken, tst, fVar, fGlo, fBin, fCmp, fCmp2, fNeg, fNot, fAnd, fOr, fIfe, fDsp, fIdx, fSli, fRev, fBi, fCall, fIsi, fMet, gVar, gSub, gTup, gCons, gNil, fsCons, ofD, look, Sl.get, Opd.rd, Opd.rdk, Opd.take, rds, rdks, takes, box, D.frz, D.frzs, D.kids, cmpD, inD, getD?, sliD, sliC, optI, truth, biD, Bi.copies, runF, outsOf, enter, augD, setD, atP, Exps.plain, bAddI, bMulR, bMulL, bMod, bDiv, bPow, bPow39, bAddL, bAddS, eqD_int, frzs_ints, fzs_ints, L2.atI, L2.ixN, D.fzs, D.fz, big, line, callF, prep, back, m0, m1, m2, m3, m4, m5, m6, m7, m8, m9, m10, m11, m12, m13, m14, m15, m16, m17, m18, m19, m20, m21, bSubI, bAddT, seqLT, fIfe] using h2) ho
    obtain ⟨y, d2, ee, e1, e2, e3⟩ := e
    refine ⟨y, d2, e1, e2, ?_⟩
    have c1 : callN txt.P txt.fs (n + 5 + k) 7 [d, .int 15] = .ok (.int w) [d1] := by rw [show n + 5 + k = n + 4 + k + 1 by omega]; exact c1
    rw [show n + 5 + (k + 1) = (n + 5 + k) + 1 from rfl, callB]
    have bd : f18.body = .cons (.asg (.var 2) (.call 7 (.cons (.var 0) (.cons (.cst (.int 15)) .nil)))) (.cons (.ifS (.and (.isi (.var 1) .tup) (.and (.cmp .ne (.var 1) (.tup .nil)) (.cmp .gt (.var 2) (.cst (.int 1))))) (.cons (.asg (.var 3) (.call 7 (.cons (.var 0) (.cons (.bi .len (.cons (.var 1) .nil)) .nil)))) (.cons (.ifS (.cmp .eq (.var 2) (.cst (.int 2))) (.cons (.ret (.bi .list (.cons (.var 1) .nil))) .nil) .nil) (.cons (.ifS (.cmp .eq (.var 2) (.cst (.int 3))) (.cons (.ret (.bin .add (.sli (.var 1) (.cst .non) (.var 3)) (.sli (.var 1) (.bin .add (.var 3) (.cst (.int 1))) (.cst .non)))) .nil) .nil) (.cons (.ifS (.cmp .eq (.var 2) (.cst (.int 4))) (.cons (.ret (.bin .add (.bin .add (.sli (.var 1) (.cst .non) (.var 3)) (.tup (.cons (.idx (.var 1) (.var 3)) .nil))) (.sli (.var 1) (.var 3) (.cst .non)))) .nil) .nil) (.cons (.ifS (.cmp .eq (.var 2) (.cst (.int 5))) (.cons (.ret (.bin .add (.bin .add (.sli (.var 1) (.cst .non) (.var 3)) (.tup (.cons (.call 10 (.cons (.var 0) .nil)) .nil))) (.sli (.var 1) (.var 3) (.cst .non)))) .nil) .nil) (.cons (.ret (.bin .add (.bin .add (.sli (.var 1) (.cst .non) (.var 3)) (.tup (.cons (.call 18 (.cons (.var 0) (.cons (.idx (.var 1) (.var 3)) .nil))) .nil))) (.sli (.var 1) (.bin .add (.var 3) (.cst (.int 1))) (.cst .non)))) .nil)))))) .nil) (.cons (.ifS (.and (.isi (.var 1) .str) (.cmp .gt (.var 2) (.cst (.int 1)))) (.cons (.asg (.var 4) (.lst (.cons (.bin .add (.var 1) (.cst (.str "s"))) (.cons (.bin .add (.var 1) (.cst (.str "1"))) (.cons (.bin .add (.var 1) (.cst (.str "\n"))) (.cons (.sli (.var 1) (.cst .non) (.neg (.cst (.int 1)))) (.cons (.met .upper (.var 1) .nil) (.cons (.cst (.str "if")) (.cons (.cst (.str "tell")) (.cons (.cst (.str "yes")) (.cons (.cst (.str "alike")) .nil))))))))))) (.cons (.ret (.call 9 (.cons (.var 0) (.cons (.bin .add (.var 4) (.lst (.cons (.cst (.str "unlike")) (.cons (.cst (.str "no")) (.cons (.cst (.str "go")) (.cons (.cst (.str "with")) .nil)))))) .nil)))) .nil)) .nil) (.cons (.ret (.call 10 (.cons (.var 0) .nil))) .nil))) := rfl
    rw [bd, bN (bt0 _ d d1 x w c1), e3]
    exact runF0 _ y d2 _ rfl
end Law

set_option Elab.async false
set_option linter.all false
set_option maxRecDepth 100000
set_option maxHeartbeats 400000
namespace Law
open Z PySem

/-! ## begins, are_terms -/
def headIs (s : Str) : List D → Bool | .str t :: _ => t == s | _ => false
def begB (x : D) (s : Str) (n : Nat) : Bool := match x with | .tup xs => decide (xs.length = n) && headIs s xs | _ => false
theorem eqD_str (a b : Str) : eqD (.str a) (.str b) = some (a == b) := rfl
theorem neD_str (a b : Str) : neD (.str a) (.str b) = some (!(a == b)) := rfl
theorem neD_int (i j : Int) : neD (.int i) (.int j) = some (!decide (i = j)) := by
  show some (!PyData.eqv (.int i) (.int j)) = _
  simp only [PyData.eqv, Bool.beq_eq_decide_eq]
theorem beg0 (cf : Nat → List D → C) (x : D) (s : Str) (n : Nat) (ok : okD 100 x = true) (hn : 0 < n) : evS txt.P cf [] (.ret (.and (.isi (.var 0) .tup) (.and (.cmp .eq (.bi .len (.cons (.var 0) .nil)) (.var 2)) (.and (.isi (.idx (.var 0) (.cst (.int 0))) .str) (.cmp .eq (.idx (.var 0) (.cst (.int 0))) (.var 1)))))) [.v x, .v (.str s), .v (.int (n : Int))] = .ok (.rt (.bl (begB x s n)), [.v x, .v (.str s), .v (.int (n : Int))]) := by
  rcases isi_tup ok with ⟨xs, rfl⟩ | h
  · cases xs with
    | nil =>
      have h0 : ¬ (0 = n) := by omega
      have h1 : ¬ ((0 : Int) = (n : Int)) := by omega
      simp [R.bind, evSs, evS, evO, evOs, evI, asgT, asgTs, sSeq, sAsg, sIf, sRet, sEx, sAugSub, sAug, taken, tst, fVar, fGlo, fBin, fCmp, fCmp2, fNeg, fNot, fAnd, fOr, fIfe, fDsp, fIdx, fSli, fRev, fBi, fCall, fIsi, fMet, gVar, gSub, gTup, gCons, gNil, fsCons, ofD, look, Sl.get, Opd.rd, Opd.rdk, Opd.take, rds, rdks, takes, box, D.frz, D.frzs, D.kids, cmpD, inD, getD?, sliD, sliC, optI, truth, biD, Bi.copies, runF, outsOf, enter, augD, setD, atP, Exps.plain, bAddI, bMulR, bMulL, bMod, bDiv, bPow, bPow39, bAddL, bAddS, eqD_int, frzs_ints, fzs_ints, L2.atI, L2.ixN, D.fzs, D.fz, big, line, callF, prep, back, m0, m1, m2, m3, m4, m5, m6, m7, m8, m9, m10, m11, m12, m13, m14, m15, m16, m17, m18, m19, m20, m21, bSubI, bAddT, seqLT, fIfe, eqD_str, neD_str, neD_int, isiD, isiV, begB, headIs, h0, h1]
    | cons y r =>
      have oks : okDs 100 (y :: r) = true := by simpa [R.bind, evSs, evS, evO, evOs, evI, asgT, asgTs, sSeq, sAsg, sIf, sRet, sEx, sAugSub, sAug, taken, tst, fVar, fGlo, fBin, fCmp, fCmp2, fNeg, fNot, fAnd, fOr, fIfe, fDsp, fIdx, fSli, fRev, fBi, fCall, fIsi, fMet, gVar, gSub, gTup, gCons, gNil, fsCons, ofD, look, Sl.get, Opd.rd, Opd.rdk, Opd.take, rds, rdks, takes, box, D.frz, D.frzs, D.kids, cmpD, inD, getD?, sliD, sliC, optI, truth, biD, Bi.copies, runF, outsOf, enter, augD, setD, atP, Exps.plain, bAddI, bMulR, bMulL, bMod, bDiv, bPow, bPow39, bAddL, bAddS, eqD_int, frzs_ints, fzs_ints, L2.atI, L2.ixN, D.fzs, D.fz, big, line, callF, prep, back, m0, m1, m2, m3, m4, m5, m6, m7, m8, m9, m10, m11, m12, m13, m14, m15, m16, m17, m18, m19, m20, m21, bSubI, bAddT, seqLT, fIfe, eqD_str, neD_str, neD_int, okD] using ok
      have fy := ok_frz (okDs_iff.1 oks y (List.mem_cons_self ..))
      have fr : D.frzs r = r := ok_frzs (by simp only [okDs, Bool.and_eq_true] at oks; exact oks.2)
      have oy := okDs_iff.1 oks y (List.mem_cons_self ..)
      by_cases hl : r.length + 1 = n
      · have hl' : ((r.length : Int) + 1 = (n : Int)) := by omega
        cases y with
        | str t => simp [R.bind, evSs, evS, evO, evOs, evI, asgT, asgTs, sSeq, sAsg, sIf, sRet, sEx, sAugSub, sAug, taken, tst, fVar, fGlo, fBin, fCmp, fCmp2, fNeg, fNot, fAnd, fOr, fIfe, fDsp, fIdx, fSli, fRev, fBi, fCall, fIsi, fMet, gVar, gSub, gTup, gCons, gNil, fsCons, ofD, look, Sl.get, Opd.rd, Opd.rdk, Opd.take, rds, rdks, takes, box, D.frz, D.frzs, D.kids, cmpD, inD, getD?, sliD, sliC, optI, truth, biD, Bi.copies, runF, outsOf, enter, augD, setD, atP, Exps.plain, bAddI, bMulR, bMulL, bMod, bDiv, bPow, bPow39, bAddL, bAddS, eqD_int, frzs_ints, fzs_ints, L2.atI, L2.ixN, D.fzs, D.fz, big, line, callF, prep, back, m0, m1, m2, m3, m4, m5, m6, m7, m8, m9, m10, m11, m12, m13, m14, m15, m16, m17, m18, m19, m20, m21, bSubI, bAddT, seqLT, fIfe, eqD_str, neD_str, neD_int, isiD, isiV, begB, headIs, hl, hl', fr, hn]
        | clo a b => exact nomatch oy
        | _ => simp [R.bind, evSs, evS, evO, evOs, evI, asgT, asgTs, sSeq, sAsg, sIf, sRet, sEx, sAugSub, sAug, taken, tst, fVar, fGlo, fBin, fCmp, fCmp2, fNeg, fNot, fAnd, fOr, fIfe, fDsp, fIdx, fSli, fRev, fBi, fCall, fIsi, fMet, gVar, gSub, gTup, gCons, gNil, fsCons, ofD, look, Sl.get, Opd.rd, Opd.rdk, Opd.take, rds, rdks, takes, box, D.frz, D.frzs, D.kids, cmpD, inD, getD?, sliD, sliC, optI, truth, biD, Bi.copies, runF, outsOf, enter, augD, setD, atP, Exps.plain, bAddI, bMulR, bMulL, bMod, bDiv, bPow, bPow39, bAddL, bAddS, eqD_int, frzs_ints, fzs_ints, L2.atI, L2.ixN, D.fzs, D.fz, big, line, callF, prep, back, m0, m1, m2, m3, m4, m5, m6, m7, m8, m9, m10, m11, m12, m13, m14, m15, m16, m17, m18, m19, m20, m21, bSubI, bAddT, seqLT, fIfe, eqD_str, neD_str, neD_int, isiD, isiV, begB, headIs, hl, hl', fr, fy, hn] at fy ⊢; try simp [R.bind, evSs, evS, evO, evOs, evI, asgT, asgTs, sSeq, sAsg, sIf, sRet, sEx, sAugSub, sAug, taken, tst, fVar, fGlo, fBin, fCmp, fCmp2, fNeg, fNot, fAnd, fOr, fIfe, fDsp, fIdx, fSli, fRev, fBi, fCall, fIsi, fMet, gVar, gSub, gTup, gCons, gNil, fsCons, ofD, look, Sl.get, Opd.rd, Opd.rdk, Opd.take, rds, rdks, takes, box, D.frz, D.frzs, D.kids, cmpD, inD, getD?, sliD, sliC, optI, truth, biD, Bi.copies, runF, outsOf, enter, augD, setD, atP, Exps.plain, bAddI, bMulR, bMulL, bMod, bDiv, bPow, bPow39, bAddL, bAddS, eqD_int, frzs_ints, fzs_ints, L2.atI, L2.ixN, D.fzs, D.fz, big, line, callF, prep, back, m0, m1, m2, m3, m4, m5, m6, m7, m8, m9, m10, m11, m12, m13, m14, m15, m16, m17, m18, m19, m20, m21, bSubI, bAddT, seqLT, fIfe, eqD_str, neD_str, neD_int, fy, hn]
      · have hl' : ¬ ((r.length : Int) + 1 = (n : Int)) := by omega
        simp [R.bind, evSs, evS, evO, evOs, evI, asgT, asgTs, sSeq, sAsg, sIf, sRet, sEx, sAugSub, sAug, taken, tst, fVar, fGlo, fBin, fCmp, fCmp2, fNeg, fNot, fAnd, fOr, fIfe, fDsp, fIdx, fSli, fRev, fBi, fCall, fIsi, fMet, gVar, gSub, gTup, gCons, gNil, fsCons, ofD, look, Sl.get, Opd.rd, Opd.rdk, Opd.take, rds, rdks, takes, box, D.frz, D.frzs, D.kids, cmpD, inD, getD?, sliD, sliC, optI, truth, biD, Bi.copies, runF, outsOf, enter, augD, setD, atP, Exps.plain, bAddI, bMulR, bMulL, bMod, bDiv, bPow, bPow39, bAddL, bAddS, eqD_int, frzs_ints, fzs_ints, L2.atI, L2.ixN, D.fzs, D.fz, big, line, callF, prep, back, m0, m1, m2, m3, m4, m5, m6, m7, m8, m9, m10, m11, m12, m13, m14, m15, m16, m17, m18, m19, m20, m21, bSubI, bAddT, seqLT, fIfe, eqD_str, neD_str, neD_int, isiD, isiV, begB, headIs, hl, hl', fr, fy]
  · have e : begB x s n = false := by cases x <;> first | rfl | (simp [R.bind, evSs, evS, evO, evOs, evI, asgT, asgTs, sSeq, sAsg, sIf, sRet, sEx, sAugSub, sAug, taken, tst, fVar, fGlo, fBin, fCmp, fCmp2, fNeg, fNot, fAnd, fOr, fIfe, fDsp, fIdx, fSli, fRev, fBi, fCall, fIsi, fMet, gVar, gSub, gTup, gCons, gNil, fsCons, ofD, look, Sl.get, Opd.rd, Opd.rdk, Opd.take, rds, rdks, takes, box, D.frz, D.frzs, D.kids, cmpD, inD, getD?, sliD, sliC, optI, truth, biD, Bi.copies, runF, outsOf, enter, augD, setD, atP, Exps.plain, bAddI, bMulR, bMulL, bMod, bDiv, bPow, bPow39, bAddL, bAddS, eqD_int, frzs_ints, fzs_ints, L2.atI, L2.ixN, D.fzs, D.fz, big, line, callF, prep, back, m0, m1, m2, m3, m4, m5, m6, m7, m8, m9, m10, m11, m12, m13, m14, m15, m16, m17, m18, m19, m20, m21, bSubI, bAddT, seqLT, fIfe, eqD_str, neD_str, neD_int, isiD, isiV] at h)
    simp [R.bind, evSs, evS, evO, evOs, evI, asgT, asgTs, sSeq, sAsg, sIf, sRet, sEx, sAugSub, sAug, taken, tst, fVar, fGlo, fBin, fCmp, fCmp2, fNeg, fNot, fAnd, fOr, fIfe, fDsp, fIdx, fSli, fRev, fBi, fCall, fIsi, fMet, gVar, gSub, gTup, gCons, gNil, fsCons, ofD, look, Sl.get, Opd.rd, Opd.rdk, Opd.take, rds, rdks, takes, box, D.frz, D.frzs, D.kids, cmpD, inD, getD?, sliD, sliC, optI, truth, biD, Bi.copies, runF, outsOf, enter, augD, setD, atP, Exps.plain, bAddI, bMulR, bMulL, bMod, bDiv, bPow, bPow39, bAddL, bAddS, eqD_int, frzs_ints, fzs_ints, L2.atI, L2.ixN, D.fzs, D.fz, big, line, callF, prep, back, m0, m1, m2, m3, m4, m5, m6, m7, m8, m9, m10, m11, m12, m13, m14, m15, m16, m17, m18, m19, m20, m21, bSubI, bAddT, seqLT, fIfe, eqD_str, neD_str, neD_int, h, e]
theorem beg_ok (k : Nat) (x : D) (s : Str) (n : Nat) (ok : okD 100 x = true) (hn : 0 < n) : callN txt.P txt.fs (k + 1) 2 [x, .str s, .int (n : Int)] = .ok (.bl (begB x s n)) [] := by
  have e : enter (txt.P.mode.getD 2 []) [x, .str s, .int (n : Int)] ++ List.replicate (f2.ns - f2.np) Sl.no = [.v x, .v (.str s), .v (.int (n : Int))] := rfl
  have io : f2.io = [] := rfl
  rw [call_eq txt.P txt.fs k 2 [x, .str s, .int (n : Int)] f2 rfl rfl, e, io]
  have bd : f2.body = .cons (.ret (.and (.isi (.var 0) .tup) (.and (.cmp .eq (.bi .len (.cons (.var 0) .nil)) (.var 2)) (.and (.isi (.idx (.var 0) (.cst (.int 0))) .str) (.cmp .eq (.idx (.var 0) (.cst (.int 0))) (.var 1)))))) .nil := rfl
  rw [bd, bR (beg0 _ x s n ok hn)]
  exact runE _ _ _ rfl
theorem are0 (cf : Nat → List D → C) (ys : List D) (g : D → Bool) (hl : ys.length ≤ 100000) (hf : D.frzs ys = ys) (hz : ∀ z ∈ ys, z.frz = z ∧ cf 1 [z] = .ok (.bl (g z)) []) : evS txt.P cf [] (.ret (.bi .all (.cons (.lc [1] (.call 1 (.cons (.var 1) .nil)) (.cons (.var 1) (.ex (.var 0)) .nil .nil)) .nil))) [.v (.tup ys), .no] = .ok (.rt (.bl (ys.all g)), [.v (.tup ys), .no]) := by
  have l := lcA cf (.tup ys) g ys [] (by simpa [R.bind, evSs, evS, evO, evOs, evI, asgT, asgTs, sSeq, sAsg, sIf, sRet, sEx, sAugSub, sAug, taken, tst, fVar, fGlo, fBin, fCmp, fCmp2, fNeg, fNot, fAnd, fOr, fIfe, fDsp, fIdx, fSli, fRev, fBi, fCall, fIsi, fMet, gVar, gSub, gTup, gCons, gNil, fsCons, ofD, look, Sl.get, Opd.rd, Opd.rdk, Opd.take, rds, rdks, takes, box, D.frz, D.frzs, D.kids, cmpD, inD, getD?, sliD, sliC, optI, truth, biD, Bi.copies, runF, outsOf, enter, augD, setD, atP, Exps.plain, bAddI, bMulR, bMulL, bMod, bDiv, bPow, bPow39, bAddL, bAddS, eqD_int, frzs_ints, fzs_ints, L2.atI, L2.ixN, D.fzs, D.fz, big, line, callF, prep, back, m0, m1, m2, m3, m4, m5, m6, m7, m8, m9, m10, m11, m12, m13, m14, m15, m16, m17, m18, m19, m20, m21, bSubI, bAddT, seqLT, fIfe, eqD_str, neD_str, neD_int] using hl) hz
  simp only [List.nil_append] at l
  simp only [evS, sRet, evO, evOs, fBi, fsCons, fLc, evC, cCons, iEx, fixed, evI, fVar, evIf, asgT]
  simp only [evO, evOs, fsCons, evIf] at l
  simp [R.bind, evSs, evS, evO, evOs, evI, asgT, asgTs, sSeq, sAsg, sIf, sRet, sEx, sAugSub, sAug, taken, tst, fVar, fGlo, fBin, fCmp, fCmp2, fNeg, fNot, fAnd, fOr, fIfe, fDsp, fIdx, fSli, fRev, fBi, fCall, fIsi, fMet, gVar, gSub, gTup, gCons, gNil, fsCons, ofD, look, Sl.get, Opd.rd, Opd.rdk, Opd.take, rds, rdks, takes, box, D.frz, D.frzs, D.kids, cmpD, inD, getD?, sliD, sliC, optI, truth, biD, Bi.copies, runF, outsOf, enter, augD, setD, atP, Exps.plain, bAddI, bMulR, bMulL, bMod, bDiv, bPow, bPow39, bAddL, bAddS, eqD_int, frzs_ints, fzs_ints, L2.atI, L2.ixN, D.fzs, D.fz, big, line, callF, prep, back, m0, m1, m2, m3, m4, m5, m6, m7, m8, m9, m10, m11, m12, m13, m14, m15, m16, m17, m18, m19, m20, m21, bSubI, bAddT, seqLT, fIfe, eqD_str, neD_str, neD_int, Opd.fix, iterOf, ownOk, Z.wipe, l, Z.unwipe, bools_map, evIf, hf, fLc, cCons, iEx, fixed]
  try simp [R.bind, evSs, evS, evO, evOs, evI, asgT, asgTs, sSeq, sAsg, sIf, sRet, sEx, sAugSub, sAug, taken, tst, fVar, fGlo, fBin, fCmp, fCmp2, fNeg, fNot, fAnd, fOr, fIfe, fDsp, fIdx, fSli, fRev, fBi, fCall, fIsi, fMet, gVar, gSub, gTup, gCons, gNil, fsCons, ofD, look, Sl.get, Opd.rd, Opd.rdk, Opd.take, rds, rdks, takes, box, D.frz, D.frzs, D.kids, cmpD, inD, getD?, sliD, sliC, optI, truth, biD, Bi.copies, runF, outsOf, enter, augD, setD, atP, Exps.plain, bAddI, bMulR, bMulL, bMod, bDiv, bPow, bPow39, bAddL, bAddS, eqD_int, frzs_ints, fzs_ints, L2.atI, L2.ixN, D.fzs, D.fz, big, line, callF, prep, back, m0, m1, m2, m3, m4, m5, m6, m7, m8, m9, m10, m11, m12, m13, m14, m15, m16, m17, m18, m19, m20, m21, bSubI, bAddT, seqLT, fIfe, eqD_str, neD_str, neD_int, Function.comp_def]
theorem are_ok (n : Nat) (ys : List D) (ok : okDs 100 ys = true) (hd : D.depths ys ≤ n) (hw : wts ys ≤ 200000) : callN txt.P txt.fs (n + 3) 3 [.tup ys] = .ok (.bl (ys.all termB)) [] := by
  have e : enter (txt.P.mode.getD 3 []) [.tup ys] ++ List.replicate (f3.ns - f3.np) Sl.no = [.v (.tup ys), .no] := rfl
  have io : f3.io = [] := rfl
  have hl : ys.length ≤ 100000 := by have := len_wts ys; omega
  rw [call_eq txt.P txt.fs (n + 2) 3 [.tup ys] f3 rfl rfl, e, io]
  have bd : f3.body = .cons (.ret (.bi .all (.cons (.lc [1] (.call 1 (.cons (.var 1) .nil)) (.cons (.var 1) (.ex (.var 0)) .nil .nil)) .nil))) .nil := rfl
  rw [bd, bR (are0 (callN txt.P txt.fs (n + 2)) ys termB hl (ok_frzs ok) fun z hz => ?_)]
  · exact runE _ _ _ rfl
  · have oz := okDs_iff.1 ok z hz
    have := depth_mem hz
    have := wt_mem hz
    exact ⟨ok_frz oz, trm1 n z oz (by omega) (by omega)⟩
/-! ## endings -/
def codeB (E : D → Bool) : Nat → D → Bool
  | 0, x => E x
  | n + 1, x => match x with
    | .tup [.str s, a, b, c, d] => if s == "if" then (termB a && termB b) && (codeB E n c && codeB E n d) else E x
    | x => E x
theorem nm_end : nmIx txt.P.fns "_law_is_word" = some 14 := rfl
def endF : D := .clo "_law_is_word" []
theorem ie0 (cf : Nat → List D → C) (x : D) (ok : okD 100 x = true) : tst (evO txt.P cf [] (.or (.not (.isi (.var 0) .tup)) (.or (.cmp .ne (.bi .len (.cons (.var 0) .nil)) (.cst (.int 5))) (.or (.not (.isi (.idx (.var 0) (.cst (.int 0))) .str)) (.cmp .ne (.idx (.var 0) (.cst (.int 0))) (.cst (.str "if"))))))) [.v x, .v endF] = .ok (!begB x "if" 5, [.v x, .v endF]) := by
  rcases isi_tup ok with ⟨xs, rfl⟩ | h
  · by_cases hl : xs.length = 5
    · match xs, hl with
      | [y, a, b, c, d], _ =>
        have oks : okDs 100 [y, a, b, c, d] = true := by simpa [R.bind, evSs, evS, evO, evOs, evI, asgT, asgTs, sSeq, sAsg, sIf, sRet, sEx, sAugSub, sAug, taken, tst, fVar, fGlo, fBin, fCmp, fCmp2, fNeg, fNot, fAnd, fOr, fIfe, fDsp, fIdx, fSli, fRev, fBi, fCall, fIsi, fMet, gVar, gSub, gTup, gCons, gNil, fsCons, ofD, look, Sl.get, Opd.rd, Opd.rdk, Opd.take, rds, rdks, takes, box, D.frz, D.frzs, D.kids, cmpD, inD, getD?, sliD, sliC, optI, truth, biD, Bi.copies, runF, outsOf, enter, augD, setD, atP, Exps.plain, bAddI, bMulR, bMulL, bMod, bDiv, bPow, bPow39, bAddL, bAddS, eqD_int, frzs_ints, fzs_ints, L2.atI, L2.ixN, D.fzs, D.fz, big, line, callF, prep, back, m0, m1, m2, m3, m4, m5, m6, m7, m8, m9, m10, m11, m12, m13, m14, m15, m16, m17, m18, m19, m20, m21, bSubI, bAddT, seqLT, fIfe, eqD_str, neD_str, neD_int, okD] using ok
        have mem := okDs_iff.1 oks
        have fa := ok_frzs oks
        have oy := mem y (by simp [R.bind, evSs, evS, evO, evOs, evI, asgT, asgTs, sSeq, sAsg, sIf, sRet, sEx, sAugSub, sAug, taken, tst, fVar, fGlo, fBin, fCmp, fCmp2, fNeg, fNot, fAnd, fOr, fIfe, fDsp, fIdx, fSli, fRev, fBi, fCall, fIsi, fMet, gVar, gSub, gTup, gCons, gNil, fsCons, ofD, look, Sl.get, Opd.rd, Opd.rdk, Opd.take, rds, rdks, takes, box, D.frz, D.frzs, D.kids, cmpD, inD, getD?, sliD, sliC, optI, truth, biD, Bi.copies, runF, outsOf, enter, augD, setD, atP, Exps.plain, bAddI, bMulR, bMulL, bMod, bDiv, bPow, bPow39, bAddL, bAddS, eqD_int, frzs_ints, fzs_ints, L2.atI, L2.ixN, D.fzs, D.fz, big, line, callF, prep, back, m0, m1, m2, m3, m4, m5, m6, m7, m8, m9, m10, m11, m12, m13, m14, m15, m16, m17, m18, m19, m20, m21, bSubI, bAddT, seqLT, fIfe, eqD_str, neD_str, neD_int])
        have f1 := ok_frz oy
        have f2 := ok_frz (mem a (by simp [R.bind, evSs, evS, evO, evOs, evI, asgT, asgTs, sSeq, sAsg, sIf, sRet, sEx, sAugSub, sAug, taken, tst, fVar, fGlo, fBin, fCmp, fCmp2, fNeg, fNot, fAnd, fOr, fIfe, fDsp, fIdx, fSli, fRev, fBi, fCall, fIsi, fMet, gVar, gSub, gTup, gCons, gNil, fsCons, ofD, look, Sl.get, Opd.rd, Opd.rdk, Opd.take, rds, rdks, takes, box, D.frz, D.frzs, D.kids, cmpD, inD, getD?, sliD, sliC, optI, truth, biD, Bi.copies, runF, outsOf, enter, augD, setD, atP, Exps.plain, bAddI, bMulR, bMulL, bMod, bDiv, bPow, bPow39, bAddL, bAddS, eqD_int, frzs_ints, fzs_ints, L2.atI, L2.ixN, D.fzs, D.fz, big, line, callF, prep, back, m0, m1, m2, m3, m4, m5, m6, m7, m8, m9, m10, m11, m12, m13, m14, m15, m16, m17, m18, m19, m20, m21, bSubI, bAddT, seqLT, fIfe, eqD_str, neD_str, neD_int]))
        have f3 := ok_frz (mem b (by simp [R.bind, evSs, evS, evO, evOs, evI, asgT, asgTs, sSeq, sAsg, sIf, sRet, sEx, sAugSub, sAug, taken, tst, fVar, fGlo, fBin, fCmp, fCmp2, fNeg, fNot, fAnd, fOr, fIfe, fDsp, fIdx, fSli, fRev, fBi, fCall, fIsi, fMet, gVar, gSub, gTup, gCons, gNil, fsCons, ofD, look, Sl.get, Opd.rd, Opd.rdk, Opd.take, rds, rdks, takes, box, D.frz, D.frzs, D.kids, cmpD, inD, getD?, sliD, sliC, optI, truth, biD, Bi.copies, runF, outsOf, enter, augD, setD, atP, Exps.plain, bAddI, bMulR, bMulL, bMod, bDiv, bPow, bPow39, bAddL, bAddS, eqD_int, frzs_ints, fzs_ints, L2.atI, L2.ixN, D.fzs, D.fz, big, line, callF, prep, back, m0, m1, m2, m3, m4, m5, m6, m7, m8, m9, m10, m11, m12, m13, m14, m15, m16, m17, m18, m19, m20, m21, bSubI, bAddT, seqLT, fIfe, eqD_str, neD_str, neD_int]))
        have f4 := ok_frz (mem c (by simp [R.bind, evSs, evS, evO, evOs, evI, asgT, asgTs, sSeq, sAsg, sIf, sRet, sEx, sAugSub, sAug, taken, tst, fVar, fGlo, fBin, fCmp, fCmp2, fNeg, fNot, fAnd, fOr, fIfe, fDsp, fIdx, fSli, fRev, fBi, fCall, fIsi, fMet, gVar, gSub, gTup, gCons, gNil, fsCons, ofD, look, Sl.get, Opd.rd, Opd.rdk, Opd.take, rds, rdks, takes, box, D.frz, D.frzs, D.kids, cmpD, inD, getD?, sliD, sliC, optI, truth, biD, Bi.copies, runF, outsOf, enter, augD, setD, atP, Exps.plain, bAddI, bMulR, bMulL, bMod, bDiv, bPow, bPow39, bAddL, bAddS, eqD_int, frzs_ints, fzs_ints, L2.atI, L2.ixN, D.fzs, D.fz, big, line, callF, prep, back, m0, m1, m2, m3, m4, m5, m6, m7, m8, m9, m10, m11, m12, m13, m14, m15, m16, m17, m18, m19, m20, m21, bSubI, bAddT, seqLT, fIfe, eqD_str, neD_str, neD_int]))
        have f5 := ok_frz (mem d (by simp [R.bind, evSs, evS, evO, evOs, evI, asgT, asgTs, sSeq, sAsg, sIf, sRet, sEx, sAugSub, sAug, taken, tst, fVar, fGlo, fBin, fCmp, fCmp2, fNeg, fNot, fAnd, fOr, fIfe, fDsp, fIdx, fSli, fRev, fBi, fCall, fIsi, fMet, gVar, gSub, gTup, gCons, gNil, fsCons, ofD, look, Sl.get, Opd.rd, Opd.rdk, Opd.take, rds, rdks, takes, box, D.frz, D.frzs, D.kids, cmpD, inD, getD?, sliD, sliC, optI, truth, biD, Bi.copies, runF, outsOf, enter, augD, setD, atP, Exps.plain, bAddI, bMulR, bMulL, bMod, bDiv, bPow, bPow39, bAddL, bAddS, eqD_int, frzs_ints, fzs_ints, L2.atI, L2.ixN, D.fzs, D.fz, big, line, callF, prep, back, m0, m1, m2, m3, m4, m5, m6, m7, m8, m9, m10, m11, m12, m13, m14, m15, m16, m17, m18, m19, m20, m21, bSubI, bAddT, seqLT, fIfe, eqD_str, neD_str, neD_int]))
        cases y with
        | str t =>
          cases ht : (t == ("if" : Str)) <;> simp [R.bind, evSs, evS, evO, evOs, evI, asgT, asgTs, sSeq, sAsg, sIf, sRet, sEx, sAugSub, sAug, taken, tst, fVar, fGlo, fBin, fCmp, fCmp2, fNeg, fNot, fAnd, fOr, fIfe, fDsp, fIdx, fSli, fRev, fBi, fCall, fIsi, fMet, gVar, gSub, gTup, gCons, gNil, fsCons, ofD, look, Sl.get, Opd.rd, Opd.rdk, Opd.take, rds, rdks, takes, box, D.frz, D.frzs, D.kids, cmpD, inD, getD?, sliD, sliC, optI, truth, biD, Bi.copies, runF, outsOf, enter, augD, setD, atP, Exps.plain, bAddI, bMulR, bMulL, bMod, bDiv, bPow, bPow39, bAddL, bAddS, eqD_int, frzs_ints, fzs_ints, L2.atI, L2.ixN, D.fzs, D.fz, big, line, callF, prep, back, m0, m1, m2, m3, m4, m5, m6, m7, m8, m9, m10, m11, m12, m13, m14, m15, m16, m17, m18, m19, m20, m21, bSubI, bAddT, seqLT, fIfe, eqD_str, neD_str, neD_int, isiD, isiV, begB, headIs, f2, f3, f4, f5, ht, endF]
        | clo p q => exact nomatch oy
        | _ => simp [R.bind, evSs, evS, evO, evOs, evI, asgT, asgTs, sSeq, sAsg, sIf, sRet, sEx, sAugSub, sAug, taken, tst, fVar, fGlo, fBin, fCmp, fCmp2, fNeg, fNot, fAnd, fOr, fIfe, fDsp, fIdx, fSli, fRev, fBi, fCall, fIsi, fMet, gVar, gSub, gTup, gCons, gNil, fsCons, ofD, look, Sl.get, Opd.rd, Opd.rdk, Opd.take, rds, rdks, takes, box, D.frz, D.frzs, D.kids, cmpD, inD, getD?, sliD, sliC, optI, truth, biD, Bi.copies, runF, outsOf, enter, augD, setD, atP, Exps.plain, bAddI, bMulR, bMulL, bMod, bDiv, bPow, bPow39, bAddL, bAddS, eqD_int, frzs_ints, fzs_ints, L2.atI, L2.ixN, D.fzs, D.fz, big, line, callF, prep, back, m0, m1, m2, m3, m4, m5, m6, m7, m8, m9, m10, m11, m12, m13, m14, m15, m16, m17, m18, m19, m20, m21, bSubI, bAddT, seqLT, fIfe, eqD_str, neD_str, neD_int, isiD, isiV, begB, headIs, f1, f2, f3, f4, f5, endF] at f1 ⊢; try simp [R.bind, evSs, evS, evO, evOs, evI, asgT, asgTs, sSeq, sAsg, sIf, sRet, sEx, sAugSub, sAug, taken, tst, fVar, fGlo, fBin, fCmp, fCmp2, fNeg, fNot, fAnd, fOr, fIfe, fDsp, fIdx, fSli, fRev, fBi, fCall, fIsi, fMet, gVar, gSub, gTup, gCons, gNil, fsCons, ofD, look, Sl.get, Opd.rd, Opd.rdk, Opd.take, rds, rdks, takes, box, D.frz, D.frzs, D.kids, cmpD, inD, getD?, sliD, sliC, optI, truth, biD, Bi.copies, runF, outsOf, enter, augD, setD, atP, Exps.plain, bAddI, bMulR, bMulL, bMod, bDiv, bPow, bPow39, bAddL, bAddS, eqD_int, frzs_ints, fzs_ints, L2.atI, L2.ixN, D.fzs, D.fz, big, line, callF, prep, back, m0, m1, m2, m3, m4, m5, m6, m7, m8, m9, m10, m11, m12, m13, m14, m15, m16, m17, m18, m19, m20, m21, bSubI, bAddT, seqLT, fIfe, eqD_str, neD_str, neD_int, f1, isiD, isiV]
    · have e : begB (.tup xs) "if" 5 = false := by simp [R.bind, evSs, evS, evO, evOs, evI, asgT, asgTs, sSeq, sAsg, sIf, sRet, sEx, sAugSub, sAug, taken, tst, fVar, fGlo, fBin, fCmp, fCmp2, fNeg, fNot, fAnd, fOr, fIfe, fDsp, fIdx, fSli, fRev, fBi, fCall, fIsi, fMet, gVar, gSub, gTup, gCons, gNil, fsCons, ofD, look, Sl.get, Opd.rd, Opd.rdk, Opd.take, rds, rdks, takes, box, D.frz, D.frzs, D.kids, cmpD, inD, getD?, sliD, sliC, optI, truth, biD, Bi.copies, runF, outsOf, enter, augD, setD, atP, Exps.plain, bAddI, bMulR, bMulL, bMod, bDiv, bPow, bPow39, bAddL, bAddS, eqD_int, frzs_ints, fzs_ints, L2.atI, L2.ixN, D.fzs, D.fz, big, line, callF, prep, back, m0, m1, m2, m3, m4, m5, m6, m7, m8, m9, m10, m11, m12, m13, m14, m15, m16, m17, m18, m19, m20, m21, bSubI, bAddT, seqLT, fIfe, eqD_str, neD_str, neD_int, begB, hl]
      have hl' : ¬ ((xs.length : Int) = 5) := by omega
      simp [R.bind, evSs, evS, evO, evOs, evI, asgT, asgTs, sSeq, sAsg, sIf, sRet, sEx, sAugSub, sAug, taken, tst, fVar, fGlo, fBin, fCmp, fCmp2, fNeg, fNot, fAnd, fOr, fIfe, fDsp, fIdx, fSli, fRev, fBi, fCall, fIsi, fMet, gVar, gSub, gTup, gCons, gNil, fsCons, ofD, look, Sl.get, Opd.rd, Opd.rdk, Opd.take, rds, rdks, takes, box, D.frz, D.frzs, D.kids, cmpD, inD, getD?, sliD, sliC, optI, truth, biD, Bi.copies, runF, outsOf, enter, augD, setD, atP, Exps.plain, bAddI, bMulR, bMulL, bMod, bDiv, bPow, bPow39, bAddL, bAddS, eqD_int, frzs_ints, fzs_ints, L2.atI, L2.ixN, D.fzs, D.fz, big, line, callF, prep, back, m0, m1, m2, m3, m4, m5, m6, m7, m8, m9, m10, m11, m12, m13, m14, m15, m16, m17, m18, m19, m20, m21, bSubI, bAddT, seqLT, fIfe, eqD_str, neD_str, neD_int, isiD, isiV, e, hl']
  · have e : begB x "if" 5 = false := by cases x <;> first | rfl | (simp [R.bind, evSs, evS, evO, evOs, evI, asgT, asgTs, sSeq, sAsg, sIf, sRet, sEx, sAugSub, sAug, taken, tst, fVar, fGlo, fBin, fCmp, fCmp2, fNeg, fNot, fAnd, fOr, fIfe, fDsp, fIdx, fSli, fRev, fBi, fCall, fIsi, fMet, gVar, gSub, gTup, gCons, gNil, fsCons, ofD, look, Sl.get, Opd.rd, Opd.rdk, Opd.take, rds, rdks, takes, box, D.frz, D.frzs, D.kids, cmpD, inD, getD?, sliD, sliC, optI, truth, biD, Bi.copies, runF, outsOf, enter, augD, setD, atP, Exps.plain, bAddI, bMulR, bMulL, bMod, bDiv, bPow, bPow39, bAddL, bAddS, eqD_int, frzs_ints, fzs_ints, L2.atI, L2.ixN, D.fzs, D.fz, big, line, callF, prep, back, m0, m1, m2, m3, m4, m5, m6, m7, m8, m9, m10, m11, m12, m13, m14, m15, m16, m17, m18, m19, m20, m21, bSubI, bAddT, seqLT, fIfe, eqD_str, neD_str, neD_int, isiD, isiV] at h)
    simp [R.bind, evSs, evS, evO, evOs, evI, asgT, asgTs, sSeq, sAsg, sIf, sRet, sEx, sAugSub, sAug, taken, tst, fVar, fGlo, fBin, fCmp, fCmp2, fNeg, fNot, fAnd, fOr, fIfe, fDsp, fIdx, fSli, fRev, fBi, fCall, fIsi, fMet, gVar, gSub, gTup, gCons, gNil, fsCons, ofD, look, Sl.get, Opd.rd, Opd.rdk, Opd.take, rds, rdks, takes, box, D.frz, D.frzs, D.kids, cmpD, inD, getD?, sliD, sliC, optI, truth, biD, Bi.copies, runF, outsOf, enter, augD, setD, atP, Exps.plain, bAddI, bMulR, bMulL, bMod, bDiv, bPow, bPow39, bAddL, bAddS, eqD_int, frzs_ints, fzs_ints, L2.atI, L2.ixN, D.fzs, D.fz, big, line, callF, prep, back, m0, m1, m2, m3, m4, m5, m6, m7, m8, m9, m10, m11, m12, m13, m14, m15, m16, m17, m18, m19, m20, m21, bSubI, bAddT, seqLT, fIfe, eqD_str, neD_str, neD_int, h, e]
end Law

set_option Elab.async false
set_option linter.all false
set_option maxRecDepth 100000
set_option maxHeartbeats 400000
namespace Law
open Z PySem

theorem ie1 (cf : Nat → List D → C) (x : D) (b : Bool) (hx : x.frz = x) (h : cf 14 [x] = .ok (.bl b) []) : evS txt.P cf [] (.ret (.app (.var 1) (.cons (.var 0) .nil))) [.v x, .v endF] = .ok (.rt (.bl b), [.v x, .v endF]) := by
  simp [R.bind, evSs, evS, evO, evOs, evI, asgT, asgTs, sSeq, sAsg, sIf, sRet, sEx, sAugSub, sAug, taken, tst, fVar, fGlo, fBin, fCmp, fCmp2, fNeg, fNot, fAnd, fOr, fIfe, fDsp, fIdx, fSli, fRev, fBi, fCall, fIsi, fMet, gVar, gSub, gTup, gCons, gNil, fsCons, ofD, look, Sl.get, Opd.rd, Opd.rdk, Opd.take, rds, rdks, takes, box, D.frz, D.frzs, D.kids, cmpD, inD, getD?, sliD, sliC, optI, truth, biD, Bi.copies, runF, outsOf, enter, augD, setD, atP, Exps.plain, bAddI, bMulR, bMulL, bMod, bDiv, bPow, bPow39, bAddL, bAddS, eqD_int, frzs_ints, fzs_ints, L2.atI, L2.ixN, D.fzs, D.fz, big, line, callF, prep, back, m0, m1, m2, m3, m4, m5, m6, m7, m8, m9, m10, m11, m12, m13, m14, m15, m16, m17, m18, m19, m20, m21, bSubI, bAddT, seqLT, fIfe, eqD_str, neD_str, neD_int, fApp, endF, nm_end, h, hx]
section
variable (cf : Nat → List D → C) (y a b c d : D)
theorem ie2 (ta tb : Bool) (f1 : y.frz = y) (f2 : a.frz = a) (f3 : b.frz = b) (f4 : c.frz = c) (f5 : d.frz = d) (ha : cf 12 [a] = .ok (.bl ta) []) (hb : cf 12 [b] = .ok (.bl tb) []) : tst (evO txt.P cf [] (.or (.not (.call 12 (.cons (.idx (.var 0) (.cst (.int 1))) .nil))) (.not (.call 12 (.cons (.idx (.var 0) (.cst (.int 2))) .nil))))) [.v (.tup [y, a, b, c, d]), .v endF] = .ok (!(ta && tb), [.v (.tup [y, a, b, c, d]), .v endF]) := by
  cases ta <;> cases tb <;> simp [R.bind, evSs, evS, evO, evOs, evI, asgT, asgTs, sSeq, sAsg, sIf, sRet, sEx, sAugSub, sAug, taken, tst, fVar, fGlo, fBin, fCmp, fCmp2, fNeg, fNot, fAnd, fOr, fIfe, fDsp, fIdx, fSli, fRev, fBi, fCall, fIsi, fMet, gVar, gSub, gTup, gCons, gNil, fsCons, ofD, look, Sl.get, Opd.rd, Opd.rdk, Opd.take, rds, rdks, takes, box, D.frz, D.frzs, D.kids, cmpD, inD, getD?, sliD, sliC, optI, truth, biD, Bi.copies, runF, outsOf, enter, augD, setD, atP, Exps.plain, bAddI, bMulR, bMulL, bMod, bDiv, bPow, bPow39, bAddL, bAddS, eqD_int, frzs_ints, fzs_ints, L2.atI, L2.ixN, D.fzs, D.fz, big, line, callF, prep, back, m0, m1, m2, m3, m4, m5, m6, m7, m8, m9, m10, m11, m12, m13, m14, m15, m16, m17, m18, m19, m20, m21, bSubI, bAddT, seqLT, fIfe, eqD_str, neD_str, neD_int, f1, f2, f3, f4, f5, ha, hb, endF]
theorem ie3 (tc td : Bool) (f1 : y.frz = y) (f2 : a.frz = a) (f3 : b.frz = b) (f4 : c.frz = c) (f5 : d.frz = d) (hc : cf 13 [c, endF] = .ok (.bl tc) []) (hd : cf 13 [d, endF] = .ok (.bl td) []) : evS txt.P cf [] (.ret (.and (.call 13 (.cons (.idx (.var 0) (.cst (.int 3))) (.cons (.var 1) .nil))) (.call 13 (.cons (.idx (.var 0) (.cst (.int 4))) (.cons (.var 1) .nil))))) [.v (.tup [y, a, b, c, d]), .v endF] = .ok (.rt (.bl (tc && td)), [.v (.tup [y, a, b, c, d]), .v endF]) := by
  simp only [endF] at hc hd
  cases tc <;> simp [R.bind, evSs, evS, evO, evOs, evI, asgT, asgTs, sSeq, sAsg, sIf, sRet, sEx, sAugSub, sAug, taken, tst, fVar, fGlo, fBin, fCmp, fCmp2, fNeg, fNot, fAnd, fOr, fIfe, fDsp, fIdx, fSli, fRev, fBi, fCall, fIsi, fMet, gVar, gSub, gTup, gCons, gNil, fsCons, ofD, look, Sl.get, Opd.rd, Opd.rdk, Opd.take, rds, rdks, takes, box, D.frz, D.frzs, D.kids, cmpD, inD, getD?, sliD, sliC, optI, truth, biD, Bi.copies, runF, outsOf, enter, augD, setD, atP, Exps.plain, bAddI, bMulR, bMulL, bMod, bDiv, bPow, bPow39, bAddL, bAddS, eqD_int, frzs_ints, fzs_ints, L2.atI, L2.ixN, D.fzs, D.fz, big, line, callF, prep, back, m0, m1, m2, m3, m4, m5, m6, m7, m8, m9, m10, m11, m12, m13, m14, m15, m16, m17, m18, m19, m20, m21, bSubI, bAddT, seqLT, fIfe, eqD_str, neD_str, neD_int, f1, f2, f3, f4, f5, hc, hd, endF]
end
theorem beg_if {x : D} {s : Str} (h : begB x s 5 = true) : ∃ t a b c d, x = .tup [.str t, a, b, c, d] ∧ (t == s) = true := by
  cases x with
  | tup xs =>
    simp only [begB, Bool.and_eq_true, decide_eq_true_eq] at h
    match xs, h.1 with
    | [y, a, b, c, d], _ =>
      cases y with
      | str t => exact ⟨t, a, b, c, d, rfl, h.2⟩
      | _ => exact nomatch h.2
  | _ => exact nomatch h
theorem codeB_no {E : D → Bool} : ∀ (n : Nat) (x : D), begB x "if" 5 = false → codeB E n x = E x
  | 0, _, _ => rfl
  | n + 1, x, h => by
    unfold codeB
    split
    · rename_i s a b c d
      have h : (s == ("if" : Str)) = false := by simpa [R.bind, evSs, evS, evO, evOs, evI, asgT, asgTs, sSeq, sAsg, sIf, sRet, sEx, sAugSub, sAug, taken, tst, fVar, fGlo, fBin, fCmp, fCmp2, fNeg, fNot, fAnd, fOr, fIfe, fDsp, fIdx, fSli, fRev, fBi, fCall, fIsi, fMet, gVar, gSub, gTup, gCons, gNil, fsCons, ofD, look, Sl.get, Opd.rd, Opd.rdk, Opd.take, rds, rdks, takes, box, D.frz, D.frzs, D.kids, cmpD, inD, getD?, sliD, sliC, optI, truth, biD, Bi.copies, runF, outsOf, enter, augD, setD, atP, Exps.plain, bAddI, bMulR, bMulL, bMod, bDiv, bPow, bPow39, bAddL, bAddS, eqD_int, frzs_ints, fzs_ints, L2.atI, L2.ixN, D.fzs, D.fz, big, line, callF, prep, back, m0, m1, m2, m3, m4, m5, m6, m7, m8, m9, m10, m11, m12, m13, m14, m15, m16, m17, m18, m19, m20, m21, bSubI, bAddT, seqLT, fIfe, eqD_str, neD_str, neD_int, begB, headIs] using h
      rw [h]
      rfl
    · rfl
theorem codeB_if {E : D → Bool} (n : Nat) {t : Str} (a b c d : D) (h : (t == ("if" : Str)) = true) : codeB E (n + 1) (.tup [.str t, a, b, c, d]) = ((termB a && termB b) && (codeB E n c && codeB E n d)) := by
  show (if (t == ("if" : Str)) = true then _ else _) = _
  rw [if_pos h]
theorem callI (n : Nat) (x : D) : callN txt.P txt.fs (n + 1) 13 [x, endF] = runF f13 (evSs txt.P (callN txt.P txt.fs n) [] f13.body [.v x, .v endF]) := by
  have e : enter (txt.P.mode.getD 13 []) [x, endF] ++ List.replicate (f13.ns - f13.np) Sl.no = [.v x, .v endF] := rfl
  have io : f13.io = [] := rfl
  rw [call_eq txt.P txt.fs n 13 [x, endF] f13 rfl rfl, e, io]
theorem in5 {m : Nat} {y a b c d : D} (ok : okD m (.tup [y, a, b, c, d]) = true) : okD m y = true ∧ okD m a = true ∧ okD m b = true ∧ okD m c = true ∧ okD m d = true := by
  have mem := okDs_iff.1 (show okDs m [y, a, b, c, d] = true by simpa [R.bind, evSs, evS, evO, evOs, evI, asgT, asgTs, sSeq, sAsg, sIf, sRet, sEx, sAugSub, sAug, taken, tst, fVar, fGlo, fBin, fCmp, fCmp2, fNeg, fNot, fAnd, fOr, fIfe, fDsp, fIdx, fSli, fRev, fBi, fCall, fIsi, fMet, gVar, gSub, gTup, gCons, gNil, fsCons, ofD, look, Sl.get, Opd.rd, Opd.rdk, Opd.take, rds, rdks, takes, box, D.frz, D.frzs, D.kids, cmpD, inD, getD?, sliD, sliC, optI, truth, biD, Bi.copies, runF, outsOf, enter, augD, setD, atP, Exps.plain, bAddI, bMulR, bMulL, bMod, bDiv, bPow, bPow39, bAddL, bAddS, eqD_int, frzs_ints, fzs_ints, L2.atI, L2.ixN, D.fzs, D.fz, big, line, callF, prep, back, m0, m1, m2, m3, m4, m5, m6, m7, m8, m9, m10, m11, m12, m13, m14, m15, m16, m17, m18, m19, m20, m21, bSubI, bAddT, seqLT, fIfe, eqD_str, neD_str, neD_int, okD] using ok)
  exact ⟨mem y (by simp [R.bind, evSs, evS, evO, evOs, evI, asgT, asgTs, sSeq, sAsg, sIf, sRet, sEx, sAugSub, sAug, taken, tst, fVar, fGlo, fBin, fCmp, fCmp2, fNeg, fNot, fAnd, fOr, fIfe, fDsp, fIdx, fSli, fRev, fBi, fCall, fIsi, fMet, gVar, gSub, gTup, gCons, gNil, fsCons, ofD, look, Sl.get, Opd.rd, Opd.rdk, Opd.take, rds, rdks, takes, box, D.frz, D.frzs, D.kids, cmpD, inD, getD?, sliD, sliC, optI, truth, biD, Bi.copies, runF, outsOf, enter, augD, setD, atP, Exps.plain, bAddI, bMulR, bMulL, bMod, bDiv, bPow, bPow39, bAddL, bAddS, eqD_int, frzs_ints, fzs_ints, L2.atI, L2.ixN, D.fzs, D.fz, big, line, callF, prep, back, m0, m1, m2, m3, m4, m5, m6, m7, m8, m9, m10, m11, m12, m13, m14, m15, m16, m17, m18, m19, m20, m21, bSubI, bAddT, seqLT, fIfe, eqD_str, neD_str, neD_int]), mem a (by simp [R.bind, evSs, evS, evO, evOs, evI, asgT, asgTs, sSeq, sAsg, sIf, sRet, sEx, sAugSub, sAug, taken, tst, fVar, fGlo, fBin, fCmp, fCmp2, fNeg, fNot, fAnd, fOr, fIfe, fDsp, fIdx, fSli, fRev, fBi, fCall, fIsi, fMet, gVar, gSub, gTup, gCons, gNil, fsCons, ofD, look, Sl.get, Opd.rd, Opd.rdk, Opd.take, rds, rdks, takes, box, D.frz, D.frzs, D.kids, cmpD, inD, getD?, sliD, sliC, optI, truth, biD, Bi.copies, runF, outsOf, enter, augD, setD, atP, Exps.plain, bAddI, bMulR, bMulL, bMod, bDiv, bPow, bPow39, bAddL, bAddS, eqD_int, frzs_ints, fzs_ints, L2.atI, L2.ixN, D.fzs, D.fz, big, line, callF, prep, back, m0, m1, m2, m3, m4, m5, m6, m7, m8, m9, m10, m11, m12, m13, m14, m15, m16, m17, m18, m19, m20, m21, bSubI, bAddT, seqLT, fIfe, eqD_str, neD_str, neD_int]), mem b (by simp [R.bind, evSs, evS, evO, evOs, evI, asgT, asgTs, sSeq, sAsg, sIf, sRet, sEx, sAugSub, sAug, taken, tst, fVar, fGlo, fBin, fCmp, fCmp2, fNeg, fNot, fAnd, fOr, fIfe, fDsp, fIdx, fSli, fRev, fBi, fCall, fIsi, fMet, gVar, gSub, gTup, gCons, gNil, fsCons, ofD, look, Sl.get, Opd.rd, Opd.rdk, Opd.take, rds, rdks, takes, box, D.frz, D.frzs, D.kids, cmpD, inD, getD?, sliD, sliC, optI, truth, biD, Bi.copies, runF, outsOf, enter, augD, setD, atP, Exps.plain, bAddI, bMulR, bMulL, bMod, bDiv, bPow, bPow39, bAddL, bAddS, eqD_int, frzs_ints, fzs_ints, L2.atI, L2.ixN, D.fzs, D.fz, big, line, callF, prep, back, m0, m1, m2, m3, m4, m5, m6, m7, m8, m9, m10, m11, m12, m13, m14, m15, m16, m17, m18, m19, m20, m21, bSubI, bAddT, seqLT, fIfe, eqD_str, neD_str, neD_int]), mem c (by simp [R.bind, evSs, evS, evO, evOs, evI, asgT, asgTs, sSeq, sAsg, sIf, sRet, sEx, sAugSub, sAug, taken, tst, fVar, fGlo, fBin, fCmp, fCmp2, fNeg, fNot, fAnd, fOr, fIfe, fDsp, fIdx, fSli, fRev, fBi, fCall, fIsi, fMet, gVar, gSub, gTup, gCons, gNil, fsCons, ofD, look, Sl.get, Opd.rd, Opd.rdk, Opd.take, rds, rdks, takes, box, D.frz, D.frzs, D.kids, cmpD, inD, getD?, sliD, sliC, optI, truth, biD, Bi.copies, runF, outsOf, enter, augD, setD, atP, Exps.plain, bAddI, bMulR, bMulL, bMod, bDiv, bPow, bPow39, bAddL, bAddS, eqD_int, frzs_ints, fzs_ints, L2.atI, L2.ixN, D.fzs, D.fz, big, line, callF, prep, back, m0, m1, m2, m3, m4, m5, m6, m7, m8, m9, m10, m11, m12, m13, m14, m15, m16, m17, m18, m19, m20, m21, bSubI, bAddT, seqLT, fIfe, eqD_str, neD_str, neD_int]), mem d (by simp [R.bind, evSs, evS, evO, evOs, evI, asgT, asgTs, sSeq, sAsg, sIf, sRet, sEx, sAugSub, sAug, taken, tst, fVar, fGlo, fBin, fCmp, fCmp2, fNeg, fNot, fAnd, fOr, fIfe, fDsp, fIdx, fSli, fRev, fBi, fCall, fIsi, fMet, gVar, gSub, gTup, gCons, gNil, fsCons, ofD, look, Sl.get, Opd.rd, Opd.rdk, Opd.take, rds, rdks, takes, box, D.frz, D.frzs, D.kids, cmpD, inD, getD?, sliD, sliC, optI, truth, biD, Bi.copies, runF, outsOf, enter, augD, setD, atP, Exps.plain, bAddI, bMulR, bMulL, bMod, bDiv, bPow, bPow39, bAddL, bAddS, eqD_int, frzs_ints, fzs_ints, L2.atI, L2.ixN, D.fzs, D.fz, big, line, callF, prep, back, m0, m1, m2, m3, m4, m5, m6, m7, m8, m9, m10, m11, m12, m13, m14, m15, m16, m17, m18, m19, m20, m21, bSubI, bAddT, seqLT, fIfe, eqD_str, neD_str, neD_int])⟩
theorem ending_ok (E : D → Bool) (hE : ∀ (n : Nat) (x : D), okD 100 x = true → x.depth ≤ n → wt x ≤ 200000 → callN txt.P txt.fs (n + 4) 14 [x] = .ok (.bl (E x)) []) : ∀ (n : Nat) (x : D), okD 100 x = true → x.depth ≤ n → wt x ≤ 200000 → callN txt.P txt.fs (n + 5) 13 [x, endF] = .ok (.bl (codeB E n x)) [] := by
  intro n
  induction n with
  | zero =>
    intro x ok hd hw
    have nb : begB x "if" 5 = false := by
      cases x with
      | tup xs => simp [R.bind, evSs, evS, evO, evOs, evI, asgT, asgTs, sSeq, sAsg, sIf, sRet, sEx, sAugSub, sAug, taken, tst, fVar, fGlo, fBin, fCmp, fCmp2, fNeg, fNot, fAnd, fOr, fIfe, fDsp, fIdx, fSli, fRev, fBi, fCall, fIsi, fMet, gVar, gSub, gTup, gCons, gNil, fsCons, ofD, look, Sl.get, Opd.rd, Opd.rdk, Opd.take, rds, rdks, takes, box, D.frz, D.frzs, D.kids, cmpD, inD, getD?, sliD, sliC, optI, truth, biD, Bi.copies, runF, outsOf, enter, augD, setD, atP, Exps.plain, bAddI, bMulR, bMulL, bMod, bDiv, bPow, bPow39, bAddL, bAddS, eqD_int, frzs_ints, fzs_ints, L2.atI, L2.ixN, D.fzs, D.fz, big, line, callF, prep, back, m0, m1, m2, m3, m4, m5, m6, m7, m8, m9, m10, m11, m12, m13, m14, m15, m16, m17, m18, m19, m20, m21, bSubI, bAddT, seqLT, fIfe, eqD_str, neD_str, neD_int, D.depth] at hd
      | _ => rfl
    have c0 := ie0 (callN txt.P txt.fs 4) x ok
    rw [nb] at c0
    have bd : f13.body = .cons (.ifS (.or (.not (.isi (.var 0) .tup)) (.or (.cmp .ne (.bi .len (.cons (.var 0) .nil)) (.cst (.int 5))) (.or (.not (.isi (.idx (.var 0) (.cst (.int 0))) .str)) (.cmp .ne (.idx (.var 0) (.cst (.int 0))) (.cst (.str "if")))))) (.cons (.ret (.app (.var 1) (.cons (.var 0) .nil))) .nil) .nil) (.cons (.ifS (.or (.not (.call 12 (.cons (.idx (.var 0) (.cst (.int 1))) .nil))) (.not (.call 12 (.cons (.idx (.var 0) (.cst (.int 2))) .nil)))) (.cons (.ret (.cst (.bl false))) .nil) .nil) (.cons (.ret (.and (.call 13 (.cons (.idx (.var 0) (.cst (.int 3))) (.cons (.var 1) .nil))) (.call 13 (.cons (.idx (.var 0) (.cst (.int 4))) (.cons (.var 1) .nil))))) .nil)) := rfl
    rw [show 0 + 5 = 4 + 1 from rfl, callI, bd, bR ((sT c0).trans (bR (ie1 _ x (E x) (ok_frz ok) (hE 0 x ok hd hw))))]
    exact runE _ _ _ rfl
  | succ n ih =>
    intro x ok hd hw
    have c0 := ie0 (callN txt.P txt.fs (n + 5)) x ok
    have bd : f13.body = .cons (.ifS (.or (.not (.isi (.var 0) .tup)) (.or (.cmp .ne (.bi .len (.cons (.var 0) .nil)) (.cst (.int 5))) (.or (.not (.isi (.idx (.var 0) (.cst (.int 0))) .str)) (.cmp .ne (.idx (.var 0) (.cst (.int 0))) (.cst (.str "if")))))) (.cons (.ret (.app (.var 1) (.cons (.var 0) .nil))) .nil) .nil) (.cons (.ifS (.or (.not (.call 12 (.cons (.idx (.var 0) (.cst (.int 1))) .nil))) (.not (.call 12 (.cons (.idx (.var 0) (.cst (.int 2))) .nil)))) (.cons (.ret (.cst (.bl false))) .nil) .nil) (.cons (.ret (.and (.call 13 (.cons (.idx (.var 0) (.cst (.int 3))) (.cons (.var 1) .nil))) (.call 13 (.cons (.idx (.var 0) (.cst (.int 4))) (.cons (.var 1) .nil))))) .nil)) := rfl
    cases hb : begB x "if" 5 with
    | false =>
      rw [hb] at c0
      rw [codeB_no _ _ hb]
      rw [show n + 1 + 5 = (n + 5) + 1 by omega, callI, bd, bR ((sT c0).trans (bR (ie1 _ x (E x) (ok_frz ok) (hE (n + 1) x ok hd hw))))]
      exact runE _ _ _ rfl
    | true =>
      rw [hb] at c0
      obtain ⟨t, a, b, c, d, rfl, ht⟩ := beg_if hb
      obtain ⟨oy, oa, ob, oc, od⟩ := in5 ok
      simp only [D.depth, D.depths] at hd
      simp only [wt, wts] at hw
      have ha := trm2 (n + 3) a oa (by omega) (by omega)
      have hbb := trm2 (n + 3) b ob (by omega) (by omega)
      have hc := ih c oc (by omega) (by omega)
      have hdd := ih d od (by omega) (by omega)
      rw [codeB_if n a b c d ht]
      have c1 := ie2 (callN txt.P txt.fs (n + 5)) (.str t) a b c d (termB a) (termB b) (ok_frz oy) (ok_frz oa) (ok_frz ob) (ok_frz oc) (ok_frz od) ha hbb
      rw [show n + 1 + 5 = (n + 5) + 1 by omega, callI, bd, bN (sF c0)]
      cases hab : (termB a && termB b) with
      | false =>
        rw [hab] at c1
        rw [bR ((sT c1).trans (bR (show evS txt.P (callN txt.P txt.fs (n + 5)) [] (.ret (.cst (.bl false))) _ = .ok (.rt (.bl false), _) from rfl)))]
        exact runE _ _ _ rfl
      | true =>
        rw [hab] at c1
        rw [bN (sF c1), bR (ie3 _ (.str t) a b c d _ _ (ok_frz oy) (ok_frz oa) (ok_frz ob) (ok_frz oc) (ok_frz od) hc hdd)]
        exact runE _ _ _ rfl
end Law

set_option Elab.async false
set_option linter.all false
set_option maxRecDepth 100000
set_option maxHeartbeats 400000
namespace Law
open Z PySem

/-! ## k13: guards and facts -/
theorem beq_sym (a b : Str) : (a == b) = (b == a) := by
  rw [Bool.eq_iff_iff]
  simp only [beq_iff_eq]
  exact eq_comm
def wordB (x : D) : Bool := begB x "yes" 1 || begB x "no" 1
theorem in_pair {s a b : Str} (hs : Asc s) (ha : Asc a) (hb : Asc b) : inD (.str s) (.tup [.str a, .str b]) = some (s == a || s == b) := by
  have h : ([.str a, .str b] : List D).all isFlat = true := rfl
  have sh : D.shp (.tup [.str a, .str b]) = some (.tuple [.str a, .str b]) := shp_tup [a, b] (by
    intro z hz
    simp only [List.mem_cons, List.not_mem_nil, or_false] at hz
    rcases hz with rfl | rfl
    · exact ha
    · exact hb)
  have e : ([PyData.str a, PyData.str b].any fun z => PyData.eqv z (.str s)) = (s == a || s == b) := by
    simp only [List.any_cons, List.any_nil, eqv_str, Bool.or_false, beq_sym a s, beq_sym b s]
  simp only [inD, shp_str hs, sh, e, h, isFlat, Bool.and_self, if_true]
theorem ok_asc1 {m : Nat} {s : Str} (h : okD m (.str s) = true) : Asc s := by
  simp only [okD, ascB, Bool.and_eq_true] at h
  exact h.2
theorem iw0 (cf : Nat → List D → C) (x : D) (ok : okD 100 x = true) : evS txt.P cf [] (.ret (.and (.isi (.var 0) .tup) (.and (.cmp .eq (.bi .len (.cons (.var 0) .nil)) (.cst (.int 1))) (.and (.isi (.idx (.var 0) (.cst (.int 0))) .str) (.cmp .inn (.idx (.var 0) (.cst (.int 0))) (.tup (.cons (.cst (.str "yes")) (.cons (.cst (.str "no")) .nil)))))))) [.v x] = .ok (.rt (.bl (wordB x)), [.v x]) := by
  rcases isi_tup ok with ⟨xs, rfl⟩ | h
  · by_cases hl : xs.length = 1
    · match xs, hl with
      | [y], _ =>
        have oy := okDs_iff.1 (show okDs 100 [y] = true by simpa [R.bind, evSs, evS, evO, evOs, evI, asgT, asgTs, sSeq, sAsg, sIf, sRet, sEx, sAugSub, sAug, taken, tst, fVar, fGlo, fBin, fCmp, fCmp2, fNeg, fNot, fAnd, fOr, fIfe, fDsp, fIdx, fSli, fRev, fBi, fCall, fIsi, fMet, gVar, gSub, gTup, gCons, gNil, fsCons, ofD, look, Sl.get, Opd.rd, Opd.rdk, Opd.take, rds, rdks, takes, box, D.frz, D.frzs, D.kids, cmpD, inD, getD?, sliD, sliC, optI, truth, biD, Bi.copies, runF, outsOf, enter, augD, setD, atP, Exps.plain, bAddI, bMulR, bMulL, bMod, bDiv, bPow, bPow39, bAddL, bAddS, eqD_int, frzs_ints, fzs_ints, L2.atI, L2.ixN, D.fzs, D.fz, big, line, callF, prep, back, m0, m1, m2, m3, m4, m5, m6, m7, m8, m9, m10, m11, m12, m13, m14, m15, m16, m17, m18, m19, m20, m21, bSubI, bAddT, seqLT, fIfe, eqD_str, neD_str, neD_int, okD] using ok) y (by simp [R.bind, evSs, evS, evO, evOs, evI, asgT, asgTs, sSeq, sAsg, sIf, sRet, sEx, sAugSub, sAug, taken, tst, fVar, fGlo, fBin, fCmp, fCmp2, fNeg, fNot, fAnd, fOr, fIfe, fDsp, fIdx, fSli, fRev, fBi, fCall, fIsi, fMet, gVar, gSub, gTup, gCons, gNil, fsCons, ofD, look, Sl.get, Opd.rd, Opd.rdk, Opd.take, rds, rdks, takes, box, D.frz, D.frzs, D.kids, cmpD, inD, getD?, sliD, sliC, optI, truth, biD, Bi.copies, runF, outsOf, enter, augD, setD, atP, Exps.plain, bAddI, bMulR, bMulL, bMod, bDiv, bPow, bPow39, bAddL, bAddS, eqD_int, frzs_ints, fzs_ints, L2.atI, L2.ixN, D.fzs, D.fz, big, line, callF, prep, back, m0, m1, m2, m3, m4, m5, m6, m7, m8, m9, m10, m11, m12, m13, m14, m15, m16, m17, m18, m19, m20, m21, bSubI, bAddT, seqLT, fIfe, eqD_str, neD_str, neD_int])
        have f1 := ok_frz oy
        cases y with
        | str t =>
          have i := in_pair (ok_asc1 oy) (show Asc "yes" by unfold Asc; decide +kernel) (show Asc "no" by unfold Asc; decide +kernel)
          simp [R.bind, evSs, evS, evO, evOs, evI, asgT, asgTs, sSeq, sAsg, sIf, sRet, sEx, sAugSub, sAug, taken, tst, fVar, fGlo, fBin, fCmp, fCmp2, fNeg, fNot, fAnd, fOr, fIfe, fDsp, fIdx, fSli, fRev, fBi, fCall, fIsi, fMet, gVar, gSub, gTup, gCons, gNil, fsCons, ofD, look, Sl.get, Opd.rd, Opd.rdk, Opd.take, rds, rdks, takes, box, D.frz, D.frzs, D.kids, cmpD, getD?, sliD, sliC, optI, truth, biD, Bi.copies, runF, outsOf, enter, augD, setD, atP, Exps.plain, bAddI, bMulR, bMulL, bMod, bDiv, bPow, bPow39, bAddL, bAddS, eqD_int, frzs_ints, fzs_ints, L2.atI, L2.ixN, D.fzs, D.fz, big, line, callF, prep, back, m0, m1, m2, m3, m4, m5, m6, m7, m8, m9, m10, m11, m12, m13, m14, m15, m16, m17, m18, m19, m20, m21, bSubI, bAddT, seqLT, fIfe, eqD_str, neD_str, neD_int, isiD, isiV, wordB, begB, headIs, i]
        | clo p q => exact nomatch oy
        | _ => simp [R.bind, evSs, evS, evO, evOs, evI, asgT, asgTs, sSeq, sAsg, sIf, sRet, sEx, sAugSub, sAug, taken, tst, fVar, fGlo, fBin, fCmp, fCmp2, fNeg, fNot, fAnd, fOr, fIfe, fDsp, fIdx, fSli, fRev, fBi, fCall, fIsi, fMet, gVar, gSub, gTup, gCons, gNil, fsCons, ofD, look, Sl.get, Opd.rd, Opd.rdk, Opd.take, rds, rdks, takes, box, D.frz, D.frzs, D.kids, cmpD, inD, getD?, sliD, sliC, optI, truth, biD, Bi.copies, runF, outsOf, enter, augD, setD, atP, Exps.plain, bAddI, bMulR, bMulL, bMod, bDiv, bPow, bPow39, bAddL, bAddS, eqD_int, frzs_ints, fzs_ints, L2.atI, L2.ixN, D.fzs, D.fz, big, line, callF, prep, back, m0, m1, m2, m3, m4, m5, m6, m7, m8, m9, m10, m11, m12, m13, m14, m15, m16, m17, m18, m19, m20, m21, bSubI, bAddT, seqLT, fIfe, eqD_str, neD_str, neD_int, isiD, isiV, wordB, begB, headIs, f1] at f1 ⊢; try simp [R.bind, evSs, evS, evO, evOs, evI, asgT, asgTs, sSeq, sAsg, sIf, sRet, sEx, sAugSub, sAug, taken, tst, fVar, fGlo, fBin, fCmp, fCmp2, fNeg, fNot, fAnd, fOr, fIfe, fDsp, fIdx, fSli, fRev, fBi, fCall, fIsi, fMet, gVar, gSub, gTup, gCons, gNil, fsCons, ofD, look, Sl.get, Opd.rd, Opd.rdk, Opd.take, rds, rdks, takes, box, D.frz, D.frzs, D.kids, cmpD, inD, getD?, sliD, sliC, optI, truth, biD, Bi.copies, runF, outsOf, enter, augD, setD, atP, Exps.plain, bAddI, bMulR, bMulL, bMod, bDiv, bPow, bPow39, bAddL, bAddS, eqD_int, frzs_ints, fzs_ints, L2.atI, L2.ixN, D.fzs, D.fz, big, line, callF, prep, back, m0, m1, m2, m3, m4, m5, m6, m7, m8, m9, m10, m11, m12, m13, m14, m15, m16, m17, m18, m19, m20, m21, bSubI, bAddT, seqLT, fIfe, eqD_str, neD_str, neD_int, f1, isiD, isiV]
    · have hl' : ¬ ((xs.length : Int) = 1) := by omega
      simp [R.bind, evSs, evS, evO, evOs, evI, asgT, asgTs, sSeq, sAsg, sIf, sRet, sEx, sAugSub, sAug, taken, tst, fVar, fGlo, fBin, fCmp, fCmp2, fNeg, fNot, fAnd, fOr, fIfe, fDsp, fIdx, fSli, fRev, fBi, fCall, fIsi, fMet, gVar, gSub, gTup, gCons, gNil, fsCons, ofD, look, Sl.get, Opd.rd, Opd.rdk, Opd.take, rds, rdks, takes, box, D.frz, D.frzs, D.kids, cmpD, inD, getD?, sliD, sliC, optI, truth, biD, Bi.copies, runF, outsOf, enter, augD, setD, atP, Exps.plain, bAddI, bMulR, bMulL, bMod, bDiv, bPow, bPow39, bAddL, bAddS, eqD_int, frzs_ints, fzs_ints, L2.atI, L2.ixN, D.fzs, D.fz, big, line, callF, prep, back, m0, m1, m2, m3, m4, m5, m6, m7, m8, m9, m10, m11, m12, m13, m14, m15, m16, m17, m18, m19, m20, m21, bSubI, bAddT, seqLT, fIfe, eqD_str, neD_str, neD_int, isiD, isiV, wordB, begB, hl, hl']
  · have e : wordB x = false := by cases x <;> first | rfl | (simp [R.bind, evSs, evS, evO, evOs, evI, asgT, asgTs, sSeq, sAsg, sIf, sRet, sEx, sAugSub, sAug, taken, tst, fVar, fGlo, fBin, fCmp, fCmp2, fNeg, fNot, fAnd, fOr, fIfe, fDsp, fIdx, fSli, fRev, fBi, fCall, fIsi, fMet, gVar, gSub, gTup, gCons, gNil, fsCons, ofD, look, Sl.get, Opd.rd, Opd.rdk, Opd.take, rds, rdks, takes, box, D.frz, D.frzs, D.kids, cmpD, inD, getD?, sliD, sliC, optI, truth, biD, Bi.copies, runF, outsOf, enter, augD, setD, atP, Exps.plain, bAddI, bMulR, bMulL, bMod, bDiv, bPow, bPow39, bAddL, bAddS, eqD_int, frzs_ints, fzs_ints, L2.atI, L2.ixN, D.fzs, D.fz, big, line, callF, prep, back, m0, m1, m2, m3, m4, m5, m6, m7, m8, m9, m10, m11, m12, m13, m14, m15, m16, m17, m18, m19, m20, m21, bSubI, bAddT, seqLT, fIfe, eqD_str, neD_str, neD_int, isiD, isiV] at h)
    simp [R.bind, evSs, evS, evO, evOs, evI, asgT, asgTs, sSeq, sAsg, sIf, sRet, sEx, sAugSub, sAug, taken, tst, fVar, fGlo, fBin, fCmp, fCmp2, fNeg, fNot, fAnd, fOr, fIfe, fDsp, fIdx, fSli, fRev, fBi, fCall, fIsi, fMet, gVar, gSub, gTup, gCons, gNil, fsCons, ofD, look, Sl.get, Opd.rd, Opd.rdk, Opd.take, rds, rdks, takes, box, D.frz, D.frzs, D.kids, cmpD, inD, getD?, sliD, sliC, optI, truth, biD, Bi.copies, runF, outsOf, enter, augD, setD, atP, Exps.plain, bAddI, bMulR, bMulL, bMod, bDiv, bPow, bPow39, bAddL, bAddS, eqD_int, frzs_ints, fzs_ints, L2.atI, L2.ixN, D.fzs, D.fz, big, line, callF, prep, back, m0, m1, m2, m3, m4, m5, m6, m7, m8, m9, m10, m11, m12, m13, m14, m15, m16, m17, m18, m19, m20, m21, bSubI, bAddT, seqLT, fIfe, eqD_str, neD_str, neD_int, h, e]
theorem word_ok (n : Nat) (x : D) (ok : okD 100 x = true) (hd : x.depth ≤ n) (hw : wt x ≤ 200000) : callN txt.P txt.fs (n + 4) 14 [x] = .ok (.bl (wordB x)) [] := by
  have e : enter (txt.P.mode.getD 14 []) [x] ++ List.replicate (f14.ns - f14.np) Sl.no = [.v x] := rfl
  have io : f14.io = [] := rfl
  have bd : f14.body = .cons (.ret (.and (.isi (.var 0) .tup) (.and (.cmp .eq (.bi .len (.cons (.var 0) .nil)) (.cst (.int 1))) (.and (.isi (.idx (.var 0) (.cst (.int 0))) .str) (.cmp .inn (.idx (.var 0) (.cst (.int 0))) (.tup (.cons (.cst (.str "yes")) (.cons (.cst (.str "no")) .nil)))))))) .nil := rfl
  rw [call_eq txt.P txt.fs (n + 3) 14 [x] f14 rfl rfl, e, io, bd, bR (iw0 _ x ok)]
  exact runE _ _ _ rfl
theorem end_ok : ∀ (n : Nat) (x : D), okD 100 x = true → x.depth ≤ n → wt x ≤ 200000 → callN txt.P txt.fs (n + 5) 13 [x, endF] = .ok (.bl (codeB wordB n x)) [] :=
  ending_ok wordB word_ok
/-! ### the program's guards -/
theorem gd0 (cf : Nat → List D → C) (x : D) (a b : Bool) (hx : x.frz = x) (h1 : cf 2 [x, .str "yes", .int ((1 : Nat) : Int)] = .ok (.bl a) []) (h2 : cf 2 [x, .str "no", .int ((1 : Nat) : Int)] = .ok (.bl b) []) : tst (evO txt.P cf [] (.or (.call 2 (.cons (.var 0) (.cons (.cst (.str "yes")) (.cons (.cst (.int 1)) .nil)))) (.call 2 (.cons (.var 0) (.cons (.cst (.str "no")) (.cons (.cst (.int 1)) .nil)))))) [.v x] = .ok (a || b, [.v x]) := by
  have h1 : cf 2 [x, .str "yes", .int 1] = .ok (.bl a) [] := h1
  have h2 : cf 2 [x, .str "no", .int 1] = .ok (.bl b) [] := h2
  cases a <;> simp [R.bind, evSs, evS, evO, evOs, evI, asgT, asgTs, sSeq, sAsg, sIf, sRet, sEx, sAugSub, sAug, taken, tst, fVar, fGlo, fBin, fCmp, fCmp2, fNeg, fNot, fAnd, fOr, fIfe, fDsp, fIdx, fSli, fRev, fBi, fCall, fIsi, fMet, gVar, gSub, gTup, gCons, gNil, fsCons, ofD, look, Sl.get, Opd.rd, Opd.rdk, Opd.take, rds, rdks, takes, box, D.frz, D.frzs, D.kids, cmpD, inD, getD?, sliD, sliC, optI, truth, biD, Bi.copies, runF, outsOf, enter, augD, setD, atP, Exps.plain, bAddI, bMulR, bMulL, bMod, bDiv, bPow, bPow39, bAddL, bAddS, eqD_int, frzs_ints, fzs_ints, L2.atI, L2.ixN, D.fzs, D.fz, big, line, callF, prep, back, m0, m1, m2, m3, m4, m5, m6, m7, m8, m9, m10, m11, m12, m13, m14, m15, m16, m17, m18, m19, m20, m21, bSubI, bAddT, seqLT, fIfe, eqD_str, neD_str, neD_int, hx, h1, h2]
theorem gd2 (cf : Nat → List D → C) (x : D) (hx : x.frz = x) (h : cf 2 [x, .str "if", .int ((5 : Nat) : Int)] = .ok (.bl false) []) : evS txt.P cf [] (.ret (.and (.call 2 (.cons (.var 0) (.cons (.cst (.str "if")) (.cons (.cst (.int 5)) .nil)))) (.and (.call 3 (.cons (.sli (.var 0) (.cst (.int 1)) (.cst (.int 3))) .nil)) (.and (.call 4 (.cons (.idx (.var 0) (.cst (.int 3))) .nil)) (.call 4 (.cons (.idx (.var 0) (.cst (.int 4))) .nil)))))) [.v x] = .ok (.rt (.bl false), [.v x]) := by
  have h : cf 2 [x, .str "if", .int 5] = .ok (.bl false) [] := h
  simp [R.bind, evSs, evS, evO, evOs, evI, asgT, asgTs, sSeq, sAsg, sIf, sRet, sEx, sAugSub, sAug, taken, tst, fVar, fGlo, fBin, fCmp, fCmp2, fNeg, fNot, fAnd, fOr, fIfe, fDsp, fIdx, fSli, fRev, fBi, fCall, fIsi, fMet, gVar, gSub, gTup, gCons, gNil, fsCons, ofD, look, Sl.get, Opd.rd, Opd.rdk, Opd.take, rds, rdks, takes, box, D.frz, D.frzs, D.kids, cmpD, inD, getD?, sliD, sliC, optI, truth, biD, Bi.copies, runF, outsOf, enter, augD, setD, atP, Exps.plain, bAddI, bMulR, bMulL, bMod, bDiv, bPow, bPow39, bAddL, bAddS, eqD_int, frzs_ints, fzs_ints, L2.atI, L2.ixN, D.fzs, D.fz, big, line, callF, prep, back, m0, m1, m2, m3, m4, m5, m6, m7, m8, m9, m10, m11, m12, m13, m14, m15, m16, m17, m18, m19, m20, m21, bSubI, bAddT, seqLT, fIfe, eqD_str, neD_str, neD_int, hx, h]
theorem cut13 (y a b c d : D) : cutD [y, a, b, c, d] (some 1) (some 3) = [a, b] := rfl
theorem gd3 (cf : Nat → List D → C) (y a b c d : D) (tab tc td : Bool) (f1 : y.frz = y) (f2 : a.frz = a) (f3 : b.frz = b) (f4 : c.frz = c) (f5 : d.frz = d) (z1 : y.fz = true) (z2 : a.fz = true) (z3 : b.fz = true) (z4 : c.fz = true) (z5 : d.fz = true) (h : cf 2 [.tup [y, a, b, c, d], .str "if", .int ((5 : Nat) : Int)] = .ok (.bl true) []) (hab : cf 3 [.tup [a, b]] = .ok (.bl tab) []) (hc : cf 4 [c] = .ok (.bl tc) []) (hd : cf 4 [d] = .ok (.bl td) []) :
    evS txt.P cf [] (.ret (.and (.call 2 (.cons (.var 0) (.cons (.cst (.str "if")) (.cons (.cst (.int 5)) .nil)))) (.and (.call 3 (.cons (.sli (.var 0) (.cst (.int 1)) (.cst (.int 3))) .nil)) (.and (.call 4 (.cons (.idx (.var 0) (.cst (.int 3))) .nil)) (.call 4 (.cons (.idx (.var 0) (.cst (.int 4))) .nil)))))) [.v (.tup [y, a, b, c, d])] = .ok (.rt (.bl (tab && (tc && td))), [.v (.tup [y, a, b, c, d])]) := by
  have h : cf 2 [.tup [y, a, b, c, d], .str "if", .int 5] = .ok (.bl true) [] := h
  have q := cut13 y a b c d
  cases tab <;> cases tc <;> simp [R.bind, evSs, evS, evO, evOs, evI, asgT, asgTs, sSeq, sAsg, sIf, sRet, sEx, sAugSub, sAug, taken, tst, fVar, fGlo, fBin, fCmp, fCmp2, fNeg, fNot, fAnd, fOr, fIfe, fDsp, fIdx, fSli, fRev, fBi, fCall, fIsi, fMet, gVar, gSub, gTup, gCons, gNil, fsCons, ofD, look, Sl.get, Opd.rd, Opd.rdk, Opd.take, rds, rdks, takes, box, D.frz, D.frzs, D.kids, cmpD, inD, getD?, sliD, sliC, optI, truth, biD, Bi.copies, runF, outsOf, enter, augD, setD, atP, Exps.plain, bAddI, bMulR, bMulL, bMod, bDiv, bPow, bPow39, bAddL, bAddS, eqD_int, frzs_ints, fzs_ints, L2.atI, L2.ixN, D.fzs, D.fz, big, line, callF, prep, back, m0, m1, m2, m3, m4, m5, m6, m7, m8, m9, m10, m11, m12, m13, m14, m15, m16, m17, m18, m19, m20, m21, bSubI, bAddT, seqLT, fIfe, eqD_str, neD_str, neD_int, f1, f2, f3, f4, f5, z1, z2, z3, z4, z5, h, hab, hc, hd, q]
theorem callG (n : Nat) (x : D) : callN txt.P txt.fs (n + 1) 4 [x] = runF f4 (evSs txt.P (callN txt.P txt.fs n) [] f4.body [.v x]) := by
  have e : enter (txt.P.mode.getD 4 []) [x] ++ List.replicate (f4.ns - f4.np) Sl.no = [.v x] := rfl
  have io : f4.io = [] := rfl
  rw [call_eq txt.P txt.fs n 4 [x] f4 rfl rfl, e, io]
theorem beg_one {x : D} {s : Str} (h : begB x s 1 = true) : begB x "if" 5 = false := by
  cases x with
  | tup xs =>
    simp only [begB, Bool.and_eq_true, decide_eq_true_eq] at h ⊢
    simp [R.bind, evSs, evS, evO, evOs, evI, asgT, asgTs, sSeq, sAsg, sIf, sRet, sEx, sAugSub, sAug, taken, tst, fVar, fGlo, fBin, fCmp, fCmp2, fNeg, fNot, fAnd, fOr, fIfe, fDsp, fIdx, fSli, fRev, fBi, fCall, fIsi, fMet, gVar, gSub, gTup, gCons, gNil, fsCons, ofD, look, Sl.get, Opd.rd, Opd.rdk, Opd.take, rds, rdks, takes, box, D.frz, D.frzs, D.kids, cmpD, inD, getD?, sliD, sliC, optI, truth, biD, Bi.copies, runF, outsOf, enter, augD, setD, atP, Exps.plain, bAddI, bMulR, bMulL, bMod, bDiv, bPow, bPow39, bAddL, bAddS, eqD_int, frzs_ints, fzs_ints, L2.atI, L2.ixN, D.fzs, D.fz, big, line, callF, prep, back, m0, m1, m2, m3, m4, m5, m6, m7, m8, m9, m10, m11, m12, m13, m14, m15, m16, m17, m18, m19, m20, m21, bSubI, bAddT, seqLT, fIfe, eqD_str, neD_str, neD_int, h.1]
  | _ => rfl
theorem word_no {x : D} (h : wordB x = true) : begB x "if" 5 = false := by
  simp only [wordB, Bool.or_eq_true] at h
  rcases h with h | h <;> exact beg_one h
theorem guard_is : ∀ (n : Nat) (x : D), okD 100 x = true → x.depth ≤ n → wt x ≤ 200000 → callN txt.P txt.fs (n + 5) 4 [x] = .ok (.bl (codeB wordB n x)) [] := by
  have step : ∀ (n : Nat) (x : D), okD 100 x = true → x.depth ≤ n → wt x ≤ 200000 → (∀ y : D, okD 100 y = true → y.depth + 1 ≤ n → wt y ≤ 200000 → callN txt.P txt.fs (n + 4) 4 [y] = .ok (.bl (codeB wordB (n - 1) y)) []) → callN txt.P txt.fs (n + 5) 4 [x] = .ok (.bl (codeB wordB n x)) [] := by
    intro n x ok hd hw ih
    have bd : f4.body = .cons (.ifS (.or (.call 2 (.cons (.var 0) (.cons (.cst (.str "yes")) (.cons (.cst (.int 1)) .nil)))) (.call 2 (.cons (.var 0) (.cons (.cst (.str "no")) (.cons (.cst (.int 1)) .nil))))) (.cons (.ret (.cst (.bl true))) .nil) .nil) (.cons (.ret (.and (.call 2 (.cons (.var 0) (.cons (.cst (.str "if")) (.cons (.cst (.int 5)) .nil)))) (.and (.call 3 (.cons (.sli (.var 0) (.cst (.int 1)) (.cst (.int 3))) .nil)) (.and (.call 4 (.cons (.idx (.var 0) (.cst (.int 3))) .nil)) (.call 4 (.cons (.idx (.var 0) (.cst (.int 4))) .nil)))))) .nil) := rfl
    have c0 := gd0 (callN txt.P txt.fs (n + 4)) x _ _ (ok_frz ok) (beg_ok (n + 3) x "yes" 1 ok (by omega)) (beg_ok (n + 3) x "no" 1 ok (by omega))
    have c2 := beg_ok (n + 3) x "if" 5 ok (by omega)
    rw [show n + 5 = (n + 4) + 1 by omega, callG, bd]
    cases hw' : wordB x with
    | true =>
      have hw2 : (begB x "yes" 1 || begB x "no" 1) = true := hw'
      rw [hw2] at c0
      rw [codeB_no _ _ (word_no hw'), hw', bR ((sT c0).trans (bR (show evS txt.P (callN txt.P txt.fs (n + 4)) [] (.ret (.cst (.bl true))) _ = .ok (.rt (.bl true), _) from rfl)))]
      exact runE _ _ _ rfl
    | false =>
      have hw2 : (begB x "yes" 1 || begB x "no" 1) = false := hw'
      rw [hw2] at c0
      rw [bN (sF c0)]
      cases hb : begB x "if" 5 with
      | false =>
        rw [hb] at c2
        rw [codeB_no _ _ hb, hw', bR (gd2 _ x (ok_frz ok) c2)]
        exact runE _ _ _ rfl
      | true =>
        rw [hb] at c2
        obtain ⟨t, a, b, c, d, rfl, hti⟩ := beg_if hb
        obtain ⟨oy, oa, ob, oc, od⟩ := in5 ok
        simp only [D.depth, D.depths] at hd
        simp only [wt, wts] at hw
        obtain ⟨m, rfl⟩ : ∃ m, n = m + 1 := ⟨n - 1, by omega⟩
        have hab := are_ok (m + 2) [a, b] (by simp [R.bind, evSs, evS, evO, evOs, evI, asgT, asgTs, sSeq, sAsg, sIf, sRet, sEx, sAugSub, sAug, taken, tst, fVar, fGlo, fBin, fCmp, fCmp2, fNeg, fNot, fAnd, fOr, fIfe, fDsp, fIdx, fSli, fRev, fBi, fCall, fIsi, fMet, gVar, gSub, gTup, gCons, gNil, fsCons, ofD, look, Sl.get, Opd.rd, Opd.rdk, Opd.take, rds, rdks, takes, box, D.frz, D.frzs, D.kids, cmpD, inD, getD?, sliD, sliC, optI, truth, biD, Bi.copies, runF, outsOf, enter, augD, setD, atP, Exps.plain, bAddI, bMulR, bMulL, bMod, bDiv, bPow, bPow39, bAddL, bAddS, eqD_int, frzs_ints, fzs_ints, L2.atI, L2.ixN, D.fzs, D.fz, big, line, callF, prep, back, m0, m1, m2, m3, m4, m5, m6, m7, m8, m9, m10, m11, m12, m13, m14, m15, m16, m17, m18, m19, m20, m21, bSubI, bAddT, seqLT, fIfe, eqD_str, neD_str, neD_int, okDs, oa, ob]) (by simp only [D.depths]; omega) (by simp only [wts]; omega)
        have hc := ih c oc (by omega) (by omega)
        have hdd := ih d od (by omega) (by omega)
        rw [show m + 1 - 1 = m by omega] at hc hdd
        rw [codeB_if m a b c d hti, bR (gd3 _ (.str t) a b c d _ _ _ (ok_frz oy) (ok_frz oa) (ok_frz ob) (ok_frz oc) (ok_frz od) (ok_fz _ oy) (ok_fz _ oa) (ok_fz _ ob) (ok_fz _ oc) (ok_fz _ od) c2 hab hc hdd)]
        have e : ([a, b].all termB && (codeB wordB m c && codeB wordB m d)) = ((termB a && termB b) && (codeB wordB m c && codeB wordB m d)) := by simp [R.bind, evSs, evS, evO, evOs, evI, asgT, asgTs, sSeq, sAsg, sIf, sRet, sEx, sAugSub, sAug, taken, tst, fVar, fGlo, fBin, fCmp, fCmp2, fNeg, fNot, fAnd, fOr, fIfe, fDsp, fIdx, fSli, fRev, fBi, fCall, fIsi, fMet, gVar, gSub, gTup, gCons, gNil, fsCons, ofD, look, Sl.get, Opd.rd, Opd.rdk, Opd.take, rds, rdks, takes, box, D.frz, D.frzs, D.kids, cmpD, inD, getD?, sliD, sliC, optI, truth, biD, Bi.copies, runF, outsOf, enter, augD, setD, atP, Exps.plain, bAddI, bMulR, bMulL, bMod, bDiv, bPow, bPow39, bAddL, bAddS, eqD_int, frzs_ints, fzs_ints, L2.atI, L2.ixN, D.fzs, D.fz, big, line, callF, prep, back, m0, m1, m2, m3, m4, m5, m6, m7, m8, m9, m10, m11, m12, m13, m14, m15, m16, m17, m18, m19, m20, m21, bSubI, bAddT, seqLT, fIfe, eqD_str, neD_str, neD_int]
        rw [e]
        exact runE _ _ _ rfl
  intro n
  induction n with
  | zero => intro x ok hd hw; exact step 0 x ok hd hw fun y _ h _ => absurd h (by omega)
  | succ n ih => intro x ok hd hw; exact step (n + 1) x ok hd hw fun y oy h hy => ih y oy (by omega) hy
/-! ### facts -/
def factB (x : D) : Bool := match x with | .tup [.str s, a, b] => (s == ("alike" : Str) || s == ("unlike" : Str)) && (termB a && termB b) | _ => false
def tripB (x : D) : Bool := match x with | .tup [.str _, _, _] => true | _ => false
theorem in3 {m : Nat} {y a b : D} (ok : okD m (.tup [y, a, b]) = true) : okD m y = true ∧ okD m a = true ∧ okD m b = true := by
  have mem := okDs_iff.1 (show okDs m [y, a, b] = true by simpa [R.bind, evSs, evS, evO, evOs, evI, asgT, asgTs, sSeq, sAsg, sIf, sRet, sEx, sAugSub, sAug, taken, tst, fVar, fGlo, fBin, fCmp, fCmp2, fNeg, fNot, fAnd, fOr, fIfe, fDsp, fIdx, fSli, fRev, fBi, fCall, fIsi, fMet, gVar, gSub, gTup, gCons, gNil, fsCons, ofD, look, Sl.get, Opd.rd, Opd.rdk, Opd.take, rds, rdks, takes, box, D.frz, D.frzs, D.kids, cmpD, inD, getD?, sliD, sliC, optI, truth, biD, Bi.copies, runF, outsOf, enter, augD, setD, atP, Exps.plain, bAddI, bMulR, bMulL, bMod, bDiv, bPow, bPow39, bAddL, bAddS, eqD_int, frzs_ints, fzs_ints, L2.atI, L2.ixN, D.fzs, D.fz, big, line, callF, prep, back, m0, m1, m2, m3, m4, m5, m6, m7, m8, m9, m10, m11, m12, m13, m14, m15, m16, m17, m18, m19, m20, m21, bSubI, bAddT, seqLT, fIfe, eqD_str, neD_str, neD_int, okD] using ok)
  exact ⟨mem y (by simp [R.bind, evSs, evS, evO, evOs, evI, asgT, asgTs, sSeq, sAsg, sIf, sRet, sEx, sAugSub, sAug, taken, tst, fVar, fGlo, fBin, fCmp, fCmp2, fNeg, fNot, fAnd, fOr, fIfe, fDsp, fIdx, fSli, fRev, fBi, fCall, fIsi, fMet, gVar, gSub, gTup, gCons, gNil, fsCons, ofD, look, Sl.get, Opd.rd, Opd.rdk, Opd.take, rds, rdks, takes, box, D.frz, D.frzs, D.kids, cmpD, inD, getD?, sliD, sliC, optI, truth, biD, Bi.copies, runF, outsOf, enter, augD, setD, atP, Exps.plain, bAddI, bMulR, bMulL, bMod, bDiv, bPow, bPow39, bAddL, bAddS, eqD_int, frzs_ints, fzs_ints, L2.atI, L2.ixN, D.fzs, D.fz, big, line, callF, prep, back, m0, m1, m2, m3, m4, m5, m6, m7, m8, m9, m10, m11, m12, m13, m14, m15, m16, m17, m18, m19, m20, m21, bSubI, bAddT, seqLT, fIfe, eqD_str, neD_str, neD_int]), mem a (by simp [R.bind, evSs, evS, evO, evOs, evI, asgT, asgTs, sSeq, sAsg, sIf, sRet, sEx, sAugSub, sAug, taken, tst, fVar, fGlo, fBin, fCmp, fCmp2, fNeg, fNot, fAnd, fOr, fIfe, fDsp, fIdx, fSli, fRev, fBi, fCall, fIsi, fMet, gVar, gSub, gTup, gCons, gNil, fsCons, ofD, look, Sl.get, Opd.rd, Opd.rdk, Opd.take, rds, rdks, takes, box, D.frz, D.frzs, D.kids, cmpD, inD, getD?, sliD, sliC, optI, truth, biD, Bi.copies, runF, outsOf, enter, augD, setD, atP, Exps.plain, bAddI, bMulR, bMulL, bMod, bDiv, bPow, bPow39, bAddL, bAddS, eqD_int, frzs_ints, fzs_ints, L2.atI, L2.ixN, D.fzs, D.fz, big, line, callF, prep, back, m0, m1, m2, m3, m4, m5, m6, m7, m8, m9, m10, m11, m12, m13, m14, m15, m16, m17, m18, m19, m20, m21, bSubI, bAddT, seqLT, fIfe, eqD_str, neD_str, neD_int]), mem b (by simp [R.bind, evSs, evS, evO, evOs, evI, asgT, asgTs, sSeq, sAsg, sIf, sRet, sEx, sAugSub, sAug, taken, tst, fVar, fGlo, fBin, fCmp, fCmp2, fNeg, fNot, fAnd, fOr, fIfe, fDsp, fIdx, fSli, fRev, fBi, fCall, fIsi, fMet, gVar, gSub, gTup, gCons, gNil, fsCons, ofD, look, Sl.get, Opd.rd, Opd.rdk, Opd.take, rds, rdks, takes, box, D.frz, D.frzs, D.kids, cmpD, inD, getD?, sliD, sliC, optI, truth, biD, Bi.copies, runF, outsOf, enter, augD, setD, atP, Exps.plain, bAddI, bMulR, bMulL, bMod, bDiv, bPow, bPow39, bAddL, bAddS, eqD_int, frzs_ints, fzs_ints, L2.atI, L2.ixN, D.fzs, D.fz, big, line, callF, prep, back, m0, m1, m2, m3, m4, m5, m6, m7, m8, m9, m10, m11, m12, m13, m14, m15, m16, m17, m18, m19, m20, m21, bSubI, bAddT, seqLT, fIfe, eqD_str, neD_str, neD_int])⟩
theorem lf0 (cf : Nat → List D → C) (x : D) (ok : okD 100 x = true) : tst (evO txt.P cf [] (.or (.not (.isi (.var 0) .tup)) (.or (.cmp .ne (.bi .len (.cons (.var 0) .nil)) (.cst (.int 3))) (.not (.isi (.idx (.var 0) (.cst (.int 0))) .str))))) [.v x] = .ok (!tripB x, [.v x]) := by
  rcases isi_tup ok with ⟨xs, rfl⟩ | h
  · by_cases hl : xs.length = 3
    · match xs, hl with
      | [y, a, b], _ =>
        obtain ⟨oy, oa, ob⟩ := in3 ok
        have f1 := ok_frz oy
        have f2 := ok_frz oa
        have f3 := ok_frz ob
        cases y with
        | str t => simp [R.bind, evSs, evS, evO, evOs, evI, asgT, asgTs, sSeq, sAsg, sIf, sRet, sEx, sAugSub, sAug, taken, tst, fVar, fGlo, fBin, fCmp, fCmp2, fNeg, fNot, fAnd, fOr, fIfe, fDsp, fIdx, fSli, fRev, fBi, fCall, fIsi, fMet, gVar, gSub, gTup, gCons, gNil, fsCons, ofD, look, Sl.get, Opd.rd, Opd.rdk, Opd.take, rds, rdks, takes, box, D.frz, D.frzs, D.kids, cmpD, inD, getD?, sliD, sliC, optI, truth, biD, Bi.copies, runF, outsOf, enter, augD, setD, atP, Exps.plain, bAddI, bMulR, bMulL, bMod, bDiv, bPow, bPow39, bAddL, bAddS, eqD_int, frzs_ints, fzs_ints, L2.atI, L2.ixN, D.fzs, D.fz, big, line, callF, prep, back, m0, m1, m2, m3, m4, m5, m6, m7, m8, m9, m10, m11, m12, m13, m14, m15, m16, m17, m18, m19, m20, m21, bSubI, bAddT, seqLT, fIfe, eqD_str, neD_str, neD_int, isiD, isiV, tripB, f2, f3]
        | clo p q => exact nomatch oy
        | _ => simp [R.bind, evSs, evS, evO, evOs, evI, asgT, asgTs, sSeq, sAsg, sIf, sRet, sEx, sAugSub, sAug, taken, tst, fVar, fGlo, fBin, fCmp, fCmp2, fNeg, fNot, fAnd, fOr, fIfe, fDsp, fIdx, fSli, fRev, fBi, fCall, fIsi, fMet, gVar, gSub, gTup, gCons, gNil, fsCons, ofD, look, Sl.get, Opd.rd, Opd.rdk, Opd.take, rds, rdks, takes, box, D.frz, D.frzs, D.kids, cmpD, inD, getD?, sliD, sliC, optI, truth, biD, Bi.copies, runF, outsOf, enter, augD, setD, atP, Exps.plain, bAddI, bMulR, bMulL, bMod, bDiv, bPow, bPow39, bAddL, bAddS, eqD_int, frzs_ints, fzs_ints, L2.atI, L2.ixN, D.fzs, D.fz, big, line, callF, prep, back, m0, m1, m2, m3, m4, m5, m6, m7, m8, m9, m10, m11, m12, m13, m14, m15, m16, m17, m18, m19, m20, m21, bSubI, bAddT, seqLT, fIfe, eqD_str, neD_str, neD_int, isiD, isiV, tripB, f1, f2, f3] at f1 ⊢; try simp [R.bind, evSs, evS, evO, evOs, evI, asgT, asgTs, sSeq, sAsg, sIf, sRet, sEx, sAugSub, sAug, taken, tst, fVar, fGlo, fBin, fCmp, fCmp2, fNeg, fNot, fAnd, fOr, fIfe, fDsp, fIdx, fSli, fRev, fBi, fCall, fIsi, fMet, gVar, gSub, gTup, gCons, gNil, fsCons, ofD, look, Sl.get, Opd.rd, Opd.rdk, Opd.take, rds, rdks, takes, box, D.frz, D.frzs, D.kids, cmpD, inD, getD?, sliD, sliC, optI, truth, biD, Bi.copies, runF, outsOf, enter, augD, setD, atP, Exps.plain, bAddI, bMulR, bMulL, bMod, bDiv, bPow, bPow39, bAddL, bAddS, eqD_int, frzs_ints, fzs_ints, L2.atI, L2.ixN, D.fzs, D.fz, big, line, callF, prep, back, m0, m1, m2, m3, m4, m5, m6, m7, m8, m9, m10, m11, m12, m13, m14, m15, m16, m17, m18, m19, m20, m21, bSubI, bAddT, seqLT, fIfe, eqD_str, neD_str, neD_int, f1, isiD, isiV]
    · have e : tripB (.tup xs) = false := by
        match xs, hl with
        | [], _ => rfl
        | [y], _ => cases y <;> rfl
        | [y, a], _ => cases y <;> rfl
        | [y, a, b], hl => exact absurd rfl hl
        | y :: a :: b :: c :: r, _ => cases y <;> rfl
      have hl' : ¬ ((xs.length : Int) = 3) := by omega
      simp [R.bind, evSs, evS, evO, evOs, evI, asgT, asgTs, sSeq, sAsg, sIf, sRet, sEx, sAugSub, sAug, taken, tst, fVar, fGlo, fBin, fCmp, fCmp2, fNeg, fNot, fAnd, fOr, fIfe, fDsp, fIdx, fSli, fRev, fBi, fCall, fIsi, fMet, gVar, gSub, gTup, gCons, gNil, fsCons, ofD, look, Sl.get, Opd.rd, Opd.rdk, Opd.take, rds, rdks, takes, box, D.frz, D.frzs, D.kids, cmpD, inD, getD?, sliD, sliC, optI, truth, biD, Bi.copies, runF, outsOf, enter, augD, setD, atP, Exps.plain, bAddI, bMulR, bMulL, bMod, bDiv, bPow, bPow39, bAddL, bAddS, eqD_int, frzs_ints, fzs_ints, L2.atI, L2.ixN, D.fzs, D.fz, big, line, callF, prep, back, m0, m1, m2, m3, m4, m5, m6, m7, m8, m9, m10, m11, m12, m13, m14, m15, m16, m17, m18, m19, m20, m21, bSubI, bAddT, seqLT, fIfe, eqD_str, neD_str, neD_int, isiD, isiV, e, hl']
  · have e : tripB x = false := by cases x <;> first | rfl | (simp [R.bind, evSs, evS, evO, evOs, evI, asgT, asgTs, sSeq, sAsg, sIf, sRet, sEx, sAugSub, sAug, taken, tst, fVar, fGlo, fBin, fCmp, fCmp2, fNeg, fNot, fAnd, fOr, fIfe, fDsp, fIdx, fSli, fRev, fBi, fCall, fIsi, fMet, gVar, gSub, gTup, gCons, gNil, fsCons, ofD, look, Sl.get, Opd.rd, Opd.rdk, Opd.take, rds, rdks, takes, box, D.frz, D.frzs, D.kids, cmpD, inD, getD?, sliD, sliC, optI, truth, biD, Bi.copies, runF, outsOf, enter, augD, setD, atP, Exps.plain, bAddI, bMulR, bMulL, bMod, bDiv, bPow, bPow39, bAddL, bAddS, eqD_int, frzs_ints, fzs_ints, L2.atI, L2.ixN, D.fzs, D.fz, big, line, callF, prep, back, m0, m1, m2, m3, m4, m5, m6, m7, m8, m9, m10, m11, m12, m13, m14, m15, m16, m17, m18, m19, m20, m21, bSubI, bAddT, seqLT, fIfe, eqD_str, neD_str, neD_int, isiD, isiV] at h)
    simp [R.bind, evSs, evS, evO, evOs, evI, asgT, asgTs, sSeq, sAsg, sIf, sRet, sEx, sAugSub, sAug, taken, tst, fVar, fGlo, fBin, fCmp, fCmp2, fNeg, fNot, fAnd, fOr, fIfe, fDsp, fIdx, fSli, fRev, fBi, fCall, fIsi, fMet, gVar, gSub, gTup, gCons, gNil, fsCons, ofD, look, Sl.get, Opd.rd, Opd.rdk, Opd.take, rds, rdks, takes, box, D.frz, D.frzs, D.kids, cmpD, inD, getD?, sliD, sliC, optI, truth, biD, Bi.copies, runF, outsOf, enter, augD, setD, atP, Exps.plain, bAddI, bMulR, bMulL, bMod, bDiv, bPow, bPow39, bAddL, bAddS, eqD_int, frzs_ints, fzs_ints, L2.atI, L2.ixN, D.fzs, D.fz, big, line, callF, prep, back, m0, m1, m2, m3, m4, m5, m6, m7, m8, m9, m10, m11, m12, m13, m14, m15, m16, m17, m18, m19, m20, m21, bSubI, bAddT, seqLT, fIfe, eqD_str, neD_str, neD_int, h, e]
theorem lf1 (cf : Nat → List D → C) (s : Str) (a b : D) (ta tb : Bool) (hs : Asc s) (fa : a.frz = a) (fb : b.frz = b) (ha : cf 12 [a] = .ok (.bl ta) []) (hb : cf 12 [b] = .ok (.bl tb) []) : evS txt.P cf [] (.ret (.and (.cmp .inn (.idx (.var 0) (.cst (.int 0))) (.tup (.cons (.cst (.str "alike")) (.cons (.cst (.str "unlike")) .nil)))) (.and (.call 12 (.cons (.idx (.var 0) (.cst (.int 1))) .nil)) (.call 12 (.cons (.idx (.var 0) (.cst (.int 2))) .nil))))) [.v (.tup [.str s, a, b])] = .ok (.rt (.bl ((s == ("alike" : Str) || s == ("unlike" : Str)) && (ta && tb))), [.v (.tup [.str s, a, b])]) := by
  have i := in_pair hs (show Asc "alike" by unfold Asc; decide +kernel) (show Asc "unlike" by unfold Asc; decide +kernel)
  cases hc : (s == ("alike" : Str) || s == ("unlike" : Str)) <;> rw [hc] at i <;> cases ta <;> simp [R.bind, evSs, evS, evO, evOs, evI, asgT, asgTs, sSeq, sAsg, sIf, sRet, sEx, sAugSub, sAug, taken, tst, fVar, fGlo, fBin, fCmp, fCmp2, fNeg, fNot, fAnd, fOr, fIfe, fDsp, fIdx, fSli, fRev, fBi, fCall, fIsi, fMet, gVar, gSub, gTup, gCons, gNil, fsCons, ofD, look, Sl.get, Opd.rd, Opd.rdk, Opd.take, rds, rdks, takes, box, D.frz, D.frzs, D.kids, cmpD, getD?, sliD, sliC, optI, truth, biD, Bi.copies, runF, outsOf, enter, augD, setD, atP, Exps.plain, bAddI, bMulR, bMulL, bMod, bDiv, bPow, bPow39, bAddL, bAddS, eqD_int, frzs_ints, fzs_ints, L2.atI, L2.ixN, D.fzs, D.fz, big, line, callF, prep, back, m0, m1, m2, m3, m4, m5, m6, m7, m8, m9, m10, m11, m12, m13, m14, m15, m16, m17, m18, m19, m20, m21, bSubI, bAddT, seqLT, fIfe, eqD_str, neD_str, neD_int, i, fa, fb, ha, hb]
theorem fact2 (n : Nat) (x : D) (ok : okD 100 x = true) (hd : x.depth ≤ n) (hw : wt x ≤ 200000) : callN txt.P txt.fs (n + 4) 15 [x] = .ok (.bl (factB x)) [] := by
  have e : enter (txt.P.mode.getD 15 []) [x] ++ List.replicate (f15.ns - f15.np) Sl.no = [.v x] := rfl
  have io : f15.io = [] := rfl
  have bd : f15.body = .cons (.ifS (.or (.not (.isi (.var 0) .tup)) (.or (.cmp .ne (.bi .len (.cons (.var 0) .nil)) (.cst (.int 3))) (.not (.isi (.idx (.var 0) (.cst (.int 0))) .str)))) (.cons (.ret (.cst (.bl false))) .nil) .nil) (.cons (.ret (.and (.cmp .inn (.idx (.var 0) (.cst (.int 0))) (.tup (.cons (.cst (.str "alike")) (.cons (.cst (.str "unlike")) .nil)))) (.and (.call 12 (.cons (.idx (.var 0) (.cst (.int 1))) .nil)) (.call 12 (.cons (.idx (.var 0) (.cst (.int 2))) .nil))))) .nil) := rfl
  rw [call_eq txt.P txt.fs (n + 3) 15 [x] f15 rfl rfl, e, io, bd]
  have c0 := lf0 (callN txt.P txt.fs (n + 3)) x ok
  cases hp : tripB x with
  | false =>
    rw [hp] at c0
    have f : factB x = false := by
      unfold factB
      split
      · exact nomatch hp
      · rfl
    rw [f, bR ((sT c0).trans (bR (show evS txt.P (callN txt.P txt.fs (n + 3)) [] (.ret (.cst (.bl false))) _ = .ok (.rt (.bl false), _) from rfl)))]
    exact runE _ _ _ rfl
  | true =>
    rw [hp] at c0
    obtain ⟨s, a, b, rfl⟩ : ∃ s a b, x = .tup [.str s, a, b] := by
      unfold tripB at hp
      split at hp
      · exact ⟨_, _, _, rfl⟩
      · exact nomatch hp
    obtain ⟨os, oa, ob⟩ := in3 ok
    simp only [D.depth, D.depths] at hd
    simp only [wt, wts] at hw
    rw [bN (sF c0), bR (lf1 _ s a b (termB a) (termB b) (ok_asc1 os) (ok_frz oa) (ok_frz ob) (trm2 (n + 1) a oa (by omega) (by omega)) (trm2 (n + 1) b ob (by omega) (by omega)))]
    exact runE _ _ _ rfl
theorem pf0 (cf : Nat → List D → C) (x : D) (hx : x.frz = x) (h1 : cf 2 [x, .str "alike", .int ((3 : Nat) : Int)] = .ok (.bl false) []) (h2 : cf 2 [x, .str "unlike", .int ((3 : Nat) : Int)] = .ok (.bl false) []) : evS txt.P cf [] (.ret (.and (.or (.call 2 (.cons (.var 0) (.cons (.cst (.str "alike")) (.cons (.cst (.int 3)) .nil)))) (.call 2 (.cons (.var 0) (.cons (.cst (.str "unlike")) (.cons (.cst (.int 3)) .nil))))) (.call 3 (.cons (.sli (.var 0) (.cst (.int 1)) (.cst .non)) .nil)))) [.v x] = .ok (.rt (.bl false), [.v x]) := by
  have h1 : cf 2 [x, .str "alike", .int 3] = .ok (.bl false) [] := h1
  have h2 : cf 2 [x, .str "unlike", .int 3] = .ok (.bl false) [] := h2
  simp [R.bind, evSs, evS, evO, evOs, evI, asgT, asgTs, sSeq, sAsg, sIf, sRet, sEx, sAugSub, sAug, taken, tst, fVar, fGlo, fBin, fCmp, fCmp2, fNeg, fNot, fAnd, fOr, fIfe, fDsp, fIdx, fSli, fRev, fBi, fCall, fIsi, fMet, gVar, gSub, gTup, gCons, gNil, fsCons, ofD, look, Sl.get, Opd.rd, Opd.rdk, Opd.take, rds, rdks, takes, box, D.frz, D.frzs, D.kids, cmpD, inD, getD?, sliD, sliC, optI, truth, biD, Bi.copies, runF, outsOf, enter, augD, setD, atP, Exps.plain, bAddI, bMulR, bMulL, bMod, bDiv, bPow, bPow39, bAddL, bAddS, eqD_int, frzs_ints, fzs_ints, L2.atI, L2.ixN, D.fzs, D.fz, big, line, callF, prep, back, m0, m1, m2, m3, m4, m5, m6, m7, m8, m9, m10, m11, m12, m13, m14, m15, m16, m17, m18, m19, m20, m21, bSubI, bAddT, seqLT, fIfe, eqD_str, neD_str, neD_int, hx, h1, h2]
theorem cut1n (y a b : D) : cutD [y, a, b] (some 1) none = [a, b] := rfl
theorem pf1 (cf : Nat → List D → C) (y a b : D) (p q t : Bool) (f1 : y.frz = y) (f2 : a.frz = a) (f3 : b.frz = b) (z1 : y.fz = true) (z2 : a.fz = true) (z3 : b.fz = true) (hpq : (p || q) = true) (h1 : cf 2 [.tup [y, a, b], .str "alike", .int ((3 : Nat) : Int)] = .ok (.bl p) []) (h2 : cf 2 [.tup [y, a, b], .str "unlike", .int ((3 : Nat) : Int)] = .ok (.bl q) []) (h : cf 3 [.tup [a, b]] = .ok (.bl t) []) : evS txt.P cf [] (.ret (.and (.or (.call 2 (.cons (.var 0) (.cons (.cst (.str "alike")) (.cons (.cst (.int 3)) .nil)))) (.call 2 (.cons (.var 0) (.cons (.cst (.str "unlike")) (.cons (.cst (.int 3)) .nil))))) (.call 3 (.cons (.sli (.var 0) (.cst (.int 1)) (.cst .non)) .nil)))) [.v (.tup [y, a, b])] = .ok (.rt (.bl t), [.v (.tup [y, a, b])]) := by
  have h1 : cf 2 [.tup [y, a, b], .str "alike", .int 3] = .ok (.bl p) [] := h1
  have h2 : cf 2 [.tup [y, a, b], .str "unlike", .int 3] = .ok (.bl q) [] := h2
  have c := cut1n y a b
  cases p with
  | true => simp [R.bind, evSs, evS, evO, evOs, evI, asgT, asgTs, sSeq, sAsg, sIf, sRet, sEx, sAugSub, sAug, taken, tst, fVar, fGlo, fBin, fCmp, fCmp2, fNeg, fNot, fAnd, fOr, fIfe, fDsp, fIdx, fSli, fRev, fBi, fCall, fIsi, fMet, gVar, gSub, gTup, gCons, gNil, fsCons, ofD, look, Sl.get, Opd.rd, Opd.rdk, Opd.take, rds, rdks, takes, box, D.frz, D.frzs, D.kids, cmpD, inD, getD?, sliD, sliC, optI, truth, biD, Bi.copies, runF, outsOf, enter, augD, setD, atP, Exps.plain, bAddI, bMulR, bMulL, bMod, bDiv, bPow, bPow39, bAddL, bAddS, eqD_int, frzs_ints, fzs_ints, L2.atI, L2.ixN, D.fzs, D.fz, big, line, callF, prep, back, m0, m1, m2, m3, m4, m5, m6, m7, m8, m9, m10, m11, m12, m13, m14, m15, m16, m17, m18, m19, m20, m21, bSubI, bAddT, seqLT, fIfe, eqD_str, neD_str, neD_int, f1, f2, f3, z1, z2, z3, h1, h2, h, c]
  | false =>
    simp only [Bool.false_or] at hpq
    subst hpq
    simp [R.bind, evSs, evS, evO, evOs, evI, asgT, asgTs, sSeq, sAsg, sIf, sRet, sEx, sAugSub, sAug, taken, tst, fVar, fGlo, fBin, fCmp, fCmp2, fNeg, fNot, fAnd, fOr, fIfe, fDsp, fIdx, fSli, fRev, fBi, fCall, fIsi, fMet, gVar, gSub, gTup, gCons, gNil, fsCons, ofD, look, Sl.get, Opd.rd, Opd.rdk, Opd.take, rds, rdks, takes, box, D.frz, D.frzs, D.kids, cmpD, inD, getD?, sliD, sliC, optI, truth, biD, Bi.copies, runF, outsOf, enter, augD, setD, atP, Exps.plain, bAddI, bMulR, bMulL, bMod, bDiv, bPow, bPow39, bAddL, bAddS, eqD_int, frzs_ints, fzs_ints, L2.atI, L2.ixN, D.fzs, D.fz, big, line, callF, prep, back, m0, m1, m2, m3, m4, m5, m6, m7, m8, m9, m10, m11, m12, m13, m14, m15, m16, m17, m18, m19, m20, m21, bSubI, bAddT, seqLT, fIfe, eqD_str, neD_str, neD_int, f1, f2, f3, z1, z2, z3, h1, h2, h, c]
theorem fact1 (n : Nat) (x : D) (ok : okD 100 x = true) (hd : x.depth ≤ n) (hw : wt x ≤ 200000) : callN txt.P txt.fs (n + 4) 5 [x] = .ok (.bl (factB x)) [] := by
  have e : enter (txt.P.mode.getD 5 []) [x] ++ List.replicate (f5.ns - f5.np) Sl.no = [.v x] := rfl
  have io : f5.io = [] := rfl
  have bd : f5.body = .cons (.ret (.and (.or (.call 2 (.cons (.var 0) (.cons (.cst (.str "alike")) (.cons (.cst (.int 3)) .nil)))) (.call 2 (.cons (.var 0) (.cons (.cst (.str "unlike")) (.cons (.cst (.int 3)) .nil))))) (.call 3 (.cons (.sli (.var 0) (.cst (.int 1)) (.cst .non)) .nil)))) .nil := rfl
  rw [call_eq txt.P txt.fs (n + 3) 5 [x] f5 rfl rfl, e, io, bd]
  have c1 := beg_ok (n + 2) x "alike" 3 ok (by omega)
  have c2 := beg_ok (n + 2) x "unlike" 3 ok (by omega)
  cases hp : (begB x "alike" 3 || begB x "unlike" 3) with
  | false =>
    have hp' : begB x "alike" 3 = false ∧ begB x "unlike" 3 = false := by simpa [R.bind, evSs, evS, evO, evOs, evI, asgT, asgTs, sSeq, sAsg, sIf, sRet, sEx, sAugSub, sAug, taken, tst, fVar, fGlo, fBin, fCmp, fCmp2, fNeg, fNot, fAnd, fOr, fIfe, fDsp, fIdx, fSli, fRev, fBi, fCall, fIsi, fMet, gVar, gSub, gTup, gCons, gNil, fsCons, ofD, look, Sl.get, Opd.rd, Opd.rdk, Opd.take, rds, rdks, takes, box, D.frz, D.frzs, D.kids, cmpD, inD, getD?, sliD, sliC, optI, truth, biD, Bi.copies, runF, outsOf, enter, augD, setD, atP, Exps.plain, bAddI, bMulR, bMulL, bMod, bDiv, bPow, bPow39, bAddL, bAddS, eqD_int, frzs_ints, fzs_ints, L2.atI, L2.ixN, D.fzs, D.fz, big, line, callF, prep, back, m0, m1, m2, m3, m4, m5, m6, m7, m8, m9, m10, m11, m12, m13, m14, m15, m16, m17, m18, m19, m20, m21, bSubI, bAddT, seqLT, fIfe, eqD_str, neD_str, neD_int] using hp
    rw [hp'.1] at c1
    rw [hp'.2] at c2
    have f : factB x = false := by
      unfold factB
      split
      · rename_i s a b
        have q1 : (s == ("alike" : Str)) = false := by simpa [R.bind, evSs, evS, evO, evOs, evI, asgT, asgTs, sSeq, sAsg, sIf, sRet, sEx, sAugSub, sAug, taken, tst, fVar, fGlo, fBin, fCmp, fCmp2, fNeg, fNot, fAnd, fOr, fIfe, fDsp, fIdx, fSli, fRev, fBi, fCall, fIsi, fMet, gVar, gSub, gTup, gCons, gNil, fsCons, ofD, look, Sl.get, Opd.rd, Opd.rdk, Opd.take, rds, rdks, takes, box, D.frz, D.frzs, D.kids, cmpD, inD, getD?, sliD, sliC, optI, truth, biD, Bi.copies, runF, outsOf, enter, augD, setD, atP, Exps.plain, bAddI, bMulR, bMulL, bMod, bDiv, bPow, bPow39, bAddL, bAddS, eqD_int, frzs_ints, fzs_ints, L2.atI, L2.ixN, D.fzs, D.fz, big, line, callF, prep, back, m0, m1, m2, m3, m4, m5, m6, m7, m8, m9, m10, m11, m12, m13, m14, m15, m16, m17, m18, m19, m20, m21, bSubI, bAddT, seqLT, fIfe, eqD_str, neD_str, neD_int, begB, headIs] using hp'.1
        have q2 : (s == ("unlike" : Str)) = false := by simpa [R.bind, evSs, evS, evO, evOs, evI, asgT, asgTs, sSeq, sAsg, sIf, sRet, sEx, sAugSub, sAug, taken, tst, fVar, fGlo, fBin, fCmp, fCmp2, fNeg, fNot, fAnd, fOr, fIfe, fDsp, fIdx, fSli, fRev, fBi, fCall, fIsi, fMet, gVar, gSub, gTup, gCons, gNil, fsCons, ofD, look, Sl.get, Opd.rd, Opd.rdk, Opd.take, rds, rdks, takes, box, D.frz, D.frzs, D.kids, cmpD, inD, getD?, sliD, sliC, optI, truth, biD, Bi.copies, runF, outsOf, enter, augD, setD, atP, Exps.plain, bAddI, bMulR, bMulL, bMod, bDiv, bPow, bPow39, bAddL, bAddS, eqD_int, frzs_ints, fzs_ints, L2.atI, L2.ixN, D.fzs, D.fz, big, line, callF, prep, back, m0, m1, m2, m3, m4, m5, m6, m7, m8, m9, m10, m11, m12, m13, m14, m15, m16, m17, m18, m19, m20, m21, bSubI, bAddT, seqLT, fIfe, eqD_str, neD_str, neD_int, begB, headIs] using hp'.2
        rw [q1, q2]; rfl
      · rfl
    rw [f, bR (pf0 _ x (ok_frz ok) c1 c2)]
    exact runE _ _ _ rfl
  | true =>
    obtain ⟨s, a, b, rfl, hs⟩ : ∃ s a b, x = .tup [.str s, a, b] ∧ (s == ("alike" : Str) || s == ("unlike" : Str)) = true := by
      have : ∀ {w : Str}, begB x w 3 = true → ∃ s a b, x = .tup [.str s, a, b] ∧ (s == w) = true := by
        intro w h
        cases x with
        | tup xs =>
          simp only [begB, Bool.and_eq_true, decide_eq_true_eq] at h
          match xs, h.1 with
          | [y, a, b], _ =>
            cases y with
            | str t => exact ⟨t, a, b, rfl, h.2⟩
            | _ => exact nomatch h.2
        | _ => exact nomatch h
      rcases Bool.or_eq_true_iff.mp hp with h | h
      · obtain ⟨s, a, b, e, hs⟩ := this h
        exact ⟨s, a, b, e, by rw [hs]; rfl⟩
      · obtain ⟨s, a, b, e, hs⟩ := this h
        exact ⟨s, a, b, e, by rw [hs, Bool.or_true]⟩
    obtain ⟨os, oa, ob⟩ := in3 ok
    simp only [D.depth, D.depths] at hd
    simp only [wt, wts] at hw
    have hab := are_ok n [a, b] (by simp [R.bind, evSs, evS, evO, evOs, evI, asgT, asgTs, sSeq, sAsg, sIf, sRet, sEx, sAugSub, sAug, taken, tst, fVar, fGlo, fBin, fCmp, fCmp2, fNeg, fNot, fAnd, fOr, fIfe, fDsp, fIdx, fSli, fRev, fBi, fCall, fIsi, fMet, gVar, gSub, gTup, gCons, gNil, fsCons, ofD, look, Sl.get, Opd.rd, Opd.rdk, Opd.take, rds, rdks, takes, box, D.frz, D.frzs, D.kids, cmpD, inD, getD?, sliD, sliC, optI, truth, biD, Bi.copies, runF, outsOf, enter, augD, setD, atP, Exps.plain, bAddI, bMulR, bMulL, bMod, bDiv, bPow, bPow39, bAddL, bAddS, eqD_int, frzs_ints, fzs_ints, L2.atI, L2.ixN, D.fzs, D.fz, big, line, callF, prep, back, m0, m1, m2, m3, m4, m5, m6, m7, m8, m9, m10, m11, m12, m13, m14, m15, m16, m17, m18, m19, m20, m21, bSubI, bAddT, seqLT, fIfe, eqD_str, neD_str, neD_int, okDs, oa, ob]) (by simp only [D.depths]; omega) (by simp only [wts]; omega)
    have e : factB (.tup [.str s, a, b]) = [a, b].all termB := by
      show ((s == ("alike" : Str) || s == ("unlike" : Str)) && (termB a && termB b)) = _
      rw [hs]; simp [R.bind, evSs, evS, evO, evOs, evI, asgT, asgTs, sSeq, sAsg, sIf, sRet, sEx, sAugSub, sAug, taken, tst, fVar, fGlo, fBin, fCmp, fCmp2, fNeg, fNot, fAnd, fOr, fIfe, fDsp, fIdx, fSli, fRev, fBi, fCall, fIsi, fMet, gVar, gSub, gTup, gCons, gNil, fsCons, ofD, look, Sl.get, Opd.rd, Opd.rdk, Opd.take, rds, rdks, takes, box, D.frz, D.frzs, D.kids, cmpD, inD, getD?, sliD, sliC, optI, truth, biD, Bi.copies, runF, outsOf, enter, augD, setD, atP, Exps.plain, bAddI, bMulR, bMulL, bMod, bDiv, bPow, bPow39, bAddL, bAddS, eqD_int, frzs_ints, fzs_ints, L2.atI, L2.ixN, D.fzs, D.fz, big, line, callF, prep, back, m0, m1, m2, m3, m4, m5, m6, m7, m8, m9, m10, m11, m12, m13, m14, m15, m16, m17, m18, m19, m20, m21, bSubI, bAddT, seqLT, fIfe, eqD_str, neD_str, neD_int]
    rw [e, bR (pf1 _ (.str s) a b _ _ _ (ok_frz os) (ok_frz oa) (ok_frz ob) (ok_fz _ os) (ok_fz _ oa) (ok_fz _ ob) hp c1 c2 hab)]
    exact runE _ _ _ rfl
end Law

set_option Elab.async false
set_option linter.all false
set_option maxRecDepth 100000
set_option maxHeartbeats 400000
namespace Law
open Z PySem

/-! ## k13: what is drawn -/
theorem th_of {m d : Nat} (ws : List (D × Nat)) {w : Nat} (h : ∀ q ∈ ws, Th m d q.2 q.1) (hw : (ws.map fun q => q.2 + 2).sum + 3 ≤ w) : Th m (d + 1) w (.tup (ws.map (·.1))) := (th_list h).up (Nat.le_refl _) (Nat.le_refl _) hw
theorem w_lo {s : Str} (h1 : s.length ≤ 8) (h2 : Lo s) (d : Nat) : Th 8 d 10 (.str s) := (word_th h1 h2).up (Nat.le_refl _) (Nat.zero_le _) (by omega)
theorem dr0 (cf : Nat → List D → C) (d d2 : D) (w : Int) (h : cf 7 [d, .int 6] = .ok (.int w) [d2]) : evS txt.P cf [0] (.asg (.var 1) (.call 7 (.cons (.var 0) (.cons (.cst (.int 6)) .nil)))) [.v d, .no, .no, .no, .no, .no] = .ok (.nx, [.v d2, .v (.int w), .no, .no, .no, .no]) := by
  simp [R.bind, evSs, evS, evO, evOs, evI, asgT, asgTs, sSeq, sAsg, sIf, sRet, sEx, sAugSub, sAug, taken, tst, fVar, fGlo, fBin, fCmp, fCmp2, fNeg, fNot, fAnd, fOr, fIfe, fDsp, fIdx, fSli, fRev, fBi, fCall, fIsi, fMet, gVar, gSub, gTup, gCons, gNil, fsCons, ofD, look, Sl.get, Opd.rd, Opd.rdk, Opd.take, rds, rdks, takes, box, D.frz, D.frzs, D.kids, cmpD, inD, getD?, sliD, sliC, optI, truth, biD, Bi.copies, runF, outsOf, enter, augD, setD, atP, Exps.plain, bAddI, bMulR, bMulL, bMod, bDiv, bPow, bPow39, bAddL, bAddS, eqD_int, frzs_ints, fzs_ints, L2.atI, L2.ixN, D.fzs, D.fz, big, line, callF, prep, back, m0, m1, m2, m3, m4, m5, m6, m7, m8, m9, m10, m11, m12, m13, m14, m15, m16, m17, m18, m19, m20, m21, bSubI, bAddT, seqLT, fIfe, eqD_str, neD_str, neD_int, h]
theorem dr1 (cf : Nat → List D → C) (d : D) (w : Int) : tst (evO txt.P cf [0] (.cmp .lt (.var 1) (.cst (.int 2)))) [.v d, .v (.int w), .no, .no, .no, .no] = .ok (decide (w < 2), [.v d, .v (.int w), .no, .no, .no, .no]) := by
  simp [R.bind, evSs, evS, evO, evOs, evI, asgT, asgTs, sSeq, sAsg, sIf, sRet, sEx, sAugSub, sAug, taken, tst, fVar, fGlo, fBin, fCmp, fCmp2, fNeg, fNot, fAnd, fOr, fIfe, fDsp, fIdx, fSli, fRev, fBi, fCall, fIsi, fMet, gVar, gSub, gTup, gCons, gNil, fsCons, ofD, look, Sl.get, Opd.rd, Opd.rdk, Opd.take, rds, rdks, takes, box, D.frz, D.frzs, D.kids, cmpD, inD, getD?, sliD, sliC, optI, truth, biD, Bi.copies, runF, outsOf, enter, augD, setD, atP, Exps.plain, bAddI, bMulR, bMulL, bMod, bDiv, bPow, bPow39, bAddL, bAddS, eqD_int, frzs_ints, fzs_ints, L2.atI, L2.ixN, D.fzs, D.fz, big, line, callF, prep, back, m0, m1, m2, m3, m4, m5, m6, m7, m8, m9, m10, m11, m12, m13, m14, m15, m16, m17, m18, m19, m20, m21, bSubI, bAddT, seqLT, fIfe, eqD_str, neD_str, neD_int]
theorem dr3 (cf : Nat → List D → C) (d : D) (w : Int) : tst (evO txt.P cf [0] (.cmp .eq (.var 1) (.cst (.int 5)))) [.v d, .v (.int w), .no, .no, .no, .no] = .ok (decide (w = 5), [.v d, .v (.int w), .no, .no, .no, .no]) := by
  simp [R.bind, evSs, evS, evO, evOs, evI, asgT, asgTs, sSeq, sAsg, sIf, sRet, sEx, sAugSub, sAug, taken, tst, fVar, fGlo, fBin, fCmp, fCmp2, fNeg, fNot, fAnd, fOr, fIfe, fDsp, fIdx, fSli, fRev, fBi, fCall, fIsi, fMet, gVar, gSub, gTup, gCons, gNil, fsCons, ofD, look, Sl.get, Opd.rd, Opd.rdk, Opd.take, rds, rdks, takes, box, D.frz, D.frzs, D.kids, cmpD, inD, getD?, sliD, sliC, optI, truth, biD, Bi.copies, runF, outsOf, enter, augD, setD, atP, Exps.plain, bAddI, bMulR, bMulL, bMod, bDiv, bPow, bPow39, bAddL, bAddS, eqD_int, frzs_ints, fzs_ints, L2.atI, L2.ixN, D.fzs, D.fz, big, line, callF, prep, back, m0, m1, m2, m3, m4, m5, m6, m7, m8, m9, m10, m11, m12, m13, m14, m15, m16, m17, m18, m19, m20, m21, bSubI, bAddT, seqLT, fIfe, eqD_str, neD_str, neD_int]

theorem dr2 (cf : Nat → List D → C) (d d1 d2 d3 x y z : D) (s : Sl) (hx : x.frz = x) (hy : y.frz = y) (hz : z.frz = z) (h1 : cf 9 [d, .lst false [.str "alike", .str "unlike"]] = .ok x [d1]) (h2 : cf 17 [d1, .int ((3 : Nat) : Int)] = .ok y [d2]) (h3 : cf 17 [d2, .int ((2 : Nat) : Int)] = .ok z [d3]) : evS txt.P cf [0] (.ret (.tup (.cons (.call 9 (.cons (.var 0) (.cons (.lst (.cons (.cst (.str "alike")) (.cons (.cst (.str "unlike")) .nil))) .nil))) (.cons (.call 17 (.cons (.var 0) (.cons (.cst (.int 3)) .nil))) (.cons (.call 17 (.cons (.var 0) (.cons (.cst (.int 2)) .nil))) .nil))))) [.v d, s, .no, .no, .no, .no] = .ok (.rt (.tup [x, y, z]), [.v d3, s, .no, .no, .no, .no]) := by
  have h2 : cf 17 [d1, .int 3] = .ok y [d2] := h2
  have h3 : cf 17 [d2, .int 2] = .ok z [d3] := h3
  simp [R.bind, evSs, evS, evO, evOs, evI, asgT, asgTs, sSeq, sAsg, sIf, sRet, sEx, sAugSub, sAug, taken, tst, fVar, fGlo, fBin, fCmp, fCmp2, fNeg, fNot, fAnd, fOr, fIfe, fDsp, fIdx, fSli, fRev, fBi, fCall, fIsi, fMet, gVar, gSub, gTup, gCons, gNil, fsCons, ofD, look, Sl.get, Opd.rd, Opd.rdk, Opd.take, rds, rdks, takes, box, D.frz, D.frzs, D.kids, cmpD, inD, getD?, sliD, sliC, optI, truth, biD, Bi.copies, runF, outsOf, enter, augD, setD, atP, Exps.plain, bAddI, bMulR, bMulL, bMod, bDiv, bPow, bPow39, bAddL, bAddS, eqD_int, frzs_ints, fzs_ints, L2.atI, L2.ixN, D.fzs, D.fz, big, line, callF, prep, back, m0, m1, m2, m3, m4, m5, m6, m7, m8, m9, m10, m11, m12, m13, m14, m15, m16, m17, m18, m19, m20, m21, bSubI, bAddT, seqLT, fIfe, eqD_str, neD_str, neD_int, h1, h2, h3, hx, hy, hz]
def metT : D := .tup [.str "met"]
def yesT : D := .tup [.str "yes"]
def noT : D := .tup [.str "no"]
theorem dr4 (cf : Nat → List D → C) (d d1 d2 x y : D) (s : Sl) (h1 : cf 17 [d, .int ((1 : Nat) : Int)] = .ok x [d1]) (h2 : cf 17 [d1, .int ((1 : Nat) : Int)] = .ok y [d2]) : evS txt.P cf [0] (.asg (.tup (.cons (.var 2) (.cons (.var 3) (.cons (.var 4) .nil)))) (.tup (.cons (.call 17 (.cons (.var 0) (.cons (.cst (.int 1)) .nil))) (.cons (.call 17 (.cons (.var 0) (.cons (.cst (.int 1)) .nil))) (.cons (.tup (.cons (.cst (.str "met")) .nil)) .nil))))) [.v d, s, .no, .no, .no, .no] = .ok (.nx, [.v d2, s, .v x, .v y, .v metT, .no]) := by
  have h1 : cf 17 [d, .int 1] = .ok x [d1] := h1
  have h2 : cf 17 [d1, .int 1] = .ok y [d2] := h2
  simp [R.bind, evSs, evS, evO, evOs, evI, asgT, asgTs, sSeq, sAsg, sIf, sRet, sEx, sAugSub, sAug, taken, tst, fVar, fGlo, fBin, fCmp, fCmp2, fNeg, fNot, fAnd, fOr, fIfe, fDsp, fIdx, fSli, fRev, fBi, fCall, fIsi, fMet, gVar, gSub, gTup, gCons, gNil, fsCons, ofD, look, Sl.get, Opd.rd, Opd.rdk, Opd.take, rds, rdks, takes, box, D.frz, D.frzs, D.kids, cmpD, inD, getD?, sliD, sliC, optI, truth, biD, Bi.copies, runF, outsOf, enter, augD, setD, atP, Exps.plain, bAddI, bMulR, bMulL, bMod, bDiv, bPow, bPow39, bAddL, bAddS, eqD_int, frzs_ints, fzs_ints, L2.atI, L2.ixN, D.fzs, D.fz, big, line, callF, prep, back, m0, m1, m2, m3, m4, m5, m6, m7, m8, m9, m10, m11, m12, m13, m14, m15, m16, m17, m18, m19, m20, m21, bSubI, bAddT, seqLT, fIfe, eqD_str, neD_str, neD_int, h1, h2, metT]
def drL (c x y : D) : List D := [c, x, metT, .tup [.str "if", x, y, metT, metT]]
def drM (c x y : D) : List D := [c, x, metT, .tup [.str "if", x, y, metT, metT], .tup [.str "if", x, y, metT, yesT]]
def drE (x y : D) : List D := [.tup [.str "if", x, y, x, yesT], .tup [.str "if", x, y, noT, y]]
theorem dr5 (cf : Nat → List D → C) (d d2 x y c : D) (s : Sl) (hx : x.frz = x) (hy : y.frz = y) (hc : c.frz = c) (h : cf 19 [d, .int ((2 : Nat) : Int), .bl false] = .ok c [d2]) : evS txt.P cf [0] (.asg (.var 5) (.lst (.cons (.call 19 (.cons (.var 0) (.cons (.cst (.int 2)) (.cons (.cst (.bl false)) .nil)))) (.cons (.var 2) (.cons (.var 4) (.cons (.tup (.cons (.cst (.str "if")) (.cons (.var 2) (.cons (.var 3) (.cons (.var 4) (.cons (.var 4) .nil)))))) .nil)))))) [.v d, s, .v x, .v y, .v metT, .no] = .ok (.nx, [.v d2, s, .v x, .v y, .v metT, .v (.lst true (drL c x y))]) := by
  have h : cf 19 [d, .int 2, .bl false] = .ok c [d2] := h
  simp [R.bind, evSs, evS, evO, evOs, evI, asgT, asgTs, sSeq, sAsg, sIf, sRet, sEx, sAugSub, sAug, taken, tst, fVar, fGlo, fBin, fCmp, fCmp2, fNeg, fNot, fAnd, fOr, fIfe, fDsp, fIdx, fSli, fRev, fBi, fCall, fIsi, fMet, gVar, gSub, gTup, gCons, gNil, fsCons, ofD, look, Sl.get, Opd.rd, Opd.rdk, Opd.take, rds, rdks, takes, box, D.frz, D.frzs, D.kids, cmpD, inD, getD?, sliD, sliC, optI, truth, biD, Bi.copies, runF, outsOf, enter, augD, setD, atP, Exps.plain, bAddI, bMulR, bMulL, bMod, bDiv, bPow, bPow39, bAddL, bAddS, eqD_int, frzs_ints, fzs_ints, L2.atI, L2.ixN, D.fzs, D.fz, big, line, callF, prep, back, m0, m1, m2, m3, m4, m5, m6, m7, m8, m9, m10, m11, m12, m13, m14, m15, m16, m17, m18, m19, m20, m21, bSubI, bAddT, seqLT, fIfe, eqD_str, neD_str, neD_int, drL, hx, hy, hc, h, metT]
theorem dr6 (cf : Nat → List D → C) (d x y c : D) (s : Sl) (hx : x.frz = x) (hy : y.frz = y) (hc : c.frz = c) : evS txt.P cf [0] (.ex (.mut .append 5 .nil (.cons (.tup (.cons (.cst (.str "if")) (.cons (.var 2) (.cons (.var 3) (.cons (.var 4) (.cons (.tup (.cons (.cst (.str "yes")) .nil)) .nil)))))) .nil))) [.v d, s, .v x, .v y, .v metT, .v (.lst true (drL c x y))] = .ok (.nx, [.v d, s, .v x, .v y, .v metT, .v (.lst true (drM c x y))]) := by
  simp [R.bind, evSs, evS, evO, evOs, evI, asgT, asgTs, sSeq, sAsg, sIf, sRet, sEx, sAugSub, sAug, taken, tst, fVar, fGlo, fBin, fCmp, fCmp2, fNeg, fNot, fAnd, fOr, fIfe, fDsp, fIdx, fSli, fRev, fBi, fCall, fIsi, fMet, gVar, gSub, gTup, gCons, gNil, fsCons, ofD, look, Sl.get, Opd.rd, Opd.rdk, Opd.take, rds, rdks, takes, box, D.frz, D.frzs, D.kids, cmpD, inD, getD?, sliD, sliC, optI, truth, biD, Bi.copies, runF, outsOf, enter, augD, setD, atP, Exps.plain, bAddI, bMulR, bMulL, bMod, bDiv, bPow, bPow39, bAddL, bAddS, eqD_int, frzs_ints, fzs_ints, L2.atI, L2.ixN, D.fzs, D.fz, big, line, callF, prep, back, m0, m1, m2, m3, m4, m5, m6, m7, m8, m9, m10, m11, m12, m13, m14, m15, m16, m17, m18, m19, m20, m21, bSubI, bAddT, seqLT, fIfe, eqD_str, neD_str, neD_int, drL, drM, hx, hy, hc, metT, yesT, fMut, mutD, D.ty]
theorem dr7 (cf : Nat → List D → C) (d d2 x y c q : D) (s : Sl) (hx : x.frz = x) (hy : y.frz = y) (hc : c.frz = c) (zx : x.fz = true) (zy : y.fz = true) (zc : c.fz = true) (h : cf 9 [d, .lst false (drM c x y ++ drE x y)] = .ok q [d2]) : evS txt.P cf [0] (.ret (.call 9 (.cons (.var 0) (.cons (.bin .add (.var 5) (.lst (.cons (.tup (.cons (.cst (.str "if")) (.cons (.var 2) (.cons (.var 3) (.cons (.var 2) (.cons (.tup (.cons (.cst (.str "yes")) .nil)) .nil)))))) (.cons (.tup (.cons (.cst (.str "if")) (.cons (.var 2) (.cons (.var 3) (.cons (.tup (.cons (.cst (.str "no")) .nil)) (.cons (.var 3) .nil)))))) .nil)))) .nil)))) [.v d, s, .v x, .v y, .v metT, .v (.lst true (drM c x y))] = .ok (.rt q, [.v d2, s, .v x, .v y, .v metT, .v (.lst true (drM c x y))]) := by
  simp only [drM, drE, List.cons_append, List.nil_append, metT, yesT, noT] at h
  simp [R.bind, evSs, evS, evO, evOs, evI, asgT, asgTs, sSeq, sAsg, sIf, sRet, sEx, sAugSub, sAug, taken, tst, fVar, fGlo, fBin, fCmp, fCmp2, fNeg, fNot, fAnd, fOr, fIfe, fDsp, fIdx, fSli, fRev, fBi, fCall, fIsi, fMet, gVar, gSub, gTup, gCons, gNil, fsCons, ofD, look, Sl.get, Opd.rd, Opd.rdk, Opd.take, rds, rdks, takes, box, D.frz, D.frzs, D.kids, cmpD, inD, getD?, sliD, sliC, optI, truth, biD, Bi.copies, runF, outsOf, enter, augD, setD, atP, Exps.plain, bAddI, bMulR, bMulL, bMod, bDiv, bPow, bPow39, bAddL, bAddS, eqD_int, frzs_ints, fzs_ints, L2.atI, L2.ixN, D.fzs, D.fz, big, line, callF, prep, back, m0, m1, m2, m3, m4, m5, m6, m7, m8, m9, m10, m11, m12, m13, m14, m15, m16, m17, m18, m19, m20, m21, bSubI, bAddT, seqLT, fIfe, eqD_str, neD_str, neD_int, drM, hx, hy, hc, zx, zy, zc, metT, yesT, noT, h]
theorem dr8 (cf : Nat → List D → C) (d d2 x : D) (s : Sl) (h : cf 19 [d, .int ((4 : Nat) : Int), .bl true] = .ok x [d2]) : evS txt.P cf [0] (.ret (.call 19 (.cons (.var 0) (.cons (.cst (.int 4)) (.cons (.cst (.bl true)) .nil))))) [.v d, s, .no, .no, .no, .no] = .ok (.rt x, [.v d2, s, .no, .no, .no, .no]) := by
  have h : cf 19 [d, .int 4, .bl true] = .ok x [d2] := h
  simp [R.bind, evSs, evS, evO, evOs, evI, asgT, asgTs, sSeq, sAsg, sIf, sRet, sEx, sAugSub, sAug, taken, tst, fVar, fGlo, fBin, fCmp, fCmp2, fNeg, fNot, fAnd, fOr, fIfe, fDsp, fIdx, fSli, fRev, fBi, fCall, fIsi, fMet, gVar, gSub, gTup, gCons, gNil, fsCons, ofD, look, Sl.get, Opd.rd, Opd.rdk, Opd.take, rds, rdks, takes, box, D.frz, D.frzs, D.kids, cmpD, inD, getD?, sliD, sliC, optI, truth, biD, Bi.copies, runF, outsOf, enter, augD, setD, atP, Exps.plain, bAddI, bMulR, bMulL, bMod, bDiv, bPow, bPow39, bAddL, bAddS, eqD_int, frzs_ints, fzs_ints, L2.atI, L2.ixN, D.fzs, D.fz, big, line, callF, prep, back, m0, m1, m2, m3, m4, m5, m6, m7, m8, m9, m10, m11, m12, m13, m14, m15, m16, m17, m18, m19, m20, m21, bSubI, bAddT, seqLT, fIfe, eqD_str, neD_str, neD_int, h]
theorem th_if2 {x y u v : D} {w : Nat} (hx : Th 8 2 w x) (hy : Th 8 2 w y) (hu : Th 8 2 w u) (hv : Th 8 2 w v) (hw : w ≤ 117) : Th 8 21 15637 (.tup [.str "if", x, y, u, v]) := (th_if hx hy hu hv).up (Nat.le_refl _) (by omega) (by omega)
theorem one_w {s : Str} (h1 : s.length ≤ 8) (h2 : Lo s) : Th 8 2 117 (.tup [.str s]) := (th_of (d := 0) (w := 117) [(.str s, 10)] (by
  intro q hq
  rw [List.mem_singleton.1 hq]
  exact w_lo h1 h2 0) (by simp [R.bind, evSs, evS, evO, evOs, evI, asgT, asgTs, sSeq, sAsg, sIf, sRet, sEx, sAugSub, sAug, taken, tst, fVar, fGlo, fBin, fCmp, fCmp2, fNeg, fNot, fAnd, fOr, fIfe, fDsp, fIdx, fSli, fRev, fBi, fCall, fIsi, fMet, gVar, gSub, gTup, gCons, gNil, fsCons, ofD, look, Sl.get, Opd.rd, Opd.rdk, Opd.take, rds, rdks, takes, box, D.frz, D.frzs, D.kids, cmpD, inD, getD?, sliD, sliC, optI, truth, biD, Bi.copies, runF, outsOf, enter, augD, setD, atP, Exps.plain, bAddI, bMulR, bMulL, bMod, bDiv, bPow, bPow39, bAddL, bAddS, eqD_int, frzs_ints, fzs_ints, L2.atI, L2.ixN, D.fzs, D.fz, big, line, callF, prep, back, m0, m1, m2, m3, m4, m5, m6, m7, m8, m9, m10, m11, m12, m13, m14, m15, m16, m17, m18, m19, m20, m21, bSubI, bAddT, seqLT, fIfe, eqD_str, neD_str, neD_int])).up (Nat.le_refl _) (by omega) (Nat.le_refl _)
theorem t_met : Th 8 2 117 metT := one_w (s := "met") (by decide +kernel) (by unfold Lo; decide +kernel)
theorem t_yes : Th 8 2 117 yesT := one_w (s := "yes") (by decide +kernel) (by unfold Lo; decide +kernel)
theorem t_no : Th 8 2 117 noT := one_w (s := "no") (by decide +kernel) (by unfold Lo; decide +kernel)
theorem drawn_ok (n : Nat) (d : D) (hd : Bag d) : ∃ x d2, Th 8 21 15637 x ∧ Bag d2 ∧ callN txt.P txt.fs (n + 12) 20 [d] = .ok x [d2] := by
  have e : enter (txt.P.mode.getD 20 []) [d] ++ List.replicate (f20.ns - f20.np) Sl.no = [.v d, .no, .no, .no, .no, .no] := rfl
  have io : f20.io = [0] := rfl
  have bd : f20.body = .cons (.asg (.var 1) (.call 7 (.cons (.var 0) (.cons (.cst (.int 6)) .nil)))) (.cons (.ifS (.cmp .lt (.var 1) (.cst (.int 2))) (.cons (.ret (.tup (.cons (.call 9 (.cons (.var 0) (.cons (.lst (.cons (.cst (.str "alike")) (.cons (.cst (.str "unlike")) .nil))) .nil))) (.cons (.call 17 (.cons (.var 0) (.cons (.cst (.int 3)) .nil))) (.cons (.call 17 (.cons (.var 0) (.cons (.cst (.int 2)) .nil))) .nil))))) .nil) .nil) (.cons (.ifS (.cmp .eq (.var 1) (.cst (.int 5))) (.cons (.asg (.tup (.cons (.var 2) (.cons (.var 3) (.cons (.var 4) .nil)))) (.tup (.cons (.call 17 (.cons (.var 0) (.cons (.cst (.int 1)) .nil))) (.cons (.call 17 (.cons (.var 0) (.cons (.cst (.int 1)) .nil))) (.cons (.tup (.cons (.cst (.str "met")) .nil)) .nil))))) (.cons (.asg (.var 5) (.lst (.cons (.call 19 (.cons (.var 0) (.cons (.cst (.int 2)) (.cons (.cst (.bl false)) .nil)))) (.cons (.var 2) (.cons (.var 4) (.cons (.tup (.cons (.cst (.str "if")) (.cons (.var 2) (.cons (.var 3) (.cons (.var 4) (.cons (.var 4) .nil)))))) .nil)))))) (.cons (.ex (.mut .append 5 .nil (.cons (.tup (.cons (.cst (.str "if")) (.cons (.var 2) (.cons (.var 3) (.cons (.var 4) (.cons (.tup (.cons (.cst (.str "yes")) .nil)) .nil)))))) .nil))) (.cons (.ret (.call 9 (.cons (.var 0) (.cons (.bin .add (.var 5) (.lst (.cons (.tup (.cons (.cst (.str "if")) (.cons (.var 2) (.cons (.var 3) (.cons (.var 2) (.cons (.tup (.cons (.cst (.str "yes")) .nil)) .nil)))))) (.cons (.tup (.cons (.cst (.str "if")) (.cons (.var 2) (.cons (.var 3) (.cons (.tup (.cons (.cst (.str "no")) .nil)) (.cons (.var 3) .nil)))))) .nil)))) .nil)))) .nil)))) .nil) (.cons (.ret (.call 19 (.cons (.var 0) (.cons (.cst (.int 4)) (.cons (.cst (.bl true)) .nil))))) .nil))) := rfl
  rw [call_eq txt.P txt.fs (n + 11) 20 [d] f20 rfl rfl, e, io, bd]
  obtain ⟨w, d1, w1, w2, b1, c1⟩ := take_ok (n + 10) d 6 hd (by omega) (by omega)
  rw [bN (dr0 _ d d1 w c1)]
  have t1 := dr1 (callN txt.P txt.fs (n + 11)) d1 w
  have t2 := dr3 (callN txt.P txt.fs (n + 11)) d1 w
  by_cases h2 : w < 2
  · rw [decide_eq_true h2] at t1
    obtain ⟨x, d2, x1, b2, c2⟩ := one_lst (n + 9) d1 false [.str "alike", .str "unlike"] b1 (by decide) (by decide)
    obtain ⟨y, d3, y1, b3, c3⟩ := any_ok 3 (n + 4) d2 b2
    obtain ⟨z, d4, z1, b4, c4⟩ := any_ok 2 (n + 5) d3 b3
    have tx : Th 8 4 10 x := by
      simp only [D.frzs, D.frz, List.mem_cons, List.not_mem_nil, or_false] at x1
      rcases x1 with rfl | rfl
      · exact w_lo (by decide +kernel) (by unfold Lo; decide +kernel) 4
      · exact w_lo (by decide +kernel) (by unfold Lo; decide +kernel) 4
    have ty : Th 8 4 4401 y := y1.up (Nat.le_refl _) (by omega) (by decide)
    have tz : Th 8 4 729 z := z1.up (Nat.le_refl _) (by omega) (by decide)
    refine ⟨.tup [x, y, z], d4, ?_, b4, ?_⟩
    · exact (th_of (d := 4) (w := 15637) [(x, 10), (y, 4401), (z, 729)] (by
        intro q hq
        simp only [List.mem_cons, List.not_mem_nil, or_false] at hq
        rcases hq with rfl | rfl | rfl
        · exact tx
        · exact ty
        · exact tz) (by simp [R.bind, evSs, evS, evO, evOs, evI, asgT, asgTs, sSeq, sAsg, sIf, sRet, sEx, sAugSub, sAug, taken, tst, fVar, fGlo, fBin, fCmp, fCmp2, fNeg, fNot, fAnd, fOr, fIfe, fDsp, fIdx, fSli, fRev, fBi, fCall, fIsi, fMet, gVar, gSub, gTup, gCons, gNil, fsCons, ofD, look, Sl.get, Opd.rd, Opd.rdk, Opd.take, rds, rdks, takes, box, D.frz, D.frzs, D.kids, cmpD, inD, getD?, sliD, sliC, optI, truth, biD, Bi.copies, runF, outsOf, enter, augD, setD, atP, Exps.plain, bAddI, bMulR, bMulL, bMod, bDiv, bPow, bPow39, bAddL, bAddS, eqD_int, frzs_ints, fzs_ints, L2.atI, L2.ixN, D.fzs, D.fz, big, line, callF, prep, back, m0, m1, m2, m3, m4, m5, m6, m7, m8, m9, m10, m11, m12, m13, m14, m15, m16, m17, m18, m19, m20, m21, bSubI, bAddT, seqLT, fIfe, eqD_str, neD_str, neD_int])).up (Nat.le_refl _) (by omega) (Nat.le_refl _)
    · rw [bR ((sT t1).trans (bR (dr2 _ d1 d2 d3 d4 x y z _ (ok_frz tx.1) (ok_frz ty.1) (ok_frz tz.1) c2 c3 c4)))]
      exact runF0 _ _ d4 _ rfl
  · rw [decide_eq_false h2] at t1
    rw [bN (sF t1)]
    by_cases h5 : w = 5
    · rw [decide_eq_true h5] at t2
      obtain ⟨x, d2, x1, b2, c2⟩ := any_ok 1 (n + 6) d1 b1
      obtain ⟨y, d3, y1, b3, c3⟩ := any_ok 1 (n + 6) d2 b2
      obtain ⟨c, d4, z1, b4, c4⟩ := code_ok 2 (n + 2) false d3 b3
      have tx : Th 8 2 117 x := x1.up (Nat.le_refl _) (Nat.le_refl _) (by decide)
      have ty : Th 8 2 117 y := y1.up (Nat.le_refl _) (Nat.le_refl _) (by decide)
      have tc : Th 8 21 15637 c := z1.up (Nat.le_refl _) (by omega) (by decide)
      have up : ∀ {x : D}, Th 8 2 117 x → Th 8 21 15637 x := fun t => t.up (Nat.le_refl _) (by omega) (by omega)
      have all : ∀ q ∈ drM c x y ++ drE x y, Th 8 21 15637 q := by
        intro q hq
        simp only [drM, drE, List.cons_append, List.nil_append, List.mem_cons, List.not_mem_nil, or_false] at hq
        rcases hq with rfl | rfl | rfl | rfl | rfl | rfl | rfl
        · exact tc
        · exact up tx
        · exact up t_met
        · exact th_if2 tx ty t_met t_met (by omega)
        · exact th_if2 tx ty t_met t_yes (by omega)
        · exact th_if2 tx ty tx t_yes (by omega)
        · exact th_if2 tx ty t_no ty (by omega)
      have okA : okDs 8 (drM c x y ++ drE x y) = true := okDs_iff.2 fun q hq => (all q hq).1
      obtain ⟨q, d5, q1, b5, c5⟩ := one_lst (n + 9) d4 false (drM c x y ++ drE x y) b4 (by simp [R.bind, evSs, evS, evO, evOs, evI, asgT, asgTs, sSeq, sAsg, sIf, sRet, sEx, sAugSub, sAug, taken, tst, fVar, fGlo, fBin, fCmp, fCmp2, fNeg, fNot, fAnd, fOr, fIfe, fDsp, fIdx, fSli, fRev, fBi, fCall, fIsi, fMet, gVar, gSub, gTup, gCons, gNil, fsCons, ofD, look, Sl.get, Opd.rd, Opd.rdk, Opd.take, rds, rdks, takes, box, D.frz, D.frzs, D.kids, cmpD, inD, getD?, sliD, sliC, optI, truth, biD, Bi.copies, runF, outsOf, enter, augD, setD, atP, Exps.plain, bAddI, bMulR, bMulL, bMod, bDiv, bPow, bPow39, bAddL, bAddS, eqD_int, frzs_ints, fzs_ints, L2.atI, L2.ixN, D.fzs, D.fz, big, line, callF, prep, back, m0, m1, m2, m3, m4, m5, m6, m7, m8, m9, m10, m11, m12, m13, m14, m15, m16, m17, m18, m19, m20, m21, bSubI, bAddT, seqLT, fIfe, eqD_str, neD_str, neD_int, drM]) (by simp [R.bind, evSs, evS, evO, evOs, evI, asgT, asgTs, sSeq, sAsg, sIf, sRet, sEx, sAugSub, sAug, taken, tst, fVar, fGlo, fBin, fCmp, fCmp2, fNeg, fNot, fAnd, fOr, fIfe, fDsp, fIdx, fSli, fRev, fBi, fCall, fIsi, fMet, gVar, gSub, gTup, gCons, gNil, fsCons, ofD, look, Sl.get, Opd.rd, Opd.rdk, Opd.take, rds, rdks, takes, box, D.frz, D.frzs, D.kids, cmpD, inD, getD?, sliD, sliC, optI, truth, biD, Bi.copies, runF, outsOf, enter, augD, setD, atP, Exps.plain, bAddI, bMulR, bMulL, bMod, bDiv, bPow, bPow39, bAddL, bAddS, eqD_int, frzs_ints, fzs_ints, L2.atI, L2.ixN, D.fzs, D.fz, big, line, callF, prep, back, m0, m1, m2, m3, m4, m5, m6, m7, m8, m9, m10, m11, m12, m13, m14, m15, m16, m17, m18, m19, m20, m21, bSubI, bAddT, seqLT, fIfe, eqD_str, neD_str, neD_int, drM, drE])
      rw [ok_frzs okA] at q1
      refine ⟨q, d5, all q q1, b5, ?_⟩
      have fx := ok_frz tx.1
      have fy := ok_frz ty.1
      have fc := ok_frz tc.1
      rw [bR ((sT t2).trans ((bN (dr4 _ d1 d2 d3 x y _ c2 c3)).trans ((bN (dr5 _ d3 d4 x y c _ fx fy fc c4)).trans ((bN (dr6 _ d4 x y c _ fx fy fc)).trans (bR (dr7 _ d4 d5 x y c q _ fx fy fc (ok_fz _ tx.1) (ok_fz _ ty.1) (ok_fz _ tc.1) c5))))))]
      exact runF0 _ q d5 _ rfl
    · rw [decide_eq_false h5] at t2
      obtain ⟨x, d2, x1, b2, c2⟩ := code_ok 4 n true d1 b1
      refine ⟨x, d2, x1.up (Nat.le_refl _) (by omega) (by decide), b2, ?_⟩
      rw [bN (sF t2), bR (dr8 _ d1 d2 x _ c2)]
      exact runF0 _ x d2 _ rfl
end Law

set_option Elab.async false
set_option linter.all false
set_option maxRecDepth 100000
set_option maxHeartbeats 400000
namespace Law
open Z PySem

/-! ## k13: the law -/
def wB (k w : Nat) : Nat := match k with | 0 => w | k + 1 => wB k (2 * w + 130)
def ev (s0 : Sl) (d : D) (L : List D) (s3 s4 s5 s6 s7 s8 s9 s10 s11 s12 : Sl) : Z.Env := [s0, .v d, .v (.lst true L), s3, s4, s5, s6, s7, s8, s9, s10, s11, s12]
section
variable (cf : Nat → List D → C) (s0 : Sl) (d d2 : D) (L : List D) (s3 s4 s5 s6 s7 s8 s9 s10 s11 s12 : Sl)
theorem tn0 (x : D) (h : cf 20 [d] = .ok x [d2]) : evS txt.P cf [] (.asg (.var 4) (.call 20 (.cons (.var 1) .nil))) (ev s0 d L s3 s4 s5 s6 s7 s8 s9 s10 s11 s12) = .ok (.nx, ev s0 d2 L s3 (.v x) s5 s6 s7 s8 s9 s10 s11 s12) := by
  simp [R.bind, evSs, evS, evO, evOs, evI, asgT, asgTs, sSeq, sAsg, sIf, sRet, sEx, sAugSub, sAug, taken, tst, fVar, fGlo, fBin, fCmp, fCmp2, fNeg, fNot, fAnd, fOr, fIfe, fDsp, fIdx, fSli, fRev, fBi, fCall, fIsi, fMet, gVar, gSub, gTup, gCons, gNil, fsCons, ofD, look, Sl.get, Opd.rd, Opd.rdk, Opd.take, rds, rdks, takes, box, D.frz, D.frzs, D.kids, cmpD, inD, getD?, sliD, sliC, optI, truth, biD, Bi.copies, runF, outsOf, enter, augD, setD, atP, Exps.plain, bAddI, bMulR, bMulL, bMod, bDiv, bPow, bPow39, bAddL, bAddS, eqD_int, frzs_ints, fzs_ints, L2.atI, L2.ixN, D.fzs, D.fz, big, line, callF, prep, back, m0, m1, m2, m3, m4, m5, m6, m7, m8, m9, m10, m11, m12, m13, m14, m15, m16, m17, m18, m19, m20, m21, bSubI, bAddT, seqLT, fIfe, eqD_str, neD_str, neD_int, ev, h]
theorem tn1 (y z : D) (h : cf 18 [d, y.frz] = .ok z [d2]) : evSs txt.P cf [] (.cons (.asg (.var 4) (.call 18 (.cons (.var 1) (.cons (.var 4) .nil)))) .nil) (ev s0 d L s3 (.v y) s5 s6 s7 s8 s9 s10 s11 s12) = .ok (.nx, ev s0 d2 L s3 (.v z) s5 s6 s7 s8 s9 s10 s11 s12) := by
  have f : y.frz.frz = y.frz := frz_of_fz _ (fz_frz y)
  simp [R.bind, evSs, evS, evO, evOs, evI, asgT, asgTs, sSeq, sAsg, sIf, sRet, sEx, sAugSub, sAug, taken, tst, fVar, fGlo, fBin, fCmp, fCmp2, fNeg, fNot, fAnd, fOr, fIfe, fDsp, fIdx, fSli, fRev, fBi, fCall, fIsi, fMet, gVar, gSub, gTup, gCons, gNil, fsCons, ofD, look, Sl.get, Opd.rd, Opd.rdk, Opd.take, rds, rdks, takes, box, D.frz, D.frzs, D.kids, cmpD, inD, getD?, sliD, sliC, optI, truth, biD, Bi.copies, runF, outsOf, enter, augD, setD, atP, Exps.plain, bAddI, bMulR, bMulL, bMod, bDiv, bPow, bPow39, bAddL, bAddS, eqD_int, frzs_ints, fzs_ints, L2.atI, L2.ixN, D.fzs, D.fz, big, line, callF, prep, back, m0, m1, m2, m3, m4, m5, m6, m7, m8, m9, m10, m11, m12, m13, m14, m15, m16, m17, m18, m19, m20, m21, bSubI, bAddT, seqLT, fIfe, eqD_str, neD_str, neD_int, ev, h, f]
theorem tn2 (y : D) (hl : L.length < 1000) : evS txt.P cf [] (.ex (.mut .append 2 .nil (.cons (.var 4) .nil))) (ev s0 d L s3 (.v y) s5 s6 s7 s8 s9 s10 s11 s12) = .ok (.nx, ev s0 d (L ++ [y.frz]) s3 (.v y.frz) s5 s6 s7 s8 s9 s10 s11 s12) := by
  have l : L.length < 1048576 := by omega
  simp [R.bind, evSs, evS, evO, evOs, evI, asgT, asgTs, sSeq, sAsg, sIf, sRet, sEx, sAugSub, sAug, taken, tst, fVar, fGlo, fBin, fCmp, fCmp2, fNeg, fNot, fAnd, fOr, fIfe, fDsp, fIdx, fSli, fRev, fBi, fCall, fIsi, fMet, gVar, gSub, gTup, gCons, gNil, fsCons, ofD, look, Sl.get, Opd.rd, Opd.rdk, Opd.take, rds, rdks, takes, box, D.frz, D.frzs, D.kids, cmpD, inD, getD?, sliD, sliC, optI, truth, biD, Bi.copies, runF, outsOf, enter, augD, setD, atP, Exps.plain, bAddI, bMulR, bMulL, bMod, bDiv, bPow, bPow39, bAddL, bAddS, eqD_int, frzs_ints, fzs_ints, L2.atI, L2.ixN, D.fzs, D.fz, big, line, callF, prep, back, m0, m1, m2, m3, m4, m5, m6, m7, m8, m9, m10, m11, m12, m13, m14, m15, m16, m17, m18, m19, m20, m21, bSubI, bAddT, seqLT, fIfe, eqD_str, neD_str, neD_int, ev, fMut, mutD, D.ty, l]
theorem rng (r : Int) (h : cf 9 [d, .lst false [.int 0, .int 0, .int 1, .int 1, .int 2]] = .ok (.int r) [d2]) (h1 : 0 ≤ r) (h2 : r ≤ 2) : evI txt.P cf [] (.range (.cons (.call 9 (.cons (.var 1) (.cons (.lst (.cons (.cst (.int 0)) (.cons (.cst (.int 0)) (.cons (.cst (.int 1)) (.cons (.cst (.int 1)) (.cons (.cst (.int 2)) .nil)))))) .nil))) .nil)) (ev s0 d L s3 s4 s5 s6 s7 s8 s9 s10 s11 s12) = .ok ((List.range r.toNat).map fun (i : Nat) => D.int (i : Int), ev s0 d2 L s3 s4 s5 s6 s7 s8 s9 s10 s11 s12) := by
  have q1 : r < 4611686018427387904 := by omega
  have q2 : -4611686018427387904 ≤ r := by omega
  simp [R.bind, evSs, evS, evO, evOs, evI, asgT, asgTs, sSeq, sAsg, sIf, sRet, sEx, sAugSub, sAug, taken, tst, fVar, fGlo, fBin, fCmp, fCmp2, fNeg, fNot, fAnd, fOr, fIfe, fDsp, fIdx, fSli, fRev, fBi, fCall, fIsi, fMet, gVar, gSub, gTup, gCons, gNil, fsCons, ofD, look, Sl.get, Opd.rd, Opd.rdk, Opd.take, rds, rdks, takes, box, D.frz, D.frzs, D.kids, cmpD, inD, getD?, sliD, sliC, optI, truth, biD, Bi.copies, runF, outsOf, enter, augD, setD, atP, Exps.plain, bAddI, bMulR, bMulL, bMod, bDiv, bPow, bPow39, bAddL, bAddS, eqD_int, frzs_ints, fzs_ints, L2.atI, L2.ixN, D.fzs, D.fz, big, line, callF, prep, back, m0, m1, m2, m3, m4, m5, m6, m7, m8, m9, m10, m11, m12, m13, m14, m15, m16, m17, m18, m19, m20, m21, bSubI, bAddT, seqLT, fIfe, eqD_str, neD_str, neD_int, ev, iRange, rangeD, h, q1, q2]
end
theorem bent_loop (cf : Nat → List D → C) (hb : ∀ (m : Nat) (x d : D), 8 ≤ m → m ≤ 10 → Bag d → okD m x = true → x.depth ≤ 40 → wt x ≤ 100000 → ∃ y d2, bentR m x y.frz ∧ Bag d2 ∧ cf 18 [d, x] = .ok y [d2]) (s0 : Sl) (L : List D) (s3 s6 s7 s8 s9 s10 s11 s12 : Sl) :
    ∀ (is : List D) (m k w : Nat) (d y : D) (s5 : Sl), is.length ≤ 2 → 8 ≤ m → m + is.length ≤ 11 → k + 4 * is.length ≤ 40 → wB is.length w ≤ 100000 → w ≤ wB is.length w → Bag d → Th m k w y.frz → ∃ z d2 t5, Th (m + is.length) (k + 4 * is.length) (wB is.length w) z.frz ∧ Bag d2 ∧
    forL (asgT txt.P cf [] (.var 5)) (evSs txt.P cf [] (.cons (.asg (.var 4) (.call 18 (.cons (.var 1) (.cons (.var 4) .nil)))) .nil)) is (ev s0 d L s3 (.v y) s5 s6 s7 s8 s9 s10 s11 s12) = .ok (.nx, ev s0 d2 L s3 (.v z) t5 s6 s7 s8 s9 s10 s11 s12) := by
  have mono : ∀ (k a b : Nat), a ≤ b → wB k a ≤ wB k b := by
    intro k
    induction k with
    | zero => intro a b h; exact h
    | succ k ih => intro a b h; exact ih _ _ (by omega)
  have ge : ∀ (k a : Nat), a ≤ wB k a := by
    intro k
    induction k with
    | zero => intro a; exact Nat.le_refl _
    | succ k ih => intro a; have := ih (2 * a + 130); simp only [wB]; omega
  intro is
  induction is with
  | nil => intro m k w d y s5 _ _ _ _ _ _ hd hy; exact ⟨y, d, s5, hy, hd, rfl⟩
  | cons i is ih =>
    intro m k w d y s5 hl h8 h11 hk hw hw2 hd hy
    simp only [List.length_cons] at hl h11 hk hw hw2 ⊢
    obtain ⟨z, d1, z1, b1, c1⟩ := hb m y.frz d h8 (by omega) hd hy.1 (by have := hy.2.1; omega) (by have := hy.2.2; omega)
    have tz : Th (m + 1) (k + 4) (2 * w + 130) z.frz := ⟨z1.1, by have := z1.2.1; have := hy.2.1; omega, by have := z1.2.2; have := hy.2.2; omega⟩
    obtain ⟨u, d2, t5, g1, g2, g3⟩ := ih (m + 1) (k + 4) (2 * w + 130) d1 z (.v i) (by omega) (by omega) (by omega) (by omega) hw (ge _ _) b1 tz
    refine ⟨u, d2, t5, g1.up (by omega) (by omega) (Nat.le_refl _), g2, ?_⟩
    rw [forL]
    have e1 : asgT txt.P cf [] (.var 5) i (ev s0 d L s3 (.v y) s5 s6 s7 s8 s9 s10 s11 s12) = .ok (ev s0 d L s3 (.v y) (.v i) s6 s7 s8 s9 s10 s11 s12) := by simp [R.bind, evSs, evS, evO, evOs, evI, asgT, asgTs, sSeq, sAsg, sIf, sRet, sEx, sAugSub, sAug, taken, tst, fVar, fGlo, fBin, fCmp, fCmp2, fNeg, fNot, fAnd, fOr, fIfe, fDsp, fIdx, fSli, fRev, fBi, fCall, fIsi, fMet, gVar, gSub, gTup, gCons, gNil, fsCons, ofD, look, Sl.get, Opd.rd, Opd.rdk, Opd.take, rds, rdks, takes, box, D.frz, D.frzs, D.kids, cmpD, inD, getD?, sliD, sliC, optI, truth, biD, Bi.copies, runF, outsOf, enter, augD, setD, atP, Exps.plain, bAddI, bMulR, bMulL, bMod, bDiv, bPow, bPow39, bAddL, bAddS, eqD_int, frzs_ints, fzs_ints, L2.atI, L2.ixN, D.fzs, D.fz, big, line, callF, prep, back, m0, m1, m2, m3, m4, m5, m6, m7, m8, m9, m10, m11, m12, m13, m14, m15, m16, m17, m18, m19, m20, m21, bSubI, bAddT, seqLT, fIfe, eqD_str, neD_str, neD_int, ev]
    rw [e1]
    simp only [R.bind]
    rw [tn1 cf s0 d d1 L s3 (.v i) s6 s7 s8 s9 s10 s11 s12 y z c1]
    exact g3
theorem turn1 (s0 : Sl) (L : List D) (hL : L.length < 1000) (s3 s4 s5 s6 s7 s8 s9 s10 s11 s12 : Sl) (d : D) (hd : Bag d) : ∃ y d2 t4 t5, Th 10 29 62938 y ∧ Bag d2 ∧
    evSs txt.P (callN txt.P txt.fs 59) [] (.cons (.asg (.var 4) (.call 20 (.cons (.var 1) .nil))) (.cons (.forS (.var 5) (.range (.cons (.call 9 (.cons (.var 1) (.cons (.lst (.cons (.cst (.int 0)) (.cons (.cst (.int 0)) (.cons (.cst (.int 1)) (.cons (.cst (.int 1)) (.cons (.cst (.int 2)) .nil)))))) .nil))) .nil)) (.cons (.asg (.var 4) (.call 18 (.cons (.var 1) (.cons (.var 4) .nil)))) .nil)) (.cons (.ex (.mut .append 2 .nil (.cons (.var 4) .nil))) .nil))) (ev s0 d L s3 s4 s5 s6 s7 s8 s9 s10 s11 s12) = .ok (.nx, ev s0 d2 (L ++ [y]) s3 t4 t5 s6 s7 s8 s9 s10 s11 s12) := by
  obtain ⟨x, d1, x1, b1, c1⟩ := drawn_ok 47 d hd
  obtain ⟨q, d2, q1, b2, c2⟩ := one_lst 57 d1 false [.int 0, .int 0, .int 1, .int 1, .int 2] b1 (by decide) (by decide)
  obtain ⟨r, rfl, r0, r2⟩ : ∃ r : Int, q = .int r ∧ 0 ≤ r ∧ r ≤ 2 := by
    simp only [D.frzs, D.frz, List.mem_cons, List.not_mem_nil, or_false] at q1
    rcases q1 with rfl | rfl | rfl | rfl | rfl <;> exact ⟨_, rfl, by decide, by decide⟩
  have fx := ok_frz x1.1
  have hlen : ((List.range r.toNat).map fun (i : Nat) => D.int (i : Int)).length ≤ 2 := by simp [R.bind, evSs, evS, evO, evOs, evI, asgT, asgTs, sSeq, sAsg, sIf, sRet, sEx, sAugSub, sAug, taken, tst, fVar, fGlo, fBin, fCmp, fCmp2, fNeg, fNot, fAnd, fOr, fIfe, fDsp, fIdx, fSli, fRev, fBi, fCall, fIsi, fMet, gVar, gSub, gTup, gCons, gNil, fsCons, ofD, look, Sl.get, Opd.rd, Opd.rdk, Opd.take, rds, rdks, takes, box, D.frz, D.frzs, D.kids, cmpD, inD, getD?, sliD, sliC, optI, truth, biD, Bi.copies, runF, outsOf, enter, augD, setD, atP, Exps.plain, bAddI, bMulR, bMulL, bMod, bDiv, bPow, bPow39, bAddL, bAddS, eqD_int, frzs_ints, fzs_ints, L2.atI, L2.ixN, D.fzs, D.fz, big, line, callF, prep, back, m0, m1, m2, m3, m4, m5, m6, m7, m8, m9, m10, m11, m12, m13, m14, m15, m16, m17, m18, m19, m20, m21, bSubI, bAddT, seqLT, fIfe, eqD_str, neD_str, neD_int]; omega
  have hw : ∀ k, k ≤ 2 → wB k 15637 ≤ 62938 := by decide
  have ge : ∀ k, k ≤ 2 → 15637 ≤ wB k 15637 := by decide
  obtain ⟨z, d3, t5, z1, b3, c3⟩ := bent_loop (callN txt.P txt.fs 59) (fun m x d h8 h10 hd ok h1 h2 => bent_ok m h8 h10 40 14 x d hd ok h1 h2) s0 L s3 s6 s7 s8 s9 s10 s11 s12 ((List.range r.toNat).map fun (i : Nat) => D.int (i : Int)) 8 21 15637 d2 x s5 hlen (by omega) (by omega) (by omega) (by have := hw _ hlen; omega) (ge _ hlen) b2 (by rw [fx]; exact x1)
  refine ⟨z.frz, d3, .v z.frz, t5, z1.up (by omega) (by omega) (hw _ hlen), b3, ?_⟩
  have lp : evS txt.P (callN txt.P txt.fs 59) [] (.forS (.var 5) (.range (.cons (.call 9 (.cons (.var 1) (.cons (.lst (.cons (.cst (.int 0)) (.cons (.cst (.int 0)) (.cons (.cst (.int 1)) (.cons (.cst (.int 1)) (.cons (.cst (.int 2)) .nil)))))) .nil))) .nil)) (.cons (.asg (.var 4) (.call 18 (.cons (.var 1) (.cons (.var 4) .nil)))) .nil)) (ev s0 d1 L s3 (.v x) s5 s6 s7 s8 s9 s10 s11 s12) = .ok (.nx, ev s0 d3 L s3 (.v z) t5 s6 s7 s8 s9 s10 s11 s12) := by
    rw [evS, sFor, rng (callN txt.P txt.fs 59) s0 d1 d2 L s3 (.v x) s5 s6 s7 s8 s9 s10 s11 s12 r c2 r0 r2]
    exact c3
  rw [bN (tn0 _ s0 d d1 L s3 s4 s5 s6 s7 s8 s9 s10 s11 s12 x c1), bN lp, bN (tn2 _ s0 d3 L s3 t5 s6 s7 s8 s9 s10 s11 s12 z hL)]
  rfl
theorem turns (s0 s6 s7 s8 s9 s10 s11 s12 : Sl) : ∀ (is : List D) (L : List D) (s3 s4 s5 : Sl) (d : D), Bag d → L.length + is.length ≤ 14 → (∀ x ∈ L, Th 10 29 62938 x) → ∃ M d2 t3 t4 t5, Bag d2 ∧ M.length = L.length + is.length ∧ (∀ x ∈ M, Th 10 29 62938 x) ∧
    forL (asgT txt.P (callN txt.P txt.fs 59) [] (.var 3)) (evSs txt.P (callN txt.P txt.fs 59) [] (.cons (.asg (.var 4) (.call 20 (.cons (.var 1) .nil))) (.cons (.forS (.var 5) (.range (.cons (.call 9 (.cons (.var 1) (.cons (.lst (.cons (.cst (.int 0)) (.cons (.cst (.int 0)) (.cons (.cst (.int 1)) (.cons (.cst (.int 1)) (.cons (.cst (.int 2)) .nil)))))) .nil))) .nil)) (.cons (.asg (.var 4) (.call 18 (.cons (.var 1) (.cons (.var 4) .nil)))) .nil)) (.cons (.ex (.mut .append 2 .nil (.cons (.var 4) .nil))) .nil)))) is (ev s0 d L s3 s4 s5 s6 s7 s8 s9 s10 s11 s12) = .ok (.nx, ev s0 d2 M t3 t4 t5 s6 s7 s8 s9 s10 s11 s12) := by
  intro is
  induction is with
  | nil => intro L s3 s4 s5 d hd hl hL; exact ⟨L, d, s3, s4, s5, hd, rfl, hL, rfl⟩
  | cons i is ih =>
    intro L s3 s4 s5 d hd hl hL
    simp only [List.length_cons] at hl
    obtain ⟨y, d1, t4, t5, y1, b1, c1⟩ := turn1 s0 L (by omega) (.v i) s4 s5 s6 s7 s8 s9 s10 s11 s12 d hd
    obtain ⟨M, d2, u3, u4, u5, g1, g2, g3, g4⟩ := ih (L ++ [y]) (.v i) t4 t5 d1 b1 (by simp only [List.length_append, List.length_cons, List.length_nil]; omega) (by
      intro a h; rcases List.mem_append.1 h with h | h
      · exact hL a h
      · rw [List.mem_singleton.1 h]; exact y1)
    refine ⟨M, d2, u3, u4, u5, g1, by rw [g2]; simp only [List.length_append, List.length_cons, List.length_nil]; omega, g3, ?_⟩
    rw [forL]
    have e1 : asgT txt.P (callN txt.P txt.fs 59) [] (.var 3) i (ev s0 d L s3 s4 s5 s6 s7 s8 s9 s10 s11 s12) = .ok (ev s0 d L (.v i) s4 s5 s6 s7 s8 s9 s10 s11 s12) := by simp [R.bind, evSs, evS, evO, evOs, evI, asgT, asgTs, sSeq, sAsg, sIf, sRet, sEx, sAugSub, sAug, taken, tst, fVar, fGlo, fBin, fCmp, fCmp2, fNeg, fNot, fAnd, fOr, fIfe, fDsp, fIdx, fSli, fRev, fBi, fCall, fIsi, fMet, gVar, gSub, gTup, gCons, gNil, fsCons, ofD, look, Sl.get, Opd.rd, Opd.rdk, Opd.take, rds, rdks, takes, box, D.frz, D.frzs, D.kids, cmpD, inD, getD?, sliD, sliC, optI, truth, biD, Bi.copies, runF, outsOf, enter, augD, setD, atP, Exps.plain, bAddI, bMulR, bMulL, bMod, bDiv, bPow, bPow39, bAddL, bAddS, eqD_int, frzs_ints, fzs_ints, L2.atI, L2.ixN, D.fzs, D.fz, big, line, callF, prep, back, m0, m1, m2, m3, m4, m5, m6, m7, m8, m9, m10, m11, m12, m13, m14, m15, m16, m17, m18, m19, m20, m21, bSubI, bAddT, seqLT, fIfe, eqD_str, neD_str, neD_int, ev]
    rw [e1]
    simp only [R.bind]
    rw [c1]
    exact g4
end Law

set_option Elab.async false
set_option linter.all false
set_option maxRecDepth 100000
set_option maxHeartbeats 400000
namespace Law
open Z PySem

section
variable (cf : Nat → List D → C) (s0 : Sl) (d d2 : D) (L : List D) (s3 s4 s5 s6 s7 s8 s9 s10 s11 s12 : Sl)
theorem lw3 (k : Str) (h : biD .repr [.lst true L] = some (.str k)) : evS txt.P cf [] (.asg (.var 6) (.bi .repr (.cons (.var 2) .nil))) (ev s0 d L s3 s4 s5 s6 s7 s8 s9 s10 s11 s12) = .ok (.nx, ev s0 d L s3 s4 s5 (.v (.str k)) s7 s8 s9 s10 s11 s12) := by
  simp [R.bind, evSs, evS, evO, evOs, evI, asgT, asgTs, sSeq, sAsg, sIf, sRet, sEx, sAugSub, sAug, taken, tst, fVar, fGlo, fBin, fCmp, fCmp2, fNeg, fNot, fAnd, fOr, fIfe, fDsp, fIdx, fSli, fRev, fBi, fCall, fIsi, fMet, gVar, gSub, gTup, gCons, gNil, fsCons, ofD, look, Sl.get, Opd.rd, Opd.rdk, Opd.take, rds, rdks, takes, box, D.frz, D.frzs, D.kids, cmpD, inD, getD?, sliD, sliC, optI, truth, Bi.copies, runF, outsOf, enter, augD, setD, atP, Exps.plain, bAddI, bMulR, bMulL, bMod, bDiv, bPow, bPow39, bAddL, bAddS, eqD_int, frzs_ints, fzs_ints, L2.atI, L2.ixN, D.fzs, D.fz, big, line, callF, prep, back, m0, m1, m2, m3, m4, m5, m6, m7, m8, m9, m10, m11, m12, m13, m14, m15, m16, m17, m18, m19, m20, m21, bSubI, bAddT, seqLT, fIfe, eqD_str, neD_str, neD_int, ev, h]
theorem lw4 (hf : D.frzs L = L) (hz : D.fzs L = true) (hl : L.length ≤ 1000) : ∃ M : List D, (∀ x ∈ M, x ∈ L) ∧ evI txt.P cf [] (.ex (.bin .add (.var 2) (.sli (.var 2) (.cst .non) (.cst (.int 3))))) (ev s0 d L s3 s4 s5 s6 s7 s8 s9 s10 s11 s12) = .ok (M, ev s0 d L s3 s4 s5 s6 s7 s8 s9 s10 s11 s12) := by
  have mem : ∀ x ∈ cutD L none (some 3), x ∈ L := fun x hx => List.mem_of_mem_drop (List.mem_of_mem_take hx)
  have cl : (cutD L none (some 3)).length ≤ 1000 := by
    simp only [cutD, List.length_take, List.length_drop]; omega
  have cz : D.fzs (cutD L none (some 3)) = true := by
    have : ∀ ys : List D, (∀ x ∈ ys, x.fz = true) → D.fzs ys = true := by
      intro ys; induction ys with
      | nil => intro _; rfl
      | cons y ys ih => intro h; simp [R.bind, evSs, evS, evO, evOs, evI, asgT, asgTs, sSeq, sAsg, sIf, sRet, sEx, sAugSub, sAug, taken, tst, fVar, fGlo, fBin, fCmp, fCmp2, fNeg, fNot, fAnd, fOr, fIfe, fDsp, fIdx, fSli, fRev, fBi, fCall, fIsi, fMet, gVar, gSub, gTup, gCons, gNil, fsCons, ofD, look, Sl.get, Opd.rd, Opd.rdk, Opd.take, rds, rdks, takes, box, D.frz, D.frzs, D.kids, cmpD, inD, getD?, sliD, sliC, optI, truth, biD, Bi.copies, runF, outsOf, enter, augD, setD, atP, Exps.plain, bAddI, bMulR, bMulL, bMod, bDiv, bPow, bPow39, bAddL, bAddS, eqD_int, frzs_ints, fzs_ints, L2.atI, L2.ixN, D.fzs, D.fz, big, line, callF, prep, back, m0, m1, m2, m3, m4, m5, m6, m7, m8, m9, m10, m11, m12, m13, m14, m15, m16, m17, m18, m19, m20, m21, bSubI, bAddT, seqLT, fIfe, eqD_str, neD_str, neD_int, h y (List.mem_cons_self ..), ih fun x hx => h x (List.mem_cons_of_mem _ hx)]
    have all : ∀ ys : List D, D.fzs ys = true → ∀ x ∈ ys, x.fz = true := by
      intro ys; induction ys with
      | nil => intro _ x h; exact nomatch h
      | cons y ys ih =>
        intro h x hx
        simp only [D.fzs, Bool.and_eq_true] at h
        rcases List.mem_cons.1 hx with rfl | hx
        · exact h.1
        · exact ih h.2 x hx
    exact this _ fun x hx => all L hz x (mem x hx)
  have cf2 := frzs_of_fzs _ cz
  refine ⟨L ++ cutD L none (some 3), fun x hx => ?_, ?_⟩
  · rcases List.mem_append.1 hx with h | h
    · exact h
    · exact mem x h
  · have l2 : L.length + (cutD L none (some 3)).length ≤ 1048576 := by omega
    have az : D.frzs (L ++ cutD L none (some 3)) = L ++ cutD L none (some 3) := by
      have : ∀ xs ys : List D, D.frzs (xs ++ ys) = D.frzs xs ++ D.frzs ys := by
        intro xs ys; induction xs with
        | nil => rfl
        | cons x xs ih => simp [R.bind, evSs, evS, evO, evOs, evI, asgT, asgTs, sSeq, sAsg, sIf, sRet, sEx, sAugSub, sAug, taken, tst, fVar, fGlo, fBin, fCmp, fCmp2, fNeg, fNot, fAnd, fOr, fIfe, fDsp, fIdx, fSli, fRev, fBi, fCall, fIsi, fMet, gVar, gSub, gTup, gCons, gNil, fsCons, ofD, look, Sl.get, Opd.rd, Opd.rdk, Opd.take, rds, rdks, takes, box, D.frz, D.frzs, D.kids, cmpD, inD, getD?, sliD, sliC, optI, truth, biD, Bi.copies, runF, outsOf, enter, augD, setD, atP, Exps.plain, bAddI, bMulR, bMulL, bMod, bDiv, bPow, bPow39, bAddL, bAddS, eqD_int, frzs_ints, fzs_ints, L2.atI, L2.ixN, D.fzs, D.fz, big, line, callF, prep, back, m0, m1, m2, m3, m4, m5, m6, m7, m8, m9, m10, m11, m12, m13, m14, m15, m16, m17, m18, m19, m20, m21, bSubI, bAddT, seqLT, fIfe, eqD_str, neD_str, neD_int, ih]
      rw [this, hf, cf2]
    simp [R.bind, evSs, evS, evO, evOs, evI, asgT, asgTs, sSeq, sAsg, sIf, sRet, sEx, sAugSub, sAug, taken, tst, fVar, fGlo, fBin, fCmp, fCmp2, fNeg, fNot, fAnd, fOr, fIfe, fDsp, fIdx, fSli, fRev, fBi, fCall, fIsi, fMet, gVar, gSub, gTup, gCons, gNil, fsCons, ofD, look, Sl.get, Opd.rd, Opd.rdk, Opd.take, rds, rdks, takes, box, D.frz, D.frzs, D.kids, cmpD, inD, getD?, sliD, sliC, optI, truth, biD, Bi.copies, runF, outsOf, enter, augD, setD, atP, Exps.plain, bAddI, bMulR, bMulL, bMod, bDiv, bPow, bPow39, bAddL, bAddS, eqD_int, frzs_ints, fzs_ints, L2.atI, L2.ixN, D.fzs, D.fz, big, line, callF, prep, back, m0, m1, m2, m3, m4, m5, m6, m7, m8, m9, m10, m11, m12, m13, m14, m15, m16, m17, m18, m19, m20, m21, bSubI, bAddT, seqLT, fIfe, eqD_str, neD_str, neD_int, ev, iEx, fixed, Opd.fix, iterOf, hf, hz, cz, cf2, l2, az]
theorem lw4a (x : D) (a b : Bool) (hx : x.frz = x) (h1 : cf 4 [x] = .ok (.bl a) []) (h2 : cf 5 [x] = .ok (.bl b) []) : evS txt.P cf [] (.asg (.var 7) (.lst (.cons (.call 4 (.cons (.var 4) .nil)) (.cons (.call 5 (.cons (.var 4) .nil)) .nil)))) (ev s0 d L s3 (.v x) s5 s6 s7 s8 s9 s10 s11 s12) = .ok (.nx, ev s0 d L s3 (.v x) s5 s6 (.v (.lst true [.bl a, .bl b])) s8 s9 s10 s11 s12) := by
  simp [R.bind, evSs, evS, evO, evOs, evI, asgT, asgTs, sSeq, sAsg, sIf, sRet, sEx, sAugSub, sAug, taken, tst, fVar, fGlo, fBin, fCmp, fCmp2, fNeg, fNot, fAnd, fOr, fIfe, fDsp, fIdx, fSli, fRev, fBi, fCall, fIsi, fMet, gVar, gSub, gTup, gCons, gNil, fsCons, ofD, look, Sl.get, Opd.rd, Opd.rdk, Opd.take, rds, rdks, takes, box, D.frz, D.frzs, D.kids, cmpD, inD, getD?, sliD, sliC, optI, truth, biD, Bi.copies, runF, outsOf, enter, augD, setD, atP, Exps.plain, bAddI, bMulR, bMulL, bMod, bDiv, bPow, bPow39, bAddL, bAddS, eqD_int, frzs_ints, fzs_ints, L2.atI, L2.ixN, D.fzs, D.fz, big, line, callF, prep, back, m0, m1, m2, m3, m4, m5, m6, m7, m8, m9, m10, m11, m12, m13, m14, m15, m16, m17, m18, m19, m20, m21, bSubI, bAddT, seqLT, fIfe, eqD_str, neD_str, neD_int, ev, h1, h2, hx]
theorem lw4b (x : D) (a b : Bool) (hx : x.frz = x) (h1 : cf 15 [x] = .ok (.bl b) []) (h2 : cf 13 [x, endF] = .ok (.bl a) []) (h3 : cf 8 [bls [a, b], bls [a, b]] = .ok (.bl true) []) : evS txt.P cf [] (.ifS (.not (.call 8 (.cons (.var 7) (.cons (.lst (.cons (.call 13 (.cons (.var 4) (.cons (.cst (.clo "_law_is_word" [])) .nil))) (.cons (.call 15 (.cons (.var 4) .nil)) .nil))) .nil)))) (.cons (.ret (.cst (.bl false))) .nil) .nil) (ev s0 d L s3 (.v x) s5 s6 (.v (.lst true [.bl a, .bl b])) s8 s9 s10 s11 s12) = .ok (.nx, ev s0 d L s3 (.v x) s5 s6 (.v (.lst false [.bl a, .bl b])) s8 s9 s10 s11 s12) := by
  simp only [bls, List.map_cons, List.map_nil] at h3
  simp only [endF] at h2
  simp [R.bind, evSs, evS, evO, evOs, evI, asgT, asgTs, sSeq, sAsg, sIf, sRet, sEx, sAugSub, sAug, taken, tst, fVar, fGlo, fBin, fCmp, fCmp2, fNeg, fNot, fAnd, fOr, fIfe, fDsp, fIdx, fSli, fRev, fBi, fCall, fIsi, fMet, gVar, gSub, gTup, gCons, gNil, fsCons, ofD, look, Sl.get, Opd.rd, Opd.rdk, Opd.take, rds, rdks, takes, box, D.frz, D.frzs, D.kids, cmpD, inD, getD?, sliD, sliC, optI, truth, biD, Bi.copies, runF, outsOf, enter, augD, setD, atP, Exps.plain, bAddI, bMulR, bMulL, bMod, bDiv, bPow, bPow39, bAddL, bAddS, eqD_int, frzs_ints, fzs_ints, L2.atI, L2.ixN, D.fzs, D.fz, big, line, callF, prep, back, m0, m1, m2, m3, m4, m5, m6, m7, m8, m9, m10, m11, m12, m13, m14, m15, m16, m17, m18, m19, m20, m21, bSubI, bAddT, seqLT, fIfe, eqD_str, neD_str, neD_int, ev, h1, h2, h3, hx]
end
theorem each4 (s0 : Sl) (d : D) (L : List D) (s3 s5 s6 s8 s9 s10 s11 s12 : Sl) : ∀ (M : List D) (s4 s7 : Sl), (∀ x ∈ M, Th 10 29 62938 x) → ∃ t4 t7, forL (asgT txt.P (callN txt.P txt.fs 59) [] (.var 4)) (evSs txt.P (callN txt.P txt.fs 59) [] (.cons (.asg (.var 7) (.lst (.cons (.call 4 (.cons (.var 4) .nil)) (.cons (.call 5 (.cons (.var 4) .nil)) .nil)))) (.cons (.ifS (.not (.call 8 (.cons (.var 7) (.cons (.lst (.cons (.call 13 (.cons (.var 4) (.cons (.cst (.clo "_law_is_word" [])) .nil))) (.cons (.call 15 (.cons (.var 4) .nil)) .nil))) .nil)))) (.cons (.ret (.cst (.bl false))) .nil) .nil) .nil))) M (ev s0 d L s3 s4 s5 s6 s7 s8 s9 s10 s11 s12) = .ok (.nx, ev s0 d L s3 t4 s5 s6 t7 s8 s9 s10 s11 s12) := by
  intro M
  induction M with
  | nil => intro s4 s7 _; exact ⟨s4, s7, rfl⟩
  | cons x M ih =>
    intro s4 s7 h
    obtain ⟨x1, x2, x3⟩ := h x (List.mem_cons_self ..)
    have ok := ok_up (show 10 ≤ 100 by omega) x x1
    have fx := ok_frz ok
    obtain ⟨t4, t7, ht⟩ := ih (.v x) (.v (.lst false [.bl (codeB wordB 54 x), .bl (factB x)])) fun y hy => h y (List.mem_cons_of_mem _ hy)
    refine ⟨t4, t7, ?_⟩
    rw [forL]
    have e1 : asgT txt.P (callN txt.P txt.fs 59) [] (.var 4) x (ev s0 d L s3 s4 s5 s6 s7 s8 s9 s10 s11 s12) = .ok (ev s0 d L s3 (.v x) s5 s6 s7 s8 s9 s10 s11 s12) := by simp [R.bind, evSs, evS, evO, evOs, evI, asgT, asgTs, sSeq, sAsg, sIf, sRet, sEx, sAugSub, sAug, taken, tst, fVar, fGlo, fBin, fCmp, fCmp2, fNeg, fNot, fAnd, fOr, fIfe, fDsp, fIdx, fSli, fRev, fBi, fCall, fIsi, fMet, gVar, gSub, gTup, gCons, gNil, fsCons, ofD, look, Sl.get, Opd.rd, Opd.rdk, Opd.take, rds, rdks, takes, box, D.frz, D.frzs, D.kids, cmpD, inD, getD?, sliD, sliC, optI, truth, biD, Bi.copies, runF, outsOf, enter, augD, setD, atP, Exps.plain, bAddI, bMulR, bMulL, bMod, bDiv, bPow, bPow39, bAddL, bAddS, eqD_int, frzs_ints, fzs_ints, L2.atI, L2.ixN, D.fzs, D.fz, big, line, callF, prep, back, m0, m1, m2, m3, m4, m5, m6, m7, m8, m9, m10, m11, m12, m13, m14, m15, m16, m17, m18, m19, m20, m21, bSubI, bAddT, seqLT, fIfe, eqD_str, neD_str, neD_int, ev]
    rw [e1]
    simp only [R.bind]
    rw [bN (lw4a _ s0 d L s3 s5 s6 s7 s8 s9 s10 s11 s12 x (codeB wordB 54 x) (factB x) fx (guard_is 54 x ok (by omega) (by omega)) (fact1 55 x ok (by omega) (by omega))), bN (lw4b _ s0 d L s3 s5 s6 s8 s9 s10 s11 s12 x (codeB wordB 54 x) (factB x) fx (fact2 55 x ok (by omega) (by omega)) (end_ok 54 x ok (by omega) (by omega)) (alike2 58 _ _))]
    exact ht

/-! ### the great ones -/
def dA : D := .tup [.str "a"]
def dB : D := .tup [.str "b"]
def deepG : Nat → D | 0 => .tup [.str "yes"] | k + 1 => .tup [.str "if", dA, dB, .tup [.str "no"], deepG k]
def badG : Nat → D | 0 => .tup [.str "yes", .str "no"] | k + 1 => .tup [.str "if", dA, dB, .tup [.str "no"], badG k]
def fitB (x : D) : Bool := okD 8 x && decide (x.depth ≤ 40) && decide (wt x ≤ 5000)
theorem great_fit : fitB (deepG 26) && fitB (badG 26) = true := by decide +kernel
theorem great_code : (codeB wordB 54 (deepG 26) && !codeB wordB 54 (badG 26)) = true := by decide +kernel
theorem fz_great (k : Nat) : (deepG k).fz = true ∧ (badG k).fz = true := by
  induction k with
  | zero => decide
  | succ k ih =>
    obtain ⟨h1, h2⟩ := ih
    simp [R.bind, evSs, evS, evO, evOs, evI, asgT, asgTs, sSeq, sAsg, sIf, sRet, sEx, sAugSub, sAug, taken, tst, fVar, fGlo, fBin, fCmp, fCmp2, fNeg, fNot, fAnd, fOr, fIfe, fDsp, fIdx, fSli, fRev, fBi, fCall, fIsi, fMet, gVar, gSub, gTup, gCons, gNil, fsCons, ofD, look, Sl.get, Opd.rd, Opd.rdk, Opd.take, rds, rdks, takes, box, D.frz, D.frzs, D.kids, cmpD, inD, getD?, sliD, sliC, optI, truth, biD, Bi.copies, runF, outsOf, enter, augD, setD, atP, Exps.plain, bAddI, bMulR, bMulL, bMod, bDiv, bPow, bPow39, bAddL, bAddS, eqD_int, frzs_ints, fzs_ints, L2.atI, L2.ixN, D.fzs, D.fz, big, line, callF, prep, back, m0, m1, m2, m3, m4, m5, m6, m7, m8, m9, m10, m11, m12, m13, m14, m15, m16, m17, m18, m19, m20, m21, bSubI, bAddT, seqLT, fIfe, eqD_str, neD_str, neD_int, deepG, badG, dA, dB, h1, h2]
section
variable (cf : Nat → List D → C) (s0 : Sl) (d : D) (L : List D) (s3 s4 s5 s6 s7 s8 s9 s10 s11 s12 : Sl)
theorem lw5 : evS txt.P cf [] (.asg (.tup (.cons (.var 8) (.cons (.var 9) (.cons (.var 10) (.cons (.var 11) .nil))))) (.tup (.cons (.tup (.cons (.cst (.str "a")) .nil)) (.cons (.tup (.cons (.cst (.str "b")) .nil)) (.cons (.tup (.cons (.cst (.str "yes")) .nil)) (.cons (.tup (.cons (.cst (.str "yes")) (.cons (.cst (.str "no")) .nil))) .nil)))))) (ev s0 d L s3 s4 s5 s6 s7 s8 s9 s10 s11 s12) = .ok (.nx, ev s0 d L s3 s4 s5 s6 s7 (.v dA) (.v dB) (.v (deepG 0)) (.v (badG 0)) s12) := by
  simp [R.bind, evSs, evS, evO, evOs, evI, asgT, asgTs, sSeq, sAsg, sIf, sRet, sEx, sAugSub, sAug, taken, tst, fVar, fGlo, fBin, fCmp, fCmp2, fNeg, fNot, fAnd, fOr, fIfe, fDsp, fIdx, fSli, fRev, fBi, fCall, fIsi, fMet, gVar, gSub, gTup, gCons, gNil, fsCons, ofD, look, Sl.get, Opd.rd, Opd.rdk, Opd.take, rds, rdks, takes, box, D.frz, D.frzs, D.kids, cmpD, inD, getD?, sliD, sliC, optI, truth, biD, Bi.copies, runF, outsOf, enter, augD, setD, atP, Exps.plain, bAddI, bMulR, bMulL, bMod, bDiv, bPow, bPow39, bAddL, bAddS, eqD_int, frzs_ints, fzs_ints, L2.atI, L2.ixN, D.fzs, D.fz, big, line, callF, prep, back, m0, m1, m2, m3, m4, m5, m6, m7, m8, m9, m10, m11, m12, m13, m14, m15, m16, m17, m18, m19, m20, m21, bSubI, bAddT, seqLT, fIfe, eqD_str, neD_str, neD_int, ev, dA, dB, deepG, badG]
theorem lw6 (k : Nat) : evSs txt.P cf [] (.cons (.asg (.tup (.cons (.var 10) (.cons (.var 11) .nil))) (.tup (.cons (.tup (.cons (.cst (.str "if")) (.cons (.var 8) (.cons (.var 9) (.cons (.tup (.cons (.cst (.str "no")) .nil)) (.cons (.var 10) .nil)))))) (.cons (.tup (.cons (.cst (.str "if")) (.cons (.var 8) (.cons (.var 9) (.cons (.tup (.cons (.cst (.str "no")) .nil)) (.cons (.var 11) .nil)))))) .nil)))) .nil) (ev s0 d L s3 s4 s5 s6 s7 (.v dA) (.v dB) (.v (deepG k)) (.v (badG k)) s12) = .ok (.nx, ev s0 d L s3 s4 s5 s6 s7 (.v dA) (.v dB) (.v (deepG (k + 1))) (.v (badG (k + 1))) s12) := by
  obtain ⟨h1, h2⟩ := fz_great k
  have e1 := frz_of_fz _ h1
  have e2 := frz_of_fz _ h2
  simp [R.bind, evSs, evS, evO, evOs, evI, asgT, asgTs, sSeq, sAsg, sIf, sRet, sEx, sAugSub, sAug, taken, tst, fVar, fGlo, fBin, fCmp, fCmp2, fNeg, fNot, fAnd, fOr, fIfe, fDsp, fIdx, fSli, fRev, fBi, fCall, fIsi, fMet, gVar, gSub, gTup, gCons, gNil, fsCons, ofD, look, Sl.get, Opd.rd, Opd.rdk, Opd.take, rds, rdks, takes, box, D.frz, D.frzs, D.kids, cmpD, inD, getD?, sliD, sliC, optI, truth, biD, Bi.copies, runF, outsOf, enter, augD, setD, atP, Exps.plain, bAddI, bMulR, bMulL, bMod, bDiv, bPow, bPow39, bAddL, bAddS, eqD_int, frzs_ints, fzs_ints, L2.atI, L2.ixN, D.fzs, D.fz, big, line, callF, prep, back, m0, m1, m2, m3, m4, m5, m6, m7, m8, m9, m10, m11, m12, m13, m14, m15, m16, m17, m18, m19, m20, m21, bSubI, bAddT, seqLT, fIfe, eqD_str, neD_str, neD_int, ev, deepG, badG, e1, e2, dA, dB]
end
theorem great_loop (cf : Nat → List D → C) (s0 : Sl) (d : D) (L : List D) (s3 s4 s5 s6 s7 : Sl) : ∀ (is : List D) (k : Nat) (s12 : Sl), ∃ t12, forL (asgT txt.P cf [] (.var 12)) (evSs txt.P cf [] (.cons (.asg (.tup (.cons (.var 10) (.cons (.var 11) .nil))) (.tup (.cons (.tup (.cons (.cst (.str "if")) (.cons (.var 8) (.cons (.var 9) (.cons (.tup (.cons (.cst (.str "no")) .nil)) (.cons (.var 10) .nil)))))) (.cons (.tup (.cons (.cst (.str "if")) (.cons (.var 8) (.cons (.var 9) (.cons (.tup (.cons (.cst (.str "no")) .nil)) (.cons (.var 11) .nil)))))) .nil)))) .nil)) is (ev s0 d L s3 s4 s5 s6 s7 (.v dA) (.v dB) (.v (deepG k)) (.v (badG k)) s12) = .ok (.nx, ev s0 d L s3 s4 s5 s6 s7 (.v dA) (.v dB) (.v (deepG (k + is.length))) (.v (badG (k + is.length))) t12) := by
  intro is
  induction is with
  | nil => intro k s12; exact ⟨s12, rfl⟩
  | cons i is ih =>
    intro k s12
    obtain ⟨t12, h⟩ := ih (k + 1) (.v i)
    refine ⟨t12, ?_⟩
    rw [forL]
    have e1 : asgT txt.P cf [] (.var 12) i (ev s0 d L s3 s4 s5 s6 s7 (.v dA) (.v dB) (.v (deepG k)) (.v (badG k)) s12) = .ok (ev s0 d L s3 s4 s5 s6 s7 (.v dA) (.v dB) (.v (deepG k)) (.v (badG k)) (.v i)) := by simp [R.bind, evSs, evS, evO, evOs, evI, asgT, asgTs, sSeq, sAsg, sIf, sRet, sEx, sAugSub, sAug, taken, tst, fVar, fGlo, fBin, fCmp, fCmp2, fNeg, fNot, fAnd, fOr, fIfe, fDsp, fIdx, fSli, fRev, fBi, fCall, fIsi, fMet, gVar, gSub, gTup, gCons, gNil, fsCons, ofD, look, Sl.get, Opd.rd, Opd.rdk, Opd.take, rds, rdks, takes, box, D.frz, D.frzs, D.kids, cmpD, inD, getD?, sliD, sliC, optI, truth, biD, Bi.copies, runF, outsOf, enter, augD, setD, atP, Exps.plain, bAddI, bMulR, bMulL, bMod, bDiv, bPow, bPow39, bAddL, bAddS, eqD_int, frzs_ints, fzs_ints, L2.atI, L2.ixN, D.fzs, D.fz, big, line, callF, prep, back, m0, m1, m2, m3, m4, m5, m6, m7, m8, m9, m10, m11, m12, m13, m14, m15, m16, m17, m18, m19, m20, m21, bSubI, bAddT, seqLT, fIfe, eqD_str, neD_str, neD_int, ev]
    rw [e1]
    simp only [R.bind]
    rw [lw6 cf s0 d L s3 s4 s5 s6 s7 (.v i) k]
    rw [List.length_cons, show k + (is.length + 1) = k + 1 + is.length by omega]
    exact h
theorem lw7 (cf : Nat → List D → C) (s0 : Sl) (d x y : D) (L : List D) (s3 s4 s5 s6 s7 s8 s9 s12 : Sl) (fx : x.frz = x) (fy : y.frz = y) (h1 : cf 4 [x] = .ok (.bl true) []) (h2 : cf 4 [y] = .ok (.bl false) []) (h3 : cf 8 [bls [true, false], bls [true, false]] = .ok (.bl true) []) :
  evS txt.P cf [] (.ifS (.not (.call 8 (.cons (.lst (.cons (.call 4 (.cons (.var 10) .nil)) (.cons (.call 4 (.cons (.var 11) .nil)) .nil))) (.cons (.lst (.cons (.cst (.bl true)) (.cons (.cst (.bl false)) .nil))) .nil)))) (.cons (.ret (.cst (.bl false))) .nil) .nil) (ev s0 d L s3 s4 s5 s6 s7 s8 s9 (.v x) (.v y) s12) = .ok (.nx, ev s0 d L s3 s4 s5 s6 s7 s8 s9 (.v x) (.v y) s12) := by
  simp only [bls, List.map_cons, List.map_nil] at h3
  simp [R.bind, evSs, evS, evO, evOs, evI, asgT, asgTs, sSeq, sAsg, sIf, sRet, sEx, sAugSub, sAug, taken, tst, fVar, fGlo, fBin, fCmp, fCmp2, fNeg, fNot, fAnd, fOr, fIfe, fDsp, fIdx, fSli, fRev, fBi, fCall, fIsi, fMet, gVar, gSub, gTup, gCons, gNil, fsCons, ofD, look, Sl.get, Opd.rd, Opd.rdk, Opd.take, rds, rdks, takes, box, D.frz, D.frzs, D.kids, cmpD, inD, getD?, sliD, sliC, optI, truth, biD, Bi.copies, runF, outsOf, enter, augD, setD, atP, Exps.plain, bAddI, bMulR, bMulL, bMod, bDiv, bPow, bPow39, bAddL, bAddS, eqD_int, frzs_ints, fzs_ints, L2.atI, L2.ixN, D.fzs, D.fz, big, line, callF, prep, back, m0, m1, m2, m3, m4, m5, m6, m7, m8, m9, m10, m11, m12, m13, m14, m15, m16, m17, m18, m19, m20, m21, bSubI, bAddT, seqLT, fIfe, eqD_str, neD_str, neD_int, ev, fx, fy, h1, h2, h3]
theorem lw8 (cf : Nat → List D → C) (s0 : Sl) (d : D) (L : List D) (k : Str) (s3 s4 s5 s7 s8 s9 s10 s11 s12 : Sl) (h : biD .repr [.lst true L] = some (.str k)) :
  evS txt.P cf [] (.ret (.cmp .eq (.bi .repr (.cons (.var 2) .nil)) (.var 6))) (ev s0 d L s3 s4 s5 (.v (.str k)) s7 s8 s9 s10 s11 s12) = .ok (.rt (.bl true), ev s0 d L s3 s4 s5 (.v (.str k)) s7 s8 s9 s10 s11 s12) := by
  simp [R.bind, evSs, evS, evO, evOs, evI, asgT, asgTs, sSeq, sAsg, sIf, sRet, sEx, sAugSub, sAug, taken, tst, fVar, fGlo, fBin, fCmp, fCmp2, fNeg, fNot, fAnd, fOr, fIfe, fDsp, fIdx, fSli, fRev, fBi, fCall, fIsi, fMet, gVar, gSub, gTup, gCons, gNil, fsCons, ofD, look, Sl.get, Opd.rd, Opd.rdk, Opd.take, rds, rdks, takes, box, D.frz, D.frzs, D.kids, cmpD, inD, getD?, sliD, sliC, optI, truth, Bi.copies, runF, outsOf, enter, augD, setD, atP, Exps.plain, bAddI, bMulR, bMulL, bMod, bDiv, bPow, bPow39, bAddL, bAddS, eqD_int, frzs_ints, fzs_ints, L2.atI, L2.ixN, D.fzs, D.fz, big, line, callF, prep, back, m0, m1, m2, m3, m4, m5, m6, m7, m8, m9, m10, m11, m12, m13, m14, m15, m16, m17, m18, m19, m20, m21, bSubI, bAddT, seqLT, fIfe, eqD_str, neD_str, neD_int, ev, h]
end Law

set_option Elab.async false
set_option linter.all false
set_option maxRecDepth 100000
set_option maxHeartbeats 400000
namespace Law
open Z PySem

theorem repr_own (L : List D) : biD .repr [.lst true L] = biD .repr [.lst false L] := rfl
/-! ### the bag -/
theorem absI (i : Int) : biD .abs [.int i] = some (.int (if i < 0 then -i else i)) := rfl
theorem lc2 (cf : Nat → List D → C) (x : D) : ∀ (cs acc : List Int), acc.length + cs.length ≤ 1000 →
    forC (gVar [] 1) (leaf1 (evO txt.P cf [] (.bi .abs (.cons (.var 1) .nil)))) (evIf txt.P cf [] .nil) [1] (cs.map .int) (acc.map .int) [.v x, .no] = .ok ((acc ++ cs.map fun i => if i < 0 then -i else i).map .int, [.v x, .no]) := by
  intro cs
  induction cs with
  | nil => intro acc h; simp [R.bind, evSs, evS, evO, evOs, evI, asgT, asgTs, sSeq, sAsg, sIf, sRet, sEx, sAugSub, sAug, taken, tst, fVar, fGlo, fBin, fCmp, fCmp2, fNeg, fNot, fAnd, fOr, fIfe, fDsp, fIdx, fSli, fRev, fBi, fCall, fIsi, fMet, gVar, gSub, gTup, gCons, gNil, fsCons, ofD, look, Sl.get, Opd.rd, Opd.rdk, Opd.take, rds, rdks, takes, box, D.frz, D.frzs, D.kids, cmpD, inD, getD?, sliD, sliC, optI, truth, biD, Bi.copies, runF, outsOf, enter, augD, setD, atP, Exps.plain, bAddI, bMulR, bMulL, bMod, bDiv, bPow, bPow39, bAddL, bAddS, eqD_int, frzs_ints, fzs_ints, L2.atI, L2.ixN, D.fzs, D.fz, big, line, callF, prep, back, m0, m1, m2, m3, m4, m5, m6, m7, m8, m9, m10, m11, m12, m13, m14, m15, m16, m17, m18, m19, m20, m21, bSubI, bAddT, seqLT, fIfe, eqD_str, neD_str, neD_int, forC]
  | cons c cs ih =>
    intro acc h
    simp only [List.length_cons] at h
    have ih' := ih (acc ++ [if c < 0 then -c else c]) (by simp only [List.length_append, List.length_cons, List.length_nil]; omega)
    have h5 : acc.length < 1048576 := by omega
    simp [R.bind, evSs, evS, evO, evOs, evI, asgT, asgTs, sSeq, sAsg, sIf, sRet, sEx, sAugSub, sAug, taken, tst, fVar, fGlo, fBin, fCmp, fCmp2, fNeg, fNot, fAnd, fOr, fIfe, fDsp, fIdx, fSli, fRev, fBi, fCall, fIsi, fMet, gVar, gSub, gTup, gCons, gNil, fsCons, ofD, look, Sl.get, Opd.rd, Opd.rdk, Opd.take, rds, rdks, takes, box, D.frz, D.frzs, D.kids, cmpD, inD, getD?, sliD, sliC, optI, truth, biD, Bi.copies, runF, outsOf, enter, augD, setD, atP, Exps.plain, bAddI, bMulR, bMulL, bMod, bDiv, bPow, bPow39, bAddL, bAddS, eqD_int, frzs_ints, fzs_ints, L2.atI, L2.ixN, D.fzs, D.fz, big, line, callF, prep, back, m0, m1, m2, m3, m4, m5, m6, m7, m8, m9, m10, m11, m12, m13, m14, m15, m16, m17, m18, m19, m20, m21, bSubI, bAddT, seqLT, fIfe, eqD_str, neD_str, neD_int, forC, evIf, Z.wipe, leaf1, h5] at ih' ⊢
    exact ih'
theorem bag2 (cf : Nat → List D → C) (ns : List Int) (h : ns.length ≤ 63) : ∃ d, Bag d ∧ evS txt.P cf [] (.ret (.lst (.cons (.cst (.int 0)) (.cons (.cst (.int 1234567891)) (.cons (.cst (.int 0)) (.cons (.lc [1] (.bi .abs (.cons (.var 1) .nil)) (.cons (.var 1) (.ex (.sli (.var 0) (.cst .non) (.cst (.int 63)))) .nil .nil)) .nil)))))) [.v (.lst false (ns.map .int)), .no] = .ok (.rt d, [.v (.lst false (ns.map .int)), .no]) := by
  obtain ⟨ys, h1, h3⟩ : ∃ ys : List Int, cutD (ns.map D.int) none (some 63) = ys.map .int ∧ ys.length ≤ 63 := by
    refine ⟨(ns.drop (HT.sIx ns.length 0 none)).take (HT.sIx ns.length ns.length (some 63) - HT.sIx ns.length 0 none), ?_, ?_⟩
    · simp [R.bind, evSs, evS, evO, evOs, evI, asgT, asgTs, sSeq, sAsg, sIf, sRet, sEx, sAugSub, sAug, taken, tst, fVar, fGlo, fBin, fCmp, fCmp2, fNeg, fNot, fAnd, fOr, fIfe, fDsp, fIdx, fSli, fRev, fBi, fCall, fIsi, fMet, gVar, gSub, gTup, gCons, gNil, fsCons, ofD, look, Sl.get, Opd.rd, Opd.rdk, Opd.take, rds, rdks, takes, box, D.frz, D.frzs, D.kids, cmpD, inD, getD?, sliD, sliC, optI, truth, biD, Bi.copies, runF, outsOf, enter, augD, setD, atP, Exps.plain, bAddI, bMulR, bMulL, bMod, bDiv, bPow, bPow39, bAddL, bAddS, eqD_int, frzs_ints, fzs_ints, L2.atI, L2.ixN, D.fzs, D.fz, big, line, callF, prep, back, m0, m1, m2, m3, m4, m5, m6, m7, m8, m9, m10, m11, m12, m13, m14, m15, m16, m17, m18, m19, m20, m21, bSubI, bAddT, seqLT, fIfe, eqD_str, neD_str, neD_int, cutD, List.map_drop, List.map_take]
    · simp only [List.length_take, List.length_drop]; omega
  have l := lc2 cf (.lst false (ns.map .int)) ys [] (by simp only [List.length_nil]; omega)
  refine ⟨bagD true 0 1234567891 0 (ys.map fun i => if i < 0 then -i else i), ⟨_, _, _, _, _, rfl, ?_, by rw [List.length_map]; exact h3, by omega, by omega⟩, ?_⟩
  · intro x hx
    obtain ⟨y, _, rfl⟩ := List.mem_map.1 hx
    split <;> omega
  simp only [List.nil_append, List.map_nil] at l
  simp only [evS, sRet, evO, evOs, fDsp, fsCons, fLc, evC, cCons, iEx, fixed, evI, fVar, evIf, asgT, fSli, Exps.plain, if_true]
  simp only [evO, evOs, evIf] at l
  simp [R.bind, evSs, evS, evO, evOs, evI, asgT, asgTs, sSeq, sAsg, sIf, sRet, sEx, sAugSub, sAug, taken, tst, fVar, fGlo, fBin, fCmp, fCmp2, fNeg, fNot, fAnd, fOr, fIfe, fDsp, fIdx, fSli, fRev, fBi, fCall, fIsi, fMet, gVar, gSub, gTup, gCons, gNil, fsCons, ofD, look, Sl.get, Opd.rd, Opd.rdk, Opd.take, rds, rdks, takes, box, D.frz, D.frzs, D.kids, cmpD, inD, getD?, sliD, sliC, optI, truth, biD, Bi.copies, runF, outsOf, enter, augD, setD, atP, Exps.plain, bAddI, bMulR, bMulL, bMod, bDiv, bPow, bPow39, bAddL, bAddS, eqD_int, frzs_ints, fzs_ints, L2.atI, L2.ixN, D.fzs, D.fz, big, line, callF, prep, back, m0, m1, m2, m3, m4, m5, m6, m7, m8, m9, m10, m11, m12, m13, m14, m15, m16, m17, m18, m19, m20, m21, bSubI, bAddT, seqLT, fIfe, eqD_str, neD_str, neD_int, Opd.fix, iterOf, ownOk, Z.wipe, l, Z.unwipe, evIf, h1, bagD, fLc, cCons, iEx, fixed]
theorem bag_ok (n : Nat) (ns : List Int) (h : ns.length ≤ 63) : ∃ d, Bag d ∧ callN txt.P txt.fs (n + 1) 6 [.lst false (ns.map .int)] = .ok d [] := by
  obtain ⟨d, h1, h2⟩ := bag2 (callN txt.P txt.fs n) ns h
  refine ⟨d, h1, ?_⟩
  have e : enter (txt.P.mode.getD 6 []) [.lst false (ns.map .int)] ++ List.replicate (f6.ns - f6.np) Sl.no = [.v (.lst false (ns.map .int)), .no] := rfl
  have io : f6.io = [] := rfl
  have bd : f6.body = .cons (.ret (.lst (.cons (.cst (.int 0)) (.cons (.cst (.int 1234567891)) (.cons (.cst (.int 0)) (.cons (.lc [1] (.bi .abs (.cons (.var 1) .nil)) (.cons (.var 1) (.ex (.sli (.var 0) (.cst .non) (.cst (.int 63)))) .nil .nil)) .nil)))))) .nil := rfl
  rw [call_eq txt.P txt.fs n 6 [.lst false (ns.map .int)] f6 rfl rfl, e, io, bd, bR h2]
  exact runE _ _ _ rfl
theorem law_ok (ns : List Int) (h : ns.length ≤ 63) : ∃ outs, Z.callN txt.P txt.fs 60 21 [.lst false (ns.map .int)] = .ok (.bl true) outs := by
  obtain ⟨d, b, c⟩ := bag_ok 58 ns h
  obtain ⟨M, d2, t3, t4, t5, b2, m1, m2, h2⟩ := turns (.v (.lst false (ns.map .int))) .no .no .no .no .no .no .no ((List.range 14).map fun (i : Nat) => .int (i : Int)) [] .no .no .no d b (by simp [R.bind, evSs, evS, evO, evOs, evI, asgT, asgTs, sSeq, sAsg, sIf, sRet, sEx, sAugSub, sAug, taken, tst, fVar, fGlo, fBin, fCmp, fCmp2, fNeg, fNot, fAnd, fOr, fIfe, fDsp, fIdx, fSli, fRev, fBi, fCall, fIsi, fMet, gVar, gSub, gTup, gCons, gNil, fsCons, ofD, look, Sl.get, Opd.rd, Opd.rdk, Opd.take, rds, rdks, takes, box, D.frz, D.frzs, D.kids, cmpD, inD, getD?, sliD, sliC, optI, truth, biD, Bi.copies, runF, outsOf, enter, augD, setD, atP, Exps.plain, bAddI, bMulR, bMulL, bMod, bDiv, bPow, bPow39, bAddL, bAddS, eqD_int, frzs_ints, fzs_ints, L2.atI, L2.ixN, D.fzs, D.fz, big, line, callF, prep, back, m0, m1, m2, m3, m4, m5, m6, m7, m8, m9, m10, m11, m12, m13, m14, m15, m16, m17, m18, m19, m20, m21, bSubI, bAddT, seqLT, fIfe, eqD_str, neD_str, neD_int]) (fun _ h => nomatch h)
  have ml : M.length = 14 := by simpa [R.bind, evSs, evS, evO, evOs, evI, asgT, asgTs, sSeq, sAsg, sIf, sRet, sEx, sAugSub, sAug, taken, tst, fVar, fGlo, fBin, fCmp, fCmp2, fNeg, fNot, fAnd, fOr, fIfe, fDsp, fIdx, fSli, fRev, fBi, fCall, fIsi, fMet, gVar, gSub, gTup, gCons, gNil, fsCons, ofD, look, Sl.get, Opd.rd, Opd.rdk, Opd.take, rds, rdks, takes, box, D.frz, D.frzs, D.kids, cmpD, inD, getD?, sliD, sliC, optI, truth, biD, Bi.copies, runF, outsOf, enter, augD, setD, atP, Exps.plain, bAddI, bMulR, bMulL, bMod, bDiv, bPow, bPow39, bAddL, bAddS, eqD_int, frzs_ints, fzs_ints, L2.atI, L2.ixN, D.fzs, D.fz, big, line, callF, prep, back, m0, m1, m2, m3, m4, m5, m6, m7, m8, m9, m10, m11, m12, m13, m14, m15, m16, m17, m18, m19, m20, m21, bSubI, bAddT, seqLT, fIfe, eqD_str, neD_str, neD_int] using m1
  have okM : okDs 10 M = true := okDs_iff.2 fun x hx => (m2 x hx).1
  have fM := ok_frzs okM
  have zM := ok_fzs _ okM
  have wM := wts_le (xs := M) (n := 62938) fun x hx => (m2 x hx).2.2
  have dM := depths_le (xs := M) (n := 29) fun x hx => (m2 x hx).2.1
  rw [ml] at wM
  obtain ⟨k, hk⟩ : ∃ k, biD .repr [.lst true M] = some (.str k) := by
    rw [repr_own]
    exact ok_repr (m := 10) (x := .lst false M) (by simpa [R.bind, evSs, evS, evO, evOs, evI, asgT, asgTs, sSeq, sAsg, sIf, sRet, sEx, sAugSub, sAug, taken, tst, fVar, fGlo, fBin, fCmp, fCmp2, fNeg, fNot, fAnd, fOr, fIfe, fDsp, fIdx, fSli, fRev, fBi, fCall, fIsi, fMet, gVar, gSub, gTup, gCons, gNil, fsCons, ofD, look, Sl.get, Opd.rd, Opd.rdk, Opd.take, rds, rdks, takes, box, D.frz, D.frzs, D.kids, cmpD, inD, getD?, sliD, sliC, optI, truth, biD, Bi.copies, runF, outsOf, enter, augD, setD, atP, Exps.plain, bAddI, bMulR, bMulL, bMod, bDiv, bPow, bPow39, bAddL, bAddS, eqD_int, frzs_ints, fzs_ints, L2.atI, L2.ixN, D.fzs, D.fz, big, line, callF, prep, back, m0, m1, m2, m3, m4, m5, m6, m7, m8, m9, m10, m11, m12, m13, m14, m15, m16, m17, m18, m19, m20, m21, bSubI, bAddT, seqLT, fIfe, eqD_str, neD_str, neD_int, okD] using okM) (by simp only [D.depth]; omega) (by simp only [wt]; omega)
  obtain ⟨M2, mm, hi⟩ := lw4 (callN txt.P txt.fs 59) (.v (.lst false (ns.map .int))) d2 M t3 t4 t5 (.v (.str k)) .no .no .no .no .no .no fM zM (by omega)
  obtain ⟨u4, u7, h4⟩ := each4 (.v (.lst false (ns.map .int))) d2 M t3 t5 (.v (.str k)) .no .no .no .no .no M2 t4 .no fun x hx => m2 x (mm x hx)
  obtain ⟨u12, h7⟩ := great_loop (callN txt.P txt.fs 59) (.v (.lst false (ns.map .int))) d2 M t3 u4 t5 (.v (.str k)) u7 ((List.range 26).map fun (i : Nat) => .int (i : Int)) 0 .no
  have gf := great_fit
  have gc := great_code
  simp only [Bool.and_eq_true, fitB, decide_eq_true_eq, Bool.not_eq_true'] at gf gc
  obtain ⟨⟨⟨a1, a2⟩, a3⟩, ⟨⟨e1, e2⟩, e3⟩⟩ := gf
  obtain ⟨q1, q2⟩ := gc
  have up : ∀ {x : D}, okD 8 x = true → okD 100 x = true := fun h => ok_up (by omega) _ h
  have c1 := guard_is 54 (deepG 26) (up a1) (by omega) (by omega)
  have c2 := guard_is 54 (badG 26) (up e1) (by omega) (by omega)
  rw [q1] at c1; rw [q2] at c2
  have e : enter (txt.P.mode.getD 21 []) [.lst false (ns.map .int)] ++ List.replicate (f21.ns - f21.np) Sl.no = [(.v (.lst false (ns.map .int))), .no, .no, .no, .no, .no, .no, .no, .no, .no, .no, .no, .no] := rfl
  have io : f21.io = [] := rfl
  have bd : f21.body = .cons (.asg (.var 1) (.call 6 (.cons (.var 0) .nil))) (.cons (.asg (.var 2) (.lst .nil)) (.cons (.forS (.var 3) (.range (.cons (.cst (.int 14)) .nil)) (.cons (.asg (.var 4) (.call 20 (.cons (.var 1) .nil))) (.cons (.forS (.var 5) (.range (.cons (.call 9 (.cons (.var 1) (.cons (.lst (.cons (.cst (.int 0)) (.cons (.cst (.int 0)) (.cons (.cst (.int 1)) (.cons (.cst (.int 1)) (.cons (.cst (.int 2)) .nil)))))) .nil))) .nil)) (.cons (.asg (.var 4) (.call 18 (.cons (.var 1) (.cons (.var 4) .nil)))) .nil)) (.cons (.ex (.mut .append 2 .nil (.cons (.var 4) .nil))) .nil)))) (.cons (.asg (.var 6) (.bi .repr (.cons (.var 2) .nil))) (.cons (.forS (.var 4) (.ex (.bin .add (.var 2) (.sli (.var 2) (.cst .non) (.cst (.int 3))))) (.cons (.asg (.var 7) (.lst (.cons (.call 4 (.cons (.var 4) .nil)) (.cons (.call 5 (.cons (.var 4) .nil)) .nil)))) (.cons (.ifS (.not (.call 8 (.cons (.var 7) (.cons (.lst (.cons (.call 13 (.cons (.var 4) (.cons (.cst (.clo "_law_is_word" [])) .nil))) (.cons (.call 15 (.cons (.var 4) .nil)) .nil))) .nil)))) (.cons (.ret (.cst (.bl false))) .nil) .nil) .nil))) (.cons (.asg (.tup (.cons (.var 8) (.cons (.var 9) (.cons (.var 10) (.cons (.var 11) .nil))))) (.tup (.cons (.tup (.cons (.cst (.str "a")) .nil)) (.cons (.tup (.cons (.cst (.str "b")) .nil)) (.cons (.tup (.cons (.cst (.str "yes")) .nil)) (.cons (.tup (.cons (.cst (.str "yes")) (.cons (.cst (.str "no")) .nil))) .nil)))))) (.cons (.forS (.var 12) (.range (.cons (.cst (.int 26)) .nil)) (.cons (.asg (.tup (.cons (.var 10) (.cons (.var 11) .nil))) (.tup (.cons (.tup (.cons (.cst (.str "if")) (.cons (.var 8) (.cons (.var 9) (.cons (.tup (.cons (.cst (.str "no")) .nil)) (.cons (.var 10) .nil)))))) (.cons (.tup (.cons (.cst (.str "if")) (.cons (.var 8) (.cons (.var 9) (.cons (.tup (.cons (.cst (.str "no")) .nil)) (.cons (.var 11) .nil)))))) .nil)))) .nil)) (.cons (.ifS (.not (.call 8 (.cons (.lst (.cons (.call 4 (.cons (.var 10) .nil)) (.cons (.call 4 (.cons (.var 11) .nil)) .nil))) (.cons (.lst (.cons (.cst (.bl true)) (.cons (.cst (.bl false)) .nil))) .nil)))) (.cons (.ret (.cst (.bl false))) .nil) .nil) (.cons (.ret (.cmp .eq (.bi .repr (.cons (.var 2) .nil)) (.var 6))) .nil)))))))) := rfl
  refine ⟨[], ?_⟩
  rw [call_eq txt.P txt.fs 59 21 [.lst false (ns.map .int)] f21 rfl rfl, e, io, bd]
  have x0 : evS txt.P (callN txt.P txt.fs 59) [] (.asg (.var 1) (.call 6 (.cons (.var 0) .nil))) [(.v (.lst false (ns.map .int))), .no, .no, .no, .no, .no, .no, .no, .no, .no, .no, .no, .no] = .ok (.nx, [(.v (.lst false (ns.map .int))), .v d, .no, .no, .no, .no, .no, .no, .no, .no, .no, .no, .no]) := by
    simp [R.bind, evSs, evS, evO, evOs, evI, asgT, asgTs, sSeq, sAsg, sIf, sRet, sEx, sAugSub, sAug, taken, tst, fVar, fGlo, fBin, fCmp, fCmp2, fNeg, fNot, fAnd, fOr, fIfe, fDsp, fIdx, fSli, fRev, fBi, fCall, fIsi, fMet, gVar, gSub, gTup, gCons, gNil, fsCons, ofD, look, Sl.get, Opd.rd, Opd.rdk, Opd.take, rds, rdks, takes, box, D.frz, D.frzs, D.kids, cmpD, inD, getD?, sliD, sliC, optI, truth, biD, Bi.copies, runF, outsOf, enter, augD, setD, atP, Exps.plain, bAddI, bMulR, bMulL, bMod, bDiv, bPow, bPow39, bAddL, bAddS, eqD_int, frzs_ints, fzs_ints, L2.atI, L2.ixN, D.fzs, D.fz, big, line, callF, prep, back, m0, m1, m2, m3, m4, m5, m6, m7, m8, m9, m10, m11, m12, m13, m14, m15, m16, m17, m18, m19, m20, m21, bSubI, bAddT, seqLT, fIfe, eqD_str, neD_str, neD_int, c]
  have x1 : evS txt.P (callN txt.P txt.fs 59) [] (.asg (.var 2) (.lst .nil)) [(.v (.lst false (ns.map .int))), .v d, .no, .no, .no, .no, .no, .no, .no, .no, .no, .no, .no] = .ok (.nx, ev (.v (.lst false (ns.map .int))) d [] .no .no .no .no .no .no .no .no .no .no) := by
    simp [R.bind, evSs, evS, evO, evOs, evI, asgT, asgTs, sSeq, sAsg, sIf, sRet, sEx, sAugSub, sAug, taken, tst, fVar, fGlo, fBin, fCmp, fCmp2, fNeg, fNot, fAnd, fOr, fIfe, fDsp, fIdx, fSli, fRev, fBi, fCall, fIsi, fMet, gVar, gSub, gTup, gCons, gNil, fsCons, ofD, look, Sl.get, Opd.rd, Opd.rdk, Opd.take, rds, rdks, takes, box, D.frz, D.frzs, D.kids, cmpD, inD, getD?, sliD, sliC, optI, truth, biD, Bi.copies, runF, outsOf, enter, augD, setD, atP, Exps.plain, bAddI, bMulR, bMulL, bMod, bDiv, bPow, bPow39, bAddL, bAddS, eqD_int, frzs_ints, fzs_ints, L2.atI, L2.ixN, D.fzs, D.fz, big, line, callF, prep, back, m0, m1, m2, m3, m4, m5, m6, m7, m8, m9, m10, m11, m12, m13, m14, m15, m16, m17, m18, m19, m20, m21, bSubI, bAddT, seqLT, fIfe, eqD_str, neD_str, neD_int, ev]
  have s2 : evS txt.P (callN txt.P txt.fs 59) [] (.forS (.var 3) (.range (.cons (.cst (.int 14)) .nil)) (.cons (.asg (.var 4) (.call 20 (.cons (.var 1) .nil))) (.cons (.forS (.var 5) (.range (.cons (.call 9 (.cons (.var 1) (.cons (.lst (.cons (.cst (.int 0)) (.cons (.cst (.int 0)) (.cons (.cst (.int 1)) (.cons (.cst (.int 1)) (.cons (.cst (.int 2)) .nil)))))) .nil))) .nil)) (.cons (.asg (.var 4) (.call 18 (.cons (.var 1) (.cons (.var 4) .nil)))) .nil)) (.cons (.ex (.mut .append 2 .nil (.cons (.var 4) .nil))) .nil)))) (ev (.v (.lst false (ns.map .int))) d [] .no .no .no .no .no .no .no .no .no .no) = .ok (.nx, ev (.v (.lst false (ns.map .int))) d2 M t3 t4 t5 .no .no .no .no .no .no .no) := by
    rw [evS, sFor]
    have e2 : evI txt.P (callN txt.P txt.fs 59) [] (.range (.cons (.cst (.int 14)) .nil)) (ev (.v (.lst false (ns.map .int))) d [] .no .no .no .no .no .no .no .no .no .no) = .ok ((List.range 14).map fun (i : Nat) => .int (i : Int), ev (.v (.lst false (ns.map .int))) d [] .no .no .no .no .no .no .no .no .no .no) := rfl
    rw [e2]
    simp only [R.bind]
    exact h2
  have s4 : evS txt.P (callN txt.P txt.fs 59) [] (.forS (.var 4) (.ex (.bin .add (.var 2) (.sli (.var 2) (.cst .non) (.cst (.int 3))))) (.cons (.asg (.var 7) (.lst (.cons (.call 4 (.cons (.var 4) .nil)) (.cons (.call 5 (.cons (.var 4) .nil)) .nil)))) (.cons (.ifS (.not (.call 8 (.cons (.var 7) (.cons (.lst (.cons (.call 13 (.cons (.var 4) (.cons (.cst (.clo "_law_is_word" [])) .nil))) (.cons (.call 15 (.cons (.var 4) .nil)) .nil))) .nil)))) (.cons (.ret (.cst (.bl false))) .nil) .nil) .nil))) (ev (.v (.lst false (ns.map .int))) d2 M t3 t4 t5 (.v (.str k)) .no .no .no .no .no .no) = .ok (.nx, ev (.v (.lst false (ns.map .int))) d2 M t3 u4 t5 (.v (.str k)) u7 .no .no .no .no .no) := by
    rw [evS, sFor, hi]
    simp only [R.bind]
    exact h4
  have s7 : evS txt.P (callN txt.P txt.fs 59) [] (.forS (.var 12) (.range (.cons (.cst (.int 26)) .nil)) (.cons (.asg (.tup (.cons (.var 10) (.cons (.var 11) .nil))) (.tup (.cons (.tup (.cons (.cst (.str "if")) (.cons (.var 8) (.cons (.var 9) (.cons (.tup (.cons (.cst (.str "no")) .nil)) (.cons (.var 10) .nil)))))) (.cons (.tup (.cons (.cst (.str "if")) (.cons (.var 8) (.cons (.var 9) (.cons (.tup (.cons (.cst (.str "no")) .nil)) (.cons (.var 11) .nil)))))) .nil)))) .nil)) (ev (.v (.lst false (ns.map .int))) d2 M t3 u4 t5 (.v (.str k)) u7 (.v dA) (.v dB) (.v (deepG 0)) (.v (badG 0)) .no) = .ok (.nx, ev (.v (.lst false (ns.map .int))) d2 M t3 u4 t5 (.v (.str k)) u7 (.v dA) (.v dB) (.v (deepG 26)) (.v (badG 26)) u12) := by
    rw [evS, sFor]
    have e2 : evI txt.P (callN txt.P txt.fs 59) [] (.range (.cons (.cst (.int 26)) .nil)) (ev (.v (.lst false (ns.map .int))) d2 M t3 u4 t5 (.v (.str k)) u7 (.v dA) (.v dB) (.v (deepG 0)) (.v (badG 0)) .no) = .ok ((List.range 26).map fun (i : Nat) => .int (i : Int), ev (.v (.lst false (ns.map .int))) d2 M t3 u4 t5 (.v (.str k)) u7 (.v dA) (.v dB) (.v (deepG 0)) (.v (badG 0)) .no) := rfl
    rw [e2]
    have l26 : ((List.range 26).map fun (i : Nat) => D.int (i : Int)).length = 26 := by simp [R.bind, evSs, evS, evO, evOs, evI, asgT, asgTs, sSeq, sAsg, sIf, sRet, sEx, sAugSub, sAug, taken, tst, fVar, fGlo, fBin, fCmp, fCmp2, fNeg, fNot, fAnd, fOr, fIfe, fDsp, fIdx, fSli, fRev, fBi, fCall, fIsi, fMet, gVar, gSub, gTup, gCons, gNil, fsCons, ofD, look, Sl.get, Opd.rd, Opd.rdk, Opd.take, rds, rdks, takes, box, D.frz, D.frzs, D.kids, cmpD, inD, getD?, sliD, sliC, optI, truth, biD, Bi.copies, runF, outsOf, enter, augD, setD, atP, Exps.plain, bAddI, bMulR, bMulL, bMod, bDiv, bPow, bPow39, bAddL, bAddS, eqD_int, frzs_ints, fzs_ints, L2.atI, L2.ixN, D.fzs, D.fz, big, line, callF, prep, back, m0, m1, m2, m3, m4, m5, m6, m7, m8, m9, m10, m11, m12, m13, m14, m15, m16, m17, m18, m19, m20, m21, bSubI, bAddT, seqLT, fIfe, eqD_str, neD_str, neD_int]
    rw [l26, Nat.zero_add] at h7
    simp only [R.bind]
    exact h7
  rw [bN x0, bN x1, bN s2, bN (lw3 _ _ d2 M t3 t4 t5 .no .no .no .no .no .no .no k hk), bN s4, bN (lw5 _ _ d2 M t3 u4 t5 _ u7 .no .no .no .no .no), bN s7, bN (lw7 _ _ d2 (deepG 26) (badG 26) M t3 u4 t5 _ u7 _ _ u12 (ok_frz a1) (ok_frz e1) c1 c2 (alike2 58 true false)), bR (lw8 _ _ d2 M k t3 u4 t5 _ _ _ _ _ u12 hk)]
  exact runE _ _ _ rfl
end Law

theorem PySem.Challenge.cw_answerskept_k13_guards_and_facts_holds : PySem.Challenge.rw_answerskept_k13_guards_and_facts.Holds :=
  law_holds_of Law.law_ok
